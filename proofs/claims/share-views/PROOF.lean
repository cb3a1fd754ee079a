import PyProof.Rows.All
import Wide.All
import OpenK.AllK
import Wide.FinOn
import HandS.ForMost
import HandS.Zip
import HandS.TupAny
import HandS.TupMul
import HandS.IsInst
import HandS.Style
import HandS.Walk
import KE.GoesNew
import KE.GoesMore
import KE.KDictKeyed
import KE.KDictSum
import KE.GoesDict
import KE.SortData
import HandS.Conv
import PySem.Challenge.RW_nomoretold_k32_whole_share_views
import HandS.Dict
set_option Elab.async false
set_option linter.all false
set_option maxRecDepth 100000
set_option maxHeartbeats 4000000
namespace NM
open PySem PySem.Spec PyProof.Rows L2

section
variable {prog : Program} {w : World} {A : Around} {E : Value → Shared → Prop} {s : Shared}

theorem part_m1 {u : Tok} {Q : Option Int → Shared → Prop} (h : Q (some (-1)) s) : wpAny (model prog w) A (Builtin.Slice.slicePartIndex (.int (-1) u)) Q E s := slicePart_int h
theorem back_places (n : Nat) : Builtin.Slice.slicePlaces ((n : Int) - 1) (-1) (-1) = n := by
  unfold Builtin.Slice.slicePlaces
  have h1 : ¬ ((-1 : Int) > 0) := by decide
  rw [if_neg h1]
  by_cases h : (n : Int) - 1 > -1
  · rw [if_pos h, show (-(-1 : Int)) = 1 by decide, Int.ediv_one]; omega
  · rw [if_neg h]; omega
theorem back_applied {sl : Addr} {n : Nat} {vk : Value} {Q : Int × Int × Nat → Shared → Prop} (hs : s.heap.IsSliceOf sl .none .none vk) (pk : IsPart vk (some (-1))) (h : Q ((n : Int) - 1, -1, n) s) :
    wpAny (model prog w) A (Builtin.Slice.sliceApplied (.ref sl) (pure (n : Int))) Q E s := by
  obtain ⟨os, hos, hcs, hds⟩ := id hs
  cases pk with
  | int i t =>
  unfold Builtin.Slice.sliceApplied Builtin.Slice.sliceFields
  refine wpAny_bind (wpAny_bind (wpAny_field hos hds (x := .none) rfl (wpAny_bind (wpAny_field hos hds (x := .none) rfl (wpAny_bind (wpAny_field hos hds (x := .int (-1) t) rfl (wpAny_pure ?_)))))))
  refine wpAny_bind (part_m1 ?_)
  show wpAny _ _ (if ((-1 : Int) == 0) = true then _ else _) _ _ s
  rw [if_neg (by decide)]
  refine wpAny_bind (slicePart_none (wpAny_bind (slicePart_none (wpAny_bind (wpAny_pure ?_)))))
  show wpAny _ _ (pure ((n : Int) - 1, (-1 : Int), Builtin.Slice.slicePlaces ((n : Int) - 1) (-1) (-1))) _ _ s
  rw [back_places n]
  exact wpAny_pure h
theorem filterMap_ext {α β : Type} {f g : α → Option β} : ∀ {l : List α}, (∀ x ∈ l, f x = g x) → l.filterMap f = l.filterMap g
  | [], _ => rfl
  | x :: l, h => by
    rw [List.filterMap_cons, List.filterMap_cons, h x (List.mem_cons_self ..), filterMap_ext fun y hy => h y (List.mem_cons_of_mem _ hy)]
theorem back_pick (xs : Array Value) : ((List.range xs.size).filterMap fun (k : Nat) => xs[((xs.size : Int) - 1 + (k : Int) * (-1)).toNat]?).toArray = xs.toList.reverse.toArray := by
  have e : (List.range xs.size).filterMap (fun (k : Nat) => xs[((xs.size : Int) - 1 + (k : Int) * (-1)).toNat]?) = ((List.range xs.size).map fun k => xs.size - 1 - k).filterMap (xs[·]?) := by
    rw [List.filterMap_map]
    refine filterMap_ext fun k hk => ?_
    have := List.mem_range.mp hk
    show xs[((xs.size : Int) - 1 + (k : Int) * (-1)).toNat]? = xs[xs.size - 1 - k]?
    rw [show ((xs.size : Int) - 1 + (k : Int) * (-1)).toNat = xs.size - 1 - k by omega]
  rw [e, PySem.W.krv_range, List.filterMap_reverse, PySem.W.krv_all]
theorem getItem_tuple_back {t sl : Addr} {items : Array Value} {vk : Value} {Q : Value → Shared → Prop} (ht : IsTup s.heap t items) (hs : s.heap.IsSliceOf sl .none .none vk) (pk : IsPart vk (some (-1)))
    (h : Q (.ref s.heap.objs.size) { s with heap := s.heap.push { cls := .type "tuple", data := .seq items.toList.reverse.toArray } })
    (hz : items.size ≤ sizeLine) : wpAny (model prog w) A (getItem (.ref t) (.ref sl)) Q E s := by
  have hsz : sizeOk (.seq items.toList.reverse.toArray) := by
    show items.toList.reverse.toArray.size ≤ sizeLine
    rw [List.size_toArray, List.length_reverse, Array.length_toList]; exact hz
  obtain ⟨os, hos, hcs, hds⟩ := id hs
  have hTs : s.TypeIs (.ref sl) "slice" := ⟨os, hos, hcs⟩
  unfold getItem
  try with_reducible refine wpAny_holding ?_
  first | refine wpAny_bind (wpAny_pure ?_) | skip
  refine wpAny_bind (wpAny_sequenceKey ht.typeIs (by decide) ?_)
  refine wpAny_bind (wpAny_callSpecial?_slot (name := Str.ofString "__getitem__") ht.typeIs slot_tuple_getitem (wpAny_call_entry slot_tuple_getitem ht.typeIs entry_tuple_getitem ?_ (args_tuple_getitem _ _)))
  show wpAny _ _ (Builtin.Tuple.tupleItemsOf (.ref t) >>= _) _ _ s
  refine wpAny_bind (tupleItemsOf_ ht ?_)
  refine wpAny_bind (wpAny_typeOf hTs ?_)
  rw [if_pos (by decide)]
  refine wpAny_bind (back_applied hs pk ?_)
  show wpAny _ _ (if ((items.size : Int) - 1 == 0 && (-1 : Int) == 1 && items.size == items.size) = true then _ else _) _ _ s
  rw [if_neg (by simp), back_pick items]
  first
    | exact wpAny_bind (m := Builtin.Tuple.tupleExact _) (wpAny_newObj_type (wpAny_pure ⟨_, rfl, wpAny_pure h⟩) hsz)
    | exact wpAny_bind (m := Builtin.Tuple.tupleExact _) (wpAny_newObj_type (wpAny_bind (wpAny_pure (wpAny_pure ⟨_, rfl, wpAny_pure h⟩))) hsz)
    | exact wpAny_bind (wpAny_bind (m := Builtin.Tuple.tupleExact _) (wpAny_newObj_type (wpAny_pure (wpAny_pure ⟨_, rfl, wpAny_pure h⟩)) hsz))
    | exact wpAny_bind (wpAny_bind (m := Builtin.Tuple.tupleExact _) (wpAny_newObj_type (wpAny_pure ⟨_, rfl, wpAny_pure h⟩) hsz))
end

/-- t[::-1], t a tuple -/
def tRevT (K : PySem.W.Frag) (te : TE) : TE := fun σ H Q => te σ H fun x H1 => ∃ a xs, x = .ref a ∧ SqT K H1 a xs ∧ ∀ p, H1 p = none → Q (.ref p) (upd H1 p (.tup xs.reverse))
theorem pe_revT {X : Cx} {e : Expr} {te : TE} {k : Nat} {p1 p2 p3 pos : Pos} (he : PE X e te) : PE X (.Subscript e (.Slice none none (some (.UnaryOp .USub (.Constant (.int 1) k p1) p2)) p3) pos) (tRevT X.K te) := by
  refine ⟨fun pins s σ H Q I h => ?_⟩
  refine Subscript_ (thn (he.run pins s σ H _ I h) fun v s1 ⟨x, H1, I1, r1, a, xs, ex, hx, q⟩ => ?_)
  subst ex
  cases r1
  have hst : PO X (some (.UnaryOp .USub (.Constant (.int 1) k p1) p2)) (tPart (tUn (rU fun i => .int (-i)) (tC (.int 1)))) := po_some (pe_un un_neg pe_int)
  refine wpAny_Slice (thn (po_none.run pins s1 σ H1 (fun o H2 => o = none ∧ H2 = H1) I1 ⟨rfl, rfl⟩) fun vl s2 ⟨l, H2, I2, pl, el, e2⟩ => ?_)
  subst el e2
  refine thn (po_none.run pins s2 σ H2 (fun o H3 => o = none ∧ H3 = H2) I2 ⟨rfl, rfl⟩) fun vu s3 ⟨u, H3, I3, pu, eu, e3⟩ => ?_
  subst eu e3
  refine thn (hst.run pins s3 σ H3 (fun o H4 => o = some (-1) ∧ H4 = H3) I3 ⟨1, rfl, -1, rfl, rfl, rfl⟩) fun vs s4 ⟨o, H4, I4, ps, eo, e4⟩ => ?_
  subst eo e4
  cases pl
  cases pu
  have I5 : Inv X pins σ H4 { s4 with heap := s4.heap.push { cls := .type "slice", data := .fields #[.none, .none, vs] } } := I4.kept (t' := s4.toks) fun b ob q => Heap.get?_push_of_some _ q
  obtain ⟨its, r, ht, hz⟩ := I5.tuple hx
  have hlen := r.length
  show wpAny (model X.prog X.w) X.A (subscriptTail e (.Slice none none (some (.UnaryOp .USub (.Constant (.int 1) k p1) p2)) p3) (.ref a) (.ref s4.heap.objs.size)) (EP X pins σ Q) X.xe { s4 with heap := s4.heap.push { cls := .type "slice", data := .fields #[.none, .none, vs] } }
  refine tail_any (ops := [.ref a, .ref s4.heap.objs.size]) ht.typeIs (PyProof.Rows.slot_tuple_getitem.lookup) ?_ (by with_unfolding_all rfl)
  refine getItem_tuple_back ht (Heap.IsSliceOf.new _ .none .none vs) ps ?_ (by rw [List.size_toArray]; omega)
  refine ⟨.ref _, _, I5.laid (t' := s4.toks) (o := .tup xs.reverse) (fun b ob q => Heap.get?_push_of_some _ q) (Nat.le_refl _) ?_, rfl, q _ (I5.hok.fresh (Nat.le_refl _))⟩
  exact ⟨by rw [List.length_reverse]; exact hz, _, r.reverse, IsTup.new _ _⟩
end NM
namespace NM
open PySem PySem.Spec PyProof.Rows L2

/-! ### lists and tuples alike: t says tuple -/
def SqB (t : Bool) (K : PySem.W.Frag) (H : Hp) (a : Addr) (xs : List V) : Prop := cond t (SqT K H a xs) (SqL K H a xs)
def IsB (t : Bool) (h : Heap) (a : Addr) (its : Array Value) : Prop := cond t (h.IsTuple a its) (h.IsList a its)
def ItB (t : Bool) (h : Heap) (it a : Addr) (i : Nat) : Prop := cond t (h.IsTupleIter it a i) (h.IsListIter it a i)
def itObj (t : Bool) (a : Addr) : Obj := { cls := .type (cond t "tuple_iterator" "list_iterator"), data := .fields #[.ref a, .int 0 0] }

theorem drawsB {prog : Program} {w : World} {A : Around} (t : Bool) (hh : A.handled = none) (it a : Addr) (hne : a ≠ it) (items : Array Value) :
    Draws prog w A it [it, a] items.size (fun i v => items[i]? = some v) (fun i h => ItB t h it a i ∧ IsB t h a items) := by
  cases t with
  | true => exact Draws.tuple hh it a hne items
  | false => exact Draws.list hh it a hne items
theorem beginsB (t : Bool) (a : Addr) (items : Array Value) : Begins (.ref a) (itObj t a) (fun h => IsB t h a items) := by
  cases t with
  | true => exact begins_tuple a items
  | false => exact begins_list a items
theorem itB_begun {t : Bool} {h : Heap} {it a : Addr} (e : h.get? it = some (itObj t a)) : ItB t h it a 0 := by
  cases t with
  | true => exact ⟨_, e, rfl, rfl⟩
  | false => exact ⟨_, e, rfl, rfl⟩
theorem ItB.at {t : Bool} {h h' : Heap} {it a : Addr} {i : Nat} (x : ItB t h it a i) (k : ∀ o, h.get? it = some o → h'.get? it = some o) : ItB t h' it a i := by
  cases t with
  | true => exact Heap.IsTupleIter.at (show h.IsTupleIter it a i from x) k
  | false => exact Heap.IsListIter.at (show h.IsListIter it a i from x) k
theorem ItB.obj {t : Bool} {h : Heap} {it a : Addr} {i : Nat} (x : ItB t h it a i) : ∃ o, h.get? it = some o ∧ ∀ v, o.data ≠ .cell v := by
  cases t with
  | true => obtain ⟨o, e, _, d⟩ := (show h.IsTupleIter it a i from x); exact ⟨o, e, fun v q => by rw [d] at q; cases q⟩
  | false => obtain ⟨o, e, _, d⟩ := (show h.IsListIter it a i from x); exact ⟨o, e, fun v q => by rw [d] at q; cases q⟩
theorem IsB.at {t : Bool} {h h' : Heap} {a : Addr} {its : Array Value} (x : IsB t h a its) (k : ∀ o, h.get? a = some o → h'.get? a = some o) : IsB t h' a its := by
  cases t with
  | true => exact Heap.IsTuple.at (show h.IsTuple a its from x) k
  | false => exact Heap.IsList.at (show h.IsList a its from x) k
theorem IsB.lt {t : Bool} {h : Heap} {a : Addr} {its : Array Value} (x : IsB t h a its) : a < h.objs.size := by
  cases t with
  | true => obtain ⟨o, e, _⟩ := (show h.IsTuple a its from x); exact Heap.lt_size e
  | false => obtain ⟨o, e, _⟩ := (show h.IsList a its from x); exact Heap.lt_size e

section
variable {X : Cx} {pins : List (Addr × Obj)} {s : Shared} {σ : L2.St} {H : Hp} {a b : Addr} {xs ys : List V}
theorem inv_seqB {t : Bool} (I : Inv X pins σ H s) (h : SqB t X.K H a xs) : ∃ its : List Value, Vals xs its ∧ IsB t s.heap a its.toArray := by
  cases t with
  | true => obtain ⟨its, r, p, _⟩ := I.tuple h; exact ⟨its, r, p⟩
  | false => obtain ⟨its, r, p, _⟩ := I.list h; exact ⟨its, r, p.isList⟩
theorem inv_injB {t : Bool} (I : Inv X pins σ H s) (h : SqB t X.K H a xs) (h' : SqB t X.K H a ys) : xs = ys := by
  cases t with
  | true => exact I.tuple_inj h h'
  | false => exact I.list_inj h h'
end

/-! ### zip over any mix of two -/
def ItzB (t u : Bool) (K : PySem.W.Frag) (a b : Addr) : It :=
  ⟨fun i H => ∃ (xs ys : List V) (x y : V), SqB t K H a xs ∧ SqB u K H b ys ∧ xs[i]? = some x ∧ ys[i]? = some y,
    fun i H v H' => ∃ T x y, v = .ref T ∧ H T = none ∧ H' = upd H T (.tup [x, y]) ∧ (∀ xs, SqB t K H a xs → xs[i]? = some x) ∧ ∀ ys, SqB u K H b ys → ys[i]? = some y,
    fun i H => ∃ xs ys : List V, SqB t K H a xs ∧ SqB u K H b ys ∧ i = min xs.length ys.length⟩
/-- the cells of a zip and its sources lie apart -/
structure ZB (z TI TO i1 i2 a b : Addr) : Prop where
  sep : ZipSep2 z TI TO i1 i2 [i1, a] [i2, b]
  n1 : a ≠ i1
  n2 : b ≠ i2
theorem turn_zipB {P : Program} {w : World} {K : PySem.W.Frag} {elts : List Expr} {kk : Nat} {tpos : Pos} {t u : Bool} {a b z TI TO i1 i2 : Addr} (D : ZB z TI TO i1 i2 a b) :
    Turn P w K (.Tuple elts kk tpos) (ItzB t u K a b) [z, TI, TO, i1, i2] z (fun i h => IsZip h z TI TO .none ∧ IsTupOf2 h TI (.ref i1) (.ref i2) ∧ (∃ x y, IsTupOf2 h TO x y) ∧ ItB t h i1 a i ∧ ItB u h i2 b i) where
  mem := by simp
  obj := fun i h st c hc => by
    obtain ⟨hz, hTI, ⟨x, y, hTO⟩, h1, h2⟩ := st
    have e' : c = z ∨ c = TI ∨ c = TO ∨ c = i1 ∨ c = i2 := by simpa using hc
    rcases e' with rfl | rfl | rfl | rfl | rfl
    · exact ⟨_, hz, fun v q => nomatch q⟩
    · exact ⟨_, hTI, fun v q => nomatch q⟩
    · exact ⟨_, hTO, fun v q => nomatch q⟩
    · exact h1.obj
    · exact h2.obj
  keep := fun i h h' st k => by
    obtain ⟨hz, hTI, ⟨x, y, hTO⟩, h1, h2⟩ := st
    exact ⟨k z (by simp) _ hz, k TI (by simp) _ hTI, ⟨x, y, k TO (by simp) _ hTO⟩, h1.at fun o q => k i1 (by simp) o q, h2.at fun o q => k i2 (by simp) o q⟩
  item := by
    intro X hP hw hK hc i pins s σ H E I hf st hg
    subst hP hw hK
    obtain ⟨xs, ys, x, y, hqx, hqy, hx, hy⟩ := hg
    obtain ⟨its, rv, p1⟩ := inv_seqB I hqx
    obtain ⟨its2, rv2, p2⟩ := inv_seqB I hqy
    obtain ⟨v1, hv1, ru⟩ := rv.get hx
    obtain ⟨v2, hv2, ru2⟩ := rv2.get hy
    have hh : X.A.in1.handled = none := I.ok.hd hc
    have G := GoesN.zip2 (prog := X.prog) (w := X.w) (A := X.A) (elts := elts) (x1 := kk) (pos := tpos) D.sep (drawsB t hh i1 a D.n1 its.toArray) (drawsB u hh i2 b D.n2 its2.toArray)
    have l1 : i < its.length := (List.getElem?_eq_some_iff.mp hv1).1
    have l2 : i < its2.length := (List.getElem?_eq_some_iff.mp hv2).1
    refine G.goes i s (fun q s2 => ∃ z0 H', Inv X pins σ H' s2 ∧ RelV z0 q ∧ (ItzB t u X.K a b).yld i H z0 H' ∧ (IsZip s2.heap z TI TO .none ∧ IsTupOf2 s2.heap TI (.ref i1) (.ref i2) ∧ (∃ x y, IsTupOf2 s2.heap TO x y) ∧ ItB t s2.heap i1 a (i + 1) ∧ ItB u s2.heap i2 b (i + 1)) ∧ ∀ c ∈ [z, TI, TO, i1, i2], H' c = none) E
      (by simp; omega) ⟨st.1, st.2.1, st.2.2.1, ⟨st.2.2.2.1, p1⟩, ⟨st.2.2.2.2, p2⟩⟩ fun q h' tk hY st' hk htk => ?_
    obtain ⟨T, w1, w2, rfl, hT, e1, e2, hTup⟩ := hY
    have e1' : v1 = w1 := by
      have e1 : its.toArray[i]? = some w1 := e1
      rw [List.getElem?_toArray, hv1] at e1
      exact Option.some.inj e1
    have e2' : v2 = w2 := by
      have e2 : its2.toArray[i]? = some w2 := e2
      rw [List.getElem?_toArray, hv2] at e2
      exact Option.some.inj e2
    subst e1' e2'
    have new : ObjOk X.prog X.w (upd H T (.tup [x, y])) h' T (.tup [x, y]) := ⟨by show 2 ≤ sizeLine; decide, [v1, v2], .cons ru (.cons ru2 .nil), hTup⟩
    have I1 : Inv X pins σ (upd H T (.tup [x, y])) { s with heap := h', toks := tk } :=
      I.turnedNew (ch := [z, TI, TO, i1, i2]) (fun c o hb q => hk c o (fun m => hb (by
        have m' : c = z ∨ c = TO ∨ c = i1 ∨ c = i2 := by simpa using m
        rcases m' with rfl | rfl | rfl | rfl <;> simp)) q) hf hT new
    refine ⟨.ref T, _, I1, rfl, ⟨T, x, y, rfl, I.hok.fresh hT, rfl, fun l hl => by rw [inv_injB I hl hqx]; exact hx, fun l hl => by rw [inv_injB I hl hqy]; exact hy⟩, ⟨st'.1, st'.2.1, st'.2.2.1, st'.2.2.2.1.1, st'.2.2.2.2.1⟩, fun c hcm => ?_⟩
    have hlt : c < s.heap.objs.size := by
      obtain ⟨hz, hTI, ⟨x0, y0, hTO⟩, h1, h2⟩ := st
      have e' : c = z ∨ c = TI ∨ c = TO ∨ c = i1 ∨ c = i2 := by simpa using hcm
      rcases e' with rfl | rfl | rfl | rfl | rfl
      · exact Heap.lt_size hz
      · exact Heap.lt_size hTI
      · exact Heap.lt_size hTO
      · obtain ⟨_, e, _⟩ := h1.obj; exact Heap.lt_size e
      · obtain ⟨_, e, _⟩ := h2.obj; exact Heap.lt_size e
    rw [upd_ne (Nat.ne_of_lt (Nat.lt_of_lt_of_le hlt hT))]
    exact (hf c hcm).1
  done := by
    intro X hP hw hK hc i pins s σ H E I hf st hg
    subst hP hw hK
    obtain ⟨xs, ys, hqx, hqy, hend⟩ := hg
    obtain ⟨its, rv, p1⟩ := inv_seqB I hqx
    obtain ⟨its2, rv2, p2⟩ := inv_seqB I hqy
    have hh : X.A.in1.handled = none := I.ok.hd hc
    have G := GoesN.zip2 (prog := X.prog) (w := X.w) (A := X.A) (elts := elts) (x1 := kk) (pos := tpos) D.sep (drawsB t hh i1 a D.n1 its.toArray) (drawsB u hh i2 b D.n2 its2.toArray)
    have l1 := rv.length
    have l2 := rv2.length
    have ei : i = min its.toArray.size its2.toArray.size := by simp; omega
    subst ei
    refine G.stops s (fun s1 => Inv X pins σ H s1) E ⟨st.1, st.2.1, st.2.2.1, ⟨st.2.2.2.1, p1⟩, ⟨st.2.2.2.2, p2⟩⟩ fun h' tk hk htk => ?_
    exact I.turnedL (ch := [z, TI, TO, i1, i2]) (fun c o hb q => hk c o (fun m => hb (by
        have m' : c = z ∨ c = TO ∨ c = i1 ∨ c = i2 := by simpa using m
        rcases m' with rfl | rfl | rfl | rfl <;> simp)) q) hf
  self := fun A i s Q E st h => wpAny_pyIter_zip st.1 h

theorem zb_new {N a b : Addr} (h1 : a < N) (h2 : b < N) : ZB (N + 4) (N + 2) (N + 3) N (N + 1) a b where
  sep := zip_sep2 (N := N) (fp1 := [a]) (fp2 := [b]) (by simpa using h1) (by simpa using h2)
  n1 := Nat.ne_of_lt h1
  n2 := Nat.ne_of_lt (Nat.lt_succ_of_lt h2)
def iZipB (t u : Bool) (K : PySem.W.Frag) (ta : TA) : TI := fun σ H R => ta σ H fun vs H1 => ∃ a b xs ys, vs = [.ref a, .ref b] ∧ SqB t K H1 a xs ∧ SqB u K H1 b ys ∧ R (ItzB t u K a b) H1
theorem pi_zipB (t u : Bool) {X : Cx} {e e2 : Expr} {ta : TA} {p pos tpos : Pos} {elts : List Expr} {kk : Nat} (hg : Gl X "zip") (hm : X.mg "zip" = none) (ha : PA X [e, e2] ta)
    (hs : starEach [e, e2] X.env = (false, eval e X.env) :: starEach [e2] X.env := by rfl) (hpl : (backTo pos (starEach [e2] X.env)).any (·.1) = false := by rfl) :
    PI X (.Tuple elts kk tpos) (.Call (.Name "zip" p) [e, e2] [] pos) (iZipB t u X.K ta) := by
  refine ⟨fun pins s σ H R I h => ?_⟩
  refine Call_ (ld_blt I hg hm PyProof.Rows.boot_zip (PyProof.Rows.callWith_type1 (thn (ha.run pos pins s σ H _ I h) fun us s1 ⟨vs, H1, I1, r1, a, b, xs, ys, ex, hqx, hqy, q⟩ => ?_) hs hpl))
  subst ex
  cases r1 with
  | cons r rr =>
    cases rr with
    | cons r' rr =>
      cases rr
      cases r
      cases r'
      obtain ⟨its, rv, p1⟩ := inv_seqB I1 hqx
      obtain ⟨its2, rv2, p2⟩ := inv_seqB I1 hqy
      refine zip_begins2 (beginsB t a its.toArray) (beginsB u b its2.toArray) p1 p2 fun h' hz hTI hTO h1 h2 hsz hk => wpAny_pyIter_zip hz ?_
      have I2 : Inv X pins σ H1 { s1 with heap := h' } := I1.kept (t' := s1.toks) hk
      refine ⟨s1.heap.objs.size + 4, [s1.heap.objs.size + 4, s1.heap.objs.size + 2, s1.heap.objs.size + 3, s1.heap.objs.size, s1.heap.objs.size + 1], _, _, H1, rfl, I2, turn_zipB (t := t) (u := u) (zb_new p1.lt p2.lt), ⟨hz, hTI, ⟨_, _, hTO⟩, itB_begun h1, itB_begun h2⟩, fun c hcm => ?_, q⟩
      have hle : s1.heap.objs.size ≤ c := by
        have e' : c = s1.heap.objs.size + 4 ∨ c = s1.heap.objs.size + 2 ∨ c = s1.heap.objs.size + 3 ∨ c = s1.heap.objs.size ∨ c = s1.heap.objs.size + 1 := by simpa using hcm
        rcases e' with rfl | rfl | rfl | rfl | rfl
        · exact Nat.le_add_right _ 4
        · exact Nat.le_add_right _ 2
        · exact Nat.le_add_right _ 3
        · exact Nat.le_refl _
        · exact Nat.le_add_right _ 1
      exact I1.fpOk hle (I1.hok.fresh hle)
theorem walk_zipB {t u : Bool} {K : PySem.W.Frag} {a b : Addr} {xs ys : List V} {n : Nat} (hn : n = min xs.length ys.length) : Walk (ItzB t u K a b) n (fun H => SqB t K H a xs ∧ SqB u K H b ys) (YPair (fun i => xs[i]?) (fun i => ys[i]?)) := by
  subst hn
  refine ⟨fun i _ hi q => ?_, fun _ q => ⟨xs, ys, q.1, q.2, rfl⟩, fun i H v H' _ q y => ?_⟩
  · exact ⟨xs, ys, xs[i]'(by omega), ys[i]'(by omega), q.1, q.2, List.getElem?_eq_getElem (by omega), List.getElem?_eq_getElem (by omega)⟩
  · obtain ⟨T, x, z, h1, h2, h3, h4, h5⟩ := y
    exact ⟨T, x, z, h1, h2, h3, h4 xs q.1, h5 ys q.2⟩

/-! ### enumerate of a tuple -/
set_option maxHeartbeats 1000000 in
theorem meets_enum1 {v : Value} {o : Obj} {H : Heap → Prop} (B : Begins v o H) :
    Meets (Builtin.«enumerate.__new__» ⟨[.type "enumerate", v], []⟩) (fun _ R s => H s.heap ∧
      R (.ok (.ret (.ref (s.heap.push o).objs.size))) { s with heap := (s.heap.push o).push { cls := .type "enumerate", data := .fields #[.none, .bool false, .ref s.heap.objs.size, rawInt 0, .none, .none] } }) :=
  .of_wp fun prog w A R s h => by
    obtain ⟨hp, g, d, tk, os⟩ := s
    obtain ⟨h1, h⟩ := h
    have hsub := sub_enumerate
    have itq : ∀ {A' : Around} {E : Value → Shared → Prop} {Q : Value → Shared → Prop}, Q (.ref hp.objs.size) ⟨hp.push o, g, d, tk, os⟩ → wpAny (model prog w) A' (pyIter v) Q E ⟨hp, g, d, tk, os⟩ :=
      fun q => B.iter prog w _ _ ⟨hp, g, d, tk, os⟩ _ h1 q
    wp_walk using itq
    refine wpAny_stack_any fun st => wpAny_pure ?_
    split
    · rename_i c _ _ _ _ _
      cases (c == Value.type "enumerate") <;> (wp_walk using itq; exact ⟨_, rfl, h⟩)
    · wp_walk using itq
      exact ⟨_, rfl, h⟩
theorem enum_begins1 {prog : Program} {w : World} {A : Around} {E : Value → Shared → Prop} {s : Shared} {v : Value} {o : Obj} {H : Heap → Prop} {Q : Value → Shared → Prop} (B : Begins v o H) (h1 : H s.heap)
    (h : ∀ h', IsEnum h' (s.heap.objs.size + 1) s.heap.objs.size 0 .none → h'.get? s.heap.objs.size = some o → (∀ b o, s.heap.get? b = some o → h'.get? b = some o) → Q (.ref (s.heap.objs.size + 1)) { s with heap := h' }) :
    wpAny (model prog w) A (call (.type "enumerate") [v]) Q E s := by
  refine callType_new F.called_enumerate (by decide) (F.typeCall_enumerate_1 _) (F.newCall_enumerate_1 _) (fun obj => F.args_object_init_2 obj _) F.entry_enumerate_new (meets_enum1 B) ⟨h1, ?_⟩
  have hz : (s.heap.push o).objs.size = s.heap.objs.size + 1 := Heap.size_push ..
  have hn : IsEnum ((s.heap.push o).push { cls := .type "enumerate", data := .fields #[.none, .bool false, .ref s.heap.objs.size, rawInt 0, .none, .none] }) (s.heap.objs.size + 1) s.heap.objs.size 0 .none := by
    rw [← hz]
    exact Heap.get?_push_size _ rfl
  rw [hz]
  exact ⟨⟨_, hn, rfl⟩, h _ hn (Heap.get?_push_of_some _ (Heap.get?_push_size _ B.free)) fun b o x => Heap.get?_push_of_some _ (Heap.get?_push_of_some _ x)⟩
def IteB (t : Bool) (K : PySem.W.Frag) (a : Addr) : It :=
  ⟨fun i H => ∃ (xs : List V) (x : V), SqB t K H a xs ∧ xs[i]? = some x,
    fun i H v H' => ∃ T x, v = .ref T ∧ H T = none ∧ H' = upd H T (.tup [.int (i : Nat), x]) ∧ ∀ xs, SqB t K H a xs → xs[i]? = some x,
    fun i H => ∃ xs : List V, SqB t K H a xs ∧ i = xs.length⟩
theorem turn_enumB {P : Program} {w : World} {K : PySem.W.Frag} {elts : List Expr} {kk : Nat} {tpos : Pos} {t : Bool} {a e it : Addr} (n1 : e ≠ it) (n2 : e ≠ a) (n3 : a ≠ it) :
    Turn P w K (.Tuple elts kk tpos) (IteB t K a) [e, it] e (fun i h => (∃ old, IsEnum h e it (0 + ((i : Nat) : Int)) old) ∧ ItB t h it a i) where
  mem := by simp
  obj := fun i h st c hc => by
    obtain ⟨⟨old, he⟩, h1⟩ := st
    have e' : c = e ∨ c = it := by simpa using hc
    rcases e' with rfl | rfl
    · exact ⟨_, he, fun v q => nomatch q⟩
    · exact h1.obj
  keep := fun i h h' st k => let ⟨⟨old, he⟩, h1⟩ := st; ⟨⟨old, k e (by simp) _ he⟩, h1.at fun o q => k it (by simp) o q⟩
  item := by
    intro X hP hw hK hc i pins s σ H E I hf st hg
    subst hP hw hK
    obtain ⟨xs, x, hqx, hx⟩ := hg
    obtain ⟨its, rv, p1⟩ := inv_seqB I hqx
    obtain ⟨v1, hv1, ru⟩ := rv.get hx
    have hh : X.A.in1.handled = none := I.ok.hd hc
    have G := GoesN.enumFrom (prog := X.prog) (w := X.w) (A := X.A) (elts := elts) (x1 := kk) (pos := tpos) 0 (drawsB t hh it a n3 its.toArray) e n1 (by simp [n1, n2]) (by simp)
    have l1 : i < its.length := (List.getElem?_eq_some_iff.mp hv1).1
    refine G.goes i s (fun q s2 => ∃ z0 H', Inv X pins σ H' s2 ∧ RelV z0 q ∧ (IteB t X.K a).yld i H z0 H' ∧ ((∃ old, IsEnum s2.heap e it (0 + ((i + 1 : Nat) : Int)) old) ∧ ItB t s2.heap it a (i + 1)) ∧ ∀ c ∈ [e, it], H' c = none) E
      (by simp; omega) ⟨st.1, st.2, p1⟩ fun q h' tk hY st' hk htk => ?_
    obtain ⟨T, t1, w1, rfl, hT, e1, hTup⟩ := hY
    have e1' : v1 = w1 := by
      have e1 : its.toArray[i]? = some w1 := e1
      rw [List.getElem?_toArray, hv1] at e1
      exact Option.some.inj e1
    subst e1'
    have e0 : (0 : Int) + (i : Int) = (i : Int) := Int.zero_add _
    rw [e0] at hTup
    have new : ObjOk X.prog X.w (upd H T (.tup [.int (i : Nat), x])) h' T (.tup [.int (i : Nat), x]) := ⟨by show 2 ≤ sizeLine; decide, [.int i t1, v1], .cons ⟨_, rfl⟩ (.cons ru .nil), hTup⟩
    have I1 : Inv X pins σ (upd H T (.tup [.int (i : Nat), x])) { s with heap := h', toks := tk } := I.turnedNew (ch := [e, it]) (fun c o hb q => hk c o hb q) hf hT new
    refine ⟨.ref T, _, I1, rfl, ⟨T, x, rfl, I.hok.fresh hT, rfl, fun l hl => by rw [inv_injB I hl hqx]; exact hx⟩, ⟨st'.1, st'.2.1⟩, fun c hcm => ?_⟩
    have hlt : c < s.heap.objs.size := by
      obtain ⟨⟨old, he⟩, h1⟩ := st
      have e' : c = e ∨ c = it := by simpa using hcm
      rcases e' with rfl | rfl
      · exact Heap.lt_size he
      · obtain ⟨_, e, _⟩ := h1.obj; exact Heap.lt_size e
    rw [upd_ne (Nat.ne_of_lt (Nat.lt_of_lt_of_le hlt hT))]
    exact (hf c hcm).1
  done := by
    intro X hP hw hK hc i pins s σ H E I hf st hg
    subst hP hw hK
    obtain ⟨xs, hqx, hend⟩ := hg
    obtain ⟨its, rv, p1⟩ := inv_seqB I hqx
    have hh : X.A.in1.handled = none := I.ok.hd hc
    have G := GoesN.enumFrom (prog := X.prog) (w := X.w) (A := X.A) (elts := elts) (x1 := kk) (pos := tpos) 0 (drawsB t hh it a n3 its.toArray) e n1 (by simp [n1, n2]) (by simp)
    have l1 := rv.length
    have ei : i = its.toArray.size := by simp; omega
    subst ei
    exact G.stops s (fun s1 => Inv X pins σ H s1) E ⟨st.1, st.2, p1⟩ fun h' tk hk htk => I.turnedL (ch := [e, it]) (fun c o hb q => hk c o hb q) hf
  self := fun A i s Q E st h => let ⟨⟨_, he⟩, _⟩ := st; wpAny_pyIter_enum he h
def iEnumB (t : Bool) (K : PySem.W.Frag) (ta : TA) : TI := fun σ H R => ta σ H fun vs H1 => ∃ a xs, vs = [.ref a] ∧ SqB t K H1 a xs ∧ R (IteB t K a) H1
theorem pi_enumB (t : Bool) {X : Cx} {e : Expr} {ta : TA} {p pos tpos : Pos} {elts : List Expr} {kk : Nat} (hg : Gl X "enumerate") (hm : X.mg "enumerate" = none) (ha : PA X [e] ta) (hs : starEach [e] X.env = [(false, eval e X.env)] := by rfl) :
    PI X (.Tuple elts kk tpos) (.Call (.Name "enumerate" p) [e] [] pos) (iEnumB t X.K ta) := by
  refine ⟨fun pins s σ H R I h => ?_⟩
  refine Call_ (ld_blt I hg hm boot_enumerate (PyProof.Rows.callWith_type1 (thn (ha.run pos pins s σ H _ I h) fun us s1 ⟨vs, H1, I1, r1, a, xs, ex, hq, q⟩ => ?_) hs rfl))
  subst ex
  cases r1 with
  | cons r rr =>
    cases rr
    cases r
    obtain ⟨its, rv, p1⟩ := inv_seqB I1 hq
    refine enum_begins1 (beginsB t a its.toArray) p1 fun h' he hit hk => wpAny_pyIter_enum he ?_
    have I2 : Inv X pins σ H1 { s1 with heap := h' } := I1.kept (t' := s1.toks) hk
    have hal : a < s1.heap.objs.size := p1.lt
    refine ⟨s1.heap.objs.size + 1, [s1.heap.objs.size + 1, s1.heap.objs.size], _, _, H1, rfl, I2, turn_enumB (t := t) (a := a) (it := s1.heap.objs.size) (Nat.succ_ne_self _) (Nat.ne_of_gt (Nat.lt_succ_of_lt hal)) (Nat.ne_of_lt hal), ⟨⟨.none, he⟩, itB_begun hit⟩, fun c hcm => ?_, q⟩
    have hle : s1.heap.objs.size ≤ c := by
      have e' : c = s1.heap.objs.size + 1 ∨ c = s1.heap.objs.size := by simpa using hcm
      rcases e' with rfl | rfl
      · exact Nat.le_add_right _ 1
      · exact Nat.le_refl _
    exact I1.fpOk hle (I1.hok.fresh hle)
theorem walk_enumB {t : Bool} {K : PySem.W.Frag} {a : Addr} {xs : List V} : Walk (IteB t K a) xs.length (fun H => SqB t K H a xs) (YPair (fun i => some (.int (i : Nat))) (fun i => xs[i]?)) := by
  refine ⟨fun i _ hi q => ⟨xs, xs[i], q, by simp [hi]⟩, fun _ q => ⟨xs, q, rfl⟩, fun i H v H' _ q y => ?_⟩
  obtain ⟨T, x, h1, h2, h3, h4⟩ := y
  exact ⟨T, .int (i : Nat), x, h1, h2, h3, rfl, h4 xs q⟩
end NM
namespace NM
open PySem PySem.Spec PyProof.Rows L2

/-! ### data: None, ints, texts, tuples of such (NestedKey), as values in a heap -/
abbrev NK := PySem.NestedKey
inductive Nk (K : PySem.W.Frag) (H : Hp) : V → NK → Prop
  | non : Nk K H .non .none
  | int (i : Int) : Nk K H (.int i) (.num i)
  | str (x : Str) : Nk K H (.str x) (.text x)
  | tup {a : Addr} {xs : List V} {ks : List NK} : SqT K H a xs → Paired (Nk K H) xs ks → Nk K H (.ref a) (.tup ks)
abbrev NkAll (K : PySem.W.Frag) (H : Hp) : List V → List NK → Prop := Paired (Nk K H)

section
variable {K : PySem.W.Frag} {H H' H1 : Hp}
theorem Nk.int_eq {v : V} {i : Int} (h : Nk K H v (.num i)) : v = .int i := by cases h; rfl
theorem Nk.str_eq {v : V} {x : Str} (h : Nk K H v (.text x)) : v = .str x := by cases h; rfl
theorem Nk.non_eq {v : V} (h : Nk K H v .none) : v = .non := by cases h; rfl
theorem Nk.tup_eq {v : V} {ks : List NK} (h : Nk K H v (.tup ks)) : ∃ a xs, v = .ref a ∧ SqT K H a xs ∧ NkAll K H xs ks := by
  cases h with
  | tup a b => exact ⟨_, _, rfl, a, b⟩
mutual
theorem Nk.dp : ∀ (k : NK) (v : V), Nk K H v k → Dp K H v k.data
  | .none, v, h => by cases h; exact .non
  | .num i, v, h => by cases h; exact .int i
  | .text x, v, h => by cases h; exact .str x
  | .tup ks, v, h => by
    cases h with
    | tup a b => exact .tup a (Nk.dpAll ks _ b)
theorem Nk.dpAll : ∀ (ks : List NK) (vs : List V), NkAll K H vs ks → DpAll K H vs (NestedKey.datas ks)
  | [], _, h => by cases h; exact .nil
  | k :: ks, _, h => by
    cases h with
    | cons a b => exact .cons (Nk.dp k _ a) (Nk.dpAll ks _ b)
end
/-- the tuples stay -/
def TSt (K : PySem.W.Frag) (H H' : Hp) : Prop := ∀ a xs, SqT K H a xs → SqT K H' a xs
theorem TSt.refl : TSt K H H := fun _ _ h => h
theorem TSt.trans (a : TSt K H H') (b : TSt K H' H1) : TSt K H H1 := fun c xs h => b c xs (a c xs h)
mutual
theorem Nk.ts (t : TSt K H H') : ∀ (k : NK) (v : V), Nk K H v k → Nk K H' v k
  | .none, v, h => by cases h; exact .non
  | .num i, v, h => by cases h; exact .int i
  | .text x, v, h => by cases h; exact .str x
  | .tup ks, v, h => by
    cases h with
    | tup a b => exact .tup (t _ _ a) (Nk.tsAll t ks _ b)
theorem Nk.tsAll (t : TSt K H H') : ∀ (ks : List NK) (vs : List V), NkAll K H vs ks → NkAll K H' vs ks
  | [], _, h => by cases h; exact .nil
  | k :: ks, _, h => by
    cases h with
    | cons a b => exact .cons (Nk.ts t k _ a) (Nk.tsAll t ks _ b)
end
theorem Nk.mono {v : V} {k : NK} (h : Nk K H v k) (t : TSt K H H') : Nk K H' v k := Nk.ts t k v h
theorem nkAll_mono {vs : List V} {ks : List NK} (h : NkAll K H vs ks) (t : TSt K H H') : NkAll K H' vs ks := Nk.tsAll t ks vs h
theorem pget {α β : Type} {F : α → β → Prop} : ∀ {l : List α} {m : List β} {i : Nat} {y : β}, Paired F l m → m[i]? = some y → ∃ x, l[i]? = some x ∧ F x y
  | _, _, _, _, .nil, e => by simp at e
  | _, _, 0, _, .cons r _, e => by simp at e; subst e; exact ⟨_, rfl, r⟩
  | _, _, i + 1, y, .cons _ t, e => by
    obtain ⟨x, h1, h2⟩ := pget (i := i) (y := y) t (by simpa using e)
    exact ⟨x, by simpa using h1, h2⟩
theorem pget' {α β : Type} {F : α → β → Prop} : ∀ {l : List α} {m : List β} {i : Nat} {x : α}, Paired F l m → l[i]? = some x → ∃ y, m[i]? = some y ∧ F x y
  | _, _, _, _, .nil, e => by simp at e
  | _, _, 0, _, .cons r _, e => by simp at e; subst e; exact ⟨_, rfl, r⟩
  | _, _, i + 1, y, .cons _ t, e => by
    obtain ⟨x, h1, h2⟩ := pget' (i := i) (x := y) t (by simpa using e)
    exact ⟨x, by simpa using h1, h2⟩
theorem plen {α β : Type} {F : α → β → Prop} {l : List α} {m : List β} (h : Paired F l m) : l.length = m.length := Paired.length h
theorem papp {α β : Type} {F : α → β → Prop} : ∀ {l l' : List α} {m m' : List β}, Paired F l m → Paired F l' m' → Paired F (l ++ l') (m ++ m')
  | _, _, _, _, .nil, s => s
  | _, _, _, _, .cons r t, s => .cons r (papp t s)
theorem ptake {α β : Type} {F : α → β → Prop} : ∀ {l : List α} {m : List β} (n : Nat), Paired F l m → Paired F (l.take n) (m.take n)
  | _, _, 0, _ => .nil
  | _, _, _ + 1, .nil => .nil
  | _, _, n + 1, .cons r t => .cons r (ptake n t)
theorem pdrop {α β : Type} {F : α → β → Prop} : ∀ {l : List α} {m : List β} (n : Nat), Paired F l m → Paired F (l.drop n) (m.drop n)
  | _, _, 0, r => r
  | _, _, _ + 1, .nil => .nil
  | _, _, n + 1, .cons _ t => pdrop n t
theorem prev {α β : Type} {F : α → β → Prop} : ∀ {l : List α} {m : List β}, Paired F l m → Paired F l.reverse m.reverse
  | _, _, .nil => .nil
  | _, _, .cons r t => by rw [List.reverse_cons, List.reverse_cons]; exact papp (prev t) (.cons r .nil)
theorem nk_ints : ∀ {vs : List V} {ns : List Int}, NkAll K H vs (ns.map .num) → vs = ns.map V.int
  | _, [], h => by cases h; rfl
  | _, n :: ns, h => by
    have h' : NkAll K H _ (.num n :: ns.map .num) := h
    cases h' with
    | cons a b => rw [a.int_eq, nk_ints b]; rfl
theorem ints_nk : ∀ ns : List Int, NkAll K H (ns.map V.int) (ns.map .num)
  | [] => .nil
  | n :: ns => .cons (.int n) (ints_nk ns)

/-! ### heaps that go on -/
theorem Same.ts (s : Same H H') : TSt K H H' := fun a xs h => by
  rcases h with (h | ⟨o, h⟩) | h
  · exact .inl (.inl (s _ _ h))
  · exact .inl (.inr ⟨o, s _ _ h⟩)
  · exact .inr h
theorem same_new {p : Addr} {o : HO} (h : H p = none) : Same H (upd H p o) := fun b x e => by rw [upd_ne (ne_of_none e h)]; exact e
/-- all but those of L stay -/
def KeepL (L : List Addr) (H H' : Hp) : Prop := ∀ b o, b ∉ L → H b = some o → H' b = some o
/-- those of L are lists or other things that may change -/
def MutL (L : List Addr) (H : Hp) : Prop := ∀ l ∈ L, (∃ xs, H l = some (.lst xs)) ∨ ∃ φ, H l = some (.ext φ)
theorem KeepL.refl {L : List Addr} : KeepL L H H := fun _ _ _ h => h
theorem KeepL.trans {L : List Addr} (a : KeepL L H H') (b : KeepL L H' H1) : KeepL L H H1 := fun c o n h => b c o n (a c o n h)
theorem Same.keepL {L : List Addr} (s : Same H H') : KeepL L H H' := fun b o _ h => s b o h
theorem KeepL.same (s : KeepL [] H H') : Same H H' := fun b o h => s b o (by simp) h
theorem keepL_upd {L : List Addr} {l : Addr} {o : HO} (h : l ∈ L) : KeepL L H (upd H l o) := fun b x n e => by
  rw [upd_ne (fun q => n (by rw [q]; exact h))]; exact e
theorem KeepL.mono {L M : List Addr} (a : KeepL L H H') (s : ∀ b ∈ L, b ∈ M) : KeepL M H H' := fun b o n h => a b o (fun q => n (s b q)) h
theorem KeepL.ts {L : List Addr} (k : KeepL L H H') (m : MutL L H) : TSt K H H' := fun a xs h => by
  have nl : ∀ u, H a = some u → (∀ ys, u ≠ .lst ys) → (∀ φ, u ≠ .ext φ) → a ∉ L := fun u e n1 n2 q => by
    rcases m a q with ⟨ys, e'⟩ | ⟨φ, e'⟩
    · rw [e] at e'; exact n1 ys (Option.some.inj e')
    · rw [e] at e'; exact n2 φ (Option.some.inj e')
  rcases h with (h | ⟨o, h⟩) | h
  · exact .inl (.inl (k _ _ (nl _ h (fun _ q => nomatch q) (fun _ q => nomatch q)) h))
  · exact .inl (.inr ⟨o, k _ _ (nl _ h (fun _ q => nomatch q) (fun _ q => nomatch q)) h⟩)
  · exact .inr h
theorem KeepL.sqL {L : List Addr} {a : Addr} {xs : List V} (k : KeepL L H H') (n : a ∉ L) (h : SqL K H a xs) : SqL K H' a xs := by
  rcases h with (h | ⟨o, h⟩) | h
  · exact .inl (.inl (k _ _ n h))
  · exact .inl (.inr ⟨o, k _ _ n h⟩)
  · exact .inr h
theorem MutL.nil : MutL [] H := fun _ h => nomatch h
theorem MutL.one {l : Addr} {xs : List V} (h : H l = some (.lst xs)) : MutL [l] H := fun a m => by
  have e : a = l := by simpa using m
  exact .inl ⟨xs, by rw [e]; exact h⟩
theorem MutL.oneX {l : Addr} {φ : Heap → Prop} (h : H l = some (.ext φ)) : MutL [l] H := fun a m => by
  have e : a = l := by simpa using m
  exact .inr ⟨φ, by rw [e]; exact h⟩
theorem MutL.cons {l : Addr} {L : List Addr} {xs : List V} (h : H l = some (.lst xs)) (m : MutL L H) : MutL (l :: L) H := fun a q => by
  rcases List.mem_cons.mp q with e | q
  · exact .inl ⟨xs, by rw [e]; exact h⟩
  · exact m a q
theorem fresh_back {p : Addr} (e : Same H H') (h : H' p = none) : H p = none := e.free h
/-- a local list changes: what stood ahead of it stays -/
theorem same_mut {l : Addr} {o : HO} (s : Same H H') (n : H l = none) : Same H (upd H' l o) := fun b x e => by rw [upd_ne (ne_of_none e n)]; exact s b x e
theorem KeepL.back {L : List Addr} {H0 : Hp} (s : Same H0 H) (n : ∀ l ∈ L, H0 l = none) (k : KeepL L H H') : Same H0 H' := fun b o e => k b o (fun m => by rw [n b m] at e; cases e) (s b o e)
end

/-! ### the slots -/
/-- a slot: unknown, data, an exact value -/
inductive Sl | u | d (k : NK) | v (x : V)
def SlOk (K : PySem.W.Frag) (H : Hp) (o : Option V) : Sl → Prop
  | .u => True
  | .d k => ∃ v, o = some v ∧ Nk K H v k
  | .v x => o = some x
abbrev Env (K : PySem.W.Frag) (H : Hp) (σ : L2.St) (Γ : List Sl) : Prop := Paired (SlOk K H) σ Γ
section
variable {K : PySem.W.Frag} {H H' H1 : Hp} {σ : L2.St} {Γ : List Sl}
theorem SlOk.ts {o : Option V} {s : Sl} (h : SlOk K H o s) (t : TSt K H H') : SlOk K H' o s := by
  cases s with
  | u => exact h
  | d k => obtain ⟨v, e, n⟩ := h; exact ⟨v, e, n.mono t⟩
  | v x => exact h
theorem Env.ts (e : Env K H σ Γ) (t : TSt K H H') : Env K H' σ Γ := Paired.mapP e fun _ _ h => h.ts t
theorem pset {α β : Type} {F : α → β → Prop} {x : α} {y : β} (r : F x y) : ∀ {l : List α} {m : List β} (i : Nat), Paired F l m → Paired F (l.set i x) (m.set i y)
  | _, _, _, .nil => .nil
  | _, _, 0, .cons _ t => .cons r t
  | _, _, i + 1, .cons q t => .cons q (pset r i t)
theorem Env.set (e : Env K H σ Γ) {o : Option V} {s : Sl} (h : SlOk K H o s) (i : Nat) : Env K H (σ.set i o) (Γ.set i s) := pset h i e
theorem Env.setD (e : Env K H σ Γ) {v : V} {k : NK} (h : Nk K H v k) (i : Nat) : Env K H (σ.set i (some v)) (Γ.set i (.d k)) := e.set (s := .d k) ⟨v, rfl, h⟩ i
theorem Env.setV (e : Env K H σ Γ) (v : V) (i : Nat) : Env K H (σ.set i (some v)) (Γ.set i (.v v)) := e.set (s := .v v) rfl i
theorem Env.getD (e : Env K H σ Γ) {i : Nat} {k : NK} (h : Γ[i]? = some (.d k)) : ∃ v, σ[i]? = some (some v) ∧ Nk K H v k := by
  obtain ⟨o, h1, v, rfl, h2⟩ := pget e h
  exact ⟨v, h1, h2⟩
theorem Env.getV (e : Env K H σ Γ) {i : Nat} {x : V} (h : Γ[i]? = some (.v x)) : σ[i]? = some (some x) := by
  obtain ⟨o, h1, h2⟩ := pget e h
  rw [h1, show o = some x from h2]
def wipeG (Γ : List Sl) : List Nat → List Sl
  | [] => Γ
  | v :: vs => (wipeG Γ vs).set v .u
theorem Env.wipe (e : Env K H σ Γ) : ∀ vs : List Nat, Env K H (wipe σ vs) (wipeG Γ vs)
  | [] => e
  | v :: vs => by
    show Env K H ((L2.wipe σ vs).set v none) ((wipeG Γ vs).set v .u)
    exact (Env.wipe e vs).set (s := .u) True.intro v
theorem env_start {N : List Str} {vs : List V} {ks : List NK} (h : NkAll K H vs ks) : Env K H (L2.start N vs) (ks.map .d ++ List.replicate (N.length - ks.length) .u) := by
  have hl := plen h
  unfold L2.start
  rw [hl]
  refine papp ?_ ?_
  · clear hl
    induction h with
    | nil => exact .nil
    | cons a b ih => exact .cons ⟨_, rfl, a⟩ ih
  · generalize N.length - ks.length = m
    induction m with
    | zero => exact .nil
    | succ m ih => rw [List.replicate_succ, List.replicate_succ]; exact .cons True.intro ih
/-- slots that the block wipes -/
theorem wipe_set {j : Nat} {o : Option V} : ∀ (vs : List Nat) (σ : L2.St), j ∈ vs → wipe (σ.set j o) vs = wipe σ vs
  | [], _, h => nomatch h
  | v :: vs, σ, h => by
    show (wipe (σ.set j o) vs).set v none = (wipe σ vs).set v none
    by_cases hj : j ∈ vs
    · rw [wipe_set vs σ hj]
    · have e : j = v := by
        rcases List.mem_cons.mp h with q | q
        · exact q
        · exact (hj q).elim
      subst e
      have hh : ∀ (ws : List Nat) (τ : L2.St), j ∉ ws → wipe (τ.set j o) ws = (wipe τ ws).set j o := by
        intro ws
        induction ws with
        | nil => intro τ _; rfl
        | cons w ws ih =>
          intro τ hn
          show (wipe (τ.set j o) ws).set w none = ((wipe τ ws).set w none).set j o
          rw [ih τ (fun q => hn (List.mem_cons_of_mem _ q)), List.set_comm _ _ (fun q => hn (by rw [q]; exact List.mem_cons_self ..))]
      rw [hh vs σ hj, List.set_set]
theorem wipe_idem (σ : L2.St) (vs : List Nat) : wipe (wipe σ vs) vs = wipe σ vs := by
  have hh : ∀ (ws : List Nat), (∀ x ∈ ws, x ∈ vs) → wipe (wipe σ ws) vs = wipe σ vs := by
    intro ws
    induction ws with
    | nil => intro _; rfl
    | cons w ws ih =>
      intro hs
      show wipe ((wipe σ ws).set w none) vs = wipe σ vs
      rw [wipe_set vs _ (hs w (List.mem_cons_self ..)), ih fun x hx => hs x (List.mem_cons_of_mem _ hx)]
  exact hh vs fun _ h => h
end

/-! ### what evaluates to what -/
/-- to a value that stands in R to b -/
def ER {β : Type} (R : Hp → V → β → Prop) (te : TE) (σ : L2.St) (H : Hp) (b : β) : Prop := ∀ H1, Same H H1 → ∀ Q : VK, (∀ v H2, Same H1 H2 → R H2 v b → Q v H2) → te σ H1 Q
abbrev Ed (K : PySem.W.Frag) : TE → L2.St → Hp → NK → Prop := ER (Nk K)
abbrev Ev : TE → L2.St → Hp → V → Prop := ER (fun _ v b => v = b)
def Et (tt : TT) (σ : L2.St) (H : Hp) (b : Bool) : Prop := ∀ H1, Same H H1 → ∀ Q : Bool → Hp → Prop, (∀ H2, Same H1 H2 → Q b H2) → tt σ H1 Q
def Ea (K : PySem.W.Frag) (ta : TA) (σ : L2.St) (H : Hp) (ks : List NK) : Prop := ∀ H1, Same H H1 → ∀ Q : List V → Hp → Prop, (∀ vs H2, Same H1 H2 → NkAll K H2 vs ks → Q vs H2) → ta σ H1 Q
/-- to a new list -/
def EL {β : Type} (R : Hp → V → β → Prop) (te : TE) (σ : L2.St) (H : Hp) (bs : List β) : Prop := ∀ H1, Same H H1 → ∀ Q : VK, (∀ p vs H2, H1 p = none → Same H1 H2 → H2 p = some (.lst vs) → Paired (R H2) vs bs → Q (.ref p) H2) → te σ H1 Q
/-- what follows a promise -/
def RetD (K : PySem.W.Frag) (k : NK) (H : Hp) (Q : VK) : Prop := ∀ v H', Same H H' → Nk K H' v k → Q v H'
def RetL (K : PySem.W.Frag) (ks : List NK) (H : Hp) (Q : VK) : Prop := ∀ p vs H', H p = none → Same H H' → H' p = some (.lst vs) → NkAll K H' vs ks → Q (.ref p) H'
def RetV (x : V) (H : Hp) (Q : VK) : Prop := ∀ H', Same H H' → Q x H'

section
variable {K : PySem.W.Frag} {σ : L2.St} {H H' : Hp} {ta tb tc te tx : TE} {t u : TT} {x y z v : V} {Γ : List Sl} {k : NK} {ks : List NK} {b : Bool}
theorem ER.mono {β : Type} {R : Hp → V → β → Prop} {c : β} (h : ER R te σ H c) (s : Same H H') : ER R te σ H' c := fun H1 s1 => h H1 (s.trans s1)
theorem Et.mono (h : Et t σ H b) (s : Same H H') : Et t σ H' b := fun H1 s1 => h H1 (s.trans s1)
theorem Ea.mono {ta : TA} (h : Ea K ta σ H ks) (s : Same H H') : Ea K ta σ H' ks := fun H1 s1 => h H1 (s.trans s1)
theorem EL.mono {β : Type} {R : Hp → V → β → Prop} {bs : List β} (h : EL R te σ H bs) (s : Same H H') : EL R te σ H' bs := fun H1 s1 => h H1 (s.trans s1)
theorem ed_var (E : Env K H σ Γ) {i : Nat} (h : Γ[i]? = some (.d k)) : Ed K (tVar i) σ H k := fun H1 s Q q => by
  obtain ⟨v, e, n⟩ := E.getD h
  exact ⟨v, e, q v H1 (Same.refl H1) (n.mono (Same.ts s))⟩
theorem ev_var (E : Env K H σ Γ) {i : Nat} (h : Γ[i]? = some (.v x)) : Ev (tVar i) σ H x := fun H1 s Q q => ⟨x, E.getV h, q x H1 (Same.refl H1) rfl⟩
theorem ed_int {i : Int} : Ed K (tC (.int i)) σ H (.num i) := fun H1 _ Q q => q _ H1 (Same.refl H1) (.int i)
theorem ed_str {s : Str} : Ed K (tC (.str s)) σ H (.text s) := fun H1 _ Q q => q _ H1 (Same.refl H1) (.str s)
theorem ed_non : Ed K (tC .non) σ H .none := fun H1 _ Q q => q _ H1 (Same.refl H1) .non
theorem ev_c : Ev (tC v) σ H v := fun H1 _ Q q => q _ H1 (Same.refl H1) rfl
/-- a constant of the written part -/
theorem ed_k (h : Nk K H v k) : Ed K (tC v) σ H k := fun H1 s Q q => q _ H1 (Same.refl H1) (h.mono (Same.ts s))
/-- an exact value of data -/
def scV : NK → V
  | .none => .non
  | .num i => .int i
  | .text s => .str s
  | .tup _ => .non
def isSc : NK → Bool
  | .tup _ => false
  | _ => true
theorem Nk.sc (h : Nk K H v k) (e : isSc k = true) : v = scV k := by cases h <;> first | rfl | cases e
/-- an operator upon ints -/
theorem ed_I0 {g : Int → Int → V} {i j n : Int} (ha : Ed K ta σ H (.num i)) (hb : Ed K tb σ H (.num j)) (e : g i j = .int n) : Ed K (tOp (rI0 g) ta tb) σ H (.num n) := fun H1 s Q q =>
  ha H1 s _ fun x H2 s2 n1 => hb H2 (s.trans s2) _ fun y H3 s3 n2 => ⟨i, j, n1.int_eq, n2.int_eq, by rw [e]; exact q _ H3 (s2.trans s3) (.int n)⟩
theorem ed_I {C : Int → Int → Prop} {g : Int → Int → V} {i j n : Int} (ha : Ed K ta σ H (.num i)) (hb : Ed K tb σ H (.num j)) (c : C i j) (e : g i j = .int n) : Ed K (tOp (rI C g) ta tb) σ H (.num n) := fun H1 s Q q =>
  ha H1 s _ fun x H2 s2 n1 => hb H2 (s.trans s2) _ fun y H3 s3 n2 => ⟨i, j, n1.int_eq, n2.int_eq, c, by rw [e]; exact q _ H3 (s2.trans s3) (.int n)⟩
theorem ed_neg {g : Int → V} {i n : Int} (ha : Ed K ta σ H (.num i)) (e : g i = .int n) : Ed K (tUn (rU g) ta) σ H (.num n) := fun H1 s Q q =>
  ha H1 s _ fun x H2 s2 n1 => ⟨i, n1.int_eq, by rw [e]; exact q _ H2 s2 (.int n)⟩
/-- a comparison of two ints as a value -/
theorem ev_I0 {g : Int → Int → V} {i j : Int} (ha : Ed K ta σ H (.num i)) (hb : Ed K tb σ H (.num j)) (e : g i j = v) : Ev (tOp (rI0 g) ta tb) σ H v := fun H1 s Q q =>
  ha H1 s _ fun x H2 s2 n1 => hb H2 (s.trans s2) _ fun y H3 s3 n2 => ⟨i, j, n1.int_eq, n2.int_eq, by rw [e]; exact q _ H3 (s2.trans s3) rfl⟩
theorem ev_eq {l m : NK} (ha : Ed K ta σ H l) (hb : Ed K tb σ H m) (h1 : isSc l = true) (h2 : isSc m = true) (hs : scal (scV l) (scV m) = true) (e : decide (scV l = scV m) = b) : Ev (tOp rEq ta tb) σ H (.bl b) := fun H1 s Q q =>
  ha H1 s _ fun x H2 s2 n1 => hb H2 (s.trans s2) _ fun y H3 s3 n2 => by
    rw [n1.sc h1, n2.sc h2]
    exact ⟨hs, by rw [e]; exact q _ H3 (s2.trans s3) rfl⟩
theorem ev_ne {l m : NK} (ha : Ed K ta σ H l) (hb : Ed K tb σ H m) (h1 : isSc l = true) (h2 : isSc m = true) (hs : scal (scV l) (scV m) = true) (e : (!decide (scV l = scV m)) = b) : Ev (tOp rNe ta tb) σ H (.bl b) := fun H1 s Q q =>
  ha H1 s _ fun x H2 s2 n1 => hb H2 (s.trans s2) _ fun y H3 s3 n2 => by
    rw [n1.sc h1, n2.sc h2]
    exact ⟨hs, by rw [e]; exact q _ H3 (s2.trans s3) rfl⟩
theorem ev_eqB {c d : Bool} (ha : Ev ta σ H (.bl c)) (hb : Ev tb σ H (.bl d)) (e : decide (V.bl c = V.bl d) = b) : Ev (tOp rEq ta tb) σ H (.bl b) := fun H1 s Q q =>
  ha H1 s _ fun x H2 s2 n1 => hb H2 (s.trans s2) _ fun y H3 s3 n2 => by
    rw [n1, n2]
    exact ⟨rfl, by rw [e]; exact q _ H3 (s2.trans s3) rfl⟩
theorem ev_neB {c d : Bool} (ha : Ev ta σ H (.bl c)) (hb : Ev tb σ H (.bl d)) (e : (!decide (V.bl c = V.bl d)) = b) : Ev (tOp rNe ta tb) σ H (.bl b) := fun H1 s Q q =>
  ha H1 s _ fun x H2 s2 n1 => hb H2 (s.trans s2) _ fun y H3 s3 n2 => by
    rw [n1, n2]
    exact ⟨rfl, by rw [e]; exact q _ H3 (s2.trans s3) rfl⟩
theorem et_test (h : Ev te σ H (.bl b)) : Et (tTest te) σ H b := fun H1 s Q q => h H1 s _ fun v H2 s2 e => ⟨b, e, q H2 s2⟩
theorem et_B (h : Ev te σ H (.bl b)) : Et (tB te) σ H b := fun H1 s Q q => h H1 s _ fun v H2 s2 e => ⟨b, e, q H2 s2⟩
theorem et_not (h : Et t σ H b) : Et (tNot t) σ H (!b) := fun H1 s Q q => h H1 s _ fun H2 s2 => q H2 s2
theorem et_to {c : Bool} (h : Et t σ H b) (e : b = c) : Et t σ H c := e ▸ h
theorem et_and {c : Bool} (h1 : Et t σ H b) (h2 : b = true → Et u σ H c) : Et (tAnd t u) σ H (b && c) := fun H1 s Q q => h1 H1 s _ fun H2 s2 => by
  cases b with
  | true => exact iteT (h2 rfl H2 (s.trans s2) Q fun H3 s3 => q H3 (s2.trans s3))
  | false => exact iteF (q H2 s2)
theorem et_or {c : Bool} (h1 : Et t σ H b) (h2 : b = false → Et u σ H c) : Et (tOr t u) σ H (b || c) := fun H1 s Q q => h1 H1 s _ fun H2 s2 => by
  cases b with
  | true => exact iteT (q H2 s2)
  | false => exact iteF (h2 rfl H2 (s.trans s2) Q fun H3 s3 => q H3 (s2.trans s3))
/-- and, or, not as values of truth -/
theorem ev_andV {c : Bool} (h1 : Ev ta σ H (.bl b)) (h2 : b = true → Ev tb σ H (.bl c)) : Ev (tAndV ta tb) σ H (.bl (b && c)) := fun H1 s Q q => h1 H1 s _ fun v H2 s2 e => ⟨b, e, by
  cases b with
  | true => exact iteT (h2 rfl H2 (s.trans s2) Q fun v H3 s3 e3 => q v H3 (s2.trans s3) e3)
  | false => exact iteF (q _ H2 s2 rfl)⟩
theorem ev_orV {c : Bool} (h1 : Ev ta σ H (.bl b)) (h2 : b = false → Ev tb σ H (.bl c)) : Ev (tOrV ta tb) σ H (.bl (b || c)) := fun H1 s Q q => h1 H1 s _ fun v H2 s2 e => ⟨b, e, by
  cases b with
  | true => exact iteT (q _ H2 s2 rfl)
  | false => exact iteF (h2 rfl H2 (s.trans s2) Q fun v H3 s3 e3 => q v H3 (s2.trans s3) e3)⟩
theorem ev_notV (h1 : Ev ta σ H (.bl b)) : Ev (tNotV ta) σ H (.bl (!b)) := fun H1 s Q q => h1 H1 s _ fun v H2 s2 e => ⟨b, e, q _ H2 s2 rfl⟩
theorem ev_to {w : V} (h : Ev te σ H v) (e : v = w) : Ev te σ H w := e ▸ h
theorem ed_to {l : NK} (h : Ed K te σ H k) (e : k = l) : Ed K te σ H l := e ▸ h
theorem er_if {β : Type} {R : Hp → V → β → Prop} {c : β} (h : Et t σ H b) (h1 : b = true → ER R ta σ H c) (h2 : b = false → ER R tb σ H c) : ER R (tIf t ta tb) σ H c := fun H1 s Q q => h H1 s _ fun H2 s2 => by
  cases b with
  | true => exact iteT (h1 rfl H2 (s.trans s2) Q fun v H3 s3 e3 => q v H3 (s2.trans s3) e3)
  | false => exact iteF (h2 rfl H2 (s.trans s2) Q fun v H3 s3 e3 => q v H3 (s2.trans s3) e3)
/-! arguments, displays -/
theorem ea_nil : Ea K tNil σ H [] := fun H1 _ Q q => q [] H1 (Same.refl H1) .nil
theorem ea_cons {tr : TA} (h : Ed K ta σ H k) (hr : Ea K tr σ H ks) : Ea K (tCons ta tr) σ H (k :: ks) := fun H1 s Q q =>
  h H1 s _ fun x H2 s2 n => hr H2 (s.trans s2) _ fun vs H3 s3 ns => q (x :: vs) H3 (s2.trans s3) (.cons (n.mono (Same.ts s3)) ns)
theorem ed_tup {ta : TA} (h : Ea K ta σ H ks) (hz : ks.length ≤ sizeLine) : Ed K (tTup ta) σ H (.tup ks) := fun H1 s Q q =>
  h H1 s _ fun vs H2 s2 ns => ⟨by rw [plen ns]; exact hz, fun p hp => q (.ref p) _ (s2.trans (same_new hp)) (.tup (.inl (.inl upd_same)) (nkAll_mono ns (Same.ts (same_new hp))))⟩
theorem el_lst {ta : TA} (h : Ea K ta σ H ks) (hz : ks.length ≤ sizeLine) : EL (Nk K) (tLst ta) σ H ks := fun H1 s Q q =>
  h H1 s _ fun vs H2 s2 ns => ⟨by rw [plen ns]; exact hz, fun p hp => q p vs _ (fresh_back s2 hp) (s2.trans (same_new hp)) upd_same (nkAll_mono ns (Same.ts (same_new hp)))⟩
/-! subscripts -/
theorem atI_of {α : Type} {xs : List α} {i : Int} {j : Nat} {v : α} (h0 : i = (j : Int)) (h : xs[j]? = some v) : atI xs i = some v := by rw [h0]; exact atI_nat h
theorem ed_ixT {i : Int} {j : Nat} (ha : Ed K ta σ H (.tup ks)) (hb : Ed K tb σ H (.num i)) (hi : i = (j : Int)) (h : ks[j]? = some k) : Ed K (tOp (rIxT K) ta tb) σ H k := fun H1 s Q q =>
  ha H1 s _ fun x H2 s2 n1 => hb H2 (s.trans s2) _ fun y H3 s3 n2 => by
    obtain ⟨a, xs, rfl, hs, hn⟩ := (n1.mono (Same.ts s3)).tup_eq
    obtain ⟨v, hv, nv⟩ := pget hn h
    exact ⟨a, xs, i, v, rfl, n2.int_eq, hs, atI_of hi hv, q v H3 (s2.trans s3) nv⟩
/-- l[i], l a list that stands -/
theorem ed_ixL {l : Addr} {vs : List V} {i : Int} {j : Nat} (hl : SqL K H l vs) (hn : NkAll K H vs ks) (ha : Ev ta σ H (.ref l)) (hb : Ed K tb σ H (.num i)) (hi : i = (j : Int)) (h : ks[j]? = some k) : Ed K (tOp (rIxL K) ta tb) σ H k := fun H1 s Q q =>
  ha H1 s _ fun x H2 s2 n1 => hb H2 (s.trans s2) _ fun y H3 s3 n2 => by
    obtain ⟨v, hv, nv⟩ := pget hn h
    have s13 := s.trans (s2.trans s3)
    exact ⟨l, vs, i, v, n1, n2.int_eq, Same.seq s13 hl, atI_of hi hv, q v H3 (s2.trans s3) (nv.mono (Same.ts s13))⟩
/-- l[-1] -/
theorem ed_lastL {l : Addr} {vs : List V} {i : Int} (hl : SqL K H l vs) (hn : NkAll K H vs (ks ++ [k])) (ha : Ev ta σ H (.ref l)) (hb : Ed K tb σ H (.num i)) (hi : i = -1) : Ed K (tOp (rIxL K) ta tb) σ H k := fun H1 s Q q =>
  ha H1 s _ fun x H2 s2 n1 => hb H2 (s.trans s2) _ fun y H3 s3 n2 => by
    have s13 := s.trans (s2.trans s3)
    have hlen := plen hn
    rw [List.length_append, List.length_singleton] at hlen
    obtain ⟨v, hv, nv⟩ := pget hn (i := ks.length) (y := k) (by simp)
    have hlast : atI vs (-1) = some v := by
      have e : vs = vs.take ks.length ++ [v] := by
        apply List.ext_getElem?
        intro m
        by_cases hm : m < ks.length
        · rw [List.getElem?_append_left (by rw [List.length_take]; omega), List.getElem?_take_of_lt hm]
        · by_cases hm2 : m = ks.length
          · rw [hm2, hv, List.getElem?_append_right (by rw [List.length_take]; omega), List.length_take, show ks.length - min ks.length vs.length = 0 by omega]; rfl
          · rw [List.getElem?_eq_none (by omega), List.getElem?_eq_none (by rw [List.length_append, List.length_take, List.length_singleton]; omega)]
      rw [e]
      exact atI_last _ _
    exact ⟨l, vs, i, v, n1, n2.int_eq, Same.seq s13 hl, by rw [hi]; exact hlast, q v H3 (s2.trans s3) (nv.mono (Same.ts s13))⟩
/-- (a new list)[i] -/
theorem ed_ixN {i : Int} {j : Nat} (ha : EL (Nk K) ta σ H ks) (hb : Ed K tb σ H (.num i)) (hi : i = (j : Int)) (h : ks[j]? = some k) : Ed K (tOp (rIxL K) ta tb) σ H k := fun H1 s Q q =>
  ha H1 s _ fun p vs H2 hp s2 e2 n1 => hb H2 (s.trans s2) _ fun y H3 s3 n2 => by
    obtain ⟨v, hv, nv⟩ := pget n1 h
    exact ⟨p, vs, i, v, rfl, n2.int_eq, .inl (.inl (s3 _ _ e2)), atI_of hi hv, q v H3 (s2.trans s3) (nv.mono (Same.ts s3))⟩
/-! calls -/
theorem er_call {β : Type} {R : Hp → V → β → Prop} {c : β} {ta : TA} {sp : Sp} {E : XK} (h : Ea K ta σ H ks) (hf : ∀ vs H2 Q, Same H H2 → NkAll K H2 vs ks → (∀ v H3, Same H2 H3 → R H3 v c → Q v H3) → sp vs H2 Q E) : ER R (tCall sp [] E ta) σ H c := fun H1 s Q q =>
  h H1 s _ fun vs H2 s2 ns => by
    show sp (vs ++ []) H2 Q E
    rw [List.append_nil]
    exact hf vs H2 Q (s.trans s2) ns fun v H3 s3 r => q v H3 (s2.trans s3) r
theorem el_call {ta : TA} {sp : Sp} {E : XK} {ls : List NK} (h : Ea K ta σ H ks) (hf : ∀ vs H2 Q, Same H H2 → NkAll K H2 vs ks → RetL K ls H2 Q → sp vs H2 Q E) : EL (Nk K) (tCall sp [] E ta) σ H ls := fun H1 s Q q =>
  h H1 s _ fun vs H2 s2 ns => by
    show sp (vs ++ []) H2 Q E
    rw [List.append_nil]
    exact hf vs H2 Q (s.trans s2) ns fun p ws H3 hp s3 e3 n3 => q p ws H3 (fresh_back s2 hp) (s2.trans s3) e3 n3
/-- tuple(a new list) -/
theorem ed_tupleL {r : List V → Hp → VK → Prop} (hr : ∀ p ys H Q, SqL K H p ys → (∀ l, H l = none → Q (.ref l) (upd H l (.tup ys))) → r [.ref p] H Q) (h : EL (Nk K) ta σ H ks) : Ed K (tCB r (tCons ta tNil)) σ H (.tup ks) := fun H1 s Q q =>
  h H1 s _ fun p vs H2 hp s2 e2 n2 => hr p vs H2 Q (.inl (.inl e2)) fun l hl => q (.ref l) _ (s2.trans (same_new hl)) (.tup (.inl (.inl upd_same)) (nkAll_mono n2 (Same.ts (same_new hl))))
/-- tuple(a list that stands) -/
theorem ed_tupleV {r : List V → Hp → VK → Prop} (hr : ∀ p ys H Q, SqL K H p ys → (∀ l, H l = none → Q (.ref l) (upd H l (.tup ys))) → r [.ref p] H Q) {l : Addr} {vs : List V} (hl : SqL K H l vs) (hn : NkAll K H vs ks) (h : Ev ta σ H (.ref l)) : Ed K (tCB r (tCons ta tNil)) σ H (.tup ks) := fun H1 s Q q =>
  h H1 s _ fun x H2 s2 e => by
    have e : x = .ref l := e
    subst e
    exact hr l vs H2 Q (Same.seq (s.trans s2) hl) fun p hp => q (.ref p) _ (s2.trans (same_new hp)) (.tup (.inl (.inl upd_same)) (nkAll_mono hn (Same.ts ((s.trans s2).trans (same_new hp)))))
theorem tof_list {X : Cx} : ∀ p ys H (Q : VK), SqL X.K H p ys → (∀ l, H l = none → Q (.ref l) (upd H l (.tup ys))) → (fun (xs : List V) (H : Hp) (Q : VK) => ∃ p ys, xs = [V.ref p] ∧ ((SqL X.K H p ys ∧ ∀ l, H l = none → Q (.ref l) (upd H l (.tup ys))) ∨ (SqT X.K H p ys ∧ Q (.ref p) H))) [.ref p] H Q :=
  fun p ys H Q h q => ⟨p, ys, rfl, .inl ⟨h, q⟩⟩
theorem ed_lenT {r : List V → Hp → VK → Prop} (hr : ∀ p ys H Q, SqT K H p ys → Q (.int ys.length) H → r [.ref p] H Q) (h : Ed K ta σ H (.tup ks)) : Ed K (tCB r (tCons ta tNil)) σ H (.num ks.length) := fun H1 s Q q =>
  h H1 s _ fun x H2 s2 n => by
    obtain ⟨a, xs, rfl, hs, hn⟩ := n.tup_eq
    exact hr a xs H2 Q hs (by rw [plen hn]; exact q _ H2 s2 (.int _))
theorem ed_sum {ns : List Int} {r : List V → Hp → VK → Prop} (hr : ∀ a (ns : List Int) H Q, SqL K H a (ns.map V.int) → Q (.int ns.sum) H → r [.ref a] H Q) (h : EL (Nk K) ta σ H (ns.map .num)) : Ed K (tCB r (tCons ta tNil)) σ H (.num ns.sum) := fun H1 s Q q =>
  h H1 s _ fun p vs H2 hp s2 e2 n2 => hr p ns H2 Q (by rw [nk_ints n2] at e2; exact .inl (.inl e2)) (q _ H2 s2 (.int _))
abbrev IsBl : Hp → V → Bool → Prop := fun _ v b => v = .bl b
theorem bls_eq : ∀ {vs : List V} {bs : List Bool}, Paired (IsBl H) vs bs → vs = bs.map V.bl
  | _, [], h => by cases h; rfl
  | _, b :: bs, h => by
    cases h with
    | cons a r => rw [show _ = V.bl b from a, bls_eq r]; rfl
theorem ev_anyall {f : List Bool → Bool} {bs : List Bool} {r : List V → Hp → VK → Prop} (hr : ∀ a (bs : List Bool) H Q, SqL K H a (bs.map V.bl) → Q (.bl (f bs)) H → r [.ref a] H Q) (h : EL IsBl ta σ H bs) : Ev (tCB r (tCons ta tNil)) σ H (.bl (f bs)) := fun H1 s Q q =>
  h H1 s _ fun p vs H2 hp s2 e2 n2 => hr p bs H2 Q (by rw [bls_eq n2] at e2; exact .inl (.inl e2)) (q _ H2 s2 rfl)
/-! slices -/
def EO (to : TO) (σ : L2.St) (H : Hp) (o : Option Int) : Prop := ∀ H1, Same H H1 → ∀ Q : Option Int → Hp → Prop, (∀ H2, Same H1 H2 → Q o H2) → to σ H1 Q
theorem eo_none : EO tNoPart σ H none := fun H1 _ Q q => q H1 (Same.refl H1)
theorem eo_some {i : Int} (h : Ed K te σ H (.num i)) : EO (tPart te) σ H (some i) := fun H1 s Q q => h H1 s _ fun v H2 s2 n => ⟨i, n.int_eq, q H2 s2⟩
end

section
variable {K : PySem.W.Frag} {σ : L2.St} {H : Hp} {te : TE} {tl th : TO} {ks : List NK} {lo hi : Option Int} {ls : List NK}
theorem pcut {H : Hp} {xs : List V} (h : NkAll K H xs ks) (lo hi : Option Int) : NkAll K H (cutV xs lo hi) ((ks.drop (HT.sIx ks.length 0 lo)).take (HT.sIx ks.length ks.length hi - HT.sIx ks.length 0 lo)) := by
  unfold cutV
  rw [plen h]
  exact ptake _ (pdrop _ h)
theorem whole_cut {n : Nat} {ks : List NK} {lo hi : Option Int} (hn : ks.length = n) (h : HT.sIx n 0 lo = 0 ∧ HT.sIx n n hi = n) : ((ks.drop (HT.sIx ks.length 0 lo)).take (HT.sIx ks.length ks.length hi - HT.sIx ks.length 0 lo)) = ks := by
  subst hn
  rw [h.1, h.2, List.drop_zero, Nat.sub_zero, List.take_length]
/-- t[lo:hi], t a tuple -/
theorem ed_slT (h : Ed K te σ H (.tup ks)) (h1 : EO tl σ H lo) (h2 : EO th σ H hi) (e : ((ks.drop (HT.sIx ks.length 0 lo)).take (HT.sIx ks.length ks.length hi - HT.sIx ks.length 0 lo)) = ls) : Ed K (tSl (rSlA K) te tl th) σ H (.tup ls) := fun H1 s Q q =>
  h H1 s _ fun x H2 s2 n => h1 H2 (s.trans s2) _ fun H3 s3 => h2 H3 ((s.trans s2).trans s3) _ fun H4 s4 => by
    obtain ⟨a, xs, rfl, hs, hn⟩ := (n.mono (Same.ts (s3.trans s4))).tup_eq
    have s14 := s2.trans (s3.trans s4)
    refine ⟨a, xs, rfl, hs, fun hw => ?_, fun hw p hp => ?_⟩
    · refine q _ H4 s14 ?_
      rw [← e, whole_cut (plen hn).symm hw]
      exact .tup hs hn
    · refine q _ _ (s14.trans (same_new hp)) (.tup (.inl (.inl upd_same)) ?_)
      rw [← e]
      exact nkAll_mono (pcut hn lo hi) (Same.ts (same_new hp))
/-- a slice of a list that stands: a new list -/
theorem el_slL {l : Addr} {vs : List V} (hl : SqL K H l vs) (hn : NkAll K H vs ks) (h : Ev te σ H (.ref l)) (h1 : EO tl σ H lo) (h2 : EO th σ H hi) (e : ((ks.drop (HT.sIx ks.length 0 lo)).take (HT.sIx ks.length ks.length hi - HT.sIx ks.length 0 lo)) = ls) : EL (Nk K) (tSl (rSlL K) te tl th) σ H ls := fun H1 s Q q =>
  h H1 s _ fun x H2 s2 n => h1 H2 (s.trans s2) _ fun H3 s3 => h2 H3 ((s.trans s2).trans s3) _ fun H4 s4 => by
    have n : x = .ref l := n
    subst n
    have s14 := s2.trans (s3.trans s4)
    refine ⟨l, vs, rfl, Same.seq (s.trans s14) hl, fun p hp => q p _ _ (fresh_back s14 hp) (s14.trans (same_new hp)) upd_same ?_⟩
    rw [← e]
    exact nkAll_mono (pcut hn lo hi) (Same.ts ((s.trans s14).trans (same_new hp)))
theorem ed_revT (h : Ed K te σ H (.tup ks)) : Ed K (tRevT K te) σ H (.tup ks.reverse) := fun H1 s Q q =>
  h H1 s _ fun x H2 s2 n => by
    obtain ⟨a, xs, rfl, hs, hn⟩ := n.tup_eq
    exact ⟨a, xs, rfl, hs, fun p hp => q _ _ (s2.trans (same_new hp)) (.tup (.inl (.inl upd_same)) (nkAll_mono (prev hn) (Same.ts (same_new hp))))⟩
/-- t + u -/
theorem ed_catT {ta tb : TE} {ls : List NK} (ha : Ed K ta σ H (.tup ks)) (hb : Ed K tb σ H (.tup ls)) (hz : ks.length + ls.length ≤ sizeLine) : Ed K (tOp (rCatA K) ta tb) σ H (.tup (ks ++ ls)) := fun H1 s Q q =>
  ha H1 s _ fun x H2 s2 n1 => hb H2 (s.trans s2) _ fun y H3 s3 n2 => by
    obtain ⟨a, xs, rfl, hs, hn⟩ := (n1.mono (Same.ts s3)).tup_eq
    obtain ⟨b, ys, rfl, hs2, hn2⟩ := n2.tup_eq
    have l1 := plen hn
    have l2 := plen hn2
    refine ⟨a, b, xs, ys, rfl, rfl, hs, hs2, by omega, fun e => ?_, fun _ e => ?_, fun _ _ p hp => ?_⟩
    · subst e; cases hn; exact q _ H3 (s2.trans s3) (.tup hs2 hn2)
    · subst e; cases hn2; rw [List.append_nil] at q; exact q _ H3 (s2.trans s3) (.tup hs hn)
    · exact q _ _ ((s2.trans s3).trans (same_new hp)) (.tup (.inl (.inl upd_same)) (nkAll_mono (papp hn hn2) (Same.ts (same_new hp))))
theorem prep {α β : Type} {F : α → β → Prop} {l : List α} {m : List β} (h : Paired F l m) : ∀ n : Nat, Paired F (List.replicate n l).flatten (List.replicate n m).flatten
  | 0 => .nil
  | n + 1 => by rw [List.replicate_succ, List.replicate_succ, List.flatten_cons, List.flatten_cons]; exact papp h (prep h n)
/-- (x,) * n -/
theorem ed_repT {ta tb : TE} {n : Int} (ha : Ed K ta σ H (.tup ks)) (hb : Ed K tb σ H (.num n)) (h0 : ks ≠ []) (h2 : 2 ≤ n) (h3 : n ≤ 1000) (h4 : ks.length ≤ 1000) : Ed K (tOp (rRepT K) ta tb) σ H (.tup (List.replicate n.toNat ks).flatten) := fun H1 s Q q =>
  ha H1 s _ fun x H2 s2 n1 => hb H2 (s.trans s2) _ fun y H3 s3 n2 => by
    obtain ⟨a, xs, rfl, hs, hn⟩ := (n1.mono (Same.ts s3)).tup_eq
    have l1 := plen hn
    refine ⟨a, n, xs, rfl, n2.int_eq, hs, fun e => ?_, h2, h3, by omega, fun p hp => q _ _ ((s2.trans s3).trans (same_new hp)) (.tup (.inl (.inl upd_same)) (nkAll_mono (prep hn _) (Same.ts (same_new hp))))⟩
    subst e
    cases hn
    exact h0 rfl
end
end NM
namespace NM
open PySem PySem.Spec PyProof.Rows L2

section
variable {K : PySem.W.Frag} {σ : L2.St} {H H' : Hp} {ta tb tc te tx : TE} {t u : TT} {x y z v : V} {Γ : List Sl} {k : NK} {ks : List NK} {b : Bool} {D : Ends} {tz tu tw : L2.TS}
/-! ### statements, something behind -/
theorem q_setD {i : Nat} (E : Env K H σ Γ) (h : Ed K te σ H k) (c : ∀ σ' H1, Same H H1 → Env K H1 σ' (Γ.set i (.d k)) → tz D σ' H1) : tSeq (tAsg te (gName i)) tz D σ H :=
  h H (Same.refl H) _ fun v H1 s n => c _ H1 s ((E.ts (Same.ts s)).setD n i)
theorem q_setV {i : Nat} (E : Env K H σ Γ) (h : Ev te σ H v) (c : ∀ σ' H1, Same H H1 → Env K H1 σ' (Γ.set i (.v v)) → tz D σ' H1) : tSeq (tAsg te (gName i)) tz D σ H :=
  h H (Same.refl H) _ fun w H1 s n => by
    have n : w = v := n
    subst n
    exact c _ H1 s ((E.ts (Same.ts s)).setV w i)
theorem q_setL {i : Nat} (E : Env K H σ Γ) (h : EL (Nk K) te σ H ks) (c : ∀ p vs σ' H1, H p = none → Same H H1 → H1 p = some (.lst vs) → NkAll K H1 vs ks → Env K H1 σ' (Γ.set i (.v (.ref p))) → tz D σ' H1) : tSeq (tAsg te (gName i)) tz D σ H :=
  h H (Same.refl H) _ fun p vs H1 hp s e n => c p vs _ H1 hp s e n ((E.ts (Same.ts s)).setV (.ref p) i)
theorem q_par {i j : Nat} {ta : TA} {k1 k2 : NK} (E : Env K H σ Γ) (h : Ea K ta σ H [k1, k2]) (c : ∀ σ' H1, Same H H1 → Env K H1 σ' ((Γ.set i (.d k1)).set j (.d k2)) → tz D σ' H1) : tSeq (tPar i j ta) tz D σ H :=
  h H (Same.refl H) _ fun vs H1 s n => by
    cases n with
    | cons n1 r => cases r with
      | cons n2 r => cases r with
        | nil => exact ⟨_, _, rfl, c _ H1 s (((E.ts (Same.ts s)).setD n1 i).setD n2 j)⟩
theorem s_par {i j : Nat} {ta : TA} {k1 k2 : NK} (E : Env K H σ Γ) (h : Ea K ta σ H [k1, k2]) (c : ∀ σ' H1, Same H H1 → Env K H1 σ' ((Γ.set i (.d k1)).set j (.d k2)) → D.nx σ' H1) : tPar i j ta D σ H :=
  h H (Same.refl H) _ fun vs H1 s n => by
    cases n with
    | cons n1 r => cases r with
      | cons n2 r => cases r with
        | nil => exact ⟨_, _, rfl, c _ H1 s (((E.ts (Same.ts s)).setD n1 i).setD n2 j)⟩
theorem s_setD {i : Nat} (E : Env K H σ Γ) (h : Ed K te σ H k) (c : ∀ σ' H1, Same H H1 → Env K H1 σ' (Γ.set i (.d k)) → D.nx σ' H1) : tAsg te (gName i) D σ H :=
  h H (Same.refl H) _ fun v H1 s n => c _ H1 s ((E.ts (Same.ts s)).setD n i)
theorem s_setV {i : Nat} (E : Env K H σ Γ) (h : Ev te σ H v) (c : ∀ σ' H1, Same H H1 → Env K H1 σ' (Γ.set i (.v v)) → D.nx σ' H1) : tAsg te (gName i) D σ H :=
  h H (Same.refl H) _ fun w H1 s n => by
    have n : w = v := n
    subst n
    exact c _ H1 s ((E.ts (Same.ts s)).setV w i)
theorem s_setL {i : Nat} (E : Env K H σ Γ) (h : EL (Nk K) te σ H ks) (c : ∀ p vs σ' H1, H p = none → Same H H1 → H1 p = some (.lst vs) → NkAll K H1 vs ks → Env K H1 σ' (Γ.set i (.v (.ref p))) → D.nx σ' H1) : tAsg te (gName i) D σ H :=
  h H (Same.refl H) _ fun p vs H1 hp s e n => c p vs _ H1 hp s e n ((E.ts (Same.ts s)).setV (.ref p) i)
theorem q_ifT (h : Et t σ H true) (c : ∀ H1, Same H H1 → tu { D with nx := tz D } σ H1) : tSeq (tIfS t tu tw) tz D σ H := h H (Same.refl H) _ fun H1 s => iteT (c H1 s)
theorem q_ifF (h : Et t σ H false) (c : ∀ H1, Same H H1 → tw { D with nx := tz D } σ H1) : tSeq (tIfS t tu tw) tz D σ H := h H (Same.refl H) _ fun H1 s => iteF (c H1 s)
/-- an if without else that isn't taken -/
theorem q_ifN (h : Et t σ H false) (c : ∀ H1, Same H H1 → tz D σ H1) : tSeq (tIfS t tu tNext) tz D σ H := h H (Same.refl H) _ fun H1 s => iteF (c H1 s)
theorem s_ifT (h : Et t σ H true) (c : ∀ H1, Same H H1 → tu D σ H1) : tIfS t tu tw D σ H := h H (Same.refl H) _ fun H1 s => iteT (c H1 s)
theorem s_ifF (h : Et t σ H false) (c : ∀ H1, Same H H1 → tw D σ H1) : tIfS t tu tw D σ H := h H (Same.refl H) _ fun H1 s => iteF (c H1 s)
theorem s_ifN (h : Et t σ H false) (c : ∀ H1, Same H H1 → D.nx σ H1) : tIfS t tu tNext D σ H := h H (Same.refl H) _ fun H1 s => iteF (c H1 s)
theorem s_retD (h : Ed K te σ H k) (c : ∀ v H1, Same H H1 → Nk K H1 v k → D.rt v H1) : tRet te D σ H := h H (Same.refl H) _ fun v H1 s n => c v H1 s n
theorem s_retV (h : Ev te σ H v) (c : ∀ H1, Same H H1 → D.rt v H1) : tRet te D σ H := h H (Same.refl H) _ fun w H1 s n => by
  have n : w = v := n
  subst n
  exact c H1 s
theorem s_retL (h : EL (Nk K) te σ H ks) (c : ∀ p vs H1, H p = none → Same H H1 → H1 p = some (.lst vs) → NkAll K H1 vs ks → D.rt (.ref p) H1) : tRet te D σ H := h H (Same.refl H) _ fun p vs H1 hp s e n => c p vs H1 hp s e n
theorem q_drop (h : Ev te σ H v) (c : ∀ H1, Same H H1 → tz D σ H1) : tSeq (tDrop te) tz D σ H := h H (Same.refl H) _ fun w H1 s _ => c H1 s
theorem s_drop (h : Ev te σ H v) (c : ∀ H1, Same H H1 → D.nx σ H1) : tDrop te D σ H := h H (Same.refl H) _ fun w H1 s _ => c H1 s
/-- l.append(e) -/
theorem s_app {l : Addr} {vs : List V} (hl : H l = some (.lst vs)) (hn : NkAll K H vs ks) (ha : Ev ta σ H (.ref l)) (h : Ed K te σ H k) (hz : vs.length < 100000)
    (c : ∀ ws H1, KeepL [l] H H1 → TSt K H H1 → H1 l = some (.lst ws) → NkAll K H1 ws (ks ++ [k]) → D.nx σ H1) : tDrop (tBM K "list" rAppend ta (tCons te tNil)) D σ H :=
  ha H (Same.refl H) _ fun x H1 s e => by
    have e : x = .ref l := e
    subst e
    have h1 := s _ _ hl
    refine ⟨.inl ⟨rfl, vs, .inl (.inl h1)⟩, ?_⟩
    refine h H1 s _ fun v H2 s2 n => ?_
    have h2 := s2 _ _ h1
    have tl : TSt K H2 (upd H2 l (.lst (vs ++ [v]))) := KeepL.ts (keepL_upd (L := [l]) (by simp)) (MutL.one h2)
    have tt := (Same.ts (K := K) (s.trans s2)).trans tl
    exact ⟨l, vs, v, rfl, rfl, h2, Nat.lt_of_lt_of_le hz (by decide), c _ _ ((Same.keepL (s.trans s2)).trans (keepL_upd (by simp))) tt upd_same (papp (nkAll_mono hn tt) (.cons (n.mono tl) .nil))⟩
theorem q_app {l : Addr} {vs : List V} (hl : H l = some (.lst vs)) (hn : NkAll K H vs ks) (ha : Ev ta σ H (.ref l)) (h : Ed K te σ H k) (hz : vs.length < 100000)
    (c : ∀ ws H1, KeepL [l] H H1 → TSt K H H1 → H1 l = some (.lst ws) → NkAll K H1 ws (ks ++ [k]) → tz D σ H1) : tSeq (tDrop (tBM K "list" rAppend ta (tCons te tNil))) tz D σ H :=
  s_app (D := { D with nx := tz D }) hl hn ha h hz c
/-- x += e, ints -/
theorem q_augD {i : Nat} {f : Int → Int → Int} {m n : Int} (E : Env K H σ Γ) (hx : Γ[i]? = some (.d (.num m))) (h : Ed K te σ H (.num n)) (c : ∀ σ' H1, Same H H1 → Env K H1 σ' (Γ.set i (.d (.num (f m n)))) → tz D σ' H1) : tSeq (tAug i te (ipI f)) tz D σ H := by
  obtain ⟨v, e, nv⟩ := E.getD hx
  exact ⟨v, e, h H (Same.refl H) _ fun w H1 s nw => ⟨m, n, nv.int_eq, nw.int_eq, c _ H1 s ((E.ts (Same.ts s)).setD (.int _) i)⟩⟩
theorem s_augD {i : Nat} {f : Int → Int → Int} {m n : Int} (E : Env K H σ Γ) (hx : Γ[i]? = some (.d (.num m))) (h : Ed K te σ H (.num n)) (c : ∀ σ' H1, Same H H1 → Env K H1 σ' (Γ.set i (.d (.num (f m n)))) → D.nx σ' H1) : tAug i te (ipI f) D σ H := by
  obtain ⟨v, e, nv⟩ := E.getD hx
  exact ⟨v, e, h H (Same.refl H) _ fun w H1 s nw => ⟨m, n, nv.int_eq, nw.int_eq, c _ H1 s ((E.ts (Same.ts s)).setD (.int _) i)⟩⟩
end

/-! ### what is walked -/
def YN (K : PySem.W.Frag) (ks : List NK) : Nat → Hp → V → Hp → Prop := fun i H x H' => Same H H' ∧ ∃ k, ks[i]? = some k ∧ Nk K H' x k
/-- wi walks the data ks; of what stood ahead the things at src are walked themselves -/
def Ew (K : PySem.W.Frag) (src : List Addr) (wi : TI) (σ : L2.St) (H : Hp) (ks : List NK) : Prop := ∀ H1, Same H H1 → ∀ R : It → Hp → Prop,
  (∀ J H2 G, Same H1 H2 → Walk J ks.length G (YN K ks) → (∀ L H', MutL L H → (∀ a ∈ src, a ∉ L) → KeepL L H2 H' → G H') → R J H2) → wi σ H1 R
/-- te gives a sequence (t: a tuple) that holds ks -/
def Es (K : PySem.W.Frag) (src : List Addr) (t : Bool) (te : TE) (σ : L2.St) (H : Hp) (ks : List NK) : Prop := ∀ H1, Same H H1 → ∀ Q : VK,
  (∀ a xs H2, Same H1 H2 → SqB t K H2 a xs → NkAll K H2 xs ks → (t = false → a ∈ src ∨ H a = none) → Q (.ref a) H2) → te σ H1 Q
section
variable {K : PySem.W.Frag} {σ : L2.St} {H H' H2 : Hp} {ta tb te tl : TE} {ks ls : List NK} {src s1 s2 : List Addr}
theorem MutL.mono {L : List Addr} (m : MutL L H) (s : Same H H') : MutL L H' := fun l q => by
  rcases m l q with ⟨xs, e⟩ | ⟨φ, e⟩
  · exact .inl ⟨xs, s _ _ e⟩
  · exact .inr ⟨φ, s _ _ e⟩
theorem MutL.not_fresh {L : List Addr} (m : MutL L H) {a : Addr} (h : H a = none) : a ∉ L := fun q => by
  rcases m a q with ⟨xs, e⟩ | ⟨φ, e⟩ <;> (rw [h] at e; cases e)
theorem es_tup (h : Ed K te σ H (.tup ks)) : Es K [] true te σ H ks := fun H1 s Q q => h H1 s _ fun v H2 s2 n => by
  obtain ⟨a, xs, rfl, hs, hn⟩ := n.tup_eq
  exact q a xs H2 s2 hs hn (fun e => nomatch e)
theorem es_list {l : Addr} {vs : List V} (hl : SqL K H l vs) (hn : NkAll K H vs ks) (h : Ev te σ H (.ref l)) : Es K [l] false te σ H ks := fun H1 s Q q => h H1 s _ fun v H2 s2 n => by
  have n : v = .ref l := n
  subst n
  exact q l vs H2 s2 (Same.seq (s.trans s2) hl) (nkAll_mono hn (Same.ts (s.trans s2))) (fun _ => .inl (by simp))
theorem es_new (h : EL (Nk K) te σ H ks) : Es K [] false te σ H ks := fun H1 s Q q => h H1 s _ fun p vs H2 hp s2 e n => q p vs H2 s2 (.inl (.inl e)) n (fun _ => .inr (fresh_back s hp))
theorem seqB_keep {t : Bool} {L : List Addr} {a : Addr} {xs : List V} (sq : SqB t K H2 a xs) (s : Same H H2) (ha : t = false → a ∈ src ∨ H a = none) (m : MutL L H) (hs : ∀ a ∈ src, a ∉ L) (k : KeepL L H2 H') : SqB t K H' a xs := by
  cases t with
  | true => exact k.ts (m.mono s) a xs sq
  | false => exact k.sqL (by
      rcases ha rfl with q | q
      · exact hs a q
      · exact m.not_fresh q) sq
theorem ew_tup (h : Es K src true tl σ H ks) : Ew K src (iTup K tl) σ H ks := fun H1 s R q => h H1 s _ fun a xs H2 s2 sq hn ha =>
  ⟨a, rfl, ⟨xs, sq⟩, q (Itt K a) H2 (fun H' => SqT K H' a xs ∧ NkAll K H' xs ks) s2 (by
    rw [← plen hn]
    exact (walk_tup (K := K) (a := a) (xs := xs)).mono (fun _ g => g.1) fun i H x H' _ g y => by
      obtain ⟨rfl, hx⟩ := y
      exact ⟨Same.refl _, pget' g.2 hx⟩) fun L H' m hs k => ⟨k.ts (m.mono (s.trans s2)) a xs sq, nkAll_mono hn (k.ts (m.mono (s.trans s2)))⟩⟩
theorem ew_list (h : Es K src false tl σ H ks) : Ew K src (iList K tl) σ H ks := fun H1 s R q => h H1 s _ fun a xs H2 s2 sq hn ha =>
  ⟨a, rfl, ⟨xs, sq⟩, q (Itl K a) H2 (fun H' => SqL K H' a xs ∧ NkAll K H' xs ks) s2 (by
    rw [← plen hn]
    exact (walk_list (K := K) (a := a) (xs := xs)).mono (fun _ g => g.1) fun i H x H' _ g y => by
      obtain ⟨rfl, hx⟩ := y
      exact ⟨Same.refl _, pget' g.2 hx⟩) fun L H' m hs k => ⟨seqB_keep (t := false) sq (s.trans s2) ha m hs k, nkAll_mono hn (k.ts (m.mono (s.trans s2)))⟩⟩
/-- lo, lo + 1, .. (n of them) -/
def rangeK (lo : Int) (n : Nat) : List NK := (List.range n).map fun (i : Nat) => .num (lo + (i : Int))
theorem rangeK_len (lo : Int) (n : Nat) : (rangeK lo n).length = n := by simp [rangeK]
theorem rangeK_get {lo : Int} {n i : Nat} (h : i < n) : (rangeK lo n)[i]? = some (.num (lo + (i : Int))) := by simp [rangeK, h]
theorem walk_rangeK (lo : Int) (n : Nat) : Walk (Itr lo n) (rangeK lo n).length (fun _ => True) (YN K (rangeK lo n)) := by
  rw [rangeK_len]
  exact (walk_range (lo := lo) (n := n)).mono (fun _ g => g) fun i H x H' hi g y => by
    obtain ⟨rfl, rfl⟩ := y
    exact ⟨Same.refl _, _, rangeK_get hi, .int _⟩
theorem ew_range1 {ta : TA} {n : Int} (h : Ea K ta σ H [.num n]) (h0 : -(2 ^ 62) ≤ n) (h1 : n < 2 ^ 62) : Ew K [] (iRng1 ta) σ H (rangeK 0 n.toNat) := fun H1 s R q => h H1 s _ fun vs H2 s2 ns => by
  cases ns with
  | cons a r => cases r with
    | nil => exact ⟨n, by rw [a.int_eq], h0, h1, q (Itr 0 n.toNat) H2 (fun _ => True) s2 (walk_rangeK 0 n.toNat) fun _ _ _ _ _ => True.intro⟩
theorem ew_range2 {ta : TA} {m n : Int} (h : Ea K ta σ H [.num m, .num n]) (h0 : -(2 ^ 62) ≤ m ∧ m < 2 ^ 62 ∧ -(2 ^ 62) ≤ n ∧ n < 2 ^ 62) : Ew K [] (iRng2 ta) σ H (rangeK m (n - m).toNat) := fun H1 s R q => h H1 s _ fun vs H2 s2 ns => by
  cases ns with
  | cons a r => cases r with
    | cons b r => cases r with
      | nil => exact ⟨m, n, by rw [a.int_eq, b.int_eq], h0, q (Itr m (n - m).toNat) H2 (fun _ => True) s2 (walk_rangeK m _) fun _ _ _ _ _ => True.intro⟩
def pairK (a b : NK) : NK := .tup [a, b]
def zipK (ks ls : List NK) : List NK := List.zipWith pairK ks ls
theorem Nk.pair {T : Addr} {x y : V} {a b : NK} (ha : Nk K H x a) (hb : Nk K H y b) (hT : H T = none) : Nk K (upd H T (.tup [x, y])) (.ref T) (pairK a b) :=
  .tup (.inl (.inl upd_same)) (.cons (ha.mono (Same.ts (same_new hT))) (.cons (hb.mono (Same.ts (same_new hT))) .nil))
theorem ew_zip {t u : Bool} (h1 : Es K s1 t ta σ H ks) (h2 : Es K s2 u tb σ H ls) : Ew K (s1 ++ s2) (iZipB t u K (tCons ta (tCons tb tNil))) σ H (zipK ks ls) := fun H1 s R q => h1 H1 s _ fun a xs H2 s2' sq hn ha => h2 H2 (s.trans s2') _ fun b ys H3 s3 sq2 hn2 hb => by
  have sq' : SqB t K H3 a xs := by
    cases t with
    | true => exact Same.ts s3 a xs sq
    | false => exact Same.seq s3 sq
  have hn' := nkAll_mono hn (Same.ts (K := K) s3)
  have s13 := (s.trans s2').trans s3
  refine ⟨a, b, xs, ys, rfl, sq', sq2, q (ItzB t u K a b) H3 (fun H' => (SqB t K H' a xs ∧ SqB u K H' b ys) ∧ NkAll K H' xs ks ∧ NkAll K H' ys ls) (s2'.trans s3) ?_ fun L H' m hs k => ?_⟩
  · refine (walk_zipB (t := t) (u := u) (K := K) (a := a) (b := b) (xs := xs) (ys := ys) (n := (zipK ks ls).length) (by rw [zipK, List.length_zipWith, plen hn, plen hn2])).mono (fun _ g => g.1) fun i H x H' _ g y => ?_
    obtain ⟨T, v, w, rfl, hT, rfl, e1, e2⟩ := y
    obtain ⟨k1, g1, n1⟩ := pget' g.2.1 e1
    obtain ⟨k2, g2, n2⟩ := pget' g.2.2 e2
    exact ⟨same_new hT, pairK k1 k2, by rw [zipK, List.getElem?_zipWith, g1, g2], n1.pair n2 hT⟩
  · have tt := k.ts (K := K) (m.mono s13)
    exact ⟨⟨seqB_keep (src := s1) sq' s13 ha m (fun x hx => hs x (List.mem_append_left _ hx)) k, seqB_keep (src := s2) sq2 s13 hb m (fun x hx => hs x (List.mem_append_right _ hx)) k⟩, nkAll_mono hn' tt, nkAll_mono hn2 tt⟩
def enumK (ks : List NK) : List NK := zipK (rangeK 0 ks.length) ks
theorem ew_enum {t : Bool} (h1 : Es K src t ta σ H ks) : Ew K src (iEnumB t K (tCons ta tNil)) σ H (enumK ks) := fun H1 s R q => h1 H1 s _ fun a xs H2 s2' sq hn ha => by
  refine ⟨a, xs, rfl, sq, q (IteB t K a) H2 (fun H' => SqB t K H' a xs ∧ NkAll K H' xs ks) s2' ?_ fun L H' m hs k => ⟨seqB_keep sq (s.trans s2') ha m hs k, nkAll_mono hn (k.ts (m.mono (s.trans s2')))⟩⟩
  have hl : (enumK ks).length = xs.length := by rw [enumK, zipK, List.length_zipWith, rangeK_len, Nat.min_self, plen hn]
  rw [hl]
  refine (walk_enumB (t := t) (K := K) (a := a) (xs := xs)).mono (fun _ g => g.1) fun i H x H' hi g y => ?_
  obtain ⟨T, v, w, rfl, hT, rfl, e1, e2⟩ := y
  obtain ⟨k2, g2, n2⟩ := pget' g.2 e2
  have hv : v = .int (i : Nat) := (Option.some.inj e1).symm
  subst hv
  have e0 : (0 : Int) + (i : Int) = (i : Int) := Int.zero_add _
  exact ⟨same_new hT, pairK (.num i) k2, by rw [enumK, zipK, List.getElem?_zipWith, rangeK_get (by rw [← plen hn]; exact hi), g2, e0], (Nk.int _).pair n2 hT⟩
end

/-! ### targets -/
def Tg (K : PySem.W.Frag) (g : TG) (js : List Nat) (k : NK) (Γ Γ' : List Sl) : Prop := ∀ x σ H (Q : L2.St → Hp → Prop), Nk K H x k → Env K H σ Γ → (∀ σ', Env K H σ' Γ' → (∀ ws, (∀ j ∈ js, j ∈ ws) → wipe σ' ws = wipe σ ws) → Q σ' H) → g x σ H Q
theorem tg_name {K : PySem.W.Frag} {j : Nat} {k : NK} {Γ : List Sl} : Tg K (gName j) [j] k Γ (Γ.set j (.d k)) := fun x σ H Q n E q => q _ (E.setD n j) fun ws hw => wipe_set ws σ (hw j (by simp))
theorem tg_pair {K : PySem.W.Frag} {i j : Nat} {a b : NK} {Γ : List Sl} : Tg K (gTup K 2 (gCons (gName i) (gCons (gName j) gNil))) [i, j] (.tup [a, b]) Γ ((Γ.set i (.d a)).set j (.d b)) := fun x σ H Q n E q => by
  obtain ⟨T, xs, rfl, hs, hn⟩ := n.tup_eq
  cases hn with
  | cons n1 r => cases r with
    | cons n2 r => cases r with
      | nil => exact ⟨T, _, rfl, hs, rfl, _, _, rfl, _, _, rfl, rfl, q _ ((E.setD n1 i).setD n2 j) fun ws hw => by rw [wipe_set ws _ (hw j (by simp)), wipe_set ws _ (hw i (by simp))]⟩

/-! ### comprehensions -/
theorem ts_upd {K : PySem.W.Frag} {H : Hp} {l : Addr} {xs : List V} {o : HO} (h : H l = some (.lst xs)) : TSt K H (upd H l o) := KeepL.ts (keepL_upd (L := [l]) (by simp)) (MutL.one h)
theorem el_lc {K : PySem.W.Frag} {β : Type} {R : Hp → V → β → Prop} (hR : ∀ H H' v b, TSt K H H' → R H v b → R H' v b) {src : List Addr} {wi : TI} {g : TG} {tt : TT} {te : TE} {vs : List Nat} {σ : L2.St} {H : Hp} {ks : List NK} {Γ : List Sl}
    (hw : Ew K src wi σ H ks) (E : Env K H σ Γ) (hz : ks.length < 100000) {js : List Nat} (hj : ∀ j ∈ js, j ∈ vs) (Γt : NK → List Sl) (keep : NK → Bool) (val : NK → β)
    (hg : ∀ k ∈ ks, Tg K g js k (wipeG Γ vs) (Γt k))
    (ht : ∀ k σ' H', k ∈ ks → Same H H' → Env K H' σ' (Γt k) → Et tt σ' H' (keep k))
    (he : ∀ k σ' H', k ∈ ks → Same H H' → keep k = true → Env K H' σ' (Γt k) → ER R te σ' H' (val k)) : EL R (tLc wi g tt te vs) σ H ((ks.filter keep).map val) := fun H1 s Q q =>
  hw H1 s _ fun J H2 G s2 W stab D hD => lc_it W (fun i H' => ∃ acc, H' D = some (.lst acc) ∧ Same H2 H' ∧ Paired (R H') acc (((ks.take i).filter keep).map val)) ⟨[], upd_same, same_new hD, by rw [List.take_zero]; exact .nil⟩
    (fun i H' _ ⟨acc, _, s3, _⟩ => stab [] H' MutL.nil (fun _ _ h => nomatch h) (Same.keepL s3)) (fun i x H3 H4 hi p y => by
      obtain ⟨acc, e3, s3, hp⟩ := p
      obtain ⟨s4, k, hk, nk⟩ := y
      have hmem : k ∈ ks := List.mem_of_getElem? hk
      have s04 : Same H H4 := ((s.trans s2).trans s3).trans s4
      refine hg k hmem x (wipe σ vs) H4 _ nk ((E.ts (Same.ts s04)).wipe vs) fun σ2 E2 hwp => ⟨(hwp vs hj).trans (wipe_idem σ vs), ?_⟩
      refine ht k σ2 H4 hmem s04 E2 H4 (Same.refl _) _ fun H5 s5 => ?_
      have hlen : acc.length ≤ i := by
        rw [plen hp, List.length_map]
        exact Nat.le_trans (List.length_filter_le _ _) (by rw [List.length_take]; omega)
      have e5 := s5 _ _ (s4 _ _ e3)
      have htake : ks.take (i + 1) = ks.take i ++ [k] := by rw [List.take_add_one, hk]; rfl
      cases hkp : keep k with
      | true =>
        refine iteT (he k σ2 H4 hmem s04 hkp E2 H5 s5 _ fun v H6 s6 r => ?_)
        have e6 := s6 _ _ e5
        refine ⟨acc, e6, Nat.lt_of_le_of_lt hlen (Nat.lt_of_lt_of_le (Nat.lt_trans hi hz) (by decide)), acc ++ [v], upd_same, same_mut (((s3.trans s4).trans s5).trans s6) hD, ?_⟩
        rw [htake, List.filter_append, List.map_append, show [k].filter keep = [k] by rw [List.filter_cons, if_pos hkp]; rfl]
        have tl := ts_upd (K := K) (o := .lst (acc ++ [v])) e6
        exact papp (Paired.mapP hp fun _ _ h => hR _ _ _ _ ((Same.ts ((s4.trans s5).trans s6)).trans tl) h) (.cons (hR _ _ _ _ tl r) .nil)
      | false =>
        refine iteF ⟨acc, e5, (s3.trans s4).trans s5, ?_⟩
        rw [htake, List.filter_append, List.map_append, show [k].filter keep = [] by rw [List.filter_cons, if_neg (by rw [hkp]; exact Bool.false_ne_true)]; rfl, List.map_nil, List.append_nil]
        exact Paired.mapP hp fun _ _ h => hR _ _ _ _ (Same.ts (s4.trans s5)) h)
    (fun H' ⟨acc, e, s3, hp⟩ => by
      rw [List.take_length] at hp
      exact q D acc H' (fresh_back s2 hD) (s2.trans s3) e hp)
theorem et_yes {σ : L2.St} {H : Hp} : Et tYes σ H true := fun H1 _ Q q => q H1 (Same.refl H1)
theorem nk_ts {K : PySem.W.Frag} : ∀ (H H' : Hp) (v : V) (k : NK), TSt K H H' → Nk K H v k → Nk K H' v k := fun _ _ _ _ t h => h.mono t
theorem bl_ts {K : PySem.W.Frag} : ∀ (H H' : Hp) (v : V) (b : Bool), TSt K H H' → IsBl H v b → IsBl H' v b := fun _ _ _ _ _ h => h
/-- without a test -/
theorem el_lcA {K : PySem.W.Frag} {β : Type} {R : Hp → V → β → Prop} (hR : ∀ H H' v b, TSt K H H' → R H v b → R H' v b) {src : List Addr} {wi : TI} {g : TG} {te : TE} {vs : List Nat} {σ : L2.St} {H : Hp} {ks : List NK} {Γ : List Sl}
    (hw : Ew K src wi σ H ks) (E : Env K H σ Γ) (hz : ks.length < 100000) {js : List Nat} (hj : ∀ j ∈ js, j ∈ vs) (Γt : NK → List Sl) (val : NK → β)
    (hg : ∀ k ∈ ks, Tg K g js k (wipeG Γ vs) (Γt k))
    (he : ∀ k σ' H', k ∈ ks → Same H H' → Env K H' σ' (Γt k) → ER R te σ' H' (val k)) : EL R (tLc wi g tYes te vs) σ H (ks.map val) := by
  have h := el_lc hR hw E hz hj Γt (fun _ => true) val hg (fun _ _ _ _ _ _ => et_yes) (fun k σ' H' hm s _ e => he k σ' H' hm s e)
  have e : ks.filter (fun _ => true) = ks := List.filter_eq_self.mpr fun _ _ => rfl
  rw [e] at h
  exact h

/-! ### for -/
theorem s_for {K : PySem.W.Frag} {src L : List Addr} {wi : TI} {g : TG} {tu : L2.TS} {σ : L2.St} {H : Hp} {ks : List NK} {D : Ends} (hw : Ew K src wi σ H ks) (hL : MutL L H) (hs : ∀ a ∈ src, a ∉ L) (Pv : Nat → L2.St → Hp → Prop)
    (h0 : ∀ H1, Same H H1 → Pv 0 σ H1)
    (hb : ∀ i k σ1 H1, ks[i]? = some k → KeepL L H H1 → Pv i σ1 H1 → ∀ x H2, Same H1 H2 → Nk K H2 x k → g x σ1 H2 fun σ2 H3 => tu { D with nx := fun σ3 H4 => KeepL L H1 H4 ∧ Pv (i + 1) σ3 H4, ct := fun σ3 H4 => KeepL L H1 H4 ∧ Pv (i + 1) σ3 H4, bk := D.nx } σ2 H3)
    (hd : ∀ σ1 H1, KeepL L H H1 → Pv ks.length σ1 H1 → D.nx σ1 H1) : tFor wi g tu D σ H :=
  hw H (Same.refl H) _ fun J H2 G s2 W stab => by
    refine ⟨fun i m σ1 H1 => m = ks.length - i ∧ i ≤ ks.length ∧ KeepL L H2 H1 ∧ Pv i σ1 H1, ⟨ks.length, rfl, Nat.zero_le _, KeepL.refl, h0 H2 s2⟩, ?_⟩
    rintro i m σ1 H1 ⟨rfl, hi, kp, p⟩
    have g1 := stab L H1 hL hs kp
    by_cases hlt : i < ks.length
    · refine .inr ⟨W.goes i H1 hlt g1, fun σ3 H4 => KeepL L H1 H4 ∧ Pv (i + 1) σ3 H4, fun σ' H' p' => ⟨ks.length - (i + 1), by omega, rfl, hlt, kp.trans p'.1, p'.2⟩, fun x H' y => ?_⟩
      obtain ⟨s4, k, hk, nk⟩ := W.yields i H1 x H' hlt g1 y
      exact hb i k σ1 H1 hk ((Same.keepL s2).trans kp) p x H' s4 nk
    · have e : i = ks.length := by omega
      subst e
      exact .inl ⟨W.stops H1 g1, hd σ1 H1 ((Same.keepL s2).trans kp) p⟩
theorem q_for {K : PySem.W.Frag} {src L : List Addr} {wi : TI} {g : TG} {tu tz : L2.TS} {σ : L2.St} {H : Hp} {ks : List NK} {D : Ends} (hw : Ew K src wi σ H ks) (hL : MutL L H) (hs : ∀ a ∈ src, a ∉ L) (Pv : Nat → L2.St → Hp → Prop)
    (h0 : ∀ H1, Same H H1 → Pv 0 σ H1)
    (hb : ∀ i k σ1 H1, ks[i]? = some k → KeepL L H H1 → Pv i σ1 H1 → ∀ x H2, Same H1 H2 → Nk K H2 x k → g x σ1 H2 fun σ2 H3 => tu { D with nx := fun σ3 H4 => KeepL L H1 H4 ∧ Pv (i + 1) σ3 H4, ct := fun σ3 H4 => KeepL L H1 H4 ∧ Pv (i + 1) σ3 H4, bk := tz D } σ2 H3)
    (hd : ∀ σ1 H1, KeepL L H H1 → Pv ks.length σ1 H1 → tz D σ1 H1) : tSeq (tFor wi g tu) tz D σ H := s_for (D := { D with nx := tz D }) hw hL hs Pv h0 hb hd
end NM
namespace NM
open PySem PySem.Spec PyProof.Rows L2

/-! ### keys -/
section
variable {X : Cx} {pins : List (Addr × Obj)} {s : Shared} {σ : L2.St} {H : Hp}
mutual
theorem Nk.nested (I : Inv X pins σ H s) : ∀ (k : NK) (v : V) (u : Value), Nk X.K H v k → RelV v u → NestedIs s.heap k u
  | .none, _, _, h, r => by cases h; cases (show _ = Value.none from r); exact .none
  | .num i, _, _, h, r => by cases h; obtain ⟨t, rfl⟩ := r; exact .int i t
  | .text x, _, _, h, r => by cases h; obtain ⟨t, rfl⟩ := r; exact .text x t
  | .tup ks, _, _, h, r => by
    cases h with
    | tup hs ha =>
      cases (show _ = Value.ref _ from r)
      obtain ⟨its, rv, ⟨o, ho, hc, n, hd⟩, _⟩ := I.tuple hs
      exact .tup ho hc hd (Nk.nestedAll I ks _ its ha rv)
theorem Nk.nestedAll (I : Inv X pins σ H s) : ∀ (ks : List NK) (vs : List V) (us : List Value), NkAll X.K H vs ks → Vals vs us → NestedAll s.heap ks us
  | [], _, _, h, r => by cases h; cases r; exact .nil
  | k :: ks, _, _, h, r => by
    cases h with
    | cons a b => cases r with
      | cons r1 r2 => exact .cons (Nk.nested I k _ _ a r1) (Nk.nestedAll I ks _ _ b r2)
end
mutual
theorem Nk.reads0 (I : Inv X pins σ H s) : ∀ (k : NK) (v : V) (u : Value), Nk X.K H v k → RelV v u → Reads s.heap u k.data []
  | .none, _, _, h, r => by cases h; cases (show _ = Value.none from r); exact .none
  | .num i, _, _, h, r => by cases h; obtain ⟨t, rfl⟩ := r; exact .int i t
  | .text x, _, _, h, r => by cases h; obtain ⟨t, rfl⟩ := r; exact .str x t
  | .tup ks, _, _, h, r => by
    cases h with
    | tup hs ha =>
      cases (show _ = Value.ref _ from r)
      obtain ⟨its, rv, ⟨o, ho, hc, n, hd⟩, _⟩ := I.tuple hs
      exact .tuple ho hc hd (Nk.reads0All I ks _ its ha rv)
theorem Nk.reads0All (I : Inv X pins σ H s) : ∀ (ks : List NK) (vs : List V) (us : List Value), NkAll X.K H vs ks → Vals vs us → ReadsAll s.heap us (NestedKey.datas ks) []
  | [], _, _, h, r => by cases h; cases r; exact .nil
  | k :: ks, _, _, h, r => by
    cases h with
    | cons a b => cases r with
      | cons r1 r2 => exact ReadsAll.cons (as := []) (bs := []) (Nk.reads0 I k _ _ a r1) (Nk.reads0All I ks _ _ b r2)
end
end

/-! ### a dict whose keys are nested tuples -/
def NDo (d : Addr) (o : Obj) : HO := .ext fun h => h.get? d = some o
def EN (K : PySem.W.Frag) (H : Hp) (p : NK × V) (q : NK × Addr × Value) : Prop := p.1 = q.1 ∧ Nk K H (.ref q.2.1) p.1 ∧ p.1.depth ≤ 8 ∧ RelV p.2 q.2.2
structure NDx (P : Program) (w : World) (K : PySem.W.Frag) (H : Hp) (d : Addr) (kvs : List (NK × V)) (o : Obj) (es : Array DictEntry) (ep : Nat) (xs : List (NK × Addr × Value)) : Prop where
  at_ : H d = some (NDo d o)
  ex : o.ExactDict
  dat : o.data = .dict es ep
  ent : es.toList = xs.map (entryOfKey (nestedKind P w))
  nd : (xs.map (·.1)).Nodup
  en : Paired (EN K H) kvs xs
  low : (d == sysModules) = false
  sz : kvs.length ≤ sizeLine
def ND (P : Program) (w : World) (K : PySem.W.Frag) (H : Hp) (d : Addr) (kvs : List (NK × V)) : Prop := ∃ o es ep xs, NDx P w K H d kvs o es ep xs
section
variable {P : Program} {w : World} {K : PySem.W.Frag} {H H' : Hp} {d : Addr} {kvs : List (NK × V)}
theorem EN.ts {p : NK × V} {q : NK × Addr × Value} (t : TSt K H H') (h : EN K H p q) : EN K H' p q := ⟨h.1, h.2.1.mono t, h.2.2⟩
theorem ND.go (h : ND P w K H d kvs) (t : TSt K H H') (e : ∀ o, H d = some o → H' d = some o) : ND P w K H' d kvs := by
  obtain ⟨o, es, ep, xs, x⟩ := h
  exact ⟨o, es, ep, xs, e _ x.at_, x.ex, x.dat, x.ent, x.nd, Paired.mapP x.en fun _ _ z => z.ts t, x.low, x.sz⟩
theorem ND.same (h : ND P w K H d kvs) (s : Same H H') : ND P w K H' d kvs := h.go (Same.ts s) fun o e => s _ _ e
theorem ND.ext (h : ND P w K H d kvs) : ∃ φ, H d = some (.ext φ) := by
  obtain ⟨o, es, ep, xs, x⟩ := h
  exact ⟨_, x.at_⟩
theorem EN.keys {xs : List (NK × Addr × Value)} (h : Paired (EN K H) kvs xs) : kvs.map (·.1) = xs.map (·.1) := by
  induction h with
  | nil => rfl
  | cons a b ih => rw [List.map_cons, List.map_cons, ih, a.1]
theorem ND.nodup (h : ND P w K H d kvs) : (kvs.map (·.1)).Nodup := by
  obtain ⟨o, es, ep, xs, x⟩ := h
  rw [EN.keys x.en]
  exact x.nd
theorem EN.val {xs : List (NK × Addr × Value)} (h : Paired (EN K H) kvs xs) (k : NK) : RelO (valV kvs k) ((atKey xs k).map (·.2)) := by
  induction h with
  | nil => exact True.intro
  | @cons p q ps qs a b ih =>
    by_cases e : p.1 = k
    · have e' : q.1 = k := a.1.symm.trans e
      have z : (atKey (q :: qs) k).map (·.2) = some q.2.2 := by simp [atKey, List.find?_cons, e']
      rw [valV_pos e, z]
      exact a.2.2.2
    · have e' : ¬ q.1 = k := fun z => e (a.1.trans z)
      have z : (atKey (q :: qs) k).map (·.2) = (atKey qs k).map (·.2) := by simp [atKey, List.find?_cons, e']
      rw [valV_neg e, z]
      exact ih
theorem EN.any {xs : List (NK × Addr × Value)} (h : Paired (EN K H) kvs xs) (k : NK) : (kvs.any fun kv => decide (kv.1 = k)) = (atKey xs k).isSome := by
  rw [valV_any]
  have r := EN.val h k
  cases e : valV kvs k with
  | none =>
    cases e2 : atKey xs k with
    | none => rfl
    | some y => rw [e, e2] at r; exact (show False from r).elim
  | some x =>
    cases e2 : atKey xs k with
    | none => rw [e, e2] at r; exact (show False from r).elim
    | some y => rfl
theorem EN.put {xs : List (NK × Addr × Value)} (h : Paired (EN K H) kvs xs) {k : NK} {a : Addr} {x : V} {u : Value} (nk : Nk K H (.ref a) k) (hd : k.depth ≤ 8) (r : RelV x u) : Paired (EN K H) (putK kvs k x) (storedH xs k a u) := by
  unfold putK storedH
  rw [EN.any h k]
  by_cases e : (atKey xs k).isSome = true
  · rw [if_pos e, if_pos e]
    clear e
    induction h with
    | nil => exact .nil
    | @cons p q ps qs a' b ih =>
      refine .cons ?_ ih
      by_cases e : p.1 = k
      · have e' : q.1 = k := a'.1.symm.trans e
        simp only [putAt, e, e', if_true]
        exact ⟨rfl, by rw [← e]; exact a'.2.1, by rw [← e]; exact a'.2.2.1, r⟩
      · have e' : ¬ q.1 = k := fun z => e (a'.1.trans z)
        simp only [putAt, e, e', if_false]
        exact a'
  · rw [if_neg e, if_neg e]
    exact papp h (.cons ⟨rfl, nk, hd, r⟩ .nil)
end
section
variable {X : Cx} {pins : List (Addr × Obj)} {s : Shared} {σ : L2.St} {H : Hp} {d : Addr} {kvs : List (NK × V)}
theorem NDx.get {o : Obj} {es : Array DictEntry} {ep : Nat} {xs : List (NK × Addr × Value)} (x : NDx X.prog X.w X.K H d kvs o es ep xs) (I : Inv X pins σ H s) : s.heap.get? d = some o := (I.hok d _ x.at_).1
theorem NDx.ofH {o : Obj} {es : Array DictEntry} {ep : Nat} {xs : List (NK × Addr × Value)} (x : NDx X.prog X.w X.K H d kvs o es ep xs) (I : Inv X pins σ H s) : s.heap.DictOfH (nestedKind X.prog X.w) d xs := by
  refine ⟨o, es, ep, x.get I, x.ex, x.dat, x.ent, fun y hy => ?_, x.nd⟩
  obtain ⟨i, hi⟩ := List.mem_iff_getElem?.mp hy
  obtain ⟨p, _, e1, n, dp, _⟩ := pget x.en hi
  rw [← e1]
  exact ⟨n.nested I _ _ _ rfl, dp⟩
theorem ndo_ok {P : Program} {w : World} {H : Hp} {h : Heap} {d : Addr} {o : Obj} (e : h.get? d = some o) : ObjOk P w H h d (NDo d o) := ⟨e, ⟨o, e⟩, fun _ _ p k => k o p⟩
/-- the key is stored -/
theorem nd_setItem {k : NK} {a : Addr} {x : V} {u : Value} {Q : Unit → Shared → Prop} (hu : X.A.units + 64 < cLine) (I : Inv X pins σ H s) (h : ND X.prog X.w X.K H d kvs) (nk : Nk X.K H (.ref a) k) (hd : k.depth ≤ 8) (r : RelV x u) (hz : kvs.length < sizeLine)
    (q : ∀ s' H', Inv X pins σ H' s' → KeepL [d] H H' → TSt X.K H H' → ND X.prog X.w X.K H' d (putK kvs k x) → Q () s') : wpAny (model X.prog X.w) X.A (setItem (.ref d) (.ref a) u) Q X.xe s := by
  obtain ⟨o, es, ep, xs, hx⟩ := h
  refine wpAny_setItem_heap (knd := nestedKind X.prog X.w) (k := k) (by show X.A.units + 1 + 8 < cLine; omega) ⟨nk.nested I _ _ _ rfl, hd⟩ (hx.ofH I) (fun h' hm' hs' => ?_) (by rw [← plen hx.en]; exact Nat.le_of_lt hz)
  obtain ⟨o', es', ep', ho', hc', hd', he', his', hn'⟩ := hm'
  have I' : Inv X pins σ (upd H d (NDo d o')) { s with heap := h', toks := s.toks + (nestedKind X.prog X.w).draws k } :=
    I.write (x := d) (e := d) (o := NDo d o') (by rw [hx.at_]; exact True.intro) (.inl rfl) (fun b ob hb e => (hs'.2 b hb).trans e) ⟨o', ho'⟩ (ndo_ok ho')
  have kp : KeepL [d] H (upd H d (NDo d o')) := keepL_upd (by simp)
  have tt : TSt X.K H (upd H d (NDo d o')) := kp.ts (MutL.oneX hx.at_)
  exact q _ _ I' kp tt ⟨o', es', ep', _, upd_same, hc', hd', he', hn', EN.put (Paired.mapP hx.en fun _ _ z => z.ts tt) (nk.mono tt) hd r, hx.low, Nat.le_trans (length_putK _ _ _) hz⟩
end

/-! ### the rules -/
section
variable {X : Cx}
def tDNewN (P : Program) (w : World) (K : PySem.W.Frag) : TE := fun _ H Q => ∀ p H', H p = none → Same H H' → ND P w K H' p [] → Q (.ref p) H'
theorem pe_dnewN {pos : Pos} : PE X (.Dict [] [] pos) (tDNewN X.prog X.w X.K) := ⟨fun pins s σ H Q I h => by
  have hN := I.hok.fresh (Nat.le_refl s.heap.objs.size)
  obtain ⟨_, low, _⟩ := dt_empty (P := X.prog) (w := X.w) (H := H) s.heap I.big
  refine wpAny_Dict_empty ⟨.ref s.heap.objs.size, upd H s.heap.objs.size (NDo s.heap.objs.size { cls := .type "dict", data := .dict #[] }), I.laid (a := s.heap.objs.size) (t' := s.toks) (fun _ _ q => Heap.get?_push_of_some _ q) (Nat.le_refl _) (ndo_ok (Heap.get?_push_size _ rfl)), rfl, h _ _ hN (same_new hN) ?_⟩
  exact ⟨_, #[], 0, [], upd_same, ⟨rfl, rfl, rfl⟩, rfl, rfl, List.nodup_nil, .nil, low, Nat.zero_le _⟩⟩
/-- d.get(k, x) -/
def tDGetN2 (P : Program) (w : World) (K : PySem.W.Frag) (td ty tx : TE) : TE := fun σ H Q => td σ H fun x H1 => ∃ a, x = .ref a ∧ (∃ kvs, ND P w K H1 a kvs) ∧ ty σ H1 fun y H2 => tx σ H2 fun z H3 => ∃ kvs k b, y = .ref b ∧ ND P w K H3 a kvs ∧ Nk K H3 (.ref b) k ∧ k.depth ≤ 8 ∧ Q ((valV kvs k).getD z) H3
theorem pe_dgetN2 {o e f : Expr} {apos cpos : Pos} {td ty tx : TE} (hu : X.A.units + 64 < cLine) (ho : PE X o td) (he : PE X e ty) (hf : PE X f tx) (m : M2 X o "get" apos e f cpos) : PE X (.Call (.Attribute o "get" apos) [e, f] [] cpos) (tDGetN2 X.prog X.w X.K td ty tx) := by
  refine ⟨fun pins s σ H Q I h => ?_⟩
  refine wpAny_Call_method m.base m.few m.line PySem.F.plainAttrs_dict PySem.F.slot_dict_get PySem.F.type_dict_get (thn (ho.run pins s σ H _ I h) fun u s1 ⟨x, H1, I1, rx, a, ex, ⟨kvs1, d1⟩, q1⟩ => ?_)
  subst ex
  obtain rfl : u = Value.ref a := rx
  obtain ⟨o1, es1, ep1, xs1, hx1⟩ := d1
  refine ⟨⟨o1, hx1.get I1, hx1.ex.1⟩, fun a' e' => by cases e'; exact ⟨o1, hx1.get I1, hx1.ex.2.1⟩, ?_⟩
  rw [m.trees]
  refine Calls.callWith_builtin rfl (Calls.evalArgs_plain (Calls.spliced_cons (thn (he.run pins s1 σ H1 _ I1 q1) fun iv s2 ⟨y, H2, I2, ry, q2⟩ =>
    Calls.spliced_cons (thn (hf.run pins s2 σ H2 _ I2 q2) fun fv s3 ⟨z, H3, I3, rz, kvs, k, b, ey, nd, nk, hdp, q3⟩ => Calls.spliced_nil ?_))))
  subst ey
  obtain rfl : iv = Value.ref b := ry
  obtain ⟨o3, es3, ep3, xs3, hx3⟩ := nd
  refine call_meetsIn PySem.F.slot_dict_get (hx3.ofH I3).typeIs PySem.F.entry_dict_get (PySem.F.args_dict_get_3 _ _ _) (meetsH_dict_get_default (nestedKind X.prog X.w) a b hx3.low fv) ⟨by show X.A.units + 1 + 8 < cLine; omega, k, xs3, ⟨nk.nested I3 _ _ _ rfl, hdp⟩, hx3.ofH I3, ?_⟩
  exact ⟨_, H3, I3.tok _, RelO.getD (EN.val hx3.en k) rz, q3⟩
/-- d[k] = v, by values -/
def rSetN (P : Program) (w : World) (K : PySem.W.Frag) : TSet := fun o i v H Q => ∃ d kvs k b, o = .ref d ∧ i = .ref b ∧ ND P w K H d kvs ∧ Nk K H (.ref b) k ∧ k.depth ≤ 8 ∧ kvs.length < sizeLine ∧ ∀ H', KeepL [d] H H' → TSt K H H' → ND P w K H' d (putK kvs k v) → Q H'
theorem set_dictN (hu : X.A.units + 64 < cLine) : PSet X (rSetN X.prog X.w X.K) := by
  intro pins s σ H o i v ov iv u Q I ro ri rv h
  obtain ⟨d, kvs, k, b, rfl, rfl, nd, nk, hdp, hz, q⟩ := h
  obtain rfl : ov = Value.ref d := ro
  obtain rfl : iv = Value.ref b := ri
  exact nd_setItem hu I nd nk hdp rv hz fun s' H' I' kp tt nd' => ⟨H', I', q H' kp tt nd'⟩
/-- d[k], the key there -/
def rIxN (P : Program) (w : World) (K : PySem.W.Frag) : R2 := fun x y H Q => ∃ d kvs k b v, x = .ref d ∧ y = .ref b ∧ ND P w K H d kvs ∧ Nk K H (.ref b) k ∧ k.depth ≤ 8 ∧ valV kvs k = some v ∧ Q v H
/-- isinstance(d, T), isinstance(d, (T, ..)) -/
def rIsiN (P : Program) (w : World) (K : PySem.W.Frag) : List V → Hp → VK → Prop := fun xs H Q => ∃ (d : Addr) (kvs : List (NK × V)) (c : V) (u : Value) (b : Bool), xs = [.ref d, c] ∧ ND P w K H d kvs ∧ ClsV c u ∧ PySem.W.kitOne K (.type "dict") u = some b ∧ Q (.bl b) H
theorem call_isiN : CallR X (.builtin "isinstance") (rIsiN X.prog X.w X.K) := by
  intro pins s σ H xs us Q I r h
  obtain ⟨d, kvs, c, u, b, rfl, ⟨o, es, ep, ys, nd⟩, k, e, q⟩ := h
  obtain ⟨u1, u2, rfl, r1, r2⟩ := vals2 r
  have e2 := k.eq r2
  subst e2
  cases (show u1 = Value.ref d from r1)
  exact PySem.W.kia_one PySem.W.kitx_dict I.kIn ⟨o, nd.get I, nd.ex.1⟩ e (fun z => nomatch z) fun tk => ⟨.bl b, H, I.tok tk, rfl, q⟩
def rIsiTN (P : Program) (w : World) (K : PySem.W.Frag) : List V → Hp → VK → Prop := fun xs H Q => ∃ (d : Addr) (kvs : List (NK × V)) (tp : Addr) (cs : List V) (us : List Value) (b : Bool), xs = [.ref d, .ref tp] ∧ ND P w K H d kvs ∧ H tp = some (.tup cs) ∧ Paired ClsV cs us ∧ PySem.W.kitAny K (.type "dict") us = some b ∧ Q (.bl b) H
theorem call_isiTN : CallR X (.builtin "isinstance") (rIsiTN X.prog X.w X.K) := by
  intro pins s σ H xs us Q I r h
  obtain ⟨d, kvs, tp, cs, ws, b, rfl, ⟨o, es, ep, ys, nd⟩, hT, k, e, q⟩ := h
  obtain ⟨u1, u2, rfl, r1, r2⟩ := vals2 r
  cases (show u2 = Value.ref tp from r2)
  cases (show u1 = Value.ref d from r1)
  obtain ⟨_, its, rv, oT, h1, h2, n, h3⟩ := (show ObjOk X.prog X.w H s.heap tp (.tup cs) from I.hok tp _ hT)
  have e3 := ClsV.all k rv
  subst e3
  obtain ⟨oc, od, dt, sl⟩ := oT
  simp only at h2 h3
  subst h2 h3
  exact PySem.W.kia_tup PySem.W.kitx_dict I.kIn ⟨o, nd.get I, nd.ex.1⟩ h1 e (fun z => nomatch z) fun tk => ⟨.bl b, H, I.tok tk, rfl, q⟩
end
section
variable {X : Cx}
theorem ix_dictN (hu : X.A.units + 64 < cLine) : IxR X (rIxN X.prog X.w X.K) := by
  intro value slice pins s σ H x y v u Q I rx ry h hs
  obtain ⟨d, kvs, k, b, z, rfl, rfl, ⟨o, es, ep, xs, nd⟩, nk, hdp, hv, q⟩ := h
  obtain rfl : v = Value.ref d := rx
  obtain rfl : u = Value.ref b := ry
  have r := EN.val nd.en k
  rw [hv] at r
  cases e2 : atKey xs k with
  | none => rw [e2] at r; exact (show False from r).elim
  | some p =>
    rw [e2] at r
    refine tail_any (nd.ofH I).typeIs slot_dict_getitem.lookup ?_ hs
    exact wpAny_getItem_heap (knd := nestedKind X.prog X.w) (k := k) (p := p) (by show X.A.units + 1 + 8 < cLine; omega) ⟨nk.nested I _ _ _ rfl, hdp⟩ (nd.ofH I) e2 ⟨z, H, I.tok _, r, q⟩

/-! for k in d -/
def ItkN (P : Program) (w : World) (K : PySem.W.Frag) (d : Addr) (o : Obj) (ks : List NK) : It :=
  ⟨fun i H => i < ks.length ∧ ∃ kvs es ep xs, NDx P w K H d kvs o es ep xs ∧ kvs.map (·.1) = ks, fun i H x H' => H' = H ∧ ∃ k, ks[i]? = some k ∧ Nk K H x k,
    fun i H => i = ks.length ∧ ∃ kvs es ep xs, NDx P w K H d kvs o es ep xs ∧ kvs.map (·.1) = ks⟩
theorem turn_keysN {P : Program} {w : World} {K : PySem.W.Frag} {tg : Expr} {d it : Addr} {o : Obj} {ks : List NK} {es : Array DictEntry} {ep : Nat} (hes : o.data = .dict es ep) (hne : d ≠ it) (hsz : es.size = ks.length) :
    Turn P w K tg (ItkN P w K d o ks) [it] it (fun i h => h.IsKeyIter it d i es.size ep) where
  mem := by simp
  obj := fun i h st c hc => by
    have e' : c = it := by simpa using hc
    subst e'
    obtain ⟨ob, e1, _, e3⟩ := st
    exact ⟨ob, e1, fun v q => by rw [e3] at q; cases q⟩
  keep := fun i h h' st k => st.at fun o q => k it (by simp) o q
  item := by
    intro X hP hw hK hc i pins s σ H E I hf st hg
    subst hP hw hK
    obtain ⟨hi, kvs, es', ep', xs, nd, hks⟩ := hg
    have e0 := nd.dat
    rw [hes] at e0
    cases e0
    have G := Goes.rawKeys (prog := X.prog) (w := X.w) (A := X.A) (target := tg) (I.ok.hd hc) it d hne es ep
    refine G.goes i s (fun q s2 => ∃ z0 H', Inv X pins σ H' s2 ∧ RelV z0 q ∧ (ItkN X.prog X.w X.K d o ks).yld i H z0 H' ∧ s2.heap.IsKeyIter it d (i + 1) es.size ep ∧ ∀ c ∈ [it], H' c = none) E (by rw [hsz]; exact hi) ⟨st, o, nd.get I, nd.ex, nd.dat⟩ fun q h' tk hY st' hk htk => ?_
    obtain ⟨hi', rfl⟩ := hY
    have hx : es[i]? = (xs[i]?).map (entryOfKey (nestedKind X.prog X.w)) := entry_at nd.ent i
    rw [Array.getElem?_eq_getElem hi'] at hx
    obtain ⟨y, hy, ey⟩ := Option.map_eq_some_iff.mp hx.symm
    obtain ⟨p, hp, en⟩ := pget nd.en hy
    have e1 : es[i].key = .ref y.2.1 := by rw [← ey]; rfl
    rw [e1]
    refine ⟨.ref y.2.1, H, I.turnedL (ch := [it]) (fun c ob hb q => hk c ob hb q) hf, rfl, ⟨rfl, p.1, ?_, en.2.1⟩, st'.1, fun c hcm => (hf c hcm).1⟩
    rw [← hks, List.getElem?_map, hp]
    rfl
  done := by
    intro X hP hw hK hc i pins s σ H E I hf st hg
    subst hP hw hK
    obtain ⟨hi, kvs, es', ep', xs, nd, hks⟩ := hg
    have e0 := nd.dat
    rw [hes] at e0
    cases e0
    have G := Goes.rawKeys (prog := X.prog) (w := X.w) (A := X.A) (target := tg) (I.ok.hd hc) it d hne es ep
    have hi2 : i = es.size := by rw [hsz]; exact hi
    subst hi2
    exact G.stops s (fun s1 => Inv X pins σ H s1) E ⟨st, o, nd.get I, nd.ex, nd.dat⟩ fun h' tk hk htk => I.turnedL (ch := [it]) (fun c ob hb q => hk c ob hb q) hf
  self := fun A i s Q E st h => wpAny_pyIter_keyiter st h
def iKeysN (P : Program) (w : World) (K : PySem.W.Frag) (td : TE) : TI := fun σ H R => td σ H fun x H1 => ∃ d kvs, x = .ref d ∧ ND P w K H1 d kvs ∧ ∀ o es ep xs, NDx P w K H1 d kvs o es ep xs → R (ItkN P w K d o (kvs.map (·.1))) H1
theorem pi_keysN {tg e : Expr} {td : TE} (he : PE X e td) : PI X tg e (iKeysN X.prog X.w X.K td) := by
  refine ⟨fun pins s σ H R I h => ?_⟩
  refine thn (he.run pins s σ H _ I h) fun v s1 ⟨x, H1, I1, r, d, kvs, ex, nd, q⟩ => ?_
  subst ex
  obtain rfl : v = Value.ref d := r
  obtain ⟨o, es, ep, xs, nx⟩ := nd
  have qq := q o es ep xs nx
  have hdl : d < s1.heap.objs.size := Heap.lt_size (nx.get I1)
  have hsz : es.size = (kvs.map (·.1)).length := by rw [List.length_map, plen nx.en]; exact size_of_entries nx.ent
  refine wpAny_pyIter_dict_raw nx.low ⟨o, nx.get I1, nx.ex, nx.dat⟩ ?_
  refine ⟨s1.heap.objs.size, [s1.heap.objs.size], _, _, H1, rfl, I1.kept (t' := s1.toks) fun _ _ q => Heap.get?_push_of_some _ q, turn_keysN nx.dat (Nat.ne_of_lt hdl) hsz, ⟨_, Heap.get?_push_size _ rfl, rfl, rfl⟩, fun b hb => ?_, qq⟩
  have e : b = s1.heap.objs.size := by simpa using hb
  subst e
  exact I1.fpOk (Nat.le_refl _) (I1.hok.fresh (Nat.le_refl _))

/-! sorted(d) -/
def keyLe : NK → NK → Bool := PySem.W.dataLe false NestedKey.data
def rSortN (P : Program) (w : World) (K : PySem.W.Frag) : List V → Hp → VK → Prop := fun vs H Q => ∃ d kvs, vs = [.ref d] ∧ ND P w K H d kvs ∧ PySem.W.AllAlike ((kvs.map (·.1)).map NestedKey.data) ∧ (∀ k ∈ kvs.map (·.1), ∃ a r, k = .tup (a :: r)) ∧
  ∀ p ws H', H p = none → Same H H' → H' p = some (.lst ws) → NkAll K H' ws ((kvs.map (·.1)).mergeSort keyLe) → Q (.ref p) H'
theorem depth_data : ∀ k : NK, k.data.depth = k.depth := by
  have h : ∀ n : Nat, ∀ k : NK, sizeOf k ≤ n → k.data.depth = k.depth := by
    intro n
    induction n with
    | zero => intro k hk; cases k <;> simp at hk
    | succ n ih =>
      intro k hk
      cases k with
      | none => rfl
      | num i => rfl
      | text x => rfl
      | tup ks =>
        have hall : ∀ ls : List NK, sizeOf ls ≤ n → PyData.depthAll (NestedKey.datas ls) = NestedKey.depthAll ls := by
          intro ls
          induction ls with
          | nil => intro _; rfl
          | cons l ls ih2 =>
            intro hs
            have hs' : 1 + sizeOf l + sizeOf ls ≤ n := by simpa using hs
            rw [NestedKey.datas, PyData.depthAll, NestedKey.depthAll, ih l (by omega), ih2 (by omega)]
        have hk' : 1 + sizeOf ks ≤ n + 1 := by simpa using hk
        rw [NestedKey.data, PyData.depth, NestedKey.depth, hall ks (by omega)]
  exact fun k => h _ k (Nat.le_refl _)
end
end NM
namespace NM
open PySem PySem.Spec PyProof.Rows L2
section
variable {X : Cx}
/-- the value u is the key k's tuple -/
def KR (K : PySem.W.Frag) (H : Hp) (u : Value) (k : NK) : Prop := ∃ a, u = .ref a ∧ Nk K H (.ref a) k
theorem eachIs_of {α β : Type} {R : α → β → Prop} : ∀ {l : List α} {m : List β}, l.length = m.length → (∀ (i : Nat) x y, l[i]? = some x → m[i]? = some y → R x y) → PySem.W.EachIs R l m
  | [], [], _, _ => .nil
  | [], _ :: _, h, _ => by simp at h
  | _ :: _, [], h, _ => by simp at h
  | x :: l, y :: m, h, f => .cons (f 0 x y rfl rfl) (eachIs_of (by simpa using h) fun i a b ha hb => f (i + 1) a b (by simpa using ha) (by simpa using hb))
theorem each_vals {K : PySem.W.Frag} {H : Hp} {out : List Value} {ks : List NK} (h : PySem.W.EachIs (KR K H) out ks) : ∃ ws, Vals ws out ∧ NkAll K H ws ks := by
  induction h with
  | nil => exact ⟨[], .nil, .nil⟩
  | cons a _ ih =>
    obtain ⟨ws, h1, h2⟩ := ih
    obtain ⟨p, rfl, n⟩ := a
    exact ⟨.ref p :: ws, .cons rfl h1, .cons n h2⟩
theorem each_imp {α β : Type} {R S : α → β → Prop} {l : List α} {m : List β} (h : PySem.W.EachIs R l m) (f : ∀ a b, R a b → S a b) : PySem.W.EachIs S l m := by
  induction h with
  | nil => exact .nil
  | cons a _ ih => exact .cons (f _ _ a) ih
theorem call_sortedN (hc : X.calm = true) (hu : X.A.units + 64 < cLine) : CallR X (.builtin "sorted") (rSortN X.prog X.w X.K) := by
  intro pins s σ H xs us Q I r h
  obtain ⟨d, kvs, rfl, ⟨o, es, ep, ys, nd⟩, al, tp, q⟩ := h
  obtain ⟨u, rfl, ru⟩ := vals1 r
  cases (show u = Value.ref d from ru)
  have hsz : es.size = kvs.length := by rw [plen nd.en]; exact size_of_entries nd.ent
  refine Calls.call_function_entry PyProof.Rows.kind_sorted PyProof.Rows.plain_sorted PyProof.Rows.entry_sorted (PyProof.Rows.args_sorted1 _) ?_
  unfold Builtin.«sorted»
  refine wpAny_bind (m := checkCount "sorted" 1 1 _) (wpAny_pure ?_)
  refine wpAny_bind (PySem.W.kdu_collect (A := X.A.in1) (KdlSrc.rawDict (es := es) (ep := ep) nd.low) (I.ok.hd hc) ⟨o, nd.get I, nd.ex, nd.dat⟩ (by rw [hsz]; exact nd.sz) fun h' tk acc hk hacc => ?_)
  have I1 : Inv X pins σ H { s with heap := h', toks := tk } := I.kept hk
  have hlen : acc.toList.length = (kvs.map (·.1)).length := by rw [Array.length_toList, hacc.1, hsz, List.length_map]
  have hE : PySem.W.EachIs (KR X.K H) acc.toList (kvs.map (·.1)) := eachIs_of hlen fun i x k hx hk' => by
    rw [Array.getElem?_toList] at hx
    obtain ⟨hi, rfl⟩ := hacc.2 i x hx
    have e1 := entry_at nd.ent i
    rw [Array.getElem?_eq_getElem hi] at e1
    obtain ⟨y, hy, ey⟩ := Option.map_eq_some_iff.mp e1.symm
    obtain ⟨p, hp, en⟩ := pget nd.en hy
    rw [List.getElem?_map, hp] at hk'
    have ek : p.1 = k := Option.some.inj hk'
    exact ⟨y.2.1, by rw [← ey]; rfl, by rw [← ek]; exact en.2.1⟩
  refine wpAny_bind (wpAny_newList ?_ (by rw [hlen, List.length_map]; exact nd.sz))
  have hoL : (h'.push (seqObj "list" acc.toList.toArray 0)).get? h'.objs.size = some (seqObj "list" acc.toList.toArray 0) := Heap.get?_push_size _ rfl
  show wpAny _ _ _ _ _ { s with heap := h'.push (seqObj "list" acc.toList.toArray 0), toks := tk }
  refine wpAny_bind (wpAny_holding (PySem.W.list_sort_data (s := { s with heap := h'.push (seqObj "list" acc.toList.toArray 0), toks := tk }) (enc := NestedKey.data) (R := KR X.K H) hoL hE (each_imp hE fun u k hR => ?_) al (.inl fun dd hdd => ?_) ?_ (fun k hkm => ?_) fun out ho eo => ?_))
  · obtain ⟨a, rfl, n⟩ := hR
    exact ⟨[], PyProof.Rows.Reads.keeps (fun _ _ e => Heap.get?_push_of_some _ e) (Nk.reads0 I1 k _ _ n rfl), by simp⟩
  · obtain ⟨k, hkm, rfl⟩ := List.mem_map.mp hdd
    obtain ⟨a, l, rfl⟩ := tp k hkm
    exact ⟨a.data, NestedKey.datas l, rfl⟩
  · rw [List.length_map]; exact nd.sz
  · obtain ⟨i, hi⟩ := List.mem_iff_getElem?.mp hkm
    rw [List.getElem?_map] at hi
    obtain ⟨p, hp, rfl⟩ := Option.map_eq_some_iff.mp hi
    obtain ⟨y, _, en⟩ := pget' nd.en hp
    have hd8 := en.2.2.1
    rw [depth_data]
    show X.A.units + 1 + 1 + p.1.depth < cLine
    omega
  · obtain ⟨e', he'⟩ := PyProof.Rows.sortedHeap_at (vs := acc.toList) (out := out.toArray) hoL
    obtain ⟨ws, v1, n1⟩ := each_vals eo
    have hwl : ws.length ≤ sizeLine := by
      rw [v1.length, ho, List.length_map]; exact nd.sz
    have hfr := I1.hok.fresh (Nat.le_refl h'.objs.size)
    refine wpAny_pure ⟨_, rfl, .ref h'.objs.size, upd H h'.objs.size (.lst ws), I1.laid (t' := tk) (fun b ob e => ?_) (Nat.le_refl _) (show ObjOk X.prog X.w _ _ _ (.lst ws) from ⟨hwl, out, e', v1, he'⟩), rfl,
      q _ ws _ hfr (same_new hfr) upd_same (nkAll_mono n1 (Same.ts (same_new hfr)))⟩
    have hb : b < h'.objs.size := Heap.lt_size e
    rw [PyProof.Rows.sortedHeap_old (Nat.ne_of_lt hb) (by rw [size_push']; exact Nat.lt_succ_of_lt hb)]
    exact Heap.get?_push_of_some _ e

/-! d != e, both alike -/
theorem same_pairsN {prog : Program} {w : World} {A : Around} {E : Value → Shared → Prop} {s : Shared} {nm : String} {a b : Addr} {oa ob : Obj} {es es' : Array DictEntry} {ep ep' : Nat} {xs ys : List (NK × Addr × Value)} {Q : Bool → Shared → Prop}
    (hu : A.units + 8 < cLine) (la : (a == sysModules) = false) (lb : (b == sysModules) = false) (hoa : s.heap.get? a = some oa) (hda : oa.data = .dict es ep) (hea : es.toList = xs.map (entryOfKey (nestedKind prog w)))
    (hisa : ∀ x ∈ xs, (nestedKind prog w).is s.heap x.1 x.2.1) (hob : s.heap.get? b = some ob) (hdb : ob.data = .dict es' ep') (heb : es'.toList = ys.map (entryOfKey (nestedKind prog w))) (hisb : ∀ x ∈ ys, (nestedKind prog w).is s.heap x.1 x.2.1) (hnb : (ys.map (·.1)).Nodup)
    (hsz : es.size = es'.size) (hit : ∀ (i : Nat) (x : NK × Addr × Value), xs[i]? = some x → ∃ (j : Nat) (p : Addr × Value), ys[j]? = some (x.1, p) ∧ SeqAt.EqAt A s x.2.2 p.2 true) (h : Q true s) : wpAny (model prog w) A (Builtin.Dict.samePairs nm a b) Q E s := by
  unfold Builtin.Dict.samePairs Builtin.Dict.showsAll
  rw [if_neg (by rw [la]; exact Bool.false_ne_true), if_neg (by rw [lb]; exact Bool.false_ne_true)]
  refine wpAny_bind (wpAny_pure (wpAny_bind (wpAny_pure (wpAny_bind (wpAny_dictEntries hoa hda ?_)))))
  dsimp only
  refine wpAny_bind (wpAny_dictEntries hob hdb ?_)
  rw [if_neg (by rw [hsz]; simp)]
  refine wpAny_bind (wpAny_dictEpoch hoa hda ?_)
  refine wpAny_bind ?_
  rw [Std.Legacy.Range.forIn_eq_forIn_range']
  simp only [Std.Legacy.Range.size, Nat.sub_zero, Nat.add_sub_cancel, Nat.div_one]
  refine wpAny_forIn_list _ (fun rest q s' => s' = s ∧ q = (none, ()) ∧ ∃ i, rest = List.range' i (es.size - i) ∧ i ≤ es.size) _ ?_ ?_ _ _ ⟨rfl, rfl, 0, by simp, Nat.zero_le _⟩
  · rintro x rest q s' ⟨rfl, rfl, i, hr, hi⟩
    have hlt : i < es.size := by
      rcases Nat.lt_or_ge i es.size with g | g
      · exact g
      · rw [Nat.sub_eq_zero_of_le g] at hr; simp at hr
    obtain ⟨rfl, hrest⟩ : x = i ∧ rest = List.range' (i + 1) (es.size - (i + 1)) := by
      have e : es.size - i = (es.size - (i + 1)) + 1 := by omega
      rw [e, List.range'_succ] at hr
      injection hr with h1 h2
      exact ⟨h1, h2⟩
    refine wpAny_bind (wpAny_dictEntries hoa hda ?_)
    rw [Array.getElem?_eq_getElem hlt]
    have e1 := entry_at hea x
    rw [Array.getElem?_eq_getElem hlt] at e1
    obtain ⟨y, hy, ey⟩ := Option.map_eq_some_iff.mp e1.symm
    obtain ⟨j, p, hj, heq⟩ := hit x y hy
    have hk : es[x].key = .ref y.2.1 := by rw [← ey]; rfl
    have hh : es[x].hash = (nestedKind prog w).hash y.1 := by rw [← ey]; rfl
    have hv : es[x].val = y.2.2 := by rw [← ey]; rfl
    show wpAny _ _ (holding [es[x].key, es[x].val] _ >>= _) _ _ _
    rw [hk, hh, hv]
    refine wpAny_bind (wpAny_holding (wpAny_bind (wpAny_dictFind_heap (knd := nestedKind prog w) (k := y.1) hu (hisa y (List.mem_of_getElem? hy)) hob hdb heb hisb hnb (fun no => (no j p hj).elim) fun j' p' hj' => ?_)))
    have ejj : j = j' := by
      have g1 : (ys.map (·.1))[j]? = some y.1 := by rw [List.getElem?_map, hj]; rfl
      have g2 : (ys.map (·.1))[j']? = some y.1 := by rw [List.getElem?_map, hj']; rfl
      obtain ⟨l1, e1⟩ := List.getElem?_eq_some_iff.mp g1
      obtain ⟨l2, e2⟩ := List.getElem?_eq_some_iff.mp g2
      exact (List.getElem_inj hnb).mp (e1.trans e2.symm)
    subst ejj
    have e3 := entry_at heb j
    rw [hj] at e3
    refine wpAny_bind (wpAny_dictEntries hob hdb ?_)
    rw [e3]
    refine wpAny_holding (heq prog w _ _ ?_)
    show wpAny _ _ (if (!true) = true then _ else _) _ _ _
    rw [if_neg (by decide)]
    refine wpAny_bind (wpAny_dictEpoch hoa hda ?_)
    rw [if_neg (by simp)]
    exact wpAny_pure ⟨rfl, rfl, x + 1, hrest, hlt⟩
  · rintro q s' ⟨rfl, rfl, i, hr, hi⟩
    exact wpAny_pure h
def rNeN (P : Program) (w : World) (K : PySem.W.Frag) : R2 := fun x y H Q => ∃ a b ka kb, x = .ref a ∧ y = .ref b ∧ ND P w K H a ka ∧ ND P w K H b kb ∧ ka.length = kb.length ∧ (∀ p ∈ ka, valV kb p.1 = some p.2 ∧ ∃ n, p.2 = .int n) ∧ Q (.bl false) H
theorem op_neN (hu : X.A.units + 64 < cLine) : OpR X (compareOp .NotEq) (rNeN X.prog X.w X.K) := by
  intro pins s σ H x y v u Q I rx ry h
  obtain ⟨a, b, ka, kb, rfl, rfl, ⟨oa, es, ep, xs, na⟩, ⟨ob, es', ep', ys, nb⟩, hl, hp, q⟩ := h
  obtain rfl : v = Value.ref a := rx
  obtain rfl : u = Value.ref b := ry
  have da := na.ofH I
  have db := nb.ofH I
  obtain ⟨_, _, _, _, _, _, _, hisa, _⟩ := id da
  obtain ⟨_, _, _, _, _, _, _, hisb, _⟩ := id db
  refine wpAny_richCompare_same_room (op := .NotEq) da.typeIs db.typeIs PySem.F.slot_dict_ne (wpAny_call_entry PySem.F.slot_dict_ne da.typeIs PySem.F.entry_dict_ne ?_ (PySem.F.args_dict_ne_2 _ _)) (by omega)
  show wpAny _ _ (Builtin.Dict.dictSlotArgs "__ne__" ⟨[.ref a, .ref b], []⟩ >>= _) _ _ s
  refine wpAny_bind ?_
  unfold Builtin.Dict.dictSlotArgs
  refine wpAny_bind (wpAny_notOrdered_dict da.typeIs ?_)
  show wpAny _ _ (pure (Value.ref a, Value.ref b)) _ _ s
  refine wpAny_pure (wpAny_bind (wpAny_isInstance (T := "dict") db.typeIs PySem.F.sub_dict_dict ?_))
  simp only [Bool.not_true, Bool.false_eq_true, if_false]
  refine wpAny_bind (wpAny_pure (wpAny_bind (wpAny_pure ?_)))
  refine wpAny_bind (same_pairsN (A := X.A.in1) (by show X.A.units + 1 + 8 < cLine; omega) na.low nb.low (na.get I) na.dat na.ent hisa (nb.get I) nb.dat nb.ent hisb nb.nd ?_ (fun i x hx => ?_) ?_)
  · rw [size_of_entries na.ent, size_of_entries nb.ent, ← plen na.en, ← plen nb.en]; exact hl
  · obtain ⟨p, hp1, en⟩ := pget na.en hx
    obtain ⟨hv, n, hn⟩ := hp p (List.mem_of_getElem? hp1)
    have r := EN.val nb.en p.1
    rw [hv] at r
    cases e2 : atKey ys p.1 with
    | none => rw [e2] at r; exact (show False from r).elim
    | some t =>
      rw [e2] at r
      have hmem : ∃ j : Nat, ys[j]? = some (p.1, t) := by
        unfold atKey at e2
        obtain ⟨z, hz, rfl⟩ := Option.map_eq_some_iff.mp e2
        have h1 := List.find?_some hz
        obtain ⟨j, hj⟩ := List.mem_iff_getElem?.mp (List.mem_of_find?_eq_some hz)
        exact ⟨j, by rw [hj, ← of_decide_eq_true h1]⟩
      obtain ⟨j, hj⟩ := hmem
      refine ⟨j, t, by rw [← en.1]; exact hj, ?_⟩
      have r1 := en.2.2.2
      have r2 : RelV p.2 t.2 := r
      rw [hn] at r1 r2
      obtain ⟨t1, e3⟩ := r1
      obtain ⟨t2, e4⟩ := r2
      rw [e3, e4]
      have := SeqAt.EqAt.int_int (A := X.A.in1) (s := s) n t1 n t2
      rw [beq_self_eq_true] at this
      exact this
  · refine wpAny_pure ⟨_, rfl, ?_, ?_⟩
    · exact fun x => nomatch x
    · exact ⟨.bl false, H, I, rfl, q⟩
end
end NM
namespace NM
open PySem PySem.Spec PyProof.Rows L2
/-! ### the text -/
def topS (i : Nat) : Stmt := PySem.Challenge.pw_nomoretold_k32_whole_share_views.main.body.getD i (.Pass ⟨0, 0, 0, 0⟩)
/-- what the top has left of built-in names and of constants -/
structure Gs (K : PySem.W.Frag) (mg : Str → Option Value) where
  z_isinstance : mg "isinstance" = none
  z_int : mg "int" = none
  z_bool : mg "bool" = none
  z_tuple : mg "tuple" = none
  z_str : mg "str" = none
  z_list : mg "list" = none
  z_dict : mg "dict" = none
  z_all : mg "all" = none
  z_any : mg "any" = none
  z_sum : mg "sum" = none
  z_zip : mg "zip" = none
  z_range : mg "range" = none
  z_enumerate : mg "enumerate" = none
  z_len : mg "len" = none
  z_min : mg "min" = none
  z_sorted : mg "sorted" = none
  c_FEWEST : ∃ u, mg "FEWEST" = some u ∧ RelV (.int 2) u
  c_MOST_SHARED : ∃ u, mg "MOST_SHARED" = some u ∧ RelV (.int 4) u
  c_MOST_ROWS : ∃ u, mg "MOST_ROWS" = some u ∧ RelV (.int 8) u
  c_MOST_NUMBER : ∃ u, mg "MOST_NUMBER" = some u ∧ RelV (.int 12) u
  c_MOST_SIZE : ∃ u, mg "MOST_SIZE" = some u ∧ RelV (.int 2) u
  c_MOST_GONE : ∃ u, mg "MOST_GONE" = some u ∧ RelV (.int 20000) u
  primes : Addr
  c_PRIMES : ∃ u, mg "PRIMES" = some u ∧ RelV (.ref primes) u
  s_PRIMES : ∀ H, SqT K H primes [.int 5, .int 7, .int 11, .int 13]
/-- a def that keeps its promise -/
structure Cal (P : Program) (w : World) (K : PySem.W.Frag) (mg : Str → Option Value) (base : Heap) (x : Str) (k : Nat) (ps : List Str) (sp : Sp) where
  f : Addr
  fd : FuncData
  ok : FnOk P w K mg base CX0 k f fd ps sp
  g : mg x = some (.ref f)
  kp : PySem.W.keepIn K (.ref f) = true
  b : Binds K fd ps []
theorem pe_cal {X : Cx} {x : Str} {k : Nat} {ps : List Str} {sp : Sp} {e : Expr} {es : List Expr} {t : TA} {p pos : Pos} (C : Cal X.prog X.w X.K X.mg X.base x k ps sp) (hr : Room k X.A) (hg : Gl X x) (ha : PA X (e :: es) t)
    (hdb : (x == ("__debug__" : Str)) = false := by decide) (he : starEach (e :: es) X.env = (false, eval e X.env) :: starEach es X.env := by rfl) (hpl : (backTo pos (starEach es X.env)).any (·.1) = false := by rfl) :
    PE X (.Call (.Name x p) (e :: es) [] pos) (tCall sp [] (fun _ _ _ => False) t) := pe_call C.ok hr hg C.g C.kp C.b .nil pass0 ha hdb he hpl
/-- a def of the text, where it stands -/
structure Def (K : PySem.W.Frag) (mg : Str → Option Value) (x : Str) (st : Stmt) (ps : List Str) where
  f : Addr
  fd : FuncData
  F : Fun K x x st f fd
  g : mg x = some (.ref f)
  b : Binds K fd ps []
def Def.cal {P : Program} {w : World} {K : PySem.W.Frag} {mg : Str → Option Value} {base : Heap} {x : Str} {st : Stmt} {k : Nat} {ps : List Str} {sp : Sp} (d : Def K mg x st ps) (ok : FnOk P w K mg base CX0 k d.f d.fd ps sp) : Cal P w K mg base x k ps sp := ⟨d.f, d.fd, ok, d.g, d.F.kp, d.b⟩
theorem pe_gc {X : Cx} {x : Str} {v : V} {pos : Pos} (hg : Gl X x) (h : ∃ u, X.mg x = some u ∧ RelV v u) (hd : (x == ("__debug__" : Str)) = false := by decide) : PE X (.Name x pos) (tC v) := by
  obtain ⟨u, hm, r⟩ := h
  exact pe_glob hg hm r hd
theorem pg_tupK {X : Cx} {K : PySem.W.Frag} {es : List Expr} {k : Nat} {pos : Pos} {t : TGs} {n : Nat} (hK : X.K = K) (hc : X.calm = true) (h : PGs X es t)
    (hn : (assignEach es X.env).length = n := by rfl) (hst : (assignEach es X.env).findIdx? (·.1) = none := by rfl) : PG X (.Tuple es k pos) (gTup K n t) := by
  subst hK
  exact pg_tup hc h hn hst
theorem room_hu {k : Nat} {A : Around} (hr : Room k A) : A.units + 64 < cLine := by have := hr.un; omega
def tupI (ns : List Int) : NK := .tup (ns.map .num)
end NM
namespace NM
open PySem PySem.Spec PyProof.Rows L2
/-! rules inside a comprehension's block, K named -/
section
variable {X : Cx} {K : PySem.W.Frag}
theorem op_catAK (hK : X.K = K) : OpR X (binaryOp .Add) (rCatA K) := hK ▸ op_catA
theorem op_repTK (hK : X.K = K) : OpR X (binaryOp .Mult) (rRepT K) := hK ▸ op_repT
theorem ix_tupK (hK : X.K = K) : IxR X (rIxT K) := hK ▸ ix_tup
theorem ix_listK (hK : X.K = K) : IxR X (rIxL K) := hK ▸ ix_list
theorem sl_tupAK (hK : X.K = K) : SlR X (rSlA K) := hK ▸ sl_tupA
theorem sl_listK (hK : X.K = K) : SlR X (rSlL K) := hK ▸ sl_list
theorem op_in_seqK (hK : X.K = K) : OpR X (compareOp .In) (rIn K false) := hK ▸ op_in_seq
theorem op_notIn_seqK (hK : X.K = K) : OpR X (compareOp .NotIn) (rIn K true) := hK ▸ op_notIn_seq
theorem op_eqDK (hK : X.K = K) (hu : X.A.units + 64 < cLine) : OpR X (compareOp .Eq) (rEqD K) := hK ▸ op_eqD hu
theorem op_neDK (hK : X.K = K) (hu : X.A.units + 64 < cLine) : OpR X (compareOp .NotEq) (rNeD K) := hK ▸ op_neD hu
theorem cr_sumK (hK : X.K = K) (hc : X.calm = true) : CallR X (.builtin "sum") (rSum K) := hK ▸ cr_sum hc
theorem cr_anyK (hK : X.K = K) (hc : X.calm = true) : CallR X (.builtin "any") (rAny K) := hK ▸ cr_any hc
theorem cr_allK (hK : X.K = K) (hc : X.calm = true) : CallR X (.builtin "all") (rAll K) := hK ▸ cr_all hc
theorem call_isiK (hK : X.K = K) : CallR X (.builtin "isinstance") (rIsi K) := hK ▸ call_isi
theorem call_tuple_ofK (hK : X.K = K) : CallR X (.type "tuple") (fun xs H Q => ∃ p ys, xs = [.ref p] ∧ ((SqL K H p ys ∧ ∀ l, H l = none → Q (.ref l) (upd H l (.tup ys))) ∨ (SqT K H p ys ∧ Q (.ref p) H))) := hK ▸ call_tuple_of
theorem call_len_seqK (hK : X.K = K) : CallR X (.builtin "len") (fun xs H Q => ∃ p ys, xs = [.ref p] ∧ (SqL K H p ys ∨ SqT K H p ys) ∧ Q (.int ys.length) H) := hK ▸ call_len_seq
theorem pi_tupK {tg l : Expr} {tl : TE} (hK : X.K = K) (hl : PE X l tl) : PI X tg l (iTup K tl) := hK ▸ pi_tup hl
theorem pi_listK {tg l : Expr} {tl : TE} (hK : X.K = K) (hl : PE X l tl) : PI X tg l (iList K tl) := hK ▸ pi_list hl
theorem pi_zipBK (t u : Bool) {e e2 : Expr} {ta : TA} {p pos tpos : Pos} {elts : List Expr} {kk : Nat} (hK : X.K = K) (hg : Gl X "zip") (hm : X.mg "zip" = none) (ha : PA X [e, e2] ta)
    (hs : starEach [e, e2] X.env = (false, eval e X.env) :: starEach [e2] X.env := by rfl) (hpl : (backTo pos (starEach [e2] X.env)).any (·.1) = false := by rfl) :
    PI X (.Tuple elts kk tpos) (.Call (.Name "zip" p) [e, e2] [] pos) (iZipB t u K ta) := hK ▸ pi_zipB t u hg hm ha hs hpl
end
end NM
namespace NM
open PySem PySem.Spec PyProof.Rows L2
section
variable {K : PySem.W.Frag} {σ : L2.St} {H H' : Hp} {ta tb tc te tx : TE} {t u : TT} {x y z v : V} {Γ : List Sl} {k : NK} {ks : List NK} {b : Bool}
def tyN : NK → String
  | .none => "NoneType"
  | .num _ => "int"
  | .text _ => "str"
  | .tup _ => "tuple"
theorem Nk.ty (h : Nk K H v k) : TyX K H v (.type (tyN k)) := by
  cases h with
  | non => exact .base .non
  | int i => exact .base (.int i)
  | str x => exact .base (.str x)
  | tup hs _ =>
    rcases hs with (hs | ⟨o, hs⟩) | ⟨o, its, n, hl, hc, _⟩
    · exact .base (.tup hs)
    · exact .fTuple hs
    · exact .kTuple hl hc
/-- isinstance(e, T) -/
theorem ev_isi {T c : String} (ha : Ed K ta σ H k) (eT : tyN k = T) (e : kitB T c = some b) : Ev (tCB (rIsi K) (tCons ta (tCons (tC (.ty c)) tNil))) σ H (.bl b) := fun H1 s Q q =>
  ha H1 s _ fun w H2 s2 n => ⟨w, .ty c, .type (tyN k), .type c, b, rfl, .ty c, n.ty, kit_ty (by rw [eT]; exact e), q _ H2 s2 rfl⟩
/-- a comparison chain of ints -/
theorem ev_chain {g g' : Int → Int → V} {i j l : Int} {c1 c2 : Bool} (ha : Ed K ta σ H (.num i)) (hb : Ed K tb σ H (.num j)) (hc : Ed K tc σ H (.num l)) (e1 : g i j = .bl c1) (e2 : g' j l = .bl c2) : Ev (tChain (rI0 g) (rI0 g') ta tb tc) σ H (.bl (c1 && c2)) := fun H1 s Q q =>
  ha H1 s _ fun w1 H2 s2 n1 => hb H2 (s.trans s2) _ fun w2 H3 s3 n2 => ⟨i, j, n1.int_eq, n2.int_eq, by
    rw [e1]
    refine ⟨c1, rfl, ?_⟩
    cases c1 with
    | true => exact iteT (hc H3 ((s.trans s2).trans s3) _ fun w3 H4 s4 n3 => ⟨j, l, n2.int_eq, n3.int_eq, by rw [e2]; exact q _ H4 ((s2.trans s3).trans s4) rfl⟩)
    | false => exact iteF (q _ H3 (s2.trans s3) rfl)⟩
theorem nk_scs : ∀ {xs : List V} {ks : List NK}, NkAll K H xs ks → (∀ k ∈ ks, isSc k = true) → xs = ks.map scV
  | _, [], h, _ => by cases h; rfl
  | _, k :: ks, h, f => by
    cases h with
    | cons a r => rw [List.map_cons, a.sc (f k (List.mem_cons_self ..)), nk_scs r fun kk hm => f kk (List.mem_cons_of_mem _ hm)]
/-- x in t -/
theorem ev_inT {n : Bool} {p : NK} (ha : Ed K ta σ H p) (hp : isSc p = true) (hb : Ed K tb σ H (.tup ks)) (hk : ∀ k ∈ ks, isSc k = true) (e : (if n then !inV (scV p) (ks.map scV) else inV (scV p) (ks.map scV)) = b) : Ev (tOp (rIn K n) ta tb) σ H (.bl b) := fun H1 s Q q =>
  ha H1 s _ fun w1 H2 s2 n1 => hb H2 (s.trans s2) _ fun w2 H3 s3 n2 => by
    obtain ⟨a, xs, rfl, hs, hn⟩ := n2.tup_eq
    have hx : xs = ks.map scV := nk_scs hn hk
    have flat : ∀ k : NK, isSc k = true → flatV (scV k) = true := fun k h => by cases k <;> first | rfl | cases h
    refine ⟨a, xs, rfl, .inr hs, ?_, ?_, ?_⟩
    · rw [n1.sc hp]; exact flat p hp
    · rw [hx, List.all_map, List.all_eq_true]; exact fun k hm => flat k (hk k hm)
    · rw [n1.sc hp, hx, e]; exact q _ H3 (s2.trans s3) rfl
/-- == of data at any depth -/
theorem ev_eqD {l : NK} (ha : Ed K ta σ H k) (hb : Ed K tb σ H l) (h1 : SeqAt.shaped k.data = true) (h2 : SeqAt.shaped l.data = true) (e : PyData.eqv k.data l.data = b) : Ev (tOp (rEqD K) ta tb) σ H (.bl b) := fun H1 s Q q =>
  ha H1 s _ fun w1 H2 s2 n1 => hb H2 (s.trans s2) _ fun w2 H3 s3 n2 => ⟨k.data, l.data, Nk.dp k w1 (n1.mono (Same.ts s3)), Nk.dp l w2 n2, h1, h2, by rw [e]; exact q _ H3 (s2.trans s3) rfl⟩
theorem ev_neD {l : NK} (ha : Ed K ta σ H k) (hb : Ed K tb σ H l) (h1 : SeqAt.shaped k.data = true) (h2 : SeqAt.shaped l.data = true) (e : (!PyData.eqv k.data l.data) = b) : Ev (tOp (rNeD K) ta tb) σ H (.bl b) := fun H1 s Q q =>
  ha H1 s _ fun w1 H2 s2 n1 => hb H2 (s.trans s2) _ fun w2 H3 s3 n2 => ⟨k.data, l.data, Nk.dp k w1 (n1.mono (Same.ts s3)), Nk.dp l w2 n2, h1, h2, by rw [e]; exact q _ H3 (s2.trans s3) rfl⟩
/-- two new lists compared -/
theorem ev_eqLL {ls : List NK} (ha : EL (Nk K) ta σ H ks) (hb : EL (Nk K) tb σ H ls) (h1 : SeqAt.shaped (.list (NestedKey.datas ks)) = true) (h2 : SeqAt.shaped (.list (NestedKey.datas ls)) = true) (e : PyData.eqvAll (NestedKey.datas ks) (NestedKey.datas ls) = b) : Ev (tOp (rEqD K) ta tb) σ H (.bl b) := fun H1 s Q q =>
  ha H1 s _ fun p vs H2 hp s2 e2 n1 => hb H2 (s.trans s2) _ fun p2 ws H3 hp2 s3 e3 n2 => ⟨.list (NestedKey.datas ks), .list (NestedKey.datas ls), .lst (.inl (.inl (s3 _ _ e2))) (Nk.dpAll ks vs (nkAll_mono n1 (Same.ts s3))), .lst (.inl (.inl e3)) (Nk.dpAll ls ws n2), h1, h2, by
    show Q (.bl (PyData.eqv (.list (NestedKey.datas ks)) (.list (NestedKey.datas ls)))) H3
    rw [PyData.eqv, e]; exact q _ H3 (s2.trans s3) rfl⟩
theorem ev_neLL {ls : List NK} (ha : EL (Nk K) ta σ H ks) (hb : EL (Nk K) tb σ H ls) (h1 : SeqAt.shaped (.list (NestedKey.datas ks)) = true) (h2 : SeqAt.shaped (.list (NestedKey.datas ls)) = true) (e : (!PyData.eqvAll (NestedKey.datas ks) (NestedKey.datas ls)) = b) : Ev (tOp (rNeD K) ta tb) σ H (.bl b) := fun H1 s Q q =>
  ha H1 s _ fun p vs H2 hp s2 e2 n1 => hb H2 (s.trans s2) _ fun p2 ws H3 hp2 s3 e3 n2 => ⟨.list (NestedKey.datas ks), .list (NestedKey.datas ls), .lst (.inl (.inl (s3 _ _ e2))) (Nk.dpAll ks vs (nkAll_mono n1 (Same.ts s3))), .lst (.inl (.inl e3)) (Nk.dpAll ls ws n2), h1, h2, by
    show Q (.bl (!PyData.eqv (.list (NestedKey.datas ks)) (.list (NestedKey.datas ls)))) H3
    rw [PyData.eqv, e]; exact q _ H3 (s2.trans s3) rfl⟩
/-- arguments that aren't all data -/
def EaP (ta : TA) (σ : L2.St) (H : Hp) (Pd : List V → Hp → Prop) : Prop := ∀ H1, Same H H1 → ∀ Q : List V → Hp → Prop, (∀ vs H2, Same H1 H2 → Pd vs H2 → Q vs H2) → ta σ H1 Q
theorem eap_nil : EaP tNil σ H (fun vs _ => vs = []) := fun H1 _ Q q => q [] H1 (Same.refl H1) rfl
theorem eap_consD {tr : TA} {Pd : List V → Hp → Prop} (h : Ed K ta σ H k) (hr : EaP tr σ H Pd) : EaP (tCons ta tr) σ H (fun vs H' => ∃ v r, vs = v :: r ∧ Nk K H' v k ∧ Pd r H') := fun H1 s Q q =>
  h H1 s _ fun x H2 s2 n => hr H2 (s.trans s2) _ fun vs H3 s3 p => q (x :: vs) H3 (s2.trans s3) ⟨x, vs, rfl, n.mono (Same.ts s3), p⟩
theorem eap_consV {tr : TA} {Pd : List V → Hp → Prop} (h : Ev ta σ H v) (hr : EaP tr σ H Pd) : EaP (tCons ta tr) σ H (fun vs H' => ∃ r, vs = v :: r ∧ Pd r H') := fun H1 s Q q =>
  h H1 s _ fun x H2 s2 n => hr H2 (s.trans s2) _ fun vs H3 s3 p => q (x :: vs) H3 (s2.trans s3) ⟨vs, by rw [show x = v from n], p⟩
theorem eap_consL {tr : TA} {Pd : List V → Hp → Prop} (h : EL (Nk K) ta σ H ks) (hr : EaP tr σ H Pd) : EaP (tCons ta tr) σ H (fun vs H' => ∃ p xs r, vs = .ref p :: r ∧ H' p = some (.lst xs) ∧ NkAll K H' xs ks ∧ Pd r H') := fun H1 s Q q =>
  h H1 s _ fun p xs H2 hp s2 e n => hr H2 (s.trans s2) _ fun vs H3 s3 p' => q (.ref p :: vs) H3 (s2.trans s3) ⟨p, xs, vs, rfl, s3 _ _ e, nkAll_mono n (Same.ts s3), p'⟩
theorem er_callP {β : Type} {R : Hp → V → β → Prop} {c : β} {ta : TA} {sp : Sp} {E : XK} {Pd : List V → Hp → Prop} (h : EaP ta σ H Pd) (hf : ∀ vs H2 Q, Same H H2 → Pd vs H2 → (∀ v H3, Same H2 H3 → R H3 v c → Q v H3) → sp vs H2 Q E) : ER R (tCall sp [] E ta) σ H c := fun H1 s Q q =>
  h H1 s _ fun vs H2 s2 ns => by
    show sp (vs ++ []) H2 Q E
    rw [List.append_nil]
    exact hf vs H2 Q (s.trans s2) ns fun v H3 s3 r => q v H3 (s2.trans s3) r
/-- list(range(a, b)), list(range(n)) -/
theorem rgV_nk {i j : Int} : NkAll K H (rgV i j) (rangeK i (j - i).toNat) := by
  unfold rgV rangeK
  generalize List.range (j - i).toNat = l
  induction l with
  | nil => exact .nil
  | cons x l ih => exact .cons (.int _) ih
theorem el_listRg2 {te1 te2 : TE} {i j : Int} (h1 : Ed K te1 σ H (.num i)) (h2 : Ed K te2 σ H (.num j)) (ok : RgOk i j) : EL (Nk K) (tLstRg (tRg2 te1 te2)) σ H (rangeK i (j - i).toNat) := fun H1 s Q q =>
  h1 H1 s _ fun x H2 s2 n1 => h2 H2 (s.trans s2) _ fun y H3 s3 n2 => ⟨i, j, n1.int_eq, n2.int_eq, ok, fun p hp => q p _ _ (fresh_back (s2.trans s3) hp) ((s2.trans s3).trans (same_new hp)) upd_same rgV_nk⟩
theorem el_listRg1 {te1 : TE} {j : Int} (h1 : Ed K te1 σ H (.num j)) (ok : RgOk 0 j) : EL (Nk K) (tLstRg (tRg1 te1)) σ H (rangeK 0 j.toNat) := fun H1 s Q q =>
  h1 H1 s _ fun x H2 s2 n1 => ⟨j, n1.int_eq, ok, fun p hp => q p _ _ (fresh_back s2 hp) (s2.trans (same_new hp)) upd_same (by
    have h := rgV_nk (K := K) (H := upd H2 p (.lst (rgV 0 j))) (i := 0) (j := j)
    rw [Int.sub_zero] at h
    exact h)⟩
theorem eo_int {i : Int} : EO (tPart (tC (.int i))) σ H (some i) := fun H1 _ Q q => ⟨i, rfl, q H1 (Same.refl H1)⟩
end
section
variable {K : PySem.W.Frag} {β : Type} {R : Hp → V → β → Prop} {src : List Addr} {wi : TI} {tt : TT} {te : TE} {vs : List Nat} {σ : L2.St} {H : Hp} {ks : List NK} {Γ : List Sl}
theorem q_asgT {g : TG} {tz : L2.TS} {D : Ends} {js : List Nat} {k : NK} {Γ' : List Sl} (E : Env K H σ Γ) (h : Ed K te σ H k) (tg : Tg K g js k Γ Γ') (c : ∀ σ' H1, Same H H1 → Env K H1 σ' Γ' → tz D σ' H1) : tSeq (tAsg te g) tz D σ H :=
  h H (Same.refl H) _ fun v H1 s n => tg v σ H1 _ n (E.ts (Same.ts s)) fun σ' E' _ => c σ' H1 s E'
theorem s_asgT {g : TG} {D : Ends} {js : List Nat} {k : NK} {Γ' : List Sl} (E : Env K H σ Γ) (h : Ed K te σ H k) (tg : Tg K g js k Γ Γ') (c : ∀ σ' H1, Same H H1 → Env K H1 σ' Γ' → D.nx σ' H1) : tAsg te g D σ H :=
  h H (Same.refl H) _ fun v H1 s n => tg v σ H1 _ n (E.ts (Same.ts s)) fun σ' E' _ => c σ' H1 s E'
def fstK : NK → NK
  | .tup (a :: _) => a
  | _ => .none
def sndK : NK → NK
  | .tup (_ :: b :: _) => b
  | _ => .none
/-- [e for x in ..] -/
theorem el_lc1 (hR : ∀ H H' v b, TSt K H H' → R H v b → R H' v b) {j : Nat} (hw : Ew K src wi σ H ks) (E : Env K H σ Γ) (hz : ks.length < 100000) (hj : j ∈ vs) (val : NK → β)
    (he : ∀ k σ' H', k ∈ ks → Same H H' → Env K H' σ' ((wipeG Γ vs).set j (.d k)) → ER R te σ' H' (val k)) : EL R (tLc wi (gName j) tYes te vs) σ H (ks.map val) :=
  el_lcA (js := [j]) hR hw E hz (by intro a h; have e : a = j := by simpa using h
                                    rw [e]; exact hj) (fun k => (wipeG Γ vs).set j (.d k)) val (fun _ _ => tg_name) he
/-- [e for x in .. if t] -/
theorem el_lc1T (hR : ∀ H H' v b, TSt K H H' → R H v b → R H' v b) {j : Nat} (hw : Ew K src wi σ H ks) (E : Env K H σ Γ) (hz : ks.length < 100000) (hj : j ∈ vs) (keep : NK → Bool) (val : NK → β)
    (ht : ∀ k σ' H', k ∈ ks → Same H H' → Env K H' σ' ((wipeG Γ vs).set j (.d k)) → Et tt σ' H' (keep k))
    (he : ∀ k σ' H', k ∈ ks → Same H H' → keep k = true → Env K H' σ' ((wipeG Γ vs).set j (.d k)) → ER R te σ' H' (val k)) : EL R (tLc wi (gName j) tt te vs) σ H ((ks.filter keep).map val) :=
  el_lc (js := [j]) hR hw E hz (by intro a h; have e : a = j := by simpa using h
                                   rw [e]; exact hj) (fun k => (wipeG Γ vs).set j (.d k)) keep val (fun _ _ => tg_name) ht he
/-- [e for x, y in ..] -/
theorem el_lc2 (hR : ∀ H H' v b, TSt K H H' → R H v b → R H' v b) {i j : Nat} (hw : Ew K src wi σ H ks) (E : Env K H σ Γ) (hz : ks.length < 100000) (hi : i ∈ vs) (hj : j ∈ vs) (hp : ∀ k ∈ ks, ∃ a b, k = pairK a b) (val : NK → β)
    (he : ∀ a b σ' H', pairK a b ∈ ks → Same H H' → Env K H' σ' (((wipeG Γ vs).set i (.d a)).set j (.d b)) → ER R te σ' H' (val (pairK a b))) :
    EL R (tLc wi (gTup K 2 (gCons (gName i) (gCons (gName j) gNil))) tYes te vs) σ H (ks.map val) :=
  el_lcA (js := [i, j]) hR hw E hz (by intro a h; have e : a = i ∨ a = j := by simpa using h
                                       rcases e with e | e <;> (rw [e]; assumption)) (fun k => ((wipeG Γ vs).set i (.d (fstK k))).set j (.d (sndK k))) val
    (fun k hk => by obtain ⟨a, b, rfl⟩ := hp k hk; exact tg_pair) fun k σ' H' hk s' E' => by obtain ⟨a, b, rfl⟩ := hp k hk; exact he a b σ' H' hk s' E'
theorem zip_pairs {ls : List NK} : ∀ k ∈ zipK ks ls, ∃ a b, k = pairK a b := by
  intro k hk
  unfold zipK at hk
  rw [List.mem_iff_getElem?] at hk
  obtain ⟨i, hi⟩ := hk
  rw [List.getElem?_zipWith] at hi
  split at hi
  · exact ⟨_, _, (Option.some.inj hi).symm⟩
  · cases hi
end
end NM
namespace NM
open PySem PySem.Spec PyProof.Rows L2
section
variable {P : Program} {w : World} {K : PySem.W.Frag} {mg : Str → Option Value} {base : Heap}

/-! ### is_from -/
abbrev sIsFrom : Stmt := topS 10
abbrev nIsFrom : List Str := ["value", "least", "most"]
theorem scIsFrom : FnScope ["value", "least", "most"] ["value", "least", "most"] (defScope sIsFrom) := ⟨rfl, rfl, rfl, by decide +kernel, rfl, by decide +kernel, by decide +kernel⟩
def isFrom (v l m : Int) : Bool := decide (l ≤ v) && decide (v ≤ m)
def spIsFrom (K : PySem.W.Frag) : Sp := fun vs H Q _ => ∃ v l m : Int, NkAll K H vs [.num v, .num l, .num m] ∧ RetV (.bl (isFrom v l m)) H Q
theorem ok_is_from (T : Gs K mg) (d : Def K mg "is_from" sIsFrom ["value", "least", "most"]) : FnOk P w K mg base CX0 1 d.f d.fd ["value", "least", "most"] (spIsFrom K) := by
  refine d.F.ok scIsFrom (fun vs H Q E h => ?_) (fun cdv A outer s H vs Q E hr h => ?_)
  · obtain ⟨v, l, m, h, _⟩ := h
    have e := plen h
    exact e
  · obtain ⟨v, l, m, h, q⟩ := h
    have E0 := env_start (N := nIsFrom) h
    refine ⟨_, pss_one (ps_ret (pe_and (pe_callB call_isi (by rfl) T.z_isinstance (by decide +kernel) (pa_cons (pv 0) (pa_cons (pe_bltn (v := .ty "int") (by rfl) T.z_int (by decide +kernel) rfl) pa_nil))) (pe_and (pe_not (pe_callB call_isi (by rfl) T.z_isinstance (by decide +kernel) (pa_cons (pv 0) (pa_cons (pe_bltn (v := .ty "bool") (by rfl) T.z_bool (by decide +kernel) rfl) pa_nil)))) (pe_one (pe_chain op_le op_le (pv 1) (pv 0) (pv 2)))))), ?_⟩
    refine s_retV (ev_andV (ev_isi (T := "int") (b := true) (ed_var E0 rfl) rfl (by decide +kernel)) fun _ => ev_andV (ev_notV (ev_isi (T := "int") (b := false) (ed_var E0 rfl) rfl (by decide +kernel))) fun _ => ev_chain (ed_var E0 rfl) (ed_var E0 rfl) (ed_var E0 rfl) rfl rfl) ?_
    exact fun H1 s1 => q H1 s1

/-! ### need_number -/
abbrev sNeedNumber : Stmt := topS 13
abbrev nNeedNumber : List Str := ["value", "least", "most"]
theorem scNeedNumber : FnScope ["value", "least", "most"] ["value", "least", "most"] (defScope sNeedNumber) := ⟨rfl, rfl, rfl, by decide +kernel, rfl, by decide +kernel, by decide +kernel⟩
def spNeedNumber (K : PySem.W.Frag) : Sp := fun vs H Q _ => ∃ v l m : Int, NkAll K H vs [.num v, .num l, .num m] ∧ isFrom v l m = true ∧ RetV .non H Q
theorem et_is_from {E : XK} {σ : L2.St} {H : Hp} {te1 te2 te3 : TE} {v l m : Int} (h1 : Ed K te1 σ H (.num v)) (h2 : Ed K te2 σ H (.num l)) (h3 : Ed K te3 σ H (.num m)) : Ev (tCall (spIsFrom K) [] E (tCons te1 (tCons te2 (tCons te3 tNil)))) σ H (.bl (isFrom v l m)) :=
  er_call (ea_cons h1 (ea_cons h2 (ea_cons h3 ea_nil))) fun vs H2 Q s n q => ⟨v, l, m, n, fun H' s' => q _ H' s' rfl⟩
theorem ok_need_number (T : Gs K mg) (C_is_from : Cal P w K mg base "is_from" 1 ["value", "least", "most"] (spIsFrom K)) (d : Def K mg "need_number" sNeedNumber ["value", "least", "most"]) : FnOk P w K mg base CX0 2 d.f d.fd ["value", "least", "most"] (spNeedNumber K) := by
  refine d.F.ok scNeedNumber (fun vs H Q E h => ?_) (fun cdv A outer s H vs Q E hr h => ?_)
  · obtain ⟨v, l, m, h, _⟩ := h
    have e := plen h
    exact e
  · obtain ⟨v, l, m, h, hv, q⟩ := h
    have E0 := env_start (N := nNeedNumber) h
    refine ⟨_, pss_one (ps_if (pt_not (pt_val (pe_cal C_is_from (hr.mono (by decide)) (by rfl) (pa_cons (pv 0) (pa_cons (pv 1) (pa_cons (pv 2) pa_nil)))))) pss_never pss_nil), ?_⟩
    refine s_ifN (et_to (et_not (et_B (et_is_from (ed_var E0 rfl) (ed_var E0 rfl) (ed_var E0 rfl)))) (by rw [hv]; rfl)) ?_
    exact fun H1 s1 => q H1 s1

/-! ### need_prime -/
abbrev sNeedPrime : Stmt := topS 21
abbrev nNeedPrime : List Str := ["value"]
theorem scNeedPrime : FnScope ["value"] ["value"] (defScope sNeedPrime) := ⟨rfl, rfl, rfl, by decide +kernel, rfl, by decide +kernel, by decide +kernel⟩
def spNeedPrime (K : PySem.W.Frag) : Sp := fun vs H Q _ => ∃ v : Int, NkAll K H vs [.num v] ∧ (v = 5 ∨ v = 7) ∧ RetV .non H Q
theorem nk_primes (T : Gs K mg) (H : Hp) : Nk K H (.ref T.primes) (tupI [5, 7, 11, 13]) := .tup (T.s_PRIMES H) (ints_nk [5, 7, 11, 13])
theorem ok_need_prime (T : Gs K mg) (C_is_from : Cal P w K mg base "is_from" 1 ["value", "least", "most"] (spIsFrom K)) (d : Def K mg "need_prime" sNeedPrime ["value"]) : FnOk P w K mg base CX0 2 d.f d.fd ["value"] (spNeedPrime K) := by
  refine d.F.ok scNeedPrime (fun vs H Q E h => ?_) (fun cdv A outer s H vs Q E hr h => ?_)
  · obtain ⟨v, h, _⟩ := h
    have e := plen h
    exact e
  · obtain ⟨v, h, hv, q⟩ := h
    have E0 := env_start (N := nNeedPrime) h
    refine ⟨_, pss_one (ps_if (PW.pt (pw_or (pt_not (pt_val (pe_cal C_is_from (hr.mono (by decide)) (by rfl) (pa_cons (pv 0) (pa_cons pe_int (pa_cons pe_int pa_nil)))))) (pw_or1 (pt_cmpR op_notIn_seq (pv 0) (pe_gc rfl T.c_PRIMES) (by rfl))))) pss_never pss_nil), ?_⟩
    refine s_ifN (et_to (et_or (et_not (et_B (et_is_from (ed_var E0 rfl) ed_int ed_int))) (fun _ => et_test (ev_inT (n := true) (b := false) (ed_var E0 rfl) rfl (ed_k (nk_primes T H)) (fun k hk => ?_) ?_))) ?_) ?_
    · rcases List.mem_map.mp hk with ⟨x, _, rfl⟩
      rfl
    · rcases hv with rfl | rfl <;> decide
    · rcases hv with rfl | rfl <;> rfl
    · exact fun H1 s1 => q H1 s1

/-! ### are_numbers -/
abbrev sAreNumbers : Stmt := topS 22
abbrev nAreNumbers : List Str := ["p", "value", "one"]
theorem scAreNumbers : FnScope ["p", "value", "one"] ["p", "value"] (defScope sAreNumbers) := ⟨rfl, rfl, rfl, by decide +kernel, rfl, by decide +kernel, by decide +kernel⟩
def inP (p : Int) (ns : List Int) : Prop := ∀ n ∈ ns, 0 ≤ n ∧ n < p
def spAreNumbers (K : PySem.W.Frag) : Sp := fun vs H Q _ => ∃ (p : Int) (ns : List Int), NkAll K H vs [.num p, tupI ns] ∧ inP p ns ∧ ns.length < 1000 ∧ RetV (.bl true) H Q
theorem all_true {α : Type} {f : α → Bool} {l : List α} (h : ∀ x ∈ l, f x = true) : (l.map f).all id = true := by
  rw [List.all_map, List.all_eq_true]
  exact h
theorem ok_are_numbers (T : Gs K mg) (C_is_from : Cal P w K mg base "is_from" 1 ["value", "least", "most"] (spIsFrom K)) (d : Def K mg "are_numbers" sAreNumbers ["p", "value"]) : FnOk P w K mg base CX0 2 d.f d.fd ["p", "value"] (spAreNumbers K) := by
  refine d.F.ok scAreNumbers (fun vs H Q E h => ?_) (fun cdv A outer s H vs Q E hr h => ?_)
  · obtain ⟨p, ns, h, _⟩ := h
    have e := plen h
    exact e
  · obtain ⟨p, ns, h, hn, hz, q⟩ := h
    have E0 := env_start (N := nAreNumbers) h
    refine ⟨_, pss_one (ps_ret (pe_and (pe_callB call_isi (by rfl) T.z_isinstance (by decide +kernel) (pa_cons (pv 1) (pa_cons (pe_bltn (v := .ty "tuple") (by rfl) T.z_tuple (by decide +kernel) rfl) pa_nil))) (pe_one (pe_callB (cr_all rfl) (by rfl) T.z_all (by decide +kernel) (pa_cons (pe_lc (own := [("one", 2)]) rfl scAreNumbers.nd (pi_tup (pv 1)) (blkOk_by (by kernel_rfl)) (fun _ _ _ _ _ => pg_name (i := 2) scAreNumbers.nd rfl (.inl rfl) (.inr rfl)) (fun _ _ _ _ _ => pts_nil) (fun _ _ _ _ _ => pe_cal C_is_from (hr.mono (by decide)) (by rfl) (pa_cons (pv 2) (pa_cons pe_int (pa_cons (pe_op op_sub (pv 0) pe_int) pa_nil))))) pa_nil))))), ?_⟩
    refine s_retV (ev_to (ev_andV (ev_isi (T := "tuple") (b := true) (ed_var E0 rfl) rfl (by decide +kernel)) fun _ => ev_anyall (fun a bs H Q h q => ⟨a, bs, rfl, h, q⟩) (el_lcA bl_ts (ew_tup (es_tup (ed_var E0 rfl))) E0 ?_ (by decide) _ (fun k => match k with | .num n => isFrom n 0 (p - 1) | _ => true) (fun k hk => tg_name) fun k σ' H' hk s' E' => ?_)) (w := .bl true) ?_) ?_
    · rw [List.length_map]; omega
    · obtain ⟨n, _, rfl⟩ := List.mem_map.mp hk
      exact et_is_from (ed_var E' rfl) ed_int (ed_I0 (ed_var E' rfl) ed_int rfl)
    · rw [Bool.true_and, all_true]
      intro k hk
      obtain ⟨n, hm, rfl⟩ := List.mem_map.mp hk
      have := hn n hm
      show isFrom n 0 (p - 1) = true
      unfold isFrom
      rw [decide_eq_true (by omega), decide_eq_true (by omega)]
      rfl
    · exact fun H1 s1 => q H1 s1

/-! ### is_lot, need_lot -/
abbrev sIsLot : Stmt := topS 11
abbrev nIsLot : List Str := ["value", "most", "one", "other"]
theorem scIsLot : FnScope ["value", "most", "one", "other"] ["value", "most"] (defScope sIsLot) := ⟨rfl, rfl, rfl, by decide +kernel, rfl, by decide +kernel, by decide +kernel⟩
def rising : List Int → Prop
  | a :: b :: r => a < b ∧ rising (b :: r)
  | _ => True
def lotOk (many : Int) (ns : List Int) : Prop := ns ≠ [] ∧ inP many ns ∧ rising ns ∧ ns.length < 1000
def spIsLot (K : PySem.W.Frag) : Sp := fun vs H Q _ => ∃ (m : Int) (ns : List Int), NkAll K H vs [tupI ns, .num m] ∧ lotOk m ns ∧ RetV (.bl true) H Q
theorem shaped_tupI (ns : List Int) : SeqAt.shaped (tupI ns).data = true := by
  have h1 : ∀ l : List Int, PyData.canLayAll0 (NestedKey.datas (l.map .num)) = true := by
    intro l
    induction l with
    | nil => rfl
    | cons a l ih => exact ih
  have h2 : ∀ l : List Int, PyData.depthAll (NestedKey.datas (l.map .num)) = 0 := by
    intro l
    induction l with
    | nil => rfl
    | cons a l ih => show max 0 (PyData.depthAll (NestedKey.datas (l.map .num))) = 0; rw [ih]; rfl
  show (PyData.canLayAll0 (NestedKey.datas (ns.map .num)) && decide (PyData.depthAll (NestedKey.datas (ns.map .num)) + 1 ≤ 64)) = true
  rw [h1, h2]
  rfl
theorem rising_zip : ∀ {ns : List Int}, rising ns → ∀ k ∈ zipK (ns.map .num) ((ns.map .num).drop 1), ∃ a b : Int, k = pairK (.num a) (.num b) ∧ a < b
  | [], _, k, h => by simp [zipK] at h
  | [a], _, k, h => by simp [zipK] at h
  | a :: b :: r, hr, k, h => by
    have h' : k ∈ pairK (.num a) (.num b) :: zipK ((b :: r).map .num) (((b :: r).map .num).drop 1) := h
    rcases List.mem_cons.mp h' with e | h'
    · exact ⟨a, b, e, hr.1⟩
    · exact rising_zip hr.2 k h'
theorem ok_is_lot (T : Gs K mg) (C_is_from : Cal P w K mg base "is_from" 1 ["value", "least", "most"] (spIsFrom K)) (d : Def K mg "is_lot" sIsLot ["value", "most"]) : FnOk P w K mg base CX0 2 d.f d.fd ["value", "most"] (spIsLot K) := by
  refine d.F.ok scIsLot (fun vs H Q E h => ?_) (fun cdv A outer s H vs Q E hr h => ?_)
  · obtain ⟨p, ns, h, _⟩ := h
    have e := plen h
    exact e
  · obtain ⟨m, ns, h, ⟨h0, hn, hrs, hz⟩, q⟩ := h
    have E0 := env_start (N := nIsLot) h
    have hu := room_hu hr
    refine ⟨_, pss_cons (ps_if (PW.pt (pw_or (pt_not (pt_val (pe_callB call_isi (by rfl) T.z_isinstance (by decide +kernel) (pa_cons (pv 0) (pa_cons (pe_bltn (v := .ty "tuple") (by rfl) T.z_tuple (by decide +kernel) rfl) pa_nil))))) (pw_or (pt_cmpR (op_eqD hu) (pv 0) (pe_tup pa_nil) (nomark _)) (pw_or1 (pt_not (pt_val (pe_callB (cr_all rfl) (by rfl) T.z_all (by decide +kernel) (pa_cons (pe_lc (own := [("one", 2)]) rfl scIsLot.nd (pi_tup (pv 0)) (blkOk_by (by kernel_rfl)) (fun _ _ _ _ _ => pg_name (i := 2) scIsLot.nd rfl (.inl rfl) (.inr rfl)) (fun _ _ _ _ _ => pts_nil) (fun _ _ _ _ _ => pe_cal C_is_from (hr.mono (by decide)) (by rfl) (pa_cons (pv 2) (pa_cons pe_int (pa_cons (pe_op op_sub (pv 1) pe_int) pa_nil))))) pa_nil)))))))) (pss_one (ps_ret pe_bl)) pss_nil)
      (pss_one (ps_ret (pe_callB (cr_all rfl) (by rfl) T.z_all (by decide +kernel) (pa_cons (pe_lc (own := [("one", 2), ("other", 3)]) rfl scIsLot.nd (pi_zipB true true (by rfl) T.z_zip (pa_cons (pv 0) (pa_cons (pe_slice sl_tupA (pv 0) (po_some pe_int) po_none) pa_nil))) (blkOk_by (by kernel_rfl)) (fun _ _ _ _ _ => pg_tupK (K := K) (n := 2) rfl rfl (pgs_cons (pg_name (i := 2) scIsLot.nd rfl (.inl rfl) (.inr rfl)) (pgs_cons (pg_name (i := 3) scIsLot.nd rfl (.inl rfl) (.inr rfl)) pgs_nil))) (fun _ _ _ _ _ => pts_nil) (fun _ _ _ _ _ => pe_cmpR op_lt (pv 2) (pv 3) (nomark _))) pa_nil)))), ?_⟩
    obtain ⟨a, r, rfl⟩ : ∃ a r, ns = a :: r := by
      cases ns with
      | nil => exact (h0 rfl).elim
      | cons a r => exact ⟨a, r, rfl⟩
    refine q_ifN (et_to (et_or (et_not (et_B (ev_isi (T := "tuple") (b := true) (ed_var E0 rfl) rfl (by decide +kernel)))) (fun _ => et_or (et_test (ev_eqD (ed_var E0 rfl) (ed_tup ea_nil (Nat.zero_le _)) (shaped_tupI _) (by decide) rfl)) (fun _ => et_not (et_B (ev_to (ev_anyall (fun a bs H Q h q => ⟨a, bs, rfl, h, q⟩) (el_lcA bl_ts (ew_tup (es_tup (ed_var E0 rfl))) E0 ?_ (by decide) _ (fun k => match k with | .num n => isFrom n 0 (m - 1) | _ => true) (fun k hk => tg_name) fun k σ' H' hk s' E' => ?_)) (w := .bl true) ?_))))) ?_) ?_
    · rw [List.length_map]; omega
    · obtain ⟨n, _, rfl⟩ := List.mem_map.mp hk
      exact et_is_from (ed_var E' rfl) ed_int (ed_I0 (ed_var E' rfl) ed_int rfl)
    · rw [all_true]
      intro k hk
      obtain ⟨n, hm, rfl⟩ := List.mem_map.mp hk
      have := hn n hm
      show isFrom n 0 (m - 1) = true
      unfold isFrom
      rw [decide_eq_true (by omega), decide_eq_true (by omega)]
      rfl
    · rfl
    · intro H1 s1
      have E1 := E0.ts (Same.ts s1)
      have hz' : ((a :: r).map NestedKey.num).length = (a :: r).length := List.length_map ..
      refine s_retV (ev_to (ev_anyall (fun a bs H Q h q => ⟨a, bs, rfl, h, q⟩) (el_lc2 bl_ts (ew_zip (es_tup (ed_var E1 rfl)) (es_tup (ed_slT (ls := ((a :: r).map .num).drop 1) (ed_var E1 rfl) eo_int eo_none ?_))) E1 ?_ (by decide) (by decide) zip_pairs (fun k => match k with | .tup [.num x, .num y] => decide (x < y) | _ => true) fun x1 y1 σ' H' hk s' E' => ?_)) (w := .bl true) ?_) ?_
      · rw [show HT.sIx ((a :: r).map NestedKey.num).length 0 (some 1) = min 1 ((a :: r).map NestedKey.num).length from HT.sIx_nat _ 0 1, HT.sIx_none, show min 1 ((a :: r).map NestedKey.num).length = 1 by rw [List.length_map, List.length_cons]; omega]
        exact List.take_of_length_le (by rw [List.length_drop]; omega)
      · rw [zipK, List.length_zipWith, List.length_map]; omega
      · obtain ⟨x, y, e, hxy⟩ := rising_zip hrs _ hk
        cases e
        exact ev_I0 (ed_var E' rfl) (ed_var E' rfl) rfl
      · rw [all_true]
        intro k hk
        obtain ⟨x, y, rfl, hxy⟩ := rising_zip hrs k hk
        exact decide_eq_true hxy
      · exact fun H2 s2 => q H2 (s1.trans s2)

abbrev sNeedLot : Stmt := topS 17
abbrev nNeedLot : List Str := ["value", "many", "is_void_let"]
theorem scNeedLot : FnScope ["value", "many", "is_void_let"] ["value", "many", "is_void_let"] (defScope sNeedLot) := ⟨rfl, rfl, rfl, by decide +kernel, rfl, by decide +kernel, by decide +kernel⟩
def spNeedLot (K : PySem.W.Frag) : Sp := fun vs H Q _ => ∃ (m : Int) (ns : List Int) (a b : V), vs = [a, b, .bl false] ∧ Nk K H a (tupI ns) ∧ Nk K H b (.num m) ∧ lotOk m ns ∧ RetV .non H Q
theorem ok_need_lot (T : Gs K mg) (C_is_lot : Cal P w K mg base "is_lot" 2 ["value", "most"] (spIsLot K)) (d : Def K mg "need_lot" sNeedLot ["value", "many", "is_void_let"]) : FnOk P w K mg base CX0 3 d.f d.fd ["value", "many", "is_void_let"] (spNeedLot K) := by
  refine d.F.ok scNeedLot (fun vs H Q E h => ?_) (fun cdv A outer s H vs Q E hr h => ?_)
  · obtain ⟨m, ns, a, b, rfl, _⟩ := h
    rfl
  · obtain ⟨m, ns, a, b, rfl, h1, h2, hl, q⟩ := h
    have E0 : Env K H (L2.start nNeedLot [a, b, .bl false]) [.d (tupI ns), .d (.num m), .v (.bl false)] := .cons ⟨_, rfl, h1⟩ (.cons ⟨_, rfl, h2⟩ (.cons rfl .nil))
    have hu := room_hu hr
    refine ⟨_, pss_one (ps_if (PW.pt (pw_and (pt_not (pt_val (pe_cal C_is_lot (hr.mono (by decide)) (by rfl) (pa_cons (pv 0) (pa_cons (pv 1) pa_nil))))) (pw_and1 (pt_not (PW.pt (pw_and (pt_val (pv 2)) (pw_and (pt_val (pe_callB call_isi (by rfl) T.z_isinstance (by decide +kernel) (pa_cons (pv 0) (pa_cons (pe_bltn (v := .ty "tuple") (by rfl) T.z_tuple (by decide +kernel) rfl) pa_nil)))) (pw_and1 (pt_cmpR (op_eqD hu) (pv 0) (pe_tup pa_nil) (nomark _)))))))))) pss_never pss_nil), ?_⟩
    have e1 : Ev (tCall (spIsLot K) [] (fun _ _ _ => False) (tCons (tVar 0) (tCons (tVar 1) tNil))) (L2.start nNeedLot [a, b, .bl false]) H (.bl true) :=
      er_call (ea_cons (ed_var E0 rfl) (ea_cons (ed_var E0 rfl) ea_nil)) fun vs H2 Q s n q => ⟨m, ns, n, hl, fun H' s' => q _ H' s' rfl⟩
    refine s_ifN (et_to (et_and (c := false) (et_not (et_B e1)) (fun h => by cases h)) rfl) ?_
    exact fun H1 s1 => q H1 s1
end
end NM
namespace NM
open PySem PySem.Spec PyProof.Rows L2
section
variable {P : Program} {w : World} {K : PySem.W.Frag} {mg : Str → Option Value} {base : Heap}
theorem Env.frg {H : Hp} : ∀ {σ : L2.St} {Γ : List Sl} (i : Nat), Env K H σ Γ → Env K H σ (Γ.set i .u)
  | _, _, _, .nil => .nil
  | _, _, 0, .cons _ t => .cons True.intro t
  | _, _, i + 1, .cons a t => .cons a (Env.frg i t)
theorem foldl_take {α β : Type} {f : α → β → α} {a : α} {l : List β} {i : Nat} {x : β} (h : l[i]? = some x) : (l.take (i + 1)).foldl f a = f ((l.take i).foldl f a) x := by
  rw [List.take_add_one, h, List.foldl_append]
  rfl
theorem cmulR {i j : Int} (h1 : -1000 < j) (h2 : j < 1000) : CMul i j := .inr ⟨by omega, by omega⟩
theorem cmulL {i j : Int} (h1 : -1000 < i) (h2 : i < 1000) : CMul i j := .inl ⟨by omega, by omega⟩

/-! ### value_at -/
abbrev sValueAt : Stmt := topS 23
abbrev nValueAt : List Str := ["p", "secret", "coins", "place", "found", "coin"]
theorem scValueAt : FnScope ["p", "secret", "coins", "place", "found", "coin"] ["p", "secret", "coins", "place"] (defScope sValueAt) := ⟨rfl, rfl, rfl, by decide +kernel, rfl, by decide +kernel, by decide +kernel⟩
def valueAtL (p place : Int) (cs : List Int) : Int := cs.foldl (fun a c => (a + c) * place % p) 0
def valueAtP (p s : Int) (cs : List Int) (place : Int) : Int := (valueAtL p place cs.reverse + s) % p
def spValueAt (K : PySem.W.Frag) : Sp := fun vs H Q _ => ∃ (p s : Int) (cs : List Int) (place : Int), NkAll K H vs [.num p, .num s, tupI cs, .num place] ∧ 0 < p ∧ 0 ≤ place ∧ place < 1000 ∧ cs.length < 1000 ∧ RetD K (.num (valueAtP p s cs place)) H Q
theorem ok_value_at (T : Gs K mg) (d : Def K mg "value_at" sValueAt ["p", "secret", "coins", "place"]) : FnOk P w K mg base CX0 1 d.f d.fd ["p", "secret", "coins", "place"] (spValueAt K) := by
  refine d.F.ok scValueAt (fun vs H Q E h => ?_) (fun cdv A outer s H vs Q E hr h => ?_)
  · obtain ⟨p, sc, cs, place, h, _⟩ := h
    have e := plen h
    exact e
  · obtain ⟨p, sc, cs, place, h, hp, hq, hq2, hz, q⟩ := h
    have E0 := env_start (N := nValueAt) h
    refine ⟨_, pss_cons (ps_set (i := 4) scValueAt.nd rfl (.inl rfl) pe_int)
      (pss_cons (ps_for PassesOwn.never rfl (pi_tup (pe_revT (pv 2))) (pg_name (i := 5) scValueAt.nd rfl (.inl rfl)) (pss_one (ps_set (i := 4) scValueAt.nd rfl (.inl rfl) (pe_op op_mod (pe_op op_mul (pe_op op_add (pv 4) (pv 5)) (pv 3)) (pv 0)))))
      (pss_one (ps_ret (pe_op op_mod (pe_op op_add (pv 4) (pv 1)) (pv 0))))), ?_⟩
    refine q_setD E0 ed_int fun σ1 H1 s1 E1 => ?_
    refine q_for (L := []) (ks := (cs.map NestedKey.num).reverse) (ew_tup (es_tup (ed_revT (ed_var E1 rfl)))) MutL.nil (fun _ h => nomatch h)
      (fun i σ' H' => Env K H' σ' [.d (.num p), .d (.num sc), .d (tupI cs), .d (.num place), .d (.num (valueAtL p place (cs.reverse.take i))), .u])
      (fun H2 s2 => E1.ts (Same.ts s2)) (fun i k σ2 H2 hk kp E2 x H3 s3 nx => ?_) (fun σ2 H2 kp E2 => ?_)
    · rw [← List.map_reverse, List.getElem?_map] at hk
      obtain ⟨c, hc, rfl⟩ := Option.map_eq_some_iff.mp hk
      have E3 := (E2.ts (Same.ts s3)).setD nx 5
      refine s_setD E3 (ed_I (ed_I (ed_I0 (ed_var E3 rfl) (ed_var E3 rfl) rfl) (ed_var E3 rfl) (cmulR (by omega) hq2) rfl) (ed_var E3 rfl) hp rfl) fun σ4 H4 s4 E4 => ⟨Same.keepL (s3.trans s4), ?_⟩
      have e : valueAtL p place (cs.reverse.take (i + 1)) = (valueAtL p place (cs.reverse.take i) + c) * place % p := foldl_take hc
      rw [e]
      exact E4.frg 5
    · rw [List.length_reverse, List.length_map, ← List.length_reverse, List.take_length] at E2
      have sE : Same H1 H2 := kp.same
      exact s_retD (ed_I (ed_I0 (ed_var E2 rfl) (ed_var E2 rfl) rfl) (ed_var E2 rfl) hp rfl) fun v H3 s3 n => q v H3 ((s1.trans sE).trans s3) n

/-! ### deal -/
abbrev sDeal : Stmt := topS 24
abbrev nDeal : List Str := ["p", "many", "secret", "coins", "person"]
theorem scDeal : FnScope ["p", "many", "secret", "coins", "person"] ["p", "many", "secret", "coins"] (defScope sDeal) := ⟨rfl, rfl, rfl, by decide +kernel, rfl, by decide +kernel, by decide +kernel⟩
def dealP (p many s : Int) (cs : List Int) : List Int := (List.range many.toNat).map fun (i : Nat) => valueAtP p s cs ((i : Int) + 1)
def spDeal (K : PySem.W.Frag) : Sp := fun vs H Q _ => ∃ (p many s : Int) (cs : List Int), NkAll K H vs [.num p, .num many, .num s, tupI cs] ∧ 0 < p ∧ 0 ≤ many ∧ many < 900 ∧ cs.length < 1000 ∧ RetD K (tupI (dealP p many s cs)) H Q
theorem ok_deal (T : Gs K mg) (C_value_at : Cal P w K mg base "value_at" 1 ["p", "secret", "coins", "place"] (spValueAt K)) (d : Def K mg "deal" sDeal ["p", "many", "secret", "coins"]) : FnOk P w K mg base CX0 2 d.f d.fd ["p", "many", "secret", "coins"] (spDeal K) := by
  refine d.F.ok scDeal (fun vs H Q E h => ?_) (fun cdv A outer s H vs Q E hr h => ?_)
  · obtain ⟨p, many, sc, cs, h, _⟩ := h
    have e := plen h
    exact e
  · obtain ⟨p, many, sc, cs, h, hp, hm, hm2, hz, q⟩ := h
    have E0 := env_start (N := nDeal) h
    refine ⟨_, pss_one (ps_ret (pe_callTy call_tuple_of (by rfl) T.z_tuple (by decide +kernel) (pa_cons (pe_lc (own := [("person", 4)]) rfl scDeal.nd (pi_range1 (by rfl) T.z_range (pa_cons (pv 1) pa_nil)) (blkOk_by (by kernel_rfl)) (fun _ _ _ _ _ => pg_name (i := 4) scDeal.nd rfl (.inl rfl) (.inr rfl)) (fun _ _ _ _ _ => pts_nil) (fun _ _ _ _ _ => pe_cal C_value_at (hr.mono (by decide)) (by rfl) (pa_cons (pv 0) (pa_cons (pv 2) (pa_cons (pv 3) (pa_cons (pe_op op_add (pv 4) pe_int) pa_nil)))))) pa_nil))), ?_⟩
    refine s_retD (ed_to (ed_tupleL (fun p ys H Q h q => ⟨p, ys, rfl, .inl ⟨h, q⟩⟩) (el_lc1 nk_ts (ew_range1 (n := many) (ea_cons (ed_var E0 rfl) ea_nil) (by omega) (by omega)) E0 (by rw [rangeK_len]; omega) (by decide) (fun k => match k with | .num i => .num (valueAtP p sc cs (i + 1)) | _ => .none) fun k σ' H' hk s' E' => ?_)) (l := tupI (dealP p many sc cs)) ?_) ?_
    · obtain ⟨i, hi, rfl⟩ := List.mem_map.mp hk
      have hi2 := List.mem_range.mp hi
      refine er_call (ea_cons (ed_var E' rfl) (ea_cons (ed_var E' rfl) (ea_cons (ed_var E' rfl) (ea_cons (ed_I0 (ed_var E' rfl) ed_int rfl) ea_nil)))) fun vs H2 Q s2 n q => ?_
      exact ⟨p, sc, cs, _, n, hp, by omega, by omega, hz, fun v H' s' n' => q v H' s' n'⟩
    · unfold rangeK tupI dealP
      rw [List.map_map, List.map_map]
      congr 1
      refine List.map_congr_left fun i _ => ?_
      show NestedKey.num (valueAtP p sc cs (0 + (i : Int) + 1)) = _
      rw [Int.zero_add]
      rfl
    · exact fun v H1 s1 n => q v H1 s1 n

/-! ### inverse -/
abbrev sInverse : Stmt := topS 26
abbrev nInverse : List Str := ["p", "number", "found", "turn"]
theorem scInverse : FnScope ["p", "number", "found", "turn"] ["p", "number"] (defScope sInverse) := ⟨rfl, rfl, rfl, by decide +kernel, rfl, by decide +kernel, by decide +kernel⟩
def invP (p n : Int) : Int := (List.range (p - 2).toNat).foldl (fun f _ => f * n % p) 1
def spInverse (K : PySem.W.Frag) : Sp := fun vs H Q _ => ∃ p n : Int, NkAll K H vs [.num p, .num n] ∧ 1 < p ∧ p < 1000 ∧ RetD K (.num (invP p n)) H Q
theorem invP_lt {p n : Int} (hp : 1 < p) : ∀ l : List Nat, 0 ≤ l.foldl (fun (f : Int) _ => f * n % p) 1 ∧ l.foldl (fun (f : Int) _ => f * n % p) 1 < p := by
  have h : ∀ (l : List Nat) (a : Int), 0 ≤ a → a < p → 0 ≤ l.foldl (fun (f : Int) _ => f * n % p) a ∧ l.foldl (fun (f : Int) _ => f * n % p) a < p := by
    intro l
    induction l with
    | nil => exact fun a h1 h2 => ⟨h1, h2⟩
    | cons x l ih => exact fun a _ _ => ih _ (Int.emod_nonneg _ (by omega)) (Int.emod_lt_of_pos _ (by omega))
  exact fun l => h l 1 (by omega) hp
theorem ok_inverse (T : Gs K mg) (d : Def K mg "inverse" sInverse ["p", "number"]) : FnOk P w K mg base CX0 1 d.f d.fd ["p", "number"] (spInverse K) := by
  refine d.F.ok scInverse (fun vs H Q E h => ?_) (fun cdv A outer s H vs Q E hr h => ?_)
  · obtain ⟨p, n, h, _⟩ := h
    have e := plen h
    exact e
  · obtain ⟨p, n, h, hp, hp2, q⟩ := h
    have E0 := env_start (N := nInverse) h
    refine ⟨_, pss_cons (ps_set (i := 2) scInverse.nd rfl (.inl rfl) pe_int)
      (pss_cons (ps_for PassesOwn.never rfl (pi_range1 (by rfl) T.z_range (pa_cons (pe_op op_sub (pv 0) pe_int) pa_nil)) (pg_name (i := 3) scInverse.nd rfl (.inl rfl)) (pss_one (ps_set (i := 2) scInverse.nd rfl (.inl rfl) (pe_op op_mod (pe_op op_mul (pv 2) (pv 1)) (pv 0)))))
      (pss_one (ps_ret (pv 2)))), ?_⟩
    refine q_setD E0 ed_int fun σ1 H1 s1 E1 => ?_
    refine q_for (L := []) (ks := rangeK 0 (p - 2).toNat) (ew_range1 (ea_cons (ed_I0 (ed_var E1 rfl) ed_int rfl) ea_nil) (by omega) (by omega)) MutL.nil (fun _ h => nomatch h)
      (fun i σ' H' => Env K H' σ' [.d (.num p), .d (.num n), .d (.num (((List.range (p - 2).toNat).take i).foldl (fun f _ => f * n % p) 1)), .u])
      (fun H2 s2 => E1.ts (Same.ts s2)) (fun i k σ2 H2 hk kp E2 x H3 s3 nx => ?_) (fun σ2 H2 kp E2 => ?_)
    · have hi : i < (p - 2).toNat := by
        have h := (List.getElem?_eq_some_iff.mp hk).1
        rw [rangeK_len] at h
        exact h
      have E3 := (E2.ts (Same.ts s3)).setD nx 3
      have hb := invP_lt (n := n) hp ((List.range (p - 2).toNat).take i)
      refine s_setD E3 (ed_I (ed_I (ed_var E3 rfl) (ed_var E3 rfl) (cmulL (by omega) (by omega)) rfl) (ed_var E3 rfl) (by show (0 : Int) < p; omega) rfl) fun σ4 H4 s4 E4 => ⟨Same.keepL (s3.trans s4), ?_⟩
      rw [foldl_take (x := i) (by simp [hi])]
      exact E4.frg 3
    · have E2' := E2
      rw [rangeK_len, show (List.range (p - 2).toNat).take (p - 2).toNat = List.range (p - 2).toNat from List.take_of_length_le (by simp)] at E2'
      have sE : Same H1 H2 := kp.same
      exact s_retD (ed_var E2' rfl) fun v H3 s3 n => q v H3 ((s1.trans sE).trans s3) n
end
end NM
namespace NM
open PySem PySem.Spec PyProof.Rows L2
section
variable {P : Program} {w : World} {K : PySem.W.Frag} {mg : Str → Option Value} {base : Heap}

/-! ### weights_for -/
abbrev sWeightsFor : Stmt := topS 25
abbrev nWeightsFor : List Str := ["p", "places", "found", "place", "top", "low", "other"]
theorem scWeightsFor : FnScope ["p", "places", "found", "place", "top", "low", "other"] ["p", "places"] (defScope sWeightsFor) := ⟨rfl, rfl, rfl, by decide +kernel, rfl, by decide +kernel, by decide +kernel⟩
def wStep (p a : Int) (tl : Int × Int) (o : Int) : Int × Int := if o = a then tl else (tl.1 * o % p, tl.2 * (o - a) % p)
def wOne (p : Int) (pl : List Int) (a : Int) : Int := let tl := pl.foldl (wStep p a) (1, 1); tl.1 * invP p tl.2 % p
def weightsP (p : Int) (pl : List Int) : List Int := pl.map (wOne p pl)
def spWeightsFor (K : PySem.W.Frag) : Sp := fun vs H Q _ => ∃ (p : Int) (pl : List Int) (v : V) (a : Addr) (xs : List V), vs = [v, .ref a] ∧ Nk K H v (.num p) ∧ H a = some (.lst xs) ∧ NkAll K H xs (pl.map .num) ∧ 1 < p ∧ p < 900 ∧ (∀ x ∈ pl, 0 ≤ x ∧ x < 900) ∧ pl.length < 900 ∧ RetD K (tupI (weightsP p pl)) H Q
theorem wStep_lt {p a : Int} (hp : 1 < p) : ∀ (l : List Int) (t : Int × Int), (0 ≤ t.1 ∧ t.1 < p) → (0 ≤ t.2 ∧ t.2 < p) → (0 ≤ (l.foldl (wStep p a) t).1 ∧ (l.foldl (wStep p a) t).1 < p) ∧ (0 ≤ (l.foldl (wStep p a) t).2 ∧ (l.foldl (wStep p a) t).2 < p) := by
  intro l
  induction l with
  | nil => exact fun t h1 h2 => ⟨h1, h2⟩
  | cons x l ih =>
    intro t h1 h2
    refine ih _ ?_ ?_
    · unfold wStep; split
      · exact h1
      · exact ⟨Int.emod_nonneg _ (by omega), Int.emod_lt_of_pos _ (by omega)⟩
    · unfold wStep; split
      · exact h2
      · exact ⟨Int.emod_nonneg _ (by omega), Int.emod_lt_of_pos _ (by omega)⟩
theorem ok_weights_for (T : Gs K mg) (C_inverse : Cal P w K mg base "inverse" 1 ["p", "number"] (spInverse K)) (d : Def K mg "weights_for" sWeightsFor ["p", "places"]) : FnOk P w K mg base CX0 2 d.f d.fd ["p", "places"] (spWeightsFor K) := by
  refine d.F.ok scWeightsFor (fun vs H Q E h => ?_) (fun cdv A outer s H vs Q E hr h => ?_)
  · obtain ⟨p, pl, v, a, xs, rfl, _⟩ := h
    rfl
  · obtain ⟨p, pl, v, a, xs, rfl, hv, hl, hn, hp, hp2, hpl, hz, q⟩ := h
    have E0 : Env K H (L2.start nWeightsFor [v, .ref a]) [.d (.num p), .v (.ref a), .u, .u, .u, .u, .u] := .cons ⟨_, rfl, hv⟩ (.cons rfl (.cons True.intro (.cons True.intro (.cons True.intro (.cons True.intro (.cons True.intro .nil))))))
    refine ⟨_, pss_cons (ps_set (i := 2) scWeightsFor.nd rfl (.inl rfl) (pe_lst pa_nil))
      (pss_cons (ps_for PassesOwn.never rfl (pi_list (pv 1)) (pg_name (i := 3) scWeightsFor.nd rfl (.inl rfl)) (pss_cons (ps_asg (pe_tup (pa_cons pe_int (pa_cons pe_int pa_nil))) (pg_tupK (K := K) (n := 2) rfl rfl (pgs_cons (pg_name (i := 4) scWeightsFor.nd rfl (.inl rfl)) (pgs_cons (pg_name (i := 5) scWeightsFor.nd rfl (.inl rfl)) pgs_nil))))
      (pss_cons (ps_for PassesOwn.never rfl (pi_list (pv 1)) (pg_name (i := 6) scWeightsFor.nd rfl (.inl rfl)) (pss_one (ps_if (pt_cmpR op_ne (pv 6) (pv 3) (nomark _)) (pss_one (ps_par (i := 4) (j := 5) (by rfl) scWeightsFor.nd rfl rfl (by decide) rfl rfl (pa_cons (pe_op op_mod (pe_op op_mul (pv 4) (pv 6)) (pv 0)) (pa_cons (pe_op op_mod (pe_op op_mul (pv 5) (pe_op op_sub (pv 6) (pv 3))) (pv 0)) pa_nil)) (by rfl))) pss_nil)))
      (pss_one (ps_expr (pe_bm PySem.F.plainAttrs_list PySem.F.slot_list_append PySem.F.type_list_append mt_append (pv 2) (pa_cons (pe_op op_mod (pe_op op_mul (pv 4) (pe_cal C_inverse (hr.mono (by decide)) (by rfl) (pa_cons (pv 0) (pa_cons (pv 5) pa_nil)))) (pv 0)) pa_nil)))))))
      (pss_one (ps_ret (pe_callTy call_tuple_of (by rfl) T.z_tuple (by decide +kernel) (pa_cons (pv 2) pa_nil))))), ?_⟩
    refine q_setL E0 (el_lst ea_nil (Nat.zero_le _)) fun l ws σ1 H1 hl0 s1 el nl E1 => ?_
    cases nl
    have nal : a ≠ l := ne_of_none hl hl0
    refine q_for (L := [l]) (ks := pl.map NestedKey.num) (ew_list (es_list (.inl (.inl (s1 _ _ hl))) (nkAll_mono hn (Same.ts s1)) (ev_var E1 rfl))) (MutL.one el) (fun b hb hm => nal (by rw [← (by simpa using hb : b = a)]; simpa using hm))
      (fun i σ' H' => Env K H' σ' [.d (.num p), .v (.ref a), .v (.ref l), .u, .u, .u, .u] ∧ ∃ ws, H' l = some (.lst ws) ∧ NkAll K H' ws (((pl.take i).map (wOne p pl)).map .num))
      (fun H2 s2 => ⟨E1.ts (Same.ts s2), [], s2 _ _ el, .nil⟩) (fun i k σ2 H2 hk kp ⟨E2, ws, ew, nw⟩ x H3 s3 nx => ?_) (fun σ2 H2 kp ⟨E2, ws, ew, nw⟩ => ?_)
    · rw [List.getElem?_map] at hk
      obtain ⟨pa, hpa, rfl⟩ := Option.map_eq_some_iff.mp hk
      have hpm := hpl pa (List.mem_of_getElem? hpa)
      have E3 := (E2.ts (Same.ts s3)).setD nx 3
      have ew3 := s3 _ _ ew
      have ha3 : H3 a = some (.lst xs) := s3 _ _ (kp a _ (by simpa using nal) (s1 _ _ hl))
      refine q_asgT E3 (ed_tup (ea_cons ed_int (ea_cons ed_int ea_nil)) (by decide)) tg_pair fun σ4 H4 s4 E4 => ?_
      have nal4 := nkAll_mono hn ((Same.ts (K := K) s1).trans ((kp.ts (MutL.one el)).trans (Same.ts (s3.trans s4))))
      refine q_for (L := []) (ks := pl.map NestedKey.num) (ew_list (es_list (.inl (.inl (s4 _ _ ha3))) nal4 (ev_var E4 rfl))) MutL.nil (fun _ _ h => nomatch h)
        (fun i σ' H' => Env K H' σ' [.d (.num p), .v (.ref a), .v (.ref l), .d (.num pa), .d (.num ((pl.take i).foldl (wStep p pa) (1, 1)).1), .d (.num ((pl.take i).foldl (wStep p pa) (1, 1)).2), .u])
        (fun H5 s5 => (E4.ts (Same.ts s5)).frg 6) (fun j k σ5 H5 hk5 kp5 E5 x H6 s6 nx6 => ?_) (fun σ5 H5 kp5 E5 => ?_)
      · rw [List.getElem?_map] at hk5
        obtain ⟨o, ho, rfl⟩ := Option.map_eq_some_iff.mp hk5
        have hom := hpl o (List.mem_of_getElem? ho)
        have E6 := (E5.ts (Same.ts s6)).setD nx6 6
        have hlt := wStep_lt (a := pa) hp (pl.take j) (1, 1) ⟨by decide, hp⟩ ⟨by decide, hp⟩
        have hstep := foldl_take (f := wStep p pa) (a := ((1 : Int), (1 : Int))) ho
        by_cases hne : o = pa
        · refine s_ifN (et_test (ev_ne (b := false) (ed_var E6 rfl) (ed_var E6 rfl) rfl rfl rfl (by show (!decide (V.int o = V.int pa)) = false; rw [hne]; simp))) fun H7 s7 => ⟨Same.keepL (s6.trans s7), ?_⟩
          rw [hstep, show ∀ t, wStep p pa t o = t from fun t => if_pos hne]
          exact (E6.ts (Same.ts s7)).frg 6
        · refine s_ifT (et_test (ev_ne (b := true) (ed_var E6 rfl) (ed_var E6 rfl) rfl rfl rfl (by show (!decide (V.int o = V.int pa)) = true; rw [decide_eq_false (fun z => hne (V.int.inj z))]; rfl))) fun H7 s7 => ?_
          have E7 := E6.ts (Same.ts (K := K) s7)
          refine s_par E7 (ea_cons (ed_I (ed_I (ed_var E7 rfl) (ed_var E7 rfl) (cmulR (by omega) (by omega)) rfl) (ed_var E7 rfl) (by show (0 : Int) < p; omega) rfl) (ea_cons (ed_I (ed_I (ed_var E7 rfl) (ed_I0 (ed_var E7 rfl) (ed_var E7 rfl) rfl) (cmulR (by omega) (by omega)) rfl) (ed_var E7 rfl) (by show (0 : Int) < p; omega) rfl) ea_nil)) fun σ8 H8 s8 E8 => ⟨Same.keepL ((s6.trans s7).trans s8), ?_⟩
          rw [hstep, show ∀ t : Int × Int, wStep p pa t o = (t.1 * o % p, t.2 * (o - pa) % p) from fun t => if_neg hne]
          exact E8.frg 6
      · rw [List.length_map, List.take_length] at E5
        have s45 : Same H4 H5 := kp5.same
        have hlt := wStep_lt (a := pa) hp pl (1, 1) ⟨by decide, hp⟩ ⟨by decide, hp⟩
        have ew5 := s45 _ _ (s4 _ _ ew3)
        have nw5 := nkAll_mono nw (Same.ts (K := K) ((s3.trans s4).trans s45))
        refine s_app ew5 nw5 (ev_var E5 rfl) (ed_I (ed_I (ed_var E5 rfl) (er_call (ea_cons (ed_var E5 rfl) (ea_cons (ed_var E5 rfl) ea_nil)) fun vs H2 Q s2 n q => ⟨p, _, n, hp, by omega, fun v H' s' n' => q v H' s' n'⟩) (cmulL (by omega) (by omega)) rfl) (ed_var E5 rfl) (by show (0 : Int) < p; omega) rfl) ?_ fun ws' H6 kp6 ts6 e6 n6 => ⟨(Same.keepL ((s3.trans s4).trans s45)).trans kp6, ((E5.ts ts6).frg 3).frg 4 |>.frg 5 |>.frg 6, ws', e6, ?_⟩
        · rw [plen nw5, List.length_map, List.length_map, List.length_take]; omega
        · rw [List.take_add_one, hpa, List.map_append, List.map_append]
          exact n6
    · rw [List.length_map, List.take_length] at nw
      have hs0 : Same H H2 := KeepL.back s1 (fun b hb => by rw [show b = l by simpa using hb]; exact hl0) kp
      exact s_retD (ed_tupleV (fun p ys H Q h q => ⟨p, ys, rfl, .inl ⟨h, q⟩⟩) (.inl (.inl ew)) nw (ev_var E2 rfl)) fun v H3 s3 n => q v H3 (hs0.trans s3) n
end
end NM
namespace NM
open PySem PySem.Spec PyProof.Rows L2
theorem flat_split {α β : Type} (f : α → List β) {l : List α} {i : Nat} {x : α} (h : l[i]? = some x) : ((l.take i).flatMap f).length + (f x).length ≤ (l.flatMap f).length := by
  have e : l = l.take i ++ (x :: l.drop (i + 1)) := by
    obtain ⟨hi, e⟩ := List.getElem?_eq_some_iff.mp h
    rw [← e, ← List.drop_eq_getElem_cons hi, List.take_append_drop]
  have e2 : l.flatMap f = (l.take i).flatMap f ++ (f x ++ (l.drop (i + 1)).flatMap f) := by
    rw [← List.flatMap_cons, ← List.flatMap_append, ← e]
  rw [e2, List.length_append, List.length_append]
  omega
theorem yes_if {σ : L2.St} {H : Hp} {A B : Hp → Prop} (h : A H) : tYes σ H (fun b H' => if b = true then A H' else B H') := by
  show (if true = true then A H else B H)
  rw [if_pos rfl]
  exact h
/-- [e for x in .. for y in ..] -/
theorem el_lcTwo {K : PySem.W.Frag} {β : Type} {R : Hp → V → β → Prop} (hR : ∀ H H' v b, TSt K H H' → R H v b → R H' v b) {src : List Addr} {wi wi1 : TI} {te : TE} {vs vs1 : List Nat} {σ : L2.St} {H : Hp} {ks : List NK} {Γ : List Sl} {i j : Nat}
    (hw : Ew K src wi σ H ks) (E : Env K H σ Γ) (hi : i ∈ vs) (hj : j ∈ vs1) (ms : NK → List NK) (val : NK → NK → β) (hz : (ks.flatMap fun k => (ms k).map (val k)).length < 100000)
    (hw1 : ∀ k σ' H', k ∈ ks → Same H H' → Env K H' σ' ((wipeG Γ vs).set i (.d k)) → Ew K [] wi1 σ' H' (ms k))
    (he : ∀ k m σ' H', k ∈ ks → m ∈ ms k → Same H H' → Env K H' σ' ((wipeG ((wipeG Γ vs).set i (.d k)) vs1).set j (.d m)) → ER R te σ' H' (val k m)) :
    EL R (tLc2 wi (gName i) tYes wi1 (gName j) tYes te vs vs1) σ H (ks.flatMap fun k => (ms k).map (val k)) := fun H1 s Q q =>
  hw H1 s _ fun J H2 G s2 W stab D hD => by
    refine ⟨fun n m H' => m = ks.length - n ∧ n ≤ ks.length ∧ ∃ acc, H' D = some (.lst acc) ∧ Same H2 H' ∧ Paired (R H') acc ((ks.take n).flatMap fun k => (ms k).map (val k)), ⟨ks.length, rfl, Nat.zero_le _, [], upd_same, same_new hD, by rw [List.take_zero]; exact .nil⟩, ?_⟩
    rintro n m H3 ⟨rfl, hn, acc, e3, s3, hp⟩
    have g3 := stab [] H3 MutL.nil (fun _ _ h => nomatch h) (Same.keepL s3)
    by_cases hlt : n < ks.length
    · refine .inr ⟨W.goes n H3 hlt g3, fun H' => ∃ acc, H' D = some (.lst acc) ∧ Same H2 H' ∧ Paired (R H') acc ((ks.take (n + 1)).flatMap fun k => (ms k).map (val k)), fun H' p' => ⟨ks.length - (n + 1), by omega, rfl, hlt, p'⟩, fun x H4 y => ?_⟩
      obtain ⟨s4, k, hk, nk⟩ := W.yields n H3 x H4 hlt g3 y
      have hkm : k ∈ ks := List.mem_of_getElem? hk
      have s04 : Same H H4 := ((s.trans s2).trans s3).trans s4
      have E4 : Env K H4 ((wipe σ vs).set i (some x)) ((wipeG Γ vs).set i (.d k)) := ((E.ts (Same.ts s04)).wipe vs).setD nk i
      refine ⟨(wipe_set vs _ hi).trans (wipe_idem σ vs), ?_⟩
      refine yes_if ?_
      have e4 := s4 _ _ e3
      refine hw1 k _ H4 hkm s04 E4 H4 (Same.refl _) _ fun J1 H5 G1 s5 W1 stab1 => ?_
      have e5 := s5 _ _ e4
      have tot := flat_split (fun k => (ms k).map (val k)) hk
      rw [List.length_map] at tot
      have hp5 : Paired (R H5) acc ((ks.take n).flatMap fun k => (ms k).map (val k)) := Paired.mapP hp fun _ _ h => hR _ _ _ _ (Same.ts (s4.trans s5)) h
      refine ⟨fun a m H' => m = (ms k).length - a ∧ a ≤ (ms k).length ∧ KeepL [D] H5 H' ∧ Same H2 H' ∧ ∃ acc, H' D = some (.lst acc) ∧ Paired (R H') acc (((ks.take n).flatMap fun k => (ms k).map (val k)) ++ ((ms k).take a).map (val k)),
        ⟨(ms k).length, rfl, Nat.zero_le _, KeepL.refl, (s3.trans s4).trans s5, acc, e5, by rw [List.take_zero, List.map_nil, List.append_nil]; exact hp5⟩, ?_⟩
      rintro a m H6 ⟨rfl, ha, kp6, s6, acc6, e6, hp6⟩
      have g6 := stab1 [D] H6 (MutL.one e4) (fun _ h => nomatch h) kp6
      have ts56 : TSt K H5 H6 := kp6.ts (MutL.one e5)
      by_cases hlt6 : a < (ms k).length
      · refine .inr ⟨W1.goes a H6 hlt6 g6, fun H' => KeepL [D] H5 H' ∧ Same H2 H' ∧ ∃ acc, H' D = some (.lst acc) ∧ Paired (R H') acc (((ks.take n).flatMap fun k => (ms k).map (val k)) ++ ((ms k).take (a + 1)).map (val k)), fun H' p' => ⟨(ms k).length - (a + 1), by omega, rfl, hlt6, p'⟩, fun x7 H7 y7 => ?_⟩
        obtain ⟨s7, m, hm, nm⟩ := W1.yields a H6 x7 H7 hlt6 g6 y7
        have hmm : m ∈ ms k := List.mem_of_getElem? hm
        have s07 : Same H H7 := ((s.trans s2).trans s6).trans s7
        have E7 := ((E4.ts ((Same.ts (K := K) s5).trans (ts56.trans (Same.ts s7)))).wipe vs1).setD nm j
        refine ⟨(wipe_set vs1 _ hj).trans (wipe_idem _ vs1), ?_⟩
        refine yes_if ?_
        refine he k m _ H7 hkm hmm s07 E7 H7 (Same.refl _) _ fun v H8 s8 r => ?_
        have e8 := s8 _ _ (s7 _ _ e6)
        have tl := ts_upd (K := K) (o := .lst (acc6 ++ [v])) e8
        have hl6 : acc6.length < 100000 := by
          rw [plen hp6, List.length_append, List.length_map, List.length_take]; omega
        refine ⟨acc6, e8, Nat.lt_of_lt_of_le hl6 (by decide), (kp6.trans (Same.keepL (s7.trans s8))).trans (keepL_upd (by simp)), same_mut ((s6.trans s7).trans s8) hD, acc6 ++ [v], upd_same, ?_⟩
        rw [List.take_add_one, hm, List.map_append, ← List.append_assoc]
        exact papp (Paired.mapP hp6 fun _ _ h => hR _ _ _ _ ((Same.ts (s7.trans s8)).trans tl) h) (.cons (hR _ _ _ _ tl r) .nil)
      · have e : a = (ms k).length := by omega
        subst e
        refine .inl ⟨W1.stops H6 g6, acc6, e6, s6, ?_⟩
        rw [List.take_length] at hp6
        rw [List.take_add_one, hk, List.flatMap_append]
        show Paired (R H6) acc6 (_ ++ [k].flatMap fun k => (ms k).map (val k))
        rw [List.flatMap_cons, List.flatMap_nil, List.append_nil]
        exact hp6
    · have e : n = ks.length := by omega
      subst e
      rw [List.take_length] at hp
      exact .inl ⟨W.stops H3 g3, q D acc H3 (fresh_back s2 hD) (s2.trans s3) e3 hp⟩
end NM
namespace NM
open PySem PySem.Spec PyProof.Rows L2
/-! ### rows of a sheet -/
inductive Row
  | own (a : Nat)
  | number (n : Nat)
  | sum (a b : Nat)
  | times (a b : Nat)
def rowK : Row → NK
  | .own a => .tup [.text "own", .num (a : Int)]
  | .number n => .tup [.text "number", .num (n : Int)]
  | .sum a b => .tup [.text "sum", .num (a : Int), .num (b : Int)]
  | .times a b => .tup [.text "times", .num (a : Int), .num (b : Int)]
def sheetK (rs : List Row) : NK := .tup (rs.map rowK)
def Row.ok (many ahead : Nat) : Row → Prop
  | .own a => a < many
  | .number n => n ≤ 12
  | .sum a b => a < ahead ∧ b < ahead
  | .times a b => a < ahead ∧ b < ahead
def SheetOk (many : Nat) (rs : List Row) : Prop := rs ≠ [] ∧ rs.length ≤ 8 ∧ ∀ (i : Nat) (r : Row), rs[i]? = some r → r.ok many i
section
variable {K : PySem.W.Frag} {σ : L2.St} {H : Hp}
/-- {s1: n1, s2: n2}.get(key, m) -/
theorem ed_dget2 {tk1 tv1 tk2 tv2 ty tx : TE} {s1 s2 key : Str} {n1 n2 m r : Int} (h1 : Ed K tk1 σ H (.text s1)) (g1 : Ed K tv1 σ H (.num n1)) (h2 : Ed K tk2 σ H (.text s2)) (g2 : Ed K tv2 σ H (.num n2)) (hy : Ed K ty σ H (.text key)) (hx : Ed K tx σ H (.num m))
    (hr : ((valV (mergeK [] [((.inr s1 : Key), V.int n1), (.inr s2, V.int n2)]) (.inr key)).getD (.int m)) = .int r) : Ed K (tDGet2 (tDisp [(tk1, tv1), (tk2, tv2)]) ty tx) σ H (.num r) := fun H1 s Q q => by
  intro p hp
  have s0 := same_new (o := .dK []) hp
  refine h1 _ (s.trans s0) _ fun x1 H2 a2 e1 => g1 H2 ((s.trans s0).trans a2) _ fun y1 H3 a3 e2 => h2 H3 (((s.trans s0).trans a2).trans a3) _ fun x2 H4 a4 e3 => g2 H4 ((((s.trans s0).trans a2).trans a3).trans a4) _ fun y2 H5 a5 e4 => ?_
  have a15 : Same (upd H1 p (.dK [])) H5 := ((a2.trans a3).trans a4).trans a5
  refine ⟨a15 _ _ upd_same, [((.inr s1 : Key), V.int n1), (.inr s2, V.int n2)], ?_, Nat.le_of_ble_eq_true rfl, ?_⟩
  · rw [e1.str_eq, e2.int_eq, e3.str_eq, e4.int_eq]; rfl
  · have s6 : Same H1 (upd H5 p (.dK (mergeK [] [((.inr s1 : Key), V.int n1), (.inr s2, V.int n2)]))) := same_mut (s0.trans a15) hp
    refine ⟨p, rfl, .inl ⟨_, .inl upd_same⟩, hy _ (s.trans s6) _ fun w H6 a6 e5 => hx H6 ((s.trans s6).trans a6) _ fun z H7 a7 e6 => ⟨_, .inl ⟨_, (.inr key : Key), .inl (a7 _ _ (a6 _ _ upd_same)), e5.str_eq, rfl⟩, ?_⟩⟩
    rw [e6.int_eq, hr]
    exact q _ H7 ((s6.trans a6).trans a7) (.int _)
theorem ed_row0 {te : TE} {r : Row} {s : Str} (h : Ed K te σ H (rowK r)) (hb : ∃ ks, rowK r = .tup (.text s :: ks)) {tb : TE} {i : Int} (h2 : Ed K tb σ H (.num i)) (hi : i = 0) : Ed K (tOp (rIxT K) te tb) σ H (.text s) := by
  obtain ⟨ks, e⟩ := hb
  rw [e] at h
  exact ed_ixT h h2 (j := 0) (by rw [hi]; rfl) rfl
end
section
variable {P : Program} {w : World} {K : PySem.W.Frag} {mg : Str → Option Value} {base : Heap}

theorem tiny1 {a : NK} : ([a] : List NK).length ≤ sizeLine := by rw [sizeLine_eq]; exact Nat.le_of_ble_eq_true rfl
theorem tiny2 {a b : NK} : ([a, b] : List NK).length ≤ sizeLine := by rw [sizeLine_eq]; exact Nat.le_of_ble_eq_true rfl
/-! ### all_things -/
abbrev sAllThings : Stmt := topS 16
abbrev nAllThings : List Str := ["sizes", "found", "size", "things", "thing"]
theorem scAllThings : FnScope ["sizes", "found", "size", "things", "thing"] ["sizes"] (defScope sAllThings) := ⟨rfl, rfl, rfl, by decide +kernel, rfl, by decide +kernel, by decide +kernel⟩
def allStep (found : List (List Int)) (size : Int) : List (List Int) := found.flatMap fun t => (List.range size.toNat).map fun (i : Nat) => t ++ [(i : Int)]
def allP (sizes : List Int) : List (List Int) := sizes.foldl allStep [[]]
theorem allStep_len (found : List (List Int)) (size : Int) : (allStep found size).length = found.length * size.toNat := by
  unfold allStep
  induction found with
  | nil => simp
  | cons a l ih => rw [List.flatMap_cons, List.length_append, ih, List.length_map, List.length_range, List.length_cons, Nat.succ_mul]; omega
theorem all_len (p : Int) : ∀ (n : Nat) (l : List (List Int)), ((List.replicate n p).foldl allStep l).length = l.length * p.toNat ^ n
  | 0, l => by simp
  | n + 1, l => by rw [List.replicate_succ, List.foldl_cons, all_len p n, allStep_len, Nat.pow_succ, Nat.mul_assoc, Nat.mul_comm (p.toNat ^ n)]
theorem all_lens {p : Int} : ∀ (n : Nat) (l : List (List Int)) (m : Nat), (∀ t ∈ l, t.length = m) → ∀ t ∈ (List.replicate n p).foldl allStep l, t.length = m + n
  | 0, l, m, h, t, ht => h t ht
  | n + 1, l, m, h, t, ht => by
    have := all_lens n (allStep l p) (m + 1) (fun t' h' => by
      unfold allStep at h'
      obtain ⟨a, ha, hb⟩ := List.mem_flatMap.mp h'
      obtain ⟨i, _, rfl⟩ := List.mem_map.mp hb
      rw [List.length_append, h a ha]; rfl) t ht
    omega
def spAllThings (K : PySem.W.Frag) : Sp := fun vs H Q _ => ∃ (p : Int) (n : Nat), NkAll K H vs [tupI (List.replicate n p)] ∧ 1 ≤ p ∧ p < 1000 ∧ n < 1000 ∧ p.toNat ^ n < 90000 ∧ RetL K ((allP (List.replicate n p)).map tupI) H Q
theorem take_rep {α : Type} {x : α} {n i : Nat} (h : i ≤ n) : (List.replicate n x).take i = List.replicate i x := by
  rw [List.take_replicate, Nat.min_eq_left h]
theorem allStep_tupI (l : List (List Int)) (size : Int) (val : NK → NK → NK) (hv : ∀ t (i : Int), val (tupI t) (.num i) = tupI (t ++ [i])) : ((l.map tupI).flatMap fun k => (rangeK 0 size.toNat).map (val k)) = (allStep l size).map tupI := by
  unfold allStep
  induction l with
  | nil => rfl
  | cons a l ih =>
    rw [List.map_cons, List.flatMap_cons, List.flatMap_cons, List.map_append, ih]
    congr 1
    unfold rangeK
    rw [List.map_map, List.map_map]
    refine List.map_congr_left fun i _ => ?_
    show val (tupI a) (.num (0 + (i : Int))) = tupI (a ++ [(i : Int)])
    rw [hv, Int.zero_add]
def catK : NK → NK → NK
  | .tup ks, k => .tup (ks ++ [k])
  | _, _ => .none
theorem catK_I (t : List Int) (i : Int) : catK (tupI t) (.num i) = tupI (t ++ [i]) := by
  show NestedKey.tup (t.map .num ++ [.num i]) = .tup ((t ++ [i]).map .num)
  rw [List.map_append]; rfl
theorem ok_all_things (T : Gs K mg) (d : Def K mg "all_things" sAllThings ["sizes"]) : FnOk P w K mg base CX0 1 d.f d.fd ["sizes"] (spAllThings K) := by
  refine d.F.ok scAllThings (fun vs H Q E h => ?_) (fun cdv A outer s H vs Q E hr h => ?_)
  · obtain ⟨p, n, h, _⟩ := h
    have e := plen h
    exact e
  · obtain ⟨p, n, h, hp, hp2, hn, hz, q⟩ := h
    have E0 := env_start (N := nAllThings) h
    refine ⟨_, pss_cons (ps_set (i := 1) scAllThings.nd rfl (.inl rfl) (pe_lst (pa_cons (pe_tup pa_nil) pa_nil)))
      (pss_cons (ps_for PassesOwn.never rfl (pi_tup (pv 0)) (pg_name (i := 2) scAllThings.nd rfl (.inr rfl)) (pss_one (ps_setLc2 (i := 1) (own := [("things", 3), ("thing", 4)]) (vs1 := [4]) rfl scAllThings.nd rfl rfl (sw_true rfl rfl rfl (by decide +kernel)) (pi_list (pv 1)) (blkOk_by (by kernel_rfl)) (by decide) (fun _ _ _ _ _ => pg_name (i := 3) scAllThings.nd rfl (.inl rfl) (.inr rfl)) (fun _ _ _ _ _ => pts_nil) (fun _ _ _ _ _ => pi_range1 (by rfl) T.z_range (pa_cons (pv 2) pa_nil)) (fun _ _ _ _ _ => pg_name (i := 4) scAllThings.nd rfl (.inl rfl) (.inr rfl)) (fun _ _ _ _ _ => pts_nil) (fun _ _ _ _ _ => pe_op (op_catAK (K := K) rfl) (pv 3) (pe_tup (pa_cons (pv 4) pa_nil))))))
      (pss_one (ps_ret (pv 1)))), ?_⟩
    refine q_setL E0 (el_lst (ea_cons (ed_tup ea_nil (Nat.zero_le _)) ea_nil) (by decide)) fun l ws σ1 H1 hl0 s1 el nl E1 => ?_
    refine q_for (L := []) (ks := (List.replicate n p).map NestedKey.num) (ew_tup (es_tup (ed_var E1 rfl))) MutL.nil (fun _ h => nomatch h)
      (fun i σ' H' => ∃ l ws, H l = none ∧ H' l = some (.lst ws) ∧ NkAll K H' ws ((allP (List.replicate i p)).map tupI) ∧ Env K H' σ' [.d (tupI (List.replicate n p)), .v (.ref l), .u, .u, .u])
      (fun H2 s2 => ⟨l, ws, hl0, s2 _ _ el, nkAll_mono nl (Same.ts s2), E1.ts (Same.ts s2)⟩) (fun i k σ2 H2 hk kp ⟨l2, ws2, h2, e2, n2, E2⟩ x H3 s3 nx => ?_) (fun σ2 H2 kp ⟨l2, ws2, h2, e2, n2, E2⟩ => ?_)
    · rw [List.map_replicate] at hk
      have hi : i < n := by
        have h := (List.getElem?_eq_some_iff.mp hk).1
        rw [List.length_replicate] at h
        exact h
      rw [List.getElem?_replicate, if_pos hi] at hk
      cases hk
      have E3 := (E2.ts (Same.ts s3)).setD nx 2
      have hlen : (allP (List.replicate (i + 1) p)).length = p.toNat ^ (i + 1) := by
        show ((List.replicate (i + 1) p).foldl allStep [[]]).length = _
        rw [all_len]; simp
      have hstep : allP (List.replicate (i + 1) p) = allStep (allP (List.replicate i p)) p := by
        unfold allP
        rw [List.replicate_succ', List.foldl_append]; rfl
      have hpow : p.toNat ^ (i + 1) ≤ p.toNat ^ n := Nat.pow_le_pow_right (by omega) (by omega)
      have hval := allStep_tupI (allP (List.replicate i p)) p catK catK_I
      have hle : ∀ t ∈ allP (List.replicate i p), t.length = i := fun t ht => by
        have := all_lens (p := p) i [[]] 0 (fun t h => by rw [List.mem_singleton.mp h]; rfl) t ht
        omega
      refine s_setL E3 (ks := (allP (List.replicate (i + 1) p)).map tupI) ?_ fun l4 ws4 σ4 H4 h4 s4 e4 n4 E4 => ⟨Same.keepL (s3.trans s4), l4, ws4, ?_, e4, n4, (E4.frg 2).frg 3 |>.frg 4⟩
      · rw [hstep, ← hval]
        refine el_lcTwo nk_ts (ew_list (es_list (.inl (.inl (s3 _ _ e2))) (nkAll_mono n2 (Same.ts s3)) (ev_var E3 rfl))) E3 (by decide) (by decide) (fun _ => rangeK 0 p.toNat) catK ?_ (fun k σ' H' hk s' E' => ?_) (fun k m σ' H' hk hm s' E' => ?_)
        · rw [hval, List.length_map, ← hstep, hlen]; omega
        · exact ew_range1 (ea_cons (ed_var E' rfl) ea_nil) (by omega) (by omega)
        · obtain ⟨t, ht, rfl⟩ := List.mem_map.mp hk
          have := hle t ht
          exact ed_catT (ed_var E' rfl) (ed_tup (ea_cons (ed_var E' rfl) ea_nil) tiny1) (by rw [List.length_map, List.length_singleton, sizeLine_eq]; omega)
      · exact (s1.trans (kp.same.trans s3)).free h4
    · rw [List.length_map, List.length_replicate] at n2
      have sE : Same H1 H2 := kp.same
      exact ev_var E2 rfl H2 (Same.refl _) _ fun v H3 s3 ev => by
        subst ev
        exact q l2 ws2 H3 h2 ((s1.trans sE).trans s3) (s3 _ _ e2) (nkAll_mono n2 (Same.ts s3))

theorem enum_get {ks : List NK} {i : Nat} {k : NK} (h : (enumK ks)[i]? = some k) : ∃ a, ks[i]? = some a ∧ k = pairK (.num (i : Int)) a := by
  unfold enumK zipK at h
  rw [List.getElem?_zipWith] at h
  split at h
  · rename_i x y h1 h2
    have hi : i < ks.length := (List.getElem?_eq_some_iff.mp h2).1
    rw [rangeK_get hi, Int.zero_add] at h1
    cases h1
    exact ⟨y, h2, (Option.some.inj h).symm⟩
  · cases h
theorem pe_k8 {σ : L2.St} (T : Gs K mg) (H : Hp) : Ed K (tC (.int 8)) σ H (.num 8) := ed_int
/-! ### is_row, need_sheet, need_things -/
abbrev sIsRow : Stmt := topS 32
abbrev nIsRow : List Str := ["value", "many", "ahead", "most"]
theorem scIsRow : FnScope ["value", "many", "ahead", "most"] ["value", "many", "ahead"] (defScope sIsRow) := ⟨rfl, rfl, rfl, by decide +kernel, rfl, by decide +kernel, by decide +kernel⟩
def spIsRow (K : PySem.W.Frag) : Sp := fun vs H Q _ => ∃ (r : Row) (many ahead : Nat), NkAll K H vs [rowK r, .num (many : Int), .num (ahead : Int)] ∧ r.ok many ahead ∧ RetV (.bl true) H Q
theorem is_from_true {v l m : Int} (h1 : l ≤ v) (h2 : v ≤ m) : isFrom v l m = true := by
  unfold isFrom; rw [decide_eq_true h1, decide_eq_true h2]; rfl
theorem ok_is_row (T : Gs K mg) (C_is_from : Cal P w K mg base "is_from" 1 ["value", "least", "most"] (spIsFrom K)) (d : Def K mg "is_row" sIsRow ["value", "many", "ahead"]) : FnOk P w K mg base CX0 2 d.f d.fd ["value", "many", "ahead"] (spIsRow K) := by
  refine d.F.ok scIsRow (fun vs H Q E h => ?_) (fun cdv A outer s H vs Q E hr h => ?_)
  · obtain ⟨r, m, a, h, _⟩ := h
    have e := plen h
    exact e
  · obtain ⟨r, many, ahead, h, ho, q⟩ := h
    have E0 := env_start (N := nIsRow) h
    have hu := room_hu hr
    refine ⟨_, pss_cons (ps_if (PW.pt (pw_or (pt_not (pt_val (pe_callB call_isi (by rfl) T.z_isinstance (by decide +kernel) (pa_cons (pv 0) (pa_cons (pe_bltn (v := .ty "tuple") (by rfl) T.z_tuple (by decide +kernel) rfl) pa_nil))))) (pw_or (pt_not (pt_chain op_le op_le pe_int (pe_callB call_len_seq (by rfl) T.z_len PySem.boot_len (pa_cons (pv 0) pa_nil)) pe_int)) (pw_or1 (pt_not (pt_val (pe_callB call_isi (by rfl) T.z_isinstance (by decide +kernel) (pa_cons (pe_ix ix_tup (pv 0) pe_int (fun _ _ => rfl)) (pa_cons (pe_bltn (v := .ty "str") (by rfl) T.z_str (by decide +kernel) rfl) pa_nil))))))))) (pss_one (ps_ret pe_bl)) pss_nil)
      (pss_cons (ps_if (pt_cmpR op_eq (pe_callB call_len_seq (by rfl) T.z_len PySem.boot_len (pa_cons (pv 0) pa_nil)) pe_int (nomark _)) (pss_cons (ps_set (i := 3) scIsRow.nd rfl (.inl rfl) (pe_dget2 (hu_of hr) (pe_disp (pps_cons pe_str (pe_op op_sub (pv 1) pe_int) (pps_cons pe_str (pe_gc rfl T.c_MOST_NUMBER) pps_nil)) (by rfl) (by rfl) (fun z => by cases z) (by decide)) (pe_ix ix_tup (pv 0) pe_int (fun _ _ => rfl)) (pe_un un_neg pe_int) ⟨rfl, rfl, rfl, rfl⟩))
      (pss_one (ps_ret (pe_cal C_is_from (hr.mono (by decide)) (by rfl) (pa_cons (pe_ix ix_tup (pv 0) pe_int (fun _ _ => rfl)) (pa_cons pe_int (pa_cons (pv 3) pa_nil))))))) pss_nil)
      (pss_cons (ps_if (pt_cmpR op_notIn_seq (pe_ix ix_tup (pv 0) pe_int (fun _ _ => rfl)) (pe_tup (pa_cons pe_str (pa_cons pe_str pa_nil))) (by rfl)) (pss_one (ps_ret pe_bl)) pss_nil)
      (pss_one (ps_ret (pe_and (pe_cal C_is_from (hr.mono (by decide)) (by rfl) (pa_cons (pe_ix ix_tup (pv 0) pe_int (fun _ _ => rfl)) (pa_cons pe_int (pa_cons (pe_op op_sub (pv 2) pe_int) pa_nil)))) (pe_one (pe_cal C_is_from (hr.mono (by decide)) (by rfl) (pa_cons (pe_ix ix_tup (pv 0) pe_int (fun _ _ => rfl)) (pa_cons pe_int (pa_cons (pe_op op_sub (pv 2) pe_int) pa_nil)))))))))), ?_⟩
    cases r with
    | own a =>
      refine q_ifN (et_to (et_or (et_not (et_B (ev_isi (T := "tuple") (b := true) (ed_var E0 rfl) rfl (by decide +kernel)))) (fun _ => et_or (et_not (et_test (ev_chain (c1 := true) (c2 := true) ed_int (ed_lenT (fun p ys H Q h q => ⟨p, ys, rfl, .inr h, q⟩) (ed_var E0 rfl)) ed_int rfl rfl))) (fun _ => et_not (et_B (ev_isi (T := "str") (b := true) (ed_row0 (s := "own") (ed_var E0 rfl) ⟨_, rfl⟩ ed_int rfl) rfl (by decide +kernel)))))) rfl) ?_
      intro H1 s1
      have E1 := E0.ts (Same.ts (K := K) s1)
      refine q_ifT (et_test (ev_eq (b := true) (ed_lenT (fun p ys H Q h q => ⟨p, ys, rfl, .inr h, q⟩) (ed_var E1 rfl)) ed_int rfl rfl rfl rfl)) fun H2 s2 => ?_
      have E2 := E1.ts (Same.ts (K := K) s2)
      refine q_setD E2 (ed_dget2 (s1 := "own") (s2 := "number") (key := "own") (n1 := (many : Int) - 1) (n2 := 12) (m := -1) (r := (many : Int) - 1) ed_str (ed_I0 (ed_var E2 rfl) ed_int rfl) ed_str (ed_k (.int 12)) (ed_row0 (s := "own") (ed_var E2 rfl) ⟨_, rfl⟩ ed_int rfl) (ed_neg ed_int rfl) rfl) fun σ3 H3 s3 E3 => ?_
      exact s_retV (ev_to (et_is_from (ed_ixT (ed_var E3 rfl) ed_int (j := 1) rfl rfl) ed_int (ed_var E3 rfl)) (w := .bl true) (by rw [is_from_true (by omega) (by have o1 : a < many := ho; omega)])) fun H4 s4 => q H4 ((s1.trans (s2.trans s3)).trans s4)
    | number a =>
      refine q_ifN (et_to (et_or (et_not (et_B (ev_isi (T := "tuple") (b := true) (ed_var E0 rfl) rfl (by decide +kernel)))) (fun _ => et_or (et_not (et_test (ev_chain (c1 := true) (c2 := true) ed_int (ed_lenT (fun p ys H Q h q => ⟨p, ys, rfl, .inr h, q⟩) (ed_var E0 rfl)) ed_int rfl rfl))) (fun _ => et_not (et_B (ev_isi (T := "str") (b := true) (ed_row0 (s := "number") (ed_var E0 rfl) ⟨_, rfl⟩ ed_int rfl) rfl (by decide +kernel)))))) rfl) ?_
      intro H1 s1
      have E1 := E0.ts (Same.ts (K := K) s1)
      refine q_ifT (et_test (ev_eq (b := true) (ed_lenT (fun p ys H Q h q => ⟨p, ys, rfl, .inr h, q⟩) (ed_var E1 rfl)) ed_int rfl rfl rfl rfl)) fun H2 s2 => ?_
      have E2 := E1.ts (Same.ts (K := K) s2)
      refine q_setD E2 (ed_dget2 (s1 := "own") (s2 := "number") (key := "number") (n1 := (many : Int) - 1) (n2 := 12) (m := -1) (r := 12) ed_str (ed_I0 (ed_var E2 rfl) ed_int rfl) ed_str (ed_k (.int 12)) (ed_row0 (s := "number") (ed_var E2 rfl) ⟨_, rfl⟩ ed_int rfl) (ed_neg ed_int rfl) rfl) fun σ3 H3 s3 E3 => ?_
      exact s_retV (ev_to (et_is_from (ed_ixT (ed_var E3 rfl) ed_int (j := 1) rfl rfl) ed_int (ed_var E3 rfl)) (w := .bl true) (by rw [is_from_true (by omega) (by have o1 : a ≤ 12 := ho; omega)])) fun H4 s4 => q H4 ((s1.trans (s2.trans s3)).trans s4)
    | sum a b =>
      refine q_ifN (et_to (et_or (et_not (et_B (ev_isi (T := "tuple") (b := true) (ed_var E0 rfl) rfl (by decide +kernel)))) (fun _ => et_or (et_not (et_test (ev_chain (c1 := true) (c2 := true) ed_int (ed_lenT (fun p ys H Q h q => ⟨p, ys, rfl, .inr h, q⟩) (ed_var E0 rfl)) ed_int rfl rfl))) (fun _ => et_not (et_B (ev_isi (T := "str") (b := true) (ed_row0 (s := "sum") (ed_var E0 rfl) ⟨_, rfl⟩ ed_int rfl) rfl (by decide +kernel)))))) rfl) ?_
      intro H1 s1
      have E1 := E0.ts (Same.ts (K := K) s1)
      refine q_ifN (et_test (ev_eq (b := false) (ed_lenT (fun p ys H Q h q => ⟨p, ys, rfl, .inr h, q⟩) (ed_var E1 rfl)) ed_int rfl rfl rfl rfl)) fun H2 s2 => ?_
      have E2 := E1.ts (Same.ts (K := K) s2)
      refine q_ifN (et_test (ev_inT (n := true) (b := false) (ed_row0 (s := "sum") (ed_var E2 rfl) ⟨_, rfl⟩ ed_int rfl) rfl (ed_tup (ea_cons ed_str (ea_cons ed_str ea_nil)) (by decide)) (by decide) (by decide))) fun H3 s3 => ?_
      have E3 := E2.ts (Same.ts (K := K) s3)
      have o1 : a < ahead := ho.1
      have o2 : b < ahead := ho.2
      exact s_retV (ev_to (ev_andV (et_is_from (ed_ixT (ed_var E3 rfl) ed_int (j := 1) rfl rfl) ed_int (ed_I0 (ed_var E3 rfl) ed_int rfl)) (fun _ => et_is_from (ed_ixT (ed_var E3 rfl) ed_int (j := 2) rfl rfl) ed_int (ed_I0 (ed_var E3 rfl) ed_int rfl))) (w := .bl true) (by rw [is_from_true (by omega) (by show (a : Int) ≤ (ahead : Int) - 1; omega), is_from_true (by omega) (by show (b : Int) ≤ (ahead : Int) - 1; omega)]; rfl)) fun H4 s4 => q H4 ((s1.trans (s2.trans s3)).trans s4)
    | times a b =>
      refine q_ifN (et_to (et_or (et_not (et_B (ev_isi (T := "tuple") (b := true) (ed_var E0 rfl) rfl (by decide +kernel)))) (fun _ => et_or (et_not (et_test (ev_chain (c1 := true) (c2 := true) ed_int (ed_lenT (fun p ys H Q h q => ⟨p, ys, rfl, .inr h, q⟩) (ed_var E0 rfl)) ed_int rfl rfl))) (fun _ => et_not (et_B (ev_isi (T := "str") (b := true) (ed_row0 (s := "times") (ed_var E0 rfl) ⟨_, rfl⟩ ed_int rfl) rfl (by decide +kernel)))))) rfl) ?_
      intro H1 s1
      have E1 := E0.ts (Same.ts (K := K) s1)
      refine q_ifN (et_test (ev_eq (b := false) (ed_lenT (fun p ys H Q h q => ⟨p, ys, rfl, .inr h, q⟩) (ed_var E1 rfl)) ed_int rfl rfl rfl rfl)) fun H2 s2 => ?_
      have E2 := E1.ts (Same.ts (K := K) s2)
      refine q_ifN (et_test (ev_inT (n := true) (b := false) (ed_row0 (s := "times") (ed_var E2 rfl) ⟨_, rfl⟩ ed_int rfl) rfl (ed_tup (ea_cons ed_str (ea_cons ed_str ea_nil)) (by decide)) (by decide) (by decide))) fun H3 s3 => ?_
      have E3 := E2.ts (Same.ts (K := K) s3)
      have o1 : a < ahead := ho.1
      have o2 : b < ahead := ho.2
      exact s_retV (ev_to (ev_andV (et_is_from (ed_ixT (ed_var E3 rfl) ed_int (j := 1) rfl rfl) ed_int (ed_I0 (ed_var E3 rfl) ed_int rfl)) (fun _ => et_is_from (ed_ixT (ed_var E3 rfl) ed_int (j := 2) rfl rfl) ed_int (ed_I0 (ed_var E3 rfl) ed_int rfl))) (w := .bl true) (by rw [is_from_true (by omega) (by show (a : Int) ≤ (ahead : Int) - 1; omega), is_from_true (by omega) (by show (b : Int) ≤ (ahead : Int) - 1; omega)]; rfl)) fun H4 s4 => q H4 ((s1.trans (s2.trans s3)).trans s4)

abbrev sNeedSheet : Stmt := topS 33
abbrev nNeedSheet : List Str := ["many", "value", "index", "row"]
theorem scNeedSheet : FnScope ["many", "value", "index", "row"] ["many", "value"] (defScope sNeedSheet) := ⟨rfl, rfl, rfl, by decide +kernel, rfl, by decide +kernel, by decide +kernel⟩
def spNeedSheet (K : PySem.W.Frag) : Sp := fun vs H Q _ => ∃ (rs : List Row) (many : Nat), NkAll K H vs [.num (many : Int), sheetK rs] ∧ SheetOk many rs ∧ RetV .non H Q
theorem ok_need_sheet (T : Gs K mg) (C_is_row : Cal P w K mg base "is_row" 2 ["value", "many", "ahead"] (spIsRow K)) (d : Def K mg "need_sheet" sNeedSheet ["many", "value"]) : FnOk P w K mg base CX0 3 d.f d.fd ["many", "value"] (spNeedSheet K) := by
  refine d.F.ok scNeedSheet (fun vs H Q E h => ?_) (fun cdv A outer s H vs Q E hr h => ?_)
  · obtain ⟨r, m, h, _⟩ := h
    have e := plen h
    exact e
  · obtain ⟨rs, many, h, ⟨h0, h8, ho⟩, q⟩ := h
    have E0 := env_start (N := nNeedSheet) h
    refine ⟨_, pss_cons (ps_if (PW.pt (pw_or (pt_not (pt_val (pe_callB call_isi (by rfl) T.z_isinstance (by decide +kernel) (pa_cons (pv 1) (pa_cons (pe_bltn (v := .ty "tuple") (by rfl) T.z_tuple (by decide +kernel) rfl) pa_nil))))) (pw_or1 (pt_not (pt_chain op_le op_le pe_int (pe_callB call_len_seq (by rfl) T.z_len PySem.boot_len (pa_cons (pv 1) pa_nil)) (pe_gc rfl T.c_MOST_ROWS)))))) pss_never pss_nil)
      (pss_one (ps_for PassesOwn.never rfl (pi_enumB true (by rfl) T.z_enumerate (pa_cons (pv 1) pa_nil)) (pg_tupK (K := K) (n := 2) rfl rfl (pgs_cons (pg_name (i := 2) scNeedSheet.nd rfl (.inl rfl)) (pgs_cons (pg_name (i := 3) scNeedSheet.nd rfl (.inl rfl)) pgs_nil))) (pss_one (ps_if (pt_not (pt_val (pe_cal C_is_row (hr.mono (by decide)) (by rfl) (pa_cons (pv 3) (pa_cons (pv 0) (pa_cons (pv 2) pa_nil)))))) pss_never pss_nil)))), ?_⟩
    have hlen : (rs.map rowK).length = rs.length := List.length_map ..
    have hpos : 0 < rs.length := List.length_pos_iff.mpr h0
    refine q_ifN (et_to (et_or (et_not (et_B (ev_isi (T := "tuple") (b := true) (ed_var E0 rfl) rfl (by decide +kernel)))) (fun _ => et_not (et_test (ev_chain (c1 := true) (c2 := true) ed_int (ed_lenT (fun p ys H Q h q => ⟨p, ys, rfl, .inr h, q⟩) (ed_var E0 rfl)) (pe_k8 T H) ?_ ?_)))) rfl) ?_
    · show V.bl (decide ((1 : Int) ≤ ((rs.map rowK).length : Int))) = .bl true
      rw [decide_eq_true (by omega)]
    · show V.bl (decide (((rs.map rowK).length : Int) ≤ 8)) = .bl true
      rw [decide_eq_true (by omega)]
    · intro H1 s1
      have E1 := E0.ts (Same.ts (K := K) s1)
      refine s_for (L := []) (ks := enumK (rs.map rowK)) (ew_enum (es_tup (ed_var E1 rfl))) MutL.nil (fun _ h => nomatch h)
        (fun i σ' H' => Env K H' σ' [.d (.num (many : Int)), .d (sheetK rs), .u, .u])
        (fun H2 s2 => E1.ts (Same.ts s2)) (fun i k σ2 H2 hk kp E2 x H3 s3 nx => ?_) (fun σ2 H2 kp E2 => q H2 (s1.trans kp.same))
      obtain ⟨a, ha, rfl⟩ := enum_get hk
      rw [List.getElem?_map] at ha
      obtain ⟨r, hr1, rfl⟩ := Option.map_eq_some_iff.mp ha
      refine tg_pair x σ2 H3 _ nx (E2.ts (Same.ts s3)) fun σ3 E3 _ => ?_
      exact s_ifN (et_to (et_not (et_B (er_call (ea_cons (ed_var E3 rfl) (ea_cons (ed_var E3 rfl) (ea_cons (ed_var E3 rfl) ea_nil))) fun vs H2 Q s n q => ⟨r, many, i, n, ho i r hr1, fun H' s' => q _ H' s' rfl⟩))) rfl) fun H4 s4 => ⟨Same.keepL (s3.trans s4), ((E3.ts (Same.ts s4)).frg 2).frg 3⟩
end
end NM
namespace NM
open PySem PySem.Spec PyProof.Rows L2
section
variable {P : Program} {w : World} {K : PySem.W.Frag} {mg : Str → Option Value} {base : Heap}
theorem ed_len {r : List V → Hp → VK → Prop} {σ : L2.St} {H : Hp} {ta : TE} {ks : List NK} (hr : ∀ p ys H Q, SqT K H p ys → Q (.int ys.length) H → r [.ref p] H Q) (h : Ed K ta σ H (.tup ks)) {n : Nat} (e : ks.length = n) : Ed K (tCB r (tCons ta tNil)) σ H (.num n) := e ▸ ed_lenT hr h
/-! ### need_things -/
abbrev sNeedThings : Stmt := topS 34
abbrev nNeedThings : List Str := ["p", "many", "value"]
theorem scNeedThings : FnScope ["p", "many", "value"] ["p", "many", "value"] (defScope sNeedThings) := ⟨rfl, rfl, rfl, by decide +kernel, rfl, by decide +kernel, by decide +kernel⟩
def spNeedThings (K : PySem.W.Frag) : Sp := fun vs H Q _ => ∃ (p : Int) (many : Nat) (ns : List Int), NkAll K H vs [.num p, .num (many : Int), tupI ns] ∧ inP p ns ∧ ns.length = many ∧ many < 1000 ∧ RetV .non H Q
theorem ok_need_things (T : Gs K mg) (C_are_numbers : Cal P w K mg base "are_numbers" 2 ["p", "value"] (spAreNumbers K)) (d : Def K mg "need_things" sNeedThings ["p", "many", "value"]) : FnOk P w K mg base CX0 3 d.f d.fd ["p", "many", "value"] (spNeedThings K) := by
  refine d.F.ok scNeedThings (fun vs H Q E h => ?_) (fun cdv A outer s H vs Q E hr h => ?_)
  · obtain ⟨p, m, ns, h, _⟩ := h
    have e := plen h
    exact e
  · obtain ⟨p, many, ns, h, hn, hl, hm, q⟩ := h
    have E0 := env_start (N := nNeedThings) h
    refine ⟨_, pss_one (ps_if (PW.pt (pw_or (pt_not (pt_val (pe_cal C_are_numbers (hr.mono (by decide)) (by rfl) (pa_cons (pv 0) (pa_cons (pv 2) pa_nil))))) (pw_or1 (pt_cmpR op_ne (pe_callB call_len_seq (by rfl) T.z_len PySem.boot_len (pa_cons (pv 2) pa_nil)) (pv 1) (nomark _))))) pss_never pss_nil), ?_⟩
    refine s_ifN (et_to (et_or (et_not (et_B (er_call (ea_cons (ed_var E0 rfl) (ea_cons (ed_var E0 rfl) ea_nil)) fun vs H2 Q s n q => ⟨p, ns, n, hn, by omega, fun H' s' => q _ H' s' rfl⟩))) (fun _ => et_test (ev_ne (b := false) (ed_len (fun p ys H Q h q => ⟨p, ys, rfl, .inr h, q⟩) (ed_var E0 rfl) (n := many) (by rw [List.length_map]; exact hl)) (ed_var E0 rfl) rfl rfl rfl (by show (!decide (V.int (many : Int) = V.int (many : Int))) = false; rw [decide_eq_true rfl]; rfl)))) rfl) ?_
    exact fun H1 s1 => q H1 s1

/-! ### sheet_value -/
theorem et_key {σ : L2.St} {H : Hp} {te : TE} {r : Row} {s t : Str} {b : Bool} (h : Ed K te σ H (rowK r)) (hb : ∃ ks, rowK r = .tup (.text s :: ks)) (e : decide (V.str s = V.str t) = b) : Et (tTest (tOp rEq (tOp (rIxT K) te (tC (.int 0))) (tC (.str t)))) σ H b :=
  et_test (ev_eq (ed_row0 h hb ed_int rfl) ed_str rfl rfl rfl e)
theorem last_map {α : Type} {f : α → NK} {l : List α} {d : α} (h : l ≠ []) : l.map f = l.dropLast.map f ++ [f (l.getLastD d)] := by
  have e : l = l.dropLast ++ [l.getLastD d] := by
    rw [List.getLastD_eq_getLast?, List.getLast?_eq_some_getLast h]
    exact (List.dropLast_concat_getLast h).symm
  have e2 := congrArg (List.map f) e
  rw [List.map_append] at e2
  exact e2
abbrev sSheetValue : Stmt := topS 35
abbrev nSheetValue : List Str := ["p", "many", "sheet", "things", "found", "row"]
theorem scSheetValue : FnScope ["p", "many", "sheet", "things", "found", "row"] ["p", "many", "sheet", "things"] (defScope sSheetValue) := ⟨rfl, rfl, rfl, by decide +kernel, rfl, by decide +kernel, by decide +kernel⟩
def svOne (p : Int) (things : List Int) (found : List Int) : Row → Int
  | .own a => things.getD a 0
  | .number n => (n : Int) % p
  | .sum a b => (found.getD a 0 + found.getD b 0) % p
  | .times a b => found.getD a 0 * found.getD b 0 % p
def svAll (p : Int) (rs : List Row) (things : List Int) : List Int := rs.foldl (fun found r => found ++ [svOne p things found r]) []
def svP (p : Int) (rs : List Row) (things : List Int) : Int := (svAll p rs things).getLastD 0
theorem svAll_len (p : Int) (things : List Int) : ∀ (rs : List Row) (l : List Int), (rs.foldl (fun found r => found ++ [svOne p things found r]) l).length = l.length + rs.length
  | [], l => by simp
  | r :: rs, l => by rw [List.foldl_cons, svAll_len p things rs, List.length_append, List.length_cons, List.length_cons, List.length_nil]; omega
theorem getD_in {p : Int} {ns : List Int} (hp : 0 < p) (h : inP p ns) (i : Nat) : 0 ≤ ns.getD i 0 ∧ ns.getD i 0 < p := by
  rw [List.getD_eq_getElem?_getD]
  cases e : ns[i]? with
  | none => exact ⟨Int.le_refl _, hp⟩
  | some x => exact h x (List.mem_of_getElem? e)
theorem svOne_in {p : Int} {things found : List Int} (hp : 0 < p) (h : inP p things) (r : Row) : 0 ≤ svOne p things found r ∧ svOne p things found r < p := by
  cases r with
  | own a => exact getD_in hp h a
  | number n => exact ⟨Int.emod_nonneg _ (by omega), Int.emod_lt_of_pos _ hp⟩
  | sum a b => exact ⟨Int.emod_nonneg _ (by omega), Int.emod_lt_of_pos _ hp⟩
  | times a b => exact ⟨Int.emod_nonneg _ (by omega), Int.emod_lt_of_pos _ hp⟩
theorem svAll_in {p : Int} {things : List Int} (hp : 0 < p) (h : inP p things) : ∀ (rs : List Row) (l : List Int), inP p l → inP p (rs.foldl (fun found r => found ++ [svOne p things found r]) l)
  | [], l, hl => hl
  | r :: rs, l, hl => svAll_in hp h rs _ (fun n hn => by
      rcases List.mem_append.mp hn with q | q
      · exact hl n q
      · rw [List.mem_singleton.mp q]; exact svOne_in hp h r)
theorem get_getD {ns : List Int} {i : Nat} (h : i < ns.length) : (ns.map NestedKey.num)[i]? = some (.num (ns.getD i 0)) := by
  rw [List.getElem?_map, List.getElem?_eq_getElem h, List.getD_eq_getElem?_getD, List.getElem?_eq_getElem h]; rfl
theorem get_getDT {ns : List (List Int)} {i : Nat} (h : i < ns.length) : (ns.map tupI)[i]? = some (tupI (ns.getD i [])) := by
  rw [List.getElem?_map, List.getElem?_eq_getElem h, List.getD_eq_getElem?_getD, List.getElem?_eq_getElem h]; rfl
def pIn (p : Int) : Prop := p = 5 ∨ p = 7
theorem pIn.lt {p : Int} (h : pIn p) : 4 < p ∧ p < 8 := by rcases h with h | h <;> (subst h; decide)
def spSheetValue (K : PySem.W.Frag) : Sp := fun vs H Q _ => ∃ (p : Int) (many : Nat) (rs : List Row) (things : List Int), NkAll K H vs [.num p, .num (many : Int), sheetK rs, tupI things] ∧ pIn p ∧ 2 ≤ many ∧ many ≤ 4 ∧ SheetOk many rs ∧ inP p things ∧ things.length = many ∧ RetD K (.num (svP p rs things)) H Q
theorem need_num {E : XK} {σ : L2.St} {H : Hp} {te1 te2 te3 : TE} {v l m : Int} (h1 : Ed K te1 σ H (.num v)) (h2 : Ed K te2 σ H (.num l)) (h3 : Ed K te3 σ H (.num m)) (a : l ≤ v) (b : v ≤ m) : Ev (tCall (spNeedNumber K) [] E (tCons te1 (tCons te2 (tCons te3 tNil)))) σ H .non :=
  er_call (ea_cons h1 (ea_cons h2 (ea_cons h3 ea_nil))) fun vs H2 Q s n q => ⟨v, l, m, n, is_from_true a b, fun H' s' => q _ H' s' rfl⟩
theorem need_pr {E : XK} {σ : L2.St} {H : Hp} {te1 : TE} {v : Int} (h1 : Ed K te1 σ H (.num v)) (a : pIn v) : Ev (tCall (spNeedPrime K) [] E (tCons te1 tNil)) σ H .non :=
  er_call (ea_cons h1 ea_nil) fun vs H2 Q s n q => ⟨v, n, a, fun H' s' => q _ H' s' rfl⟩
theorem need_sh {E : XK} {σ : L2.St} {H : Hp} {te1 te2 : TE} {many : Nat} {rs : List Row} (h1 : Ed K te1 σ H (.num (many : Int))) (h2 : Ed K te2 σ H (sheetK rs)) (a : SheetOk many rs) : Ev (tCall (spNeedSheet K) [] E (tCons te1 (tCons te2 tNil))) σ H .non :=
  er_call (ea_cons h1 (ea_cons h2 ea_nil)) fun vs H2 Q s n q => ⟨rs, many, n, a, fun H' s' => q _ H' s' rfl⟩
theorem need_th {E : XK} {σ : L2.St} {H : Hp} {te1 te2 te3 : TE} {p : Int} {many : Nat} {ns : List Int} (h1 : Ed K te1 σ H (.num p)) (h2 : Ed K te2 σ H (.num (many : Int))) (h3 : Ed K te3 σ H (tupI ns)) (a : inP p ns) (b : ns.length = many) (c : many < 1000) : Ev (tCall (spNeedThings K) [] E (tCons te1 (tCons te2 (tCons te3 tNil)))) σ H .non :=
  er_call (ea_cons h1 (ea_cons h2 (ea_cons h3 ea_nil))) fun vs H2 Q s n q => ⟨p, many, ns, n, a, b, c, fun H' s' => q _ H' s' rfl⟩
theorem ok_sheet_value (T : Gs K mg) (C_need_prime : Cal P w K mg base "need_prime" 2 ["value"] (spNeedPrime K)) (C_need_number : Cal P w K mg base "need_number" 2 ["value", "least", "most"] (spNeedNumber K)) (C_need_sheet : Cal P w K mg base "need_sheet" 3 ["many", "value"] (spNeedSheet K)) (C_need_things : Cal P w K mg base "need_things" 3 ["p", "many", "value"] (spNeedThings K))
    (d : Def K mg "sheet_value" sSheetValue ["p", "many", "sheet", "things"]) : FnOk P w K mg base CX0 4 d.f d.fd ["p", "many", "sheet", "things"] (spSheetValue K) := by
  refine d.F.ok scSheetValue (fun vs H Q E h => ?_) (fun cdv A outer s H vs Q E hr h => ?_)
  · obtain ⟨p, m, rs, ns, h, _⟩ := h
    have e := plen h
    exact e
  · obtain ⟨p, many, rs, things, h, hp, hm, hm2, hs, hn, hl, q⟩ := h
    have E0 := env_start (N := nSheetValue) h
    have hpl := hp.lt
    refine ⟨_, pss_cons (ps_expr (pe_cal C_need_prime (hr.mono (by decide)) (by rfl) (pa_cons (pv 0) pa_nil)))
      (pss_cons (ps_expr (pe_cal C_need_number (hr.mono (by decide)) (by rfl) (pa_cons (pv 1) (pa_cons (pe_gc rfl T.c_FEWEST) (pa_cons (pe_gc rfl T.c_MOST_SHARED) pa_nil)))))
      (pss_cons (ps_expr (pe_cal C_need_sheet (hr.mono (by decide)) (by rfl) (pa_cons (pv 1) (pa_cons (pv 2) pa_nil))))
      (pss_cons (ps_expr (pe_cal C_need_things (hr.mono (by decide)) (by rfl) (pa_cons (pv 0) (pa_cons (pv 1) (pa_cons (pv 3) pa_nil)))))
      (pss_cons (ps_set (i := 4) scSheetValue.nd rfl (.inl rfl) (pe_lst pa_nil))
      (pss_cons (ps_for PassesOwn.never rfl (pi_tup (pv 2)) (pg_name (i := 5) scSheetValue.nd rfl (.inl rfl)) (pss_one (ps_if (pt_cmpR op_eq (pe_ix ix_tup (pv 5) pe_int (fun _ _ => rfl)) pe_str (nomark _)) (pss_one (ps_expr (pe_bm PySem.F.plainAttrs_list PySem.F.slot_list_append PySem.F.type_list_append mt_append (pv 4) (pa_cons (pe_ix ix_tup (pv 3) (pe_ix ix_tup (pv 5) pe_int (fun _ _ => rfl)) (fun _ _ => rfl)) pa_nil)))) (pss_one (ps_if (pt_cmpR op_eq (pe_ix ix_tup (pv 5) pe_int (fun _ _ => rfl)) pe_str (nomark _)) (pss_one (ps_expr (pe_bm PySem.F.plainAttrs_list PySem.F.slot_list_append PySem.F.type_list_append mt_append (pv 4) (pa_cons (pe_op op_mod (pe_ix ix_tup (pv 5) pe_int (fun _ _ => rfl)) (pv 0)) pa_nil)))) (pss_one (ps_if (pt_cmpR op_eq (pe_ix ix_tup (pv 5) pe_int (fun _ _ => rfl)) pe_str (nomark _)) (pss_one (ps_expr (pe_bm PySem.F.plainAttrs_list PySem.F.slot_list_append PySem.F.type_list_append mt_append (pv 4) (pa_cons (pe_op op_mod (pe_op op_add (pe_ix ix_list (pv 4) (pe_ix ix_tup (pv 5) pe_int (fun _ _ => rfl)) (fun _ _ => rfl)) (pe_ix ix_list (pv 4) (pe_ix ix_tup (pv 5) pe_int (fun _ _ => rfl)) (fun _ _ => rfl))) (pv 0)) pa_nil)))) (pss_one (ps_expr (pe_bm PySem.F.plainAttrs_list PySem.F.slot_list_append PySem.F.type_list_append mt_append (pv 4) (pa_cons (pe_op op_mod (pe_op op_mul (pe_ix ix_list (pv 4) (pe_ix ix_tup (pv 5) pe_int (fun _ _ => rfl)) (fun _ _ => rfl)) (pe_ix ix_list (pv 4) (pe_ix ix_tup (pv 5) pe_int (fun _ _ => rfl)) (fun _ _ => rfl))) (pv 0)) pa_nil)))))))))))
      (pss_one (ps_ret (pe_ix ix_list (pv 4) (pe_un un_neg pe_int) (fun _ _ => rfl))))))))), ?_⟩
    refine q_drop (need_pr (ed_var E0 rfl) hp) fun H1 s1 => ?_
    have E1 := E0.ts (Same.ts (K := K) s1)
    refine q_drop (need_num (l := 2) (m := 4) (ed_var E1 rfl) ed_int ed_int (by omega) (by omega)) fun H2 s2 => ?_
    have E2 := E1.ts (Same.ts (K := K) s2)
    refine q_drop (need_sh (ed_var E2 rfl) (ed_var E2 rfl) hs) fun H3 s3 => ?_
    have E3 := E2.ts (Same.ts (K := K) s3)
    refine q_drop (need_th (ed_var E3 rfl) (ed_var E3 rfl) (ed_var E3 rfl) hn hl (by omega)) fun H4 s4 => ?_
    have E4 := E3.ts (Same.ts (K := K) s4)
    have s04 := ((s1.trans s2).trans s3).trans s4
    refine q_setL E4 (el_lst ea_nil (Nat.zero_le _)) fun l ws σ5 H5 hl0 s5 el nl E5 => ?_
    cases nl
    refine q_for (L := [l]) (ks := rs.map rowK) (ew_tup (es_tup (ed_var E5 rfl))) (MutL.one el) (fun _ h => nomatch h)
      (fun i σ' H' => Env K H' σ' [.d (.num p), .d (.num (many : Int)), .d (sheetK rs), .d (tupI things), .v (.ref l), .u] ∧ ∃ ws, H' l = some (.lst ws) ∧ NkAll K H' ws ((svAll p (rs.take i) things).map .num))
      (fun H2 s2 => ⟨E5.ts (Same.ts s2), [], s2 _ _ el, .nil⟩) (fun i k σ2 H6 hk kp ⟨E6, ws, ew, nw⟩ x H7 s7 nx => ?_) (fun σ2 H6 kp ⟨E6, ws, ew, nw⟩ => ?_)
    · rw [List.getElem?_map] at hk
      obtain ⟨r, hri, rfl⟩ := Option.map_eq_some_iff.mp hk
      have ro := hs.2.2 i r hri
      have hi : i < rs.length := (List.getElem?_eq_some_iff.mp hri).1
      have E7 := (E6.ts (Same.ts s7)).setD nx 5
      have hlen : (svAll p (rs.take i) things).length = i := by
        unfold svAll
        rw [svAll_len, List.length_take, List.length_nil]; omega
      have hin : inP p (svAll p (rs.take i) things) := svAll_in (by omega) hn _ [] (fun n h => nomatch h)
      have hstep : svAll p (rs.take (i + 1)) things = svAll p (rs.take i) things ++ [svOne p things (svAll p (rs.take i) things) r] := by
        unfold svAll
        exact foldl_take hri
      have e7 := s7 _ _ ew
      have n7 := nkAll_mono nw (Same.ts (K := K) s7)
      have fin : ∀ {te : TE} {σ : L2.St} {H8 : Hp}, Same H7 H8 → Env K H8 σ [.d (.num p), .d (.num (many : Int)), .d (sheetK rs), .d (tupI things), .v (.ref l), .d (rowK r)] → Ed K te σ H8 (.num (svOne p things (svAll p (rs.take i) things) r)) →
          ∀ {D : Ends}, (∀ σ' H', KeepL [l] H6 H' ∧ (Env K H' σ' [.d (.num p), .d (.num (many : Int)), .d (sheetK rs), .d (tupI things), .v (.ref l), .u] ∧ ∃ ws, H' l = some (.lst ws) ∧ NkAll K H' ws ((svAll p (rs.take (i + 1)) things).map .num)) → D.nx σ' H') →
          tDrop (tBM K "list" rAppend (tVar 4) (tCons te tNil)) D σ H8 := fun {te σ H8} s8 E8 h8 {D} c => s_app (s8 _ _ e7) (nkAll_mono n7 (Same.ts s8)) (ev_var E8 rfl) h8 (by rw [plen n7, List.length_map, hlen]; have := hs.2.1; omega) fun ws' H9 kp9 ts9 e9 n9 => c σ H9 ⟨(Same.keepL (s7.trans s8)).trans kp9, (E8.ts ts9).frg 5, ws', e9, by rw [hstep, List.map_append]; exact n9⟩
      cases r with
      | own a =>
        refine s_ifT (et_key (s := "own") (b := true) (ed_var E7 rfl) ⟨_, rfl⟩ (by decide)) fun G1 t1 => ?_
        have s8 := t1
        have E8 := E7.ts (Same.ts (K := K) s8)
        have e8 := s8 _ _ e7
        have n8 := nkAll_mono n7 (Same.ts (K := K) s8)
        exact fin s8 E8 (ed_ixT (ed_var E8 rfl) (ed_ixT (ed_var E8 rfl) ed_int (j := 1) rfl rfl) (j := a) rfl (get_getD (by rw [hl]; exact ro))) (fun σ' H' h => h)
      | number a =>
        refine s_ifF (et_key (s := "number") (b := false) (ed_var E7 rfl) ⟨_, rfl⟩ (by decide)) fun G1 t1 => ?_
        have F1 := E7.ts (Same.ts (K := K) t1)
        refine s_ifT (et_key (s := "number") (b := true) (ed_var F1 rfl) ⟨_, rfl⟩ (by decide)) fun G2 t2 => ?_
        have s8 := (t1.trans t2)
        have E8 := E7.ts (Same.ts (K := K) s8)
        have e8 := s8 _ _ e7
        have n8 := nkAll_mono n7 (Same.ts (K := K) s8)
        exact fin s8 E8 (ed_I (ed_ixT (ed_var E8 rfl) ed_int (j := 1) rfl rfl) (ed_var E8 rfl) (by show (0 : Int) < p; omega) rfl) (fun σ' H' h => h)
      | sum a b =>
        refine s_ifF (et_key (s := "sum") (b := false) (ed_var E7 rfl) ⟨_, rfl⟩ (by decide)) fun G1 t1 => ?_
        have F1 := E7.ts (Same.ts (K := K) t1)
        refine s_ifF (et_key (s := "sum") (b := false) (ed_var F1 rfl) ⟨_, rfl⟩ (by decide)) fun G2 t2 => ?_
        have F2 := F1.ts (Same.ts (K := K) t2)
        refine s_ifT (et_key (s := "sum") (b := true) (ed_var F2 rfl) ⟨_, rfl⟩ (by decide)) fun G3 t3 => ?_
        have s8 := ((t1.trans t2).trans t3)
        have E8 := E7.ts (Same.ts (K := K) s8)
        have e8 := s8 _ _ e7
        have n8 := nkAll_mono n7 (Same.ts (K := K) s8)
        exact fin s8 E8 (ed_I (ed_I0 (ed_ixL (.inl (.inl e8)) n8 (ev_var E8 rfl) (ed_ixT (ed_var E8 rfl) ed_int (j := 1) rfl rfl) (j := a) rfl (get_getD (by rw [hlen]; exact ro.1))) (ed_ixL (.inl (.inl e8)) n8 (ev_var E8 rfl) (ed_ixT (ed_var E8 rfl) ed_int (j := 2) rfl rfl) (j := b) rfl (get_getD (by rw [hlen]; exact ro.2))) rfl) (ed_var E8 rfl) (by show (0 : Int) < p; omega) rfl) (fun σ' H' h => h)
      | times a b =>
        refine s_ifF (et_key (s := "times") (b := false) (ed_var E7 rfl) ⟨_, rfl⟩ (by decide)) fun G1 t1 => ?_
        have F1 := E7.ts (Same.ts (K := K) t1)
        refine s_ifF (et_key (s := "times") (b := false) (ed_var F1 rfl) ⟨_, rfl⟩ (by decide)) fun G2 t2 => ?_
        have F2 := F1.ts (Same.ts (K := K) t2)
        refine s_ifF (et_key (s := "times") (b := false) (ed_var F2 rfl) ⟨_, rfl⟩ (by decide)) fun G3 t3 => ?_
        have F3 := F2.ts (Same.ts (K := K) t3)
        have s8 := ((t1.trans t2).trans t3)
        have E8 := E7.ts (Same.ts (K := K) s8)
        have e8 := s8 _ _ e7
        have n8 := nkAll_mono n7 (Same.ts (K := K) s8)
        exact fin s8 E8 (ed_I (ed_I (ed_ixL (.inl (.inl e8)) n8 (ev_var E8 rfl) (ed_ixT (ed_var E8 rfl) ed_int (j := 1) rfl rfl) (j := a) rfl (get_getD (by rw [hlen]; exact ro.1))) (ed_ixL (.inl (.inl e8)) n8 (ev_var E8 rfl) (ed_ixT (ed_var E8 rfl) ed_int (j := 2) rfl rfl) (j := b) rfl (get_getD (by rw [hlen]; exact ro.2))) (cmulR (by have := (getD_in (by omega) hin b).1; omega) (by have := (getD_in (by omega) hin b).2; omega)) rfl) (ed_var E8 rfl) (by show (0 : Int) < p; omega) rfl) (fun σ' H' h => h)
    · rw [List.length_map, List.take_length] at nw
      have hs0 : Same H5 H6 ∨ True := .inr trivial
      have hne : svAll p rs things ≠ [] := fun z => by
        have h9 := svAll_len p things rs []
        unfold svAll at z
        rw [z] at h9
        have := List.length_pos_iff.mpr hs.1
        simp at h9; omega
      rw [last_map (d := 0) hne] at nw
      have hb : Same H H6 := s04.trans (KeepL.back s5 (fun b hb => by rw [show b = l by simpa using hb]; exact hl0) kp)
      exact s_retD (ed_lastL (.inl (.inl ew)) nw (ev_var E6 rfl) (ed_neg ed_int rfl) rfl) fun v H7 s7 n => q v H7 (hb.trans s7) n

/-! ### need_enough, coins_for -/
abbrev sNeedEnough : Stmt := topS 36
abbrev nNeedEnough : List Str := ["many", "size", "sheet", "has_times", "row"]
theorem scNeedEnough : FnScope ["many", "size", "sheet", "has_times", "row"] ["many", "size", "sheet"] (defScope sNeedEnough) := ⟨rfl, rfl, rfl, by decide +kernel, rfl, by decide +kernel, by decide +kernel⟩
def hasTimes (rs : List Row) : Bool := rs.any fun | .times _ _ => true | _ => false
def enough (many size : Nat) (rs : List Row) : Prop := (if hasTimes rs then 2 * size else size) < many
def isTimes : NK → Bool
  | .tup (.text s :: _) => decide (V.str s = V.str "times")
  | _ => false
def spNeedEnough (K : PySem.W.Frag) : Sp := fun vs H Q _ => ∃ (many size : Nat) (rs : List Row), NkAll K H vs [.num (many : Int), .num (size : Int), sheetK rs] ∧ rs.length ≤ 8 ∧ many ≤ 4 ∧ size ≤ 2 ∧ enough many size rs ∧ RetV .non H Q
theorem times_any (rs : List Row) : (((rs.map rowK).map isTimes).any id) = hasTimes rs := by
  unfold hasTimes
  rw [List.any_map, List.any_map]
  congr 1
  funext r
  cases r <;> rfl
theorem ok_need_enough (T : Gs K mg) (d : Def K mg "need_enough" sNeedEnough ["many", "size", "sheet"]) : FnOk P w K mg base CX0 1 d.f d.fd ["many", "size", "sheet"] (spNeedEnough K) := by
  refine d.F.ok scNeedEnough (fun vs H Q E h => ?_) (fun cdv A outer s H vs Q E hr h => ?_)
  · obtain ⟨m, sz, rs, h, _⟩ := h
    have e := plen h
    exact e
  · obtain ⟨many, size, rs, h, h8, hm, hz, hen, q⟩ := h
    have E0 := env_start (N := nNeedEnough) h
    refine ⟨_, pss_cons (ps_set (i := 3) scNeedEnough.nd rfl (.inl rfl) (pe_callB (cr_any rfl) (by rfl) T.z_any (by decide +kernel) (pa_cons (pe_lc (own := [("row", 4)]) rfl scNeedEnough.nd (pi_tup (pv 2)) (blkOk_by (by kernel_rfl)) (fun _ _ _ _ _ => pg_name (i := 4) scNeedEnough.nd rfl (.inl rfl) (.inr rfl)) (fun _ _ _ _ _ => pts_nil) (fun _ _ _ _ _ => pe_cmpR op_eq (pe_ix (ix_tupK (K := K) rfl) (pv 4) pe_int (fun _ _ => rfl)) pe_str (nomark _))) pa_nil)))
      (pss_one (ps_if (pt_cmpR op_ge (pe_ifExp (pt_val (pv 3)) (pe_op op_mul pe_int (pv 1)) (pv 1)) (pv 0) (nomark _)) pss_never pss_nil)), ?_⟩
    refine q_setV E0 (ev_to (ev_anyall (fun a bs H Q h q => ⟨a, bs, rfl, h, q⟩) (el_lc1 bl_ts (ew_tup (es_tup (ed_var E0 rfl))) E0 (by rw [List.length_map]; omega) (by decide) isTimes fun k σ' H' hk s' E' => ?_)) (congrArg V.bl (times_any rs))) fun σ1 H1 s1 E1 => ?_
    · obtain ⟨r, hr, rfl⟩ := List.mem_map.mp hk
      cases r with
      | own a => exact ev_eq (ed_row0 (s := "own") (ed_var E' rfl) ⟨_, rfl⟩ ed_int rfl) ed_str rfl rfl rfl rfl
      | number a => exact ev_eq (ed_row0 (s := "number") (ed_var E' rfl) ⟨_, rfl⟩ ed_int rfl) ed_str rfl rfl rfl rfl
      | sum a b => exact ev_eq (ed_row0 (s := "sum") (ed_var E' rfl) ⟨_, rfl⟩ ed_int rfl) ed_str rfl rfl rfl rfl
      | times a b => exact ev_eq (ed_row0 (s := "times") (ed_var E' rfl) ⟨_, rfl⟩ ed_int rfl) ed_str rfl rfl rfl rfl
    · unfold enough at hen
      refine s_ifN (et_test (ev_I0 (v := .bl false) (i := if hasTimes rs then 2 * (size : Int) else size) (j := (many : Int)) (er_if (et_B (ev_var E1 rfl)) (fun hb => ?_) (fun hb => ?_)) (ed_var E1 rfl) ?_)) fun H2 s2 => q H2 (s1.trans s2)
      · rw [if_pos hb]
        exact ed_I ed_int (ed_var E1 rfl) (cmulL (by omega) (by omega)) rfl
      · rw [if_neg (by rw [hb]; exact Bool.false_ne_true)]
        exact ed_var E1 rfl
      · show V.bl (decide (_ ≤ _)) = _
        congr 1
        refine decide_eq_false ?_
        split <;> rename_i hc
        · rw [if_pos hc] at hen; omega
        · rw [if_neg hc] at hen; omega

abbrev sCoinsFor : Stmt := topS 37
abbrev nCoinsFor : List Str := ["many", "size", "sheet", "row"]
theorem scCoinsFor : FnScope ["many", "size", "sheet", "row"] ["many", "size", "sheet"] (defScope sCoinsFor) := ⟨rfl, rfl, rfl, by decide +kernel, rfl, by decide +kernel, by decide +kernel⟩
def coinsRow (many size : Nat) : Row → Int
  | .own _ => (size : Int)
  | .times _ _ => (many : Int) * (size : Int)
  | _ => 0
def coinsP (many size : Nat) (rs : List Row) : Int := (rs.map (coinsRow many size)).sum
def coinsK (many size : Nat) : NK → NK
  | .tup (.text s :: _) => if s = "own" then .num (size : Int) else if s = "times" then .num ((many : Int) * (size : Int)) else .num 0
  | _ => .num 0
def spCoinsFor (K : PySem.W.Frag) : Sp := fun vs H Q _ => ∃ (many size : Nat) (rs : List Row), NkAll K H vs [.num (many : Int), .num (size : Int), sheetK rs] ∧ rs.length ≤ 8 ∧ many ≤ 4 ∧ size ≤ 2 ∧ RetD K (.num (coinsP many size rs)) H Q
theorem ok_coins_for (T : Gs K mg) (d : Def K mg "coins_for" sCoinsFor ["many", "size", "sheet"]) : FnOk P w K mg base CX0 1 d.f d.fd ["many", "size", "sheet"] (spCoinsFor K) := by
  refine d.F.ok scCoinsFor (fun vs H Q E h => ?_) (fun cdv A outer s H vs Q E hr h => ?_)
  · obtain ⟨m, sz, rs, h, _⟩ := h
    have e := plen h
    exact e
  · obtain ⟨many, size, rs, h, h8, hm, hz, q⟩ := h
    have E0 := env_start (N := nCoinsFor) h
    refine ⟨_, pss_one (ps_ret (pe_callB (cr_sum rfl) (by rfl) T.z_sum (by decide +kernel) (pa_cons (pe_lc (own := [("row", 3)]) rfl scCoinsFor.nd (pi_tup (pv 2)) (blkOk_by (by kernel_rfl)) (fun _ _ _ _ _ => pg_name (i := 3) scCoinsFor.nd rfl (.inl rfl) (.inr rfl)) (fun _ _ _ _ _ => pts_nil) (fun _ _ _ _ _ => pe_dget2 (hu_of hr) (pe_disp (pps_cons pe_str (pv 1) (pps_cons pe_str (pe_op op_mul (pv 0) (pv 1)) pps_nil)) (by rfl) (by rfl) (fun z => by cases z) (by decide)) (pe_ix (ix_tupK (K := K) rfl) (pv 3) pe_int (fun _ _ => rfl)) pe_int ⟨rfl, rfl, rfl, rfl⟩)) pa_nil))), ?_⟩
    have hmap : (rs.map rowK).map (coinsK many size) = (rs.map (coinsRow many size)).map .num := by
      rw [List.map_map, List.map_map]
      refine List.map_congr_left fun r _ => ?_
      cases r <;> rfl
    refine s_retD (ed_sum (ns := rs.map (coinsRow many size)) (fun a bs H Q h q => ⟨a, bs, rfl, h, q⟩) (hmap ▸ el_lc1 nk_ts (ew_tup (es_tup (ed_var E0 rfl))) E0 (by rw [List.length_map]; omega) (by decide) (coinsK many size) fun k σ' H' hk s' E' => ?_)) fun v H1 s1 n => q v H1 s1 n
    obtain ⟨r, hr, rfl⟩ := List.mem_map.mp hk
    cases r with
    | own a => exact ed_dget2 (s1 := "own") (s2 := "times") (key := "own") (n1 := (size : Int)) (n2 := (many : Int) * (size : Int)) (m := 0) (r := (size : Int)) ed_str (ed_var E' rfl) ed_str (ed_I (ed_var E' rfl) (ed_var E' rfl) (cmulR (by omega) (by omega)) rfl) (ed_row0 (s := "own") (ed_var E' rfl) ⟨_, rfl⟩ ed_int rfl) ed_int rfl
    | number a => exact ed_dget2 (s1 := "own") (s2 := "times") (key := "number") (n1 := (size : Int)) (n2 := (many : Int) * (size : Int)) (m := 0) (r := 0) ed_str (ed_var E' rfl) ed_str (ed_I (ed_var E' rfl) (ed_var E' rfl) (cmulR (by omega) (by omega)) rfl) (ed_row0 (s := "number") (ed_var E' rfl) ⟨_, rfl⟩ ed_int rfl) ed_int rfl
    | sum a b => exact ed_dget2 (s1 := "own") (s2 := "times") (key := "sum") (n1 := (size : Int)) (n2 := (many : Int) * (size : Int)) (m := 0) (r := 0) ed_str (ed_var E' rfl) ed_str (ed_I (ed_var E' rfl) (ed_var E' rfl) (cmulR (by omega) (by omega)) rfl) (ed_row0 (s := "sum") (ed_var E' rfl) ⟨_, rfl⟩ ed_int rfl) ed_int rfl
    | times a b => exact ed_dget2 (s1 := "own") (s2 := "times") (key := "times") (n1 := (size : Int)) (n2 := (many : Int) * (size : Int)) (m := 0) (r := (many : Int) * (size : Int)) ed_str (ed_var E' rfl) ed_str (ed_I (ed_var E' rfl) (ed_var E' rfl) (cmulR (by omega) (by omega)) rfl) (ed_row0 (s := "times") (ed_var E' rfl) ⟨_, rfl⟩ ed_int rfl) ed_int rfl
end
end NM
namespace NM
open PySem PySem.Spec PyProof.Rows L2
section
variable {P : Program} {w : World} {K : PySem.W.Frag} {mg : Str → Option Value} {base : Heap} {σ : L2.St} {H : Hp}
/-! ### helpers -/
def cut (cs : List Int) (i n : Nat) : List Int := (cs.drop i).take n
theorem cut_len (cs : List Int) (i n : Nat) : (cut cs i n).length ≤ cs.length := by
  unfold cut; rw [List.length_take, List.length_drop]; omega
theorem cut_eq {α : Type} (l : List α) (i n : Nat) : (l.drop (HT.sIx l.length 0 (some (i : Int)))).take (HT.sIx l.length l.length (some ((i : Int) + (n : Int))) - HT.sIx l.length 0 (some (i : Int))) = (l.drop i).take n := by
  rw [show ((i : Int) + (n : Int)) = ((i + n : Nat) : Int) by omega, HT.sIx_nat, HT.sIx_nat]
  by_cases h : i ≤ l.length
  · rw [Nat.min_eq_left h]
    by_cases h2 : i + n ≤ l.length
    · rw [Nat.min_eq_left h2, Nat.add_sub_cancel_left]
    · rw [Nat.min_eq_right (by omega), List.take_of_length_le (by rw [List.length_drop]; omega), List.take_of_length_le (by rw [List.length_drop]; omega)]
  · rw [Nat.min_eq_right (show l.length ≤ i by omega), List.drop_length, List.drop_eq_nil_of_le (by omega : l.length ≤ i)]; simp
theorem ed_cut {ta tl th : TE} {cs : List Int} {i n : Nat} (h : Ed K ta σ H (tupI cs)) (h1 : Ed K tl σ H (.num (i : Int))) (h2 : Ed K th σ H (.num ((i : Int) + (n : Int)))) : Ed K (tSl (rSlA K) ta (tPart tl) (tPart th)) σ H (tupI (cut cs i n)) :=
  ed_slT (lo := some (i : Int)) (hi := some ((i : Int) + (n : Int))) h (eo_some h1) (eo_some h2) (by
    rw [cut_eq]
    unfold cut
    rw [List.map_take, List.map_drop])
theorem ed_deal {E : XK} {t1 t2 t3 t4 : TE} {p s : Int} {many : Nat} {cs : List Int} (h1 : Ed K t1 σ H (.num p)) (h2 : Ed K t2 σ H (.num (many : Int))) (h3 : Ed K t3 σ H (.num s)) (h4 : Ed K t4 σ H (tupI cs)) (hp : 0 < p) (hm : many < 900) (hz : cs.length < 1000) :
    Ed K (tCall (spDeal K) [] E (tCons t1 (tCons t2 (tCons t3 (tCons t4 tNil))))) σ H (tupI (dealP p many s cs)) :=
  er_call (ea_cons h1 (ea_cons h2 (ea_cons h3 (ea_cons h4 ea_nil)))) fun vs H2 Q s2 n q => ⟨p, many, s, cs, n, hp, by omega, by omega, hz, fun v H' s' n' => q v H' s' n'⟩
theorem dealP_len (p s : Int) (many : Nat) (cs : List Int) : (dealP p many s cs).length = many := by
  unfold dealP; rw [List.length_map, List.length_range]; rfl
theorem dealP_in {p : Int} (hp : 0 < p) (s : Int) (many : Int) (cs : List Int) : inP p (dealP p many s cs) := fun n hn => by
  unfold dealP at hn
  obtain ⟨i, _, rfl⟩ := List.mem_map.mp hn
  exact ⟨Int.emod_nonneg _ (by omega), Int.emod_lt_of_pos _ hp⟩

/-! ### run_shared -/
abbrev sRunShared : Stmt := topS 38
abbrev nRunShared : List Str := ["p", "many", "size", "sheet", "things", "coins", "found", "dealt", "at", "weights", "row", "shares", "one", "other", "some", "person", "own", "weight"]
theorem scRunShared : FnScope ["p", "many", "size", "sheet", "things", "coins", "found", "dealt", "at", "weights", "row", "shares", "one", "other", "some", "person", "own", "weight"] ["p", "many", "size", "sheet", "things", "coins"] (defScope sRunShared) := ⟨rfl, rfl, rfl, by decide +kernel, rfl, by decide +kernel, by decide +kernel⟩
structure RunS where
  found : List (List Int)
  dealt : List (List (List Int))
  pos : Nat
def places (many : Nat) : List Int := (List.range many).map fun (i : Nat) => 1 + (i : Int)
def timesSome (p : Int) (many size : Nat) (coins : List Int) (f g : List Int) (pos : Nat) : List (List Int) := (List.range many).map fun (j : Nat) => dealP p many (f.getD j 0 * g.getD j 0 % p) (cut coins (pos + j * size) size)
def mixP (p : Int) (many : Nat) (ws : List Int) (some : List (List Int)) : List Int := (List.range many).map fun (i : Nat) => (List.zipWith (fun (w : Int) (one : List Int) => w * one.getD i 0) ws some).sum % p
def rsStep (p : Int) (many size : Nat) (things coins : List Int) (s : RunS) : Row → RunS
  | .own a => ⟨s.found ++ [dealP p many (things.getD a 0) (cut coins s.pos size)], s.dealt ++ [[dealP p many (things.getD a 0) (cut coins s.pos size)]], s.pos + size⟩
  | .number n => ⟨s.found ++ [List.replicate many ((n : Int) % p)], s.dealt, s.pos⟩
  | .sum a b => ⟨s.found ++ [List.zipWith (fun x y => (x + y) % p) (s.found.getD a []) (s.found.getD b [])], s.dealt, s.pos⟩
  | .times a b => ⟨s.found ++ [mixP p many (weightsP p (places many)) (timesSome p many size coins (s.found.getD a []) (s.found.getD b []) s.pos)], s.dealt ++ [timesSome p many size coins (s.found.getD a []) (s.found.getD b []) s.pos], s.pos + many * size⟩
def rsAll (p : Int) (many size : Nat) (rs : List Row) (things coins : List Int) : RunS := rs.foldl (rsStep p many size things coins) ⟨[], [], 0⟩
def linesK (d : List (List Int)) : NK := .tup (d.map tupI)
def sharesP (p : Int) (many size : Nat) (rs : List Row) (things coins : List Int) : List Int := (rsAll p many size rs things coins).found.getLastD []
def dealtP (p : Int) (many size : Nat) (rs : List Row) (things coins : List Int) : List (List (List Int)) := (rsAll p many size rs things coins).dealt
def GoodF (p : Int) (many : Nat) (f : List (List Int)) : Prop := ∀ l ∈ f, l.length = many ∧ inP p l
theorem weightsP_len (p : Int) (pl : List Int) : (weightsP p pl).length = pl.length := List.length_map ..
theorem mixP_in {p : Int} (hp : 0 < p) (many : Nat) (ws : List Int) (some : List (List Int)) : inP p (mixP p many ws some) := fun n hn => by
  unfold mixP at hn
  obtain ⟨i, _, rfl⟩ := List.mem_map.mp hn
  exact ⟨Int.emod_nonneg _ (by omega), Int.emod_lt_of_pos _ hp⟩
theorem GoodF.getD {p : Int} {many : Nat} {f : List (List Int)} (h : GoodF p many f) {a : Nat} (ha : a < f.length) : (f.getD a []).length = many ∧ inP p (f.getD a []) := by
  refine h _ ?_
  rw [List.getD_eq_getElem?_getD, List.getElem?_eq_getElem ha]
  exact List.getElem_mem ha
theorem GoodF.app {p : Int} {many : Nat} {f : List (List Int)} (h : GoodF p many f) {l : List Int} (h1 : l.length = many) (h2 : inP p l) : GoodF p many (f ++ [l]) := fun x hx => by
  rcases List.mem_append.mp hx with q | q
  · exact h x q
  · rw [List.mem_singleton.mp q]; exact ⟨h1, h2⟩
theorem rsStep_good {p : Int} {many size : Nat} {things coins : List Int} (hp : 0 < p) {s : RunS} {r : Row} (h : GoodF p many s.found) (ho : r.ok many s.found.length) : GoodF p many (rsStep p many size things coins s r).found ∧ (rsStep p many size things coins s r).found.length = s.found.length + 1 := by
  cases r with
  | own a => exact ⟨h.app (dealP_len ..) (dealP_in hp _ _ _), by simp [rsStep]⟩
  | number n => exact ⟨h.app (List.length_replicate ..) (fun x hx => by rw [List.eq_of_mem_replicate hx]; exact ⟨Int.emod_nonneg _ (by omega), Int.emod_lt_of_pos _ hp⟩), by simp [rsStep]⟩
  | sum a b =>
    refine ⟨h.app ?_ (fun x hx => ?_), by simp [rsStep]⟩
    · rw [List.length_zipWith, (h.getD ho.1).1, (h.getD ho.2).1, Nat.min_self]
    · rw [List.mem_iff_getElem?] at hx
      obtain ⟨i, hi⟩ := hx
      rw [List.getElem?_zipWith] at hi
      split at hi
      · rw [← Option.some.inj hi]
        exact ⟨Int.emod_nonneg _ (by omega), Int.emod_lt_of_pos _ hp⟩
      · cases hi
  | times a b => exact ⟨h.app (by unfold mixP; rw [List.length_map, List.length_range]) (mixP_in hp _ _ _), by simp [rsStep]⟩
theorem rsAll_good {p : Int} {many size : Nat} {things coins : List Int} {rs : List Row} (hp : 0 < p) (ho : ∀ (i : Nat) (r : Row), rs[i]? = some r → r.ok many i) : ∀ n, n ≤ rs.length → GoodF p many (rsAll p many size (rs.take n) things coins).found ∧ (rsAll p many size (rs.take n) things coins).found.length = n
  | 0, _ => ⟨fun _ h => (nomatch h), rfl⟩
  | n + 1, h => by
    obtain ⟨g, l⟩ := rsAll_good hp ho n (by omega)
    have hr : rs[n]? = some rs[n] := List.getElem?_eq_getElem h
    have e : rsAll p many size (rs.take (n + 1)) things coins = rsStep p many size things coins (rsAll p many size (rs.take n) things coins) rs[n] := foldl_take hr
    rw [e]
    have := rsStep_good (size := size) (things := things) (coins := coins) hp g (r := rs[n]) (by rw [l]; exact ho n _ hr)
    exact ⟨this.1, by rw [this.2, l]⟩
theorem rsAll_dealt {p : Int} {many size : Nat} {things coins : List Int} : ∀ (rs : List Row) (s : RunS), (rs.foldl (rsStep p many size things coins) s).dealt.length ≤ s.dealt.length + rs.length
  | [], s => Nat.le_refl _
  | r :: rs, s => by
    have h := rsAll_dealt (p := p) (many := many) (size := size) (things := things) (coins := coins) rs (rsStep p many size things coins s r)
    have h2 : (rsStep p many size things coins s r).dealt.length ≤ s.dealt.length + 1 := by cases r <;> simp [rsStep]
    rw [List.foldl_cons, List.length_cons]; omega
theorem zipK_mem {α β : Type} {f : α → NK} {g : β → NK} {a b : NK} : ∀ {l : List α} {m : List β}, pairK a b ∈ zipK (l.map f) (m.map g) → ∃ x y, x ∈ l ∧ y ∈ m ∧ a = f x ∧ b = g y
  | [], _, h => by simp [zipK] at h
  | _ :: _, [], h => by simp [zipK] at h
  | x :: l, y :: m, h => by
    have h' : pairK a b ∈ pairK (f x) (g y) :: zipK (l.map f) (m.map g) := h
    rcases List.mem_cons.mp h' with e | h'
    · cases e; exact ⟨x, y, List.mem_cons_self .., List.mem_cons_self .., rfl, rfl⟩
    · obtain ⟨x', y', h1, h2, h3⟩ := zipK_mem h'
      exact ⟨x', y', List.mem_cons_of_mem _ h1, List.mem_cons_of_mem _ h2, h3⟩
theorem zipK_map {α β γ : Type} {f : α → NK} {g : β → NK} {val : NK → γ} {h : α → β → γ} (e : ∀ x y, val (pairK (f x) (g y)) = h x y) : ∀ (l : List α) (m : List β), (zipK (l.map f) (m.map g)).map val = List.zipWith h l m
  | [], _ => by simp [zipK]
  | _ :: _, [] => by simp [zipK]
  | x :: l, y :: m => by
    show val (pairK (f x) (g y)) :: (zipK (l.map f) (m.map g)).map val = h x y :: List.zipWith h l m
    rw [e, zipK_map e l m]
def numK : NK → Int
  | .num n => n
  | _ => 0
theorem numK_get (l : List Int) (i : Nat) : numK ((l.map NestedKey.num).getD i .none) = l.getD i 0 := by
  rw [List.getD_eq_getElem?_getD, List.getD_eq_getElem?_getD, List.getElem?_map]
  cases l[i]? <;> rfl
def addK (p : Int) : NK → NK
  | .tup [.num x, .num y] => .num ((x + y) % p)
  | _ => .none
def mulK (i : Nat) : NK → NK
  | .tup [.num x, .tup ks] => .num (x * numK (ks.getD i .none))
  | _ => .none
theorem rep_tupI (many : Nat) (x : Int) : NestedKey.tup (List.replicate ((many : Int).toNat) [NestedKey.num x]).flatten = tupI (List.replicate many x) := by
  unfold tupI
  rw [List.map_replicate, show ((many : Int).toNat) = many from rfl]
  congr 1
  induction many with
  | zero => rfl
  | succ n ih => rw [List.replicate_succ, List.replicate_succ, List.flatten_cons, ih]; rfl
theorem timesSome_len (p : Int) (many size : Nat) (coins f g : List Int) (pos : Nat) : (timesSome p many size coins f g pos).length = many := by
  unfold timesSome; rw [List.length_map, List.length_range]
theorem timesSome_take {p : Int} {many size : Nat} {coins f g : List Int} {pos j : Nat} (h : j < many) : (timesSome p many size coins f g pos).take (j + 1) = (timesSome p many size coins f g pos).take j ++ [dealP p many (f.getD j 0 * g.getD j 0 % p) (cut coins (pos + j * size) size)] := by
  rw [List.take_add_one]
  congr 1
  unfold timesSome
  rw [List.getElem?_map, List.getElem?_range h]; rfl
def mixK (p : Int) (ws : List Int) (some : List (List Int)) : NK → NK
  | .num i => .num ((List.zipWith (fun (w : Int) (one : List Int) => w * one.getD i.toNat 0) ws some).sum % p)
  | _ => .none
theorem mixK_eq (p : Int) (many : Nat) (ws : List Int) (some : List (List Int)) : NestedKey.tup ((rangeK 0 many).map (mixK p ws some)) = tupI (mixP p many ws some) := by
  unfold tupI mixP rangeK
  rw [List.map_map, List.map_map]
  congr 1
  refine List.map_congr_left fun i _ => ?_
  show mixK p ws some (.num (0 + (i : Int))) = _
  rw [Int.zero_add]
  rfl
def spRunShared (K : PySem.W.Frag) : Sp := fun vs H Q _ => ∃ (p : Int) (many size : Nat) (rs : List Row) (things coins : List Int), NkAll K H vs [.num p, .num (many : Int), .num (size : Int), sheetK rs, tupI things, tupI coins] ∧ pIn p ∧ 2 ≤ many ∧ many ≤ 4 ∧ 1 ≤ size ∧ size ≤ 2 ∧ SheetOk many rs ∧ things.length = many ∧ coins.length < 900 ∧
  RetD K (.tup [tupI (sharesP p many size rs things coins), .tup ((dealtP p many size rs things coins).map linesK)]) H Q
theorem rangeK_places (many : Nat) : rangeK 1 ((many : Int) + 1 - 1).toNat = (places many).map .num := by
  unfold rangeK places
  rw [show ((many : Int) + 1 - 1).toNat = many by omega, List.map_map]
  rfl
theorem rgOk_small {i j : Int} (h : -1000 < i ∧ i < 1000 ∧ -1000 < j ∧ j < 1000) : RgOk i j := by
  unfold RgOk
  omega
theorem ea_emp {tz : L2.TS} {D : Ends} {Γ : List Sl} {i j l : Nat} (E0 : Env K H σ Γ) (c : ∀ lf ld σ1 H1, H lf = none → H ld = none → lf ≠ ld → Same H H1 → H1 lf = some (.lst []) → H1 ld = some (.lst []) → Env K H1 σ1 (((Γ.set i (.v (.ref lf))).set j (.v (.ref ld))).set l (.d (.num 0))) → tz D σ1 H1) :
    tSeq (tPar3 i j l (tCons (tLst tNil) (tCons (tLst tNil) (tCons (tC (.int 0)) tNil)))) tz D σ H := by
  refine ⟨Nat.zero_le _, fun lf hf => ?_⟩
  refine ⟨Nat.zero_le _, fun ld hd => ?_⟩
  have ne : lf ≠ ld := fun e => by rw [← e, upd_same] at hd; cases hd
  have hd' : H ld = none := by rw [← hd, upd_ne (Ne.symm ne)]
  have s1 : Same H (upd (upd H lf (.lst [])) ld (.lst [])) := (same_new hf).trans (same_new hd)
  exact ⟨_, _, _, rfl, c lf ld _ _ hf hd' ne s1 (by rw [upd_ne ne, upd_same]) upd_same ((((E0.ts (Same.ts s1)).setV _ i).setV _ j).setD (.int 0) l)⟩
abbrev RsEnv (p : Int) (many size : Nat) (rs : List Row) (things coins : List Int) (lf ld : Addr) (pos : Nat) (tl : List Sl) : List Sl :=
  [.d (.num p), .d (.num (many : Int)), .d (.num (size : Int)), .d (sheetK rs), .d (tupI things), .d (tupI coins), .v (.ref lf), .v (.ref ld), .d (.num (pos : Int)), .d (tupI (weightsP p (places many)))] ++ tl
theorem ok_run_shared (T : Gs K mg) (C_weights_for : Cal P w K mg base "weights_for" 2 ["p", "places"] (spWeightsFor K)) (C_deal : Cal P w K mg base "deal" 2 ["p", "many", "secret", "coins"] (spDeal K))
    (d : Def K mg "run_shared" sRunShared ["p", "many", "size", "sheet", "things", "coins"]) : FnOk P w K mg base CX0 3 d.f d.fd ["p", "many", "size", "sheet", "things", "coins"] (spRunShared K) := by
  refine d.F.ok scRunShared (fun vs H Q E h => ?_) (fun cdv A outer s H vs Q E hr h => ?_)
  · obtain ⟨p, m, sz, rs, ns, cs, h, _⟩ := h
    have e := plen h
    exact e
  · obtain ⟨p, many, size, rs, things, coins, h, hp, hm, hm2, hz1, hz2, hs, hl, hc, q⟩ := h
    have E0 := env_start (N := nRunShared) h
    have hpl := hp.lt
    have hu := room_hu hr
    refine ⟨_, pss_cons (ps_par3 (i := 6) (j := 7) (l := 8) (by rfl) scRunShared.nd rfl rfl rfl (by decide) (by decide) (by decide) rfl rfl rfl (pa_cons (pe_lst pa_nil) (pa_cons (pe_lst pa_nil) (pa_cons pe_int pa_nil))) (by rfl))
      (pss_cons (ps_set (i := 9) scRunShared.nd rfl (.inr rfl) (pe_cal C_weights_for (hr.mono (by decide)) (by rfl) (pa_cons (pv 0) (pa_cons (pe_listRg (by rfl) (by rfl) T.z_list (prg_2 (by rfl) T.z_range pe_int (pe_op op_add (pv 1) pe_int))) pa_nil))))
      (pss_cons (ps_for PassesOwn.never rfl (pi_tup (pv 3)) (pg_name (i := 10) scRunShared.nd rfl (.inl rfl)) (pss_cons (ps_if (pt_cmpR op_eq (pe_ix ix_tup (pv 10) pe_int (fun _ _ => rfl)) pe_str (nomark _)) (pss_cons (ps_set (i := 11) scRunShared.nd rfl (.inl rfl) (pe_cal C_deal (hr.mono (by decide)) (by rfl) (pa_cons (pv 0) (pa_cons (pv 1) (pa_cons (pe_ix ix_tup (pv 4) (pe_ix ix_tup (pv 10) pe_int (fun _ _ => rfl)) (fun _ _ => rfl)) (pa_cons (pe_slice sl_tupA (pv 5) (po_some (pv 8)) (po_some (pe_op op_add (pv 8) (pv 2)))) pa_nil))))))
      (pss_cons (ps_aug (i := 8) scRunShared.nd rfl (.inl rfl) (pv 2) ip_add)
      (pss_one (ps_expr (pe_bm PySem.F.plainAttrs_list PySem.F.slot_list_append PySem.F.type_list_append mt_append (pv 7) (pa_cons (pe_tup (pa_cons (pv 11) pa_nil)) pa_nil)))))) (pss_one (ps_if (pt_cmpR op_eq (pe_ix ix_tup (pv 10) pe_int (fun _ _ => rfl)) pe_str (nomark _)) (pss_one (ps_set (i := 11) scRunShared.nd rfl (.inl rfl) (pe_op op_repT (pe_tup (pa_cons (pe_op op_mod (pe_ix ix_tup (pv 10) pe_int (fun _ _ => rfl)) (pv 0)) pa_nil)) (pv 1)))) (pss_one (ps_if (pt_cmpR op_eq (pe_ix ix_tup (pv 10) pe_int (fun _ _ => rfl)) pe_str (nomark _)) (pss_one (ps_set (i := 11) scRunShared.nd rfl (.inl rfl) (pe_callTy call_tuple_of (by rfl) T.z_tuple (by decide +kernel) (pa_cons (pe_lc (own := [("one", 12), ("other", 13)]) rfl scRunShared.nd (pi_zipB true true (by rfl) T.z_zip (pa_cons (pe_ix ix_list (pv 6) (pe_ix ix_tup (pv 10) pe_int (fun _ _ => rfl)) (fun _ _ => rfl)) (pa_cons (pe_ix ix_list (pv 6) (pe_ix ix_tup (pv 10) pe_int (fun _ _ => rfl)) (fun _ _ => rfl)) pa_nil))) (blkOk_by (by kernel_rfl)) (fun _ _ _ _ _ => pg_tupK (K := K) (n := 2) rfl rfl (pgs_cons (pg_name (i := 12) scRunShared.nd rfl (.inl rfl) (.inr rfl)) (pgs_cons (pg_name (i := 13) scRunShared.nd rfl (.inl rfl) (.inr rfl)) pgs_nil))) (fun _ _ _ _ _ => pts_nil) (fun _ _ _ _ _ => pe_op op_mod (pe_op op_add (pv 12) (pv 13)) (pv 0))) pa_nil)))) (pss_cons (ps_set (i := 14) scRunShared.nd rfl (.inr rfl) (pe_lst pa_nil))
      (pss_cons (ps_for PassesOwn.never rfl (pi_range1 (by rfl) T.z_range (pa_cons (pv 1) pa_nil)) (pg_name (i := 15) scRunShared.nd rfl (.inl rfl)) (pss_cons (ps_set (i := 16) scRunShared.nd rfl (.inl rfl) (pe_op op_mod (pe_op op_mul (pe_ix ix_tup (pe_ix ix_list (pv 6) (pe_ix ix_tup (pv 10) pe_int (fun _ _ => rfl)) (fun _ _ => rfl)) (pv 15) (fun _ _ => rfl)) (pe_ix ix_tup (pe_ix ix_list (pv 6) (pe_ix ix_tup (pv 10) pe_int (fun _ _ => rfl)) (fun _ _ => rfl)) (pv 15) (fun _ _ => rfl))) (pv 0)))
      (pss_cons (ps_expr (pe_bm PySem.F.plainAttrs_list PySem.F.slot_list_append PySem.F.type_list_append mt_append (pv 14) (pa_cons (pe_cal C_deal (hr.mono (by decide)) (by rfl) (pa_cons (pv 0) (pa_cons (pv 1) (pa_cons (pv 16) (pa_cons (pe_slice sl_tupA (pv 5) (po_some (pv 8)) (po_some (pe_op op_add (pv 8) (pv 2)))) pa_nil))))) pa_nil)))
      (pss_one (ps_aug (i := 8) scRunShared.nd rfl (.inl rfl) (pv 2) ip_add)))))
      (pss_cons (ps_expr (pe_bm PySem.F.plainAttrs_list PySem.F.slot_list_append PySem.F.type_list_append mt_append (pv 7) (pa_cons (pe_callTy call_tuple_of (by rfl) T.z_tuple (by decide +kernel) (pa_cons (pv 14) pa_nil)) pa_nil)))
      (pss_one (ps_set (i := 11) scRunShared.nd rfl (.inl rfl) (pe_callTy call_tuple_of (by rfl) T.z_tuple (by decide +kernel) (pa_cons (pe_lc (own := [("person", 15)]) rfl scRunShared.nd (pi_range1 (by rfl) T.z_range (pa_cons (pv 1) pa_nil)) (blkOk_by (by kernel_rfl)) (fun _ _ _ _ _ => pg_name (i := 15) scRunShared.nd rfl (.inr rfl) (.inl rfl)) (fun _ _ _ _ _ => pts_nil) (fun _ _ _ _ _ => pe_op op_mod (pe_callB (cr_sumK (K := K) rfl rfl) (by rfl) T.z_sum (by decide +kernel) (pa_cons (pe_lc (own := [("weight", 17), ("one", 12)]) rfl scRunShared.nd (pi_zipBK (K := K) true false rfl (by rfl) T.z_zip (pa_cons (pv 9) (pa_cons (pv 14) pa_nil))) (blkOk_by (by kernel_rfl)) (fun _ _ _ _ _ => pg_tupK (K := K) (n := 2) rfl rfl (pgs_cons (pg_name (i := 17) scRunShared.nd rfl (.inl rfl) (.inr rfl)) (pgs_cons (pg_name (i := 12) scRunShared.nd rfl (.inl rfl) (.inr rfl)) pgs_nil))) (fun _ _ _ _ _ => pts_nil) (fun _ _ _ _ _ => pe_op op_mul (pv 17) (pe_ix (ix_tupK (K := K) rfl) (pv 12) (pv 15) (fun _ _ => rfl)))) pa_nil)) (pv 0))) pa_nil))))))))))))
      (pss_one (ps_expr (pe_bm PySem.F.plainAttrs_list PySem.F.slot_list_append PySem.F.type_list_append mt_append (pv 6) (pa_cons (pv 11) pa_nil))))))
      (pss_one (ps_ret (pe_tup (pa_cons (pe_ix ix_list (pv 6) (pe_un un_neg pe_int) (fun _ _ => rfl)) (pa_cons (pe_callTy call_tuple_of (by rfl) T.z_tuple (by decide +kernel) (pa_cons (pv 7) pa_nil)) pa_nil))))))), ?_⟩
    refine ea_emp E0 fun lf ld σ1 H1 nf nd ne s1 ef ed E1 => ?_
    refine q_setD E1 (k := tupI (weightsP p (places many))) (er_callP (eap_consD (ed_var E1 rfl) (eap_consL (ks := (places many).map .num) (rangeK_places many ▸ el_listRg2 (i := 1) (j := (many : Int) + 1) ed_int (ed_I0 (ed_var E1 rfl) ed_int rfl) (rgOk_small (by omega))) eap_nil)) fun vs H2 Q s2 hvs q => ?_) fun σ2 H2 s2 E2 => ?_
    · obtain ⟨v, r, rfl, nv, a, xs, r', rfl, ea, na, rfl⟩ := hvs
      refine ⟨p, places many, v, a, xs, rfl, nv, ea, na, by omega, by omega, fun x hx => ?_, ?_, fun v H' s' n' => q v H' s' n'⟩
      · unfold places at hx
        obtain ⟨i, hi, rfl⟩ := List.mem_map.mp hx
        have := List.mem_range.mp hi
        omega
      · unfold places; rw [List.length_map, List.length_range]; omega
    have E2 : Env K H2 σ2 (RsEnv p many size rs things coins lf ld 0 [.u, .u, .u, .u, .u, .u, .u, .u]) := E2
    have ef2 := s2 _ _ ef
    have ed2 := s2 _ _ ed
    have hML : MutL [lf, ld] H2 := .cons ef2 (MutL.one ed2)
    have s02 : Same H H2 := s1.trans s2
    refine q_for (L := [lf, ld]) (ks := rs.map rowK) (ew_tup (es_tup (ed_var E2 rfl))) hML (fun _ h => nomatch h)
      (fun i σ' H' => Env K H' σ' (RsEnv p many size rs things coins lf ld (rsAll p many size (rs.take i) things coins).pos [.u, .u, .u, .u, .u, .u, .u, .u]) ∧ ∃ wf wd, H' lf = some (.lst wf) ∧ NkAll K H' wf ((rsAll p many size (rs.take i) things coins).found.map tupI) ∧ H' ld = some (.lst wd) ∧ NkAll K H' wd ((rsAll p many size (rs.take i) things coins).dealt.map linesK))
      (fun H3 s3 => ⟨E2.ts (Same.ts s3), [], [], s3 _ _ ef2, .nil, s3 _ _ ed2, .nil⟩) (fun i k σ3 H3 hk kp ⟨E3, wf, wd, e3f, n3f, e3d, n3d⟩ x H4 s4 nx => ?_) (fun σ3 H3 kp ⟨E3, wf, wd, e3f, n3f, e3d, n3d⟩ => ?_)
    · rw [List.getElem?_map] at hk
      obtain ⟨r, hri, rfl⟩ := Option.map_eq_some_iff.mp hk
      have ro := hs.2.2 i r hri
      have hi : i < rs.length := (List.getElem?_eq_some_iff.mp hri).1
      have hi8 := hs.2.1
      have E4 := (E3.ts (Same.ts s4)).setD nx 10
      obtain ⟨hgood, hflen⟩ := rsAll_good (size := size) (things := things) (coins := coins) (p := p) (by omega) hs.2.2 i (Nat.le_of_lt hi)
      have hstep : rsAll p many size (rs.take (i + 1)) things coins = rsStep p many size things coins (rsAll p many size (rs.take i) things coins) r := foldl_take hri
      rw [hstep]
      have hdl : (rsAll p many size (rs.take i) things coins).dealt.length ≤ i := by
        have := rsAll_dealt (p := p) (many := many) (size := size) (things := things) (coins := coins) (rs.take i) ⟨[], [], 0⟩
        rw [List.length_take, List.length_nil] at this
        unfold rsAll; omega
      generalize rsAll p many size (rs.take i) things coins = S at *
      have lwd : wd.length < 100000 := by rw [plen n3d, List.length_map]; omega
      have e4f := s4 _ _ e3f
      have e4d := s4 _ _ e3d
      have n4f := nkAll_mono n3f (Same.ts (K := K) s4)
      have n4d := nkAll_mono n3d (Same.ts (K := K) s4)
      have lwf : wf.length < 100000 := by rw [plen n3f, List.length_map, hflen]; omega
      have E4 : Env K H4 (σ3.set 10 (some x)) (RsEnv p many size rs things coins lf ld S.pos [.d (rowK r), .u, .u, .u, .u, .u, .u, .u]) := E4
      have fin : ∀ {σ : L2.St} {H8 : Hp} {D : Ends} {sh : List Int} {pos' : Nat} {wd' : List V} {dl : List (List (List Int))} {z1 z2 z3 z4 z5 z6 : Sl}, KeepL [lf, ld] H4 H8 → TSt K H4 H8 → Env K H8 σ (RsEnv p many size rs things coins lf ld pos' [.d (rowK r), .d (tupI sh), z1, z2, z3, z4, z5, z6]) → H8 lf = some (.lst wf) → H8 ld = some (.lst wd') → NkAll K H8 wd' (dl.map linesK) → rsStep p many size things coins S r = ⟨S.found ++ [sh], dl, pos'⟩ →
          (∀ σ' H', KeepL [lf, ld] H3 H' ∧ (Env K H' σ' (RsEnv p many size rs things coins lf ld (rsStep p many size things coins S r).pos [.u, .u, .u, .u, .u, .u, .u, .u]) ∧ ∃ wf wd, H' lf = some (.lst wf) ∧ NkAll K H' wf ((rsStep p many size things coins S r).found.map tupI) ∧ H' ld = some (.lst wd) ∧ NkAll K H' wd ((rsStep p many size things coins S r).dealt.map linesK)) → D.nx σ' H') →
          tDrop (tBM K "list" rAppend (tVar 6) (tCons (tVar 11) tNil)) D σ H8 := fun {σ H8 D sh pos' wd' dl z1 z2 z3 z4 z5 z6} kp8 t8 E8 e8f e8d n8d eqS c =>
        s_app e8f (nkAll_mono n4f t8) (ev_var E8 rfl) (ed_var E8 rfl) lwf fun ws' H9 kp9 ts9 e9 n9 => c σ H9 (by
          rw [eqS]
          refine ⟨((Same.keepL s4).trans kp8).trans (kp9.mono (fun b hb => by rw [List.mem_singleton.mp hb]; exact List.mem_cons_self ..)), (((((((E8.ts ts9).frg 10).frg 11).frg 12).frg 13).frg 14).frg 15 |>.frg 16 |>.frg 17), ws', wd', e9, ?_, kp9 ld _ (by simpa using ne.symm) e8d, nkAll_mono n8d ts9⟩
          rw [List.map_append]; exact n9)
      cases r with
      | own a =>
        refine q_ifT (et_key (s := "own") (b := true) (ed_var E4 rfl) ⟨_, rfl⟩ (by decide)) fun H5 s5 => ?_
        have E5 := E4.ts (Same.ts (K := K) s5)
        refine q_setD E5 (k := tupI (dealP p many (things.getD a 0) (cut coins S.pos size))) (ed_deal (ed_var E5 rfl) (ed_var E5 rfl) (ed_ixT (ed_var E5 rfl) (ed_ixT (ed_var E5 rfl) ed_int (j := 1) rfl rfl) (j := a) rfl (get_getD (by rw [hl]; exact ro))) (ed_cut (ed_var E5 rfl) (ed_var E5 rfl) (ed_I0 (ed_var E5 rfl) (ed_var E5 rfl) rfl)) (by omega) (by omega) (by have := cut_len coins S.pos size; omega)) fun σ6 H6 s6 E6 => ?_
        refine q_augD E6 rfl (ed_var E6 rfl) fun σ7 H7 s7 E7 => ?_
        have s47 := (s5.trans s6).trans s7
        refine s_app (s47 _ _ e4d) (nkAll_mono n4d (Same.ts s47)) (ev_var E7 rfl) (k := linesK [dealP p many (things.getD a 0) (cut coins S.pos size)]) (ed_tup (ea_cons (ed_var E7 rfl) ea_nil) tiny1) lwd fun ws8 H8 kp8 t8 e8 n8 => ?_
        exact fin (sh := dealP p many (things.getD a 0) (cut coins S.pos size)) (pos' := S.pos + size) (dl := S.dealt ++ [[dealP p many (things.getD a 0) (cut coins S.pos size)]]) ((Same.keepL s47).trans (kp8.mono (fun b hb => by rw [List.mem_singleton.mp hb]; simp))) ((Same.ts s47).trans t8) (E7.ts t8) (kp8 lf _ (by simpa using ne) (s47 _ _ e4f)) e8 (by rw [List.map_append]; exact n8) rfl (fun σ' H' h => h)
      | number n =>
        refine q_ifF (et_key (s := "number") (b := false) (ed_var E4 rfl) ⟨_, rfl⟩ (by decide)) fun H5 s5 => ?_
        have E5 := E4.ts (Same.ts (K := K) s5)
        refine s_ifT (et_key (s := "number") (b := true) (ed_var E5 rfl) ⟨_, rfl⟩ (by decide)) fun H6 s6 => ?_
        have E6 := E5.ts (Same.ts (K := K) s6)
        refine s_setD E6 (k := tupI (List.replicate many ((n : Int) % p))) (ed_to (ed_repT (ed_tup (ea_cons (ed_I (ed_ixT (ed_var E6 rfl) ed_int (j := 1) rfl rfl) (ed_var E6 rfl) (by show (0 : Int) < p; omega) rfl) ea_nil) tiny1) (ed_var E6 rfl) (by simp) (by omega) (by omega) (Nat.le_of_ble_eq_true rfl)) (rep_tupI _ _)) fun σ7 H7 s7 E7 => ?_
        have s47 := (s5.trans s6).trans s7
        exact fin (sh := List.replicate many ((n : Int) % p)) (pos' := S.pos) (dl := S.dealt) (Same.keepL s47) (Same.ts s47) E7 (s47 _ _ e4f) (s47 _ _ e4d) (nkAll_mono n4d (Same.ts s47)) rfl (fun σ' H' h => h)
      | sum a b =>
        refine q_ifF (et_key (s := "sum") (b := false) (ed_var E4 rfl) ⟨_, rfl⟩ (by decide)) fun H5 s5 => ?_
        have E5 := E4.ts (Same.ts (K := K) s5)
        refine s_ifF (et_key (s := "sum") (b := false) (ed_var E5 rfl) ⟨_, rfl⟩ (by decide)) fun H6 s6 => ?_
        have E6 := E5.ts (Same.ts (K := K) s6)
        refine s_ifT (et_key (s := "sum") (b := true) (ed_var E6 rfl) ⟨_, rfl⟩ (by decide)) fun H7 s7 => ?_
        have E7 := E6.ts (Same.ts (K := K) s7)
        have s47 := (s5.trans s6).trans s7
        have e7f := s47 _ _ e4f
        have n7f := nkAll_mono n4f (Same.ts (K := K) s47)
        have ra := (hgood.getD (a := a) (by rw [hflen]; exact ro.1)).1
        have rb := (hgood.getD (a := b) (by rw [hflen]; exact ro.2)).1
        refine s_setD E7 (k := tupI (List.zipWith (fun x y => (x + y) % p) (S.found.getD a []) (S.found.getD b []))) (ed_to (ed_tupleL (fun p ys H Q h q => ⟨p, ys, rfl, .inl ⟨h, q⟩⟩) (el_lc2 nk_ts (ew_zip (es_tup (ks := (S.found.getD a []).map .num) (ed_ixL (.inl (.inl e7f)) n7f (ev_var E7 rfl) (ed_ixT (ed_var E7 rfl) ed_int (j := 1) rfl rfl) (j := a) rfl (get_getDT (by rw [hflen]; exact ro.1)))) (es_tup (ks := (S.found.getD b []).map .num) (ed_ixL (.inl (.inl e7f)) n7f (ev_var E7 rfl) (ed_ixT (ed_var E7 rfl) ed_int (j := 2) rfl rfl) (j := b) rfl (get_getDT (by rw [hflen]; exact ro.2))))) E7 ?_ (by decide) (by decide) zip_pairs (addK p) fun x1 y1 σ' H' hk s' E' => ?_)) ?_) fun σ8 H8 s8 E8 => ?_
        · rw [zipK, List.length_zipWith, List.length_map, List.length_map, ra, rb]; omega
        · obtain ⟨x, y, _, _, rfl, rfl⟩ := zipK_mem hk
          exact ed_I (ed_I0 (ed_var E' rfl) (ed_var E' rfl) rfl) (ed_var E' rfl) (by show (0 : Int) < p; omega) rfl
        · unfold tupI
          rw [zipK_map (h := fun x y => NestedKey.num ((x + y) % p)) (fun x y => rfl), List.map_zipWith]
        · have s48 := s47.trans s8
          exact fin (sh := List.zipWith (fun x y => (x + y) % p) (S.found.getD a []) (S.found.getD b [])) (pos' := S.pos) (dl := S.dealt) (Same.keepL s48) (Same.ts s48) ((E8.frg 12).frg 13) (s48 _ _ e4f) (s48 _ _ e4d) (nkAll_mono n4d (Same.ts s48)) rfl (fun σ' H' h => h)
      | times a b =>
        refine q_ifF (et_key (s := "times") (b := false) (ed_var E4 rfl) ⟨_, rfl⟩ (by decide)) fun H5 s5 => ?_
        have E5 := E4.ts (Same.ts (K := K) s5)
        refine s_ifF (et_key (s := "times") (b := false) (ed_var E5 rfl) ⟨_, rfl⟩ (by decide)) fun H6 s6 => ?_
        have E6 := E5.ts (Same.ts (K := K) s6)
        refine s_ifF (et_key (s := "times") (b := false) (ed_var E6 rfl) ⟨_, rfl⟩ (by decide)) fun H7 s7 => ?_
        have E7 := E6.ts (Same.ts (K := K) s7)
        have s47 := (s5.trans s6).trans s7
        have e7f := s47 _ _ e4f
        have e7d := s47 _ _ e4d
        have n7f := nkAll_mono n4f (Same.ts (K := K) s47)
        have n7d := nkAll_mono n4d (Same.ts (K := K) s47)
        have ra := hgood.getD (a := a) (by rw [hflen]; exact ro.1)
        have rb := hgood.getD (a := b) (by rw [hflen]; exact ro.2)
        have ga := get_getDT (ns := S.found) (i := a) (by rw [hflen]; exact ro.1)
        have gb := get_getDT (ns := S.found) (i := b) (by rw [hflen]; exact ro.2)
        have hst : rsStep p many size things coins S (.times a b) = ⟨S.found ++ [mixP p many (weightsP p (places many)) (timesSome p many size coins (S.found.getD a []) (S.found.getD b []) S.pos)], S.dealt ++ [timesSome p many size coins (S.found.getD a []) (S.found.getD b []) S.pos], S.pos + many * size⟩ := rfl
        generalize S.found.getD a [] = fa at *
        generalize S.found.getD b [] = fb at *
        refine q_setL E7 (el_lst ea_nil (Nat.zero_le _)) fun l ws σ8 H8 hl0 s8 el nl E8 => ?_
        cases nl
        have nlf : lf ≠ l := ne_of_none e7f hl0
        have nld : ld ≠ l := ne_of_none e7d hl0
        have e8f := s8 _ _ e7f
        have n8f := nkAll_mono n7f (Same.ts (K := K) s8)
        have hts := timesSome_len p many size coins fa fb S.pos
        have E8 : Env K H8 σ8 (RsEnv p many size rs things coins lf ld (S.pos + 0 * size) [.d (rowK (.times a b)), .u, .u, .u, .v (.ref l), .u, .u, .u]) := by
          rw [show S.pos + 0 * size = S.pos by omega]
          exact E8
        refine q_for (L := [l]) (ks := rangeK 0 many) (ew_range1 (n := (many : Int)) (ea_cons (ed_var E8 rfl) ea_nil) (by omega) (by omega)) (MutL.one el) (fun _ h => nomatch h)
          (fun j σ' H' => Env K H' σ' (RsEnv p many size rs things coins lf ld (S.pos + j * size) [.d (rowK (.times a b)), .u, .u, .u, .v (.ref l), .u, .u, .u]) ∧ ∃ ws, H' l = some (.lst ws) ∧ NkAll K H' ws (((timesSome p many size coins fa fb S.pos).take j).map tupI))
          (fun H9 s9 => ⟨E8.ts (Same.ts s9), [], s9 _ _ el, .nil⟩) (fun j k σ9 H9 hk kp9 ⟨E9, ws, e9, n9⟩ x H10 s10 nx => ?_) (fun σ9 H9 kp9 ⟨E9, ws, e9, n9⟩ => ?_)
        · have hj : j < many := by
            have h := (List.getElem?_eq_some_iff.mp hk).1
            rw [rangeK_len] at h; exact h
          rw [rangeK_get hj, Int.zero_add] at hk
          cases hk
          have t8 : TSt K H8 H10 := (kp9.ts (MutL.one el)).trans (Same.ts s10)
          have E10 := (E9.ts (Same.ts s10)).setD nx 15
          have e10f : H10 lf = some (.lst wf) := s10 _ _ (kp9 lf _ (by simpa using nlf) e8f)
          have n10f := nkAll_mono n8f t8
          have e10 := s10 _ _ e9
          have n10 := nkAll_mono n9 (Same.ts (K := K) s10)
          have gj := getD_in (by omega) rb.2 j
          refine q_setD E10 (k := .num (fa.getD j 0 * fb.getD j 0 % p)) (ed_I (ed_I (ed_ixT (ks := fa.map .num) (ed_ixL (.inl (.inl e10f)) n10f (ev_var E10 rfl) (ed_ixT (ed_var E10 rfl) ed_int (j := 1) rfl rfl) (j := a) rfl ga) (ed_var E10 rfl) (j := j) rfl (get_getD (by rw [ra.1]; exact hj))) (ed_ixT (ks := fb.map .num) (ed_ixL (.inl (.inl e10f)) n10f (ev_var E10 rfl) (ed_ixT (ed_var E10 rfl) ed_int (j := 2) rfl rfl) (j := b) rfl gb) (ed_var E10 rfl) (j := j) rfl (get_getD (by rw [rb.1]; exact hj))) (cmulR (by omega) (by omega)) rfl) (ed_var E10 rfl) (by show (0 : Int) < p; omega) rfl) fun σ11 H11 s11 E11 => ?_
          refine q_app (s11 _ _ e10) (nkAll_mono n10 (Same.ts s11)) (ev_var E11 rfl) (k := tupI (dealP p many (fa.getD j 0 * fb.getD j 0 % p) (cut coins (S.pos + j * size) size))) (ed_deal (ed_var E11 rfl) (ed_var E11 rfl) (ed_var E11 rfl) (ed_cut (ed_var E11 rfl) (ed_var E11 rfl) (ed_I0 (ed_var E11 rfl) (ed_var E11 rfl) rfl)) (by omega) (by omega) (by have := cut_len coins (S.pos + j * size) size; omega)) ?_ fun ws12 H12 kp12 t12 e12 n12 => ?_
          · rw [plen n10, List.length_map, List.length_take]; omega
          · have E12 := E11.ts t12
            refine s_augD E12 rfl (ed_var E12 rfl) fun σ13 H13 s13 E13 => ⟨((Same.keepL (s10.trans s11)).trans kp12).trans (Same.keepL s13), ?_, ws12, s13 _ _ e12, ?_⟩
            · rw [show S.pos + (j + 1) * size = S.pos + j * size + size by rw [Nat.succ_mul]; omega]
              exact (E13.frg 15).frg 16
            · rw [timesSome_take hj, List.map_append]
              exact nkAll_mono n12 (Same.ts s13)
        · rw [rangeK_len] at E9 n9
          rw [List.take_of_length_le (by rw [hts]; exact Nat.le_refl _)] at n9
          have t89 : TSt K H8 H9 := kp9.ts (MutL.one el)
          have t49 : TSt K H4 H9 := (Same.ts (s47.trans s8)).trans t89
          have hin : ∀ one ∈ timesSome p many size coins fa fb S.pos, one.length = many ∧ inP p one := fun one ho => by
            unfold timesSome at ho
            obtain ⟨j, _, rfl⟩ := List.mem_map.mp ho
            exact ⟨dealP_len _ _ _ _, dealP_in (by omega) _ _ _⟩
          generalize timesSome p many size coins fa fb S.pos = sm at *
          have e9f : H9 lf = some (.lst wf) := kp9 lf _ (by simpa using nlf) e8f
          have e9d : H9 ld = some (.lst wd) := kp9 ld _ (by simpa using nld) (s8 _ _ e7d)
          refine q_app e9d (nkAll_mono n4d t49) (ev_var E9 rfl) (k := linesK sm) (ed_tupleV (fun p ys H Q h q => ⟨p, ys, rfl, .inl ⟨h, q⟩⟩) (.inl (.inl e9)) n9 (ev_var E9 rfl)) lwd fun ws10 H10 kp10 t10 e10 n10 => ?_
          have E10 := E9.ts t10
          have e10l : H10 l = some (.lst ws) := kp10 l _ (by simpa using nld.symm) e9
          have n10l := nkAll_mono n9 t10
          refine s_setD E10 (k := tupI (mixP p many (weightsP p (places many)) sm)) (ed_to (ed_tupleL (fun p ys H Q h q => ⟨p, ys, rfl, .inl ⟨h, q⟩⟩) (el_lc1 nk_ts (ew_range1 (n := (many : Int)) (ea_cons (ed_var E10 rfl) ea_nil) (by omega) (by omega)) E10 (by rw [rangeK_len]; omega) (by decide) (mixK p (weightsP p (places many)) sm) fun k σ' H' hk s' E' => ?_)) (mixK_eq _ _ _ _)) fun σ11 H11 s11 E11 => ?_
          · obtain ⟨i, hi, rfl⟩ := List.mem_map.mp hk
            have hi := List.mem_range.mp hi
            have hiN : (0 + (i : Int)).toNat = i := by omega
            refine ed_I (ed_sum (ns := List.zipWith (fun (w : Int) (one : List Int) => w * one.getD (0 + (i : Int)).toNat 0) (weightsP p (places many)) sm) (fun a bs H Q h q => ⟨a, bs, rfl, h, q⟩) ?_) (ed_var E' rfl) (by show (0 : Int) < p; omega) rfl
            have ez : (zipK ((weightsP p (places many)).map .num) (sm.map tupI)).map (mulK (0 + (i : Int)).toNat) = (List.zipWith (fun (w : Int) (one : List Int) => w * one.getD (0 + (i : Int)).toNat 0) (weightsP p (places many)) sm).map NestedKey.num := by
              rw [zipK_map (h := fun (w : Int) (one : List Int) => NestedKey.num (w * one.getD (0 + (i : Int)).toNat 0)) (fun x y => by show NestedKey.num (x * numK ((y.map NestedKey.num).getD _ .none)) = _; rw [numK_get]), List.map_zipWith]
            rw [← ez]
            refine el_lc2 nk_ts (ew_zip (es_tup (ks := (weightsP p (places many)).map .num) (ed_var E' rfl)) (es_list (.inl (.inl (s' _ _ e10l))) (nkAll_mono n10l (Same.ts s')) (ev_var E' rfl))) E' ?_ (by decide) (by decide) zip_pairs (mulK (0 + (i : Int)).toNat) fun x1 y1 σ2' H2' hk2 s2' E2' => ?_
            · rw [zipK, List.length_zipWith, List.length_map, List.length_map, hts]; omega
            · obtain ⟨x, y, _, hy, rfl, rfl⟩ := zipK_mem hk2
              have hyy := hin y hy
              have hg := getD_in (by omega) hyy.2 (0 + (i : Int)).toNat
              refine ed_to (ed_I (ed_var E2' rfl) (ed_ixT (ks := y.map .num) (ed_var E2' rfl) (ed_var E2' rfl) (j := (0 + (i : Int)).toNat) (by omega) (get_getD (by rw [hyy.1]; omega))) (cmulR (by omega) (by omega)) rfl) (l := .num (x * numK ((y.map NestedKey.num).getD (0 + (i : Int)).toNat .none))) ?_
              rw [numK_get]
          · have kp4 : KeepL [lf, ld] H4 H9 := KeepL.mono (L := []) (Same.keepL (KeepL.back (H := H8) (s47.trans s8) (L := [l]) (fun b hb => by rw [List.mem_singleton.mp hb]; exact s47.free hl0) kp9)) (fun _ h => nomatch h)
            exact fin (sh := mixP p many (weightsP p (places many)) sm) (pos' := S.pos + many * size) (dl := S.dealt ++ [sm]) ((kp4.trans (kp10.mono (fun b hb => by rw [List.mem_singleton.mp hb]; simp))).trans (Same.keepL s11)) ((t49.trans t10).trans (Same.ts s11)) ((((E11.frg 12).frg 15).frg 17)) (s11 _ _ (kp10 lf _ (by simpa using ne) e9f)) (s11 _ _ e10) (by rw [List.map_append]; exact nkAll_mono n10 (Same.ts s11)) hst (fun σ' H' h => h)
    · rw [List.length_map, List.take_length] at E3 n3f n3d
      have hne : (rsAll p many size rs things coins).found ≠ [] := fun z => by
        have h9 := (rsAll_good (size := size) (things := things) (coins := coins) (p := p) (by omega) hs.2.2 rs.length (Nat.le_refl _)).2
        rw [List.take_length, z] at h9
        have := List.length_pos_iff.mpr hs.1
        simp at h9; omega
      rw [last_map (d := []) hne] at n3f
      have hb : Same H H3 := KeepL.back s02 (fun b hb => by rcases List.mem_cons.mp hb with e | hb
                                                            · rw [e]; exact nf
                                                            · rw [List.mem_singleton.mp hb]; exact nd) kp
      exact s_retD (ed_tup (ea_cons (ed_lastL (.inl (.inl e3f)) n3f (ev_var E3 rfl) (ed_neg ed_int rfl) rfl) (ea_cons (ed_tupleV (fun p ys H Q h q => ⟨p, ys, rfl, .inl ⟨h, q⟩⟩) (.inl (.inl e3d)) n3d (ev_var E3 rfl)) ea_nil)) tiny2) fun v H7 s7 n => q v H7 (hb.trans s7) n
end
end NM
namespace NM
open PySem PySem.Spec PyProof.Rows L2
section
variable {P : Program} {w : World} {K : PySem.W.Frag} {mg : Str → Option Value} {base : Heap}
/-! ### need_run -/
abbrev sNeedRun : Stmt := topS 39
abbrev nNeedRun : List Str := ["p", "many", "size", "sheet", "things"]
theorem scNeedRun : FnScope ["p", "many", "size", "sheet", "things"] ["p", "many", "size", "sheet", "things"] (defScope sNeedRun) := ⟨rfl, rfl, rfl, by decide +kernel, rfl, by decide +kernel, by decide +kernel⟩
def spNeedRun (K : PySem.W.Frag) : Sp := fun vs H Q _ => ∃ (p : Int) (many size : Nat) (rs : List Row) (things : List Int), NkAll K H vs [.num p, .num (many : Int), .num (size : Int), sheetK rs, tupI things] ∧ pIn p ∧ 2 ≤ many ∧ many ≤ 4 ∧ 1 ≤ size ∧ size ≤ 2 ∧ SheetOk many rs ∧ inP p things ∧ things.length = many ∧ RetV .non H Q
theorem ok_need_run (T : Gs K mg) (C_need_prime : Cal P w K mg base "need_prime" 2 ["value"] (spNeedPrime K)) (C_need_number : Cal P w K mg base "need_number" 2 ["value", "least", "most"] (spNeedNumber K)) (C_need_sheet : Cal P w K mg base "need_sheet" 3 ["many", "value"] (spNeedSheet K)) (C_need_things : Cal P w K mg base "need_things" 3 ["p", "many", "value"] (spNeedThings K))
    (d : Def K mg "need_run" sNeedRun ["p", "many", "size", "sheet", "things"]) : FnOk P w K mg base CX0 4 d.f d.fd ["p", "many", "size", "sheet", "things"] (spNeedRun K) := by
  refine d.F.ok scNeedRun (fun vs H Q E h => ?_) (fun cdv A outer s H vs Q E hr h => ?_)
  · obtain ⟨p, m, sz, rs, ns, h, _⟩ := h
    have e := plen h
    exact e
  · obtain ⟨p, many, size, rs, things, h, hp, hm, hm2, hz, hz2, hs, hn, hl, q⟩ := h
    have E0 := env_start (N := nNeedRun) h
    refine ⟨_, pss_cons (ps_expr (pe_cal C_need_prime (hr.mono (by decide)) (by rfl) (pa_cons (pv 0) pa_nil)))
      (pss_cons (ps_expr (pe_cal C_need_number (hr.mono (by decide)) (by rfl) (pa_cons (pv 1) (pa_cons (pe_gc rfl T.c_FEWEST) (pa_cons (pe_gc rfl T.c_MOST_SHARED) pa_nil)))))
      (pss_cons (ps_expr (pe_cal C_need_number (hr.mono (by decide)) (by rfl) (pa_cons (pv 2) (pa_cons pe_int (pa_cons (pe_gc rfl T.c_MOST_SIZE) pa_nil)))))
      (pss_cons (ps_expr (pe_cal C_need_sheet (hr.mono (by decide)) (by rfl) (pa_cons (pv 1) (pa_cons (pv 3) pa_nil))))
      (pss_one (ps_expr (pe_cal C_need_things (hr.mono (by decide)) (by rfl) (pa_cons (pv 0) (pa_cons (pv 1) (pa_cons (pv 4) pa_nil))))))))), ?_⟩
    refine q_drop (need_pr (ed_var E0 rfl) hp) fun H1 s1 => ?_
    have E1 := E0.ts (Same.ts (K := K) s1)
    refine q_drop (need_num (l := 2) (m := 4) (ed_var E1 rfl) ed_int ed_int (by omega) (by omega)) fun H2 s2 => ?_
    have E2 := E1.ts (Same.ts (K := K) s2)
    refine q_drop (need_num (l := 1) (m := 2) (ed_var E2 rfl) ed_int ed_int (by omega) (by omega)) fun H3 s3 => ?_
    have E3 := E2.ts (Same.ts (K := K) s3)
    refine q_drop (need_sh (ed_var E3 rfl) (ed_var E3 rfl) hs) fun H4 s4 => ?_
    have E4 := E3.ts (Same.ts (K := K) s4)
    exact s_drop (need_th (ed_var E4 rfl) (ed_var E4 rfl) (ed_var E4 rfl) hn hl (by omega)) fun H5 s5 => q H5 ((((s1.trans s2).trans s3).trans s4).trans s5)

/-! ### seen_of -/
abbrev sSeenOf : Stmt := topS 40
abbrev nSeenOf : List Str := ["row", "sheet_row", "lot", "givers", "found", "giver", "given", "at", "one"]
theorem scSeenOf : FnScope ["row", "sheet_row", "lot", "givers", "found", "giver", "given", "at", "one"] ["row", "sheet_row", "lot"] (defScope sSeenOf) := ⟨rfl, rfl, rfl, by decide +kernel, rfl, by decide +kernel, by decide +kernel⟩
theorem el_if {β : Type} {R : Hp → V → β → Prop} {σ : L2.St} {H : Hp} {t : TT} {ta tb : TE} {b : Bool} {cs : List β} (h : Et t σ H b) (h1 : b = true → EL R ta σ H cs) (h2 : b = false → EL R tb σ H cs) : EL R (tIf t ta tb) σ H cs := fun H1 s Q q => h H1 s _ fun H2 s2 => by
  cases b with
  | true => exact iteT (h1 rfl H2 (s.trans s2) Q fun p vs H3 hp s3 e n => q p vs H3 (fresh_back s2 hp) (s2.trans s3) e n)
  | false => exact iteF (h2 rfl H2 (s.trans s2) Q fun p vs H3 hp s3 e n => q p vs H3 (fresh_back s2 hp) (s2.trans s3) e n)
def isDeal : Row → Bool
  | .own _ => true
  | .times _ _ => true
  | _ => false
def giversOf (n : Nat) : Row → List Int
  | .own a => [(a : Int)]
  | _ => (List.range n).map fun (i : Nat) => (i : Int)
def cellK (lot : List Int) (g : Int) : NK → NK
  | .tup [.num i, .num x] => if (lot.contains g || lot.contains i) = true then .num x else .none
  | _ => .none
def seenLine (lot : List Int) (g : Int) (line : List Int) : NK := .tup ((enumK (line.map .num)).map (cellK lot g))
def seenRow (lot gs : List Int) (d : List (List Int)) : NK := .tup (List.zipWith (seenLine lot) gs d)
theorem zipK_get {α β : Type} {f : α → NK} {g : β → NK} {l : List α} {m : List β} {i : Nat} {k : NK} (h : (zipK (l.map f) (m.map g))[i]? = some k) : ∃ x y, l[i]? = some x ∧ m[i]? = some y ∧ k = pairK (f x) (g y) := by
  unfold zipK at h
  rw [List.getElem?_zipWith] at h
  split at h
  · rename_i x y h1 h2
    rw [List.getElem?_map] at h1 h2
    obtain ⟨a, ha, rfl⟩ := Option.map_eq_some_iff.mp h1
    obtain ⟨b, hb, rfl⟩ := Option.map_eq_some_iff.mp h2
    exact ⟨a, b, ha, hb, (Option.some.inj h).symm⟩
  · cases h
theorem zipWith_take {α β γ : Type} {h : α → β → γ} {l : List α} {m : List β} {i : Nat} {x : α} {y : β} (h1 : l[i]? = some x) (h2 : m[i]? = some y) : (List.zipWith h l m).take (i + 1) = (List.zipWith h l m).take i ++ [h x y] := by
  rw [List.take_add_one, List.getElem?_zipWith, h1, h2]; rfl
theorem inV_contains (g : Int) (lot : List Int) : inV (V.int g) (lot.map V.int) = lot.contains g := by
  unfold inV
  rw [List.any_map, List.contains_eq_any_beq]
  congr 1
  funext x
  show decide (x = g) = decide (g = x)
  exact decide_eq_decide.mpr ⟨fun h => h.symm, fun h => h.symm⟩
theorem et_inlot {σ : L2.St} {H : Hp} {ta tb : TE} {g : Int} {lot : List Int} (h1 : Ed K ta σ H (.num g)) (h2 : Ed K tb σ H (tupI lot)) : Et (tTest (tOp (rIn K false) ta tb)) σ H (lot.contains g) :=
  et_test (ev_inT h1 rfl h2 (fun k hk => by obtain ⟨x, _, rfl⟩ := List.mem_map.mp hk; rfl) (by
    rw [List.map_map]
    show inV (V.int g) (lot.map V.int) = _
    exact inV_contains g lot))
def spSeenOf (K : PySem.W.Frag) : Sp := fun vs H Q _ => ∃ (d : List (List Int)) (r : Row) (lot : List Int), NkAll K H vs [linesK d, rowK r, tupI lot] ∧ isDeal r = true ∧ d.length < 900 ∧ (∀ l ∈ d, l.length < 900) ∧ RetD K (seenRow lot (giversOf d.length r) d) H Q
theorem ok_seen_of (T : Gs K mg) (d : Def K mg "seen_of" sSeenOf ["row", "sheet_row", "lot"]) : FnOk P w K mg base CX0 1 d.f d.fd ["row", "sheet_row", "lot"] (spSeenOf K) := by
  refine d.F.ok scSeenOf (fun vs H Q E h => ?_) (fun cdv A outer s H vs Q E hr h => ?_)
  · obtain ⟨d, r, lot, h, _⟩ := h
    have e := plen h
    exact e
  · obtain ⟨ds, r, lot, h, hd, hz, hlz, q⟩ := h
    have E0 := env_start (N := nSeenOf) h
    refine ⟨_, pss_cons (ps_set (i := 3) scSeenOf.nd rfl (.inl rfl) (pe_ifExp (pt_cmpR op_eq (pe_ix ix_tup (pv 1) pe_int (fun _ _ => rfl)) pe_str (nomark _)) (pe_lst (pa_cons (pe_ix ix_tup (pv 1) pe_int (fun _ _ => rfl)) pa_nil)) (pe_listRg (by rfl) (by rfl) T.z_list (prg_1 (by rfl) T.z_range (pe_callB call_len_seq (by rfl) T.z_len PySem.boot_len (pa_cons (pv 0) pa_nil))))))
      (pss_cons (ps_set (i := 4) scSeenOf.nd rfl (.inl rfl) (pe_lst pa_nil))
      (pss_cons (ps_for PassesOwn.never rfl (pi_zipB false true (by rfl) T.z_zip (pa_cons (pv 3) (pa_cons (pv 0) pa_nil))) (pg_tupK (K := K) (n := 2) rfl rfl (pgs_cons (pg_name (i := 5) scSeenOf.nd rfl (.inr rfl)) (pgs_cons (pg_name (i := 6) scSeenOf.nd rfl (.inl rfl)) pgs_nil))) (pss_one (ps_expr (pe_bm PySem.F.plainAttrs_list PySem.F.slot_list_append PySem.F.type_list_append mt_append (pv 4) (pa_cons (pe_callTy call_tuple_of (by rfl) T.z_tuple (by decide +kernel) (pa_cons (pe_lc (own := [("at", 7), ("one", 8)]) rfl scSeenOf.nd (pi_enumB true (by rfl) T.z_enumerate (pa_cons (pv 6) pa_nil)) (blkOk_by (by kernel_rfl)) (fun _ _ _ _ _ => pg_tupK (K := K) (n := 2) rfl rfl (pgs_cons (pg_name (i := 7) scSeenOf.nd rfl (.inl rfl) (.inr rfl)) (pgs_cons (pg_name (i := 8) scSeenOf.nd rfl (.inl rfl) (.inr rfl)) pgs_nil))) (fun _ _ _ _ _ => pts_nil) (fun _ _ _ _ _ => pe_ifExp (PW.pt (pw_or (pt_cmpR (op_in_seqK (K := K) rfl) (pv 5) (pv 2) (by rfl)) (pw_or1 (pt_cmpR (op_in_seqK (K := K) rfl) (pv 7) (pv 2) (by rfl))))) (pv 8) pe_non)) pa_nil)) pa_nil)))))
      (pss_one (ps_ret (pe_callTy call_tuple_of (by rfl) T.z_tuple (by decide +kernel) (pa_cons (pv 4) pa_nil)))))), ?_⟩
    refine q_setL E0 (ks := (giversOf ds.length r).map .num) ?_ fun lg wg σ1 H1 ng s1 eg n1 E1 => ?_
    · cases r with
      | own a => exact el_if (b := true) (et_key (s := "own") (ed_var E0 rfl) ⟨_, rfl⟩ (by decide)) (fun _ => el_lst (ea_cons (ed_ixT (ed_var E0 rfl) ed_int (j := 1) rfl rfl) ea_nil) tiny1) (fun z => by cases z)
      | times a b =>
        refine el_if (b := false) (et_key (s := "times") (ed_var E0 rfl) ⟨_, rfl⟩ (by decide)) (fun z => by cases z) (fun _ => ?_)
        have e : rangeK 0 ((ds.length : Int)).toNat = (giversOf ds.length (.times a b)).map .num := by
          unfold rangeK giversOf
          rw [List.map_map, show ((ds.length : Int)).toNat = ds.length from rfl]
          refine List.map_congr_left fun i _ => ?_
          show NestedKey.num (0 + (i : Int)) = .num (i : Int)
          rw [Int.zero_add]
        rw [← e]
        exact el_listRg1 (ed_len (fun p ys H Q h q => ⟨p, ys, rfl, .inr h, q⟩) (ed_var E0 rfl) (n := ds.length) (List.length_map ..)) (rgOk_small (by omega))
      | number n => cases hd
      | sum a b => cases hd
    refine q_setL E1 (el_lst ea_nil (Nat.zero_le _)) fun l ws σ2 H2 nl0 s2 el nl E2 => ?_
    cases nl
    have ne : lg ≠ l := ne_of_none eg nl0
    have eg2 := s2 _ _ eg
    have ng2 := nkAll_mono n1 (Same.ts (K := K) s2)
    generalize giversOf ds.length r = gs at *
    refine q_for (L := [l]) (ks := zipK (gs.map .num) (ds.map tupI)) (ew_zip (es_list (.inl (.inl eg2)) ng2 (ev_var E2 rfl)) (es_tup (ed_var E2 rfl))) (MutL.one el) (fun b hb hm => ne (by rw [← (by simpa using hb : b = lg)]; simpa using hm))
      (fun i σ' H' => Env K H' σ' [.d (linesK ds), .d (rowK r), .d (tupI lot), .v (.ref lg), .v (.ref l), .u, .u, .u, .u] ∧ ∃ ws, H' l = some (.lst ws) ∧ NkAll K H' ws ((List.zipWith (seenLine lot) gs ds).take i))
      (fun H3 s3 => ⟨E2.ts (Same.ts s3), [], s3 _ _ el, .nil⟩) (fun i k σ3 H3 hk kp ⟨E3, ws, e3, n3⟩ x H4 s4 nx => ?_) (fun σ3 H3 kp ⟨E3, ws, e3, n3⟩ => ?_)
    · obtain ⟨g, line, hg, hline, rfl⟩ := zipK_get hk
      have hli := hlz line (List.mem_of_getElem? hline)
      refine tg_pair x σ3 H4 _ nx (E3.ts (Same.ts s4)) fun σ4 E4 _ => ?_
      have n4 := nkAll_mono n3 (Same.ts (K := K) s4)
      refine s_app (s4 _ _ e3) n4 (ev_var E4 rfl) (k := seenLine lot g line) (ed_tupleL (fun p ys H Q h q => ⟨p, ys, rfl, .inl ⟨h, q⟩⟩) (el_lc2 nk_ts (ew_enum (es_tup (ks := line.map .num) (ed_var E4 rfl))) E4 ?_ (by decide) (by decide) zip_pairs (cellK lot g) fun a b σ' H' hk' s' E' => ?_)) ?_ fun ws5 H5 kp5 t5 e5 n5 => ⟨(Same.keepL s4).trans kp5, ((((E4.ts t5).frg 5).frg 6).frg 7).frg 8, ws5, e5, ?_⟩
      · rw [enumK, zipK, List.length_zipWith, rangeK_len, List.length_map]; omega
      · obtain ⟨j, hj⟩ := List.mem_iff_getElem?.mp hk'
        obtain ⟨a', ha', e'⟩ := enum_get hj
        cases e'
        rw [List.getElem?_map] at ha'
        obtain ⟨y, hy, rfl⟩ := Option.map_eq_some_iff.mp ha'
        refine er_if (et_or (et_inlot (ed_var E' rfl) (ed_var E' rfl)) (fun _ => et_inlot (ed_var E' rfl) (ed_var E' rfl))) (fun hb => ?_) (fun hb => ?_)
        · rw [show cellK lot g (pairK (.num (j : Int)) (.num y)) = .num y from if_pos hb]
          exact ed_var E' rfl
        · rw [show cellK lot g (pairK (.num (j : Int)) (.num y)) = .none from if_neg (by rw [hb]; exact Bool.false_ne_true)]
          exact ed_non
      · rw [plen n4, List.length_take, List.length_zipWith]; omega
      · rw [zipWith_take hg hline]; exact n5
    · rw [show (zipK (gs.map .num) (ds.map tupI)).length = (List.zipWith (seenLine lot) gs ds).length by rw [zipK, List.length_zipWith, List.length_zipWith, List.length_map, List.length_map], List.take_length] at n3
      have hb : Same H H3 := s1.trans (KeepL.back s2 (fun b hb => by rw [List.mem_singleton.mp hb]; exact nl0) kp)
      exact s_retD (ed_tupleV (fun p ys H Q h q => ⟨p, ys, rfl, .inl ⟨h, q⟩⟩) (.inl (.inl e3)) n3 (ev_var E3 rfl)) fun v H7 s7 n => q v H7 (hb.trans s7) n
end
end NM
namespace NM
open PySem PySem.Spec PyProof.Rows L2
/-! ### counting -/
def valI (kvs : List (NK × V)) (k : NK) : Int :=
  match valV kvs k with
  | some (.int n) => n
  | _ => 0
def cnt1 (kvs : List (NK × V)) (k : NK) : List (NK × V) := putK kvs k (.int (valI kvs k + 1))
def tally (ks : List NK) : List (NK × V) := ks.foldl cnt1 []
def AllInt (kvs : List (NK × V)) : Prop := ∀ p ∈ kvs, ∃ n, p.2 = .int n
theorem putK_int {kvs : List (NK × V)} {k : NK} {n : Int} (h : AllInt kvs) : AllInt (putK kvs k (.int n)) := fun p hp => by
  unfold putK at hp
  split at hp
  · obtain ⟨q, hq, e⟩ := List.mem_map.mp hp
    split at e
    · rw [← e]; exact ⟨n, rfl⟩
    · rw [← e]; exact h q hq
  · rcases List.mem_append.mp hp with q | q
    · exact h p q
    · rw [List.mem_singleton.mp q]; exact ⟨n, rfl⟩
theorem foldl_int : ∀ (ks : List NK) (kvs : List (NK × V)), AllInt kvs → AllInt (ks.foldl cnt1 kvs)
  | [], _, h => h
  | k :: ks, _, h => foldl_int ks _ (putK_int h)
theorem tally_int (ks : List NK) : AllInt (tally ks) := foldl_int ks [] (fun _ h => nomatch h)
theorem valV_mem {kvs : List (NK × V)} {k : NK} {v : V} (h : valV kvs k = some v) : (k, v) ∈ kvs := by
  unfold valV at h
  obtain ⟨p, hp, rfl⟩ := Option.map_eq_some_iff.mp h
  have h1 := List.find?_some hp
  have h2 := List.mem_of_find?_eq_some hp
  have e : p.1 = k := of_decide_eq_true h1
  rw [← e]; exact h2
theorem valI_getD {kvs : List (NK × V)} (h : AllInt kvs) (k : NK) : (valV kvs k).getD (.int 0) = .int (valI kvs k) := by
  unfold valI
  cases e : valV kvs k with
  | none => rfl
  | some v =>
    obtain ⟨n, hn⟩ := h _ (valV_mem e)
    have hn : v = .int n := hn
    subst hn
    rfl
theorem foldl_len : ∀ (ks : List NK) (kvs : List (NK × V)), (ks.foldl cnt1 kvs).length ≤ kvs.length + ks.length
  | [], kvs => Nat.le_refl _
  | k :: ks, kvs => by
    have h1 := foldl_len ks (cnt1 kvs k)
    have h2 := length_putK kvs k (.int (valI kvs k + 1))
    rw [List.foldl_cons, List.length_cons]
    unfold cnt1 at h1 ⊢
    omega
theorem tally_len (ks : List NK) : (tally ks).length ≤ ks.length := by
  have := foldl_len ks []
  rw [List.length_nil, Nat.zero_add] at this
  exact this
theorem depthAll_le {n : Nat} : ∀ {ks : List NK}, (∀ k ∈ ks, k.depth ≤ n) → NestedKey.depthAll ks ≤ n
  | [], _ => Nat.zero_le _
  | k :: ks, h => Nat.max_le.mpr ⟨h k (List.mem_cons_self ..), depthAll_le fun x hx => h x (List.mem_cons_of_mem _ hx)⟩
theorem depth_tup {n : Nat} {ks : List NK} (h : ∀ k ∈ ks, k.depth ≤ n) : (NestedKey.tup ks).depth ≤ n + 1 := Nat.succ_le_succ (depthAll_le h)
theorem depth_tupI (l : List Int) : (tupI l).depth ≤ 1 := depth_tup fun k hk => by obtain ⟨x, _, rfl⟩ := List.mem_map.mp hk; exact Nat.le_refl 0
theorem depth_cell (lot : List Int) (g : Int) (k : NK) : (cellK lot g k).depth ≤ 0 := by
  unfold cellK
  split
  · split <;> exact Nat.le_refl 0
  · exact Nat.le_refl 0
theorem zipWith_mem {α β γ : Type} {f : α → β → γ} {l : List α} {m : List β} {z : γ} (h : z ∈ List.zipWith f l m) : ∃ x y, x ∈ l ∧ y ∈ m ∧ z = f x y := by
  obtain ⟨i, hi⟩ := List.mem_iff_getElem?.mp h
  rw [List.getElem?_zipWith] at hi
  split at hi
  · rename_i x y h1 h2
    exact ⟨x, y, List.mem_of_getElem? h1, List.mem_of_getElem? h2, (Option.some.inj hi).symm⟩
  · cases hi
theorem depth_line (lot : List Int) (g : Int) (l : List Int) : (seenLine lot g l).depth ≤ 1 := depth_tup fun k hk => by obtain ⟨x, _, rfl⟩ := List.mem_map.mp hk; exact depth_cell lot g x
theorem depth_row (lot gs : List Int) (d : List (List Int)) : (seenRow lot gs d).depth ≤ 2 := depth_tup fun k hk => by obtain ⟨x, y, _, _, rfl⟩ := zipWith_mem hk; exact depth_line lot x y
def viewOf (lot : List Int) (rs : List Row) (dealt : List (List (List Int))) (shares : List Int) : NK := .tup [.tup (List.zipWith (fun d r => seenRow lot (giversOf d.length r) d) dealt (rs.filter isDeal)), tupI shares]
theorem depth_view (lot : List Int) (rs : List Row) (dealt : List (List (List Int))) (shares : List Int) : (viewOf lot rs dealt shares).depth ≤ 8 :=
  Nat.le_trans (depth_tup (n := 3) fun k hk => by
    rcases List.mem_cons.mp hk with rfl | hk
    · exact depth_tup fun k hk => by obtain ⟨x, y, _, _, rfl⟩ := zipWith_mem hk; exact depth_row ..
    · rw [List.mem_singleton.mp hk]; exact Nat.le_trans (depth_tupI _) (by decide)) (by decide)
/-! ### decoding -/
def unI : NK → List Int
  | .tup ks => ks.map numK
  | _ => []
def unLines : NK → List (List Int)
  | .tup ks => ks.map unI
  | _ => []
theorem unI_tupI (l : List Int) : unI (tupI l) = l := by
  show (l.map NestedKey.num).map numK = l
  rw [List.map_map]
  exact List.map_id l
theorem unLines_linesK (d : List (List Int)) : unLines (linesK d) = d := by
  show (d.map tupI).map unI = d
  rw [List.map_map]
  have : unI ∘ tupI = id := funext unI_tupI
  rw [this, List.map_id]
def unRow : NK → Row
  | .tup [.text s, .num a] => if s = "own" then .own a.toNat else .number a.toNat
  | .tup [.text s, .num a, .num b] => if s = "sum" then .sum a.toNat b.toNat else .times a.toNat b.toNat
  | _ => .number 0
theorem unRow_rowK (r : Row) : unRow (rowK r) = r := by cases r <;> rfl
def rowViewK (lot : List Int) : NK → NK
  | .tup [a, b] => seenRow lot (giversOf (unLines a).length (unRow b)) (unLines a)
  | _ => .none
theorem rowViewK_eq (lot : List Int) (d : List (List Int)) (r : Row) : rowViewK lot (pairK (linesK d) (rowK r)) = seenRow lot (giversOf d.length r) d := by
  show seenRow lot (giversOf (unLines (linesK d)).length (unRow (rowK r))) (unLines (linesK d)) = _
  rw [unLines_linesK, unRow_rowK]
def isDealK (k : NK) : Bool := isDeal (unRow k)
theorem filter_deal (rs : List Row) : ((rs.map rowK).filter isDealK).map id = (rs.filter isDeal).map rowK := by
  rw [List.map_id, List.filter_map]
  congr 2
  funext r
  show isDeal (unRow (rowK r)) = isDeal r
  rw [unRow_rowK]
section
variable {P : Program} {w : World} {K : PySem.W.Frag} {mg : Str → Option Value} {base : Heap} {σ : L2.St} {H : Hp}
def GoodD (many : Nat) (dl : List (List (List Int))) : Prop := ∀ d ∈ dl, d.length ≤ many ∧ ∀ l ∈ d, l.length = many
theorem rsStep_goodD {p : Int} {many size : Nat} {things coins : List Int} {s : RunS} (hm : 1 ≤ many) (r : Row) (h : GoodD many s.dealt) : GoodD many (rsStep p many size things coins s r).dealt := by
  cases r with
  | own a =>
      intro d hd
      rcases List.mem_append.mp hd with q | q
      · exact h d q
      · rw [List.mem_singleton.mp q]; exact ⟨hm, fun l hl => by rw [List.mem_singleton.mp hl]; exact dealP_len ..⟩
  | number n => exact h
  | sum a b => exact h
  | times a b =>
      intro d hd
      rcases List.mem_append.mp hd with q | q
      · exact h d q
      · rw [List.mem_singleton.mp q]
        refine ⟨Nat.le_of_eq (timesSome_len ..), fun l hl => ?_⟩
        unfold timesSome at hl
        obtain ⟨j, _, rfl⟩ := List.mem_map.mp hl
        exact dealP_len ..
theorem rsAll_goodD {p : Int} {many size : Nat} {things coins : List Int} (hm : 1 ≤ many) : ∀ (rs : List Row) (s : RunS), GoodD many s.dealt → GoodD many (rs.foldl (rsStep p many size things coins) s).dealt
  | [], _, h => h
  | r :: rs, s, h => rsAll_goodD hm rs _ (rsStep_goodD hm r h)
def RetN (P : Program) (w : World) (K : PySem.W.Frag) (kvs : List (NK × V)) (H : Hp) (Q : VK) : Prop := ∀ d H', H d = none → Same H H' → ND P w K H' d kvs → Q (.ref d) H'
/-- d.get(k, 0) -/
theorem ed_dgetN {td ty tx : TE} {d : Addr} {kvs : List (NK × V)} {ks : List NK} {n : Int} (hd : ND P w K H d kvs) (h1 : Ev td σ H (.ref d)) (h2 : Ed K ty σ H (.tup ks)) (h3 : Ev tx σ H (.int 0)) (hdp : (NestedKey.tup ks).depth ≤ 8) (e : (valV kvs (.tup ks)).getD (.int 0) = .int n) : Ed K (tDGetN2 P w K td ty tx) σ H (.num n) := fun H1 s Q q =>
  h1 H1 s _ fun x H2 s2 ex => by
    have ex : x = .ref d := ex
    subst ex
    refine ⟨d, rfl, ⟨kvs, hd.same (s.trans s2)⟩, h2 H2 (s.trans s2) _ fun y H3 s3 ny => h3 H3 ((s.trans s2).trans s3) _ fun z H4 s4 ez => ?_⟩
    have ez : z = .int 0 := ez
    subst ez
    obtain ⟨b, xs, rfl, _, _⟩ := ny.tup_eq
    refine ⟨kvs, .tup ks, b, rfl, hd.same (((s.trans s2).trans s3).trans s4), ny.mono (Same.ts s4), hdp, ?_⟩
    rw [e]
    exact q _ H4 ((s2.trans s3).trans s4) (.int n)
/-- d[k] = n -/
theorem s_put {te to ti : TE} {D : Ends} {d : Addr} {kvs : List (NK × V)} {ks : List NK} {n : Int} (hd : ND P w K H d kvs) (h : Ed K te σ H (.num n)) (h1 : Ev to σ H (.ref d)) (h2 : Ed K ti σ H (.tup ks)) (hdp : (NestedKey.tup ks).depth ≤ 8) (hz : kvs.length < 100000)
    (c : ∀ H', KeepL [d] H H' → TSt K H H' → ND P w K H' d (putK kvs (.tup ks) (.int n)) → D.nx σ H') : tAsg te (gSub to ti (rSetN P w K)) D σ H :=
  h H (Same.refl H) _ fun v H1 s1 nv => h1 H1 s1 _ fun x H2 s2 ex => h2 H2 (s1.trans s2) _ fun y H3 s3 ny => by
    have ex : x = .ref d := ex
    subst ex
    have nv := nv.int_eq
    subst nv
    obtain ⟨b, xs, rfl, _, _⟩ := ny.tup_eq
    have s13 := (s1.trans s2).trans s3
    exact ⟨d, kvs, .tup ks, b, rfl, rfl, hd.same s13, ny, hdp, Nat.lt_of_lt_of_le hz (by decide), fun H' kp t nd => c H' ((Same.keepL s13).trans kp) ((Same.ts s13).trans t) nd⟩

/-- a, b = [..], {} -/
theorem q_lcNew {tz : L2.TS} {D : Ends} {Γ : List Sl} {i j : Nat} {tl : TE} {ks : List NK} (E0 : Env K H σ Γ) (h : EL (Nk K) tl σ H ks) (c : ∀ l ws d σ1 H1, H l = none → H d = none → Same H H1 → H1 l = some (.lst ws) → NkAll K H1 ws ks → ND P w K H1 d [] → Env K H1 σ1 ((Γ.set i (.v (.ref l))).set j (.v (.ref d))) → tz D σ1 H1) :
    tSeq (tPar i j (tCons tl (tCons (tDNewN P w K) tNil))) tz D σ H :=
  h H (Same.refl _) _ fun l ws H1 hl s1 e1 n1 => by
    intro d H2 hd s2 nd
    have s02 := s1.trans s2
    exact ⟨_, _, rfl, c l ws d _ H2 hl (s1.free hd) s02 (s2 _ _ e1) (nkAll_mono n1 (Same.ts s2)) nd (((E0.ts (Same.ts s02)).setV _ i).setV _ j)⟩
/-! ### share_views -/
abbrev sShareViews : Stmt := topS 41
abbrev nShareViews : List Str := ["p", "many", "size", "sheet", "things", "lot", "gone", "turn", "rows", "found", "row", "coins", "shares", "dealt", "view", "one"]
theorem scShareViews : FnScope ["p", "many", "size", "sheet", "things", "lot", "gone", "turn", "rows", "found", "row", "coins", "shares", "dealt", "view", "one"] ["p", "many", "size", "sheet", "things", "lot"] (defScope sShareViews) := ⟨rfl, rfl, rfl, by decide +kernel, rfl, by decide +kernel, by decide +kernel⟩
def viewsP (p : Int) (many size : Nat) (rs : List Row) (things lot : List Int) (n : Nat) : List NK := (allP (List.replicate n p)).map fun coins => viewOf lot rs (dealtP p many size rs things coins) (sharesP p many size rs things coins)
structure SvOk (p : Int) (many size : Nat) (rs : List Row) (things lot : List Int) (n : Nat) : Prop where
  prime : pIn p
  many2 : 2 ≤ many
  many4 : many ≤ 4
  size1 : 1 ≤ size
  size2 : size ≤ 2
  sheetOk : SheetOk many rs
  thIn : inP p things
  len : things.length = many
  lotOk' : lotOk (many : Int) lot
  en : enough many size rs
  coins : coinsP many size rs = (n : Int)
  n2 : 2 ≤ n
  n10 : n ≤ 10
  pw : p.toNat ^ n ≤ 800
def spShareViews (P : Program) (w : World) (K : PySem.W.Frag) : Sp := fun vs H Q _ => ∃ (p : Int) (many size : Nat) (rs : List Row) (things lot : List Int) (n : Nat), NkAll K H vs [.num p, .num (many : Int), .num (size : Int), sheetK rs, tupI things, tupI lot] ∧ SvOk p many size rs things lot n ∧
  RetN P w K (tally (viewsP p many size rs things lot n)) H Q
theorem ok_share_views (T : Gs K mg) (C_need_run : Cal P w K mg base "need_run" 4 ["p", "many", "size", "sheet", "things"] (spNeedRun K)) (C_need_lot : Cal P w K mg base "need_lot" 3 ["value", "many", "is_void_let"] (spNeedLot K)) (C_need_enough : Cal P w K mg base "need_enough" 1 ["many", "size", "sheet"] (spNeedEnough K)) (C_coins_for : Cal P w K mg base "coins_for" 1 ["many", "size", "sheet"] (spCoinsFor K))
    (C_all_things : Cal P w K mg base "all_things" 1 ["sizes"] (spAllThings K)) (C_run_shared : Cal P w K mg base "run_shared" 3 ["p", "many", "size", "sheet", "things", "coins"] (spRunShared K)) (C_seen_of : Cal P w K mg base "seen_of" 1 ["row", "sheet_row", "lot"] (spSeenOf K))
    (d : Def K mg "share_views" sShareViews ["p", "many", "size", "sheet", "things", "lot"]) : FnOk P w K mg base CX0 5 d.f d.fd ["p", "many", "size", "sheet", "things", "lot"] (spShareViews P w K) := by
  refine d.F.ok scShareViews (fun vs H Q E h => ?_) (fun cdv A outer s H vs Q E hr h => ?_)
  · obtain ⟨p, m, sz, rs, ns, lot, n, h, _⟩ := h
    have e := plen h
    exact e
  · obtain ⟨p, many, size, rs, things, lot, n, h, ok, q⟩ := h
    have E0 := env_start (N := nShareViews) h
    have hu := room_hu hr
    refine ⟨_, pss_cons (ps_expr (pe_cal C_need_run (hr.mono (by decide)) (by rfl) (pa_cons (pv 0) (pa_cons (pv 1) (pa_cons (pv 2) (pa_cons (pv 3) (pa_cons (pv 4) pa_nil)))))))
      (pss_cons (ps_expr (pe_cal C_need_lot (hr.mono (by decide)) (by rfl) (pa_cons (pv 5) (pa_cons (pv 1) (pa_cons pe_bl pa_nil)))))
      (pss_cons (ps_expr (pe_cal C_need_enough (hr.mono (by decide)) (by rfl) (pa_cons (pv 1) (pa_cons (pv 2) (pa_cons (pv 3) pa_nil)))))
      (pss_cons (ps_set (i := 6) scShareViews.nd rfl (.inl rfl) pe_int)
      (pss_cons (ps_for PassesOwn.never rfl (pi_range1 (by rfl) T.z_range (pa_cons (pe_cal C_coins_for (hr.mono (by decide)) (by rfl) (pa_cons (pv 1) (pa_cons (pv 2) (pa_cons (pv 3) pa_nil)))) pa_nil)) (pg_name (i := 7) scShareViews.nd rfl (.inl rfl)) (pss_one (ps_set (i := 6) scShareViews.nd rfl (.inl rfl) (pe_ifExp (pt_cmpR op_le (pv 6) (pe_gc rfl T.c_MOST_GONE) (nomark _)) (pe_op op_mul (pv 6) (pv 0)) (pv 6)))))
      (pss_cons (ps_if (pt_cmpR op_gt (pv 6) (pe_gc rfl T.c_MOST_GONE) (nomark _)) pss_never pss_nil)
      (pss_cons (ps_par (i := 8) (j := 9) (by rfl) scShareViews.nd rfl rfl (by decide) rfl rfl (pa_cons (pe_lc (own := [("row", 10)]) rfl scShareViews.nd (pi_tup (pv 3)) (blkOk_by (by kernel_rfl)) (fun _ _ _ _ _ => pg_name (i := 10) scShareViews.nd rfl (.inl rfl) (.inr rfl)) (fun _ _ _ _ _ => pts_one (pt_cmpR (op_in_seqK (K := K) rfl) (pe_ix (ix_tupK (K := K) rfl) (pv 10) pe_int (fun _ _ => rfl)) (pe_tup (pa_cons pe_str (pa_cons pe_str pa_nil))) (by rfl))) (fun _ _ _ _ _ => pv 10)) (pa_cons pe_dnewN pa_nil)) (by rfl))
      (pss_cons (ps_for PassesOwn.never rfl (pi_list (pe_cal C_all_things (hr.mono (by decide)) (by rfl) (pa_cons (pe_op op_repT (pe_tup (pa_cons (pv 0) pa_nil)) (pe_cal C_coins_for (hr.mono (by decide)) (by rfl) (pa_cons (pv 1) (pa_cons (pv 2) (pa_cons (pv 3) pa_nil))))) pa_nil))) (pg_name (i := 11) scShareViews.nd rfl (.inl rfl)) (pss_cons (ps_asg (pe_cal C_run_shared (hr.mono (by decide)) (by rfl) (pa_cons (pv 0) (pa_cons (pv 1) (pa_cons (pv 2) (pa_cons (pv 3) (pa_cons (pv 4) (pa_cons (pv 11) pa_nil))))))) (pg_tupK (K := K) (n := 2) rfl rfl (pgs_cons (pg_name (i := 12) scShareViews.nd rfl (.inl rfl)) (pgs_cons (pg_name (i := 13) scShareViews.nd rfl (.inl rfl)) pgs_nil))))
      (pss_cons (ps_set (i := 14) scShareViews.nd rfl (.inl rfl) (pe_tup (pa_cons (pe_callTy call_tuple_of (by rfl) T.z_tuple (by decide +kernel) (pa_cons (pe_lc (own := [("one", 15), ("row", 10)]) rfl scShareViews.nd (pi_zipB true false (by rfl) T.z_zip (pa_cons (pv 13) (pa_cons (pv 8) pa_nil))) (blkOk_by (by kernel_rfl)) (fun _ _ _ _ _ => pg_tupK (K := K) (n := 2) rfl rfl (pgs_cons (pg_name (i := 15) scShareViews.nd rfl (.inl rfl) (.inr rfl)) (pgs_cons (pg_name (i := 10) scShareViews.nd rfl (.inl rfl) (.inr rfl)) pgs_nil))) (fun _ _ _ _ _ => pts_nil) (fun _ _ _ _ _ => pe_cal C_seen_of (hr.mono (by decide)) (by rfl) (pa_cons (pv 15) (pa_cons (pv 10) (pa_cons (pv 5) pa_nil))))) pa_nil)) (pa_cons (pv 12) pa_nil))))
      (pss_one (ps_asg (pe_op op_add (pe_dgetN2 hu (pv 9) (pv 14) pe_int ⟨rfl, rfl, rfl, rfl⟩) pe_int) (pg_sub (pv 9) (pv 14) (set_dictN hu)))))))
      (pss_one (ps_ret (pv 9)))))))))), ?_⟩
    obtain ⟨hp, hm2, hm4, hz1, hz2, hs, hth, hlen, hlot, hen, hco, hn2, hn10, hpw⟩ := ok
    have hpl := hp.lt
    have hrs8 := hs.2.1
    refine q_drop (v := .non) (er_call (ea_cons (ed_var E0 rfl) (ea_cons (ed_var E0 rfl) (ea_cons (ed_var E0 rfl) (ea_cons (ed_var E0 rfl) (ea_cons (ed_var E0 rfl) ea_nil))))) fun vs H2 Q s n q => ⟨p, many, size, rs, things, n, hp, hm2, hm4, hz1, hz2, hs, hth, hlen, fun H' s' => q _ H' s' rfl⟩) fun H1 s1 => ?_
    have E1 := E0.ts (Same.ts (K := K) s1)
    refine q_drop (v := .non) (er_callP (eap_consD (ed_var E1 rfl) (eap_consD (ed_var E1 rfl) (eap_consV (v := .bl false) ev_c eap_nil))) fun vs H2 Q s hv q => ?_) fun H2 s2 => ?_
    · obtain ⟨a, r, rfl, na, b, r', rfl, nb, r'', rfl, rfl⟩ := hv
      exact ⟨(many : Int), lot, a, b, rfl, na, nb, hlot, fun H' s' => q _ H' s' rfl⟩
    have E2 := E1.ts (Same.ts (K := K) s2)
    refine q_drop (v := .non) (er_call (ea_cons (ed_var E2 rfl) (ea_cons (ed_var E2 rfl) (ea_cons (ed_var E2 rfl) ea_nil))) fun vs H2 Q s n q => ⟨many, size, rs, n, hrs8, hm4, hz2, hen, fun H' s' => q _ H' s' rfl⟩) fun H3 s3 => ?_
    have E3 := E2.ts (Same.ts (K := K) s3)
    have s03 := (s1.trans s2).trans s3
    refine q_setD E3 (ed_int (i := 1)) fun σ4 H4 s4 E4 => ?_
    have coins : ∀ {σ' : L2.St} {H' : Hp} {E : XK} {t1 t2 t3 : TE}, Ed K t1 σ' H' (.num (many : Int)) → Ed K t2 σ' H' (.num (size : Int)) → Ed K t3 σ' H' (sheetK rs) → Ed K (tCall (spCoinsFor K) [] E (tCons t1 (tCons t2 (tCons t3 tNil)))) σ' H' (.num (n : Int)) := fun h1 h2 h3 =>
      er_call (ea_cons h1 (ea_cons h2 (ea_cons h3 ea_nil))) fun vs H2 Q s nn q => ⟨many, size, rs, nn, hrs8, hm4, hz2, fun v H' s' n' => q v H' s' (by rw [← hco]; exact n')⟩
    have hpw0 : ∀ i, i ≤ n → p.toNat ^ i ≤ 800 := fun i hi => Nat.le_trans (Nat.pow_le_pow_right (by omega) hi) hpw
    refine q_for (L := []) (ks := rangeK 0 n) (ew_range1 (n := (n : Int)) (ea_cons (coins (ed_var E4 rfl) (ed_var E4 rfl) (ed_var E4 rfl)) ea_nil) (by omega) (by omega)) MutL.nil (fun _ h => nomatch h)
      (fun i σ' H' => Env K H' σ' ([.d (.num p), .d (.num (many : Int)), .d (.num (size : Int)), .d (sheetK rs), .d (tupI things), .d (tupI lot), .d (.num ((p.toNat ^ i : Nat) : Int)), .u, .u, .u, .u, .u, .u, .u, .u, .u]))
      (fun H5 s5 => E4.ts (Same.ts s5)) (fun i k σ5 H5 hk kp E5 x H6 s6 nx => ?_) (fun σ5 H5 kp5 E5 => ?_)
    · have hi : i < n := by
        have h := (List.getElem?_eq_some_iff.mp hk).1
        rw [rangeK_len] at h; exact h
      have hb := hpw0 i (by omega)
      have E6 := (E5.ts (Same.ts s6)).setD nx 7
      refine s_setD E6 (er_if (b := true) (et_test (ev_I0 (ed_var E6 rfl) ed_int ?_)) (fun _ => ed_I (n := ((p.toNat ^ (i + 1) : Nat) : Int)) (ed_var E6 rfl) (ed_var E6 rfl) (cmulR (by omega) (by omega)) ?_) (fun z => by cases z)) fun σ7 H7 s7 E7 => ⟨Same.keepL (s6.trans s7), E7.frg 7⟩
      · show V.bl (decide (((p.toNat ^ i : Nat) : Int) ≤ 20000)) = .bl true
        rw [decide_eq_true (by omega)]
      · show V.int (((p.toNat ^ i : Nat) : Int) * p) = _
        rw [Nat.pow_succ, Int.natCast_mul, Int.toNat_of_nonneg (by omega)]
    rw [rangeK_len] at E5
    have s05 : Same H H5 := (s03.trans s4).trans kp5.same
    refine q_ifN (et_test (ev_I0 (v := .bl false) (ed_var E5 rfl) ed_int ?_)) fun H6 s6 => ?_
    · show V.bl (decide ((20000 : Int) < ((p.toNat ^ n : Nat) : Int))) = .bl false
      rw [decide_eq_false (by omega)]
    have E6 := E5.ts (Same.ts (K := K) s6)
    refine q_lcNew E6 (ks := (rs.filter isDeal).map rowK) ?_ fun lr wr dd σ7 H7 nlr nd s7 er nr dr E7 => ?_
    · rw [← filter_deal]
      refine el_lc1T nk_ts (ew_tup (es_tup (ed_var E6 rfl))) E6 (by rw [List.length_map]; omega) (by decide) isDealK id (fun k σ' H' hk s' E' => ?_) (fun k σ' H' hk s' _ E' => ed_var E' rfl)
      obtain ⟨r, hr, rfl⟩ := List.mem_map.mp hk
      have hh : ∀ (t : Str), (∃ ks, rowK r = .tup (.text t :: ks)) → ∀ b, inV (.str t) [.str "own", .str "times"] = b → Et (tTest (tOp (rIn K false) (tOp (rIxT K) (tVar 10) (tC (.int 0))) (tTup (tCons (tC (.str "own")) (tCons (tC (.str "times")) tNil))))) σ' H' b := fun t ht b hb =>
        et_test (ev_inT (n := false) (ed_row0 (s := t) (ed_var E' rfl) ht ed_int rfl) rfl (ed_tup (ea_cons ed_str (ea_cons ed_str ea_nil)) tiny2) (by decide) hb)
      cases r with
      | own a => exact hh "own" ⟨_, rfl⟩ true (by decide)
      | number a => exact hh "number" ⟨_, rfl⟩ false (by decide)
      | sum a b => exact hh "sum" ⟨_, rfl⟩ false (by decide)
      | times a b => exact hh "times" ⟨_, rfl⟩ true (by decide)
    have s07 := (s05.trans s6).trans s7
    have nrd : lr ≠ dd := by
      obtain ⟨φ, hφ⟩ := dr.ext
      intro e
      rw [e, hφ] at er; cases er
    have hall : (allP (List.replicate n p)).length ≤ 800 := by
      show ((List.replicate n p).foldl allStep [[]]).length ≤ 800
      rw [all_len]; simpa using hpw
    obtain ⟨φ, hφ⟩ := dr.ext
    refine q_for (L := [dd]) (ks := (allP (List.replicate n p)).map tupI) (ew_list (es_new (el_call (ea_cons (ed_to (ed_repT (ed_tup (ea_cons (ed_var E7 rfl) ea_nil) tiny1) (coins (ed_var E7 rfl) (ed_var E7 rfl) (ed_var E7 rfl)) (by simp) (by omega) (by omega) (Nat.le_of_ble_eq_true rfl)) (rep_tupI _ _)) ea_nil) fun vs H2 Q s nn q => ⟨p, n, nn, by omega, by omega, by omega, by omega, q⟩))) (MutL.oneX hφ) (fun _ h => nomatch h)
      (fun i σ' H' => Env K H' σ' ([.d (.num p), .d (.num (many : Int)), .d (.num (size : Int)), .d (sheetK rs), .d (tupI things), .d (tupI lot), .d (.num ((p.toNat ^ n : Nat) : Int)), .u, .v (.ref lr), .v (.ref dd), .u, .u, .u, .u, .u, .u]) ∧ ND P w K H' dd (tally ((viewsP p many size rs things lot n).take i)))
      (fun H8 s8 => ⟨E7.ts (Same.ts s8), dr.same s8⟩) (fun i k σ8 H8 hk kp8 ⟨E8, nd8⟩ x H9 s9 nx => ?_) (fun σ8 H8 kp8 ⟨E8, nd8⟩ => ?_)
    · rw [List.getElem?_map] at hk
      obtain ⟨cs, hcs, rfl⟩ := Option.map_eq_some_iff.mp hk
      have hcl : cs.length = n := by
        have := all_lens (p := p) n [[]] 0 (fun t h => by rw [List.mem_singleton.mp h]; rfl) cs (List.mem_of_getElem? hcs)
        omega
      have E9 := (E8.ts (Same.ts s9)).setD nx 11
      have t79 : TSt K H7 H9 := (kp8.ts (MutL.oneX hφ)).trans (Same.ts s9)
      have er9 : H9 lr = some (.lst wr) := s9 _ _ (kp8 lr _ (by simpa using nrd) er)
      have nr9 := nkAll_mono nr t79
      refine q_asgT E9 (k := .tup [tupI (sharesP p many size rs things cs), .tup ((dealtP p many size rs things cs).map linesK)]) (er_call (ea_cons (ed_var E9 rfl) (ea_cons (ed_var E9 rfl) (ea_cons (ed_var E9 rfl) (ea_cons (ed_var E9 rfl) (ea_cons (ed_var E9 rfl) (ea_cons (ed_var E9 rfl) ea_nil)))))) fun vs H2 Q s nn q => ⟨p, many, size, rs, things, cs, nn, hp, hm2, hm4, hz1, hz2, hs, hlen, by omega, fun v H' s' n' => q v H' s' n'⟩) tg_pair fun σ10 H10 s10 E10 => ?_
      have gd : GoodD many (dealtP p many size rs things cs) := rsAll_goodD (by omega) rs ⟨[], [], 0⟩ (fun _ h => nomatch h)
      have hdl : (dealtP p many size rs things cs).length ≤ rs.length := by
        have := rsAll_dealt (p := p) (many := many) (size := size) (things := things) (coins := cs) rs ⟨[], [], 0⟩
        rw [show (RunS.mk [] [] 0).dealt.length = 0 from rfl, Nat.zero_add] at this
        exact this
      have hv : (viewsP p many size rs things lot n)[i]? = some (viewOf lot rs (dealtP p many size rs things cs) (sharesP p many size rs things cs)) := by
        unfold viewsP
        rw [List.getElem?_map, hcs]; rfl
      generalize dealtP p many size rs things cs = dl at *
      generalize sharesP p many size rs things cs = sh at *
      have er10 := s10 _ _ er9
      have nr10 := nkAll_mono nr9 (Same.ts (K := K) s10)
      refine q_setD E10 (k := viewOf lot rs dl sh) (ed_tup (ea_cons (ed_to (ed_tupleL (fun p ys H Q h q => ⟨p, ys, rfl, .inl ⟨h, q⟩⟩) (el_lc2 nk_ts (ew_zip (es_tup (ks := dl.map linesK) (ed_var E10 rfl)) (es_list (.inl (.inl er10)) nr10 (ev_var E10 rfl))) E10 ?_ (by decide) (by decide) zip_pairs (rowViewK lot) fun a b σ' H' hk' s' E' => ?_)) ?_) (ea_cons (ed_var E10 rfl) ea_nil)) tiny2) fun σ11 H11 s11 E11 => ?_
      · rw [zipK, List.length_zipWith, List.length_map]; omega
      · obtain ⟨d0, r, hd0, hr0, rfl, rfl⟩ := zipK_mem hk'
        have g0 := gd d0 hd0
        refine er_call (ea_cons (ed_var E' rfl) (ea_cons (ed_var E' rfl) (ea_cons (ed_var E' rfl) ea_nil))) fun vs H2 Q s nn q => ⟨d0, r, lot, nn, (List.mem_filter.mp hr0).2, by omega, fun l hl => by rw [g0.2 l hl]; omega, fun v H' s' n' => q v H' s' ?_⟩
        rw [rowViewK_eq]; exact n'
      · rw [zipK_map (h := fun d r => seenRow lot (giversOf d.length r) d) (fun d r => rowViewK_eq lot d r)]
      · have nd11 := nd8.same ((s9.trans s10).trans s11)
        have hti := tally_int ((viewsP p many size rs things lot n).take i)
        have htl := tally_len ((viewsP p many size rs things lot n).take i)
        have hvl : (viewsP p many size rs things lot n).length ≤ 800 := by unfold viewsP; rw [List.length_map]; exact hall
        rw [List.length_take] at htl
        have hst : tally ((viewsP p many size rs things lot n).take (i + 1)) = cnt1 (tally ((viewsP p many size rs things lot n).take i)) (viewOf lot rs dl sh) := foldl_take hv
        generalize tally ((viewsP p many size rs things lot n).take i) = tl at *
        refine s_put nd11 (ed_I0 (ed_dgetN nd11 (ev_var E11 rfl) (ed_var E11 rfl) ev_c (depth_view _ _ _ _) (valI_getD hti _)) ed_int rfl) (ev_var E11 rfl) (ed_var E11 rfl) (depth_view _ _ _ _) (by omega) fun H12 kp12 t12 nd12 => ⟨(Same.keepL ((s9.trans s10).trans s11)).trans kp12, ((((E11.ts t12).frg 11).frg 12).frg 13).frg 14 |>.frg 15, ?_⟩
        rw [hst]
        exact nd12
    · rw [show ((allP (List.replicate n p)).map tupI).length = (viewsP p many size rs things lot n).length by unfold viewsP; rw [List.length_map, List.length_map], List.take_length] at nd8
      have hb : Same H H8 := KeepL.back (L := [dd]) s07 (fun b hb => by rw [List.mem_singleton.mp hb]; exact (s05.trans s6).free nd) kp8
      exact ev_var E8 rfl H8 (Same.refl _) _ fun v H9 s9 ev => by
        subst ev
        exact q dd H9 ((s05.trans s6).free nd) (hb.trans s9) (nd8.same s9)
end
end NM
namespace NM
/-! ### modulo p -/
def Cong (p x y : Int) : Prop := ∃ k, x = y + p * k
namespace Cong
variable {p x y z a b : Int}
theorem refl : Cong p x x := ⟨0, by omega⟩
theorem symm (h : Cong p x y) : Cong p y x := by obtain ⟨k, rfl⟩ := h; exact ⟨-k, by grind⟩
theorem trans (h : Cong p x y) (g : Cong p y z) : Cong p x z := by obtain ⟨k, rfl⟩ := h; obtain ⟨m, rfl⟩ := g; exact ⟨k + m, by grind⟩
theorem add (h : Cong p x y) (g : Cong p a b) : Cong p (x + a) (y + b) := by obtain ⟨k, rfl⟩ := h; obtain ⟨m, rfl⟩ := g; exact ⟨k + m, by grind⟩
theorem sub (h : Cong p x y) (g : Cong p a b) : Cong p (x - a) (y - b) := by obtain ⟨k, rfl⟩ := h; obtain ⟨m, rfl⟩ := g; exact ⟨k - m, by grind⟩
theorem mul (h : Cong p x y) (g : Cong p a b) : Cong p (x * a) (y * b) := by obtain ⟨k, rfl⟩ := h; obtain ⟨m, rfl⟩ := g; exact ⟨y * m + k * b + p * k * m, by grind⟩
theorem emod : Cong p (x % p) x := ⟨-(x / p), by have := Int.emod_def x p; grind⟩
theorem eq (h : Cong p x y) : x % p = y % p := by obtain ⟨k, rfl⟩ := h; exact Int.add_mul_emod_self_left ..
theorem of_eq (h : x % p = y % p) : Cong p x y := (emod.symm.trans (h ▸ refl)).trans emod
theorem eqR (h : Cong p x y) (h1 : 0 ≤ x) (h2 : x < p) (h3 : 0 ≤ y) (h4 : y < p) : x = y := by
  have := h.eq
  rwa [Int.emod_eq_of_lt h1 h2, Int.emod_eq_of_lt h3 h4] at this
end Cong
/-- c0 + c1 x + .. -/
def polyS (x : Int) (cs : List Int) : Int := cs.foldr (fun c a => c + x * a) 0
theorem horner_cong {p x : Int} : ∀ cs : List Int, Cong p (cs.foldr (fun c a => (a + c) * x % p) 0) (x * polyS x cs)
  | [] => by show Cong p 0 (x * 0); rw [Int.mul_zero]; exact .refl
  | c :: cs => by
    have ih := horner_cong (p := p) (x := x) cs
    show Cong p ((cs.foldr (fun c a => (a + c) * x % p) 0 + c) * x % p) (x * (c + x * polyS x cs))
    refine Cong.emod.trans (((ih.add .refl).mul .refl).trans ?_)
    rw [show (x * polyS x cs + c) * x = x * (c + x * polyS x cs) by grind]
    exact .refl
theorem valueAtP_cong {p s x : Int} (cs : List Int) : Cong p (valueAtP p s cs x) (s + x * polyS x cs) := by
  unfold valueAtP valueAtL
  rw [List.foldl_reverse]
  refine Cong.emod.trans (((horner_cong cs).add .refl).trans ?_)
  rw [Int.add_comm]; exact .refl
def lawStep (p x : Int) (t : Int × Int) (c : Int) : Int × Int := ((t.1 + c * t.2) % p, t.2 * x % p)
def lawAt (p : Int) (cs : List Int) (x : Int) : Int := (cs.foldl (lawStep p x) (0, 1)).1
theorem lawAt_cong {p x : Int} : ∀ (cs : List Int) (t : Int × Int), Cong p (cs.foldl (lawStep p x) t).1 (t.1 + t.2 * polyS x cs)
  | [], t => by show Cong p t.1 (t.1 + t.2 * 0); rw [Int.mul_zero, Int.add_zero]; exact .refl
  | c :: cs, t => by
    refine (lawAt_cong (p := p) (x := x) cs (lawStep p x t c)).trans ?_
    show Cong p ((t.1 + c * t.2) % p + (t.2 * x % p) * polyS x cs) (t.1 + t.2 * (c + x * polyS x cs))
    refine (Cong.emod.add (Cong.emod.mul .refl)).trans ?_
    rw [show t.1 + c * t.2 + t.2 * x * polyS x cs = t.1 + t.2 * (c + x * polyS x cs) by grind]
    exact .refl
theorem lawStep_in {p x : Int} (hp : 0 < p) : ∀ (cs : List Int) (t : Int × Int), cs ≠ [] ∨ (0 ≤ t.1 ∧ t.1 < p) → 0 ≤ (cs.foldl (lawStep p x) t).1 ∧ (cs.foldl (lawStep p x) t).1 < p
  | [], t, h => by
    rcases h with h | h
    · exact (h rfl).elim
    · exact h
  | c :: cs, t, _ => lawStep_in hp cs _ (.inr ⟨Int.emod_nonneg _ (by omega), Int.emod_lt_of_pos _ hp⟩)
theorem lawAt_eq {p : Int} (hp : 0 < p) (s x : Int) (cs : List Int) : lawAt p (s :: cs) x = valueAtP p s cs x := by
  have h1 := lawAt_cong (p := p) (x := x) (s :: cs) (0, 1)
  have h2 := valueAtP_cong (p := p) (s := s) (x := x) cs
  have h3 := lawStep_in (x := x) hp (s :: cs) (0, 1) (.inl (by simp))
  refine Cong.eqR (h1.trans (Cong.trans ?_ h2.symm)) h3.1 h3.2 (Int.emod_nonneg _ (by omega)) (Int.emod_lt_of_pos _ hp)
  show Cong p (0 + 1 * (s + x * polyS x cs)) _
  rw [Int.zero_add, Int.one_mul]; exact .refl
end NM
namespace NM
open PySem PySem.Spec PyProof.Rows L2
section
variable {P : Program} {w : World} {K : PySem.W.Frag} {mg : Str → Option Value} {base : Heap} {σ : L2.St} {H : Hp}
theorem ed_min {ta tb : TE} {i j n : Int} {r : List V → Hp → VK → Prop} (hr : ∀ i j H Q, Q (.int (if j < i then j else i)) H → r [.int i, .int j] H Q) (ha : Ed K ta σ H (.num i)) (hb : Ed K tb σ H (.num j)) (e : (if j < i then j else i) = n) : Ed K (tCB r (tCons ta (tCons tb tNil))) σ H (.num n) := fun H1 s Q q =>
  ha H1 s _ fun x H2 s2 n1 => hb H2 (s.trans s2) _ fun y H3 s3 n2 => by
    rw [n1.int_eq, n2.int_eq]
    refine hr i j H3 Q ?_
    rw [e]
    exact q _ H3 (s2.trans s3) (.int n)
theorem ed_tupRg {te : TE} {n : Int} (h : Ed K te σ H (.num n)) (ok : RgOk 0 n) : Ed K (tTupRg (tRg1 te)) σ H (.tup (rangeK 0 n.toNat)) := fun H1 s Q q =>
  h H1 s _ fun x H2 s2 n1 => ⟨n, n1.int_eq, ok, fun p hp => q _ _ (s2.trans (same_new hp)) (.tup (.inl (.inl upd_same)) (by
    have h := rgV_nk (K := K) (H := upd H2 p (.tup (rgV 0 n))) (i := 0) (j := n)
    rw [Int.sub_zero] at h
    exact h))⟩
theorem el_cat {ta tb : TE} {l : Addr} {vs : List V} {ks ls : List NK} (hl : H l = some (.lst vs)) (hn : NkAll K H vs ks) (ha : Ev ta σ H (.ref l)) (hb : EL (Nk K) tb σ H ls) (hz : ks.length + ls.length ≤ 100000) : EL (Nk K) (tOp rCat ta tb) σ H (ks ++ ls) := fun H1 s Q q =>
  ha H1 s _ fun x H2 s2 ex => hb H2 (s.trans s2) _ fun p ws H3 hp s3 e3 n3 => by
    have ex : x = .ref l := ex
    subst ex
    have s13 := s.trans (s2.trans s3)
    refine ⟨l, p, vs, ws, rfl, rfl, s13 _ _ hl, e3, ?_, fun p' hp' => q p' _ _ (fresh_back (s2.trans s3) hp') ((s2.trans s3).trans (same_new hp')) upd_same (papp (nkAll_mono hn (Same.ts (s13.trans (same_new hp')))) (nkAll_mono n3 (Same.ts (same_new hp'))))⟩
    rw [plen hn, plen n3, sizeLine_eq]; omega

/-! ### _law_power -/
abbrev sLawPower : Stmt := topS 43
abbrev nLawPower : List Str := ["_law_p", "_law_many", "_law_found", "_law_turn"]
theorem scLawPower : FnScope ["_law_p", "_law_many", "_law_found", "_law_turn"] ["_law_p", "_law_many"] (defScope sLawPower) := ⟨rfl, rfl, rfl, by decide +kernel, rfl, by decide +kernel, by decide +kernel⟩
def powStep (p f : Int) : Int := if f * p < 20001 then f * p else 20001
def powP (p : Int) : Nat → Int
  | 0 => 1
  | n + 1 => powStep p (powP p n)
theorem powP_in {p : Int} (hp : 0 ≤ p) : ∀ n, 0 ≤ powP p n ∧ powP p n ≤ 20001
  | 0 => by show (0 : Int) ≤ 1 ∧ (1 : Int) ≤ 20001; decide
  | n + 1 => by
    have h := powP_in hp n
    show 0 ≤ powStep p (powP p n) ∧ powStep p (powP p n) ≤ 20001
    unfold powStep
    have := Int.mul_nonneg h.1 hp
    split <;> omega
def spPower (K : PySem.W.Frag) : Sp := fun vs H Q _ => ∃ (p : Int) (n : Nat), NkAll K H vs [.num p, .num (n : Int)] ∧ 0 ≤ p ∧ p < 1000 ∧ n < 1000 ∧ RetD K (.num (powP p n)) H Q
theorem ok_power (T : Gs K mg) (d : Def K mg "_law_power" sLawPower ["_law_p", "_law_many"]) : FnOk P w K mg base CX0 1 d.f d.fd ["_law_p", "_law_many"] (spPower K) := by
  refine d.F.ok scLawPower (fun vs H Q E h => ?_) (fun cdv A outer s H vs Q E hr h => ?_)
  · obtain ⟨p, n, h, _⟩ := h
    have e := plen h
    exact e
  · obtain ⟨p, n, h, hp, hp2, hn, q⟩ := h
    have E0 := env_start (N := nLawPower) h
    refine ⟨_, pss_cons (ps_set (i := 2) scLawPower.nd rfl (.inl rfl) pe_int)
      (pss_cons (ps_for PassesOwn.never rfl (pi_range1 (by rfl) T.z_range (pa_cons (pv 1) pa_nil)) (pg_name (i := 3) scLawPower.nd rfl (.inl rfl)) (pss_one (ps_set (i := 2) scLawPower.nd rfl (.inl rfl) (pe_callB (call_min2 rfl) (by rfl) T.z_min (by decide +kernel) (pa_cons pe_int (pa_cons (pe_op op_mul (pv 2) (pv 0)) pa_nil))))))
      (pss_one (ps_ret (pv 2)))), ?_⟩
    refine q_setD E0 (ed_int (i := 1)) fun σ1 H1 s1 E1 => ?_
    refine q_for (L := []) (ks := rangeK 0 n) (ew_range1 (n := (n : Int)) (ea_cons (ed_var E1 rfl) ea_nil) (by omega) (by omega)) MutL.nil (fun _ h => nomatch h)
      (fun i σ' H' => Env K H' σ' [.d (.num p), .d (.num (n : Int)), .d (.num (powP p i)), .u])
      (fun H2 s2 => E1.ts (Same.ts s2)) (fun i k σ2 H2 hk kp E2 x H3 s3 nx => ?_) (fun σ2 H2 kp E2 => ?_)
    · have E3 := (E2.ts (Same.ts s3)).setD nx 3
      exact s_setD E3 (k := .num (powP p (i + 1))) (ed_min (fun i j H Q q => ⟨i, j, rfl, q⟩) ed_int (ed_I (ed_var E3 rfl) (ed_var E3 rfl) (cmulR (by omega) hp2) rfl) rfl) fun σ4 H4 s4 E4 => ⟨Same.keepL (s3.trans s4), E4.frg 3⟩
    · rw [rangeK_len] at E2
      exact s_retD (ed_var E2 rfl) fun v H3 s3 m => q v H3 ((s1.trans kp.same).trans s3) m

/-! ### _law_at, _law_dealt -/
abbrev sLawAt : Stmt := topS 48
abbrev nLawAt : List Str := ["_law_p", "_law_coins", "_law_place", "_law_found", "_law_power_here", "_law_coin"]
theorem scLawAt : FnScope ["_law_p", "_law_coins", "_law_place", "_law_found", "_law_power_here", "_law_coin"] ["_law_p", "_law_coins", "_law_place"] (defScope sLawAt) := ⟨rfl, rfl, rfl, by decide +kernel, rfl, by decide +kernel, by decide +kernel⟩
def spAt (K : PySem.W.Frag) : Sp := fun vs H Q _ => ∃ (p s place : Int) (cs : List Int), NkAll K H vs [.num p, tupI (s :: cs), .num place] ∧ 1 < p ∧ p < 1000 ∧ 0 ≤ place ∧ place < 1000 ∧ cs.length < 1000 ∧ RetD K (.num (valueAtP p s cs place)) H Q
theorem lawStep2_in {p x : Int} (hp : 1 < p) : ∀ (cs : List Int) (t : Int × Int), 0 ≤ t.2 ∧ t.2 < p → 0 ≤ (cs.foldl (lawStep p x) t).2 ∧ (cs.foldl (lawStep p x) t).2 < p
  | [], t, h => h
  | c :: cs, t, _ => lawStep2_in hp cs _ ⟨Int.emod_nonneg _ (by omega), Int.emod_lt_of_pos _ (by omega)⟩
theorem ok_at (T : Gs K mg) (d : Def K mg "_law_at" sLawAt ["_law_p", "_law_coins", "_law_place"]) : FnOk P w K mg base CX0 1 d.f d.fd ["_law_p", "_law_coins", "_law_place"] (spAt K) := by
  refine d.F.ok scLawAt (fun vs H Q E h => ?_) (fun cdv A outer s H vs Q E hr h => ?_)
  · obtain ⟨p, sc, pl, cs, h, _⟩ := h
    have e := plen h
    exact e
  · obtain ⟨p, sc, place, cs, h, hp, hp2, h0, h2, hz, q⟩ := h
    have E0 := env_start (N := nLawAt) h
    refine ⟨_, pss_cons (ps_asg (pe_tup (pa_cons pe_int (pa_cons pe_int pa_nil))) (pg_tupK (K := K) (n := 2) rfl rfl (pgs_cons (pg_name (i := 3) scLawAt.nd rfl (.inl rfl)) (pgs_cons (pg_name (i := 4) scLawAt.nd rfl (.inl rfl)) pgs_nil))))
      (pss_cons (ps_for PassesOwn.never rfl (pi_tup (pv 1)) (pg_name (i := 5) scLawAt.nd rfl (.inl rfl)) (pss_one (ps_par (i := 3) (j := 4) (by rfl) scLawAt.nd rfl rfl (by decide) rfl rfl (pa_cons (pe_op op_mod (pe_op op_add (pv 3) (pe_op op_mul (pv 5) (pv 4))) (pv 0)) (pa_cons (pe_op op_mod (pe_op op_mul (pv 4) (pv 2)) (pv 0)) pa_nil)) (by rfl))))
      (pss_one (ps_ret (pv 3)))), ?_⟩
    refine q_asgT E0 (ed_tup (ea_cons ed_int (ea_cons ed_int ea_nil)) (by decide)) tg_pair fun σ1 H1 s1 E1 => ?_
    refine q_for (L := []) (ks := (sc :: cs).map NestedKey.num) (ew_tup (es_tup (ed_var E1 rfl))) MutL.nil (fun _ h => nomatch h)
      (fun i σ' H' => Env K H' σ' [.d (.num p), .d (tupI (sc :: cs)), .d (.num place), .d (.num (((sc :: cs).take i).foldl (lawStep p place) (0, 1)).1), .d (.num (((sc :: cs).take i).foldl (lawStep p place) (0, 1)).2), .u])
      (fun H2 s2 => E1.ts (Same.ts s2)) (fun i k σ2 H2 hk kp E2 x H3 s3 nx => ?_) (fun σ2 H2 kp E2 => ?_)
    · rw [List.getElem?_map] at hk
      obtain ⟨c, hc, rfl⟩ := Option.map_eq_some_iff.mp hk
      have E3 := (E2.ts (Same.ts s3)).setD nx 5
      have hb := lawStep2_in (x := place) hp ((sc :: cs).take i) (0, 1) ⟨by decide, hp⟩
      refine s_par E3 (ea_cons (ed_I (ed_I0 (ed_var E3 rfl) (ed_I (ed_var E3 rfl) (ed_var E3 rfl) (cmulR (by omega) (by omega)) rfl) rfl) (ed_var E3 rfl) (by show (0 : Int) < p; omega) rfl) (ea_cons (ed_I (ed_I (ed_var E3 rfl) (ed_var E3 rfl) (cmulR (by omega) h2) rfl) (ed_var E3 rfl) (by show (0 : Int) < p; omega) rfl) ea_nil)) fun σ4 H4 s4 E4 => ⟨Same.keepL (s3.trans s4), ?_⟩
      rw [foldl_take hc]
      exact E4.frg 5
    · rw [List.length_map, List.take_length] at E2
      refine s_retD (k := .num (valueAtP p sc cs place)) (ed_to (ed_var E2 rfl) (congrArg NestedKey.num (lawAt_eq (by omega) sc place cs))) fun v H3 s3 m => q v H3 ((s1.trans kp.same).trans s3) m

abbrev sLawDealt : Stmt := topS 49
abbrev nLawDealt : List Str := ["_law_p", "_law_many", "_law_secret", "_law_coins", "_law_person"]
theorem scLawDealt : FnScope ["_law_p", "_law_many", "_law_secret", "_law_coins", "_law_person"] ["_law_p", "_law_many", "_law_secret", "_law_coins"] (defScope sLawDealt) := ⟨rfl, rfl, rfl, by decide +kernel, rfl, by decide +kernel, by decide +kernel⟩
def spDealt (K : PySem.W.Frag) : Sp := fun vs H Q _ => ∃ (p s : Int) (many : Nat) (cs : List Int) (v1 v2 v3 : V) (a : Addr) (xs : List V), vs = [v1, v2, v3, .ref a] ∧ Nk K H v1 (.num p) ∧ Nk K H v2 (.num (many : Int)) ∧ Nk K H v3 (.num s) ∧ H a = some (.lst xs) ∧ NkAll K H xs (cs.map .num) ∧ 1 < p ∧ p < 1000 ∧ many < 900 ∧ cs.length < 900 ∧ RetD K (tupI (dealP p many s cs)) H Q
theorem ok_dealt (T : Gs K mg) (C__law_at : Cal P w K mg base "_law_at" 1 ["_law_p", "_law_coins", "_law_place"] (spAt K)) (d : Def K mg "_law_dealt" sLawDealt ["_law_p", "_law_many", "_law_secret", "_law_coins"]) : FnOk P w K mg base CX0 2 d.f d.fd ["_law_p", "_law_many", "_law_secret", "_law_coins"] (spDealt K) := by
  refine d.F.ok scLawDealt (fun vs H Q E h => ?_) (fun cdv A outer s H vs Q E hr h => ?_)
  · obtain ⟨p, sc, many, cs, v1, v2, v3, a, xs, rfl, _⟩ := h
    rfl
  · obtain ⟨p, sc, many, cs, v1, v2, v3, a, xs, rfl, n1, n2, n3, ha, hx, hp, hp2, hm, hz, q⟩ := h
    have E0 : Env K H (L2.start nLawDealt [v1, v2, v3, .ref a]) [.d (.num p), .d (.num (many : Int)), .d (.num sc), .v (.ref a), .u] := .cons ⟨_, rfl, n1⟩ (.cons ⟨_, rfl, n2⟩ (.cons ⟨_, rfl, n3⟩ (.cons rfl (.cons True.intro .nil))))
    refine ⟨_, pss_one (ps_ret (pe_callTy call_tuple_of (by rfl) T.z_tuple (by decide +kernel) (pa_cons (pe_lc (own := [("_law_person", 4)]) rfl scLawDealt.nd (pi_range1 (by rfl) T.z_range (pa_cons (pv 1) pa_nil)) (blkOk_by (by kernel_rfl)) (fun _ _ _ _ _ => pg_name (i := 4) scLawDealt.nd rfl (.inl rfl) (.inr rfl)) (fun _ _ _ _ _ => pts_nil) (fun _ _ _ _ _ => pe_cal C__law_at (hr.mono (by decide)) (by rfl) (pa_cons (pv 0) (pa_cons (pe_op (op_catAK (K := K) rfl) (pe_tup (pa_cons (pv 2) pa_nil)) (pe_callTy (call_tuple_ofK (K := K) rfl) (by rfl) T.z_tuple (by decide +kernel) (pa_cons (pv 3) pa_nil))) (pa_cons (pe_op op_add (pv 4) pe_int) pa_nil))))) pa_nil))), ?_⟩
    refine s_retD (ed_to (ed_tupleL (fun p ys H Q h q => ⟨p, ys, rfl, .inl ⟨h, q⟩⟩) (el_lc1 nk_ts (ew_range1 (n := (many : Int)) (ea_cons (ed_var E0 rfl) ea_nil) (by omega) (by omega)) E0 (by rw [rangeK_len]; omega) (by decide) (fun k => match k with | .num i => .num (valueAtP p sc cs (i + 1)) | _ => .none) fun k σ' H' hk s' E' => ?_)) (l := tupI (dealP p many sc cs)) ?_) fun v H1 s1 m => q v H1 s1 m
    · obtain ⟨i, hi, rfl⟩ := List.mem_map.mp hk
      have hi2 := List.mem_range.mp hi
      refine er_call (ea_cons (ed_var E' rfl) (ea_cons (k := tupI (sc :: cs)) (ed_catT (ed_tup (ea_cons (ed_var E' rfl) ea_nil) tiny1) (ed_tupleV (ks := cs.map .num) (fun p ys H Q h q => ⟨p, ys, rfl, .inl ⟨h, q⟩⟩) (.inl (.inl (s' _ _ ha))) (nkAll_mono hx (Same.ts s')) (ev_var E' rfl)) (by rw [List.length_map, List.length_singleton, sizeLine_eq]; omega)) (ea_cons (ed_I0 (ed_var E' rfl) ed_int rfl) ea_nil))) fun vs H2 Q s2 n q => ⟨p, sc, _, cs, n, hp, hp2, by omega, by omega, by omega, fun v H' s' n' => q v H' s' n'⟩
    · unfold rangeK tupI dealP
      rw [List.map_map, List.map_map]
      congr 1
      refine List.map_congr_left fun i _ => ?_
      show NestedKey.num (valueAtP p sc cs (0 + (i : Int) + 1)) = _
      rw [Int.zero_add]
      rfl

/-! ### _law_coin_count -/
abbrev sLawCoinCount : Stmt := topS 52
abbrev nLawCoinCount : List Str := ["_law_many", "_law_size", "_law_sheet", "_law_line"]
theorem scLawCoinCount : FnScope ["_law_many", "_law_size", "_law_sheet", "_law_line"] ["_law_many", "_law_size", "_law_sheet"] (defScope sLawCoinCount) := ⟨rfl, rfl, rfl, by decide +kernel, rfl, by decide +kernel, by decide +kernel⟩
def spCoinCount (K : PySem.W.Frag) : Sp := spCoinsFor K
theorem ok_coin_count (T : Gs K mg) (d : Def K mg "_law_coin_count" sLawCoinCount ["_law_many", "_law_size", "_law_sheet"]) : FnOk P w K mg base CX0 1 d.f d.fd ["_law_many", "_law_size", "_law_sheet"] (spCoinsFor K) := by
  refine d.F.ok scLawCoinCount (fun vs H Q E h => ?_) (fun cdv A outer s H vs Q E hr h => ?_)
  · obtain ⟨m, sz, rs, h, _⟩ := h
    have e := plen h
    exact e
  · obtain ⟨many, size, rs, h, h8, hm, hz, q⟩ := h
    have E0 := env_start (N := nLawCoinCount) h
    refine ⟨_, pss_one (ps_ret (pe_callB (cr_sum rfl) (by rfl) T.z_sum (by decide +kernel) (pa_cons (pe_lc (own := [("_law_line", 3)]) rfl scLawCoinCount.nd (pi_tup (pv 2)) (blkOk_by (by kernel_rfl)) (fun _ _ _ _ _ => pg_name (i := 3) scLawCoinCount.nd rfl (.inl rfl) (.inr rfl)) (fun _ _ _ _ _ => pts_nil) (fun _ _ _ _ _ => pe_ifExp (pt_cmpR op_eq (pe_ix (ix_tupK (K := K) rfl) (pv 3) pe_int (fun _ _ => rfl)) pe_str (nomark _)) (pv 1) (pe_ifExp (pt_cmpR op_eq (pe_ix (ix_tupK (K := K) rfl) (pv 3) pe_int (fun _ _ => rfl)) pe_str (nomark _)) (pe_op op_mul (pv 0) (pv 1)) pe_int))) pa_nil))), ?_⟩
    have hmap : (rs.map rowK).map (coinsK many size) = (rs.map (coinsRow many size)).map .num := by
      rw [List.map_map, List.map_map]
      refine List.map_congr_left fun r _ => ?_
      cases r <;> rfl
    refine s_retD (ed_sum (ns := rs.map (coinsRow many size)) (fun a bs H Q h q => ⟨a, bs, rfl, h, q⟩) (hmap ▸ el_lc1 nk_ts (ew_tup (es_tup (ed_var E0 rfl))) E0 (by rw [List.length_map]; omega) (by decide) (coinsK many size) fun k σ' H' hk s' E' => ?_)) fun v H1 s1 n => q v H1 s1 n
    obtain ⟨r, hr, rfl⟩ := List.mem_map.mp hk
    cases r with
    | own a => exact er_if (b := true) (et_key (s := "own") (ed_var E' rfl) ⟨_, rfl⟩ (by decide)) (fun _ => ed_var E' rfl) (fun z => by cases z)
    | number a => exact er_if (b := false) (et_key (s := "number") (ed_var E' rfl) ⟨_, rfl⟩ (by decide)) (fun z => by cases z) fun _ => er_if (b := false) (et_key (s := "number") (ed_var E' rfl) ⟨_, rfl⟩ (by decide)) (fun z => by cases z) fun _ => ed_int
    | sum a b => exact er_if (b := false) (et_key (s := "sum") (ed_var E' rfl) ⟨_, rfl⟩ (by decide)) (fun z => by cases z) fun _ => er_if (b := false) (et_key (s := "sum") (ed_var E' rfl) ⟨_, rfl⟩ (by decide)) (fun z => by cases z) fun _ => ed_int
    | times a b => exact er_if (b := false) (et_key (s := "times") (ed_var E' rfl) ⟨_, rfl⟩ (by decide)) (fun z => by cases z) fun _ => er_if (b := true) (et_key (s := "times") (ed_var E' rfl) ⟨_, rfl⟩ (by decide)) (fun _ => ed_I (ed_var E' rfl) (ed_var E' rfl) (cmulR (by omega) (by omega)) rfl) fun z => by cases z
end
end NM
namespace NM
open PySem PySem.Spec PyProof.Rows L2
section
variable {P : Program} {w : World} {K : PySem.W.Frag} {mg : Str → Option Value} {base : Heap} {σ : L2.St} {H : Hp}
/-! ### _law_rows -/
abbrev sLawRows : Stmt := topS 47
abbrev nLawRows : List Str := ["_law_sizes", "_law_found", "_law_size", "_law_later", "_law_things", "_law_thing"]
theorem scLawRows : FnScope ["_law_sizes", "_law_found", "_law_size", "_law_later", "_law_things", "_law_thing"] ["_law_sizes"] (defScope sLawRows) := ⟨rfl, rfl, rfl, by decide +kernel, rfl, by decide +kernel, by decide +kernel⟩
theorem allStep_take {F : List (List Int)} {p : Int} {j : Nat} {t : List Int} (h : F[j]? = some t) : allStep (F.take (j + 1)) p = allStep (F.take j) p ++ (List.range p.toNat).map fun (i : Nat) => t ++ [(i : Int)] := by
  unfold allStep
  rw [List.take_add_one, h, List.flatMap_append]
  congr 1
  show [t].flatMap _ = _
  rw [List.flatMap_cons, List.flatMap_nil, List.append_nil]
theorem ok_rows (T : Gs K mg) (d : Def K mg "_law_rows" sLawRows ["_law_sizes"]) : FnOk P w K mg base CX0 1 d.f d.fd ["_law_sizes"] (spAllThings K) := by
  refine d.F.ok scLawRows (fun vs H Q E h => ?_) (fun cdv A outer s H vs Q E hr h => ?_)
  · obtain ⟨p, n, h, _⟩ := h
    have e := plen h
    exact e
  · obtain ⟨p, n, h, hp, hp2, hn, hz, q⟩ := h
    have E0 := env_start (N := nLawRows) h
    refine ⟨_, pss_cons (ps_set (i := 1) scLawRows.nd rfl (.inl rfl) (pe_lst (pa_cons (pe_tup pa_nil) pa_nil)))
      (pss_cons (ps_for PassesOwn.never rfl (pi_tup (pv 0)) (pg_name (i := 2) scLawRows.nd rfl (.inl rfl)) (pss_cons (ps_set (i := 3) scLawRows.nd rfl (.inl rfl) (pe_lst pa_nil))
      (pss_cons (ps_for PassesOwn.never rfl (pi_list (pv 1)) (pg_name (i := 4) scLawRows.nd rfl (.inr rfl)) (pss_one (ps_set (i := 3) scLawRows.nd rfl (.inl rfl) (pe_op op_cat (pv 3) (pe_lc (own := [("_law_thing", 5)]) rfl scLawRows.nd (pi_range1 (by rfl) T.z_range (pa_cons (pv 2) pa_nil)) (blkOk_by (by kernel_rfl)) (fun _ _ _ _ _ => pg_name (i := 5) scLawRows.nd rfl (.inl rfl) (.inr rfl)) (fun _ _ _ _ _ => pts_nil) (fun _ _ _ _ _ => pe_op (op_catAK (K := K) rfl) (pv 4) (pe_tup (pa_cons (pv 5) pa_nil))))))))
      (pss_one (ps_set (i := 1) scLawRows.nd rfl (.inl rfl) (pv 3))))))
      (pss_one (ps_ret (pv 1)))), ?_⟩
    refine q_setL E0 (el_lst (ea_cons (ed_tup ea_nil (Nat.zero_le _)) ea_nil) (by decide)) fun l ws σ1 H1 hl0 s1 el nl E1 => ?_
    refine q_for (L := []) (ks := (List.replicate n p).map NestedKey.num) (ew_tup (es_tup (ed_var E1 rfl))) MutL.nil (fun _ h => nomatch h)
      (fun i σ' H' => ∃ l ws, H l = none ∧ H' l = some (.lst ws) ∧ NkAll K H' ws ((allP (List.replicate i p)).map tupI) ∧ Env K H' σ' [.d (tupI (List.replicate n p)), .v (.ref l), .u, .u, .u, .u])
      (fun H2 s2 => ⟨l, ws, hl0, s2 _ _ el, nkAll_mono nl (Same.ts s2), E1.ts (Same.ts s2)⟩) (fun i k σ2 H2 hk kp ⟨l2, ws2, h2, e2, n2, E2⟩ x H3 s3 nx => ?_) (fun σ2 H2 kp ⟨l2, ws2, h2, e2, n2, E2⟩ => ?_)
    · rw [List.map_replicate] at hk
      have hi : i < n := by
        have h := (List.getElem?_eq_some_iff.mp hk).1
        rw [List.length_replicate] at h
        exact h
      rw [List.getElem?_replicate, if_pos hi] at hk
      cases hk
      have E3 := (E2.ts (Same.ts s3)).setD nx 2
      have hlen : (allP (List.replicate (i + 1) p)).length = p.toNat ^ (i + 1) := by
        show ((List.replicate (i + 1) p).foldl allStep [[]]).length = _
        rw [all_len]; simp
      have hstep : allP (List.replicate (i + 1) p) = allStep (allP (List.replicate i p)) p := by
        unfold allP
        rw [List.replicate_succ', List.foldl_append]; rfl
      have hpow : p.toNat ^ (i + 1) ≤ p.toNat ^ n := Nat.pow_le_pow_right (by omega) (by omega)
      have hle : ∀ t ∈ allP (List.replicate i p), t.length = i := fun t ht => by
        have := all_lens (p := p) i [[]] 0 (fun t h => by rw [List.mem_singleton.mp h]; rfl) t ht
        omega
      rw [hstep, allStep_len] at hlen
      have e3 := s3 _ _ e2
      have n3 := nkAll_mono n2 (Same.ts (K := K) s3)
      have s13 : Same H1 H3 := kp.same.trans s3
      rw [hstep]
      generalize allP (List.replicate i p) = F at *
      refine q_setL E3 (el_lst ea_nil (Nat.zero_le _)) fun l4 ws4 σ4 H4 h4 s4 e4 n4 E4 => ?_
      cases n4
      refine q_for (L := []) (ks := F.map tupI) (ew_list (es_list (.inl (.inl (s4 _ _ e3))) (nkAll_mono n3 (Same.ts s4)) (ev_var E4 rfl))) MutL.nil (fun _ _ h => nomatch h)
        (fun j σ' H' => ∃ l ws, H3 l = none ∧ H' l = some (.lst ws) ∧ NkAll K H' ws ((allStep (F.take j) p).map tupI) ∧ Env K H' σ' [.d (tupI (List.replicate n p)), .v (.ref l2), .d (.num p), .v (.ref l), .u, .u])
        (fun H5 s5 => ⟨l4, [], h4, s5 _ _ e4, .nil, E4.ts (Same.ts s5)⟩) (fun j k σ5 H5 hk kp5 ⟨l5, ws5, h5, e5, n5, E5⟩ x H6 s6 nx => ?_) (fun σ5 H5 kp5 ⟨l5, ws5, h5, e5, n5, E5⟩ => ?_)
      · rw [List.getElem?_map] at hk
        obtain ⟨t, ht, rfl⟩ := Option.map_eq_some_iff.mp hk
        have htl := hle t (List.mem_of_getElem? ht)
        have hj : j < F.length := (List.getElem?_eq_some_iff.mp ht).1
        have E6 := (E5.ts (Same.ts s6)).setD nx 4
        have hb : (allStep (F.take j) p).length + p.toNat ≤ F.length * p.toNat := by
          rw [allStep_len, List.length_take, Nat.min_eq_left (Nat.le_of_lt hj)]
          have := Nat.mul_le_mul_right p.toNat (show j + 1 ≤ F.length from hj)
          rw [Nat.succ_mul] at this; exact this
        refine s_setL E6 (ks := (allStep (F.take (j + 1)) p).map tupI) ?_ fun l7 ws7 σ7 H7 h7 s7 e7 n7 E7 => ⟨Same.keepL (s6.trans s7), l7, ws7, (s4.trans (kp5.same.trans s6)).free h7, e7, n7, (E7.frg 4).frg 5⟩
        rw [allStep_take ht, List.map_append]
        refine el_cat (s6 _ _ e5) (nkAll_mono n5 (Same.ts s6)) (ev_var E6 rfl) ?_ (by rw [List.length_map, List.length_map, List.length_map, List.length_range]; omega)
        have hv : (rangeK 0 p.toNat).map (catK (tupI t)) = ((List.range p.toNat).map fun (i : Nat) => t ++ [(i : Int)]).map tupI := by
          unfold rangeK
          rw [List.map_map, List.map_map]
          refine List.map_congr_left fun i _ => ?_
          show catK (tupI t) (.num (0 + (i : Int))) = _
          rw [Int.zero_add, catK_I]; rfl
        rw [← hv]
        refine el_lc1 nk_ts (ew_range1 (n := p) (ea_cons (ed_var E6 rfl) ea_nil) (by omega) (by omega)) E6 (by rw [rangeK_len]; omega) (by decide) (catK (tupI t)) fun k σ' H' hk s' E' => ?_
        exact ed_catT (ed_var E' rfl) (ed_tup (ea_cons (ed_var E' rfl) ea_nil) tiny1) (by rw [List.length_map, List.length_singleton, sizeLine_eq]; omega)
      · rw [List.length_map, List.take_length] at n5
        have s35 : Same H3 H5 := s4.trans kp5.same
        refine s_setV E5 (ev_var E5 rfl) fun σ6 H6 s6 E6 => ⟨Same.keepL (s3.trans (s35.trans s6)), l5, ws5, (s1.trans s13).free h5, s6 _ _ e5, nkAll_mono n5 (Same.ts s6), (((E6.frg 2).frg 3).frg 4).frg 5⟩
    · rw [List.length_map, List.length_replicate] at n2
      have sE : Same H1 H2 := kp.same
      exact ev_var E2 rfl H2 (Same.refl _) _ fun v H3 s3 ev => by
        subst ev
        exact q l2 ws2 H3 h2 ((s1.trans sE).trans s3) (s3 _ _ e2) (nkAll_mono n2 (Same.ts s3))

/-! ### _law_gauge -/
abbrev sLawGauge : Stmt := topS 50
abbrev nLawGauge : List Str := ["_law_p", "_law_many", "_law_found", "_law_place", "_law_top", "_law_low", "_law_other", "_law_number"]
theorem scLawGauge : FnScope ["_law_p", "_law_many", "_law_found", "_law_place", "_law_top", "_law_low", "_law_other", "_law_number"] ["_law_p", "_law_many"] (defScope sLawGauge) := ⟨rfl, rfl, rfl, by decide +kernel, rfl, by decide +kernel, by decide +kernel⟩
def gTL (p a : Int) (pl : List Int) : Int × Int := pl.foldl (wStep p a) (1, 1)
def gHit (p top low : Int) : NK → Bool
  | .num n => decide (n * low % p = top)
  | _ => false
theorem gauge_hit : ∀ p : Int, p = 5 ∨ p = 7 → ∀ many : Nat, 2 ≤ many → many ≤ 4 → ∀ a ∈ places many, (rangeK 0 p.toNat).filter (gHit p (gTL p a (places many)).1 (gTL p a (places many)).2) = [.num (wOne p (places many) a)] := by
  intro p hp many h2 h4
  have hm : many = 2 ∨ many = 3 ∨ many = 4 := by omega
  rcases hp with rfl | rfl <;> rcases hm with rfl | rfl | rfl <;> decide +kernel
def spGauge (K : PySem.W.Frag) : Sp := fun vs H Q _ => ∃ (p : Int) (many : Nat), NkAll K H vs [.num p, .num (many : Int)] ∧ pIn p ∧ 2 ≤ many ∧ many ≤ 4 ∧ RetL K ((weightsP p (places many)).map .num) H Q
theorem ok_gauge (T : Gs K mg) (d : Def K mg "_law_gauge" sLawGauge ["_law_p", "_law_many"]) : FnOk P w K mg base CX0 1 d.f d.fd ["_law_p", "_law_many"] (spGauge K) := by
  refine d.F.ok scLawGauge (fun vs H Q E h => ?_) (fun cdv A outer s H vs Q E hr h => ?_)
  · obtain ⟨p, n, h, _⟩ := h
    have e := plen h
    exact e
  · obtain ⟨p, many, h, hp, hm2, hm4, q⟩ := h
    have E0 := env_start (N := nLawGauge) h
    have hpl := hp.lt
    refine ⟨_, pss_cons (ps_set (i := 2) scLawGauge.nd rfl (.inl rfl) (pe_lst pa_nil))
      (pss_cons (ps_for PassesOwn.never rfl (pi_range2 (by rfl) T.z_range (pa_cons pe_int (pa_cons (pe_op op_add (pv 1) pe_int) pa_nil))) (pg_name (i := 3) scLawGauge.nd rfl (.inl rfl)) (pss_cons (ps_asg (pe_tup (pa_cons pe_int (pa_cons pe_int pa_nil))) (pg_tupK (K := K) (n := 2) rfl rfl (pgs_cons (pg_name (i := 4) scLawGauge.nd rfl (.inr rfl)) (pgs_cons (pg_name (i := 5) scLawGauge.nd rfl (.inr rfl)) pgs_nil))))
      (pss_cons (ps_for PassesOwn.never rfl (pi_range2 (by rfl) T.z_range (pa_cons pe_int (pa_cons (pe_op op_add (pv 1) pe_int) pa_nil))) (pg_name (i := 6) scLawGauge.nd rfl (.inl rfl)) (pss_one (ps_if (pt_cmpR op_ne (pv 6) (pv 3) (nomark _)) (pss_one (ps_asg (pe_tup (pa_cons (pe_op op_mod (pe_op op_mul (pv 4) (pv 6)) (pv 0)) (pa_cons (pe_op op_mod (pe_op op_mul (pv 5) (pe_op op_sub (pv 6) (pv 3))) (pv 0)) pa_nil))) (pg_tupK (K := K) (n := 2) rfl rfl (pgs_cons (pg_name (i := 4) scLawGauge.nd rfl (.inr rfl)) (pgs_cons (pg_name (i := 5) scLawGauge.nd rfl (.inr rfl)) pgs_nil))))) pss_nil)))
      (pss_one (ps_expr (pe_bm PySem.F.plainAttrs_list PySem.F.slot_list_append PySem.F.type_list_append mt_append (pv 2) (pa_cons (pe_ix ix_list (pe_lc (own := [("_law_number", 7)]) rfl scLawGauge.nd (pi_range1 (by rfl) T.z_range (pa_cons (pv 0) pa_nil)) (blkOk_by (by kernel_rfl)) (fun _ _ _ _ _ => pg_name (i := 7) scLawGauge.nd rfl (.inl rfl) (.inr rfl)) (fun _ _ _ _ _ => pts_one (pt_cmpR op_eq (pe_op op_mod (pe_op op_mul (pv 7) (pv 5)) (pv 0)) (pv 4) (nomark _))) (fun _ _ _ _ _ => pv 7)) pe_int (fun _ _ => rfl)) pa_nil)))))))
      (pss_one (ps_ret (pv 2)))), ?_⟩
    have hpl2 : ∀ x ∈ places many, 0 ≤ x ∧ x < 900 := fun x hx => by
      unfold places at hx
      obtain ⟨i, hi, rfl⟩ := List.mem_map.mp hx
      have := List.mem_range.mp hi
      omega
    refine q_setL E0 (el_lst ea_nil (Nat.zero_le _)) fun l ws σ1 H1 hl0 s1 el nl E1 => ?_
    cases nl
    refine q_for (src := []) (L := [l]) (ks := (places many).map .num) (rangeK_places many ▸ ew_range2 (m := 1) (n := (many : Int) + 1) (ea_cons ed_int (ea_cons (ed_I0 (ed_var E1 rfl) ed_int rfl) ea_nil)) (by omega)) (MutL.one el) (fun _ h => nomatch h)
      (fun i σ' H' => Env K H' σ' [.d (.num p), .d (.num (many : Int)), .v (.ref l), .u, .u, .u, .u, .u] ∧ ∃ ws, H' l = some (.lst ws) ∧ NkAll K H' ws ((((places many).take i).map (wOne p (places many))).map .num))
      (fun H2 s2 => ⟨E1.ts (Same.ts s2), [], s2 _ _ el, .nil⟩) (fun i k σ2 H2 hk kp ⟨E2, ws, ew, nw⟩ x H3 s3 nx => ?_) (fun σ2 H2 kp ⟨E2, ws, ew, nw⟩ => ?_)
    · rw [List.getElem?_map] at hk
      obtain ⟨a, ha, rfl⟩ := Option.map_eq_some_iff.mp hk
      have ham := hpl2 a (List.mem_of_getElem? ha)
      have hhit := gauge_hit p hp many hm2 hm4 a (List.mem_of_getElem? ha)
      have E3 := (E2.ts (Same.ts s3)).setD nx 3
      refine q_asgT E3 (ed_tup (ea_cons ed_int (ea_cons ed_int ea_nil)) (by decide)) tg_pair fun σ4 H4 s4 E4 => ?_
      refine q_for (src := []) (L := []) (ks := (places many).map .num) (rangeK_places many ▸ ew_range2 (m := 1) (n := (many : Int) + 1) (ea_cons ed_int (ea_cons (ed_I0 (ed_var E4 rfl) ed_int rfl) ea_nil)) (by omega)) MutL.nil (fun _ h => nomatch h)
        (fun j σ' H' => Env K H' σ' [.d (.num p), .d (.num (many : Int)), .v (.ref l), .d (.num a), .d (.num (gTL p a ((places many).take j)).1), .d (.num (gTL p a ((places many).take j)).2), .u, .u])
        (fun H5 s5 => E4.ts (Same.ts s5)) (fun j k σ5 H5 hk5 kp5 E5 x H6 s6 nx6 => ?_) (fun σ5 H5 kp5 E5 => ?_)
      · rw [List.getElem?_map] at hk5
        obtain ⟨o, ho, rfl⟩ := Option.map_eq_some_iff.mp hk5
        have hom := hpl2 o (List.mem_of_getElem? ho)
        have E6 := (E5.ts (Same.ts s6)).setD nx6 6
        have hstep : gTL p a ((places many).take (j + 1)) = wStep p a (gTL p a ((places many).take j)) o := foldl_take ho
        have hlt := wStep_lt (p := p) (a := a) (by omega) ((places many).take j) (1, 1) ⟨by decide, by show (1 : Int) < p; omega⟩ ⟨by decide, by show (1 : Int) < p; omega⟩
        have hlt : (0 ≤ (gTL p a ((places many).take j)).1 ∧ (gTL p a ((places many).take j)).1 < p) ∧ (0 ≤ (gTL p a ((places many).take j)).2 ∧ (gTL p a ((places many).take j)).2 < p) := hlt
        rw [hstep]
        generalize gTL p a ((places many).take j) = t at *
        by_cases hne : o = a
        · refine s_ifN (et_test (ev_ne (b := false) (ed_var E6 rfl) (ed_var E6 rfl) rfl rfl rfl (by show (!decide (V.int o = V.int a)) = false; rw [hne]; simp))) fun H7 s7 => ⟨Same.keepL (s6.trans s7), ?_⟩
          rw [show wStep p a t o = t from if_pos hne]
          exact (E6.ts (Same.ts s7)).frg 6
        · refine s_ifT (et_test (ev_ne (b := true) (ed_var E6 rfl) (ed_var E6 rfl) rfl rfl rfl (by show (!decide (V.int o = V.int a)) = true; rw [decide_eq_false (fun z => hne (V.int.inj z))]; rfl))) fun H7 s7 => ?_
          have E7 := E6.ts (Same.ts (K := K) s7)
          refine s_asgT E7 (ed_tup (ea_cons (ed_I (ed_I (ed_var E7 rfl) (ed_var E7 rfl) (cmulR (by omega) (by omega)) rfl) (ed_var E7 rfl) (by show (0 : Int) < p; omega) rfl) (ea_cons (ed_I (ed_I (ed_var E7 rfl) (ed_I0 (ed_var E7 rfl) (ed_var E7 rfl) rfl) (cmulR (by omega) (by omega)) rfl) (ed_var E7 rfl) (by show (0 : Int) < p; omega) rfl) ea_nil)) tiny2) tg_pair fun σ8 H8 s8 E8 => ⟨Same.keepL ((s6.trans s7).trans s8), ?_⟩
          rw [show wStep p a t o = (t.1 * o % p, t.2 * (o - a) % p) from if_neg hne]
          exact E8.frg 6
      · rw [List.length_map, List.take_length] at E5
        have hlt := wStep_lt (p := p) (a := a) (by omega) (places many) (1, 1) ⟨by decide, by show (1 : Int) < p; omega⟩ ⟨by decide, by show (1 : Int) < p; omega⟩
        have hlt : (0 ≤ (gTL p a (places many)).1 ∧ (gTL p a (places many)).1 < p) ∧ (0 ≤ (gTL p a (places many)).2 ∧ (gTL p a (places many)).2 < p) := hlt
        have s45 : Same H4 H5 := kp5.same
        have ew5 := s45 _ _ (s4 _ _ (s3 _ _ ew))
        have nw5 := nkAll_mono nw (Same.ts (K := K) ((s3.trans s4).trans s45))
        generalize gTL p a (places many) = t at *
        refine s_app ew5 nw5 (ev_var E5 rfl) (k := .num (wOne p (places many) a)) (ed_ixN (ks := [.num (wOne p (places many) a)]) ?_ ed_int (j := 0) rfl rfl) ?_ fun ws' H6 kp6 ts6 e6 n6 => ⟨(Same.keepL ((s3.trans s4).trans s45)).trans kp6, ((E5.ts ts6).frg 3).frg 4 |>.frg 5 |>.frg 6 |>.frg 7, ws', e6, ?_⟩
        · rw [← hhit, ← List.map_id ((rangeK 0 p.toNat).filter _)]
          refine el_lc1T nk_ts (ew_range1 (n := p) (ea_cons (ed_var E5 rfl) ea_nil) (by omega) (by omega)) E5 (by rw [rangeK_len]; omega) (by decide) (gHit p t.1 t.2) id (fun k σ' H' hk s' E' => ?_) (fun k σ' H' hk s' _ E' => ed_var E' rfl)
          obtain ⟨i, hi, rfl⟩ := List.mem_map.mp hk
          have hi2 := List.mem_range.mp hi
          refine et_test (ev_eq (ed_I (ed_I (ed_var E' rfl) (ed_var E' rfl) (cmulR (by omega) (by omega)) rfl) (ed_var E' rfl) (by show (0 : Int) < p; omega) rfl) (ed_var E' rfl) rfl rfl rfl ?_)
          show decide (V.int ((0 + (i : Int)) * t.2 % p) = V.int t.1) = decide ((0 + (i : Int)) * t.2 % p = t.1)
          exact decide_eq_decide.mpr ⟨fun z => V.int.inj z, fun z => congrArg V.int z⟩
        · rw [plen nw5, List.length_map, List.length_map, List.length_take]; unfold places; rw [List.length_map, List.length_range]; omega
        · rw [List.take_add_one, ha, List.map_append, List.map_append]
          exact n6
    · rw [List.length_map, List.take_length] at nw
      have hs0 : Same H H2 := KeepL.back s1 (fun b hb => by rw [show b = l by simpa using hb]; exact hl0) kp
      exact ev_var E2 rfl H2 (Same.refl _) _ fun v H3 s3 ev => by
        subst ev
        exact q l ws H3 hl0 (hs0.trans s3) (s3 _ _ ew) (nkAll_mono nw (Same.ts s3))
end
end NM
namespace NM
open PySem PySem.Spec PyProof.Rows L2
section
variable {P : Program} {w : World} {K : PySem.W.Frag} {mg : Str → Option Value} {base : Heap} {σ : L2.St} {H : Hp}
/-! ### _law_shared -/
abbrev sLawShared : Stmt := topS 51
abbrev nLawShared : List Str := ["_law_p", "_law_many", "_law_size", "_law_sheet", "_law_things", "_law_coins", "_law_found", "_law_told", "_law_left", "_law_gauge_here", "_law_line", "_law_one", "_law_other", "_law_given", "_law_person", "_law_giver"]
theorem scLawShared : FnScope ["_law_p", "_law_many", "_law_size", "_law_sheet", "_law_things", "_law_coins", "_law_found", "_law_told", "_law_left", "_law_gauge_here", "_law_line", "_law_one", "_law_other", "_law_given", "_law_person", "_law_giver"] ["_law_p", "_law_many", "_law_size", "_law_sheet", "_law_things", "_law_coins"] (defScope sLawShared) := ⟨rfl, rfl, rfl, by decide +kernel, rfl, by decide +kernel, by decide +kernel⟩
def toldK (d : List (List Int)) (r : Row) : NK := .tup [tupI (giversOf d.length r), linesK d]
def toldL (dl : List (List (List Int))) (rs : List Row) : List NK := List.zipWith toldK dl (rs.filter isDeal)
theorem dealt_len {p : Int} {many size : Nat} {things coins : List Int} : ∀ (rs : List Row) (s : RunS), (rs.foldl (rsStep p many size things coins) s).dealt.length = s.dealt.length + (rs.filter isDeal).length
  | [], s => rfl
  | r :: rs, s => by
    rw [List.foldl_cons, dealt_len rs]
    cases r <;> simp [rsStep, List.filter_cons, isDeal] <;> omega
theorem toldL_app {dl : List (List (List Int))} {rs : List Row} {i : Nat} {r : Row} {d : List (List Int)} (hl : dl.length = ((rs.take i).filter isDeal).length) (h : rs[i]? = some r) (hd : isDeal r = true) : toldL (dl ++ [d]) (rs.take (i + 1)) = toldL dl (rs.take i) ++ [toldK d r] := by
  unfold toldL
  rw [List.take_add_one, h, List.filter_append]
  show List.zipWith toldK (dl ++ [d]) ((rs.take i).filter isDeal ++ [r].filter isDeal) = _
  rw [List.filter_cons, if_pos hd, List.filter_nil, List.zipWith_append hl]
  rfl
theorem toldL_not {dl : List (List (List Int))} {rs : List Row} {i : Nat} {r : Row} (h : rs[i]? = some r) (hd : isDeal r = false) : toldL dl (rs.take (i + 1)) = toldL dl (rs.take i) := by
  unfold toldL
  rw [List.take_add_one, h, List.filter_append]
  show List.zipWith toldK dl ((rs.take i).filter isDeal ++ [r].filter isDeal) = _
  rw [List.filter_cons, if_neg (by rw [hd]; exact Bool.false_ne_true), List.filter_nil, List.append_nil]
/-- l[:n], l a list that stands -/
theorem el_take {ta th : TE} {l : Addr} {vs : List V} {cs : List Int} {n : Nat} (hl : SqL K H l vs) (hn : NkAll K H vs (cs.map .num)) (h : Ev ta σ H (.ref l)) (h2 : Ed K th σ H (.num (n : Int))) : EL (Nk K) (tSl (rSlL K) ta tNoPart (tPart th)) σ H ((cs.take n).map .num) :=
  el_slL (lo := none) (hi := some (n : Int)) hl hn h eo_none (eo_some h2) (by
    rw [HT.sIx_none, HT.sIx_nat, List.drop_zero, Nat.sub_zero, List.map_take]
    by_cases hh : n ≤ (cs.map NestedKey.num).length
    · rw [Nat.min_eq_left hh]
    · rw [Nat.min_eq_right (by omega), List.take_length, List.take_of_length_le (by omega)])
theorem el_drop {ta tl : TE} {l : Addr} {vs : List V} {cs : List Int} {n : Nat} (hl : SqL K H l vs) (hn : NkAll K H vs (cs.map .num)) (h : Ev ta σ H (.ref l)) (h2 : Ed K tl σ H (.num (n : Int))) : EL (Nk K) (tSl (rSlL K) ta (tPart tl) tNoPart) σ H ((cs.drop n).map .num) :=
  el_slL (lo := some (n : Int)) (hi := none) hl hn h (eo_some h2) eo_none (by
    rw [HT.sIx_none, HT.sIx_nat, List.map_drop]
    by_cases hh : n ≤ (cs.map NestedKey.num).length
    · rw [Nat.min_eq_left hh, List.take_of_length_le (by rw [List.length_drop]; omega)]
    · rw [Nat.min_eq_right (by omega), List.drop_length, List.drop_eq_nil_of_le (by omega : (cs.map NestedKey.num).length ≤ n), List.take_nil])
/-- found, told, left = ([], [], list(t)) -/
theorem q_three {tz : L2.TS} {D : Ends} {Γ : List Sl} {i j l : Nat} {te : TE} {ks : List NK} {r : List V → Hp → VK → Prop} (hr : ∀ p ys H Q, SqT K H p ys → (∀ l, H l = none → Q (.ref l) (upd H l (.lst ys))) → r [.ref p] H Q) (E0 : Env K H σ Γ) (h : Ed K te σ H (.tup ks))
    (c : ∀ lf ld ll ws σ1 H1, H lf = none → H ld = none → H ll = none → lf ≠ ld → lf ≠ ll → ld ≠ ll → Same H H1 → H1 lf = some (.lst []) → H1 ld = some (.lst []) → H1 ll = some (.lst ws) → NkAll K H1 ws ks → Env K H1 σ1 (((Γ.set i (.v (.ref lf))).set j (.v (.ref ld))).set l (.v (.ref ll))) → tz D σ1 H1) :
    tSeq (tPar3 i j l (tCons (tLst tNil) (tCons (tLst tNil) (tCons (tCB r (tCons te tNil)) tNil)))) tz D σ H := by
  refine ⟨Nat.zero_le _, fun lf hf => ?_⟩
  refine ⟨Nat.zero_le _, fun ld hd => ?_⟩
  have ne : lf ≠ ld := fun e => by rw [← e, upd_same] at hd; cases hd
  have hd' : H ld = none := by rw [← hd, upd_ne (Ne.symm ne)]
  have s1 : Same H (upd (upd H lf (.lst [])) ld (.lst [])) := (same_new hf).trans (same_new hd)
  have ef : (upd (upd H lf (.lst [])) ld (.lst [])) lf = some (.lst []) := by rw [upd_ne ne, upd_same]
  have ed : (upd (upd H lf (.lst [])) ld (.lst [])) ld = some (.lst []) := upd_same
  refine h _ s1 _ fun x H2 s2 n2 => ?_
  obtain ⟨a, xs, rfl, hs, hn⟩ := n2.tup_eq
  refine hr a xs H2 _ hs fun ll hl => ?_
  have s3 := same_new (o := .lst xs) hl
  have s03 := (s1.trans s2).trans s3
  exact ⟨_, _, _, rfl, c lf ld ll xs _ _ hf hd' ((s1.trans s2).free hl) ne (ne_of_none (s2 _ _ ef) hl) (ne_of_none (s2 _ _ ed) hl) s03 (s3 _ _ (s2 _ _ ef)) (s3 _ _ (s2 _ _ ed)) upd_same (nkAll_mono hn (Same.ts s3)) ((((E0.ts (Same.ts s03)).setV _ i).setV _ j).setV _ l)⟩
theorem ed_dealt {E : XK} {t1 t2 t3 t4 : TE} {p s : Int} {many : Nat} {cs : List Int} (h1 : Ed K t1 σ H (.num p)) (h2 : Ed K t2 σ H (.num (many : Int))) (h3 : Ed K t3 σ H (.num s)) (h4 : EL (Nk K) t4 σ H (cs.map .num)) (hp : 1 < p) (hp2 : p < 1000) (hm : many < 900) (hz : cs.length < 900) :
    Ed K (tCall (spDealt K) [] E (tCons t1 (tCons t2 (tCons t3 (tCons t4 tNil))))) σ H (tupI (dealP p many s cs)) :=
  er_callP (eap_consD h1 (eap_consD h2 (eap_consD h3 (eap_consL h4 eap_nil)))) fun vs H2 Q s2 hv q => by
    obtain ⟨v1, r1, rfl, n1, v2, r2, rfl, n2, v3, r3, rfl, n3, a, xs, r4, rfl, ha, na, rfl⟩ := hv
    exact ⟨p, s, many, cs, v1, v2, v3, a, xs, rfl, n1, n2, n3, ha, na, hp, hp2, hm, hz, fun v H' s' n' => q v H' s' n'⟩
theorem s_retP {te tl : TE} {D : Ends} {k : NK} {l : Addr} (h : Ed K te σ H k) (hl : Ev tl σ H (.ref l)) (c : ∀ t v H', Same H H' → H' t = some (.tup [v, .ref l]) → Nk K H' v k → D.rt (.ref t) H') : tRet (tTup (tCons te (tCons tl tNil))) D σ H :=
  h H (Same.refl H) _ fun v H4 s4 n4 => hl H4 s4 _ fun v2 H5 s5 ev => by
    have ev : v2 = .ref l := ev
    subst ev
    refine ⟨Nat.le_of_ble_eq_true rfl, fun t ht => ?_⟩
    have s6 := same_new (o := .tup [v, .ref l]) ht
    exact c t v _ ((s4.trans s5).trans s6) upd_same (n4.mono (Same.ts (s5.trans s6)))
def RetS (K : PySem.W.Frag) (sh : List Int) (told : List NK) (H : Hp) (Q : VK) : Prop := ∀ t v l ws H', Same H H' → H' t = some (.tup [v, .ref l]) → Nk K H' v (tupI sh) → H l = none → H' l = some (.lst ws) → NkAll K H' ws told → Q (.ref t) H'
def spShared (K : PySem.W.Frag) : Sp := fun vs H Q _ => ∃ (p : Int) (many size : Nat) (rs : List Row) (things coins : List Int), NkAll K H vs [.num p, .num (many : Int), .num (size : Int), sheetK rs, tupI things, tupI coins] ∧ pIn p ∧ 2 ≤ many ∧ many ≤ 4 ∧ 1 ≤ size ∧ size ≤ 2 ∧ SheetOk many rs ∧ things.length = many ∧ coins.length < 900 ∧
  RetS K (sharesP p many size rs things coins) (toldL (dealtP p many size rs things coins) rs) H Q
theorem gsum_eq (ws : List Int) (sm : List (List Int)) (i many : Nat) (h1 : ws.length = many) (h2 : sm.length = many) : (List.range many).map (fun g => ws.getD g 0 * (sm.getD g []).getD i 0) = List.zipWith (fun (w : Int) (one : List Int) => w * one.getD i 0) ws sm := by
  apply List.ext_getElem?
  intro g
  rw [List.getElem?_map, List.getElem?_zipWith]
  by_cases hg : g < many
  · rw [List.getElem?_range hg, List.getElem?_eq_getElem (by omega : g < ws.length), List.getElem?_eq_getElem (by omega : g < sm.length)]
    show some (ws.getD g 0 * (sm.getD g []).getD i 0) = some (ws[g] * (sm[g]).getD i 0)
    rw [show ws.getD g 0 = ws[g] by rw [List.getD_eq_getElem?_getD, List.getElem?_eq_getElem (by omega : g < ws.length)]; rfl, show sm.getD g [] = sm[g] by rw [List.getD_eq_getElem?_getD, List.getElem?_eq_getElem (by omega : g < sm.length)]; rfl]
  · rw [List.getElem?_eq_none (by rw [List.length_range]; omega), List.getElem?_eq_none (by omega : ws.length ≤ g)]
    rfl
def gmK (ws : List Int) (sm : List (List Int)) (i : Nat) : NK → NK
  | .num g => .num (ws.getD g.toNat 0 * (sm.getD g.toNat []).getD i 0)
  | _ => .none
abbrev LsEnv (p : Int) (many size : Nat) (rs : List Row) (things coins : List Int) (lf lt ll lg : Addr) (tl : List Sl) : List Sl :=
  [.d (.num p), .d (.num (many : Int)), .d (.num (size : Int)), .d (sheetK rs), .d (tupI things), .d (tupI coins), .v (.ref lf), .v (.ref lt), .v (.ref ll), .v (.ref lg)] ++ tl
theorem ok_shared (T : Gs K mg) (C__law_gauge : Cal P w K mg base "_law_gauge" 1 ["_law_p", "_law_many"] (spGauge K)) (C__law_dealt : Cal P w K mg base "_law_dealt" 2 ["_law_p", "_law_many", "_law_secret", "_law_coins"] (spDealt K))
    (d : Def K mg "_law_shared" sLawShared ["_law_p", "_law_many", "_law_size", "_law_sheet", "_law_things", "_law_coins"]) : FnOk P w K mg base CX0 3 d.f d.fd ["_law_p", "_law_many", "_law_size", "_law_sheet", "_law_things", "_law_coins"] (spShared K) := by
  refine d.F.ok scLawShared (fun vs H Q E h => ?_) (fun cdv A outer s H vs Q E hr h => ?_)
  · obtain ⟨p, m, sz, rs, ns, cs, h, _⟩ := h
    have e := plen h
    exact e
  · obtain ⟨p, many, size, rs, things, coins, h, hp, hm, hm2, hz1, hz2, hs, hl, hc, q⟩ := h
    have E0 := env_start (N := nLawShared) h
    have hpl := hp.lt
    have hu := room_hu hr
    refine ⟨_, pss_cons (ps_par3 (i := 6) (j := 7) (l := 8) (by rfl) scLawShared.nd rfl rfl rfl (by decide) (by decide) (by decide) rfl rfl rfl (pa_cons (pe_lst pa_nil) (pa_cons (pe_lst pa_nil) (pa_cons (pe_callTy call_list_of (by rfl) T.z_list (by decide +kernel) (pa_cons (pv 5) pa_nil)) pa_nil))) (by rfl))
      (pss_cons (ps_set (i := 9) scLawShared.nd rfl (.inr rfl) (pe_cal C__law_gauge (hr.mono (by decide)) (by rfl) (pa_cons (pv 0) (pa_cons (pv 1) pa_nil))))
      (pss_cons (ps_for PassesOwn.never rfl (pi_tup (pv 3)) (pg_name (i := 10) scLawShared.nd rfl (.inl rfl)) (pss_one (ps_if (pt_cmpR op_eq (pe_ix ix_tup (pv 10) pe_int (fun _ _ => rfl)) pe_str (nomark _)) (pss_cons (ps_expr (pe_bm PySem.F.plainAttrs_list PySem.F.slot_list_append PySem.F.type_list_append mt_append (pv 6) (pa_cons (pe_cal C__law_dealt (hr.mono (by decide)) (by rfl) (pa_cons (pv 0) (pa_cons (pv 1) (pa_cons (pe_ix ix_tup (pv 4) (pe_ix ix_tup (pv 10) pe_int (fun _ _ => rfl)) (fun _ _ => rfl)) (pa_cons (pe_slice sl_list (pv 8) po_none (po_some (pv 2))) pa_nil))))) pa_nil)))
      (pss_cons (ps_expr (pe_bm PySem.F.plainAttrs_list PySem.F.slot_list_append PySem.F.type_list_append mt_append (pv 7) (pa_cons (pe_tup (pa_cons (pe_tup (pa_cons (pe_ix ix_tup (pv 10) pe_int (fun _ _ => rfl)) pa_nil)) (pa_cons (pe_tup (pa_cons (pe_ix ix_list (pv 6) (pe_un un_neg pe_int) (fun _ _ => rfl)) pa_nil)) pa_nil))) pa_nil)))
      (pss_one (ps_set (i := 8) scLawShared.nd rfl (.inl rfl) (pe_slice sl_list (pv 8) (po_some (pv 2)) po_none))))) (pss_one (ps_if (pt_cmpR op_eq (pe_ix ix_tup (pv 10) pe_int (fun _ _ => rfl)) pe_str (nomark _)) (pss_one (ps_expr (pe_bm PySem.F.plainAttrs_list PySem.F.slot_list_append PySem.F.type_list_append mt_append (pv 6) (pa_cons (pe_op op_repT (pe_tup (pa_cons (pe_op op_mod (pe_ix ix_tup (pv 10) pe_int (fun _ _ => rfl)) (pv 0)) pa_nil)) (pv 1)) pa_nil)))) (pss_one (ps_if (pt_cmpR op_eq (pe_ix ix_tup (pv 10) pe_int (fun _ _ => rfl)) pe_str (nomark _)) (pss_one (ps_expr (pe_bm PySem.F.plainAttrs_list PySem.F.slot_list_append PySem.F.type_list_append mt_append (pv 6) (pa_cons (pe_callTy call_tuple_of (by rfl) T.z_tuple (by decide +kernel) (pa_cons (pe_lc (own := [("_law_one", 11), ("_law_other", 12)]) rfl scLawShared.nd (pi_zipB true true (by rfl) T.z_zip (pa_cons (pe_ix ix_list (pv 6) (pe_ix ix_tup (pv 10) pe_int (fun _ _ => rfl)) (fun _ _ => rfl)) (pa_cons (pe_ix ix_list (pv 6) (pe_ix ix_tup (pv 10) pe_int (fun _ _ => rfl)) (fun _ _ => rfl)) pa_nil))) (blkOk_by (by kernel_rfl)) (fun _ _ _ _ _ => pg_tupK (K := K) (n := 2) rfl rfl (pgs_cons (pg_name (i := 11) scLawShared.nd rfl (.inl rfl) (.inr rfl)) (pgs_cons (pg_name (i := 12) scLawShared.nd rfl (.inl rfl) (.inr rfl)) pgs_nil))) (fun _ _ _ _ _ => pts_nil) (fun _ _ _ _ _ => pe_op op_mod (pe_op op_add (pv 11) (pv 12)) (pv 0))) pa_nil)) pa_nil)))) (pss_cons (ps_set (i := 13) scLawShared.nd rfl (.inr rfl) (pe_lst pa_nil))
      (pss_cons (ps_for PassesOwn.never rfl (pi_range1 (by rfl) T.z_range (pa_cons (pv 1) pa_nil)) (pg_name (i := 14) scLawShared.nd rfl (.inl rfl)) (pss_cons (ps_expr (pe_bm PySem.F.plainAttrs_list PySem.F.slot_list_append PySem.F.type_list_append mt_append (pv 13) (pa_cons (pe_cal C__law_dealt (hr.mono (by decide)) (by rfl) (pa_cons (pv 0) (pa_cons (pv 1) (pa_cons (pe_op op_mod (pe_op op_mul (pe_ix ix_tup (pe_ix ix_list (pv 6) (pe_ix ix_tup (pv 10) pe_int (fun _ _ => rfl)) (fun _ _ => rfl)) (pv 14) (fun _ _ => rfl)) (pe_ix ix_tup (pe_ix ix_list (pv 6) (pe_ix ix_tup (pv 10) pe_int (fun _ _ => rfl)) (fun _ _ => rfl)) (pv 14) (fun _ _ => rfl))) (pv 0)) (pa_cons (pe_slice sl_list (pv 8) po_none (po_some (pv 2))) pa_nil))))) pa_nil)))
      (pss_one (ps_set (i := 8) scLawShared.nd rfl (.inl rfl) (pe_slice sl_list (pv 8) (po_some (pv 2)) po_none)))))
      (pss_cons (ps_expr (pe_bm PySem.F.plainAttrs_list PySem.F.slot_list_append PySem.F.type_list_append mt_append (pv 7) (pa_cons (pe_tup (pa_cons (pe_tupRg (by rfl) (by rfl) T.z_tuple (prg_1 (by rfl) T.z_range (pv 1))) (pa_cons (pe_callTy call_tuple_of (by rfl) T.z_tuple (by decide +kernel) (pa_cons (pv 13) pa_nil)) pa_nil))) pa_nil)))
      (pss_one (ps_expr (pe_bm PySem.F.plainAttrs_list PySem.F.slot_list_append PySem.F.type_list_append mt_append (pv 6) (pa_cons (pe_callTy call_tuple_of (by rfl) T.z_tuple (by decide +kernel) (pa_cons (pe_lc (own := [("_law_person", 14)]) rfl scLawShared.nd (pi_range1 (by rfl) T.z_range (pa_cons (pv 1) pa_nil)) (blkOk_by (by kernel_rfl)) (fun _ _ _ _ _ => pg_name (i := 14) scLawShared.nd rfl (.inr rfl) (.inl rfl)) (fun _ _ _ _ _ => pts_nil) (fun _ _ _ _ _ => pe_op op_mod (pe_callB (cr_sumK (K := K) rfl rfl) (by rfl) T.z_sum (by decide +kernel) (pa_cons (pe_lc (own := [("_law_giver", 15)]) rfl scLawShared.nd (pi_range1 (by rfl) T.z_range (pa_cons (pv 1) pa_nil)) (blkOk_by (by kernel_rfl)) (fun _ _ _ _ _ => pg_name (i := 15) scLawShared.nd rfl (.inl rfl) (.inr rfl)) (fun _ _ _ _ _ => pts_nil) (fun _ _ _ _ _ => pe_op op_mul (pe_ix (ix_listK (K := K) rfl) (pv 9) (pv 15) (fun _ _ => rfl)) (pe_ix (ix_tupK (K := K) rfl) (pe_ix (ix_listK (K := K) rfl) (pv 13) (pv 15) (fun _ _ => rfl)) (pv 14) (fun _ _ => rfl)))) pa_nil)) (pv 0))) pa_nil)) pa_nil))))))))))))))
      (pss_one (ps_ret (pe_tup (pa_cons (pe_ix ix_list (pv 6) (pe_un un_neg pe_int) (fun _ _ => rfl)) (pa_cons (pv 7) pa_nil))))))), ?_⟩
    refine q_three (K := K) (ks := coins.map .num) (fun p ys H Q h q => ⟨p, ys, rfl, .inr h, q⟩) E0 (ed_var E0 rfl) fun lf lt ll0 w0 σ1 H1 nf nt nl nft nfl ntl s1 ef et el n0 E1 => ?_
    refine q_setL E1 (ks := (weightsP p (places many)).map .num) (el_call (ea_cons (ed_var E1 rfl) (ea_cons (ed_var E1 rfl) ea_nil)) fun vs H2 Q s nn q => ⟨p, many, nn, hp, hm, hm2, q⟩) fun lg wg σ2 H2 ng s2 eg n2 E2 => ?_
    have ef2 := s2 _ _ ef
    have et2 := s2 _ _ et
    have nfg : lf ≠ lg := ne_of_none ef ng
    have ntg : lt ≠ lg := ne_of_none et ng
    have ll2 := s2 _ _ el
    have nn2 := nkAll_mono n0 (Same.ts (K := K) s2)
    have s02 : Same H H2 := s1.trans s2
    refine q_for (L := [lf, lt]) (ks := rs.map rowK) (ew_tup (es_tup (ed_var E2 rfl))) (.cons ef2 (MutL.one et2)) (fun _ h => nomatch h)
      (fun i σ' H' => ∃ ll wl wf wt, ll ≠ lf ∧ ll ≠ lt ∧ H ll = none ∧ Env K H' σ' (LsEnv p many size rs things coins lf lt ll lg [.u, .u, .u, .u, .u, .u]) ∧ H' lf = some (.lst wf) ∧ NkAll K H' wf ((rsAll p many size (rs.take i) things coins).found.map tupI) ∧ H' lt = some (.lst wt) ∧ NkAll K H' wt (toldL (rsAll p many size (rs.take i) things coins).dealt (rs.take i)) ∧ H' ll = some (.lst wl) ∧ NkAll K H' wl ((coins.drop (rsAll p many size (rs.take i) things coins).pos).map .num))
      (fun H3 s3 => ⟨ll0, w0, [], [], nfl.symm, ntl.symm, nl, E2.ts (Same.ts s3), s3 _ _ ef2, .nil, s3 _ _ et2, .nil, s3 _ _ ll2, nkAll_mono nn2 (Same.ts s3)⟩) (fun i k σ3 H3 hk kp ⟨ll, wl, wf, wt, nlf, nlt, nl0, E3, e3f, n3f, e3t, n3t, e3l, n3l⟩ x H4 s4 nx => ?_) (fun σ3 H3 kp ⟨ll, wl, wf, wt, nlf, nlt, nl0, E3, e3f, n3f, e3t, n3t, e3l, n3l⟩ => ?_)
    · rw [List.getElem?_map] at hk
      obtain ⟨r, hri, rfl⟩ := Option.map_eq_some_iff.mp hk
      have ro := hs.2.2 i r hri
      have hi : i < rs.length := (List.getElem?_eq_some_iff.mp hri).1
      have hi8 := hs.2.1
      have E4 := (E3.ts (Same.ts s4)).setD nx 10
      obtain ⟨hgood, hflen⟩ := rsAll_good (size := size) (things := things) (coins := coins) (p := p) (by omega) hs.2.2 i (Nat.le_of_lt hi)
      have hstep : rsAll p many size (rs.take (i + 1)) things coins = rsStep p many size things coins (rsAll p many size (rs.take i) things coins) r := foldl_take hri
      have hdl : (rsAll p many size (rs.take i) things coins).dealt.length = ((rs.take i).filter isDeal).length := by
        have := dealt_len (p := p) (many := many) (size := size) (things := things) (coins := coins) (rs.take i) ⟨[], [], 0⟩
        rw [show (RunS.mk [] [] 0).dealt.length = 0 from rfl, Nat.zero_add] at this
        exact this
      have hdl2 : ((rs.take i).filter isDeal).length ≤ i := Nat.le_trans (List.length_filter_le _ _) (by rw [List.length_take]; omega)
      rw [hstep]
      generalize rsAll p many size (rs.take i) things coins = S at *
      have e4f := s4 _ _ e3f
      have e4t := s4 _ _ e3t
      have e4l := s4 _ _ e3l
      have n4f := nkAll_mono n3f (Same.ts (K := K) s4)
      have n4t := nkAll_mono n3t (Same.ts (K := K) s4)
      have n4l := nkAll_mono n3l (Same.ts (K := K) s4)
      have t24 : TSt K H2 H4 := (kp.ts (.cons ef2 (MutL.one et2))).trans (Same.ts s4)
      have e4g : H4 lg = some (.lst wg) := s4 _ _ (kp lg _ (by simpa using ⟨nfg.symm, ntg.symm⟩) eg)
      have n4g := nkAll_mono n2 t24
      have lwf : wf.length < 100000 := by rw [plen n3f, List.length_map, hflen]; omega
      have lwt : wt.length < 100000 := by rw [plen n3t, toldL, List.length_zipWith]; omega
      have E4 : Env K H4 (σ3.set 10 (some x)) (LsEnv p many size rs things coins lf lt ll lg [.d (rowK r), .u, .u, .u, .u, .u]) := E4
      cases r with
      | own a =>
        refine s_ifT (et_key (s := "own") (b := true) (ed_var E4 rfl) ⟨_, rfl⟩ (by decide)) fun G1 t1 => ?_
        have F1 := E4.ts (Same.ts (K := K) t1)
        have s45 := t1
        have E5 := F1
        have e5f := s45 _ _ e4f
        have e5t := s45 _ _ e4t
        have e5l := s45 _ _ e4l
        have n5f := nkAll_mono n4f (Same.ts (K := K) s45)
        have n5t := nkAll_mono n4t (Same.ts (K := K) s45)
        have n5l := nkAll_mono n4l (Same.ts (K := K) s45)
        refine q_app e5f n5f (ev_var E5 rfl) (k := tupI (dealP p many (things.getD a 0) (cut coins S.pos size))) (ed_dealt (cs := cut coins S.pos size) (ed_var E5 rfl) (ed_var E5 rfl) (ed_ixT (ed_var E5 rfl) (ed_ixT (ed_var E5 rfl) ed_int (j := 1) rfl rfl) (j := a) rfl (get_getD (by rw [hl]; exact ro))) (el_take (cs := coins.drop S.pos) (.inl (.inl e5l)) n5l (ev_var E5 rfl) (ed_var E5 rfl)) (by omega) (by omega) (by omega) (by have := cut_len coins S.pos size; omega)) lwf fun ws6 H6 kp6 t6 e6 n6 => ?_
        have E6 := E5.ts t6
        have e6t : H6 lt = some (.lst wt) := kp6 lt _ (by simpa using nft.symm) e5t
        have e6l : H6 ll = some (.lst wl) := kp6 ll _ (by simpa using nlf) e5l
        refine q_app e6t (nkAll_mono n5t t6) (ev_var E6 rfl) (k := toldK [dealP p many (things.getD a 0) (cut coins S.pos size)] (.own a)) (ed_tup (ea_cons (ed_tup (ea_cons (ed_ixT (ed_var E6 rfl) ed_int (j := 1) rfl rfl) ea_nil) tiny1) (ea_cons (ed_tup (ea_cons (ed_lastL (.inl (.inl e6)) n6 (ev_var E6 rfl) (ed_neg ed_int rfl) rfl) ea_nil) tiny1) ea_nil)) tiny2) lwt fun ws7 H7 kp7 t7 e7 n7 => ?_
        have E7 := E6.ts t7
        have e7f : H7 lf = some (.lst ws6) := kp7 lf _ (by simpa using nft) e6
        have e7l : H7 ll = some (.lst wl) := kp7 ll _ (by simpa using nlt) e6l
        refine s_setL E7 (ks := ((coins.drop S.pos).drop size).map .num) (el_drop (.inl (.inl e7l)) (nkAll_mono (nkAll_mono n5l t6) t7) (ev_var E7 rfl) (ed_var E7 rfl)) fun l8 w8 σ8 H8 h8 s8 e8 n8 E8 => ⟨(((Same.keepL (s4.trans s45)).trans (kp6.mono (fun b hb => by rw [List.mem_singleton.mp hb]; simp))).trans (kp7.mono (fun b hb => by rw [List.mem_singleton.mp hb]; simp))).trans (Same.keepL s8), l8, w8, ws6, ws7, (ne_of_none e7f h8).symm, (ne_of_none e7 h8).symm, ?_, E8.frg 10, s8 _ _ e7f, ?_, s8 _ _ e7, ?_, e8, ?_⟩
        · have k0 : Same H H7 := KeepL.back (L := [lf, lt]) s02 (fun b hb => by
              rcases List.mem_cons.mp hb with e | hb
              · rw [e]; exact nf
              · rw [List.mem_singleton.mp hb]; exact nt) (((kp.trans (Same.keepL (s4.trans s45))).trans (kp6.mono (fun b hb => by rw [List.mem_singleton.mp hb]; simp))).trans (kp7.mono (fun b hb => by rw [List.mem_singleton.mp hb]; simp)))
          exact k0.free h8
        · show NkAll K H8 ws6 ((S.found ++ [_]).map tupI)
          rw [List.map_append]; exact nkAll_mono n6 (t7.trans (Same.ts s8))
        · show NkAll K H8 ws7 (toldL (S.dealt ++ [_]) _)
          rw [toldL_app hdl hri rfl]; exact nkAll_mono n7 (Same.ts s8)
        · show NkAll K H8 w8 ((coins.drop (S.pos + size)).map .num)
          rw [← List.drop_drop]; exact n8
      | number n =>
        refine s_ifF (et_key (s := "number") (b := false) (ed_var E4 rfl) ⟨_, rfl⟩ (by decide)) fun G1 t1 => ?_
        have F1 := E4.ts (Same.ts (K := K) t1)
        refine s_ifT (et_key (s := "number") (b := true) (ed_var F1 rfl) ⟨_, rfl⟩ (by decide)) fun G2 t2 => ?_
        have F2 := F1.ts (Same.ts (K := K) t2)
        have s45 := (t1.trans t2)
        have E5 := F2
        have e5f := s45 _ _ e4f
        have e5t := s45 _ _ e4t
        have e5l := s45 _ _ e4l
        have n5f := nkAll_mono n4f (Same.ts (K := K) s45)
        have n5t := nkAll_mono n4t (Same.ts (K := K) s45)
        have n5l := nkAll_mono n4l (Same.ts (K := K) s45)
        refine s_app e5f n5f (ev_var E5 rfl) (k := tupI (List.replicate many ((n : Int) % p))) (ed_to (ed_repT (ed_tup (ea_cons (ed_I (ed_ixT (ed_var E5 rfl) ed_int (j := 1) rfl rfl) (ed_var E5 rfl) (by show (0 : Int) < p; omega) rfl) ea_nil) tiny1) (ed_var E5 rfl) (by simp) (by omega) (by omega) (Nat.le_of_ble_eq_true rfl)) (rep_tupI _ _)) lwf fun ws6 H6 kp6 t6 e6 n6 => ⟨(Same.keepL (s4.trans s45)).trans (kp6.mono (fun b hb => by rw [List.mem_singleton.mp hb]; simp)), ll, wl, ws6, wt, nlf, nlt, nl0, ?_, e6, ?_, kp6 lt _ (by simpa using nft.symm) e5t, ?_, kp6 ll _ (by simpa using nlf) e5l, nkAll_mono n5l t6⟩
        · exact (E5.ts t6).frg 10
        · show NkAll K H6 ws6 ((S.found ++ [_]).map tupI)
          rw [List.map_append]; exact n6
        · rw [toldL_not hri rfl]; exact nkAll_mono n5t t6
      | sum a b =>
        refine s_ifF (et_key (s := "sum") (b := false) (ed_var E4 rfl) ⟨_, rfl⟩ (by decide)) fun G1 t1 => ?_
        have F1 := E4.ts (Same.ts (K := K) t1)
        refine s_ifF (et_key (s := "sum") (b := false) (ed_var F1 rfl) ⟨_, rfl⟩ (by decide)) fun G2 t2 => ?_
        have F2 := F1.ts (Same.ts (K := K) t2)
        refine s_ifT (et_key (s := "sum") (b := true) (ed_var F2 rfl) ⟨_, rfl⟩ (by decide)) fun G3 t3 => ?_
        have F3 := F2.ts (Same.ts (K := K) t3)
        have s45 := ((t1.trans t2).trans t3)
        have E5 := F3
        have e5f := s45 _ _ e4f
        have e5t := s45 _ _ e4t
        have e5l := s45 _ _ e4l
        have n5f := nkAll_mono n4f (Same.ts (K := K) s45)
        have n5t := nkAll_mono n4t (Same.ts (K := K) s45)
        have n5l := nkAll_mono n4l (Same.ts (K := K) s45)
        have ra := (hgood.getD (a := a) (by rw [hflen]; exact ro.1)).1
        have rb := (hgood.getD (a := b) (by rw [hflen]; exact ro.2)).1
        have ga := get_getDT (ns := S.found) (i := a) (by rw [hflen]; exact ro.1)
        have gb := get_getDT (ns := S.found) (i := b) (by rw [hflen]; exact ro.2)
        refine s_app e5f n5f (ev_var E5 rfl) (k := tupI (List.zipWith (fun x y => (x + y) % p) (S.found.getD a []) (S.found.getD b []))) (ed_to (ed_tupleL (fun p ys H Q h q => ⟨p, ys, rfl, .inl ⟨h, q⟩⟩) (el_lc2 nk_ts (ew_zip (es_tup (ks := (S.found.getD a []).map .num) (ed_ixL (.inl (.inl e5f)) n5f (ev_var E5 rfl) (ed_ixT (ed_var E5 rfl) ed_int (j := 1) rfl rfl) (j := a) rfl ga)) (es_tup (ks := (S.found.getD b []).map .num) (ed_ixL (.inl (.inl e5f)) n5f (ev_var E5 rfl) (ed_ixT (ed_var E5 rfl) ed_int (j := 2) rfl rfl) (j := b) rfl gb))) E5 (by rw [zipK, List.length_zipWith, List.length_map, List.length_map, ra, rb]; omega) (by decide) (by decide) zip_pairs (addK p) fun x1 y1 σ' H' hk s' E' => by obtain ⟨x, y, _, _, rfl, rfl⟩ := zipK_mem hk; exact ed_I (ed_I0 (ed_var E' rfl) (ed_var E' rfl) rfl) (ed_var E' rfl) (by show (0 : Int) < p; omega) rfl)) (by unfold tupI; rw [zipK_map (h := fun x y => NestedKey.num ((x + y) % p)) (fun x y => rfl), List.map_zipWith])) lwf fun ws6 H6 kp6 t6 e6 n6 => ⟨(Same.keepL (s4.trans s45)).trans (kp6.mono (fun b hb => by rw [List.mem_singleton.mp hb]; simp)), ll, wl, ws6, wt, nlf, nlt, nl0, ?_, e6, ?_, kp6 lt _ (by simpa using nft.symm) e5t, ?_, kp6 ll _ (by simpa using nlf) e5l, nkAll_mono n5l t6⟩
        · exact ((E5.ts t6).frg 10)
        · show NkAll K H6 ws6 ((S.found ++ [_]).map tupI)
          rw [List.map_append]; exact n6
        · rw [toldL_not hri rfl]; exact nkAll_mono n5t t6
      | times a b =>
        refine s_ifF (et_key (s := "times") (b := false) (ed_var E4 rfl) ⟨_, rfl⟩ (by decide)) fun G1 t1 => ?_
        have F1 := E4.ts (Same.ts (K := K) t1)
        refine s_ifF (et_key (s := "times") (b := false) (ed_var F1 rfl) ⟨_, rfl⟩ (by decide)) fun G2 t2 => ?_
        have F2 := F1.ts (Same.ts (K := K) t2)
        refine s_ifF (et_key (s := "times") (b := false) (ed_var F2 rfl) ⟨_, rfl⟩ (by decide)) fun G3 t3 => ?_
        have F3 := F2.ts (Same.ts (K := K) t3)
        have s45 := ((t1.trans t2).trans t3)
        have E5 := F3
        have e5f := s45 _ _ e4f
        have e5t := s45 _ _ e4t
        have e5l := s45 _ _ e4l
        have n5f := nkAll_mono n4f (Same.ts (K := K) s45)
        have n5t := nkAll_mono n4t (Same.ts (K := K) s45)
        have n5l := nkAll_mono n4l (Same.ts (K := K) s45)
        have ra := hgood.getD (a := a) (by rw [hflen]; exact ro.1)
        have rb := hgood.getD (a := b) (by rw [hflen]; exact ro.2)
        have ga := get_getDT (ns := S.found) (i := a) (by rw [hflen]; exact ro.1)
        have gb := get_getDT (ns := S.found) (i := b) (by rw [hflen]; exact ro.2)
        have hst : rsStep p many size things coins S (.times a b) = ⟨S.found ++ [mixP p many (weightsP p (places many)) (timesSome p many size coins (S.found.getD a []) (S.found.getD b []) S.pos)], S.dealt ++ [timesSome p many size coins (S.found.getD a []) (S.found.getD b []) S.pos], S.pos + many * size⟩ := rfl
        rw [hst]
        generalize S.found.getD a [] = fa at *
        generalize S.found.getD b [] = fb at *
        have e5g : _ = some (HO.lst wg) := s45 _ _ e4g
        have n5g := nkAll_mono n4g (Same.ts (K := K) s45)
        refine q_setL E5 (el_lst ea_nil (Nat.zero_le _)) fun lv ws σ6 H6 hv0 s6 ev6 nl6 E6 => ?_
        cases nl6
        have nfv : lf ≠ lv := ne_of_none e5f hv0
        have ntv : lt ≠ lv := ne_of_none e5t hv0
        have nlv : ll ≠ lv := ne_of_none e5l hv0
        have ngv : lg ≠ lv := ne_of_none e5g hv0
        have k5 : Same H _ := KeepL.back (L := [lf, lt]) s02 (fun b hb => by
              rcases List.mem_cons.mp hb with e | hb
              · rw [e]; exact nf
              · rw [List.mem_singleton.mp hb]; exact nt) (kp.trans (Same.keepL (s4.trans s45)))
        have e6f := s6 _ _ e5f
        have e6t := s6 _ _ e5t
        have e6l := s6 _ _ e5l
        have n6f := nkAll_mono n5f (Same.ts (K := K) s6)
        have n6l := nkAll_mono n5l (Same.ts (K := K) s6)
        have hts := timesSome_len p many size coins fa fb S.pos
        refine q_for (L := [lv]) (ks := rangeK 0 many) (ew_range1 (n := (many : Int)) (ea_cons (ed_var E6 rfl) ea_nil) (by omega) (by omega)) (MutL.one ev6) (fun _ h => nomatch h)
          (fun j σ' H' => ∃ ll wl, ll ≠ lf ∧ ll ≠ lt ∧ ll ≠ lv ∧ H ll = none ∧ Env K H' σ' (LsEnv p many size rs things coins lf lt ll lg [.d (rowK (.times a b)), .u, .u, .v (.ref lv), .u, .u]) ∧ H' ll = some (.lst wl) ∧ NkAll K H' wl ((coins.drop (S.pos + j * size)).map .num) ∧ ∃ ws, H' lv = some (.lst ws) ∧ NkAll K H' ws (((timesSome p many size coins fa fb S.pos).take j).map tupI))
          (fun H9 s9 => ⟨ll, wl, nlf, nlt, nlv, nl0, E6.ts (Same.ts s9), s9 _ _ e6l, by rw [show S.pos + 0 * size = S.pos by omega]; exact nkAll_mono n6l (Same.ts s9), [], s9 _ _ ev6, .nil⟩) (fun j k σ9 H9 hk kp9 ⟨lj, wj, njf, njt, njv, nj0, E9, e9l, n9l, ws, e9, n9⟩ x H10 s10 nx => ?_) (fun σ9 H9 kp9 ⟨lj, wj, njf, njt, njv, nj0, E9, e9l, n9l, ws, e9, n9⟩ => ?_)
        · have hj : j < many := by
            have h := (List.getElem?_eq_some_iff.mp hk).1
            rw [rangeK_len] at h; exact h
          rw [rangeK_get hj, Int.zero_add] at hk
          cases hk
          have t6 : TSt K H6 H10 := (kp9.ts (MutL.one ev6)).trans (Same.ts s10)
          have E10 := (E9.ts (Same.ts s10)).setD nx 14
          have e10f : H10 lf = some (.lst wf) := s10 _ _ (kp9 lf _ (by simpa using nfv) e6f)
          have e10t : H10 lt = some (.lst wt) := s10 _ _ (kp9 lt _ (by simpa using ntv) e6t)
          have n10f := nkAll_mono n6f t6
          have e10 := s10 _ _ e9
          have e10l := s10 _ _ e9l
          have n10 := nkAll_mono n9 (Same.ts (K := K) s10)
          have n10l := nkAll_mono n9l (Same.ts (K := K) s10)
          have gj := getD_in (by omega) rb.2 j
          refine q_app e10 n10 (ev_var E10 rfl) (k := tupI (dealP p many (fa.getD j 0 * fb.getD j 0 % p) (cut coins (S.pos + j * size) size))) (ed_dealt (cs := cut coins (S.pos + j * size) size) (ed_var E10 rfl) (ed_var E10 rfl) (ed_I (ed_I (ed_ixT (ks := fa.map .num) (ed_ixL (.inl (.inl e10f)) n10f (ev_var E10 rfl) (ed_ixT (ed_var E10 rfl) ed_int (j := 1) rfl rfl) (j := a) rfl ga) (ed_var E10 rfl) (j := j) rfl (get_getD (by rw [ra.1]; exact hj))) (ed_ixT (ks := fb.map .num) (ed_ixL (.inl (.inl e10f)) n10f (ev_var E10 rfl) (ed_ixT (ed_var E10 rfl) ed_int (j := 2) rfl rfl) (j := b) rfl gb) (ed_var E10 rfl) (j := j) rfl (get_getD (by rw [rb.1]; exact hj))) (cmulR (by omega) (by omega)) rfl) (ed_var E10 rfl) (by show (0 : Int) < p; omega) rfl) (el_take (cs := coins.drop (S.pos + j * size)) (.inl (.inl e10l)) n10l (ev_var E10 rfl) (ed_var E10 rfl)) (by omega) (by omega) (by omega) (by have := cut_len coins (S.pos + j * size) size; omega)) ?_ fun ws12 H12 kp12 t12 e12 n12 => ?_
          · rw [plen n10, List.length_map, List.length_take]; omega
          · have E12 := E10.ts t12
            have e12l : H12 lj = some (.lst wj) := kp12 lj _ (by simpa using njv) e10l
            have e12f : H12 lf = some (.lst wf) := kp12 lf _ (by simpa using nfv) e10f
            have e12t : H12 lt = some (.lst wt) := kp12 lt _ (by simpa using ntv) e10t
            have k12 : Same H H12 := KeepL.back (L := [lv]) (k5.trans s6) (fun b hb => by rw [List.mem_singleton.mp hb]; exact k5.free hv0) ((kp9.trans (Same.keepL s10)).trans kp12)
            refine s_setL E12 (ks := ((coins.drop (S.pos + j * size)).drop size).map .num) (el_drop (.inl (.inl e12l)) (nkAll_mono n10l t12) (ev_var E12 rfl) (ed_var E12 rfl)) fun l13 w13 σ13 H13 h13 s13 e13 n13 E13 => ⟨((Same.keepL s10).trans kp12).trans (Same.keepL s13), l13, w13, (ne_of_none e12f h13).symm, (ne_of_none e12t h13).symm, (ne_of_none e12 h13).symm, k12.free h13, E13.frg 14, e13, ?_, ws12, s13 _ _ e12, ?_⟩
            · rw [show S.pos + (j + 1) * size = (S.pos + j * size) + size by rw [Nat.succ_mul]; omega, ← List.drop_drop]
              exact n13
            · rw [timesSome_take hj, List.map_append]
              exact nkAll_mono n12 (Same.ts s13)
        · rw [rangeK_len] at n9 n9l
          rw [List.take_of_length_le (by rw [hts]; exact Nat.le_refl _)] at n9
          have t69 : TSt K H6 H9 := kp9.ts (MutL.one ev6)
          have t59 := (Same.ts (K := K) s6).trans t69
          have hin : ∀ one ∈ timesSome p many size coins fa fb S.pos, one.length = many ∧ inP p one := fun one ho => by
            unfold timesSome at ho
            obtain ⟨j, _, rfl⟩ := List.mem_map.mp ho
            exact ⟨dealP_len _ _ _ _, dealP_in (by omega) _ _ _⟩
          generalize timesSome p many size coins fa fb S.pos = sm at *
          have e9f : H9 lf = some (.lst wf) := kp9 lf _ (by simpa using nfv) e6f
          have e9t : H9 lt = some (.lst wt) := kp9 lt _ (by simpa using ntv) e6t
          have e9g : H9 lg = some (.lst wg) := kp9 lg _ (by simpa using ngv) (s6 _ _ e5g)
          have n9g := nkAll_mono n5g t59
          have eR : rangeK 0 ((many : Int)).toNat = (giversOf sm.length (.times a b)).map .num := by
            rw [hts]
            unfold rangeK giversOf
            rw [List.map_map, show ((many : Int)).toNat = many from rfl]
            refine List.map_congr_left fun i _ => ?_
            show NestedKey.num (0 + (i : Int)) = .num (i : Int)
            rw [Int.zero_add]
          refine q_app e9t (nkAll_mono n5t t59) (ev_var E9 rfl) (k := toldK sm (.times a b)) (ed_tup (ea_cons (ed_to (ed_tupRg (ed_var E9 rfl) (rgOk_small (by omega))) (congrArg NestedKey.tup eR)) (ea_cons (ed_tupleV (fun p ys H Q h q => ⟨p, ys, rfl, .inl ⟨h, q⟩⟩) (.inl (.inl e9)) n9 (ev_var E9 rfl)) ea_nil)) tiny2) lwt fun ws10 H10 kp10 t10 e10 n10 => ?_
          have E10 := E9.ts t10
          have e10v : H10 lv = some (.lst ws) := kp10 lv _ (by simpa using ntv.symm) e9
          have n10v := nkAll_mono n9 t10
          have e10g : H10 lg = some (.lst wg) := kp10 lg _ (by simpa using ntg.symm) e9g
          have n10g := nkAll_mono n9g t10
          have e10f : H10 lf = some (.lst wf) := kp10 lf _ (by simpa using nft) e9f
          have e10l : H10 lj = some (.lst wj) := kp10 lj _ (by simpa using njt) e9l
          have n10f := nkAll_mono n5f (t59.trans t10)
          have wl9 : (weightsP p (places many)).length = many := by rw [weightsP_len]; unfold places; rw [List.length_map, List.length_range]
          have kp4 : KeepL [lf, lt] H4 H9 := Same.keepL (KeepL.back (L := [lv]) (s45.trans s6) (fun b hb => by rw [List.mem_singleton.mp hb]; exact s45.free hv0) kp9)
          refine s_app e10f n10f (ev_var E10 rfl) (k := tupI (mixP p many (weightsP p (places many)) sm)) (ed_to (ed_tupleL (fun p ys H Q h q => ⟨p, ys, rfl, .inl ⟨h, q⟩⟩) (el_lc1 nk_ts (ew_range1 (n := (many : Int)) (ea_cons (ed_var E10 rfl) ea_nil) (by omega) (by omega)) E10 (by rw [rangeK_len]; omega) (by decide) (mixK p (weightsP p (places many)) sm) fun k σ' H' hk s' E' => ?_)) (mixK_eq _ _ _ _)) lwf fun ws11 H11 kp11 t11 e11 n11 => ⟨((Same.keepL s4).trans kp4).trans ((kp10.mono (fun b hb => by rw [List.mem_singleton.mp hb]; simp)).trans (kp11.mono (fun b hb => by rw [List.mem_singleton.mp hb]; simp))), lj, wj, ws11, ws10, njf, njt, nj0, (((E10.ts t11).frg 10).frg 13).frg 14 |>.frg 15, e11, ?_, kp11 lt _ (by simpa using nft.symm) e10, ?_, kp11 lj _ (by simpa using njf) e10l, nkAll_mono n9l (t10.trans t11)⟩
          · obtain ⟨i, hi, rfl⟩ := List.mem_map.mp hk
            have hi := List.mem_range.mp hi
            refine ed_I (ed_sum (ns := List.zipWith (fun (w : Int) (one : List Int) => w * one.getD (0 + (i : Int)).toNat 0) (weightsP p (places many)) sm) (fun a bs H Q h q => ⟨a, bs, rfl, h, q⟩) ?_) (ed_var E' rfl) (by show (0 : Int) < p; omega) rfl
            have ez : (rangeK 0 many).map (gmK (weightsP p (places many)) sm (0 + (i : Int)).toNat) = (List.zipWith (fun (w : Int) (one : List Int) => w * one.getD (0 + (i : Int)).toNat 0) (weightsP p (places many)) sm).map NestedKey.num := by
              rw [← gsum_eq _ _ _ many wl9 hts]
              unfold rangeK
              rw [List.map_map, List.map_map]
              refine List.map_congr_left fun g _ => ?_
              show gmK (weightsP p (places many)) sm (0 + (i : Int)).toNat (.num (0 + (g : Int))) = _
              rw [show (0 + (g : Int)) = (g : Int) from Int.zero_add _]; rfl
            rw [← ez]
            refine el_lc1 nk_ts (ew_range1 (n := (many : Int)) (ea_cons (ed_var E' rfl) ea_nil) (by omega) (by omega)) E' (by rw [rangeK_len]; omega) (by decide) (gmK (weightsP p (places many)) sm (0 + (i : Int)).toNat) fun k σ2' H2' hk2 s2' E2' => ?_
            obtain ⟨g, hg, rfl⟩ := List.mem_map.mp hk2
            have hg := List.mem_range.mp hg
            have s20 := s'.trans s2'
            have hgs : g < sm.length := by rw [hts]; exact hg
            have hyy := hin (sm.getD g []) (by rw [List.getD_eq_getElem?_getD, List.getElem?_eq_getElem hgs]; exact List.getElem_mem hgs)
            have hgb := getD_in (by omega) hyy.2 (0 + (i : Int)).toNat
            have hgg : (0 + (g : Int)).toNat = g := by omega
            show Ed K _ σ2' H2' (.num ((weightsP p (places many)).getD (0 + (g : Int)).toNat 0 * (sm.getD (0 + (g : Int)).toNat []).getD (0 + (i : Int)).toNat 0))
            rw [hgg]
            exact ed_I (ed_ixL (.inl (.inl (s20 _ _ e10g))) (nkAll_mono n10g (Same.ts s20)) (ev_var E2' rfl) (ed_var E2' rfl) (j := g) (by omega) (get_getD (by rw [wl9]; exact hg))) (ed_ixT (ks := (sm.getD g []).map .num) (ed_ixL (.inl (.inl (s20 _ _ e10v))) (nkAll_mono n10v (Same.ts s20)) (ev_var E2' rfl) (ed_var E2' rfl) (j := g) (by omega) (get_getDT hgs)) (ed_var E2' rfl) (j := (0 + (i : Int)).toNat) (by omega) (get_getD (by rw [hyy.1]; omega))) (cmulR (by omega) (by omega)) rfl
          · rw [List.map_append]; exact n11
          · rw [toldL_app hdl hri rfl]; exact nkAll_mono n10 t11
    · rw [List.length_map, List.take_length] at n3f n3t
      have hne : (rsAll p many size rs things coins).found ≠ [] := fun z => by
        have h9 := (rsAll_good (size := size) (things := things) (coins := coins) (p := p) (by omega) hs.2.2 rs.length (Nat.le_refl _)).2
        rw [List.take_length, z] at h9
        have := List.length_pos_iff.mpr hs.1
        simp at h9; omega
      rw [last_map (d := []) hne] at n3f
      have hb : Same H H3 := KeepL.back s02 (fun b hb => by
        rcases List.mem_cons.mp hb with e | hb
        · rw [e]; exact nf
        · rw [List.mem_singleton.mp hb]; exact nt) kp
      refine s_retP (ed_lastL (.inl (.inl e3f)) n3f (ev_var E3 rfl) (ed_neg ed_int rfl) rfl) (ev_var E3 rfl) fun t v H6 s6 e6 n6 => ?_
      exact q t v lt wt _ (hb.trans s6) e6 n6 nt (s6 _ _ e3t) (nkAll_mono n3t (Same.ts s6))
end
end NM
namespace NM
open PySem PySem.Spec PyProof.Rows L2
section
variable {P : Program} {w : World} {K : PySem.W.Frag} {mg : Str → Option Value} {base : Heap} {σ : L2.St} {H : Hp}
/-! ### _law_seen -/
abbrev sLawSeen : Stmt := topS 53
abbrev nLawSeen : List Str := ["_law_p", "_law_many", "_law_size", "_law_sheet", "_law_things", "_law_lot", "_law_due", "_law_coins", "_law_shares", "_law_told", "_law_some", "_law_givers", "_law_given", "_law_lines", "_law_giver", "_law_line", "_law_at_here"]
theorem scLawSeen : FnScope ["_law_p", "_law_many", "_law_size", "_law_sheet", "_law_things", "_law_lot", "_law_due", "_law_coins", "_law_shares", "_law_told", "_law_some", "_law_givers", "_law_given", "_law_lines", "_law_giver", "_law_line", "_law_at_here"] ["_law_p", "_law_many", "_law_size", "_law_sheet", "_law_things", "_law_lot"] (defScope sLawSeen) := ⟨rfl, rfl, rfl, by decide +kernel, rfl, by decide +kernel, by decide +kernel⟩
theorem q_setN {i : Nat} {tz : L2.TS} {D : Ends} {Γ : List Sl} (E : Env K H σ Γ) (c : ∀ d σ' H1, H d = none → Same H H1 → ND P w K H1 d [] → Env K H1 σ' (Γ.set i (.v (.ref d))) → tz D σ' H1) : tSeq (tAsg (tDNewN P w K) (gName i)) tz D σ H :=
  fun d H1 hd s nd => c d _ H1 hd s nd ((E.ts (Same.ts s)).setV (.ref d) i)
theorem q_sharedP {i j : Nat} {tz : L2.TS} {D : Ends} {Γ : List Sl} {sp : Sp} {E : XK} {ta : TA} {ks told : List NK} {sh : List Int} (E0 : Env K H σ Γ) (h : Ea K ta σ H ks) (hf : ∀ vs H2 Q, Same H H2 → NkAll K H2 vs ks → RetS K sh told H2 Q → sp vs H2 Q E)
    (c : ∀ l ws σ' H1, Same H H1 → H l = none → H1 l = some (.lst ws) → NkAll K H1 ws told → Env K H1 σ' ((Γ.set i (.d (tupI sh))).set j (.v (.ref l))) → tz D σ' H1) : tSeq (tAsg (tCall sp [] E ta) (gTup K 2 (gCons (gName i) (gCons (gName j) gNil)))) tz D σ H :=
  h H (Same.refl H) _ fun vs H2 s2 ns => by
    show sp (vs ++ []) H2 _ E
    rw [List.append_nil]
    refine hf vs H2 _ s2 ns fun t v l ws H3 s3 et nv hl el nl => ?_
    have s23 := s2.trans s3
    exact ⟨t, [v, .ref l], rfl, .inl (.inl et), rfl, _, _, rfl, _, _, rfl, rfl, c l ws _ H3 s23 (s2.free hl) el nl (((E0.ts (Same.ts s23)).setD nv i).setV (.ref l) j)⟩
def atK (lot : List Int) (g : Int) (line : List Int) : NK → NK
  | .num i => if (lot.contains g || lot.contains i) = true then .num (line.getD i.toNat 0) else .none
  | _ => .none
theorem atK_eq (lot : List Int) (g : Int) (line : List Int) {many : Nat} (hl : line.length = many) : NestedKey.tup ((rangeK 0 many).map (atK lot g line)) = seenLine lot g line := by
  unfold seenLine
  congr 1
  apply List.ext_getElem?
  intro i
  rw [List.getElem?_map, List.getElem?_map]
  by_cases hi : i < many
  · have h2 : (enumK (line.map NestedKey.num))[i]? = some (pairK (.num (i : Int)) (.num (line.getD i 0))) := by
      unfold enumK zipK
      rw [List.getElem?_zipWith, rangeK_get (by rw [List.length_map]; omega), get_getD (by omega), Int.zero_add]
    rw [rangeK_get hi, h2, Int.zero_add]
    rfl
  · rw [List.getElem?_eq_none (by rw [rangeK_len]; omega), List.getElem?_eq_none (by rw [enumK, zipK, List.length_zipWith, rangeK_len, List.length_map]; omega)]
    rfl
theorem zipWith_get {α β γ : Type} {f : α → β → γ} {l : List α} {m : List β} {i : Nat} {z : γ} (h : (List.zipWith f l m)[i]? = some z) : ∃ x y, l[i]? = some x ∧ m[i]? = some y ∧ z = f x y := by
  rw [List.getElem?_zipWith] at h
  split at h
  · rename_i x y h1 h2
    exact ⟨x, y, h1, h2, (Option.some.inj h).symm⟩
  · cases h
theorem ok_seen (T : Gs K mg) (C__law_coin_count : Cal P w K mg base "_law_coin_count" 1 ["_law_many", "_law_size", "_law_sheet"] (spCoinsFor K)) (C__law_rows : Cal P w K mg base "_law_rows" 1 ["_law_sizes"] (spAllThings K)) (C__law_shared : Cal P w K mg base "_law_shared" 3 ["_law_p", "_law_many", "_law_size", "_law_sheet", "_law_things", "_law_coins"] (spShared K))
    (d : Def K mg "_law_seen" sLawSeen ["_law_p", "_law_many", "_law_size", "_law_sheet", "_law_things", "_law_lot"]) : FnOk P w K mg base CX0 4 d.f d.fd ["_law_p", "_law_many", "_law_size", "_law_sheet", "_law_things", "_law_lot"] (spShareViews P w K) := by
  refine d.F.ok scLawSeen (fun vs H Q E h => ?_) (fun cdv A outer s H vs Q E hr h => ?_)
  · obtain ⟨p, m, sz, rs, ns, lot, n, h, _⟩ := h
    have e := plen h
    exact e
  · obtain ⟨p, many, size, rs, things, lot, n, h, ok, q⟩ := h
    have E0 := env_start (N := nLawSeen) h
    have hu := room_hu hr
    refine ⟨_, pss_cons (ps_set (i := 6) scLawSeen.nd rfl (.inl rfl) pe_dnewN)
      (pss_cons (ps_for PassesOwn.never rfl (pi_list (pe_cal C__law_rows (hr.mono (by decide)) (by rfl) (pa_cons (pe_op op_repT (pe_tup (pa_cons (pv 0) pa_nil)) (pe_cal C__law_coin_count (hr.mono (by decide)) (by rfl) (pa_cons (pv 1) (pa_cons (pv 2) (pa_cons (pv 3) pa_nil))))) pa_nil))) (pg_name (i := 7) scLawSeen.nd rfl (.inl rfl)) (pss_cons (ps_asg (pe_cal C__law_shared (hr.mono (by decide)) (by rfl) (pa_cons (pv 0) (pa_cons (pv 1) (pa_cons (pv 2) (pa_cons (pv 3) (pa_cons (pv 4) (pa_cons (pv 7) pa_nil))))))) (pg_tupK (K := K) (n := 2) rfl rfl (pgs_cons (pg_name (i := 8) scLawSeen.nd rfl (.inl rfl)) (pgs_cons (pg_name (i := 9) scLawSeen.nd rfl (.inl rfl)) pgs_nil))))
      (pss_cons (ps_set (i := 10) scLawSeen.nd rfl (.inl rfl) (pe_lst pa_nil))
      (pss_cons (ps_for PassesOwn.never rfl (pi_list (pv 9)) (pg_tupK (K := K) (n := 2) rfl rfl (pgs_cons (pg_name (i := 11) scLawSeen.nd rfl (.inl rfl)) (pgs_cons (pg_name (i := 12) scLawSeen.nd rfl (.inl rfl)) pgs_nil))) (pss_cons (ps_set (i := 13) scLawSeen.nd rfl (.inl rfl) (pe_lst pa_nil))
      (pss_cons (ps_for PassesOwn.never rfl (pi_zipB true true (by rfl) T.z_zip (pa_cons (pv 11) (pa_cons (pv 12) pa_nil))) (pg_tupK (K := K) (n := 2) rfl rfl (pgs_cons (pg_name (i := 14) scLawSeen.nd rfl (.inr rfl)) (pgs_cons (pg_name (i := 15) scLawSeen.nd rfl (.inr rfl)) pgs_nil))) (pss_one (ps_expr (pe_bm PySem.F.plainAttrs_list PySem.F.slot_list_append PySem.F.type_list_append mt_append (pv 13) (pa_cons (pe_callTy call_tuple_of (by rfl) T.z_tuple (by decide +kernel) (pa_cons (pe_lc (own := [("_law_at_here", 16)]) rfl scLawSeen.nd (pi_range1 (by rfl) T.z_range (pa_cons (pv 1) pa_nil)) (blkOk_by (by kernel_rfl)) (fun _ _ _ _ _ => pg_name (i := 16) scLawSeen.nd rfl (.inl rfl) (.inr rfl)) (fun _ _ _ _ _ => pts_nil) (fun _ _ _ _ _ => pe_ifExp (PW.pt (pw_or (pt_cmpR (op_in_seqK (K := K) rfl) (pv 14) (pv 5) (by rfl)) (pw_or1 (pt_cmpR (op_in_seqK (K := K) rfl) (pv 16) (pv 5) (by rfl))))) (pe_ix (ix_tupK (K := K) rfl) (pv 15) (pv 16) (fun _ _ => rfl)) pe_non)) pa_nil)) pa_nil)))))
      (pss_one (ps_expr (pe_bm PySem.F.plainAttrs_list PySem.F.slot_list_append PySem.F.type_list_append mt_append (pv 10) (pa_cons (pe_callTy call_tuple_of (by rfl) T.z_tuple (by decide +kernel) (pa_cons (pv 13) pa_nil)) pa_nil)))))))
      (pss_one (ps_asg (pe_op op_add (pe_dgetN2 hu (pv 6) (pe_tup (pa_cons (pe_callTy call_tuple_of (by rfl) T.z_tuple (by decide +kernel) (pa_cons (pv 10) pa_nil)) (pa_cons (pv 8) pa_nil))) pe_int ⟨rfl, rfl, rfl, rfl⟩) pe_int) (pg_sub (pv 6) (pe_tup (pa_cons (pe_callTy call_tuple_of (by rfl) T.z_tuple (by decide +kernel) (pa_cons (pv 10) pa_nil)) (pa_cons (pv 8) pa_nil))) (set_dictN hu))))))))
      (pss_one (ps_ret (pv 6)))), ?_⟩
    obtain ⟨hp, hm2, hm4, hz1, hz2, hs, hth, hlen, hlot, hen, hco, hn2, hn10, hpw⟩ := ok
    have hpl := hp.lt
    have hrs8 := hs.2.1
    refine q_setN E0 fun dd σ1 H1 nd s1 dr E1 => ?_
    have coins : ∀ {σ' : L2.St} {H' : Hp} {E : XK} {t1 t2 t3 : TE}, Ed K t1 σ' H' (.num (many : Int)) → Ed K t2 σ' H' (.num (size : Int)) → Ed K t3 σ' H' (sheetK rs) → Ed K (tCall (spCoinsFor K) [] E (tCons t1 (tCons t2 (tCons t3 tNil)))) σ' H' (.num (n : Int)) := fun h1 h2 h3 =>
      er_call (ea_cons h1 (ea_cons h2 (ea_cons h3 ea_nil))) fun vs H2 Q s nn q => ⟨many, size, rs, nn, hrs8, hm4, hz2, fun v H' s' n' => q v H' s' (by rw [← hco]; exact n')⟩
    obtain ⟨φ, hφ⟩ := dr.ext
    have hall : (allP (List.replicate n p)).length ≤ 800 := by
      show ((List.replicate n p).foldl allStep [[]]).length ≤ 800
      rw [all_len]; simpa using hpw
    refine q_for (L := [dd]) (ks := (allP (List.replicate n p)).map tupI) (ew_list (es_new (el_call (ea_cons (ed_to (ed_repT (ed_tup (ea_cons (ed_var E1 rfl) ea_nil) tiny1) (coins (ed_var E1 rfl) (ed_var E1 rfl) (ed_var E1 rfl)) (by simp) (by omega) (by omega) (Nat.le_of_ble_eq_true rfl)) (rep_tupI _ _)) ea_nil) fun vs H2 Q s nn q => ⟨p, n, nn, by omega, by omega, by omega, by omega, q⟩))) (MutL.oneX hφ) (fun _ h => nomatch h)
      (fun i σ' H' => Env K H' σ' [.d (.num p), .d (.num (many : Int)), .d (.num (size : Int)), .d (sheetK rs), .d (tupI things), .d (tupI lot), .v (.ref dd), .u, .u, .u, .u, .u, .u, .u, .u, .u, .u] ∧ ND P w K H' dd (tally ((viewsP p many size rs things lot n).take i)))
      (fun H8 s8 => ⟨E1.ts (Same.ts s8), dr.same s8⟩) (fun i k σ8 H8 hk kp8 ⟨E8, nd8⟩ x H9 s9 nx => ?_) (fun σ8 H8 kp8 ⟨E8, nd8⟩ => ?_)
    · rw [List.getElem?_map] at hk
      obtain ⟨cs, hcs, rfl⟩ := Option.map_eq_some_iff.mp hk
      have hcl : cs.length = n := by
        have := all_lens (p := p) n [[]] 0 (fun t h => by rw [List.mem_singleton.mp h]; rfl) cs (List.mem_of_getElem? hcs)
        omega
      have E9 := (E8.ts (Same.ts s9)).setD nx 7
      refine q_sharedP E9 (sh := sharesP p many size rs things cs) (told := toldL (dealtP p many size rs things cs) rs) (ea_cons (ed_var E9 rfl) (ea_cons (ed_var E9 rfl) (ea_cons (ed_var E9 rfl) (ea_cons (ed_var E9 rfl) (ea_cons (ed_var E9 rfl) (ea_cons (ed_var E9 rfl) ea_nil)))))) (fun vs H2 Q s nn q => ⟨p, many, size, rs, things, cs, nn, hp, hm2, hm4, hz1, hz2, hs, hlen, by omega, q⟩) fun lt wt σ10 H10 s10 nlt et nt E10 => ?_
      have gd : GoodD many (dealtP p many size rs things cs) := rsAll_goodD (by omega) rs ⟨[], [], 0⟩ (fun _ h => nomatch h)
      have hdl : (dealtP p many size rs things cs).length ≤ rs.length := by
        have := rsAll_dealt (p := p) (many := many) (size := size) (things := things) (coins := cs) rs ⟨[], [], 0⟩
        rw [show (RunS.mk [] [] 0).dealt.length = 0 from rfl, Nat.zero_add] at this
        exact this
      have hv : (viewsP p many size rs things lot n)[i]? = some (viewOf lot rs (dealtP p many size rs things cs) (sharesP p many size rs things cs)) := by
        unfold viewsP
        rw [List.getElem?_map, hcs]; rfl
      generalize dealtP p many size rs things cs = dl at *
      generalize sharesP p many size rs things cs = sh at *
      refine q_setL E10 (el_lst ea_nil (Nat.zero_le _)) fun ls ws σ11 H11 nls s11 es nl11 E11 => ?_
      cases nl11
      have nts : lt ≠ ls := ne_of_none et nls
      have et11 := s11 _ _ et
      have nt11 := nkAll_mono nt (Same.ts (K := K) s11)
      refine q_for (L := [ls]) (ks := toldL dl rs) (ew_list (es_list (.inl (.inl et11)) nt11 (ev_var E11 rfl))) (MutL.one es) (fun b hb hm => nts (by rw [← (by simpa using hb : b = lt)]; simpa using hm))
        (fun j σ' H' => Env K H' σ' [.d (.num p), .d (.num (many : Int)), .d (.num (size : Int)), .d (sheetK rs), .d (tupI things), .d (tupI lot), .v (.ref dd), .u, .d (tupI sh), .v (.ref lt), .v (.ref ls), .u, .u, .u, .u, .u, .u] ∧ ∃ ws, H' ls = some (.lst ws) ∧ NkAll K H' ws ((List.zipWith (fun d r => seenRow lot (giversOf d.length r) d) dl (rs.filter isDeal)).take j))
        (fun H12 s12 => ⟨(E11.ts (Same.ts s12)).frg 7, [], s12 _ _ es, .nil⟩) (fun j k σ12 H12 hk12 kp12 ⟨E12, ws, e12, n12⟩ y H13 s13 ny => ?_) (fun σ12 H12 kp12 ⟨E12, ws, e12, n12⟩ => ?_)
      · obtain ⟨d0, r, hd0, hr0, rfl⟩ := zipWith_get hk12
        have g0 := gd d0 (List.mem_of_getElem? hd0)
        refine tg_pair y σ12 H13 _ ny (E12.ts (Same.ts s13)) fun σ14 E14 _ => ?_
        have htk := zipWith_take (h := fun d r => seenRow lot (giversOf d.length r) d) hd0 hr0
        generalize giversOf d0.length r = gs at *
        have e13 := s13 _ _ e12
        have n13 := nkAll_mono n12 (Same.ts (K := K) s13)
        refine q_setL E14 (el_lst ea_nil (Nat.zero_le _)) fun li wi σ15 H15 nli s15 ei nl15 E15 => ?_
        cases nl15
        have nsi : ls ≠ li := ne_of_none e13 nli
        refine q_for (L := [li]) (ks := zipK (gs.map .num) (d0.map tupI)) (ew_zip (es_tup (ed_var E15 rfl)) (es_tup (ed_var E15 rfl))) (MutL.one ei) (fun _ h => nomatch h)
          (fun m σ' H' => Env K H' σ' [.d (.num p), .d (.num (many : Int)), .d (.num (size : Int)), .d (sheetK rs), .d (tupI things), .d (tupI lot), .v (.ref dd), .u, .d (tupI sh), .v (.ref lt), .v (.ref ls), .d (tupI gs), .d (linesK d0), .v (.ref li), .u, .u, .u] ∧ ∃ ws, H' li = some (.lst ws) ∧ NkAll K H' ws ((List.zipWith (seenLine lot) gs d0).take m))
          (fun H16 s16 => ⟨E15.ts (Same.ts s16), [], s16 _ _ ei, .nil⟩) (fun m k σ16 H16 hk16 kp16 ⟨E16, ws2, e16, n16⟩ z H17 s17 nz => ?_) (fun σ16 H16 kp16 ⟨E16, ws2, e16, n16⟩ => ?_)
        · obtain ⟨g, line, hg, hline, rfl⟩ := zipK_get hk16
          have hll := g0.2 line (List.mem_of_getElem? hline)
          refine tg_pair z σ16 H17 _ nz (E16.ts (Same.ts s17)) fun σ18 E18 _ => ?_
          have n17 := nkAll_mono n16 (Same.ts (K := K) s17)
          refine s_app (s17 _ _ e16) n17 (ev_var E18 rfl) (k := seenLine lot g line) (ed_to (ed_tupleL (fun p ys H Q h q => ⟨p, ys, rfl, .inl ⟨h, q⟩⟩) (el_lc1 nk_ts (ew_range1 (n := (many : Int)) (ea_cons (ed_var E18 rfl) ea_nil) (by omega) (by omega)) E18 (by rw [rangeK_len]; omega) (by decide) (atK lot g line) fun k σ' H' hk' s' E' => ?_)) (atK_eq lot g line hll)) ?_ fun ws19 H19 kp19 t19 e19 n19 => ⟨(Same.keepL s17).trans kp19, (((E18.ts t19).frg 14).frg 15).frg 16, ws19, e19, ?_⟩
          · obtain ⟨a, ha, rfl⟩ := List.mem_map.mp hk'
            have ha2 := List.mem_range.mp ha
            refine er_if (et_or (et_inlot (ed_var E' rfl) (ed_var E' rfl)) (fun _ => et_inlot (ed_var E' rfl) (ed_var E' rfl))) (fun hb => ?_) (fun hb => ?_)
            · rw [show atK lot g line (.num (0 + (a : Int))) = .num (line.getD (0 + (a : Int)).toNat 0) from if_pos hb]
              exact ed_ixT (ks := line.map .num) (ed_var E' rfl) (ed_var E' rfl) (j := (0 + (a : Int)).toNat) (by omega) (get_getD (by omega))
            · rw [show atK lot g line (.num (0 + (a : Int))) = .none from if_neg (by rw [hb]; exact Bool.false_ne_true)]
              exact ed_non
          · rw [plen n17, List.length_take, List.length_zipWith]; omega
          · rw [zipWith_take hg hline]; exact n19
        · rw [show (zipK (gs.map .num) (d0.map tupI)).length = (List.zipWith (seenLine lot) gs d0).length by rw [zipK, List.length_zipWith, List.length_zipWith, List.length_map, List.length_map], List.take_length] at n16
          have k16 : Same H13 H16 := KeepL.back (L := [li]) s15 (fun b hb => by rw [List.mem_singleton.mp hb]; exact nli) kp16
          refine s_app (k16 _ _ e13) (nkAll_mono n13 (Same.ts k16)) (ev_var E16 rfl) (k := seenRow lot gs d0) (ed_tupleV (fun p ys H Q h q => ⟨p, ys, rfl, .inl ⟨h, q⟩⟩) (.inl (.inl e16)) n16 (ev_var E16 rfl)) ?_ fun ws17 H17 kp17 t17 e17 n17 => ⟨(Same.keepL (s13.trans k16)).trans kp17, (((((E16.ts t17).frg 11).frg 12).frg 13).frg 14), ws17, e17, ?_⟩
          · rw [plen n13, List.length_take, List.length_zipWith]; omega
          · rw [htk]; exact n17
      · rw [show (toldL dl rs).length = (List.zipWith (fun d r => seenRow lot (giversOf d.length r) d) dl (rs.filter isDeal)).length by rw [toldL, List.length_zipWith, List.length_zipWith], List.take_length] at n12
        have k12 : Same H8 H12 := (s9.trans s10).trans (KeepL.back (L := [ls]) s11 (fun b hb => by rw [List.mem_singleton.mp hb]; exact nls) kp12)
        have nd12 := nd8.same k12
        have hti := tally_int ((viewsP p many size rs things lot n).take i)
        have htl := tally_len ((viewsP p many size rs things lot n).take i)
        have hvl : (viewsP p many size rs things lot n).length ≤ 800 := by unfold viewsP; rw [List.length_map]; exact hall
        rw [List.length_take] at htl
        have hst : tally ((viewsP p many size rs things lot n).take (i + 1)) = cnt1 (tally ((viewsP p many size rs things lot n).take i)) (viewOf lot rs dl sh) := foldl_take hv
        generalize tally ((viewsP p many size rs things lot n).take i) = tl at *
        have key : ∀ {H' : Hp} {r : List V → Hp → VK → Prop}, (∀ p ys H Q, SqL K H p ys → (∀ l, H l = none → Q (.ref l) (upd H l (.tup ys))) → r [.ref p] H Q) → Same H12 H' → Ed K (tTup (tCons (tCB r (tCons (tVar 10) tNil)) (tCons (tVar 8) tNil))) σ12 H' (viewOf lot rs dl sh) := fun {H' r} hr s' => ed_tup (ea_cons (ed_tupleV hr (.inl (.inl (s' _ _ e12))) (nkAll_mono n12 (Same.ts s')) (ev_var (E12.ts (Same.ts s')) rfl)) (ea_cons (ed_var (E12.ts (Same.ts s')) rfl) ea_nil)) tiny2
        refine s_put nd12 (ed_I0 (ed_dgetN nd12 (ev_var E12 rfl) (key (fun p ys H Q h q => ⟨p, ys, rfl, .inl ⟨h, q⟩⟩) (Same.refl _)) ev_c (depth_view _ _ _ _) (valI_getD hti _)) ed_int rfl) (ev_var E12 rfl) (key (fun p ys H Q h q => ⟨p, ys, rfl, .inl ⟨h, q⟩⟩) (Same.refl _)) (depth_view _ _ _ _) (by omega) fun H13 kp13 t13 nd13 => ⟨(Same.keepL k12).trans kp13, (((E12.ts t13).frg 8).frg 9).frg 10, ?_⟩
        rw [hst]
        exact nd13
    · rw [show ((allP (List.replicate n p)).map tupI).length = (viewsP p many size rs things lot n).length by unfold viewsP; rw [List.length_map, List.length_map], List.take_length] at nd8
      have hb : Same H H8 := KeepL.back (L := [dd]) s1 (fun b hb => by rw [List.mem_singleton.mp hb]; exact nd) kp8
      exact ev_var E8 rfl H8 (Same.refl _) _ fun v H9 s9 ev => by
        subst ev
        exact q dd H9 nd (hb.trans s9) (nd8.same s9)
end
end NM
namespace NM
open PySem PySem.Spec PyProof.Rows L2
section
variable {P : Program} {w : World} {K : PySem.W.Frag} {mg : Str → Option Value} {base : Heap} {σ : L2.St} {H H' : Hp}
/-! ### the row [script, place, seed, rest] -/
def Scr (K : PySem.W.Frag) (r s : Addr) (ns : List Int) (H : Hp) : Prop := (s ≠ r ∧ SqL K H s (ns.map V.int)) ∨ ∀ H', SqL K H' s (ns.map V.int)
theorem Scr.sql {r s : Addr} {ns : List Int} (h : Scr K r s ns H) : SqL K H s (ns.map V.int) := by
  rcases h with h | h
  · exact h.2
  · exact h H
theorem Scr.keep {r s : Addr} {ns : List Int} (h : Scr K r s ns H) (k : KeepL [r] H H') : Scr K r s ns H' := by
  rcases h with h | h
  · exact .inl ⟨h.1, k.sqL (by simpa using h.1) h.2⟩
  · exact .inr h
theorem Scr.start {r s : Addr} {ns : List Int} (h : SqL K H s (ns.map V.int)) (hr : H r = none) (e : Same H H') : Scr K r s ns H' := by
  rcases h with (h | ⟨o, h⟩) | h
  · exact .inl ⟨ne_of_none h hr, .inl (.inl (e _ _ h))⟩
  · exact .inl ⟨ne_of_none h hr, .inl (.inr ⟨o, e _ _ h⟩)⟩
  · exact .inr fun H' => .inr h
def RowL (s : Addr) (i seed rest : Int) : List V := [.ref s, .int i, .int seed, .int rest]
def RowAt (K : PySem.W.Frag) (S : Addr × List Int) (r : Addr) (H : Hp) : Prop := ∃ i seed rest, H r = some (.lst (RowL S.1 i seed rest)) ∧ Scr K r S.1 S.2 H ∧ S.2.length ≤ 63 ∧ 0 ≤ i ∧ 0 ≤ seed ∧ seed < 2147483647 ∧ 0 ≤ rest
theorem RowAt.mut {S : Addr × List Int} {r : Addr} (h : RowAt K S r H) : MutL [r] H := by
  obtain ⟨i, seed, rest, e, _⟩ := h
  exact MutL.one e
theorem RowAt.same {S : Addr × List Int} {r : Addr} (h : RowAt K S r H) (e : Same H H') : RowAt K S r H' := by
  obtain ⟨i, seed, rest, e1, sc, h⟩ := h
  exact ⟨i, seed, rest, e _ _ e1, sc.keep (Same.keepL e), h⟩
theorem ed_ixLv {ta tb : TE} {l : Addr} {vs : List V} {i : Int} {j : Nat} {v : V} {k : NK} (hl : SqL K H l vs) (hv : vs[j]? = some v) (nv : Nk K H v k) (ha : Ev ta σ H (.ref l)) (hb : Ed K tb σ H (.num i)) (hi : i = (j : Int)) : Ed K (tOp (rIxL K) ta tb) σ H k := fun H1 s Q q =>
  ha H1 s _ fun x H2 s2 n1 => hb H2 (s.trans s2) _ fun y H3 s3 n2 => by
    have s13 := s.trans (s2.trans s3)
    exact ⟨l, vs, i, v, n1, n2.int_eq, Same.seq s13 hl, atI_of hi hv, q v H3 (s2.trans s3) (nv.mono (Same.ts s13))⟩
theorem ev_ixLv {ta tb : TE} {l : Addr} {vs : List V} {i : Int} {j : Nat} {v : V} (hl : SqL K H l vs) (hv : vs[j]? = some v) (ha : Ev ta σ H (.ref l)) (hb : Ed K tb σ H (.num i)) (hi : i = (j : Int)) : Ev (tOp (rIxL K) ta tb) σ H v := fun H1 s Q q =>
  ha H1 s _ fun x H2 s2 n1 => hb H2 (s.trans s2) _ fun y H3 s3 n2 => by
    have s13 := s.trans (s2.trans s3)
    exact ⟨l, vs, i, v, n1, n2.int_eq, Same.seq s13 hl, atI_of hi hv, q v H3 (s2.trans s3) rfl⟩
theorem ed_lenL {r : List V → Hp → VK → Prop} {ta : TE} {l : Addr} {vs : List V} (hr : ∀ p ys H Q, SqL K H p ys → Q (.int ys.length) H → r [.ref p] H Q) (hl : SqL K H l vs) (ha : Ev ta σ H (.ref l)) {n : Nat} (e : vs.length = n) : Ed K (tCB r (tCons ta tNil)) σ H (.num n) := fun H1 s Q q =>
  ha H1 s _ fun x H2 s2 n1 => by
    have n1 : x = .ref l := n1
    subst n1
    exact hr l vs H2 Q (Same.seq (s.trans s2) hl) (by rw [e]; exact q _ H2 s2 (.int _))
theorem ed_int1 {r : List V → Hp → VK → Prop} {ta : TE} {i : Int} (hr : ∀ i H Q, Q (.int i) H → r [.int i] H Q) (ha : Ed K ta σ H (.num i)) : Ed K (tCB r (tCons ta tNil)) σ H (.num i) := fun H1 s Q q =>
  ha H1 s _ fun x H2 s2 n1 => by
    rw [n1.int_eq]
    exact hr i H2 Q (q _ H2 s2 (.int i))
/-- l[i] = n -/
theorem q_setIx {te to ti : TE} {D : Ends} {tz : L2.TS} {l : Addr} {vs : List V} {n i : Int} {j : Nat} (hl : H l = some (.lst vs)) (h : Ed K te σ H (.num n)) (h1 : Ev to σ H (.ref l)) (h2 : Ed K ti σ H (.num i)) (hj : ixN vs.length i = some j)
    (c : ∀ H', KeepL [l] H H' → TSt K H H' → H' l = some (.lst (vs.set j (.int n))) → tz D σ H') : tSeq (tAsg te (gSub to ti rSetL)) tz D σ H :=
  h H (Same.refl H) _ fun v H1 s1 nv => h1 H1 s1 _ fun x H2 s2 ex => h2 H2 (s1.trans s2) _ fun y H3 s3 ny => by
    have ex : x = .ref l := ex
    subst ex
    have nv := nv.int_eq
    subst nv
    have s13 := (s1.trans s2).trans s3
    have e3 := s13 _ _ hl
    exact ⟨l, vs, i, j, rfl, ny.int_eq, e3, hj, c _ ((Same.keepL s13).trans (keepL_upd (by simp))) ((Same.ts s13).trans (ts_upd e3)) upd_same⟩
theorem s_setIx {te to ti : TE} {D : Ends} {l : Addr} {vs : List V} {n i : Int} {j : Nat} (hl : H l = some (.lst vs)) (h : Ed K te σ H (.num n)) (h1 : Ev to σ H (.ref l)) (h2 : Ed K ti σ H (.num i)) (hj : ixN vs.length i = some j)
    (c : ∀ H', KeepL [l] H H' → TSt K H H' → H' l = some (.lst (vs.set j (.int n))) → D.nx σ H') : tAsg te (gSub to ti rSetL) D σ H :=
  q_setIx (D := D) (tz := fun D σ H => D.nx σ H) hl h h1 h2 hj c

/-! ### _law_taken -/
abbrev sLawTaken : Stmt := topS 44
abbrev nLawTaken : List Str := ["_law_row", "_law_many", "_law_found", "_law_cell"]
theorem scLawTaken : FnScope ["_law_row", "_law_many", "_law_found", "_law_cell"] ["_law_row", "_law_many"] (defScope sLawTaken) := ⟨rfl, rfl, rfl, by decide +kernel, rfl, by decide +kernel, by decide +kernel⟩
def spTaken (K : PySem.W.Frag) : Sp := fun vs H Q _ => ∃ (S : Addr × List Int) (r : Addr) (v : V) (m : Int), vs = [.ref r, v] ∧ Nk K H v (.num m) ∧ 1 ≤ m ∧ m < 1000 ∧ RowAt K S r H ∧ ∀ x H', 0 ≤ x → x < m → KeepL [r] H H' → RowAt K S r H' → Q (.int x) H'
theorem ok_taken (T : Gs K mg) (d : Def K mg "_law_taken" sLawTaken ["_law_row", "_law_many"]) : FnOk P w K mg base CX0 1 d.f d.fd ["_law_row", "_law_many"] (spTaken K) := by
  refine d.F.ok scLawTaken (fun vs H Q E h => ?_) (fun cdv A outer s H vs Q E hr h => ?_)
  · obtain ⟨S, r, v, m, rfl, _⟩ := h
    rfl
  · obtain ⟨⟨sc, ns⟩, r, v, m, rfl, nv, hm, hm2, ⟨i, seed, rest, hrow, hsc, hz, hi, hs, hs2, hr0⟩, q⟩ := h
    have E0 : Env K H (L2.start nLawTaken [.ref r, v]) [.v (.ref r), .d (.num m), .u, .u] := .cons rfl (.cons ⟨_, rfl, nv⟩ (.cons True.intro (.cons True.intro .nil)))
    refine ⟨_, pss_cons (ps_if (pt_cmpR op_gt (pe_ix ix_list (pv 0) pe_int (fun _ _ => rfl)) pe_int (nomark _)) (pss_cons (ps_set (i := 2) scLawTaken.nd rfl (.inl rfl) (pe_op op_mod (pe_callTy call_int1 (by rfl) T.z_int (by decide +kernel) (pa_cons (pe_ix ix_list (pv 0) pe_int (fun _ _ => rfl)) pa_nil)) (pv 1)))
      (pss_cons (ps_asg (pe_op op_fdiv (pe_ix ix_list (pv 0) pe_int (fun _ _ => rfl)) (pv 1)) (pg_sub (pv 0) pe_int set_list))
      (pss_one (ps_ret (pv 2))))) pss_nil)
      (pss_cons (ps_asg (pe_op op_add (pe_ix ix_list (pv 0) pe_int (fun _ _ => rfl)) pe_int) (pg_sub (pv 0) pe_int set_list))
      (pss_cons (ps_if (pt_cmpR op_gt (pe_ix ix_list (pv 0) pe_int (fun _ _ => rfl)) (pe_callB call_len_seq (by rfl) T.z_len PySem.boot_len (pa_cons (pe_ix ix_list (pv 0) pe_int (fun _ _ => rfl)) pa_nil)) (nomark _)) (pss_cons (ps_asg (pe_op op_mod (pe_callTy call_int1 (by rfl) T.z_int (by decide +kernel) (pa_cons (pe_op op_add (pe_op op_mul (pe_ix ix_list (pv 0) pe_int (fun _ _ => rfl)) pe_int) pe_int) pa_nil)) pe_int) (pg_sub (pv 0) pe_int set_list))
      (pss_one (ps_ret (pe_op op_mod (pe_callTy call_int1 (by rfl) T.z_int (by decide +kernel) (pa_cons (pe_op op_fdiv (pe_ix ix_list (pv 0) pe_int (fun _ _ => rfl)) pe_int) pa_nil)) (pv 1))))) pss_nil)
      (pss_cons (ps_set (i := 3) scLawTaken.nd rfl (.inl rfl) (pe_ix ix_list (pe_ix ix_list (pv 0) pe_int (fun _ _ => rfl)) (pe_op op_sub (pe_ix ix_list (pv 0) pe_int (fun _ _ => rfl)) pe_int) (fun _ _ => rfl)))
      (pss_cons (ps_asg (pe_op op_mod (pe_callTy call_int1 (by rfl) T.z_int (by decide +kernel) (pa_cons (pe_op op_add (pe_op op_add (pe_op op_mul (pe_ix ix_list (pv 0) pe_int (fun _ _ => rfl)) pe_int) (pv 3)) pe_int) pa_nil)) pe_int) (pg_sub (pv 0) pe_int set_list))
      (pss_cons (ps_if (pt_cmpR op_ge (pv 3) (pe_op op_pow pe_int pe_int) (nomark _)) (pss_one (ps_asg (pe_op op_fdiv (pv 3) (pv 1)) (pg_sub (pv 0) pe_int set_list))) pss_nil)
      (pss_one (ps_ret (pe_op op_mod (pe_callTy call_int1 (by rfl) T.z_int (by decide +kernel) (pa_cons (pv 3) pa_nil)) (pv 1))))))))), ?_⟩
    have fin : ∀ {σ : L2.St} {H1 : Hp} {D : Ends} {te : TE} {x : Int}, KeepL [r] H H1 → RowAt K (sc, ns) r H1 → Ed K te σ H1 (.num (x % m)) → (∀ v H', Q v H' → D.rt v H') → tRet te D σ H1 := fun {σ H1 D te x} k1 r1 h c =>
      s_retD h fun v H2 s2 n => c _ _ (by
        rw [n.int_eq]
        exact q _ _ (Int.emod_nonneg _ (by omega)) (Int.emod_lt_of_pos _ (by omega)) (k1.trans (Same.keepL s2)) (r1.same s2))
    by_cases h0 : 0 < rest
    · refine q_ifT (et_test (ev_I0 (v := .bl true) (ed_ixLv (j := 3) (.inl (.inl hrow)) rfl (.int rest) (ev_var E0 rfl) ed_int rfl) ed_int (by show V.bl (decide (0 < rest)) = _; rw [decide_eq_true h0]))) fun H1 s1 => ?_
      have E1 := E0.ts (Same.ts (K := K) s1)
      have hrow1 := s1 _ _ hrow
      refine q_setD E1 (k := .num (rest % m)) (ed_I (ed_int1 (fun i H Q q => .inl ⟨i, rfl, q⟩) (ed_ixLv (j := 3) (.inl (.inl hrow1)) rfl (.int rest) (ev_var E1 rfl) ed_int rfl)) (ed_var E1 rfl) (by show (0 : Int) < m; omega) rfl) fun σ2 H2 s2 E2 => ?_
      have hrow2 := s2 _ _ hrow1
      refine q_setIx hrow2 (n := rest / m) (ed_I (ed_ixLv (j := 3) (.inl (.inl hrow2)) rfl (.int rest) (ev_var E2 rfl) ed_int rfl) (ed_var E2 rfl) ⟨by omega, by omega⟩ rfl) (ev_var E2 rfl) ed_int (j := 3) rfl fun H3 k3 t3 e3 => ?_
      have k13 := (Same.keepL (s1.trans s2)).trans k3
      exact fin k13 ⟨i, seed, rest / m, e3, hsc.keep k13, hz, hi, hs, hs2, Int.ediv_nonneg (by omega) (by omega)⟩ (ed_var (E2.ts t3) rfl) (fun _ _ h => h)
    · refine q_ifN (et_test (ev_I0 (v := .bl false) (ed_ixLv (j := 3) (.inl (.inl hrow)) rfl (.int rest) (ev_var E0 rfl) ed_int rfl) ed_int (by show V.bl (decide (0 < rest)) = _; rw [decide_eq_false h0]))) fun H1 s1 => ?_
      have E1 := E0.ts (Same.ts (K := K) s1)
      have hrow1 := s1 _ _ hrow
      refine q_setIx hrow1 (n := i + 1) (ed_I0 (ed_ixLv (j := 1) (.inl (.inl hrow1)) rfl (.int i) (ev_var E1 rfl) ed_int rfl) ed_int rfl) (ev_var E1 rfl) ed_int (j := 1) rfl fun H2 k2 t2 e2 => ?_
      have hrow2 : H2 r = some (.lst (RowL sc (i + 1) seed rest)) := e2
      have E2 := E1.ts t2
      have k02 := (Same.keepL s1).trans k2
      have hsc2 := hsc.keep k02
      have hlen : (ns.map V.int).length = ns.length := List.length_map ..
      have script : Ev (tOp (rIxL K) (tVar 0) (tC (.int 0))) (L2.start nLawTaken [.ref r, v]) H2 (.ref sc) := ev_ixLv (j := 0) (.inl (.inl hrow2)) rfl (ev_var E2 rfl) ed_int rfl
      by_cases hl : i + 1 > ns.length
      · refine q_ifT (et_test (ev_I0 (v := .bl true) (ed_ixLv (j := 1) (.inl (.inl hrow2)) rfl (.int (i + 1)) (ev_var E2 rfl) ed_int rfl) (ed_lenL (fun p ys H Q h q => ⟨p, ys, rfl, .inl h, q⟩) hsc2.sql script hlen) (by show V.bl (decide ((ns.length : Int) < i + 1)) = _; rw [decide_eq_true (by omega)]))) fun H3 s3 => ?_
        have E3 := E2.ts (Same.ts (K := K) s3)
        have hrow3 := s3 _ _ hrow2
        refine q_setIx hrow3 (n := (seed * 48271 + 11) % 2147483647) (ed_I (ed_int1 (fun i H Q q => .inl ⟨i, rfl, q⟩) (ed_I0 (ed_I (ed_ixLv (j := 2) (.inl (.inl hrow3)) rfl (.int seed) (ev_var E3 rfl) ed_int rfl) ed_int (.inr ⟨by decide, by decide⟩) rfl) ed_int rfl)) ed_int (by show (0 : Int) < 2147483647; decide) rfl) (ev_var E3 rfl) ed_int (j := 2) rfl fun H4 k4 t4 e4 => ?_
        have hrow4 : H4 r = some (.lst (RowL sc (i + 1) ((seed * 48271 + 11) % 2147483647) rest)) := e4
        have E4 := E3.ts t4
        have k04 := (k02.trans (Same.keepL s3)).trans k4
        exact fin k04 ⟨i + 1, _, rest, hrow4, hsc.keep k04, hz, by omega, Int.emod_nonneg _ (by decide), Int.emod_lt_of_pos _ (by decide), hr0⟩ (ed_I (ed_int1 (fun i H Q q => .inl ⟨i, rfl, q⟩) (ed_I (ed_ixLv (j := 2) (.inl (.inl hrow4)) rfl (.int _) (ev_var E4 rfl) ed_int rfl) ed_int ⟨by decide, by decide⟩ rfl)) (ed_var E4 rfl) (by show (0 : Int) < m; omega) rfl) (fun _ _ h => h)
      · refine q_ifN (et_test (ev_I0 (v := .bl false) (ed_ixLv (j := 1) (.inl (.inl hrow2)) rfl (.int (i + 1)) (ev_var E2 rfl) ed_int rfl) (ed_lenL (fun p ys H Q h q => ⟨p, ys, rfl, .inl h, q⟩) hsc2.sql script hlen) (by show V.bl (decide ((ns.length : Int) < i + 1)) = _; rw [decide_eq_false (by omega)]))) fun H3 s3 => ?_
        have E3 := E2.ts (Same.ts (K := K) s3)
        have hrow3 := s3 _ _ hrow2
        obtain ⟨j, rfl⟩ : ∃ j : Nat, i = (j : Int) := ⟨i.toNat, by omega⟩
        have hj : j < ns.length := by omega
        have k03 := k02.trans (Same.keepL s3)
        have hsc3 := hsc.keep k03
        have script3 : Ev (tOp (rIxL K) (tVar 0) (tC (.int 0))) (L2.start nLawTaken [.ref r, v]) H3 (.ref sc) := ev_ixLv (j := 0) (.inl (.inl hrow3)) rfl (ev_var E3 rfl) ed_int rfl
        have hg : (ns.map V.int)[j]? = some (.int ns[j]) := by rw [List.getElem?_map, List.getElem?_eq_getElem hj]; rfl
        refine q_setD E3 (k := .num ns[j]) (ed_ixLv (j := j) hsc3.sql hg (.int _) script3 (ed_I0 (ed_ixLv (j := 1) (.inl (.inl hrow3)) rfl (.int _) (ev_var E3 rfl) ed_int rfl) ed_int rfl) (by omega)) fun σ4 H4 s4 E4 => ?_
        generalize ns[j] = cell at *
        have hrow4 := s4 _ _ hrow3
        refine q_setIx hrow4 (n := (seed * 48271 + cell + 11) % 2147483647) (ed_I (ed_int1 (fun i H Q q => .inl ⟨i, rfl, q⟩) (ed_I0 (ed_I0 (ed_I (ed_ixLv (j := 2) (.inl (.inl hrow4)) rfl (.int seed) (ev_var E4 rfl) ed_int rfl) ed_int (.inr ⟨by decide, by decide⟩) rfl) (ed_var E4 rfl) rfl) ed_int rfl)) ed_int (by show (0 : Int) < 2147483647; decide) rfl) (ev_var E4 rfl) ed_int (j := 2) rfl fun H5 k5 t5 e5 => ?_
        have hrow5 : H5 r = some (.lst (RowL sc ((j : Int) + 1) ((seed * 48271 + cell + 11) % 2147483647) rest)) := e5
        have E5 := E4.ts t5
        have k05 := (k03.trans (Same.keepL s4)).trans k5
        have b1 := Int.emod_nonneg (seed * 48271 + cell + 11) (show (2147483647 : Int) ≠ 0 by decide)
        have b2 := Int.emod_lt_of_pos (seed * 48271 + cell + 11) (show (0 : Int) < 2147483647 by decide)
        generalize (seed * 48271 + cell + 11) % 2147483647 = seed2 at *
        have pw : ∀ {σ' : L2.St} {H' : Hp}, Ed K (tOp (rI CPow fun i j => .int (i ^ j.toNat)) (tC (.int 10)) (tC (.int 18))) σ' H' (.num 1000000000000000000) := fun {σ' H'} => ed_I ed_int ed_int ⟨by decide, by decide, by decide⟩ (by decide)
        have last : ∀ {σ' : L2.St} {H' : Hp}, Env K H' σ' [.v (.ref r), .d (.num m), .u, .d (.num cell)] → Ed K (tOp (rI (fun _ j => 0 < j) fun i j => .int (i % j)) (tCB (fun xs H Q => (∃ i, xs = [.int i] ∧ Q (.int i) H) ∨ ∃ k, xs = [.bl k] ∧ Q (.int (if k then 1 else 0)) H) (tCons (tVar 3) tNil)) (tVar 1)) σ' H' (.num (cell % m)) := fun {σ' H'} E' => ed_I (ed_int1 (fun i H Q q => .inl ⟨i, rfl, q⟩) (ed_var E' rfl)) (ed_var E' rfl) (by show (0 : Int) < m; omega) rfl
        by_cases hc : cell ≥ 1000000000000000000
        · refine q_ifT (et_test (ev_I0 (v := .bl true) (ed_var E5 rfl) pw (by show V.bl (decide ((1000000000000000000 : Int) ≤ cell)) = _; rw [decide_eq_true hc]))) fun H6 s6 => ?_
          have E6 := E5.ts (Same.ts (K := K) s6)
          refine s_setIx (s6 _ _ hrow5) (n := cell / m) (ed_I (ed_var E6 rfl) (ed_var E6 rfl) ⟨by omega, by omega⟩ rfl) (ev_var E6 rfl) ed_int (j := 3) rfl fun H7 k7 t7 e7 => ?_
          have k07 := (k05.trans (Same.keepL s6)).trans k7
          exact fin k07 ⟨_, seed2, cell / m, e7, hsc.keep k07, hz, by omega, b1, b2, Int.ediv_nonneg (by omega) (by omega)⟩ (last (E6.ts t7)) (fun _ _ h => h)
        · refine q_ifN (et_test (ev_I0 (v := .bl false) (ed_var E5 rfl) pw (by show V.bl (decide ((1000000000000000000 : Int) ≤ cell)) = _; rw [decide_eq_false hc]))) fun H6 s6 => ?_
          have k06 := k05.trans (Same.keepL s6)
          exact fin k06 ⟨_, seed2, rest, s6 _ _ hrow5, hsc.keep k06, hz, by omega, b1, b2, hr0⟩ (last (E5.ts (Same.ts (K := K) s6))) (fun _ _ h => h)

/-! ### _law_pick -/
abbrev sLawPick : Stmt := topS 45
abbrev nLawPick : List Str := ["_law_row", "_law_things"]
theorem scLawPick : FnScope ["_law_row", "_law_things"] ["_law_row", "_law_things"] (defScope sLawPick) := ⟨rfl, rfl, rfl, by decide +kernel, rfl, by decide +kernel, by decide +kernel⟩
def spPick (K : PySem.W.Frag) : Sp := fun vs H Q _ => ∃ (S : Addr × List Int) (r t : Addr) (xs : List V) (ks : List NK), vs = [.ref r, .ref t] ∧ t ≠ r ∧ H t = some (.lst xs) ∧ NkAll K H xs ks ∧ ks ≠ [] ∧ ks.length < 1000 ∧ RowAt K S r H ∧ ∀ v k H', k ∈ ks → Nk K H' v k → KeepL [r] H H' → RowAt K S r H' → Q v H'
theorem ok_pick (T : Gs K mg) (C__law_taken : Cal P w K mg base "_law_taken" 1 ["_law_row", "_law_many"] (spTaken K)) (d : Def K mg "_law_pick" sLawPick ["_law_row", "_law_things"]) : FnOk P w K mg base CX0 2 d.f d.fd ["_law_row", "_law_things"] (spPick K) := by
  refine d.F.ok scLawPick (fun vs H Q E h => ?_) (fun cdv A outer s H vs Q E hr h => ?_)
  · obtain ⟨S, r, t, xs, ks, rfl, _⟩ := h
    rfl
  · obtain ⟨S, r, t, xs, ks, rfl, hne, ht, hn, h0, hz, hrow, q⟩ := h
    have E0 : Env K H (L2.start nLawPick [.ref r, .ref t]) [.v (.ref r), .v (.ref t)] := .cons rfl (.cons rfl .nil)
    refine ⟨_, pss_one (ps_ret (pe_ix ix_list (pv 1) (pe_cal C__law_taken (hr.mono (by decide)) (by rfl) (pa_cons (pv 0) (pa_cons (pe_callB call_len_seq (by rfl) T.z_len PySem.boot_len (pa_cons (pv 1) pa_nil)) pa_nil))) (fun _ _ => rfl))), ?_⟩
    have hpos : 0 < ks.length := List.length_pos_iff.mpr h0
    have ha : EaP (tCons (tVar 0) (tCons (tCB (fun xs H Q => ∃ p ys, xs = [.ref p] ∧ (SqL K H p ys ∨ SqT K H p ys) ∧ Q (.int ys.length) H) (tCons (tVar 1) tNil)) tNil)) (L2.start nLawPick [.ref r, .ref t]) H _ := eap_consV (ev_var E0 rfl) (eap_consD (ed_lenL (fun p ys H Q h q => ⟨p, ys, rfl, .inl h, q⟩) (.inl (.inl ht)) (ev_var E0 rfl) (plen hn)) eap_nil)
    refine ev_var E0 (i := 1) (x := .ref t) rfl H (Same.refl _) _ fun v1 H1 s1 e1 => ha H1 s1 _ fun vs2 H2 s2 hv => ?_
    have e1 : v1 = .ref t := e1
    subst e1
    obtain ⟨r2, rfl, v3, r3, rfl, n3, rfl⟩ := hv
    have s12 := s1.trans s2
    refine ⟨S, r, v3, (ks.length : Int), rfl, n3, by omega, by omega, hrow.same s12, fun x H3 hx0 hx1 k3 row3 => ?_⟩
    obtain ⟨j, rfl⟩ : ∃ j : Nat, x = (j : Int) := ⟨x.toNat, by omega⟩
    have hj : j < ks.length := by omega
    have k13 := (Same.keepL s12).trans k3
    have ht3 : H3 t = some (.lst xs) := k13 t _ (by simpa using hne) ht
    obtain ⟨v, hv, nv⟩ := pget hn (List.getElem?_eq_getElem hj)
    have t3 : TSt K H H3 := k13.ts hrow.mut
    exact ⟨t, xs, (j : Int), v, rfl, rfl, .inl (.inl ht3), atI_nat hv, q v _ H3 (List.getElem_mem hj) (nv.mono t3) k13 row3⟩
end
end NM
namespace NM
open PySem PySem.Spec PyProof.Rows L2
theorem ix_dictNK {X : Cx} {P : Program} {w : World} {K : PySem.W.Frag} (hP : X.prog = P) (hw : X.w = w) (hK : X.K = K) (hu : X.A.units + 64 < cLine) : IxR X (rIxN P w K) := by
  subst hP hw hK
  exact ix_dictN hu
section
variable {P : Program} {w : World} {K : PySem.W.Frag} {mg : Str → Option Value} {base : Heap} {σ : L2.St} {H H' : Hp}
/-! ### _law_alike -/
abbrev sLawAlike : Stmt := topS 46
abbrev nLawAlike : List Str := ["_law_found", "_law_due", "_law_k", "_law_key"]
theorem scLawAlike : FnScope ["_law_found", "_law_due", "_law_k", "_law_key"] ["_law_found", "_law_due"] (defScope sLawAlike) := ⟨rfl, rfl, rfl, by decide +kernel, rfl, by decide +kernel, by decide +kernel⟩
theorem eqv_refl : ∀ n : Nat, (∀ k : NK, sizeOf k ≤ n → PyData.eqv k.data k.data = true) ∧ ∀ ks : List NK, sizeOf ks ≤ n → PyData.eqvAll (NestedKey.datas ks) (NestedKey.datas ks) = true := by
  intro n
  induction n with
  | zero =>
    refine ⟨fun k hk => ?_, fun ks hk => ?_⟩
    · cases k <;> simp at hk
    · cases ks <;> simp at hk
  | succ n ih =>
    refine ⟨fun k hk => ?_, fun ks hk => ?_⟩
    · cases k with
      | none => rfl
      | num i => show (i == i) = true; simp
      | text x => show (x == x) = true; simp
      | tup ks =>
        have : sizeOf ks ≤ n := by simp at hk; omega
        show PyData.eqvAll (NestedKey.datas ks) (NestedKey.datas ks) = true
        exact ih.2 ks this
    · cases ks with
      | nil => rfl
      | cons k ks =>
        simp at hk
        show (PyData.eqv k.data k.data && PyData.eqvAll (NestedKey.datas ks) (NestedKey.datas ks)) = true
        rw [ih.1 k (by omega), ih.2 ks (by omega)]; rfl
theorem ev_isiT2 {ta : TE} {k : NK} {T c1 c2 : String} {b1 b2 : Bool} (ha : Ed K ta σ H k) (eT : tyN k = T) (e1 : kitB T c1 = some b1) (e2 : kitB T c2 = some b2) : Ev (tCB (rIsiT K) (tCons ta (tCons (tTup (tCons (tC (.ty c1)) (tCons (tC (.ty c2)) tNil))) tNil))) σ H (.bl (b1 || b2)) := fun H1 s Q q =>
  ha H1 s _ fun x H2 s2 n => by
    refine ⟨Nat.le_of_ble_eq_true rfl, fun tp htp => ?_⟩
    have s3 := same_new (o := .tup [.ty c1, .ty c2]) htp
    refine ⟨x, tp, [.ty c1, .ty c2], .type (tyN k), [.type c1, .type c2], b1 || b2, rfl, upd_same, .cons (.ty c1) (.cons (.ty c2) .nil), (n.mono (Same.ts s3)).ty, ?_, q _ _ (s2.trans s3) rfl⟩
    rw [eT]
    refine kitAny_cons (kit_ty e1) (fun hb => ?_) (fun hb => by rw [hb]; rfl)
    refine kitAny_cons (kit_ty e2) (fun hb2 => ?_) (fun hb2 => by rw [hb2]; simp)
    rw [hb, hb2]
    exact kitAny_nil
theorem ev_isiTN {ta : TE} {d : Addr} {kvs : List (NK × V)} {c1 c2 : String} {b1 b2 : Bool} (nd : ND P w K H d kvs) (ha : Ev ta σ H (.ref d)) (e1 : kitB "dict" c1 = some b1) (e2 : kitB "dict" c2 = some b2) : Ev (tCB (rIsiTN P w K) (tCons ta (tCons (tTup (tCons (tC (.ty c1)) (tCons (tC (.ty c2)) tNil))) tNil))) σ H (.bl (b1 || b2)) := fun H1 s Q q =>
  ha H1 s _ fun x H2 s2 ex => by
    have ex : x = .ref d := ex
    subst ex
    refine ⟨Nat.le_of_ble_eq_true rfl, fun tp htp => ?_⟩
    have s3 := same_new (o := .tup [.ty c1, .ty c2]) htp
    refine ⟨d, kvs, tp, [.ty c1, .ty c2], [.type c1, .type c2], b1 || b2, rfl, nd.same ((s.trans s2).trans s3), upd_same, .cons (.ty c1) (.cons (.ty c2) .nil), ?_, q _ _ (s2.trans s3) rfl⟩
    refine kitAny_cons (kit_ty e1) (fun hb => ?_) (fun hb => by rw [hb]; rfl)
    refine kitAny_cons (kit_ty e2) (fun hb2 => ?_) (fun hb2 => by rw [hb2]; simp)
    rw [hb, hb2]
    exact kitAny_nil
theorem ev_isiN {ta : TE} {d : Addr} {kvs : List (NK × V)} {c : String} {b : Bool} (nd : ND P w K H d kvs) (ha : Ev ta σ H (.ref d)) (e : kitB "dict" c = some b) : Ev (tCB (rIsiN P w K) (tCons ta (tCons (tC (.ty c)) tNil))) σ H (.bl b) := fun H1 s Q q =>
  ha H1 s _ fun x H2 s2 ex => by
    have ex : x = .ref d := ex
    subst ex
    exact ⟨d, kvs, .ty c, .type c, b, rfl, nd.same (s.trans s2), .ty c, kit_ty e, q _ H2 s2 rfl⟩
theorem ev_isNone {ta : TE} {k : NK} (ha : Ed K ta σ H k) : Ev (tIsN ta) σ H (.bl (decide (k = .none))) := fun H1 s Q q =>
  ha H1 s _ fun x H2 s2 n => by
    have e : decide (x = .non) = decide (k = .none) := by cases n <;> simp
    rw [e]
    exact q _ H2 s2 rfl
def spAlikeI (K : PySem.W.Frag) : Sp := fun vs H Q _ => ∃ a : Int, NkAll K H vs [.num a, .num a] ∧ RetV (.bl true) H Q
theorem ok_alikeI (T : Gs K mg) (d : Def K mg "_law_alike" sLawAlike ["_law_found", "_law_due"]) : FnOk P w K mg base CX0 1 d.f d.fd ["_law_found", "_law_due"] (spAlikeI K) := by
  refine d.F.ok scLawAlike (fun vs H Q E h => ?_) (fun cdv A outer s H vs Q E hr h => ?_)
  · obtain ⟨a, h, _⟩ := h
    have e := plen h
    exact e
  · obtain ⟨a, h, q⟩ := h
    have E0 := env_start (N := nLawAlike) h
    have hu := room_hu hr
    refine ⟨_, pss_cons (ps_if (pt_val (pe_callB call_isiT (by rfl) T.z_isinstance (by decide +kernel) (pa_cons (pv 1) (pa_cons (pe_tup (pa_cons (pe_bltn (v := .ty "tuple") (by rfl) T.z_tuple (by decide +kernel) rfl) (pa_cons (pe_bltn (v := .ty "list") (by rfl) T.z_list (by decide +kernel) rfl) pa_nil))) pa_nil)))) pss_never pss_nil)
      (pss_cons (ps_if (pt_val (pe_callB call_isi (by rfl) T.z_isinstance (by decide +kernel) (pa_cons (pv 1) (pa_cons (pe_bltn (v := .ty "dict") (by rfl) T.z_dict (by decide +kernel) rfl) pa_nil)))) pss_never pss_nil)
      (pss_cons (ps_if (PW.pt (pw_or (pt_cmp (pc_isN (pv 1)) rfl) (pw_or1 (pt_val (pe_callB call_isi (by rfl) T.z_isinstance (by decide +kernel) (pa_cons (pv 1) (pa_cons (pe_bltn (v := .ty "str") (by rfl) T.z_str (by decide +kernel) rfl) pa_nil))))))) (pss_one (ps_ret (pe_and (pe_cmpR op_eq (pv 0) (pv 1) (nomark _)) (pe_one (pe_cmpR op_eq (pe_callB call_isi (by rfl) T.z_isinstance (by decide +kernel) (pa_cons (pv 0) (pa_cons (pe_bltn (v := .ty "str") (by rfl) T.z_str (by decide +kernel) rfl) pa_nil))) (pe_callB call_isi (by rfl) T.z_isinstance (by decide +kernel) (pa_cons (pv 1) (pa_cons (pe_bltn (v := .ty "str") (by rfl) T.z_str (by decide +kernel) rfl) pa_nil))) (nomark _)))))) pss_nil)
      (pss_one (ps_ret (pe_and (pe_callB call_isi (by rfl) T.z_isinstance (by decide +kernel) (pa_cons (pv 0) (pa_cons (pe_bltn (v := .ty "int") (by rfl) T.z_int (by decide +kernel) rfl) pa_nil))) (pe_and (pe_cmpR op_eq (pe_callB call_isi (by rfl) T.z_isinstance (by decide +kernel) (pa_cons (pv 0) (pa_cons (pe_bltn (v := .ty "bool") (by rfl) T.z_bool (by decide +kernel) rfl) pa_nil))) (pe_callB call_isi (by rfl) T.z_isinstance (by decide +kernel) (pa_cons (pv 1) (pa_cons (pe_bltn (v := .ty "bool") (by rfl) T.z_bool (by decide +kernel) rfl) pa_nil))) (nomark _)) (pe_one (pe_cmpR op_eq (pv 0) (pv 1) (nomark _))))))))), ?_⟩
    refine q_ifN (et_B (ev_isiT2 (T := "int") (b1 := false) (b2 := false) (ed_var E0 rfl) rfl (by decide +kernel) (by decide +kernel))) fun H1 s1 => ?_
    have E1 := E0.ts (Same.ts (K := K) s1)
    refine q_ifN (et_B (ev_isi (T := "int") (b := false) (ed_var E1 rfl) rfl (by decide +kernel))) fun H2 s2 => ?_
    have E2 := E1.ts (Same.ts (K := K) s2)
    refine q_ifN (et_to (et_or (et_B (ev_isNone (ed_var E2 rfl))) (fun _ => et_B (ev_isi (T := "int") (b := false) (ed_var E2 rfl) rfl (by decide +kernel)))) rfl) fun H3 s3 => ?_
    have E3 := E2.ts (Same.ts (K := K) s3)
    refine s_retV (ev_to (ev_andV (ev_isi (T := "int") (b := true) (ed_var E3 rfl) rfl (by decide +kernel)) fun _ => ev_andV (ev_eqB (b := true) (ev_isi (T := "int") (b := false) (ed_var E3 rfl) rfl (by decide +kernel)) (ev_isi (T := "int") (b := false) (ed_var E3 rfl) rfl (by decide +kernel)) (by decide)) fun _ => ev_eq (b := true) (ed_var E3 rfl) (ed_var E3 rfl) rfl rfl rfl (decide_eq_true rfl)) (w := .bl true) rfl) fun H4 s4 => q H4 (((s1.trans s2).trans s3).trans s4)
theorem ew_keysN {te : TE} {d : Addr} {kvs : List (NK × V)} (nd : ND P w K H d kvs) (h : Ev te σ H (.ref d)) : Ew K [d] (iKeysN P w K te) σ H (kvs.map (·.1)) := fun H1 s R q => h H1 s _ fun v H2 s2 ev => by
  have ev : v = .ref d := ev
  subst ev
  refine ⟨d, kvs, rfl, nd.same (s.trans s2), fun o es ep xs nx => ?_⟩
  refine q _ H2 (fun H' => ∃ kvs' es ep xs, NDx P w K H' d kvs' o es ep xs ∧ kvs'.map (·.1) = kvs.map (·.1)) s2 ⟨fun i H hi g => ⟨hi, g⟩, fun H g => ⟨rfl, g⟩, fun i H x H' hi g y => ?_⟩ fun L H' m hs k => ?_
  · obtain ⟨rfl, kk, hk, nk⟩ := y
    exact ⟨Same.refl _, kk, hk, nk⟩
  · have t := k.ts (K := K) (m.mono (s.trans s2))
    exact ⟨kvs, es, ep, xs, ⟨k _ _ (hs d (by simp)) nx.at_, nx.ex, nx.dat, nx.ent, nx.nd, Paired.mapP nx.en fun _ _ z => z.ts t, nx.low, nx.sz⟩, rfl⟩
theorem ed_ixNd {ta tb : TE} {d : Addr} {kvs : List (NK × V)} {ks : List NK} {n : Int} (nd : ND P w K H d kvs) (ha : Ev ta σ H (.ref d)) (hb : Ed K tb σ H (.tup ks)) (hd : (NestedKey.tup ks).depth ≤ 8) (e : valV kvs (.tup ks) = some (.int n)) : Ed K (tOp (rIxN P w K) ta tb) σ H (.num n) := fun H1 s Q q =>
  ha H1 s _ fun x H2 s2 ex => hb H2 (s.trans s2) _ fun y H3 s3 ny => by
    have ex : x = .ref d := ex
    subst ex
    obtain ⟨b, xs, rfl, _, _⟩ := ny.tup_eq
    exact ⟨d, kvs, .tup ks, b, .int n, rfl, rfl, nd.same ((s.trans s2).trans s3), ny, hd, e, q _ H3 (s2.trans s3) (.int n)⟩
structure KeysOk (kvs : List (NK × V)) : Prop where
  vInt : AllInt kvs
  alike : PySem.W.AllAlike ((kvs.map (·.1)).map NestedKey.data)
  tups : ∀ k ∈ kvs.map (·.1), ∃ a r, k = .tup (a :: r)
  dp : ∀ k ∈ kvs.map (·.1), k.depth ≤ 8
  lay : ∀ k ∈ kvs.map (·.1), PyData.canLay0 k.data = true
  few : kvs.length < 1000
theorem valV_key {kvs : List (NK × V)} {k : NK} (h : k ∈ kvs.map (·.1)) : ∃ v, valV kvs k = some v := by
  obtain ⟨p, hp, rfl⟩ := List.mem_map.mp h
  have h := valV_any (kvs := kvs) (k := p.1)
  have h2 : (kvs.any fun kv => decide (kv.1 = p.1)) = true := List.any_eq_true.mpr ⟨p, hp, decide_eq_true rfl⟩
  rw [h2] at h
  exact Option.isSome_iff_exists.mp h.symm
theorem el_sorted {te : TE} {d : Addr} {kvs : List (NK × V)} (nd : ND P w K H d kvs) (ok : KeysOk kvs) (h : Ev te σ H (.ref d)) : EL (Nk K) (tCB (rSortN P w K) (tCons te tNil)) σ H ((kvs.map (·.1)).mergeSort keyLe) := fun H1 s Q q =>
  h H1 s _ fun x H2 s2 ex => by
    have ex : x = .ref d := ex
    subst ex
    exact ⟨d, kvs, rfl, nd.same (s.trans s2), ok.alike, ok.tups, fun p ws H' hp s3 e n => q p ws H' (fresh_back s2 hp) (s2.trans s3) e n⟩
theorem datas_map (ks : List NK) : NestedKey.datas ks = ks.map NestedKey.data := by
  induction ks with
  | nil => rfl
  | cons k ks ih => rw [NestedKey.datas, ih]; rfl
theorem shaped_keys {ks : List NK} (h1 : ∀ k ∈ ks, PyData.canLay0 k.data = true) (h2 : ∀ k ∈ ks, k.depth ≤ 8) : SeqAt.shaped (.list (NestedKey.datas ks)) = true := by
  have a : PyData.canLayAll0 (NestedKey.datas ks) = true := by
    induction ks with
    | nil => rfl
    | cons k ks ih =>
      show (PyData.canLay0 k.data && PyData.canLayAll0 (NestedKey.datas ks)) = true
      rw [h1 k (List.mem_cons_self ..), ih (fun x hx => h1 x (List.mem_cons_of_mem _ hx)) (fun x hx => h2 x (List.mem_cons_of_mem _ hx))]; rfl
  have b : PyData.depthAll (NestedKey.datas ks) ≤ 8 := by
    clear a h1
    induction ks with
    | nil => exact Nat.zero_le _
    | cons k ks ih =>
      show max k.data.depth (PyData.depthAll (NestedKey.datas ks)) ≤ 8
      rw [depth_data]
      exact Nat.max_le.mpr ⟨h2 k (List.mem_cons_self ..), ih fun x hx => h2 x (List.mem_cons_of_mem _ hx)⟩
  show (PyData.canLayAll0 (NestedKey.datas ks) && decide (PyData.depthAll (NestedKey.datas ks) + 1 ≤ 64)) = true
  rw [a, decide_eq_true (by omega)]; rfl
def spAlikeD (P : Program) (w : World) (K : PySem.W.Frag) : Sp := fun vs H Q _ => ∃ (a b : Addr) (kvs : List (NK × V)), vs = [.ref a, .ref b] ∧ ND P w K H a kvs ∧ ND P w K H b kvs ∧ KeysOk kvs ∧ RetV (.bl true) H Q
theorem ok_alikeD (T : Gs K mg) (C__law_alike : Cal P w K mg base "_law_alike" 1 ["_law_found", "_law_due"] (spAlikeI K)) (d : Def K mg "_law_alike" sLawAlike ["_law_found", "_law_due"]) : FnOk P w K mg base CX0 2 d.f d.fd ["_law_found", "_law_due"] (spAlikeD P w K) := by
  refine d.F.ok scLawAlike (fun vs H Q E h => ?_) (fun cdv A outer s H vs Q E hr h => ?_)
  · obtain ⟨a, b, kvs, rfl, _⟩ := h
    rfl
  · obtain ⟨a, b, kvs, rfl, na, nb, ok, q⟩ := h
    have E0 : Env K H (L2.start nLawAlike [.ref a, .ref b]) [.v (.ref a), .v (.ref b), .u, .u] := .cons rfl (.cons rfl (.cons True.intro (.cons True.intro .nil)))
    have hu := room_hu hr
    refine ⟨_, pss_cons (ps_if (pt_val (pe_callB call_isiTN (by rfl) T.z_isinstance (by decide +kernel) (pa_cons (pv 1) (pa_cons (pe_tup (pa_cons (pe_bltn (v := .ty "tuple") (by rfl) T.z_tuple (by decide +kernel) rfl) (pa_cons (pe_bltn (v := .ty "list") (by rfl) T.z_list (by decide +kernel) rfl) pa_nil))) pa_nil)))) pss_never pss_nil)
      (pss_cons (ps_if (pt_val (pe_callB call_isiN (by rfl) T.z_isinstance (by decide +kernel) (pa_cons (pv 1) (pa_cons (pe_bltn (v := .ty "dict") (by rfl) T.z_dict (by decide +kernel) rfl) pa_nil)))) (pss_cons (ps_if (PW.pt (pw_or (pt_not (pt_val (pe_callB call_isiN (by rfl) T.z_isinstance (by decide +kernel) (pa_cons (pv 0) (pa_cons (pe_bltn (v := .ty "dict") (by rfl) T.z_dict (by decide +kernel) rfl) pa_nil))))) (pw_or1 (pt_cmpR (op_neD hu) (pe_callB (call_sortedN rfl hu) (by rfl) T.z_sorted (by decide +kernel) (pa_cons (pv 0) pa_nil)) (pe_callB (call_sortedN rfl hu) (by rfl) T.z_sorted (by decide +kernel) (pa_cons (pv 1) pa_nil)) (nomark _))))) (pss_one (ps_ret pe_bl)) pss_nil)
      (pss_one (ps_ret (pe_cmpR (op_eqD hu) (pe_lc (own := [("_law_key", 3)]) rfl scLawAlike.nd (pi_keysN (pv 1)) (blkOk_by (by kernel_rfl)) (fun _ _ _ _ _ => pg_name (i := 3) scLawAlike.nd rfl (.inl rfl) (.inr rfl)) (fun _ _ _ _ _ => pts_one (pt_not (pt_val (pe_cal C__law_alike (hr.mono (by decide)) (by rfl) (pa_cons (pe_ix (ix_dictNK (P := P) (w := w) (K := K) rfl rfl rfl hu) (pv 0) (pv 3) (fun _ _ => rfl)) (pa_cons (pe_ix (ix_dictNK (P := P) (w := w) (K := K) rfl rfl rfl hu) (pv 1) (pv 3) (fun _ _ => rfl)) pa_nil)))))) (fun _ _ _ _ _ => pv 3)) (pe_lst pa_nil) (nomark _))))) pss_nil)
      (pss_cons (ps_if (PW.pt (pw_or (pt_cmp (pc_isN (pv 1)) rfl) (pw_or1 (pt_val (pe_callB call_isiN (by rfl) T.z_isinstance (by decide +kernel) (pa_cons (pv 1) (pa_cons (pe_bltn (v := .ty "str") (by rfl) T.z_str (by decide +kernel) rfl) pa_nil))))))) (pss_one (ps_ret (pe_and (pe_cmpR op_eq (pv 0) (pv 1) (nomark _)) (pe_one (pe_cmpR op_eq (pe_callB call_isiN (by rfl) T.z_isinstance (by decide +kernel) (pa_cons (pv 0) (pa_cons (pe_bltn (v := .ty "str") (by rfl) T.z_str (by decide +kernel) rfl) pa_nil))) (pe_callB call_isiN (by rfl) T.z_isinstance (by decide +kernel) (pa_cons (pv 1) (pa_cons (pe_bltn (v := .ty "str") (by rfl) T.z_str (by decide +kernel) rfl) pa_nil))) (nomark _)))))) pss_nil)
      (pss_one (ps_ret (pe_and (pe_callB call_isiN (by rfl) T.z_isinstance (by decide +kernel) (pa_cons (pv 0) (pa_cons (pe_bltn (v := .ty "int") (by rfl) T.z_int (by decide +kernel) rfl) pa_nil))) (pe_and (pe_cmpR op_eq (pe_callB call_isiN (by rfl) T.z_isinstance (by decide +kernel) (pa_cons (pv 0) (pa_cons (pe_bltn (v := .ty "bool") (by rfl) T.z_bool (by decide +kernel) rfl) pa_nil))) (pe_callB call_isiN (by rfl) T.z_isinstance (by decide +kernel) (pa_cons (pv 1) (pa_cons (pe_bltn (v := .ty "bool") (by rfl) T.z_bool (by decide +kernel) rfl) pa_nil))) (nomark _)) (pe_one (pe_cmpR op_eq (pv 0) (pv 1) (nomark _))))))))), ?_⟩
    refine q_ifN (et_B (ev_isiTN (b1 := false) (b2 := false) nb (ev_var E0 rfl) (by decide +kernel) (by decide +kernel))) fun H1 s1 => ?_
    have E1 := E0.ts (Same.ts (K := K) s1)
    have na1 := na.same s1
    have nb1 := nb.same s1
    refine q_ifT (et_B (ev_isiN (b := true) nb1 (ev_var E1 rfl) (by decide +kernel))) fun H2 s2 => ?_
    have E2 := E1.ts (Same.ts (K := K) s2)
    have na2 := na1.same s2
    have nb2 := nb1.same s2
    have hperm : ∀ k, k ∈ (kvs.map (·.1)).mergeSort keyLe → k ∈ kvs.map (·.1) := fun k hk => (List.mergeSort_perm _ _).mem_iff.mp hk
    have hsh := shaped_keys (ks := (kvs.map (·.1)).mergeSort keyLe) (fun k hk => ok.lay k (hperm k hk)) (fun k hk => ok.dp k (hperm k hk))
    refine q_ifN (et_to (et_or (et_not (et_B (ev_isiN (b := true) na2 (ev_var E2 rfl) (by decide +kernel)))) (fun _ => et_test (ev_neLL (b := false) (el_sorted na2 ok (ev_var E2 rfl)) (el_sorted nb2 ok (ev_var E2 rfl)) hsh hsh (by rw [(eqv_refl _).2 _ (Nat.le_refl _)]; rfl)))) rfl) fun H3 s3 => ?_
    have E3 := E2.ts (Same.ts (K := K) s3)
    have na3 := na2.same s3
    have nb3 := nb2.same s3
    have hemp : ((kvs.map (·.1)).filter (fun _ => false)).map (fun k => k) = [] := by simp
    refine s_retV (ev_eqLL (b := true) (ks := []) (ls := []) (hemp ▸ el_lc1T nk_ts (ew_keysN nb3 (ev_var E3 rfl)) E3 (by rw [List.length_map]; have := ok.few; omega) (by decide) (fun _ => false) (fun k => k) (fun k σ' H' hk s' E' => ?_) (fun k σ' H' hk s' z E' => by cases z)) (el_lst ea_nil (Nat.zero_le _)) (by decide) (by decide) rfl) fun H4 s4 => q H4 (((s1.trans s2).trans s3).trans s4)
    obtain ⟨v, hv⟩ := valV_key hk
    obtain ⟨n, hn⟩ := ok.vInt _ (valV_mem hv)
    have hn : v = .int n := hn
    subst hn
    obtain ⟨x, r, rfl⟩ := ok.tups k hk
    have hdp := ok.dp _ hk
    refine et_to (et_not (et_B (b := true) (er_call (ea_cons (ed_ixNd (na3.same s') (ev_var E' rfl) (ed_var E' rfl) hdp hv) (ea_cons (ed_ixNd (nb3.same s') (ev_var E' rfl) (ed_var E' rfl) hdp hv) ea_nil)) fun vs H2 Q s2 nn q => ⟨n, nn, fun H' s' => q _ H' s' rfl⟩))) rfl
end
end NM
namespace NM
open PySem PySem.Spec PyProof.Rows L2
/-! ### the law's sheets -/
def exs : List (List Row) := [[.sum 0 1], [.number 3, .sum 0 2, .sum 1 3], [.sum 0 0, .sum 1 2], [.number 2], []]
def LawSheet (p : Int) (many size : Nat) (rs : List Row) : Prop :=
  (∃ ex ∈ exs, rs = .own 0 :: .own 1 :: ex ∧ (size = 1 ∨ (size = 2 ∧ 2 < many ∧ p = 5))) ∨ (rs = [.own 1, .times 0 0] ∧ size = 1 ∧ 2 < many ∧ p = 5)
def okB (many : Nat) : List Row → Nat → Bool
  | [], _ => true
  | .own a :: rs, i => decide (a < many) && okB many rs (i + 1)
  | .number n :: rs, i => decide (n ≤ 12) && okB many rs (i + 1)
  | .sum a b :: rs, i => decide (a < i ∧ b < i) && okB many rs (i + 1)
  | .times a b :: rs, i => decide (a < i ∧ b < i) && okB many rs (i + 1)
theorem okB_ok {many : Nat} : ∀ (rs : List Row) (j : Nat), okB many rs j = true → ∀ (i : Nat) (r : Row), rs[i]? = some r → r.ok many (j + i)
  | [], _, _, i, r, h => by simp at h
  | x :: rs, j, hb, 0, r, h => by
    cases (Option.some.inj (by simpa using h) : x = r)
    cases x with
    | own a => unfold okB at hb; rw [Bool.and_eq_true] at hb; exact (of_decide_eq_true hb.1 : a < many)
    | number a => unfold okB at hb; rw [Bool.and_eq_true] at hb; exact (of_decide_eq_true hb.1 : a ≤ 12)
    | sum a b => unfold okB at hb; rw [Bool.and_eq_true] at hb; exact (of_decide_eq_true hb.1 : a < j ∧ b < j)
    | times a b => unfold okB at hb; rw [Bool.and_eq_true] at hb; exact (of_decide_eq_true hb.1 : a < j ∧ b < j)
  | x :: rs, j, hb, i + 1, r, h => by
    have hb2 : okB many rs (j + 1) = true := by cases x <;> (unfold okB at hb; rw [Bool.and_eq_true] at hb; exact hb.2)
    have := okB_ok rs (j + 1) hb2 i r (by simpa using h)
    rw [show j + (i + 1) = j + 1 + i by omega]
    exact this
theorem lawSheet_sheet {p : Int} {many size : Nat} {rs : List Row} (h2 : 2 ≤ many) (h4 : many ≤ 4) (L : LawSheet p many size rs) : SheetOk many rs := by
  have hm : many = 2 ∨ many = 3 ∨ many = 4 := by omega
  have key : okB many rs 0 = true ∧ rs ≠ [] ∧ rs.length ≤ 8 := by
    rcases L with ⟨ex, hex, rfl, _⟩ | ⟨rfl, _⟩
    · refine ⟨?_, by simp, ?_⟩
      · revert hex; rcases hm with rfl | rfl | rfl <;> (revert ex; decide)
      · revert hex; revert ex; decide
    · refine ⟨?_, by simp, by decide⟩
      rcases hm with rfl | rfl | rfl <;> decide
  refine ⟨key.2.1, key.2.2, fun i r h => ?_⟩
  have := okB_ok rs 0 key.1 i r h
  rwa [Nat.zero_add] at this
theorem coins_two {many size : Nat} {ex : List Row} (h : ex ∈ exs) : coinsP many size (.own 0 :: .own 1 :: ex) = ((2 * size : Nat) : Int) := by
  unfold exs at h
  simp only [List.mem_cons, List.not_mem_nil, or_false] at h
  rcases h with rfl | rfl | rfl | rfl | rfl <;> (simp [coinsP, coinsRow]; omega)
theorem coins_times {many size : Nat} : coinsP many size [.own 1, .times 0 0] = ((size + many * size : Nat) : Int) := by
  simp [coinsP, coinsRow]
theorem lawSheet_coins {p : Int} {many size : Nat} {rs : List Row} (h4 : many ≤ 4) (L : LawSheet p many size rs) : ∃ n : Nat, coinsP many size rs = (n : Int) ∧ n < 100 := by
  rcases L with ⟨ex, hex, rfl, h⟩ | ⟨rfl, rfl, h⟩
  · exact ⟨_, coins_two hex, by omega⟩
  · exact ⟨_, coins_times, by omega⟩
theorem lawSheet_size {p : Int} {many size : Nat} {rs : List Row} (L : LawSheet p many size rs) : 1 ≤ size ∧ size ≤ 2 := by
  rcases L with ⟨ex, hex, rfl, h⟩ | ⟨rfl, rfl, h⟩ <;> omega
theorem sv_ok {p : Int} {many size n : Nat} {rs : List Row} {things lot : List Int} (L : LawSheet p many size rs) (hp : pIn p) (h2 : 2 ≤ many) (h4 : many ≤ 4) (hn : coinsP many size rs = (n : Int)) (hpow : ¬ powP p n > 800) (ht : inP p things) (htl : things.length = many) (hlot : lotOk (many : Int) lot) : SvOk p many size rs things lot n := by
  have hs := lawSheet_size L
  have hen : enough many size rs := by
    unfold enough
    rcases L with ⟨ex, hex, rfl, h⟩ | ⟨rfl, rfl, h⟩
    · have : hasTimes (.own 0 :: .own 1 :: ex) = false := by clear hn; revert hex; revert ex; decide
      rw [this, if_neg Bool.false_ne_true]; omega
    · rw [show hasTimes [.own 1, .times 0 0] = true from rfl, if_pos rfl]; omega
  have hn' : 2 ≤ n ∧ n ≤ 10 ∧ p.toNat ^ n ≤ 800 := by
    rcases L with ⟨ex, hex, rfl, h⟩ | ⟨rfl, rfl, h3, rfl⟩
    · rw [coins_two hex] at hn
      have hn : n = 2 * size := by omega
      rcases h with rfl | ⟨rfl, _, rfl⟩
      · subst hn; rcases hp with rfl | rfl <;> decide
      · subst hn; decide
    · rw [coins_times] at hn
      have hm : many = 3 ∨ many = 4 := by omega
      rcases hm with rfl | rfl
      · have hn : n = 4 := by omega
        subst hn; decide
      · have hn : n = 5 := by omega
        subst hn
        exact (hpow (by decide)).elim
  exact ⟨hp, h2, h4, hs.1, hs.2, lawSheet_sheet h2 h4 L, ht, htl, hlot, hen, hn, hn'.1, hn'.2.1, hn'.2.2⟩
end NM
namespace NM
open PySem PySem.Spec PyProof.Rows L2
/-! ### tally: what it holds -/
theorem valI_put {kvs : List (NK × V)} {k j : NK} : valV (cnt1 kvs k) j = if j = k then some (.int (valI kvs k + 1)) else valV kvs j := valV_put kvs k j _
theorem foldl_valV (j : NK) : ∀ (ks : List NK) (kvs : List (NK × V)), valV (ks.foldl cnt1 kvs) j = if j ∈ ks then some (.int (valI kvs j + (ks.count j : Nat))) else valV kvs j
  | [], kvs => by simp
  | k :: ks, kvs => by
    rw [List.foldl_cons, foldl_valV j ks]
    have h1 := valI_put (kvs := kvs) (k := k) (j := j)
    by_cases e : j = k
    · subst e
      rw [if_pos rfl] at h1
      have h2 : valI (cnt1 kvs j) j = valI kvs j + 1 := by unfold valI at h1 ⊢; rw [h1]
      rw [h2, h1, if_pos (List.mem_cons_self ..), List.count_cons_self]
      by_cases m : j ∈ ks
      · rw [if_pos m]; congr 2; omega
      · rw [if_neg m, List.count_eq_zero_of_not_mem m]; congr 2
    · rw [if_neg e] at h1
      have h2 : valI (cnt1 kvs k) j = valI kvs j := by unfold valI; rw [h1]
      rw [h2, h1]
      have hc : List.count j (k :: ks) = List.count j ks := List.count_cons_of_ne (fun z => e z.symm)
      rw [hc]
      by_cases m : j ∈ ks
      · rw [if_pos m, if_pos (List.mem_cons_of_mem _ m)]
      · rw [if_neg m, if_neg (fun z => by rcases List.mem_cons.mp z with q | q; exact e q; exact m q)]
theorem tally_valV (j : NK) (ks : List NK) : valV (tally ks) j = if j ∈ ks then some (.int (ks.count j : Nat)) else none := by
  have := foldl_valV j ks []
  unfold tally
  rw [this]
  show (if j ∈ ks then some (V.int (0 + (ks.count j : Nat))) else none) = _
  rw [Int.zero_add]
theorem putK_keys {kvs : List (NK × V)} {k : NK} {v : V} : (putK kvs k v).map (·.1) = if k ∈ kvs.map (·.1) then kvs.map (·.1) else kvs.map (·.1) ++ [k] := by
  unfold putK
  by_cases a : (kvs.any fun kv => decide (kv.1 = k)) = true
  · rw [if_pos a]
    obtain ⟨p, hp, e⟩ := List.any_eq_true.mp a
    rw [if_pos (List.mem_map.mpr ⟨p, hp, of_decide_eq_true e⟩), List.map_map]
    refine List.map_congr_left fun q _ => ?_
    show (if q.1 = k then (q.1, v) else q).1 = q.1
    split <;> rfl
  · rw [if_neg a, if_neg (fun h => by
      obtain ⟨p, hp, e⟩ := List.mem_map.mp h
      exact a (List.any_eq_true.mpr ⟨p, hp, decide_eq_true e⟩)), List.map_append]
    rfl
theorem foldl_keys : ∀ (ks : List NK) (kvs : List (NK × V)), (kvs.map (·.1)).Nodup → ((ks.foldl cnt1 kvs).map (·.1)).Nodup ∧ ∀ j, j ∈ (ks.foldl cnt1 kvs).map (·.1) ↔ j ∈ ks ∨ j ∈ kvs.map (·.1)
  | [], kvs, h => ⟨h, fun j => by simp⟩
  | k :: ks, kvs, h => by
    have hk : ((cnt1 kvs k).map (·.1)).Nodup ∧ ∀ j, j ∈ (cnt1 kvs k).map (·.1) ↔ j = k ∨ j ∈ kvs.map (·.1) := by
      unfold cnt1
      rw [putK_keys]
      by_cases m : k ∈ kvs.map (·.1)
      · rw [if_pos m]
        exact ⟨h, fun j => ⟨.inr, fun q => by rcases q with rfl | q; exact m; exact q⟩⟩
      · rw [if_neg m]
        refine ⟨List.nodup_append.mpr ⟨h, by simp, fun a ha b hb => ?_⟩, fun j => ?_⟩
        · rw [List.mem_singleton.mp hb]
          intro e
          exact m (e ▸ ha)
        · rw [List.mem_append, List.mem_singleton]
          exact Or.comm
    obtain ⟨h1, h2⟩ := foldl_keys ks (cnt1 kvs k) hk.1
    rw [List.foldl_cons]
    refine ⟨h1, fun j => ?_⟩
    rw [h2 j, hk.2 j, List.mem_cons]
    constructor
    · rintro (q | q | q)
      · exact .inl (.inr q)
      · exact .inl (.inl q)
      · exact .inr q
    · rintro ((q | q) | q)
      · exact .inr (.inl q)
      · exact .inl q
      · exact .inr (.inr q)
theorem tally_keys (ks : List NK) : ((tally ks).map (·.1)).Nodup ∧ ∀ j, j ∈ (tally ks).map (·.1) ↔ j ∈ ks := by
  obtain ⟨h1, h2⟩ := foldl_keys ks [] List.nodup_nil
  exact ⟨h1, fun j => by
    have := h2 j
    unfold tally
    rw [this]; simp⟩
theorem tally_perm {ks ls : List NK} (h : ks.Perm ls) : (tally ks).length = (tally ls).length ∧ ∀ q ∈ tally ks, valV (tally ls) q.1 = some q.2 ∧ ∃ m, q.2 = .int m := by
  obtain ⟨n1, m1⟩ := tally_keys ks
  obtain ⟨n2, m2⟩ := tally_keys ls
  have hp : ((tally ks).map (·.1)).Perm ((tally ls).map (·.1)) := (List.perm_ext_iff_of_nodup n1 n2).mpr fun j => by rw [m1, m2]; exact h.mem_iff
  refine ⟨by have := hp.length_eq; rwa [List.length_map, List.length_map] at this, fun q hq => ?_⟩
  have hm : q.1 ∈ ks := (m1 q.1).mp (List.mem_map.mpr ⟨q, hq, rfl⟩)
  -- the value at a key of a list without doubles
  have hv : valV (tally ks) q.1 = some q.2 := by
    have key : ∀ (kvs : List (NK × V)), (kvs.map (·.1)).Nodup → ∀ q ∈ kvs, valV kvs q.1 = some q.2 := by
      intro kvs
      induction kvs with
      | nil => intro _ q hq; cases hq
      | cons p r ih =>
        intro hn q hq
        rw [List.map_cons, List.nodup_cons] at hn
        rcases List.mem_cons.mp hq with rfl | hq
        · exact valV_pos rfl
        · rw [valV_neg (fun e => hn.1 (List.mem_map.mpr ⟨q, hq, e.symm⟩))]
          exact ih hn.2 q hq
    exact key _ n1 q hq
  rw [tally_valV, if_pos hm] at hv
  rw [tally_valV, if_pos (h.mem_iff.mp hm), ← h.count_eq]
  exact ⟨hv, _, (Option.some.inj hv).symm⟩
theorem perm_bij {α : Type} {C : List α} (nd : C.Nodup) (φ ψ : α → α) (h1 : ∀ c ∈ C, φ c ∈ C) (h2 : ∀ c ∈ C, ψ c ∈ C) (h3 : ∀ c ∈ C, ψ (φ c) = c) (h4 : ∀ c ∈ C, φ (ψ c) = c) : (C.map φ).Perm C := by
  have nd2 : (C.map φ).Nodup := by
    show List.Pairwise _ _
    rw [List.pairwise_map]
    refine List.Pairwise.imp_of_mem (fun {a b} ha hb hab e => hab ?_) nd
    rw [← h3 a ha, ← h3 b hb, e]
  refine (List.perm_ext_iff_of_nodup nd2 nd).mpr fun a => ⟨fun h => ?_, fun h => ?_⟩
  · obtain ⟨c, hc, rfl⟩ := List.mem_map.mp h
    exact h1 c hc
  · exact List.mem_map.mpr ⟨ψ a, h2 a h, h4 a h⟩
/-! ### all coins -/
theorem allStep_nodup {l : List (List Int)} {p : Int} (h : l.Nodup) : (allStep l p).Nodup := by
  unfold allStep
  show List.Pairwise _ _
  rw [List.pairwise_flatMap]
  refine ⟨fun t _ => ?_, ?_⟩
  · rw [List.pairwise_map]
    refine List.Pairwise.imp (fun {a b} hab e => hab ?_) (List.nodup_range (n := p.toNat))
    have := List.append_cancel_left e
    have h2 : (a : Int) = (b : Int) := by simpa using this
    omega
  · refine List.Pairwise.imp (fun {a b} hab x hx y hy e => hab ?_) h
    obtain ⟨i, _, rfl⟩ := List.mem_map.mp hx
    obtain ⟨j, _, rfl⟩ := List.mem_map.mp hy
    exact (List.append_inj' e rfl).1
theorem all_nodup {p : Int} : ∀ (n : Nat) (l : List (List Int)), l.Nodup → ((List.replicate n p).foldl allStep l).Nodup
  | 0, l, h => h
  | n + 1, l, h => by rw [List.replicate_succ, List.foldl_cons]; exact all_nodup n _ (allStep_nodup h)
theorem all_mem {p : Int} (hp : 0 ≤ p) : ∀ (n : Nat) (l : List (List Int)) (m : Nat), (∀ c, c ∈ l ↔ c.length = m ∧ inP p c) → ∀ c, c ∈ (List.replicate n p).foldl allStep l ↔ c.length = m + n ∧ inP p c
  | 0, l, m, h => h
  | n + 1, l, m, h => by
    rw [List.replicate_succ, List.foldl_cons]
    have := all_mem hp n (allStep l p) (m + 1) (fun c => by
      unfold allStep
      rw [List.mem_flatMap]
      constructor
      · rintro ⟨t, ht, hc⟩
        obtain ⟨i, hi, rfl⟩ := List.mem_map.mp hc
        have hi := List.mem_range.mp hi
        obtain ⟨h1, h2⟩ := (h t).mp ht
        refine ⟨by rw [List.length_append, h1]; rfl, fun x hx => ?_⟩
        rcases List.mem_append.mp hx with q | q
        · exact h2 x q
        · rw [List.mem_singleton.mp q]; omega
      · rintro ⟨h1, h2⟩
        have hne : c ≠ [] := fun e => by rw [e] at h1; cases h1
        have e := List.dropLast_concat_getLast hne
        have hl := h2 (c.getLast hne) (List.getLast_mem hne)
        refine ⟨c.dropLast, (h _).mpr ⟨by rw [List.length_dropLast]; omega, fun x hx => h2 x (List.dropLast_subset _ hx)⟩, List.mem_map.mpr ⟨(c.getLast hne).toNat, List.mem_range.mpr (by omega), ?_⟩⟩
        rw [Int.toNat_of_nonneg hl.1]
        exact e)
    intro c
    rw [this c, show m + 1 + n = m + (n + 1) by omega]
theorem allP_mem {p : Int} (hp : 0 ≤ p) (n : Nat) (c : List Int) : c ∈ allP (List.replicate n p) ↔ c.length = n ∧ inP p c := by
  have := all_mem hp n [[]] 0 (fun c => by
    rw [List.mem_singleton]
    constructor
    · rintro rfl; exact ⟨rfl, fun _ h => nomatch h⟩
    · rintro ⟨h, _⟩; exact List.length_eq_zero_iff.mp h) c
  rw [Nat.zero_add] at this
  exact this
theorem allP_nodup {p : Int} (n : Nat) : (allP (List.replicate n p)).Nodup := all_nodup n [[]] (by simp)
/-! ### the keys are alike -/
theorem alikeAll_of : ∀ {xs ys : List PyData}, (∀ (i : Nat) x y, xs[i]? = some x → ys[i]? = some y → PySem.W.alike x y = true) → PySem.W.alikeAll xs ys = true
  | [], _, _ => by unfold PySem.W.alikeAll; rfl
  | _ :: _, [], _ => by unfold PySem.W.alikeAll; rfl
  | x :: xs, y :: ys, h => by
    unfold PySem.W.alikeAll
    rw [h 0 x y rfl rfl, alikeAll_of fun i a b ha hb => h (i + 1) a b (by simpa using ha) (by simpa using hb)]
    rfl
theorem alike_tup {ks ls : List NK} (h : ∀ (i : Nat) k l, ks[i]? = some k → ls[i]? = some l → PySem.W.alike k.data l.data = true) : PySem.W.alike (NestedKey.tup ks).data (NestedKey.tup ls).data = true := by
  show PySem.W.alike (.tuple (NestedKey.datas ks)) (.tuple (NestedKey.datas ls)) = true
  unfold PySem.W.alike
  refine alikeAll_of fun i x y hx hy => ?_
  rw [datas_map, List.getElem?_map] at hx hy
  obtain ⟨k, hk, rfl⟩ := Option.map_eq_some_iff.mp hx
  obtain ⟨l, hl, rfl⟩ := Option.map_eq_some_iff.mp hy
  exact h i k l hk hl
theorem alike_num (a b : Int) : PySem.W.alike (NestedKey.num a).data (NestedKey.num b).data = true := by
  show PySem.W.alike (.int a) (.int b) = true
  unfold PySem.W.alike; rfl
theorem alike_none : PySem.W.alike NestedKey.none.data NestedKey.none.data = true := by
  show PySem.W.alike .none .none = true
  unfold PySem.W.alike; rfl
theorem alike_tupI (l m : List Int) : PySem.W.alike (tupI l).data (tupI m).data = true := alike_tup fun i k k' hk hk' => by
  rw [List.getElem?_map] at hk hk'
  obtain ⟨a, _, rfl⟩ := Option.map_eq_some_iff.mp hk
  obtain ⟨b, _, rfl⟩ := Option.map_eq_some_iff.mp hk'
  exact alike_num a b
theorem alike_line (lot : List Int) (g : Int) (l m : List Int) : PySem.W.alike (seenLine lot g l).data (seenLine lot g m).data = true := alike_tup fun i k k' hk hk' => by
  rw [List.getElem?_map] at hk hk'
  obtain ⟨a, ha, rfl⟩ := Option.map_eq_some_iff.mp hk
  obtain ⟨b, hb, rfl⟩ := Option.map_eq_some_iff.mp hk'
  obtain ⟨x, hx, rfl⟩ := enum_get ha
  obtain ⟨y, hy, rfl⟩ := enum_get hb
  rw [List.getElem?_map] at hx hy
  obtain ⟨x, _, rfl⟩ := Option.map_eq_some_iff.mp hx
  obtain ⟨y, _, rfl⟩ := Option.map_eq_some_iff.mp hy
  show PySem.W.alike (if (lot.contains g || lot.contains (i : Int)) = true then NestedKey.num x else .none).data (if (lot.contains g || lot.contains (i : Int)) = true then NestedKey.num y else .none).data = true
  by_cases h : (lot.contains g || lot.contains (i : Int)) = true
  · rw [if_pos h, if_pos h]; exact alike_num x y
  · rw [if_neg h, if_neg h]; exact alike_none
theorem givers_get {n m i : Nat} {r : Row} {g g' : Int} (h : (giversOf n r)[i]? = some g) (h' : (giversOf m r)[i]? = some g') : g = g' := by
  cases r with
  | own a => unfold giversOf at h h'; rw [h] at h'; exact Option.some.inj h'
  | number a =>
    unfold giversOf at h h'
    rw [List.getElem?_map] at h h'
    obtain ⟨x, hx, rfl⟩ := Option.map_eq_some_iff.mp h
    obtain ⟨y, hy, rfl⟩ := Option.map_eq_some_iff.mp h'
    rw [(List.getElem?_eq_some_iff.mp hx).2.symm, (List.getElem?_eq_some_iff.mp hy).2.symm, List.getElem_range, List.getElem_range]
  | sum a b =>
    unfold giversOf at h h'
    rw [List.getElem?_map] at h h'
    obtain ⟨x, hx, rfl⟩ := Option.map_eq_some_iff.mp h
    obtain ⟨y, hy, rfl⟩ := Option.map_eq_some_iff.mp h'
    rw [(List.getElem?_eq_some_iff.mp hx).2.symm, (List.getElem?_eq_some_iff.mp hy).2.symm, List.getElem_range, List.getElem_range]
  | times a b =>
    unfold giversOf at h h'
    rw [List.getElem?_map] at h h'
    obtain ⟨x, hx, rfl⟩ := Option.map_eq_some_iff.mp h
    obtain ⟨y, hy, rfl⟩ := Option.map_eq_some_iff.mp h'
    rw [(List.getElem?_eq_some_iff.mp hx).2.symm, (List.getElem?_eq_some_iff.mp hy).2.symm, List.getElem_range, List.getElem_range]
theorem alike_row (lot : List Int) (n m : Nat) (r : Row) (d e : List (List Int)) : PySem.W.alike (seenRow lot (giversOf n r) d).data (seenRow lot (giversOf m r) e).data = true := alike_tup fun i k k' hk hk' => by
  obtain ⟨g, l, hg, _, rfl⟩ := zipWith_get hk
  obtain ⟨g', l', hg', _, rfl⟩ := zipWith_get hk'
  rw [givers_get hg hg']
  exact alike_line lot g' l l'
theorem alike_view (lot : List Int) (rs : List Row) (dl dl' : List (List (List Int))) (sh sh' : List Int) : PySem.W.alike (viewOf lot rs dl sh).data (viewOf lot rs dl' sh').data = true := alike_tup fun i k k' hk hk' => by
  match i with
  | 0 =>
    cases (Option.some.inj hk)
    cases (Option.some.inj hk')
    refine alike_tup fun i k k' hk hk' => ?_
    obtain ⟨d, r, _, hr, rfl⟩ := zipWith_get hk
    obtain ⟨d', r', _, hr', rfl⟩ := zipWith_get hk'
    rw [hr] at hr'
    cases (Option.some.inj hr')
    exact alike_row lot _ _ r d d'
  | 1 =>
    cases (Option.some.inj hk)
    cases (Option.some.inj hk')
    exact alike_tupI sh sh'
  | i + 2 => simp at hk
theorem lay_tup {ks : List NK} (h : ∀ k ∈ ks, PyData.canLay0 k.data = true) : PyData.canLay0 (NestedKey.tup ks).data = true := by
  show PyData.canLay0 (.tuple (NestedKey.datas ks)) = true
  show PyData.canLayAll0 (NestedKey.datas ks) = true
  induction ks with
  | nil => rfl
  | cons k ks ih =>
    show (PyData.canLay0 k.data && PyData.canLayAll0 (NestedKey.datas ks)) = true
    rw [h k (List.mem_cons_self ..), ih fun x hx => h x (List.mem_cons_of_mem _ hx)]; rfl
theorem lay_view (lot : List Int) (rs : List Row) (dl : List (List (List Int))) (sh : List Int) : PyData.canLay0 (viewOf lot rs dl sh).data = true := lay_tup fun k hk => by
  rcases List.mem_cons.mp hk with rfl | hk
  · refine lay_tup fun k hk => ?_
    obtain ⟨d, r, _, _, rfl⟩ := zipWith_mem hk
    refine lay_tup fun k hk => ?_
    obtain ⟨g, l, _, _, rfl⟩ := zipWith_mem hk
    refine lay_tup fun k hk => ?_
    obtain ⟨x, _, rfl⟩ := List.mem_map.mp hk
    unfold cellK
    split
    · split <;> rfl
    · rfl
  · rw [List.mem_singleton.mp hk]
    refine lay_tup fun k hk => ?_
    obtain ⟨x, _, rfl⟩ := List.mem_map.mp hk
    rfl
theorem keys_ok {p : Int} {many size n : Nat} {rs : List Row} {things lot : List Int} (ok : SvOk p many size rs things lot n) : KeysOk (tally (viewsP p many size rs things lot n)) := by
  have hk : ∀ k ∈ (tally (viewsP p many size rs things lot n)).map (·.1), ∃ dl sh, k = viewOf lot rs dl sh := fun k hk => by
    have := ((tally_keys _).2 k).mp hk
    unfold viewsP at this
    obtain ⟨c, _, rfl⟩ := List.mem_map.mp this
    exact ⟨_, _, rfl⟩
  refine ⟨tally_int _, fun d hd d' hd' => ?_, fun k h => ?_, fun k h => ?_, fun k h => ?_, ?_⟩
  · obtain ⟨k, h1, rfl⟩ := List.mem_map.mp hd
    obtain ⟨k', h2, rfl⟩ := List.mem_map.mp hd'
    obtain ⟨dl, sh, rfl⟩ := hk k h1
    obtain ⟨dl', sh', rfl⟩ := hk k' h2
    exact alike_view ..
  · obtain ⟨dl, sh, rfl⟩ := hk k h; exact ⟨_, _, rfl⟩
  · obtain ⟨dl, sh, rfl⟩ := hk k h; exact depth_view ..
  · obtain ⟨dl, sh, rfl⟩ := hk k h; exact lay_view ..
  · have h1 := tally_len (viewsP p many size rs things lot n)
    have h2 : (viewsP p many size rs things lot n).length = p.toNat ^ n := by
      unfold viewsP
      rw [List.length_map]
      show ((List.replicate n p).foldl allStep [[]]).length = _
      rw [all_len]; simp
    have := ok.pw
    omega
end NM
namespace NM
open PySem PySem.Spec PyProof.Rows L2
/-! ### what is seen of a line -/
theorem seenLine_eq {lot : List Int} {g : Int} {l m : List Int} {many : Nat} (hl : l.length = many) (hm : m.length = many) (h : ∀ j, j < many → (lot.contains g || lot.contains (j : Int)) = true → l.getD j 0 = m.getD j 0) : seenLine lot g l = seenLine lot g m := by
  rw [← atK_eq lot g l hl, ← atK_eq lot g m hm]
  congr 1
  refine List.map_congr_left fun k hk => ?_
  obtain ⟨i, hi, rfl⟩ := List.mem_map.mp hk
  have hi := List.mem_range.mp hi
  rw [Int.zero_add]
  show (if (lot.contains g || lot.contains (i : Int)) = true then NestedKey.num (l.getD i 0) else .none) = (if (lot.contains g || lot.contains (i : Int)) = true then NestedKey.num (m.getD i 0) else .none)
  by_cases c : (lot.contains g || lot.contains (i : Int)) = true
  · rw [if_pos c, if_pos c, h i hi c]
  · rw [if_neg c, if_neg c]
theorem list_ext {l m : List Int} {n : Nat} (hl : l.length = n) (hm : m.length = n) (h : ∀ j, j < n → l.getD j 0 = m.getD j 0) : l = m := by
  apply List.ext_getElem?
  intro j
  by_cases hj : j < n
  · have := h j hj
    rw [List.getD_eq_getElem?_getD, List.getD_eq_getElem?_getD, List.getElem?_eq_getElem (by omega : j < l.length), List.getElem?_eq_getElem (by omega : j < m.length)] at this
    rw [List.getElem?_eq_getElem (by omega : j < l.length), List.getElem?_eq_getElem (by omega : j < m.length)]
    exact congrArg some this
  · rw [List.getElem?_eq_none (by omega), List.getElem?_eq_none (by omega)]
theorem dealP_get {p s : Int} {many : Nat} {cs : List Int} {j : Nat} (hj : j < many) : (dealP p many s cs).getD j 0 = valueAtP p s cs ((j : Int) + 1) := by
  unfold dealP
  rw [List.getD_eq_getElem?_getD, List.getElem?_map, List.getElem?_range (show j < ((many : Int)).toNat from hj)]
  rfl
theorem zipWith_getD {f : Int → Int → Int} {l m : List Int} {j : Nat} (h1 : j < l.length) (h2 : j < m.length) : (List.zipWith f l m).getD j 0 = f (l.getD j 0) (m.getD j 0) := by
  rw [List.getD_eq_getElem?_getD, List.getD_eq_getElem?_getD, List.getD_eq_getElem?_getD, List.getElem?_zipWith, List.getElem?_eq_getElem h1, List.getElem?_eq_getElem h2]
  rfl
theorem rep_getD {x : Int} {n j : Nat} (h : j < n) : (List.replicate n x).getD j 0 = x := by
  rw [List.getD_eq_getElem?_getD, List.getElem?_replicate, if_pos h]; rfl
/-! ### coins that are shifted -/
def shl (p : Int) (cs ds : List Int) : List Int := List.zipWith (fun c d => (c + d) % p) cs ds
theorem shl_len {p : Int} {cs ds : List Int} (h : cs.length = ds.length) : (shl p cs ds).length = cs.length := by
  unfold shl; rw [List.length_zipWith]; omega
theorem shl_in {p : Int} (hp : 0 < p) (cs ds : List Int) : inP p (shl p cs ds) := fun x hx => by
  obtain ⟨a, b, _, _, rfl⟩ := zipWith_mem hx
  exact ⟨Int.emod_nonneg _ (by omega), Int.emod_lt_of_pos _ hp⟩
theorem shl_inv {p : Int} (hp : 0 < p) : ∀ {cs ds es : List Int}, cs.length = ds.length → inP p cs → Paired (fun (d e : Int) => d + e = 0) ds es → shl p (shl p cs ds) es = cs
  | [], [], _, _, _, h => by cases h; rfl
  | [], _ :: _, _, h, _, _ => by simp at h
  | _ :: _, [], _, h, _, _ => by simp at h
  | c :: cs, d :: ds, _, hl, hi, .cons (b := e) h1 h2 => by
    have h := hi c (List.mem_cons_self ..)
    have ih := shl_inv hp (cs := cs) (ds := ds) (by simpa using hl) (fun x hx => hi x (List.mem_cons_of_mem _ hx)) h2
    show ((c + d) % p + e) % p :: shl p (shl p cs ds) _ = c :: cs
    rw [ih, Int.emod_add_emod, show c + d + e = c by omega, Int.emod_eq_of_lt h.1 h.2]
theorem polyS_shl {p x : Int} : ∀ {cs ds : List Int}, cs.length = ds.length → Cong p (polyS x (shl p cs ds)) (polyS x cs + polyS x ds)
  | [], [], _ => by show Cong p 0 (0 + 0); exact .refl
  | [], _ :: _, h => by simp at h
  | _ :: _, [], h => by simp at h
  | c :: cs, d :: ds, h => by
    have ih := polyS_shl (p := p) (x := x) (cs := cs) (ds := ds) (by simpa using h)
    show Cong p ((c + d) % p + x * polyS x (shl p cs ds)) (c + x * polyS x cs + (d + x * polyS x ds))
    refine (Cong.emod.add (Cong.refl.mul ih)).trans ?_
    rw [show c + d + x * (polyS x cs + polyS x ds) = c + x * polyS x cs + (d + x * polyS x ds) by grind]
    exact .refl
theorem polyS_mul {x e : Int} : ∀ G : List Int, polyS x (G.map (e * ·)) = e * polyS x G
  | [] => by show (0 : Int) = e * 0; rw [Int.mul_zero]
  | g :: G => by
    show e * g + x * polyS x (G.map (e * ·)) = e * (g + x * polyS x G)
    rw [polyS_mul G]; grind
theorem value_shl {p t e x : Int} {cs G : List Int} (h : cs.length = G.length) : Cong p (valueAtP p (t + e) (shl p cs (G.map (e * ·))) x) (valueAtP p t cs x + e * (1 + x * polyS x G)) := by
  refine (valueAtP_cong _).trans ?_
  have h1 : Cong p (polyS x (shl p cs (G.map (e * ·)))) (polyS x cs + e * polyS x G) := by
    rw [← polyS_mul]; exact polyS_shl (by rw [List.length_map]; exact h)
  refine (Cong.refl.add (Cong.refl.mul h1)).trans ?_
  have h2 := (valueAtP_cong (p := p) (s := t) (x := x) cs).symm
  refine Cong.trans ?_ (h2.add (.refl (x := e * (1 + x * polyS x G))))
  rw [show t + e + x * (polyS x cs + e * polyS x G) = t + x * polyS x cs + e * (1 + x * polyS x G) by grind]
  exact .refl
theorem valueAtP_in {p : Int} (hp : 0 < p) (s x : Int) (cs : List Int) : 0 ≤ valueAtP p s cs x ∧ valueAtP p s cs x < p := ⟨Int.emod_nonneg _ (by omega), Int.emod_lt_of_pos _ hp⟩
/-! ### a polynomial that is 1 at 0 and 0 at the lot -/
theorem poly1 : ∀ p ∈ ([5, 7] : List Int), ∀ l ∈ ([0, 1, 2, 3] : List Int), ∃ g ∈ ([0, 1, 2, 3, 4, 5, 6] : List Int), (1 + (l + 1) * polyS (l + 1) [g]) % p = 0 := by decide
theorem poly2 : ∀ l ∈ ([0, 1, 2, 3] : List Int), ∀ m ∈ ([0, 1, 2, 3] : List Int), ∃ g ∈ ([0, 1, 2, 3, 4] : List Int), ∃ h ∈ ([0, 1, 2, 3, 4] : List Int), (1 + (l + 1) * polyS (l + 1) [g, h]) % 5 = 0 ∧ (1 + (m + 1) * polyS (m + 1) [g, h]) % 5 = 0 := by decide
theorem cong0 {p x : Int} (h : x % p = 0) : Cong p x 0 := .of_eq (by rw [h]; simp)
theorem in4 {l : Int} (h0 : 0 ≤ l) (h1 : l < 4) : l ∈ ([0, 1, 2, 3] : List Int) := by
  have : l = 0 ∨ l = 1 ∨ l = 2 ∨ l = 3 := by omega
  rcases this with rfl | rfl | rfl | rfl <;> decide
theorem gpoly {p : Int} {many size : Nat} {lot : List Int} (hp : pIn p) (hm : many ≤ 4) (ho : lotOk (many : Int) lot) (hl : lot.length ≤ size) (hs : size = 1 ∨ (size = 2 ∧ p = 5)) : ∃ G : List Int, G.length = size ∧ ∀ l ∈ lot, Cong p (1 + (l + 1) * polyS (l + 1) G) 0 := by
  have hb : ∀ l ∈ lot, l ∈ ([0, 1, 2, 3] : List Int) := fun l h => by
    have := ho.2.1 l h
    exact in4 this.1 (by omega)
  have hpp : p ∈ ([5, 7] : List Int) := by rcases hp with rfl | rfl <;> decide
  match lot, ho.1 with
  | [l], _ =>
    rcases hs with rfl | ⟨rfl, rfl⟩
    · obtain ⟨g, _, h⟩ := poly1 p hpp l (hb l (by simp))
      exact ⟨[g], rfl, fun x hx => by rw [List.mem_singleton.mp hx]; exact cong0 h⟩
    · obtain ⟨g, _, k, _, h, _⟩ := poly2 l (hb l (by simp)) l (hb l (by simp))
      exact ⟨[g, k], rfl, fun x hx => by rw [List.mem_singleton.mp hx]; exact cong0 h⟩
  | [l, m], _ =>
    rcases hs with rfl | ⟨rfl, rfl⟩
    · simp at hl
    · obtain ⟨g, _, k, _, h1, h2⟩ := poly2 l (hb l (by simp)) m (hb m (by simp))
      refine ⟨[g, k], rfl, fun x hx => ?_⟩
      rcases List.mem_cons.mp hx with rfl | hx
      · exact cong0 h1
      · rw [List.mem_singleton.mp hx]; exact cong0 h2
  | a :: b :: c :: r, _ => simp at hl; omega
/-! ### two own rows, then sums and numbers -/
structure TwoOk (p : Int) (many size : Nat) (ex : List Row) (h : Int → Int → Int) (a b c : Int) : Prop where
  lin : ∀ X Y, Cong p (h X Y) (a * X + b * Y + c)
  rng : ∀ X Y, 0 ≤ Y → Y < p → 0 ≤ h X Y ∧ h X Y < p
  dealt : ∀ things coins, dealtP p many size (.own 0 :: .own 1 :: ex) things coins = [[dealP p many (things.getD 0 0) (cut coins 0 size)], [dealP p many (things.getD 1 0) (cut coins size size)]]
  len : ∀ things coins, (sharesP p many size (.own 0 :: .own 1 :: ex) things coins).length = many
  sh : ∀ things coins j, j < many → (sharesP p many size (.own 0 :: .own 1 :: ex) things coins).getD j 0 = h ((dealP p many (things.getD 0 0) (cut coins 0 size)).getD j 0) ((dealP p many (things.getD 1 0) (cut coins size size)).getD j 0)
  val : ∀ things, svP p (.own 0 :: .own 1 :: ex) things = h (things.getD 0 0) (things.getD 1 0)
theorem two_ok {p : Int} {many size : Nat} {ex : List Row} (hp : 0 < p) (h : ex ∈ exs) : ∃ hh a b c, TwoOk p many size ex hh a b c := by
  unfold exs at h
  simp only [List.mem_cons, List.not_mem_nil, or_false] at h
  have L : ∀ s cs, (dealP p many s cs).length = many := fun s cs => dealP_len ..
  have z : ∀ n : Nat, 0 + n = n := Nat.zero_add
  have D : ∀ things coins, dealtP p many size [.own 0, .own 1] things coins = [[dealP p many (things.getD 0 0) (cut coins 0 size)], [dealP p many (things.getD 1 0) (cut coins (0 + size) size)]] := fun _ _ => rfl
  rcases h with rfl | rfl | rfl | rfl | rfl
  · refine ⟨fun X Y => (X + Y) % p, 1, 1, 0, ⟨fun X Y => Cong.emod.trans (by rw [show 1 * X + 1 * Y + 0 = X + Y by omega]; exact .refl), fun X Y _ _ => ⟨Int.emod_nonneg _ (by omega), Int.emod_lt_of_pos _ hp⟩, fun t c => by show [[dealP p many (t.getD 0 0) (cut c 0 size)], [dealP p many (t.getD 1 0) (cut c (0 + size) size)]] = _; rw [z], fun t c => ?_, fun t c j hj => ?_, fun t => rfl⟩⟩
    · show (List.zipWith _ (dealP _ _ _ _) (dealP _ _ _ _)).length = many
      rw [List.length_zipWith, L, L, Nat.min_self]
    · show (List.zipWith (fun x y => (x + y) % p) (dealP p many (t.getD 0 0) (cut c 0 size)) (dealP p many (t.getD 1 0) (cut c (0 + size) size))).getD j 0 = _
      rw [zipWith_getD (by rw [L]; exact hj) (by rw [L]; exact hj), z]
  · refine ⟨fun X Y => (Y + (X + 3 % p) % p) % p, 1, 1, 3, ⟨fun X Y => Cong.emod.trans ((Cong.refl.add (Cong.emod.trans (Cong.refl.add Cong.emod))).trans (by rw [show 1 * X + 1 * Y + 3 = Y + (X + 3) by omega]; exact .refl)), fun X Y _ _ => ⟨Int.emod_nonneg _ (by omega), Int.emod_lt_of_pos _ hp⟩, fun t c => by show [[dealP p many (t.getD 0 0) (cut c 0 size)], [dealP p many (t.getD 1 0) (cut c (0 + size) size)]] = _; rw [z], fun t c => ?_, fun t c j hj => ?_, fun t => rfl⟩⟩
    · show (List.zipWith _ (dealP _ _ _ _) (List.zipWith _ (dealP _ _ _ _) (List.replicate many _))).length = many
      rw [List.length_zipWith, List.length_zipWith, L, L, List.length_replicate, Nat.min_self, Nat.min_self]
    · show (List.zipWith (fun x y => (x + y) % p) (dealP p many (t.getD 1 0) (cut c (0 + size) size)) (List.zipWith (fun x y => (x + y) % p) (dealP p many (t.getD 0 0) (cut c 0 size)) (List.replicate many (3 % p)))).getD j 0 = _
      rw [zipWith_getD (by rw [L]; exact hj) (by rw [List.length_zipWith, L, List.length_replicate, Nat.min_self]; exact hj), zipWith_getD (by rw [L]; exact hj) (by rw [List.length_replicate]; exact hj), rep_getD hj, z]
  · refine ⟨fun X Y => (Y + (X + X) % p) % p, 2, 1, 0, ⟨fun X Y => Cong.emod.trans ((Cong.refl.add Cong.emod).trans (by rw [show 2 * X + 1 * Y + 0 = Y + (X + X) by omega]; exact .refl)), fun X Y _ _ => ⟨Int.emod_nonneg _ (by omega), Int.emod_lt_of_pos _ hp⟩, fun t c => by show [[dealP p many (t.getD 0 0) (cut c 0 size)], [dealP p many (t.getD 1 0) (cut c (0 + size) size)]] = _; rw [z], fun t c => ?_, fun t c j hj => ?_, fun t => rfl⟩⟩
    · show (List.zipWith _ (dealP _ _ _ _) (List.zipWith _ (dealP _ _ _ _) (dealP _ _ _ _))).length = many
      rw [List.length_zipWith, List.length_zipWith, L, L, Nat.min_self, Nat.min_self]
    · show (List.zipWith (fun x y => (x + y) % p) (dealP p many (t.getD 1 0) (cut c (0 + size) size)) (List.zipWith (fun x y => (x + y) % p) (dealP p many (t.getD 0 0) (cut c 0 size)) (dealP p many (t.getD 0 0) (cut c 0 size)))).getD j 0 = _
      rw [zipWith_getD (by rw [L]; exact hj) (by rw [List.length_zipWith, L, Nat.min_self]; exact hj), zipWith_getD (by rw [L]; exact hj) (by rw [L]; exact hj), z]
  · refine ⟨fun X Y => 2 % p, 0, 0, 2, ⟨fun X Y => Cong.emod.trans (by rw [show 0 * X + 0 * Y + 2 = 2 by omega]; exact .refl), fun X Y _ _ => ⟨Int.emod_nonneg _ (by omega), Int.emod_lt_of_pos _ hp⟩, fun t c => by show [[dealP p many (t.getD 0 0) (cut c 0 size)], [dealP p many (t.getD 1 0) (cut c (0 + size) size)]] = _; rw [z], fun t c => ?_, fun t c j hj => ?_, fun t => rfl⟩⟩
    · show (List.replicate many _).length = many
      rw [List.length_replicate]
    · show (List.replicate many (2 % p)).getD j 0 = _
      rw [rep_getD hj]
  · refine ⟨fun X Y => Y, 0, 1, 0, ⟨fun X Y => by rw [show 0 * X + 1 * Y + 0 = Y by omega]; exact .refl, fun X Y h1 h2 => ⟨h1, h2⟩, fun t c => by show [[dealP p many (t.getD 0 0) (cut c 0 size)], [dealP p many (t.getD 1 0) (cut c (0 + size) size)]] = _; rw [z], fun t c => ?_, fun t c j hj => ?_, fun t => rfl⟩⟩
    · show (dealP _ _ _ _).length = many
      rw [L]
    · show (dealP p many (t.getD 1 0) (cut c (0 + size) size)).getD j 0 = _
      rw [z]
end NM
namespace NM
open PySem PySem.Spec PyProof.Rows L2
theorem cut_shl {p : Int} (c d : List Int) (i n : Nat) : cut (shl p c d) i n = shl p (cut c i n) (cut d i n) := by
  unfold cut shl
  rw [List.drop_zipWith, List.take_zipWith]
theorem cut_left {a b : List Int} {n : Nat} (h : a.length = n) : cut (a ++ b) 0 n = a := by
  unfold cut
  rw [List.drop_zero, ← h, List.take_left]
theorem cut_right {a b : List Int} {n : Nat} (h : a.length = n) (h2 : b.length = n) : cut (a ++ b) n n = b := by
  unfold cut
  rw [show (a ++ b).drop n = b by rw [← h, List.drop_left], List.take_of_length_le (by omega)]
theorem neg_pairs {e f : Int} (h : e + f = 0) : ∀ G : List Int, Paired (fun (d e : Int) => d + e = 0) (G.map (e * ·)) (G.map (f * ·))
  | [] => .nil
  | g :: G => .cons (by show e * g + f * g = 0; have : f = -e := by omega
                        subst this; grind) (neg_pairs h G)
theorem view_two {lot : List Int} {ex : List Row} (hex : ex ∈ exs) (a b : List Int) (sh : List Int) : viewOf lot (.own 0 :: .own 1 :: ex) [[a], [b]] sh = .tup [.tup [.tup [seenLine lot 0 a], .tup [seenLine lot 1 b]], tupI sh] := by
  have hf : (Row.own 0 :: Row.own 1 :: ex).filter isDeal = [.own 0, .own 1] := by
    unfold exs at hex
    simp only [List.mem_cons, List.not_mem_nil, or_false] at hex
    rcases hex with rfl | rfl | rfl | rfl | rfl <;> rfl
  unfold viewOf
  rw [hf]
  rfl
theorem views_two {p : Int} {many size n : Nat} {ex : List Row} {things far lot : List Int} (hex : ex ∈ exs) (hp : pIn p) (h4 : many ≤ 4) (hs : size = 1 ∨ (size = 2 ∧ p = 5)) (ho : lotOk (many : Int) lot) (hl : lot.length ≤ size) (hn : n = 2 * size)
    (hlot : ∀ i ∈ lot, far.getD i.toNat 0 = things.getD i.toNat 0) (hv : svP p (.own 0 :: .own 1 :: ex) far = svP p (.own 0 :: .own 1 :: ex) things) : (viewsP p many size (.own 0 :: .own 1 :: ex) far lot n).Perm (viewsP p many size (.own 0 :: .own 1 :: ex) things lot n) := by
  have hpl := hp.lt
  have hp0 : 0 < p := by omega
  obtain ⟨G, hG, hz⟩ := gpoly hp h4 ho hl hs
  obtain ⟨h, a, b, c, T⟩ := two_ok (many := many) (size := size) hp0 hex
  obtain ⟨e0, he0⟩ : ∃ e, far.getD 0 0 = things.getD 0 0 + e := ⟨far.getD 0 0 - things.getD 0 0, by omega⟩
  obtain ⟨e1, he1⟩ : ∃ e, far.getD 1 0 = things.getD 1 0 + e := ⟨far.getD 1 0 - things.getD 1 0, by omega⟩
  have hG0 : (G.map (e0 * ·)).length = size := by rw [List.length_map, hG]
  have hG1 : (G.map (e1 * ·)).length = size := by rw [List.length_map, hG]
  have hD : (G.map (e0 * ·) ++ G.map (e1 * ·)).length = n := by rw [List.length_append, hG0, hG1]; omega
  have hD' : (G.map (-e0 * ·) ++ G.map (-e1 * ·)).length = n := by rw [List.length_append, List.length_map, List.length_map, hG]; omega
  have P1 : Paired (fun (d e : Int) => d + e = 0) (G.map (e0 * ·) ++ G.map (e1 * ·)) (G.map (-e0 * ·) ++ G.map (-e1 * ·)) := papp (neg_pairs (by omega) G) (neg_pairs (by omega) G)
  have P2 : Paired (fun (d e : Int) => d + e = 0) (G.map (-e0 * ·) ++ G.map (-e1 * ·)) (G.map (e0 * ·) ++ G.map (e1 * ·)) := papp (neg_pairs (by omega) G) (neg_pairs (by omega) G)
  have hC := allP_mem (p := p) (by omega) n
  have perm := perm_bij (allP_nodup (p := p) n) (fun c => shl p c (G.map (e0 * ·) ++ G.map (e1 * ·))) (fun c => shl p c (G.map (-e0 * ·) ++ G.map (-e1 * ·)))
    (fun c hc => (hC _).mpr ⟨by rw [shl_len (by rw [((hC c).mp hc).1, hD])]; exact ((hC c).mp hc).1, shl_in hp0 _ _⟩)
    (fun c hc => (hC _).mpr ⟨by rw [shl_len (by rw [((hC c).mp hc).1, hD'])]; exact ((hC c).mp hc).1, shl_in hp0 _ _⟩)
    (fun c hc => shl_inv hp0 (by rw [((hC c).mp hc).1, hD]) ((hC c).mp hc).2 P1)
    (fun c hc => shl_inv hp0 (by rw [((hC c).mp hc).1, hD']) ((hC c).mp hc).2 P2)
  have hab : Cong p (a * e0 + b * e1) 0 := by
    rw [T.val, T.val, he0, he1] at hv
    have h1 := ((T.lin (things.getD 0 0 + e0) (things.getD 1 0 + e1)).symm.trans (hv ▸ .refl)).trans (T.lin (things.getD 0 0) (things.getD 1 0))
    have h2 := h1.sub (.refl (x := a * things.getD 0 0 + b * things.getD 1 0 + c))
    rw [show a * (things.getD 0 0 + e0) + b * (things.getD 1 0 + e1) + c - (a * things.getD 0 0 + b * things.getD 1 0 + c) = a * e0 + b * e1 by grind, Int.sub_self] at h2
    exact h2
  have view : ∀ cs ∈ allP (List.replicate n p), viewOf lot (.own 0 :: .own 1 :: ex) (dealtP p many size (.own 0 :: .own 1 :: ex) far (shl p cs (G.map (e0 * ·) ++ G.map (e1 * ·)))) (sharesP p many size (.own 0 :: .own 1 :: ex) far (shl p cs (G.map (e0 * ·) ++ G.map (e1 * ·)))) = viewOf lot (.own 0 :: .own 1 :: ex) (dealtP p many size (.own 0 :: .own 1 :: ex) things cs) (sharesP p many size (.own 0 :: .own 1 :: ex) things cs) := by
    intro cs hcs
    have hcl := ((hC cs).mp hcs).1
    have l0 : (cut cs 0 size).length = size := by unfold cut; rw [List.length_take, List.length_drop]; omega
    have l1 : (cut cs size size).length = size := by unfold cut; rw [List.length_take, List.length_drop]; omega
    have c0 : cut (shl p cs (G.map (e0 * ·) ++ G.map (e1 * ·))) 0 size = shl p (cut cs 0 size) (G.map (e0 * ·)) := by rw [cut_shl, cut_left hG0]
    have c1 : cut (shl p cs (G.map (e0 * ·) ++ G.map (e1 * ·))) size size = shl p (cut cs size size) (G.map (e1 * ·)) := by rw [cut_shl, cut_right hG0 hG1]
    have A : ∀ j, j < many → Cong p ((dealP p many (far.getD 0 0) (cut (shl p cs (G.map (e0 * ·) ++ G.map (e1 * ·))) 0 size)).getD j 0) ((dealP p many (things.getD 0 0) (cut cs 0 size)).getD j 0 + e0 * (1 + ((j : Int) + 1) * polyS ((j : Int) + 1) G)) := fun j hj => by
      rw [dealP_get hj, dealP_get hj, he0, c0]
      exact value_shl (by rw [l0, hG])
    have B : ∀ j, j < many → Cong p ((dealP p many (far.getD 1 0) (cut (shl p cs (G.map (e0 * ·) ++ G.map (e1 * ·))) size size)).getD j 0) ((dealP p many (things.getD 1 0) (cut cs size size)).getD j 0 + e1 * (1 + ((j : Int) + 1) * polyS ((j : Int) + 1) G)) := fun j hj => by
      rw [dealP_get hj, dealP_get hj, he1, c1]
      exact value_shl (by rw [l1, hG])
    have R : ∀ (s : Int) (xs : List Int) (j : Nat), j < many → 0 ≤ (dealP p many s xs).getD j 0 ∧ (dealP p many s xs).getD j 0 < p := fun s xs j hj => by
      rw [dealP_get hj]; exact valueAtP_in hp0 ..
    rw [T.dealt, T.dealt, view_two hex, view_two hex]
    have seen : ∀ (g : Nat) (e : Int) (X Y : List Int), X.length = many → Y.length = many → (∀ j, j < many → 0 ≤ X.getD j 0 ∧ X.getD j 0 < p) → (∀ j, j < many → 0 ≤ Y.getD j 0 ∧ Y.getD j 0 < p) → ((g : Int) ∈ lot → e = 0) → (∀ j, j < many → Cong p (X.getD j 0) (Y.getD j 0 + e * (1 + ((j : Int) + 1) * polyS ((j : Int) + 1) G))) → seenLine lot (g : Int) X = seenLine lot (g : Int) Y := fun g e X Y hX hY rX rY h0 hc => by
      refine seenLine_eq hX hY fun j hj hvis => ?_
      refine Cong.eqR ((hc j hj).trans ?_) (rX j hj).1 (rX j hj).2 (rY j hj).1 (rY j hj).2
      rw [Bool.or_eq_true, List.contains_iff_mem, List.contains_iff_mem] at hvis
      rcases hvis with q | q
      · rw [h0 q, Int.zero_mul, Int.add_zero]; exact .refl
      · have := (Cong.refl (x := Y.getD j 0) (p := p)).add ((Cong.refl (x := e) (p := p)).mul (hz _ q))
        rw [Int.mul_zero, Int.add_zero] at this
        exact this
    have L : ∀ s xs, (dealP p many s xs).length = many := fun s xs => dealP_len ..
    have s0 : seenLine lot 0 _ = seenLine lot 0 _ := seen 0 e0 _ _ (L _ _) (L _ _) (R _ _) (R _ _) (fun q => by have := hlot _ q; rw [show ((0 : Nat) : Int).toNat = 0 from rfl, he0] at this; omega) A
    have s1 : seenLine lot 1 _ = seenLine lot 1 _ := seen 1 e1 _ _ (L _ _) (L _ _) (R _ _) (R _ _) (fun q => by have := hlot _ q; rw [show ((1 : Nat) : Int).toNat = 1 from rfl, he1] at this; omega) B
    have sh : sharesP p many size (.own 0 :: .own 1 :: ex) far (shl p cs (G.map (e0 * ·) ++ G.map (e1 * ·))) = sharesP p many size (.own 0 :: .own 1 :: ex) things cs := by
      refine list_ext (T.len _ _) (T.len _ _) fun j hj => ?_
      rw [T.sh _ _ j hj, T.sh _ _ j hj]
      have r1 := T.rng ((dealP p many (far.getD 0 0) (cut (shl p cs (G.map (e0 * ·) ++ G.map (e1 * ·))) 0 size)).getD j 0) _ (R (far.getD 1 0) (cut (shl p cs (G.map (e0 * ·) ++ G.map (e1 * ·))) size size) j hj).1 (R _ _ j hj).2
      have r2 := T.rng ((dealP p many (things.getD 0 0) (cut cs 0 size)).getD j 0) _ (R (things.getD 1 0) (cut cs size size) j hj).1 (R _ _ j hj).2
      refine Cong.eqR ?_ r1.1 r1.2 r2.1 r2.2
      refine (T.lin _ _).trans (Cong.trans ?_ (T.lin _ _).symm)
      have hA := A j hj
      have hB := B j hj
      generalize (dealP p many (far.getD 0 0) (cut (shl p cs (G.map (e0 * ·) ++ G.map (e1 * ·))) 0 size)).getD j 0 = X' at *
      generalize (dealP p many (far.getD 1 0) (cut (shl p cs (G.map (e0 * ·) ++ G.map (e1 * ·))) size size)).getD j 0 = Y' at *
      generalize (dealP p many (things.getD 0 0) (cut cs 0 size)).getD j 0 = X at *
      generalize (dealP p many (things.getD 1 0) (cut cs size size)).getD j 0 = Y at *
      generalize 1 + ((j : Int) + 1) * polyS ((j : Int) + 1) G = γ at *
      refine (((Cong.refl.mul hA).add (Cong.refl.mul hB)).add (.refl (x := c))).trans ?_
      have := (Cong.refl (x := a * X + b * Y + c) (p := p)).add (hab.mul (.refl (x := γ)))
      rw [Int.zero_mul, Int.add_zero] at this
      rw [show a * (X + e0 * γ) + b * (Y + e1 * γ) + c = a * X + b * Y + c + (a * e0 + b * e1) * γ by grind]
      exact this
    rw [s0, s1, sh]
  unfold viewsP
  have e : (allP (List.replicate n p)).map (fun coins => viewOf lot (.own 0 :: .own 1 :: ex) (dealtP p many size (.own 0 :: .own 1 :: ex) things coins) (sharesP p many size (.own 0 :: .own 1 :: ex) things coins)) = ((allP (List.replicate n p)).map (fun c => shl p c (G.map (e0 * ·) ++ G.map (e1 * ·)))).map (fun coins => viewOf lot (.own 0 :: .own 1 :: ex) (dealtP p many size (.own 0 :: .own 1 :: ex) far coins) (sharesP p many size (.own 0 :: .own 1 :: ex) far coins)) := by
    rw [List.map_map]
    exact List.map_congr_left fun cs hcs => (view cs hcs).symm
  rw [e]
  exact (perm.map _).symm
end NM
namespace NM
open PySem PySem.Spec PyProof.Rows L2
/-! ### the sheet with times -/
def sv (t c x : Int) : Int := valueAtP 5 t [c] x
theorem sv_cong (t c x : Int) : Cong 5 (sv t c x) (t + x * c) := by
  have := valueAtP_cong (p := 5) (s := t) (x := x) [c]
  rw [show polyS x [c] = c by show c + x * 0 = c; omega] at this
  exact this
theorem sv_in (t c x : Int) : 0 ≤ sv t c x ∧ sv t c x < 5 := valueAtP_in (by decide) ..
def dLine (s h : Int) : List Int := dealP 5 3 (s * s % 5) [h]
def tLine (t c : Int) : List Int := dealP 5 3 t [c]
theorem w3 : weightsP 5 (places 3) = [3, 2, 1] := by decide +kernel
theorem times_dealt (things : List Int) (c h0 h1 h2 : Int) : dealtP 5 3 1 [.own 1, .times 0 0] things [c, h0, h1, h2] = [[tLine (things.getD 1 0) c], [dLine (sv (things.getD 1 0) c 1) h0, dLine (sv (things.getD 1 0) c 2) h1, dLine (sv (things.getD 1 0) c 3) h2]] := rfl
theorem times_shares (things : List Int) (c h0 h1 h2 : Int) : sharesP 5 3 1 [.own 1, .times 0 0] things [c, h0, h1, h2] = mixP 5 3 (weightsP 5 (places 3)) [dLine (sv (things.getD 1 0) c 1) h0, dLine (sv (things.getD 1 0) c 2) h1, dLine (sv (things.getD 1 0) c 3) h2] := rfl
theorem times_val (things : List Int) : svP 5 [.own 1, .times 0 0] things = things.getD 1 0 * things.getD 1 0 % 5 := rfl
theorem view_times (lot : List Int) (a d0 d1 d2 sh : List Int) : viewOf lot [.own 1, .times 0 0] [[a], [d0, d1, d2]] sh = .tup [.tup [.tup [seenLine lot 1 a], .tup [seenLine lot 0 d0, seenLine lot 1 d1, seenLine lot 2 d2]], tupI sh] := rfl
def phiB (g t f : Int) : List Int → List Int
  | [c, h0, h1, h2] =>
    [(c + (f - t) * g) % 5,
     (h0 + (sv f ((c + (f - t) * g) % 5) 1 * sv f ((c + (f - t) * g) % 5) 1 - sv t c 1 * sv t c 1) * g) % 5,
     (h1 + (sv f ((c + (f - t) * g) % 5) 2 * sv f ((c + (f - t) * g) % 5) 2 - sv t c 2 * sv t c 2) * g) % 5,
     (h2 + (sv f ((c + (f - t) * g) % 5) 3 * sv f ((c + (f - t) * g) % 5) 3 - sv t c 3 * sv t c 3) * g) % 5]
  | l => l
theorem four {c : List Int} (h : c.length = 4) : ∃ a b d e, c = [a, b, d, e] := by
  match c, h with
  | [a, b, d, e], _ => exact ⟨a, b, d, e, rfl⟩
theorem back5 {h A B g : Int} (h0 : 0 ≤ h) (h5 : h < 5) : ((h + (A - B) * g) % 5 + (B - A) * g) % 5 = h := by
  rw [Int.emod_add_emod, show h + (A - B) * g + (B - A) * g = h by grind, Int.emod_eq_of_lt h0 h5]
theorem phiB_inv {g t f : Int} {l : List Int} (hl : l.length = 4) (hi : inP 5 l) : phiB g f t (phiB g t f l) = l := by
  obtain ⟨c, h0, h1, h2, rfl⟩ := four hl
  have rc := hi c (by simp)
  have r0 := hi h0 (by simp)
  have r1 := hi h1 (by simp)
  have r2 := hi h2 (by simp)
  have ec : ((c + (f - t) * g) % 5 + (t - f) * g) % 5 = c := back5 rc.1 rc.2
  unfold phiB
  simp only []
  rw [ec, back5 r0.1 r0.2, back5 r1.1 r1.2, back5 r2.1 r2.2]
theorem phiB_mem {g t f : Int} {l : List Int} (hl : l.length = 4) : (phiB g t f l).length = 4 ∧ inP 5 (phiB g t f l) := by
  obtain ⟨c, h0, h1, h2, rfl⟩ := four hl
  refine ⟨rfl, fun x hx => ?_⟩
  unfold phiB at hx
  simp only [List.mem_cons, List.not_mem_nil, or_false] at hx
  rcases hx with rfl | rfl | rfl | rfl <;> exact ⟨Int.emod_nonneg _ (by decide), Int.emod_lt_of_pos _ (by decide)⟩
theorem views_times {things far lot : List Int} (ho : lotOk (3 : Int) lot) (hl : lot.length ≤ 1) (hlot : ∀ i ∈ lot, far.getD i.toNat 0 = things.getD i.toNat 0) (hv : svP 5 [.own 1, .times 0 0] far = svP 5 [.own 1, .times 0 0] things) :
    (viewsP 5 3 1 [.own 1, .times 0 0] far lot 4).Perm (viewsP 5 3 1 [.own 1, .times 0 0] things lot 4) := by
  obtain ⟨G, hG, hz⟩ := gpoly (p := 5) (many := 3) (size := 1) (.inl rfl) (by decide) ho hl (.inl rfl)
  obtain ⟨g, rfl⟩ : ∃ g, G = [g] := by
    match G, hG with
    | [g], _ => exact ⟨g, rfl⟩
  have hz : ∀ l ∈ lot, Cong 5 (1 + (l + 1) * g) 0 := fun l hl => by
    have := hz l hl
    rw [show polyS (l + 1) [g] = g by show g + (l + 1) * 0 = g; omega] at this
    exact this
  have hC := allP_mem (p := 5) (by decide) 4
  have perm := perm_bij (allP_nodup (p := 5) 4) (phiB g (things.getD 1 0) (far.getD 1 0)) (phiB g (far.getD 1 0) (things.getD 1 0))
    (fun c hc => (hC _).mpr (phiB_mem ((hC c).mp hc).1)) (fun c hc => (hC _).mpr (phiB_mem ((hC c).mp hc).1))
    (fun c hc => phiB_inv ((hC c).mp hc).1 ((hC c).mp hc).2) (fun c hc => phiB_inv ((hC c).mp hc).1 ((hC c).mp hc).2)
  rw [times_val, times_val] at hv
  have hsq : Cong 5 (far.getD 1 0 * far.getD 1 0) (things.getD 1 0 * things.getD 1 0) := .of_eq hv
  have h1lot : (1 : Int) ∈ lot → far.getD 1 0 = things.getD 1 0 := fun h => hlot 1 h
  have view : ∀ cs ∈ allP (List.replicate 4 5), viewOf lot [.own 1, .times 0 0] (dealtP 5 3 1 [.own 1, .times 0 0] far (phiB g (things.getD 1 0) (far.getD 1 0) cs)) (sharesP 5 3 1 [.own 1, .times 0 0] far (phiB g (things.getD 1 0) (far.getD 1 0) cs)) = viewOf lot [.own 1, .times 0 0] (dealtP 5 3 1 [.own 1, .times 0 0] things cs) (sharesP 5 3 1 [.own 1, .times 0 0] things cs) := by
    intro cs hcs
    obtain ⟨c, k0, k1, k2, rfl⟩ := four ((hC cs).mp hcs).1
    unfold phiB
    simp only []
    rw [times_dealt, times_dealt, times_shares, times_shares, view_times, view_times, w3]
    generalize things.getD 1 0 = t at *
    generalize far.getD 1 0 = f at *
    -- the shares of the own row
    have S : ∀ x : Int, Cong 5 (sv f ((c + (f - t) * g) % 5) x) (sv t c x + (f - t) * (1 + x * g)) := fun x => by
      refine (sv_cong _ _ _).trans ((Cong.refl.add (Cong.refl.mul Cong.emod)).trans ?_)
      refine Cong.trans ?_ ((sv_cong t c x).symm.add .refl)
      rw [show f + x * (c + (f - t) * g) = t + x * c + (f - t) * (1 + x * g) by grind]
      exact .refl
    have Sq : ∀ c' : Int, ∀ u : Int, Cong 5 (3 * (sv u c' 1 * sv u c' 1) + (2 * (sv u c' 2 * sv u c' 2) + 1 * (sv u c' 3 * sv u c' 3))) (u * u) := fun c' u => by
      have a1 := sv_cong u c' 1
      have a2 := sv_cong u c' 2
      have a3 := sv_cong u c' 3
      refine ((Cong.refl.mul (a1.mul a1)).add ((Cong.refl.mul (a2.mul a2)).add (Cong.refl.mul (a3.mul a3)))).trans ⟨u * u + 4 * u * c' + 4 * c' * c', ?_⟩
      grind
    have R : ∀ x, 0 ≤ sv f ((c + (f - t) * g) % 5) x ∧ sv f ((c + (f - t) * g) % 5) x < 5 := fun x => sv_in ..
    have R' : ∀ x, 0 ≤ sv t c x ∧ sv t c x < 5 := fun x => sv_in ..
    have hS := Sq ((c + (f - t) * g) % 5) f
    have hS' := Sq c t
    have Lt : ∀ a b : Int, (tLine a b).length = 3 := fun _ _ => rfl
    have Ld : ∀ a b : Int, (dLine a b).length = 3 := fun _ _ => rfl
    have s0 : seenLine lot 1 (tLine f ((c + (f - t) * g) % 5)) = seenLine lot 1 (tLine t c) := by
      refine seenLine_eq (Lt _ _) (Lt _ _) fun j hj hvis => ?_
      unfold tLine
      rw [show (3 : Int) = ((3 : Nat) : Int) from rfl, dealP_get hj, dealP_get hj]
      refine Cong.eqR ((S _).trans ?_) (R _).1 (R _).2 (R' _).1 (R' _).2
      rw [Bool.or_eq_true, List.contains_iff_mem, List.contains_iff_mem] at hvis
      rcases hvis with q | q
      · rw [h1lot q, Int.sub_self, Int.zero_mul, Int.add_zero]; exact .refl
      · have := (Cong.refl (x := sv t c ((j : Int) + 1)) (p := 5)).add ((Cong.refl (x := f - t) (p := 5)).mul (hz _ q))
        rw [Int.mul_zero, Int.add_zero] at this
        exact this
    have Dl : ∀ (i : Nat) (u u' k : Int) (j : Nat), j < 3 → Cong 5 ((dLine u' ((k + (u' * u' - u * u) * g) % 5)).getD j 0) ((dLine u k).getD j 0 + (u' * u' - u * u) * (1 + ((j : Int) + 1) * g)) := fun i u u' k j hj => by
      unfold dLine
      rw [show (3 : Int) = ((3 : Nat) : Int) from rfl, dealP_get hj, dealP_get hj]
      have e1 : ∀ a b x : Int, Cong 5 (valueAtP 5 (a % 5) [b] x) (a + x * b) := fun a b x => by
        have := valueAtP_cong (p := 5) (s := a % 5) (x := x) [b]
        rw [show polyS x [b] = b by show b + x * 0 = b; omega] at this
        exact this.trans (Cong.emod.add .refl)
      refine (e1 _ _ _).trans ((Cong.refl.add (Cong.refl.mul Cong.emod)).trans ?_)
      refine Cong.trans ?_ ((e1 _ _ _).symm.add .refl)
      rw [show u' * u' + ((j : Int) + 1) * (k + (u' * u' - u * u) * g) = u * u + ((j : Int) + 1) * k + (u' * u' - u * u) * (1 + ((j : Int) + 1) * g) by grind]
      exact .refl
    have Rd : ∀ (u k : Int) (j : Nat), j < 3 → 0 ≤ (dLine u k).getD j 0 ∧ (dLine u k).getD j 0 < 5 := fun u k j hj => by
      unfold dLine
      rw [show (3 : Int) = ((3 : Nat) : Int) from rfl, dealP_get hj]
      exact valueAtP_in (by decide) ..
    have sd : ∀ (i : Nat) (u u' k : Int), ((i : Int) ∈ lot → u' = u) → seenLine lot (i : Int) (dLine u' ((k + (u' * u' - u * u) * g) % 5)) = seenLine lot (i : Int) (dLine u k) := fun i u u' k hu => by
      refine seenLine_eq (Ld _ _) (Ld _ _) fun j hj hvis => ?_
      refine Cong.eqR ((Dl i u u' k j hj).trans ?_) (Rd _ _ j hj).1 (Rd _ _ j hj).2 (Rd _ _ j hj).1 (Rd _ _ j hj).2
      rw [Bool.or_eq_true, List.contains_iff_mem, List.contains_iff_mem] at hvis
      rcases hvis with q | q
      · rw [hu q, Int.sub_self, Int.zero_mul, Int.add_zero]; exact .refl
      · have := (Cong.refl (x := (dLine u k).getD j 0) (p := 5)).add ((Cong.refl (x := u' * u' - u * u) (p := 5)).mul (hz _ q))
        rw [Int.mul_zero, Int.add_zero] at this
        exact this
    have own : ∀ (i : Nat), (i : Int) ∈ lot → sv f ((c + (f - t) * g) % 5) ((i : Int) + 1) = sv t c ((i : Int) + 1) := fun i q => by
      refine Cong.eqR ((S _).trans ?_) (R _).1 (R _).2 (R' _).1 (R' _).2
      have := (Cong.refl (x := sv t c ((i : Int) + 1)) (p := 5)).add ((Cong.refl (x := f - t) (p := 5)).mul (hz _ q))
      rw [Int.mul_zero, Int.add_zero] at this
      exact this
    have d0 : seenLine lot 0 _ = seenLine lot 0 _ := sd 0 (sv t c 1) (sv f ((c + (f - t) * g) % 5) 1) k0 (own 0)
    have d1 : seenLine lot 1 _ = seenLine lot 1 _ := sd 1 (sv t c 2) (sv f ((c + (f - t) * g) % 5) 2) k1 (own 1)
    have d2 : seenLine lot 2 _ = seenLine lot 2 _ := sd 2 (sv t c 3) (sv f ((c + (f - t) * g) % 5) 3) k2 (own 2)
    rw [s0, d0, d1, d2]
    have A0 := Dl 0 (sv t c 1) (sv f ((c + (f - t) * g) % 5) 1) k0
    have A1 := Dl 0 (sv t c 2) (sv f ((c + (f - t) * g) % 5) 2) k1
    have A2 := Dl 0 (sv t c 3) (sv f ((c + (f - t) * g) % 5) 3) k2
    generalize sv f ((c + (f - t) * g) % 5) 1 = u1' at *
    generalize sv f ((c + (f - t) * g) % 5) 2 = u2' at *
    generalize sv f ((c + (f - t) * g) % 5) 3 = u3' at *
    generalize sv t c 1 = u1 at *
    generalize sv t c 2 = u2 at *
    generalize sv t c 3 = u3 at *
    have hdiff : Cong 5 (3 * (u1' * u1' - u1 * u1) + (2 * (u2' * u2' - u2 * u2) + 1 * (u3' * u3' - u3 * u3))) 0 := by
      have := (hS.trans (hsq.trans hS'.symm)).sub (.refl (x := 3 * (u1 * u1) + (2 * (u2 * u2) + 1 * (u3 * u3))))
      rw [Int.sub_self] at this
      rw [show 3 * (u1' * u1' - u1 * u1) + (2 * (u2' * u2' - u2 * u2) + 1 * (u3' * u3' - u3 * u3)) = 3 * (u1' * u1') + (2 * (u2' * u2') + 1 * (u3' * u3')) - (3 * (u1 * u1) + (2 * (u2 * u2) + 1 * (u3 * u3))) by grind]
      exact this
    congr 2
    congr 1
    congr 1
    unfold mixP
    refine List.map_congr_left fun j hj => ?_
    have hj := List.mem_range.mp hj
    refine Cong.eq ?_
    show Cong 5 (3 * _ + (2 * _ + (1 * _ + 0))) (3 * _ + (2 * _ + (1 * _ + 0)))
    have B0 := A0 j hj
    have B1 := A1 j hj
    have B2 := A2 j hj
    generalize (dLine u1' ((k0 + (u1' * u1' - u1 * u1) * g) % 5)).getD j 0 = x0' at *
    generalize (dLine u2' ((k1 + (u2' * u2' - u2 * u2) * g) % 5)).getD j 0 = x1' at *
    generalize (dLine u3' ((k2 + (u3' * u3' - u3 * u3) * g) % 5)).getD j 0 = x2' at *
    generalize (dLine u1 k0).getD j 0 = x0 at *
    generalize (dLine u2 k1).getD j 0 = x1 at *
    generalize (dLine u3 k2).getD j 0 = x2 at *
    generalize 1 + ((j : Int) + 1) * g = γ at *
    refine ((Cong.refl.mul B0).add ((Cong.refl.mul B1).add ((Cong.refl.mul B2).add .refl))).trans ?_
    have := ((Cong.refl (x := 3 * x0 + (2 * x1 + (1 * x2 + 0))) (p := 5)).add (hdiff.mul (.refl (x := γ)))).trans (⟨0, by omega⟩ : Cong 5 _ (3 * x0 + (2 * x1 + (1 * x2 + 0))))
    rw [show 3 * (x0 + (u1' * u1' - u1 * u1) * γ) + (2 * (x1 + (u2' * u2' - u2 * u2) * γ) + (1 * (x2 + (u3' * u3' - u3 * u3) * γ) + 0)) = 3 * x0 + (2 * x1 + (1 * x2 + 0)) + (3 * (u1' * u1' - u1 * u1) + (2 * (u2' * u2' - u2 * u2) + 1 * (u3' * u3' - u3 * u3))) * γ by grind]
    exact this
  unfold viewsP
  have e : (allP (List.replicate 4 5)).map (fun coins => viewOf lot [.own 1, .times 0 0] (dealtP 5 3 1 [.own 1, .times 0 0] things coins) (sharesP 5 3 1 [.own 1, .times 0 0] things coins)) = ((allP (List.replicate 4 5)).map (phiB g (things.getD 1 0) (far.getD 1 0))).map (fun coins => viewOf lot [.own 1, .times 0 0] (dealtP 5 3 1 [.own 1, .times 0 0] far coins) (sharesP 5 3 1 [.own 1, .times 0 0] far coins)) := by
    rw [List.map_map]
    exact List.map_congr_left fun cs hcs => (view cs hcs).symm
  rw [e]
  exact (perm.map _).symm
/-! ### both -/
theorem views_same {p : Int} {many size n : Nat} {rs : List Row} {things far lot : List Int} (L : LawSheet p many size rs) (ok : SvOk p many size rs things lot n) (ok' : SvOk p many size rs far lot n) (hl : lot.length ≤ size) (hlot : ∀ i ∈ lot, far.getD i.toNat 0 = things.getD i.toNat 0)
    (hv : svP p rs far = svP p rs things) (hdrop : far.drop 2 = things.drop 2) : (tally (viewsP p many size rs far lot n)).length = (tally (viewsP p many size rs things lot n)).length ∧ ∀ q ∈ tally (viewsP p many size rs far lot n), valV (tally (viewsP p many size rs things lot n)) q.1 = some q.2 ∧ ∃ m, q.2 = .int m := by
  refine tally_perm ?_
  have hco := ok.coins
  rcases L with ⟨ex, hex, rfl, hs⟩ | ⟨rfl, rfl, h3, rfl⟩
  · rw [coins_two hex] at hco
    exact views_two hex ok.prime ok.many4 (by rcases hs with h | h; exact .inl h; exact .inr ⟨h.1, h.2.2⟩) ok.lotOk' hl (by omega) hlot hv
  · rw [coins_times] at hco
    have hm4 := ok.many4
    have hm : many = 3 ∨ many = 4 := by omega
    have hpw := ok.pw
    rcases hm with rfl | rfl
    · have hn : n = 4 := by omega
      subst hn
      exact views_times ok.lotOk' hl hlot hv
    · have hn : n = 5 := by omega
      subst hn
      exact absurd hpw (by decide)
end NM
namespace NM
open PySem PySem.Spec PyProof.Rows L2
section
variable {P : Program} {w : World} {K : PySem.W.Frag} {mg : Str → Option Value} {base : Heap} {σ : L2.St} {H H' : Hp} {r : Addr} {S : Addr × List Int} {Γ : List Sl} {tz : L2.TS} {D : Ends}
/-! ### steps that move the row -/
theorem c_taken {E : XK} {ta tb : TE} {m : Int} (h1 : Ev ta σ H (.ref r)) (h2 : Ed K tb σ H (.num m)) (hm : 1 ≤ m) (hm2 : m < 1000) (row : RowAt K S r H) {Q : VK} (q : ∀ x H2, 0 ≤ x → x < m → KeepL [r] H H2 → RowAt K S r H2 → Q (.int x) H2) : tCall (spTaken K) [] E (tCons ta (tCons tb tNil)) σ H Q :=
  (eap_consV h1 (eap_consD h2 eap_nil)) H (Same.refl _) _ fun vs H2 s2 hv => by
    obtain ⟨r1, rfl, v, r2, rfl, nv, rfl⟩ := hv
    exact ⟨S, r, v, m, rfl, nv, hm, hm2, row.same s2, fun x H3 h0 h1 k row3 => q x H3 h0 h1 ((Same.keepL s2).trans k) row3⟩
theorem t_taken0 {E : XK} {ta tb : TE} {m : Int} (h1 : Ev ta σ H (.ref r)) (h2 : Ed K tb σ H (.num m)) (hm : 1 ≤ m) (hm2 : m < 1000) (row : RowAt K S r H) {Q : Bool → Hp → Prop} (q : ∀ b H2, KeepL [r] H H2 → RowAt K S r H2 → Q b H2) : tTest (tOp rEq (tCall (spTaken K) [] E (tCons ta (tCons tb tNil))) (tC (.int 0))) σ H Q :=
  c_taken h1 h2 hm hm2 row fun x H2 _ _ k row2 => by
    refine ⟨rfl, _, rfl, q _ H2 k row2⟩
theorem t_and3 {t1 t2 t3 : TT} {b1 b2 : Bool} {Q : Bool → Hp → Prop} (h1 : Et t1 σ H b1) (h2 : Et t2 σ H b2) (q0 : ∀ H2, Same H H2 → Q false H2) (q3 : b1 = true → b2 = true → ∀ H2, Same H H2 → t3 σ H2 Q) : tAnd t1 (tAnd t2 t3) σ H Q :=
  h1 H (Same.refl _) _ fun H2 s2 => by
    cases b1 with
    | false => exact iteF (q0 H2 s2)
    | true =>
      refine iteT (h2 H2 s2 _ fun H3 s3 => ?_)
      cases b2 with
      | false => exact iteF (q0 H3 (s2.trans s3))
      | true => exact iteT (q3 rfl rfl H3 (s2.trans s3))
theorem q_sizeM {t : TT} {i : Nat} {a b : Int} {Pc : Bool → Prop} (E0 : Env K H σ Γ) (row : RowAt K S r H) (ht : ∀ Q : Bool → Hp → Prop, (∀ c H2, KeepL [r] H H2 → RowAt K S r H2 → Pc c → Q c H2) → t σ H Q)
    (c : ∀ c σ' H2, KeepL [r] H H2 → RowAt K S r H2 → Pc c → Env K H2 σ' (Γ.set i (.d (.num (if c = true then a else b)))) → tz D σ' H2) : tSeq (tAsg (tIf t (tC (.int a)) (tC (.int b))) (gName i)) tz D σ H :=
  ht _ fun bb H2 k2 row2 pc => by
    have E2 := E0.ts (k2.ts row.mut)
    cases bb with
    | true => exact iteT (c true _ H2 k2 row2 pc (E2.setD (.int a) i))
    | false => exact iteF (c false _ H2 k2 row2 pc (E2.setD (.int b) i))
theorem q_ifM2 {t : TT} {tu : L2.TS} {Pc : Bool → Prop} (ht : ∀ Q : Bool → Hp → Prop, (∀ c H2, KeepL [r] H H2 → RowAt K S r H2 → Pc c → Q c H2) → t σ H Q) (M : L2.St → Hp → Prop)
    (c1 : ∀ H2, KeepL [r] H H2 → RowAt K S r H2 → Pc true → ∀ D' : Ends, (∀ σ' H', M σ' H' → D'.nx σ' H') → tu D' σ H2) (c0 : ∀ H2, KeepL [r] H H2 → RowAt K S r H2 → Pc false → M σ H2) (c : ∀ σ' H', M σ' H' → tz D σ' H') : tSeq (tIfS t tu tNext) tz D σ H :=
  ht _ fun bb H2 k2 row2 pc => by
    cases bb with
    | true => exact iteT (c1 H2 k2 row2 pc { D with nx := tz D } c)
    | false => exact iteF (c _ _ (c0 H2 k2 row2 pc))
/-- a comprehension that moves the row -/
theorem lcM {wi : TI} {j : Nat} {tt : TT} {te : TE} {vs : List Nat} {ks : List NK} (hw : Ew K [] wi σ H ks) (E : Env K H σ Γ) (row : RowAt K S r H) (hz : ks.length < 100000) (hj : j ∈ vs) (A : Nat → List NK → Prop) (A0 : A 0 [])
    (step : ∀ i k acc σ' H', ks[i]? = some k → A i acc → KeepL [r] H H' → RowAt K S r H' → Env K H' σ' ((wipeG Γ vs).set j (.d k)) → ∀ (R1 : Hp → Prop) (R2 : V → Hp → Prop), (∀ H2, KeepL [r] H' H2 → RowAt K S r H2 → A (i + 1) acc → R1 H2) → (∀ v H2 k', KeepL [r] H' H2 → RowAt K S r H2 → Nk K H2 v k' → A (i + 1) (acc ++ [k']) → R2 v H2) → tt σ' H' (fun b H2 => if b = true then te σ' H2 R2 else R1 H2))
    (Q : VK) (q : ∀ p ws H2 acc, H p = none → KeepL [r] H H2 → RowAt K S r H2 → H2 p = some (.lst ws) → NkAll K H2 ws acc → A ks.length acc → acc.length ≤ ks.length → Q (.ref p) H2) : tLc wi (gName j) tt te vs σ H Q :=
  hw H (Same.refl _) _ fun J H2 G s2 W stab Da hD => by
    obtain ⟨i0, seed, rest, er, scx, rowx⟩ := id row
    have nrD : r ≠ Da := ne_of_none (s2 _ _ er) hD
    refine lc_it W (fun i H' => ∃ accV acc, H' Da = some (.lst accV) ∧ KeepL [r] H2 H' ∧ RowAt K S r H' ∧ NkAll K H' accV acc ∧ A i acc ∧ acc.length ≤ i) ⟨[], [], upd_same, Same.keepL (same_new hD), (row.same s2).same (same_new hD), .nil, A0, Nat.le_refl _⟩
      (fun i H' _ ⟨accV, acc, _, k, row', _⟩ => stab [r] H' row.mut (fun _ h => nomatch h) k) (fun i x H3 H4 hi ⟨accV, acc, e3, k3, row3, n3, a3, l3⟩ y => ?_) (fun H' ⟨accV, acc, e, k, row', n, a, l⟩ => q Da accV H' acc (fresh_back s2 hD) ((Same.keepL s2).trans k) row' e n a l)
    obtain ⟨s4, k, hk, nk⟩ := y
    have k04 : KeepL [r] H H4 := ((Same.keepL s2).trans k3).trans (Same.keepL s4)
    have row4 := row3.same s4
    refine ⟨(wipe_set vs _ hj).trans (wipe_idem σ vs), ?_⟩
    have E4 : Env K H4 ((wipe σ vs).set j (some x)) ((wipeG Γ vs).set j (.d k)) := ((E.ts (k04.ts row.mut)).wipe vs).setD nk j
    refine step i k acc _ H4 hk a3 k04 row4 E4 _ _ (fun H5 k5 row5 a5 => ?_) (fun v H5 k' k5 row5 nv a5 => ?_)
    · exact ⟨accV, acc, k5 Da _ (by simpa using nrD.symm) (s4 _ _ e3), (k3.trans (Same.keepL s4)).trans k5, row5, nkAll_mono n3 ((Same.ts s4).trans (k5.ts row4.mut)), a5, by omega⟩
    · have e5 : H5 Da = some (.lst accV) := k5 Da _ (by simpa using nrD.symm) (s4 _ _ e3)
      have tu := ts_upd (K := K) (o := .lst (accV ++ [v])) e5
      have kD : KeepL [r] H2 (upd H5 Da (.lst (accV ++ [v]))) := fun b o hb ho => by
        rw [upd_ne (ne_of_none ho hD)]
        exact ((k3.trans (Same.keepL s4)).trans k5) b o hb ho
      obtain ⟨i', seed', rest', er', sc', rx'⟩ := row5
      refine ⟨accV, e5, ?_, accV ++ [v], acc ++ [k'], upd_same, kD, ⟨i', seed', rest', by rw [upd_ne nrD]; exact er', ?_, rx'⟩, papp (nkAll_mono n3 (((Same.ts s4).trans (k5.ts row4.mut)).trans tu)) (.cons (nv.mono tu) .nil), a5, by rw [List.length_append, List.length_singleton]; omega⟩
      · rw [plen n3, sizeLine_eq]; omega
      · rcases scx with ⟨hne, hs⟩ | hs
        · by_cases hin : H S.1 = none
          · rcases hs with (hs | ⟨o, hs⟩) | hs
            · rw [hs] at hin; cases hin
            · rw [hs] at hin; cases hin
            · exact .inr fun _ => .inr hs
          · have hsD : S.1 ≠ Da := fun e => hin (fresh_back s2 (by rw [e]; exact hD))
            rcases sc' with ⟨_, hs'⟩ | hs'
            · exact .inl ⟨hne, KeepL.sqL (L := [Da]) (keepL_upd (by simp)) (by simpa using hsD) hs'⟩
            · exact .inr hs'
        · exact .inr hs
theorem q_row {a : Addr} {ns : List Int} (E0 : Env K H σ Γ) (h : Γ[0]? = some (.v (.ref a))) (hs : SqL K H a (ns.map V.int)) (hn : ns.length ≤ 63) (c : ∀ r σ' H1, H r = none → Same H H1 → RowAt K (a, ns) r H1 → Env K H1 σ' (Γ.set 1 (.v (.ref r))) → tz D σ' H1) :
    tSeq (tAsg (tLst (tCons (tVar 0) (tCons (tC (.int 0)) (tCons (tC (.int 7732)) (tCons (tC (.int 0)) tNil))))) (gName 1)) tz D σ H :=
  ev_var E0 h H (Same.refl _) _ fun v H1 s1 ev => by
    have ev : v = .ref a := ev
    subst ev
    refine ⟨Nat.le_of_ble_eq_true rfl, fun p hp => ?_⟩
    have s2 := s1.trans (same_new (o := .lst [V.ref a, .int 0, .int 7732, .int 0]) hp)
    exact c p _ _ (s1.free hp) s2 ⟨0, 7732, 0, upd_same, Scr.start hs (s1.free hp) s2, hn, by decide, by decide, by decide, by decide⟩ ((E0.ts (Same.ts s2)).setV _ 1)
theorem c_pickL {E : XK} {ta tl : TE} {ks : List NK} (h1 : Ev ta σ H (.ref r)) (h2 : EL (Nk K) tl σ H ks) (h0 : ks ≠ []) (hz : ks.length < 1000) (row : RowAt K S r H) {Q : VK} (q : ∀ v k H2, k ∈ ks → Nk K H2 v k → KeepL [r] H H2 → RowAt K S r H2 → Q v H2) : tCall (spPick K) [] E (tCons ta (tCons tl tNil)) σ H Q :=
  h1 H (Same.refl _) _ fun v H1 s1 ev => h2 H1 s1 _ fun p ws H2 hp s2 e2 n2 => by
    have ev : v = .ref r := ev
    subst ev
    obtain ⟨i, seed, rest, er, _⟩ := row.same s1
    exact ⟨S, r, p, ws, ks, rfl, (ne_of_none er hp).symm, e2, n2, h0, hz, row.same (s1.trans s2), fun v k H3 hk nv k3 row3 => q v k H3 hk nv ((Same.keepL (s1.trans s2)).trans k3) row3⟩
theorem c_pickV {E : XK} {ta tl : TE} {ks : List NK} {l : Addr} {ws : List V} (h1 : Ev ta σ H (.ref r)) (h2 : Ev tl σ H (.ref l)) (hl : H l = some (.lst ws)) (hn : NkAll K H ws ks) (hne : l ≠ r) (h0 : ks ≠ []) (hz : ks.length < 1000) (row : RowAt K S r H) {Q : VK} (q : ∀ v k H2, k ∈ ks → Nk K H2 v k → KeepL [r] H H2 → RowAt K S r H2 → Q v H2) : tCall (spPick K) [] E (tCons ta (tCons tl tNil)) σ H Q :=
  h1 H (Same.refl _) _ fun v H1 s1 ev => h2 H1 s1 _ fun v2 H2 s2 ev2 => by
    have ev : v = .ref r := ev
    subst ev
    have ev2 : v2 = .ref l := ev2
    subst ev2
    exact ⟨S, r, l, ws, ks, rfl, hne, s2 _ _ (s1 _ _ hl), nkAll_mono hn (Same.ts (s1.trans s2)), h0, hz, row.same (s1.trans s2), fun v k H3 hk nv k3 row3 => q v k H3 hk nv ((Same.keepL (s1.trans s2)).trans k3) row3⟩
theorem catA_run {a b : Addr} {xs ys : List V} {ks ls : List NK} {Q : VK} (hs : SqT K H a xs) (hn : NkAll K H xs ks) (hs2 : SqT K H b ys) (hn2 : NkAll K H ys ls) (hz : ks.length + ls.length ≤ sizeLine) (q : ∀ v H2, Same H H2 → Nk K H2 v (.tup (ks ++ ls)) → Q v H2) : rCatA K (.ref a) (.ref b) H Q := by
  have l1 := plen hn
  have l2 := plen hn2
  refine ⟨a, b, xs, ys, rfl, rfl, hs, hs2, by omega, fun e => ?_, fun _ e => ?_, fun _ _ p hp => ?_⟩
  · subst e; cases hn; exact q _ H (Same.refl _) (.tup hs2 hn2)
  · subst e; cases hn2; rw [List.append_nil] at q; exact q _ H (Same.refl _) (.tup hs hn)
  · exact q _ _ (same_new hp) (.tup (.inl (.inl upd_same)) (nkAll_mono (papp hn hn2) (Same.ts (same_new hp))))
theorem rising_app : ∀ {xs : List Int} {i : Int}, rising xs → (∀ x ∈ xs, x < i) → rising (xs ++ [i])
  | [], _, _, _ => True.intro
  | [a], i, _, h => ⟨h a (by simp), True.intro⟩
  | a :: b :: l, i, hr, h => ⟨hr.1, rising_app (xs := b :: l) hr.2 fun x hx => h x (List.mem_cons_of_mem _ hx)⟩
/-- a call that gives a dict -/
theorem q_setC {i : Nat} {sp : Sp} {E : XK} {ta : TA} {ks : List NK} {kvs : List (NK × V)} (E0 : Env K H σ Γ) (h : Ea K ta σ H ks) (hf : ∀ vs H2 Q, Same H H2 → NkAll K H2 vs ks → RetN P w K kvs H2 Q → sp vs H2 Q E) (c : ∀ d σ' H1, H d = none → Same H H1 → ND P w K H1 d kvs → Env K H1 σ' (Γ.set i (.v (.ref d))) → tz D σ' H1) : tSeq (tAsg (tCall sp [] E ta) (gName i)) tz D σ H :=
  h H (Same.refl _) _ fun vs H2 s2 ns => by
    show sp (vs ++ []) H2 _ E
    rw [List.append_nil]
    exact hf vs H2 _ s2 ns fun d H3 hd s3 nd => c d _ H3 (s2.free hd) (s2.trans s3) nd ((E0.ts (Same.ts (s2.trans s3))).setV _ i)

theorem cond3 {t1 t2 ta tb : TE} {g : Int → Int → V} {E : XK} {p m : Int} {many : Nat} (h3 : Ed K t1 σ H (.num (many : Int))) (h2 : Ed K t2 σ H (.num p)) (h1 : ∀ H', Same H H' → Ev ta σ H' (.ref r)) (hb : ∀ H', Same H H' → Ed K tb σ H' (.num m)) (hm : 1 ≤ m) (hm2 : m < 1000) (hg : g (many : Int) 2 = .bl (decide (2 < many))) (row : RowAt K S r H) (Q : Bool → Hp → Prop)
    (hq : ∀ c H2, KeepL [r] H H2 → RowAt K S r H2 → (c = true → 2 < many ∧ p = 5) → Q c H2) : tAnd (tTest (tOp (rI0 g) t1 (tC (.int 2)))) (tAnd (tTest (tOp rEq t2 (tC (.int 5)))) (tTest (tOp rEq (tCall (spTaken K) [] E (tCons ta (tCons tb tNil))) (tC (.int 0))))) σ H Q :=
  t_and3 (b1 := decide (2 < many)) (b2 := decide (p = 5)) (et_test (ev_I0 h3 ed_int hg)) (et_test (ev_eq h2 ed_int rfl rfl rfl (decide_eq_decide.mpr ⟨fun z => V.int.inj z, fun z => congrArg V.int z⟩))) (fun H2 s2 => hq false H2 (Same.keepL s2) (row.same s2) (fun z => by cases z))
    (fun b1 b2 H2 s2 => t_taken0 (h1 H2 s2) (hb H2 s2) hm hm2 (row.same s2) fun b H3 k3 row3 => hq b H3 ((Same.keepL s2).trans k3) row3 (fun _ => ⟨of_decide_eq_true b1, of_decide_eq_true b2⟩))
theorem q_lotDef {i j : Nat} {g : Int → Int → V} {many : Nat} {lot0 : List Int} (E0 : Env K H σ Γ) (hi : Γ[i]? = some (.d (tupI lot0))) (hj : Γ[j]? = some (.d (.num (many : Int)))) (hg : g (many : Int) 1 = .int ((many : Int) - 1)) (hm : 1 ≤ many) (hm4 : many ≤ 4) (h0 : inP (many : Int) lot0) (hr : rising lot0) (hl : lot0.length < 1000)
    (c : ∀ lot σ' H', Same H H' → lotOk (many : Int) lot → Env K H' σ' (Γ.set i (.d (tupI lot))) → tz D σ' H') : tSeq (tAsg (tIf (tTest (tOp (rNeD K) (tVar i) (tTup tNil))) (tVar i) (tTup (tCons (tOp (rI0 g) (tVar j) (tC (.int 1))) tNil))) (gName i)) tz D σ H := by
  cases lot0 with
  | nil => exact q_setD E0 (k := tupI [(many : Int) - 1]) (er_if (b := false) (et_test (ev_neD (ed_var E0 hi) (ed_tup ea_nil (Nat.zero_le _)) (shaped_tupI _) (by decide) rfl)) (fun z => by cases z) (fun _ => ed_tup (ea_cons (ed_I0 (ed_var E0 hj) ed_int hg) ea_nil) tiny1)) fun σ1 H1 s1 E1 => c [(many : Int) - 1] _ H1 s1 ⟨by simp, fun x hx => by rw [List.mem_singleton.mp hx]; omega, True.intro, by simp⟩ E1
  | cons a l => exact q_setD E0 (k := tupI (a :: l)) (er_if (b := true) (et_test (ev_neD (ed_var E0 hi) (ed_tup ea_nil (Nat.zero_le _)) (shaped_tupI _) (by decide) rfl)) (fun _ => ed_var E0 hi) (fun z => by cases z)) fun σ1 H1 s1 E1 => c _ _ H1 s1 ⟨by simp, h0, hr, hl⟩ E1
theorem ev_alike {E E2 : XK} {td : TE} {ta : TA} {sp : Sp} {ks : List NK} {dv : Addr} {kvs : List (NK × V)} (nd : ND P w K H dv kvs) (ok : KeysOk kvs) (h1 : Ev td σ H (.ref dv)) (h2 : Ea K ta σ H ks) (hf : ∀ vs H2 Q, Same H H2 → NkAll K H2 vs ks → RetN P w K kvs H2 Q → sp vs H2 Q E2) : Ev (tCall (spAlikeD P w K) [] E (tCons td (tCons (tCall sp [] E2 ta) tNil))) σ H (.bl true) := fun H1 s Q q =>
  h1 H1 s _ fun v H2 s2 ev => h2 H2 (s.trans s2) _ fun vs H3 s3 ns => by
    have ev : v = .ref dv := ev
    subst ev
    show sp (vs ++ []) H3 _ E2
    rw [List.append_nil]
    exact hf vs H3 _ ((s.trans s2).trans s3) ns fun d2 H4 hd s4 nd2 => ⟨dv, d2, kvs, rfl, nd.same (((s.trans s2).trans s3).trans s4), nd2, ok, fun H5 s5 => q _ H5 (((s2.trans s3).trans s4).trans s5) rfl⟩
/-- (a new dict) != d, both alike -/
theorem t_neViews {E2 : XK} {td : TE} {ta : TA} {sp : Sp} {ks : List NK} {dv : Addr} {kvs kfs : List (NK × V)} {Q : Bool → Hp → Prop} (nd : ND P w K H dv kvs) (hl : kfs.length = kvs.length) (ha : ∀ p ∈ kfs, valV kvs p.1 = some p.2 ∧ ∃ n, p.2 = .int n) (h1 : ∀ H', Same H H' → Ev td σ H' (.ref dv)) (h2 : Ea K ta σ H ks) (hf : ∀ vs H2 Q, Same H H2 → NkAll K H2 vs ks → RetN P w K kfs H2 Q → sp vs H2 Q E2)
    (q : ∀ H2, Same H H2 → Q false H2) : tTest (tOp (rNeN P w K) (tCall sp [] E2 ta) td) σ H Q :=
  h2 H (Same.refl _) _ fun vs H3 s3 ns => by
    show sp (vs ++ []) H3 _ E2
    rw [List.append_nil]
    exact hf vs H3 _ s3 ns fun d2 H4 hd s4 nd2 => h1 H4 (s3.trans s4) H4 (Same.refl _) _ fun v H5 s5 ev => by
      have ev : v = .ref dv := ev
      subst ev
      exact ⟨d2, dv, kfs, kvs, rfl, rfl, nd2.same s5, nd.same ((s3.trans s4).trans s5), hl, ha, false, rfl, q H5 ((s3.trans s4).trans s5)⟩
theorem q_sheetP {ta tb : TE} {i : Nat} {ks : List NK} (h : Ed K ta σ H (.tup ks)) (c : ∀ x H1, Same H H1 → Nk K H1 x (.tup ks) → tb σ H1 (fun y H2 => rCatA K x y H2 fun v H3 => tz D (σ.set i (some v)) H3)) : tSeq (tAsg (tOp (rCatA K) ta tb) (gName i)) tz D σ H := h H (Same.refl _) _ fun x H1 s n => c x H1 s n
theorem all_in {p : Int} : ∀ (n : Nat) (l : List (List Int)), (∀ t ∈ l, inP p t) → ∀ t ∈ (List.replicate n p).foldl allStep l, inP p t
  | 0, l, h, t, ht => h t ht
  | n + 1, l, h, t, ht => all_in n (allStep l p) (fun t' h' => by
      unfold allStep at h'
      obtain ⟨a, ha, hb⟩ := List.mem_flatMap.mp h'
      obtain ⟨i, hi, rfl⟩ := List.mem_map.mp hb
      have hi := List.mem_range.mp hi
      intro x hx
      rcases List.mem_append.mp hx with q | q
      · exact h a ha x q
      · rw [List.mem_singleton.mp q]; omega) t ht
def diffK (far things : List Int) : NK → Bool
  | .num i => !decide (far.getD i.toNat 0 = things.getD i.toNat 0)
  | _ => false
theorem shaped_nums (ks : List NK) (h : ∀ k ∈ ks, ∃ y : Int, k = .num y) : SeqAt.shaped (.list (NestedKey.datas ks)) = true :=
  shaped_keys (fun k hk => by obtain ⟨y, rfl⟩ := h k hk; rfl) (fun k hk => by obtain ⟨y, rfl⟩ := h k hk; exact Nat.zero_le _)
theorem nil_eqv (ks : List NK) : PyData.eqvAll (NestedKey.datas ks) (NestedKey.datas []) = decide (ks = []) := by
  cases ks with
  | nil => rfl
  | cons a l => rfl

/-- x = tuple(a comprehension that moves the row) -/
theorem q_tupM {rr : List V → Hp → VK → Prop} (hr : ∀ p ys H Q, SqL K H p ys → (∀ l, H l = none → Q (.ref l) (upd H l (.tup ys))) → rr [.ref p] H Q) {wi : TI} {i0 j : Nat} {tt : TT} {te : TE} {vs : List Nat} {ks : List NK} (E : Env K H σ Γ) (row : RowAt K S r H) (hw : Ew K [] wi σ H ks) (hz : ks.length < 100000) (hj : j ∈ vs) (A : Nat → List NK → Prop) (A0 : A 0 [])
    (step : ∀ i k acc σ' H', ks[i]? = some k → A i acc → KeepL [r] H H' → RowAt K S r H' → Env K H' σ' ((wipeG Γ vs).set j (.d k)) → ∀ (R1 : Hp → Prop) (R2 : V → Hp → Prop), (∀ H2, KeepL [r] H' H2 → RowAt K S r H2 → A (i + 1) acc → R1 H2) → (∀ v H2 k', KeepL [r] H' H2 → RowAt K S r H2 → Nk K H2 v k' → A (i + 1) (acc ++ [k']) → R2 v H2) → tt σ' H' (fun b H2 => if b = true then te σ' H2 R2 else R1 H2))
    (c : ∀ σ' H2 acc, KeepL [r] H H2 → RowAt K S r H2 → A ks.length acc → acc.length ≤ ks.length → Env K H2 σ' (Γ.set i0 (.d (.tup acc))) → tz D σ' H2) : tSeq (tAsg (tCB rr (tCons (tLc wi (gName j) tt te vs) tNil)) (gName i0)) tz D σ H :=
  lcM hw E row hz hj A A0 step (fun x H1 => rr [x] H1 fun y H2 => tz D (σ.set i0 (some y)) H2) fun p ws H2 acc hp k2 row2 e2 n2 a2 l2 => hr p ws H2 _ (.inl (.inl e2)) fun l hl => by
    have s3 := same_new (o := .tup ws) hl
    exact c _ _ acc (k2.trans (Same.keepL s3)) (row2.same s3) a2 l2 ((E.ts ((k2.ts row.mut).trans (Same.ts s3))).setD (.tup (.inl (.inl upd_same)) (nkAll_mono n2 (Same.ts s3))) i0)
theorem s_if2 {t : TT} {tu : L2.TS} {b : Bool} (h : Et t σ H b) (c1 : b = true → ∀ H1, Same H H1 → tu D σ H1) (c0 : ∀ H1, Same H H1 → D.nx σ H1) : tIfS t tu tNext D σ H := h H (Same.refl H) _ fun H1 s => by
  cases b with
  | true => exact iteT (c1 rfl H1 s)
  | false => exact iteF (c0 H1 s)
/-! ### law -/
abbrev sLaw : Stmt := topS 54
abbrev nLaw : List Str := ["_law_script", "_law_row", "_law_p", "_law_many", "_law_some", "_law_sheet", "_law_size", "_law_things", "_law_person", "_law_lot", "_law_views", "_law_other", "_law_far"]
theorem scLaw : FnScope ["_law_script", "_law_row", "_law_p", "_law_many", "_law_some", "_law_sheet", "_law_size", "_law_things", "_law_person", "_law_lot", "_law_views", "_law_other", "_law_far"] ["_law_script"] (defScope sLaw) := ⟨rfl, rfl, rfl, by decide +kernel, rfl, by decide +kernel, by decide +kernel⟩
def spLaw (K : PySem.W.Frag) : Sp := fun vs H Q _ => ∃ (a : Addr) (ns : List Int), vs = [.ref a] ∧ SqL K H a (ns.map V.int) ∧ ns.length ≤ 63 ∧ ∀ H', Q (.bl true) H'
theorem ok_law (T : Gs K mg) (C__law_pick : Cal P w K mg base "_law_pick" 2 ["_law_row", "_law_things"] (spPick K)) (C__law_taken : Cal P w K mg base "_law_taken" 1 ["_law_row", "_law_many"] (spTaken K)) (C__law_power : Cal P w K mg base "_law_power" 1 ["_law_p", "_law_many"] (spPower K)) (C__law_coin_count : Cal P w K mg base "_law_coin_count" 1 ["_law_many", "_law_size", "_law_sheet"] (spCoinsFor K))
    (C_share_views : Cal P w K mg base "share_views" 5 ["p", "many", "size", "sheet", "things", "lot"] (spShareViews P w K)) (C__law_alike : Cal P w K mg base "_law_alike" 2 ["_law_found", "_law_due"] (spAlikeD P w K)) (C__law_seen : Cal P w K mg base "_law_seen" 4 ["_law_p", "_law_many", "_law_size", "_law_sheet", "_law_things", "_law_lot"] (spShareViews P w K))
    (C__law_rows : Cal P w K mg base "_law_rows" 1 ["_law_sizes"] (spAllThings K)) (C_sheet_value : Cal P w K mg base "sheet_value" 4 ["p", "many", "sheet", "things"] (spSheetValue K))
    (d : Def K mg "law" sLaw ["_law_script"]) : FnOk P w K mg base CX0 6 d.f d.fd ["_law_script"] (spLaw K) := by
  refine d.F.ok scLaw (fun vs H Q E h => ?_) (fun cdv A outer s H vs Q E hr h => ?_)
  · obtain ⟨a, ns, rfl, _⟩ := h
    rfl
  · obtain ⟨a, ns, rfl, hs, hn, q⟩ := h
    have E0 : Env K H (L2.start nLaw [.ref a]) [.v (.ref a), .u, .u, .u, .u, .u, .u, .u, .u, .u, .u, .u, .u] := .cons rfl (.cons True.intro (.cons True.intro (.cons True.intro (.cons True.intro (.cons True.intro (.cons True.intro (.cons True.intro (.cons True.intro (.cons True.intro (.cons True.intro (.cons True.intro (.cons True.intro .nil))))))))))))
    have hu := room_hu hr
    refine ⟨_, pss_cons (ps_set (i := 1) scLaw.nd rfl (.inr rfl) (pe_lst (pa_cons (pv 0) (pa_cons pe_int (pa_cons pe_int (pa_cons pe_int pa_nil))))))
      (pss_cons (ps_asg (pe_tup (pa_cons (pe_cal C__law_pick (hr.mono (by decide)) (by rfl) (pa_cons (pv 1) (pa_cons (pe_lst (pa_cons pe_int (pa_cons pe_int pa_nil))) pa_nil))) (pa_cons (pe_op op_add pe_int (pe_cal C__law_taken (hr.mono (by decide)) (by rfl) (pa_cons (pv 1) (pa_cons pe_int pa_nil)))) pa_nil))) (pg_tupK (K := K) (n := 2) rfl rfl (pgs_cons (pg_name (i := 2) scLaw.nd rfl (.inr rfl)) (pgs_cons (pg_name (i := 3) scLaw.nd rfl (.inl rfl)) pgs_nil))))
      (pss_cons (ps_set (i := 4) scLaw.nd rfl (.inl rfl) (pe_lst (pa_cons (pe_tup (pa_cons (pe_tup (pa_cons pe_str (pa_cons pe_int (pa_cons pe_int pa_nil)))) pa_nil)) (pa_cons (pe_tup (pa_cons (pe_tup (pa_cons pe_str (pa_cons pe_int pa_nil))) (pa_cons (pe_tup (pa_cons pe_str (pa_cons pe_int (pa_cons pe_int pa_nil)))) (pa_cons (pe_tup (pa_cons pe_str (pa_cons pe_int (pa_cons pe_int pa_nil)))) pa_nil)))) (pa_cons (pe_tup (pa_cons (pe_tup (pa_cons pe_str (pa_cons pe_int (pa_cons pe_int pa_nil)))) (pa_cons (pe_tup (pa_cons pe_str (pa_cons pe_int (pa_cons pe_int pa_nil)))) pa_nil))) (pa_cons (pe_tup (pa_cons (pe_tup (pa_cons pe_str (pa_cons pe_int pa_nil))) pa_nil)) (pa_cons (pe_tup pa_nil) pa_nil)))))))
      (pss_cons (ps_set (i := 5) scLaw.nd rfl (.inl rfl) (pe_op op_catA (pe_tup (pa_cons (pe_tup (pa_cons pe_str (pa_cons pe_int pa_nil))) (pa_cons (pe_tup (pa_cons pe_str (pa_cons pe_int pa_nil))) pa_nil))) (pe_cal C__law_pick (hr.mono (by decide)) (by rfl) (pa_cons (pv 1) (pa_cons (pv 4) pa_nil)))))
      (pss_cons (ps_set (i := 6) scLaw.nd rfl (.inl rfl) (pe_ifExp (PW.pt (pw_and (pt_cmpR op_gt (pv 3) pe_int (nomark _)) (pw_and (pt_cmpR op_eq (pv 2) pe_int (nomark _)) (pw_and1 (pt_cmpR op_eq (pe_cal C__law_taken (hr.mono (by decide)) (by rfl) (pa_cons (pv 1) (pa_cons pe_int pa_nil))) pe_int (nomark _)))))) pe_int pe_int))
      (pss_cons (ps_if (PW.pt (pw_and (pt_cmpR op_gt (pv 3) pe_int (nomark _)) (pw_and (pt_cmpR op_eq (pv 2) pe_int (nomark _)) (pw_and1 (pt_cmpR op_eq (pe_cal C__law_taken (hr.mono (by decide)) (by rfl) (pa_cons (pv 1) (pa_cons pe_int pa_nil))) pe_int (nomark _)))))) (pss_one (ps_asg (pe_tup (pa_cons (pe_tup (pa_cons (pe_tup (pa_cons pe_str (pa_cons pe_int pa_nil))) (pa_cons (pe_tup (pa_cons pe_str (pa_cons pe_int (pa_cons pe_int pa_nil)))) pa_nil))) (pa_cons pe_int pa_nil))) (pg_tupK (K := K) (n := 2) rfl rfl (pgs_cons (pg_name (i := 5) scLaw.nd rfl (.inl rfl)) (pgs_cons (pg_name (i := 6) scLaw.nd rfl (.inl rfl)) pgs_nil))))) pss_nil)
      (pss_cons (ps_if (pt_cmpR op_gt (pe_cal C__law_power (hr.mono (by decide)) (by rfl) (pa_cons (pv 2) (pa_cons (pe_cal C__law_coin_count (hr.mono (by decide)) (by rfl) (pa_cons (pv 3) (pa_cons (pv 6) (pa_cons (pv 5) pa_nil)))) pa_nil))) pe_int (nomark _)) (pss_one (ps_ret pe_bl)) pss_nil)
      (pss_cons (ps_set (i := 7) scLaw.nd rfl (.inr rfl) (pe_callTy call_tuple_of (by rfl) T.z_tuple (by decide +kernel) (pa_cons (pe_lc (own := [("_law_person", 8)]) rfl scLaw.nd (pi_range1 (by rfl) T.z_range (pa_cons (pv 3) pa_nil)) (blkOk_by (by kernel_rfl)) (fun _ _ _ _ _ => pg_name (i := 8) scLaw.nd rfl (.inl rfl) (.inr rfl)) (fun _ _ _ _ _ => pts_nil) (fun _ _ _ _ _ => pe_cal C__law_taken (hr.mono (by decide)) (by rfl) (pa_cons (pv 1) (pa_cons (pv 2) pa_nil)))) pa_nil)))
      (pss_cons (ps_set (i := 9) scLaw.nd rfl (.inl rfl) (pe_callTy call_tuple_of (by rfl) T.z_tuple (by decide +kernel) (pa_cons (pe_lc (own := [("_law_person", 8)]) rfl scLaw.nd (pi_range1 (by rfl) T.z_range (pa_cons (pv 3) pa_nil)) (blkOk_by (by kernel_rfl)) (fun _ _ _ _ _ => pg_name (i := 8) scLaw.nd rfl (.inl rfl) (.inr rfl)) (fun _ _ _ _ _ => pts_one (pt_cmpR op_eq (pe_cal C__law_taken (hr.mono (by decide)) (by rfl) (pa_cons (pv 1) (pa_cons pe_int pa_nil))) pe_int (nomark _))) (fun _ _ _ _ _ => pv 8)) pa_nil)))
      (pss_cons (ps_set (i := 9) scLaw.nd rfl (.inl rfl) (pe_ifExp (pt_cmpR (op_neD hu) (pv 9) (pe_tup pa_nil) (nomark _)) (pv 9) (pe_tup (pa_cons (pe_op op_sub (pv 3) pe_int) pa_nil))))
      (pss_cons (ps_set (i := 10) scLaw.nd rfl (.inl rfl) (pe_cal C_share_views (hr.mono (by decide)) (by rfl) (pa_cons (pv 2) (pa_cons (pv 3) (pa_cons (pv 6) (pa_cons (pv 5) (pa_cons (pv 7) (pa_cons (pv 9) pa_nil))))))))
      (pss_cons (ps_if (pt_not (pt_val (pe_cal C__law_alike (hr.mono (by decide)) (by rfl) (pa_cons (pv 10) (pa_cons (pe_cal C__law_seen (hr.mono (by decide)) (by rfl) (pa_cons (pv 2) (pa_cons (pv 3) (pa_cons (pv 6) (pa_cons (pv 5) (pa_cons (pv 7) (pa_cons (pv 9) pa_nil))))))) pa_nil))))) (pss_one (ps_ret pe_bl)) pss_nil)
      (pss_cons (ps_if (pt_cmpR op_gt (pe_callB call_len_seq (by rfl) T.z_len PySem.boot_len (pa_cons (pv 9) pa_nil)) (pv 6) (nomark _)) (pss_one (ps_ret pe_bl)) pss_nil)
      (pss_cons (ps_for PassesOwn.never rfl (pi_list (pe_cal C__law_rows (hr.mono (by decide)) (by rfl) (pa_cons (pe_op op_repT (pe_tup (pa_cons (pv 2) pa_nil)) (pe_callB (call_min2 rfl) (by rfl) T.z_min (by decide +kernel) (pa_cons (pv 3) (pa_cons pe_int pa_nil)))) pa_nil))) (pg_name (i := 11) scLaw.nd rfl (.inl rfl)) (pss_cons (ps_set (i := 12) scLaw.nd rfl (.inr rfl) (pe_op op_catA (pv 11) (pe_slice sl_tupA (pv 7) (po_some pe_int) po_none)))
      (pss_one (ps_if (PW.pt (pw_and (pt_cmpR (op_eqD hu) (pe_lc (own := [("_law_person", 8)]) rfl scLaw.nd (pi_tup (pv 9)) (blkOk_by (by kernel_rfl)) (fun _ _ _ _ _ => pg_name (i := 8) scLaw.nd rfl (.inl rfl) (.inr rfl)) (fun _ _ _ _ _ => pts_one (pt_cmpR op_ne (pe_ix (ix_tupK (K := K) rfl) (pv 12) (pv 8) (fun _ _ => rfl)) (pe_ix (ix_tupK (K := K) rfl) (pv 7) (pv 8) (fun _ _ => rfl)) (nomark _))) (fun _ _ _ _ _ => pv 8)) (pe_lst pa_nil) (nomark _)) (pw_and1 (pt_cmpR op_eq (pe_cal C_sheet_value (hr.mono (by decide)) (by rfl) (pa_cons (pv 2) (pa_cons (pv 3) (pa_cons (pv 5) (pa_cons (pv 12) pa_nil))))) (pe_cal C_sheet_value (hr.mono (by decide)) (by rfl) (pa_cons (pv 2) (pa_cons (pv 3) (pa_cons (pv 5) (pa_cons (pv 7) pa_nil))))) (nomark _))))) (pss_one (ps_if (PW.pt (pw_and (pt_cmpR op_eq (pe_cal C__law_taken (hr.mono (by decide)) (by rfl) (pa_cons (pv 1) (pa_cons pe_int pa_nil))) pe_int (nomark _)) (pw_and1 (pt_cmpR (op_neN hu) (pe_cal C_share_views (hr.mono (by decide)) (by rfl) (pa_cons (pv 2) (pa_cons (pv 3) (pa_cons (pv 6) (pa_cons (pv 5) (pa_cons (pv 12) (pa_cons (pv 9) pa_nil))))))) (pv 10) (nomark _))))) (pss_one (ps_ret pe_bl)) pss_nil)) pss_nil))))
      (pss_one (ps_ret pe_bl))))))))))))))), ?_⟩
    refine q_row E0 rfl hs hn fun r σ1 H1 hr0 s1 row1 E1 => ?_
    generalize (a, ns) = S at row1
    -- p, many
    have E1r : ∀ {H' : Hp}, KeepL [r] H1 H' → Env K H' σ1 _ := fun {H'} k => E1.ts (k.ts row1.mut)
    refine c_pickL (ks := [.num 5, .num 7]) (ev_var E1 rfl) (el_lst (ea_cons ed_int (ea_cons ed_int ea_nil)) tiny2) (by simp) (by decide) row1 fun v2 kp H2 hkp n2 k2 row2 => ?_
    refine c_taken (ev_var (E1r k2) (i := 1) rfl) (ed_int (i := 3)) (by decide) (by decide) row2 fun x3 H3 hx0 hx3 k3 row3 => ?_
    refine ⟨2, x3, rfl, rfl, ?_⟩
    refine ⟨Nat.le_of_ble_eq_true rfl, fun p4 hp4 => ?_⟩
    obtain ⟨p, rfl, hp⟩ : ∃ p : Int, kp = .num p ∧ pIn p := by
      rcases List.mem_cons.mp hkp with rfl | h
      · exact ⟨5, rfl, .inl rfl⟩
      · rw [List.mem_singleton.mp h]; exact ⟨7, rfl, .inr rfl⟩
    obtain ⟨many, hmany⟩ : ∃ m : Nat, 2 + x3 = (m : Int) := ⟨(2 + x3).toNat, by omega⟩
    have s4 := same_new (o := .tup [v2, .int (2 + x3)]) hp4
    have row4 := row3.same s4
    have k14 : KeepL [r] H1 _ := (k2.trans k3).trans (Same.keepL s4)
    have n4 : Nk K (upd H3 p4 (.tup [v2, .int (2 + x3)])) (.ref p4) (.tup [.num p, .num (2 + x3)]) := .tup (.inl (.inl upd_same)) (.cons (n2.mono ((k3.ts row2.mut).trans (Same.ts s4))) (.cons (.int _) .nil))
    refine tg_pair _ σ1 _ _ n4 (E1r k14) fun σ4 E4 _ => ?_
    rw [hmany] at E4
    have hm2 : 2 ≤ many := by omega
    have hm4 : many ≤ 4 := by omega
    have hpl := hp.lt
    generalize upd H3 p4 (.tup [v2, .int (2 + x3)]) = H4 at *
    refine q_setL E4 (ks := exs.map sheetK) (el_lst (ea_cons (ed_tup (ea_cons (ed_tup (ea_cons ed_str (ea_cons ed_int (ea_cons ed_int ea_nil))) (by rw [sizeLine_eq]; exact Nat.le_of_ble_eq_true rfl)) ea_nil) (by rw [sizeLine_eq]; exact Nat.le_of_ble_eq_true rfl)) (ea_cons (ed_tup (ea_cons (ed_tup (ea_cons ed_str (ea_cons ed_int ea_nil)) (by rw [sizeLine_eq]; exact Nat.le_of_ble_eq_true rfl)) (ea_cons (ed_tup (ea_cons ed_str (ea_cons ed_int (ea_cons ed_int ea_nil))) (by rw [sizeLine_eq]; exact Nat.le_of_ble_eq_true rfl)) (ea_cons (ed_tup (ea_cons ed_str (ea_cons ed_int (ea_cons ed_int ea_nil))) (by rw [sizeLine_eq]; exact Nat.le_of_ble_eq_true rfl)) ea_nil))) (by rw [sizeLine_eq]; exact Nat.le_of_ble_eq_true rfl)) (ea_cons (ed_tup (ea_cons (ed_tup (ea_cons ed_str (ea_cons ed_int (ea_cons ed_int ea_nil))) (by rw [sizeLine_eq]; exact Nat.le_of_ble_eq_true rfl)) (ea_cons (ed_tup (ea_cons ed_str (ea_cons ed_int (ea_cons ed_int ea_nil))) (by rw [sizeLine_eq]; exact Nat.le_of_ble_eq_true rfl)) ea_nil)) (by rw [sizeLine_eq]; exact Nat.le_of_ble_eq_true rfl)) (ea_cons (ed_tup (ea_cons (ed_tup (ea_cons ed_str (ea_cons ed_int ea_nil)) (by rw [sizeLine_eq]; exact Nat.le_of_ble_eq_true rfl)) ea_nil) (by rw [sizeLine_eq]; exact Nat.le_of_ble_eq_true rfl)) (ea_cons (ed_tup ea_nil (by rw [sizeLine_eq]; exact Nat.le_of_ble_eq_true rfl)) ea_nil))))) (by rw [sizeLine_eq]; exact Nat.le_of_ble_eq_true rfl)) fun ls ws σ5 H5 hls s5 els nls E5 => ?_
    have hlr : ls ≠ r := by
      obtain ⟨i, seed, rest, er, _⟩ := row4
      exact (ne_of_none er hls).symm
    have row5 := row4.same s5
    -- sheet
    refine q_sheetP (ks := [rowK (.own 0), rowK (.own 1)]) (ed_tup (ea_cons (ed_tup (ea_cons ed_str (ea_cons ed_int ea_nil)) (by rw [sizeLine_eq]; exact Nat.le_of_ble_eq_true rfl)) (ea_cons (ed_tup (ea_cons ed_str (ea_cons ed_int ea_nil)) (by rw [sizeLine_eq]; exact Nat.le_of_ble_eq_true rfl)) ea_nil)) (by rw [sizeLine_eq]; exact Nat.le_of_ble_eq_true rfl)) fun x6 H6 s6 n6 => ?_
    have E6 := E5.ts (Same.ts (K := K) s6)
    refine c_pickV (ks := exs.map sheetK) (ev_var (i := 1) E6 rfl) (ev_var (i := 4) E6 rfl) (s6 _ _ els) (nkAll_mono nls (Same.ts s6)) hlr (by simp [exs]) (by decide) (row5.same s6) fun v7 k7 H7 hk7 n7 kk7 row7 => ?_
    obtain ⟨ex, hex, rfl⟩ := List.mem_map.mp hk7
    obtain ⟨a6, xs6, rfl, hs6, hn6⟩ := n6.tup_eq
    obtain ⟨a7, xs7, rfl, hs7, hn7⟩ := (show Nk K H7 v7 (.tup (ex.map rowK)) from n7).tup_eq
    have t67 : TSt K H6 H7 := kk7.ts (row5.same s6).mut
    have hexl : ex.length ≤ 8 := by clear hk7 n7 hn7; revert hex; revert ex; decide
    refine catA_run (t67 _ _ hs6) (nkAll_mono hn6 t67) hs7 hn7 (by rw [List.length_map, sizeLine_eq]; show 2 + ex.length ≤ _; omega) fun v8 H8 s8 n8 => ?_
    have row8 := row7.same s8
    have E8 := (E6.ts (t67.trans (Same.ts s8))).setD (k := sheetK (.own 0 :: .own 1 :: ex)) n8 5
    -- size
    refine q_sizeM (Pc := fun c => c = true → 2 < many ∧ p = 5) E8 row8 (fun Q' hq => cond3 (many := many) (p := p) (ed_var E8 rfl) (ed_var E8 rfl) (fun H' s' => ev_var (E8.ts (Same.ts s')) rfl) (fun H' s' => ed_int) (by decide) (by decide) (by show V.bl (decide ((2 : Int) < (many : Int))) = _; congr 1; exact decide_eq_decide.mpr (by omega)) row8 Q' hq) fun c σ9 H9 k9 row9 pc E9 => ?_
    refine q_ifM2 (Pc := fun c => c = true → 2 < many ∧ p = 5) (fun Q' hq => cond3 (many := many) (p := p) (ed_var E9 rfl) (ed_var E9 rfl) (fun H' s' => ev_var (E9.ts (Same.ts s')) rfl) (fun H' s' => ed_int) (by decide) (by decide) (by show V.bl (decide ((2 : Int) < (many : Int))) = _; congr 1; exact decide_eq_decide.mpr (by omega)) row9 Q' hq)
      (fun σ' H' => ∃ rs size, RowAt K S r H' ∧ LawSheet p many size rs ∧ Env K H' σ' [.v (.ref a), .v (.ref r), .d (.num p), .d (.num (many : Int)), .v (.ref ls), .d (sheetK rs), .d (.num (size : Int)), .u, .u, .u, .u, .u, .u])
      (fun H10 k10 row10 pc10 D' hD => s_asgT (E9.ts (k10.ts row9.mut)) (k := .tup [sheetK [.own 1, .times 0 0], .num ((1 : Nat) : Int)]) (ed_tup (ea_cons (ed_tup (ea_cons (ed_tup (ea_cons ed_str (ea_cons ed_int ea_nil)) (by rw [sizeLine_eq]; exact Nat.le_of_ble_eq_true rfl)) (ea_cons (ed_tup (ea_cons ed_str (ea_cons ed_int (ea_cons ed_int ea_nil))) (by rw [sizeLine_eq]; exact Nat.le_of_ble_eq_true rfl)) ea_nil)) (by rw [sizeLine_eq]; exact Nat.le_of_ble_eq_true rfl)) (ea_cons ed_int ea_nil)) tiny2) tg_pair fun σ' H' s' E' => hD σ' H' ⟨[.own 1, .times 0 0], 1, row10.same s', .inr ⟨rfl, rfl, pc10 rfl⟩, E'⟩)
      (fun H10 k10 row10 pc10 => ⟨.own 0 :: .own 1 :: ex, if c = true then 2 else 1, row10, .inl ⟨ex, hex, rfl, by
        cases c with
        | true => exact .inr ⟨rfl, pc rfl⟩
        | false => exact .inl rfl⟩, by
        have e := E9.ts (k10.ts row9.mut)
        cases c with
        | true => exact e
        | false => exact e⟩) fun σ11 H11 hM => ?_
    obtain ⟨rs, size, row11, L, E11⟩ := hM
    obtain ⟨n, hn', hn100⟩ := lawSheet_coins hm4 L
    have hsz := lawSheet_size L
    have hsheet := lawSheet_sheet hm2 hm4 L
    have pw : ∀ {E1 E2 : XK}, Ed K (tCall (spPower K) [] E1 (tCons (tVar 2) (tCons (tCall (spCoinsFor K) [] E2 (tCons (tVar 3) (tCons (tVar 6) (tCons (tVar 5) tNil)))) tNil))) σ11 H11 (.num (powP p n)) := fun {E1 E2} =>
      er_call (ea_cons (ed_var E11 rfl) (ea_cons (k := .num (n : Int)) (er_call (ea_cons (ed_var E11 rfl) (ea_cons (ed_var E11 rfl) (ea_cons (ed_var E11 rfl) ea_nil))) fun vs H2 Q s nn q => ⟨many, size, rs, nn, hsheet.2.1, hm4, hsz.2, fun v H' s' n' => q v H' s' (by rw [← hn']; exact n')⟩) ea_nil)) fun vs H2 Q s nn q => ⟨p, n, nn, by omega, by omega, by omega, fun v H' s' n' => q v H' s' n'⟩
    by_cases h800 : powP p n > 800
    · exact q_ifT (et_test (ev_I0 (v := .bl true) pw ed_int (by show V.bl (decide (800 < powP p n)) = _; rw [decide_eq_true h800]))) fun H12 s12 => s_retV ev_c fun H13 s13 => q H13
    refine q_ifN (et_test (ev_I0 (v := .bl false) pw ed_int (by show V.bl (decide (800 < powP p n)) = _; rw [decide_eq_false h800]))) fun H12 s12 => ?_
    have E12 := E11.ts (Same.ts (K := K) s12)
    have row12 := row11.same s12
    -- things
    refine q_tupM (ks := rangeK 0 many) (fun p ys H Q h q => ⟨p, ys, rfl, .inl ⟨h, q⟩⟩) E12 row12 (ew_range1 (n := (many : Int)) (ea_cons (ed_var E12 rfl) ea_nil) (by omega) (by omega)) (by rw [rangeK_len]; omega) (by decide) (fun i acc => ∃ xs : List Int, acc = xs.map .num ∧ xs.length = i ∧ inP p xs) ⟨[], rfl, rfl, fun _ h => nomatch h⟩ (fun i k acc σ' H' hk aa k' row' E' R1 R2 h1 h2 => ?_) fun σ14 H14 acc k14' row14 a13 l13 E14 => ?_
    · obtain ⟨xs, rfl, rfl, hin⟩ := aa
      refine yes_if (c_taken (ev_var E' rfl) (ed_var E' rfl) (by omega) (by omega) row' fun x H2 h0 hx k2 row2 => h2 _ H2 (.num x) k2 row2 (.int x) ⟨xs ++ [x], by rw [List.map_append]; rfl, by simp, fun y hy => ?_⟩)
      rcases List.mem_append.mp hy with hy | hy
      · exact hin y hy
      · rw [List.mem_singleton.mp hy]; exact ⟨h0, hx⟩
    obtain ⟨things, rfl, hlen, hin⟩ := a13
    rw [rangeK_len] at hlen
    have E14 : Env K H14 σ14 [.v (.ref a), .v (.ref r), .d (.num p), .d (.num (many : Int)), .v (.ref ls), .d (sheetK rs), .d (.num (size : Int)), .d (tupI things), .u, .u, .u, .u, .u] := E14
    -- lot
    refine q_tupM (ks := rangeK 0 many) (fun p ys H Q h q => ⟨p, ys, rfl, .inl ⟨h, q⟩⟩) E14 row14 (ew_range1 (n := (many : Int)) (ea_cons (ed_var E14 rfl) ea_nil) (by omega) (by omega)) (by rw [rangeK_len]; omega) (by decide) (fun i acc => ∃ xs : List Int, acc = xs.map .num ∧ inP (i : Int) xs ∧ rising xs) ⟨[], rfl, (fun _ h => nomatch h), True.intro⟩ (fun i k acc σ' H' hk aa k' row' E' R1 R2 h1 h2 => ?_) fun σ16 H16 acc k16' row16 a15 l15 E16 => ?_
    · obtain ⟨xs, rfl, hin', hri⟩ := aa
      have hi : i < many := by
        have h := (List.getElem?_eq_some_iff.mp hk).1
        rw [rangeK_len] at h; exact h
      rw [rangeK_get hi, Int.zero_add] at hk
      cases hk
      refine t_taken0 (ev_var (i := 1) E' rfl) ed_int (by decide) (by decide) row' fun b H2 k2 row2 => ?_
      cases b with
      | false => exact iteF (h1 H2 k2 row2 ⟨xs, rfl, fun y hy => by have := hin' y hy; omega, hri⟩)
      | true =>
        refine iteT (ed_var (E'.ts (k2.ts row'.mut)) (i := 8) rfl H2 (Same.refl _) _ fun v H3 s3 nv => h2 v H3 _ (k2.trans (Same.keepL s3)) (row2.same s3) nv ⟨xs ++ [(i : Int)], by rw [List.map_append]; rfl, fun y hy => ?_, rising_app hri fun y hy => (hin' y hy).2⟩)
        rcases List.mem_append.mp hy with hy | hy
        · have := hin' y hy; omega
        · rw [List.mem_singleton.mp hy]; omega
    obtain ⟨lot0, rfl, hin0, hri0⟩ := a15
    rw [rangeK_len] at hin0 l15
    rw [List.length_map] at l15
    have E16 : Env K H16 σ16 [.v (.ref a), .v (.ref r), .d (.num p), .d (.num (many : Int)), .v (.ref ls), .d (sheetK rs), .d (.num (size : Int)), .d (tupI things), .u, .d (tupI lot0), .u, .u, .u] := E16
    refine q_lotDef E16 rfl rfl rfl (by omega) hm4 hin0 hri0 (by omega) fun lot σ17 H17 s17 hlot E17 => ?_
    have row17 := row16.same s17
    have ok := sv_ok L hp hm2 hm4 hn' h800 hin hlen hlot
    -- views
    refine q_setC E17 (kvs := tally (viewsP p many size rs things lot n)) (ea_cons (ed_var E17 rfl) (ea_cons (ed_var E17 rfl) (ea_cons (ed_var E17 rfl) (ea_cons (ed_var E17 rfl) (ea_cons (ed_var E17 rfl) (ea_cons (ed_var E17 rfl) ea_nil)))))) (fun vs H2 Q s nn q => ⟨p, many, size, rs, things, lot, n, nn, ok, q⟩) fun dv σ18 H18 hdv s18 nd18 E18 => ?_
    have row18 := row17.same s18
    have hdr : dv ≠ r := by
      obtain ⟨i, seed, rest, er, _⟩ := row17
      exact (ne_of_none er hdv).symm
    refine q_ifN (et_to (et_not (et_B (b := true) (ev_alike nd18 (keys_ok ok) (ev_var E18 rfl) (ea_cons (ed_var E18 rfl) (ea_cons (ed_var E18 rfl) (ea_cons (ed_var E18 rfl) (ea_cons (ed_var E18 rfl) (ea_cons (ed_var E18 rfl) (ea_cons (ed_var E18 rfl) ea_nil)))))) fun vs H2 Q s nn q => ⟨p, many, size, rs, things, lot, n, nn, ok, q⟩))) rfl) fun H19 s19 => ?_
    have E19 := E18.ts (Same.ts (K := K) s19)
    have row19 := row18.same s19
    have nd19 := nd18.same s19
    have hlen9 : Ed K (tCB (fun xs H Q => ∃ p ys, xs = [.ref p] ∧ (SqL K H p ys ∨ SqT K H p ys) ∧ Q (.int ys.length) H) (tCons (tVar 9) tNil)) σ18 H19 (.num (lot.length : Int)) := ed_len (fun p ys H Q h q => ⟨p, ys, rfl, .inr h, q⟩) (ed_var E19 rfl) (List.length_map ..)
    by_cases hls2 : lot.length > size
    · exact q_ifT (et_test (ev_I0 (v := .bl true) hlen9 (ed_var E19 rfl) (by show V.bl (decide ((size : Int) < (lot.length : Int))) = _; rw [decide_eq_true (by omega)]))) fun H20 s20 => s_retV ev_c fun H21 s21 => q H21
    refine q_ifN (et_test (ev_I0 (v := .bl false) hlen9 (ed_var E19 rfl) (by show V.bl (decide ((size : Int) < (lot.length : Int))) = _; rw [decide_eq_false (by omega)]))) fun H20 s20 => ?_
    have E20 := E19.ts (Same.ts (K := K) s20)
    have row20 := row19.same s20
    have nd20 := nd19.same s20
    obtain ⟨φ, hφ⟩ := nd20.ext
    refine q_for (L := [r]) (ks := (allP (List.replicate 2 p)).map tupI) (ew_list (es_new (el_call (ea_cons (ed_to (ed_repT (n := ((2 : Nat) : Int)) (ed_tup (ea_cons (ed_var E20 rfl) ea_nil) tiny1) (ed_min (fun i j H Q q => ⟨i, j, rfl, q⟩) (ed_var (i := 3) E20 rfl) ed_int (by split <;> omega)) (by simp) (by omega) (by omega) (Nat.le_of_ble_eq_true rfl)) (rep_tupI _ _)) ea_nil) fun vs H2 Q s nn q => ⟨p, 2, nn, by omega, by omega, by omega, by rcases hp with rfl | rfl <;> decide, q⟩))) row20.mut (fun _ h => nomatch h)
      (fun i σ' H' => RowAt K S r H' ∧ Env K H' σ' [.v (.ref a), .v (.ref r), .d (.num p), .d (.num (many : Int)), .v (.ref ls), .d (sheetK rs), .d (.num (size : Int)), .d (tupI things), .u, .d (tupI lot), .v (.ref dv), .u, .u])
      (fun H21 s21 => ⟨row20.same s21, E20.ts (Same.ts s21)⟩) (fun i k σ21 H21 hk kp21 ⟨row21, E21⟩ x H22 s22 nx => ?_) (fun σ21 H21 kp21 _ => s_retV ev_c fun H22 s22 => q H22)
    rw [List.getElem?_map] at hk
    obtain ⟨cs, hcs, rfl⟩ := Option.map_eq_some_iff.mp hk
    have hcm := List.mem_of_getElem? hcs
    have hcl : cs.length = 2 := by
      have := all_lens (p := p) 2 [[]] 0 (fun t h => by rw [List.mem_singleton.mp h]; rfl) cs hcm
      omega
    have hci : inP p cs := all_in 2 [[]] (fun t h => by rw [List.mem_singleton.mp h]; exact fun _ h => nomatch h) cs hcm
    have E22 := (E21.ts (Same.ts s22)).setD nx 11
    have row22 := row21.same s22
    have nd22 := (nd20.go (kp21.ts row20.mut) (fun o e => kp21 dv _ (by simpa using hdr) e)).same s22
    refine q_setD E22 (k := tupI (cs ++ things.drop 2)) (ed_to (ed_catT (ed_var E22 rfl) (ed_slT (ls := (things.map NestedKey.num).drop 2) (ed_var E22 rfl) eo_int eo_none ?_) ?_) ?_) fun σ23 H23 s23 E23 => ?_
    · rw [show HT.sIx (things.map NestedKey.num).length 0 (some 2) = min 2 (things.map NestedKey.num).length from HT.sIx_nat _ 0 2, HT.sIx_none, List.length_map, show min 2 things.length = 2 by omega]
      exact List.take_of_length_le (by rw [List.length_drop, List.length_map]; omega)
    · rw [List.length_map, List.length_drop, List.length_map, sizeLine_eq]; omega
    · unfold tupI; rw [List.map_append, List.map_drop]
    have hfl : (cs ++ things.drop 2).length = many := by rw [List.length_append, List.length_drop]; omega
    have hfi : inP p (cs ++ things.drop 2) := fun y hy => by
      rcases List.mem_append.mp hy with hy | hy
      · exact hci y hy
      · exact hin y (List.mem_of_mem_drop hy)
    have hfd : (cs ++ things.drop 2).drop 2 = things.drop 2 := by
      rw [← hcl, List.drop_left]
    have row23 := row22.same s23
    have nd23 := nd22.same s23
    generalize cs ++ things.drop 2 = far at *
    have okf := sv_ok L hp hm2 hm4 hn' h800 hfi hfl hlot
    have hlen2 : lot.length ≤ 999 := by have := hlot.2.2.2; omega
    have sv : ∀ {E : XK} {i : Nat} {xs : List Int} {H' : Hp}, inP p xs → xs.length = many → Same H23 H' → (∀ {H'' : Hp}, Same H' H'' → Ed K (tVar i) σ23 H'' (tupI xs)) → Ed K (tCall (spSheetValue K) [] E (tCons (tVar 2) (tCons (tVar 3) (tCons (tVar 5) (tCons (tVar i) tNil))))) σ23 H' (.num (svP p rs xs)) := fun {E i xs H'} h1 h2 s' h =>
      er_call (ea_cons (ed_var (E23.ts (Same.ts s')) rfl) (ea_cons (ed_var (E23.ts (Same.ts s')) rfl) (ea_cons (ed_var (E23.ts (Same.ts s')) rfl) (ea_cons (h (Same.refl _)) ea_nil)))) fun vs H2 Q s nn q => ⟨p, many, rs, xs, nn, hp, hm2, hm4, hsheet, h1, h2, fun v H' s' n' => q v H' s' n'⟩
    have hk22 : KeepL [r] H21 H23 := Same.keepL (s22.trans s23)
    refine s_if2 (et_and (et_test (ev_eqLL (b := decide ((((lot.map NestedKey.num).filter (diffK far things)).map (fun k => k)) = [])) (ls := []) (el_lc1T nk_ts (ew_tup (es_tup (ed_var E23 rfl))) E23 (by rw [List.length_map]; omega) (by decide) (diffK far things) (fun k => k) (fun k σ' H' hk s' E' => by
        obtain ⟨y, hy, rfl⟩ := List.mem_map.mp hk
        have hy2 := hlot.2.1 y hy
        exact et_test (ev_ne (ed_ixT (ks := far.map .num) (ed_var E' rfl) (ed_var E' rfl) (j := y.toNat) (by omega) (get_getD (by omega))) (ed_ixT (ks := things.map .num) (ed_var E' rfl) (ed_var E' rfl) (j := y.toNat) (by omega) (get_getD (by omega))) rfl rfl rfl (by
          show (!decide (V.int (far.getD y.toNat 0) = V.int (things.getD y.toNat 0))) = !decide (far.getD y.toNat 0 = things.getD y.toNat 0)
          congr 1
          exact decide_eq_decide.mpr ⟨fun z => V.int.inj z, fun z => congrArg V.int z⟩))) (fun k σ' H' hk s' _ E' => ed_var E' rfl)) (el_lst ea_nil (Nat.zero_le _)) (shaped_nums _ (by
          intro k hk
          obtain ⟨k', hk', rfl⟩ := List.mem_map.mp hk
          obtain ⟨y, _, rfl⟩ := List.mem_map.mp (List.mem_filter.mp hk').1
          exact ⟨y, rfl⟩)) (by decide) (nil_eqv _))) (fun _ => et_test (ev_eq (b := decide (svP p rs far = svP p rs things)) (sv hfi hfl (Same.refl _) fun s'' => ed_var (i := 12) (E23.ts (Same.ts s'')) rfl) (sv hin hlen (Same.refl _) fun s'' => ed_var (i := 7) (E23.ts (Same.ts s'')) rfl) rfl rfl rfl (decide_eq_decide.mpr ⟨fun z => V.int.inj z, fun z => congrArg V.int z⟩)))) (fun hb H24 s24 => ?_) (fun H24 s24 => ⟨hk22.trans (Same.keepL s24), row23.same s24, ((E23.ts (Same.ts s24)).frg 11).frg 12⟩)
    rw [Bool.and_eq_true] at hb
    have hb1 := of_decide_eq_true hb.1
    have hb2 := of_decide_eq_true hb.2
    have E24 := E23.ts (Same.ts (K := K) s24)
    have row24 := row23.same s24
    have nd24 := nd23.same s24
    have fin : ∀ {H' : Hp}, KeepL [r] H24 H' → RowAt K S r H' → KeepL [r] H21 H' ∧ RowAt K S r H' ∧ Env K H' σ23 [.v (.ref a), .v (.ref r), .d (.num p), .d (.num (many : Int)), .v (.ref ls), .d (sheetK rs), .d (.num (size : Int)), .d (tupI things), .u, .d (tupI lot), .v (.ref dv), .u, .u] := fun {H'} k row' => ⟨(hk22.trans (Same.keepL s24)).trans k, row', ((E24.ts (k.ts row24.mut)).frg 11).frg 12⟩
    have same := views_same L ok okf (Nat.le_of_not_gt hls2) (fun y hy => ?_) hb2 hfd
    · refine t_taken0 (ev_var E24 rfl) ed_int (by decide) (by decide) row24 fun b H25 k25 row25 => ?_
      cases b with
      | false => exact iteF (iteF (fin k25 row25))
      | true =>
        have E25 := E24.ts (k25.ts row24.mut)
        have nd25 := nd24.go (k25.ts row24.mut) (fun o e => k25 dv _ (by simpa using hdr) e)
        refine iteT (t_neViews nd25 same.1 same.2 (fun H' s' => ev_var (E25.ts (Same.ts s')) rfl) (ea_cons (ed_var E25 rfl) (ea_cons (ed_var E25 rfl) (ea_cons (ed_var E25 rfl) (ea_cons (ed_var E25 rfl) (ea_cons (ed_var E25 rfl) (ea_cons (ed_var E25 rfl) ea_nil)))))) (fun vs H2 Q s nn q => ⟨p, many, size, rs, far, lot, n, nn, okf, q⟩) fun H26 s26 => iteF (fin (k25.trans (Same.keepL s26)) (row25.same s26)))
    · rw [List.map_id', List.filter_eq_nil_iff] at hb1
      have := hb1 (.num y) (List.mem_map.mpr ⟨y, hy, rfl⟩)
      have h3 : ¬ (!decide (far.getD y.toNat 0 = things.getD y.toNat 0)) = true := this
      simpa using h3
end
end NM
namespace NM
open PySem PySem.Spec PyProof.Rows L2
section
variable {K : PySem.W.Frag} {mg : Str → Option Value} {h : Heap}
def mkDef {x : Str} {st : Stmt} {ps : List Str} {f : Addr} {oc : Value} {od an : Option Addr} {osl : Array (Option Value)} {kV doc pm cdv ct : Value} (X : K.In h) (G : h.Ns mainGlobals mg)
    (bd : ∀ (kV doc pm : Value) (an : Option Addr) (cdv ct : Value) (us : List Value), us.length = ps.length → bindArgs (PySem.W.fnOf x x (defArgs st) (defBody st) (defScope st) .none kV doc pm an cdv ct) ⟨us, []⟩ = pure (ps.zip us))
    (a : PySem.W.nsIn K mainGlobals x = some (some (.ref f))) (l : K.lookup f = some ⟨oc, od, .func (PySem.W.fnOf x x (defArgs st) (defBody st) (defScope st) .none kV doc pm an cdv ct), osl⟩) (c : PySem.W.codeIn K cdv x = true) (k : PySem.W.keepIn K (.ref f) = true) : Def K mg x st ps :=
  ⟨f, _, fun_mk l c k, PySem.W.mg_of X G a, (fun_mk l c k).binds bd⟩
def mkGs {pa : Addr} {od : Option Addr} {sl : Array (Option Value)} {n : Nat} {t1 t2 t3 t4 : Tok} (X : K.In h) (G : h.Ns mainGlobals mg) (z_isinstance : PySem.W.nsIn K mainGlobals "isinstance" = some none) (z_int : PySem.W.nsIn K mainGlobals "int" = some none) (z_bool : PySem.W.nsIn K mainGlobals "bool" = some none) (z_tuple : PySem.W.nsIn K mainGlobals "tuple" = some none) (z_str : PySem.W.nsIn K mainGlobals "str" = some none) (z_list : PySem.W.nsIn K mainGlobals "list" = some none) (z_dict : PySem.W.nsIn K mainGlobals "dict" = some none) (z_all : PySem.W.nsIn K mainGlobals "all" = some none) (z_any : PySem.W.nsIn K mainGlobals "any" = some none) (z_sum : PySem.W.nsIn K mainGlobals "sum" = some none) (z_zip : PySem.W.nsIn K mainGlobals "zip" = some none) (z_range : PySem.W.nsIn K mainGlobals "range" = some none) (z_enumerate : PySem.W.nsIn K mainGlobals "enumerate" = some none) (z_len : PySem.W.nsIn K mainGlobals "len" = some none) (z_min : PySem.W.nsIn K mainGlobals "min" = some none) (z_sorted : PySem.W.nsIn K mainGlobals "sorted" = some none) {t_FEWEST : Tok} (c_FEWEST : PySem.W.nsIn K mainGlobals "FEWEST" = some (some (.int 2 t_FEWEST))) {t_MOST_SHARED : Tok} (c_MOST_SHARED : PySem.W.nsIn K mainGlobals "MOST_SHARED" = some (some (.int 4 t_MOST_SHARED))) {t_MOST_ROWS : Tok} (c_MOST_ROWS : PySem.W.nsIn K mainGlobals "MOST_ROWS" = some (some (.int 8 t_MOST_ROWS))) {t_MOST_NUMBER : Tok} (c_MOST_NUMBER : PySem.W.nsIn K mainGlobals "MOST_NUMBER" = some (some (.int 12 t_MOST_NUMBER))) {t_MOST_SIZE : Tok} (c_MOST_SIZE : PySem.W.nsIn K mainGlobals "MOST_SIZE" = some (some (.int 2 t_MOST_SIZE))) {t_MOST_GONE : Tok} (c_MOST_GONE : PySem.W.nsIn K mainGlobals "MOST_GONE" = some (some (.int 20000 t_MOST_GONE))) (aP : PySem.W.nsIn K mainGlobals "PRIMES" = some (some (.ref pa))) (lP : K.lookup pa = some ⟨.type "tuple", od, .seq #[.int 5 t1, .int 7 t2, .int 11 t3, .int 13 t4] n, sl⟩) : Gs K mg where
  z_isinstance := PySem.W.mg_none_of X G z_isinstance
  z_int := PySem.W.mg_none_of X G z_int
  z_bool := PySem.W.mg_none_of X G z_bool
  z_tuple := PySem.W.mg_none_of X G z_tuple
  z_str := PySem.W.mg_none_of X G z_str
  z_list := PySem.W.mg_none_of X G z_list
  z_dict := PySem.W.mg_none_of X G z_dict
  z_all := PySem.W.mg_none_of X G z_all
  z_any := PySem.W.mg_none_of X G z_any
  z_sum := PySem.W.mg_none_of X G z_sum
  z_zip := PySem.W.mg_none_of X G z_zip
  z_range := PySem.W.mg_none_of X G z_range
  z_enumerate := PySem.W.mg_none_of X G z_enumerate
  z_len := PySem.W.mg_none_of X G z_len
  z_min := PySem.W.mg_none_of X G z_min
  z_sorted := PySem.W.mg_none_of X G z_sorted
  c_FEWEST := ⟨_, PySem.W.mg_of X G c_FEWEST, _, rfl⟩
  c_MOST_SHARED := ⟨_, PySem.W.mg_of X G c_MOST_SHARED, _, rfl⟩
  c_MOST_ROWS := ⟨_, PySem.W.mg_of X G c_MOST_ROWS, _, rfl⟩
  c_MOST_NUMBER := ⟨_, PySem.W.mg_of X G c_MOST_NUMBER, _, rfl⟩
  c_MOST_SIZE := ⟨_, PySem.W.mg_of X G c_MOST_SIZE, _, rfl⟩
  c_MOST_GONE := ⟨_, PySem.W.mg_of X G c_MOST_GONE, _, rfl⟩
  primes := pa
  c_PRIMES := ⟨_, PySem.W.mg_of X G aP, rfl⟩
  s_PRIMES := fun H => .inr ⟨_, _, _, lP, rfl, rfl, (by rw [sizeLine_eq]; exact Nat.le_of_ble_eq_true rfl), .cons ⟨_, rfl⟩ (.cons ⟨_, rfl⟩ (.cons ⟨_, rfl⟩ (.cons ⟨_, rfl⟩ .nil)))⟩
theorem all_mk {P : Program} {w : World} {fa : Addr} (hfa : mg "law" = some (.ref fa)) (T : Gs K mg) (d_is_from : Def K mg "is_from" sIsFrom ["value", "least", "most"]) (d_need_number : Def K mg "need_number" sNeedNumber ["value", "least", "most"]) (d_need_prime : Def K mg "need_prime" sNeedPrime ["value"]) (d_are_numbers : Def K mg "are_numbers" sAreNumbers ["p", "value"]) (d_is_lot : Def K mg "is_lot" sIsLot ["value", "most"]) (d_need_lot : Def K mg "need_lot" sNeedLot ["value", "many", "is_void_let"]) (d_value_at : Def K mg "value_at" sValueAt ["p", "secret", "coins", "place"]) (d_deal : Def K mg "deal" sDeal ["p", "many", "secret", "coins"]) (d_inverse : Def K mg "inverse" sInverse ["p", "number"]) (d_weights_for : Def K mg "weights_for" sWeightsFor ["p", "places"]) (d_all_things : Def K mg "all_things" sAllThings ["sizes"]) (d_is_row : Def K mg "is_row" sIsRow ["value", "many", "ahead"]) (d_need_sheet : Def K mg "need_sheet" sNeedSheet ["many", "value"]) (d_need_things : Def K mg "need_things" sNeedThings ["p", "many", "value"]) (d_sheet_value : Def K mg "sheet_value" sSheetValue ["p", "many", "sheet", "things"]) (d_need_enough : Def K mg "need_enough" sNeedEnough ["many", "size", "sheet"]) (d_coins_for : Def K mg "coins_for" sCoinsFor ["many", "size", "sheet"]) (d_run_shared : Def K mg "run_shared" sRunShared ["p", "many", "size", "sheet", "things", "coins"]) (d_need_run : Def K mg "need_run" sNeedRun ["p", "many", "size", "sheet", "things"]) (d_seen_of : Def K mg "seen_of" sSeenOf ["row", "sheet_row", "lot"]) (d_share_views : Def K mg "share_views" sShareViews ["p", "many", "size", "sheet", "things", "lot"]) (d__law_power : Def K mg "_law_power" sLawPower ["_law_p", "_law_many"]) (d__law_at : Def K mg "_law_at" sLawAt ["_law_p", "_law_coins", "_law_place"]) (d__law_dealt : Def K mg "_law_dealt" sLawDealt ["_law_p", "_law_many", "_law_secret", "_law_coins"]) (d__law_coin_count : Def K mg "_law_coin_count" sLawCoinCount ["_law_many", "_law_size", "_law_sheet"]) (d__law_rows : Def K mg "_law_rows" sLawRows ["_law_sizes"]) (d__law_gauge : Def K mg "_law_gauge" sLawGauge ["_law_p", "_law_many"]) (d__law_shared : Def K mg "_law_shared" sLawShared ["_law_p", "_law_many", "_law_size", "_law_sheet", "_law_things", "_law_coins"]) (d__law_seen : Def K mg "_law_seen" sLawSeen ["_law_p", "_law_many", "_law_size", "_law_sheet", "_law_things", "_law_lot"]) (d__law_taken : Def K mg "_law_taken" sLawTaken ["_law_row", "_law_many"]) (d__law_pick : Def K mg "_law_pick" sLawPick ["_law_row", "_law_things"]) (d__law_alike : Def K mg "_law_alike" sLawAlike ["_law_found", "_law_due"]) (d_law : Def K mg "law" sLaw ["_law_script"]) :
    ∃ fd : FuncData, (∀ (s : Shared) (u : Value), BindsTo s fd ⟨[u], []⟩ [("_law_script", u)]) ∧ ∀ base : Heap, K.In base → base.Ns mainGlobals mg → FnOk P w K mg base CX0 6 fa fd ["_law_script"] (spLaw K) := by
  have e := hfa.symm.trans d_law.g
  cases e
  refine ⟨d_law.fd, fun s u => ?_, fun base _ _ => ?_⟩
  · obtain ⟨oc, od, kV, doc, pm, an, cdv, ct, osl, e, lk, hcd⟩ := d_law.F.ex
    rw [e]
    exact .of_eq rfl
  have C_is_from := d_is_from.cal (P := P) (w := w) (base := base) (ok_is_from T  d_is_from)
  have C_need_number := d_need_number.cal (P := P) (w := w) (base := base) (ok_need_number T C_is_from d_need_number)
  have C_need_prime := d_need_prime.cal (P := P) (w := w) (base := base) (ok_need_prime T C_is_from d_need_prime)
  have C_are_numbers := d_are_numbers.cal (P := P) (w := w) (base := base) (ok_are_numbers T C_is_from d_are_numbers)
  have C_is_lot := d_is_lot.cal (P := P) (w := w) (base := base) (ok_is_lot T C_is_from d_is_lot)
  have C_need_lot := d_need_lot.cal (P := P) (w := w) (base := base) (ok_need_lot T C_is_lot d_need_lot)
  have C_value_at := d_value_at.cal (P := P) (w := w) (base := base) (ok_value_at T  d_value_at)
  have C_deal := d_deal.cal (P := P) (w := w) (base := base) (ok_deal T C_value_at d_deal)
  have C_inverse := d_inverse.cal (P := P) (w := w) (base := base) (ok_inverse T  d_inverse)
  have C_weights_for := d_weights_for.cal (P := P) (w := w) (base := base) (ok_weights_for T C_inverse d_weights_for)
  have C_all_things := d_all_things.cal (P := P) (w := w) (base := base) (ok_all_things T  d_all_things)
  have C_is_row := d_is_row.cal (P := P) (w := w) (base := base) (ok_is_row T C_is_from d_is_row)
  have C_need_sheet := d_need_sheet.cal (P := P) (w := w) (base := base) (ok_need_sheet T C_is_row d_need_sheet)
  have C_need_things := d_need_things.cal (P := P) (w := w) (base := base) (ok_need_things T C_are_numbers d_need_things)
  have C_sheet_value := d_sheet_value.cal (P := P) (w := w) (base := base) (ok_sheet_value T C_need_prime C_need_number C_need_sheet C_need_things d_sheet_value)
  have C_need_enough := d_need_enough.cal (P := P) (w := w) (base := base) (ok_need_enough T  d_need_enough)
  have C_coins_for := d_coins_for.cal (P := P) (w := w) (base := base) (ok_coins_for T  d_coins_for)
  have C_run_shared := d_run_shared.cal (P := P) (w := w) (base := base) (ok_run_shared T C_weights_for C_deal d_run_shared)
  have C_need_run := d_need_run.cal (P := P) (w := w) (base := base) (ok_need_run T C_need_prime C_need_number C_need_sheet C_need_things d_need_run)
  have C_seen_of := d_seen_of.cal (P := P) (w := w) (base := base) (ok_seen_of T  d_seen_of)
  have C_share_views := d_share_views.cal (P := P) (w := w) (base := base) (ok_share_views T C_need_run C_need_lot C_need_enough C_coins_for C_all_things C_run_shared C_seen_of d_share_views)
  have C__law_power := d__law_power.cal (P := P) (w := w) (base := base) (ok_power T  d__law_power)
  have C__law_at := d__law_at.cal (P := P) (w := w) (base := base) (ok_at T  d__law_at)
  have C__law_dealt := d__law_dealt.cal (P := P) (w := w) (base := base) (ok_dealt T C__law_at d__law_dealt)
  have C__law_coin_count := d__law_coin_count.cal (P := P) (w := w) (base := base) (ok_coin_count T  d__law_coin_count)
  have C__law_rows := d__law_rows.cal (P := P) (w := w) (base := base) (ok_rows T  d__law_rows)
  have C__law_gauge := d__law_gauge.cal (P := P) (w := w) (base := base) (ok_gauge T  d__law_gauge)
  have C__law_shared := d__law_shared.cal (P := P) (w := w) (base := base) (ok_shared T C__law_gauge C__law_dealt d__law_shared)
  have C__law_seen := d__law_seen.cal (P := P) (w := w) (base := base) (ok_seen T C__law_coin_count C__law_rows C__law_shared d__law_seen)
  have C__law_taken := d__law_taken.cal (P := P) (w := w) (base := base) (ok_taken T  d__law_taken)
  have C__law_pick := d__law_pick.cal (P := P) (w := w) (base := base) (ok_pick T C__law_taken d__law_pick)
  have I__law_alike := d__law_alike.cal (P := P) (w := w) (base := base) (ok_alikeI T d__law_alike)
  have C__law_alike := d__law_alike.cal (P := P) (w := w) (base := base) (ok_alikeD T I__law_alike d__law_alike)
  exact ok_law T C__law_pick C__law_taken C__law_power C__law_coin_count C_share_views C__law_alike C__law_seen C__law_rows C_sheet_value d_law
end
end NM
open PySem PySem.W PyProof.Rows
set_option maxRecDepth 100000 in
set_option maxHeartbeats 0 in
theorem PySem.Challenge.cw_nomoretold_k32_whole_share_views_holds : PySem.Challenge.rw_nomoretold_k32_whole_share_views.Holds := by
  w_on; o_law; k_head; (case hw => w_witness2)
  k_fill
  refine L2.walk_of (l := PySem.Challenge.rw_nomoretold_k32_whole_share_views) (n := 63) (k := 6) (x := "_law_script") (CX := fun _ => L2.CX0) (sp := fun w => NM.spLaw _) rfl (by decide) rfl ⟨rfl, by decide, by decide⟩ (fun w h Y => PySem.W.kIn_of Y) ?F (fun _ _ a ns hl _ hS => ⟨a, ns, rfl, hS, hl, fun _ => rfl⟩) (fun _ _ _ _ _ h => h)
  case F =>
    intro w mg fa h KX G hmg
    refine' NM.all_mk hmg (NM.mkGs KX G ?z_isinstance ?z_int ?z_bool ?z_tuple ?z_str ?z_list ?z_dict ?z_all ?z_any ?z_sum ?z_zip ?z_range ?z_enumerate ?z_len ?z_min ?z_sorted ?c_FEWEST ?c_MOST_SHARED ?c_MOST_ROWS ?c_MOST_NUMBER ?c_MOST_SIZE ?c_MOST_GONE ?aP ?lP) (NM.mkDef (st := NM.sIsFrom) KX G (fun _ _ _ _ _ _ us hl => match us, hl with | [_, _, _], _ => rfl) ?a0 ?l0 ?e0 ?k0) (NM.mkDef (st := NM.sNeedNumber) KX G (fun _ _ _ _ _ _ us hl => match us, hl with | [_, _, _], _ => rfl) ?a1 ?l1 ?e1 ?k1) (NM.mkDef (st := NM.sNeedPrime) KX G (fun _ _ _ _ _ _ us hl => match us, hl with | [_], _ => rfl) ?a2 ?l2 ?e2 ?k2) (NM.mkDef (st := NM.sAreNumbers) KX G (fun _ _ _ _ _ _ us hl => match us, hl with | [_, _], _ => rfl) ?a3 ?l3 ?e3 ?k3) (NM.mkDef (st := NM.sIsLot) KX G (fun _ _ _ _ _ _ us hl => match us, hl with | [_, _], _ => rfl) ?a4 ?l4 ?e4 ?k4) (NM.mkDef (st := NM.sNeedLot) KX G (fun _ _ _ _ _ _ us hl => match us, hl with | [_, _, _], _ => rfl) ?a5 ?l5 ?e5 ?k5) (NM.mkDef (st := NM.sValueAt) KX G (fun _ _ _ _ _ _ us hl => match us, hl with | [_, _, _, _], _ => rfl) ?a6 ?l6 ?e6 ?k6) (NM.mkDef (st := NM.sDeal) KX G (fun _ _ _ _ _ _ us hl => match us, hl with | [_, _, _, _], _ => rfl) ?a7 ?l7 ?e7 ?k7) (NM.mkDef (st := NM.sInverse) KX G (fun _ _ _ _ _ _ us hl => match us, hl with | [_, _], _ => rfl) ?a8 ?l8 ?e8 ?k8) (NM.mkDef (st := NM.sWeightsFor) KX G (fun _ _ _ _ _ _ us hl => match us, hl with | [_, _], _ => rfl) ?a9 ?l9 ?e9 ?k9) (NM.mkDef (st := NM.sAllThings) KX G (fun _ _ _ _ _ _ us hl => match us, hl with | [_], _ => rfl) ?a10 ?l10 ?e10 ?k10) (NM.mkDef (st := NM.sIsRow) KX G (fun _ _ _ _ _ _ us hl => match us, hl with | [_, _, _], _ => rfl) ?a11 ?l11 ?e11 ?k11) (NM.mkDef (st := NM.sNeedSheet) KX G (fun _ _ _ _ _ _ us hl => match us, hl with | [_, _], _ => rfl) ?a12 ?l12 ?e12 ?k12) (NM.mkDef (st := NM.sNeedThings) KX G (fun _ _ _ _ _ _ us hl => match us, hl with | [_, _, _], _ => rfl) ?a13 ?l13 ?e13 ?k13) (NM.mkDef (st := NM.sSheetValue) KX G (fun _ _ _ _ _ _ us hl => match us, hl with | [_, _, _, _], _ => rfl) ?a14 ?l14 ?e14 ?k14) (NM.mkDef (st := NM.sNeedEnough) KX G (fun _ _ _ _ _ _ us hl => match us, hl with | [_, _, _], _ => rfl) ?a15 ?l15 ?e15 ?k15) (NM.mkDef (st := NM.sCoinsFor) KX G (fun _ _ _ _ _ _ us hl => match us, hl with | [_, _, _], _ => rfl) ?a16 ?l16 ?e16 ?k16) (NM.mkDef (st := NM.sRunShared) KX G (fun _ _ _ _ _ _ us hl => match us, hl with | [_, _, _, _, _, _], _ => rfl) ?a17 ?l17 ?e17 ?k17) (NM.mkDef (st := NM.sNeedRun) KX G (fun _ _ _ _ _ _ us hl => match us, hl with | [_, _, _, _, _], _ => rfl) ?a18 ?l18 ?e18 ?k18) (NM.mkDef (st := NM.sSeenOf) KX G (fun _ _ _ _ _ _ us hl => match us, hl with | [_, _, _], _ => rfl) ?a19 ?l19 ?e19 ?k19) (NM.mkDef (st := NM.sShareViews) KX G (fun _ _ _ _ _ _ us hl => match us, hl with | [_, _, _, _, _, _], _ => rfl) ?a20 ?l20 ?e20 ?k20) (NM.mkDef (st := NM.sLawPower) KX G (fun _ _ _ _ _ _ us hl => match us, hl with | [_, _], _ => rfl) ?a21 ?l21 ?e21 ?k21) (NM.mkDef (st := NM.sLawAt) KX G (fun _ _ _ _ _ _ us hl => match us, hl with | [_, _, _], _ => rfl) ?a22 ?l22 ?e22 ?k22) (NM.mkDef (st := NM.sLawDealt) KX G (fun _ _ _ _ _ _ us hl => match us, hl with | [_, _, _, _], _ => rfl) ?a23 ?l23 ?e23 ?k23) (NM.mkDef (st := NM.sLawCoinCount) KX G (fun _ _ _ _ _ _ us hl => match us, hl with | [_, _, _], _ => rfl) ?a24 ?l24 ?e24 ?k24) (NM.mkDef (st := NM.sLawRows) KX G (fun _ _ _ _ _ _ us hl => match us, hl with | [_], _ => rfl) ?a25 ?l25 ?e25 ?k25) (NM.mkDef (st := NM.sLawGauge) KX G (fun _ _ _ _ _ _ us hl => match us, hl with | [_, _], _ => rfl) ?a26 ?l26 ?e26 ?k26) (NM.mkDef (st := NM.sLawShared) KX G (fun _ _ _ _ _ _ us hl => match us, hl with | [_, _, _, _, _, _], _ => rfl) ?a27 ?l27 ?e27 ?k27) (NM.mkDef (st := NM.sLawSeen) KX G (fun _ _ _ _ _ _ us hl => match us, hl with | [_, _, _, _, _, _], _ => rfl) ?a28 ?l28 ?e28 ?k28) (NM.mkDef (st := NM.sLawTaken) KX G (fun _ _ _ _ _ _ us hl => match us, hl with | [_, _], _ => rfl) ?a29 ?l29 ?e29 ?k29) (NM.mkDef (st := NM.sLawPick) KX G (fun _ _ _ _ _ _ us hl => match us, hl with | [_, _], _ => rfl) ?a30 ?l30 ?e30 ?k30) (NM.mkDef (st := NM.sLawAlike) KX G (fun _ _ _ _ _ _ us hl => match us, hl with | [_, _], _ => rfl) ?a31 ?l31 ?e31 ?k31) (NM.mkDef (st := NM.sLaw) KX G (fun _ _ _ _ _ _ us hl => match us, hl with | [_], _ => rfl) ?a32 ?l32 ?e32 ?k32)
    (case z_isinstance => k_is)
    (case z_int => k_is)
    (case z_bool => k_is)
    (case z_tuple => k_is)
    (case z_str => k_is)
    (case z_list => k_is)
    (case z_dict => k_is)
    (case z_all => k_is)
    (case z_any => k_is)
    (case z_sum => k_is)
    (case z_zip => k_is)
    (case z_range => k_is)
    (case z_enumerate => k_is)
    (case z_len => k_is)
    (case z_min => k_is)
    (case z_sorted => k_is)
    (case c_FEWEST => k_is)
    (case c_MOST_SHARED => k_is)
    (case c_MOST_ROWS => k_is)
    (case c_MOST_NUMBER => k_is)
    (case c_MOST_SIZE => k_is)
    (case c_MOST_GONE => k_is)
    (case aP => k_is)
    (case lP => k_is)
    (case a0 => k_is); (case l0 => k_is); (case e0 => k_is); (case k0 => k_is)
    (case a1 => k_is); (case l1 => k_is); (case e1 => k_is); (case k1 => k_is)
    (case a2 => k_is); (case l2 => k_is); (case e2 => k_is); (case k2 => k_is)
    (case a3 => k_is); (case l3 => k_is); (case e3 => k_is); (case k3 => k_is)
    (case a4 => k_is); (case l4 => k_is); (case e4 => k_is); (case k4 => k_is)
    (case a5 => k_is); (case l5 => k_is); (case e5 => k_is); (case k5 => k_is)
    (case a6 => k_is); (case l6 => k_is); (case e6 => k_is); (case k6 => k_is)
    (case a7 => k_is); (case l7 => k_is); (case e7 => k_is); (case k7 => k_is)
    (case a8 => k_is); (case l8 => k_is); (case e8 => k_is); (case k8 => k_is)
    (case a9 => k_is); (case l9 => k_is); (case e9 => k_is); (case k9 => k_is)
    (case a10 => k_is); (case l10 => k_is); (case e10 => k_is); (case k10 => k_is)
    (case a11 => k_is); (case l11 => k_is); (case e11 => k_is); (case k11 => k_is)
    (case a12 => k_is); (case l12 => k_is); (case e12 => k_is); (case k12 => k_is)
    (case a13 => k_is); (case l13 => k_is); (case e13 => k_is); (case k13 => k_is)
    (case a14 => k_is); (case l14 => k_is); (case e14 => k_is); (case k14 => k_is)
    (case a15 => k_is); (case l15 => k_is); (case e15 => k_is); (case k15 => k_is)
    (case a16 => k_is); (case l16 => k_is); (case e16 => k_is); (case k16 => k_is)
    (case a17 => k_is); (case l17 => k_is); (case e17 => k_is); (case k17 => k_is)
    (case a18 => k_is); (case l18 => k_is); (case e18 => k_is); (case k18 => k_is)
    (case a19 => k_is); (case l19 => k_is); (case e19 => k_is); (case k19 => k_is)
    (case a20 => k_is); (case l20 => k_is); (case e20 => k_is); (case k20 => k_is)
    (case a21 => k_is); (case l21 => k_is); (case e21 => k_is); (case k21 => k_is)
    (case a22 => k_is); (case l22 => k_is); (case e22 => k_is); (case k22 => k_is)
    (case a23 => k_is); (case l23 => k_is); (case e23 => k_is); (case k23 => k_is)
    (case a24 => k_is); (case l24 => k_is); (case e24 => k_is); (case k24 => k_is)
    (case a25 => k_is); (case l25 => k_is); (case e25 => k_is); (case k25 => k_is)
    (case a26 => k_is); (case l26 => k_is); (case e26 => k_is); (case k26 => k_is)
    (case a27 => k_is); (case l27 => k_is); (case e27 => k_is); (case k27 => k_is)
    (case a28 => k_is); (case l28 => k_is); (case e28 => k_is); (case k28 => k_is)
    (case a29 => k_is); (case l29 => k_is); (case e29 => k_is); (case k29 => k_is)
    (case a30 => k_is); (case l30 => k_is); (case e30 => k_is); (case k30 => k_is)
    (case a31 => k_is); (case l31 => k_is); (case e31 => k_is); (case k31 => k_is)
    (case a32 => k_is); (case l32 => k_is); (case e32 => k_is); (case k32 => k_is)

import PyProof.Rows.All
import Wide.All
import OpenK.AllK
import Wide.FinOn
import PySem.Challenge.RW_pc0118_01
open PySem PySem.W PyProof.Rows
set_option Elab.async false
set_option maxRecDepth 100000
set_option maxHeartbeats 8000000 in
open_top Mine.hd for PySem.Challenge.rw_pc0118_01
section
open PySem.Calls PyProof.V PySem.Spec
namespace Mine
section
variable {prog : Program} {w : World} {A : Around} {E : Value → Shared → Prop} {s : Shared}

theorem adjust_upto (n : Nat) {b : Int} (hb : 0 ≤ b) : Builtin.Slice.sliceAdjust none (some b) 1 (n : Int) = (0, min b (n : Int)) := by
  unfold Builtin.Slice.sliceAdjust
  have h1 : ¬ ((1 : Int) < 0) := by omega
  have h2 : ¬ (b < 0) := by omega
  simp only [h1, h2, if_false]
theorem places_upto (m : Int) : Builtin.Slice.slicePlaces 0 m 1 = m.toNat := by
  unfold Builtin.Slice.slicePlaces
  have h1 : (1 : Int) > 0 := by omega
  simp only [h1, if_true, Int.ediv_one]
  split <;> omega

theorem sliceApplied_upto {sl : Addr} {n : Nat} {b : Int} {u : Tok} {Q : Int × Int × Nat → Shared → Prop} (hs : s.heap.IsSliceOf sl .none (.int b u) .none) (hb : 0 ≤ b) (h : Q (0, 1, (min b (n : Int)).toNat) s) :
    wpAny (model prog w) A (Builtin.Slice.sliceApplied (.ref sl) (pure (n : Int))) Q E s := by
  obtain ⟨os, hos, hcs, hds⟩ := id hs
  unfold Builtin.Slice.sliceApplied Builtin.Slice.sliceFields
  refine wpAny_bind (wpAny_bind (wpAny_field hos hds (x := .none) rfl (wpAny_bind (wpAny_field hos hds (x := .int b u) rfl (wpAny_bind (wpAny_field hos hds (x := .none) rfl (wpAny_pure ?_)))))))
  refine wpAny_bind (slicePart_none ?_)
  show wpAny _ _ (if ((1 : Int) == 0) = true then _ else _) _ _ s
  rw [if_neg (by decide)]
  refine wpAny_bind (slicePart_none (wpAny_bind (slicePart_int (wpAny_bind (wpAny_pure ?_)))))
  show wpAny _ _ (match Builtin.Slice.sliceAdjust none (some b) 1 (n : Int) with | (lo, hi) => pure (lo, (1 : Int), Builtin.Slice.slicePlaces lo hi 1)) _ _ s
  rw [adjust_upto n hb]
  show wpAny _ _ (pure ((0 : Int), (1 : Int), Builtin.Slice.slicePlaces 0 (min b (n : Int)) 1)) _ _ s
  rw [places_upto]
  exact wpAny_pure h

theorem pick_upto (xs : Array Value) (k : Nat) : ((List.range k).filterMap fun (j : Nat) => xs[((0 : Int) + (j : Int) * 1).toNat]?).toArray = (xs.toList.take k).toArray := by
  have e : (fun (j : Nat) => xs[((0 : Int) + (j : Int) * 1).toNat]?) = fun j => xs[0 + j]? := by
    funext j
    have : ((0 : Int) + (j : Int) * 1).toNat = 0 + j := by omega
    rw [this]
  rw [e]
  have := pick_run xs 0 k
  rw [List.filterMap_map] at this
  have e2 : ((fun x => xs[x]?) ∘ fun x => 0 + x) = fun j => xs[0 + j]? := rfl
  rw [e2] at this
  rw [this, List.drop_zero]

theorem getItem_tuple_upto {t sl : Addr} {items : Array Value} {b : Int} {u : Tok} {Q : Value → Shared → Prop} (ht : IsTup s.heap t items) (hs : s.heap.IsSliceOf sl .none (.int b u) .none) (hb : 0 ≤ b)
    (h1 : (items.size : Int) ≤ b → Q (.ref t) s)
    (h2 : b < (items.size : Int) → Q (.ref s.heap.objs.size) { s with heap := s.heap.push { cls := .type "tuple", data := .seq (items.toList.take b.toNat).toArray } })
    (hsz : items.size ≤ sizeLine := by size_fits) : wpAny (model prog w) A (getItem (.ref t) (.ref sl)) Q E s := by
  have hdrop : sizeOk (.seq (items.toList.take b.toNat).toArray) := by
    show (items.toList.take b.toNat).toArray.size ≤ sizeLine
    rw [List.size_toArray, List.length_take, Array.length_toList]
    omega
  obtain ⟨os, hos, hcs, hds⟩ := id hs
  have hTs : s.TypeIs (.ref sl) "slice" := ⟨os, hos, hcs⟩
  unfold getItem
  try with_reducible refine wpAny_holding ?_
  first | refine wpAny_bind (wpAny_pure ?_) | skip
  refine wpAny_bind (wpAny_sequenceKey ht.typeIs (by decide) ?_)
  refine wpAny_bind (wpAny_callSpecial?_slot (name := Str.ofString "__getitem__") ht.typeIs slot_tuple_getitem
    (wpAny_call_entry slot_tuple_getitem ht.typeIs entry_tuple_getitem ?_ (args_tuple_getitem _ _)))
  show wpAny _ _ (Builtin.Tuple.tupleItemsOf (.ref t) >>= _) _ _ s
  refine wpAny_bind (tupleItemsOf_ ht ?_)
  refine wpAny_bind (wpAny_typeOf hTs ?_)
  rw [if_pos (by decide)]
  refine wpAny_bind (sliceApplied_upto hs hb ?_)
  show wpAny _ _ (if ((0 : Int) == 0 && (1 : Int) == 1 && ((min b (items.size : Int)).toNat) == items.size) = true then _ else _) _ _ s
  by_cases hc : (items.size : Int) ≤ b
  · have hm : (min b (items.size : Int)).toNat = items.size := by omega
    rw [hm, if_pos (by simp)]
    refine wpAny_bind (m := Builtin.Tuple.tupleIsExact _) (wpAny_bind (wpAny_typeOf ht.typeIs (wpAny_pure ?_)))
    rw [if_pos (by decide)]
    exact wpAny_bind (wpAny_rule (wpAny_pure ⟨_, rfl, wpAny_pure (h1 hc)⟩))
  · have hm : (min b (items.size : Int)).toNat = b.toNat := by omega
    have hno : ¬ (((0 : Int) == 0 && (1 : Int) == 1 && (b.toNat == items.size)) = true) := by
      have : (b.toNat == items.size) = false := by rw [beq_eq_false_iff_ne]; omega
      rw [this]; simp
    rw [hm, if_neg hno, pick_upto items]
    have h := h2 (by omega)
    first
    | exact wpAny_bind (m := Builtin.Tuple.tupleExact _) (wpAny_newObj_type (wpAny_pure ⟨_, rfl, wpAny_pure h⟩) hdrop)
    | exact wpAny_bind (m := Builtin.Tuple.tupleExact _) (wpAny_newObj_type (wpAny_bind (wpAny_pure (wpAny_pure ⟨_, rfl, wpAny_pure h⟩))) hdrop)
    | exact wpAny_bind (wpAny_bind (m := Builtin.Tuple.tupleExact _) (wpAny_newObj_type (wpAny_pure (wpAny_pure ⟨_, rfl, wpAny_pure h⟩)) hdrop))
    | exact wpAny_bind (wpAny_bind (m := Builtin.Tuple.tupleExact _) (wpAny_newObj_type (wpAny_pure ⟨_, rfl, wpAny_pure h⟩) hdrop))
end

section
variable {prog : Program} {w : World} {A : Around} {E : Value → Shared → Prop} {s : Shared} {h₀ : Heap} {L : Addr} {m : Str → Option Value} {news : List (Addr × Obj)}
/-- a tuple of the ledger cut at an end that is not written: one object, one path -/
theorem slice_tuple_upto {value slice : PySem.Expr} {t : Addr} {vs : List Value} {b : Int} {u : Tok} {Q : Value → Shared → Prop}
    (F : Fr h₀ L s.heap m) (N : News h₀ L s.heap news) (ht : (t, ({ cls := .type "tuple", data := .seq vs.toArray } : Obj)) ∈ news) (hb : 0 ≤ b)
    (h : ∀ p h', Fr h₀ L h' m → News h₀ L h' ((p, ({ cls := .type "tuple", data := .seq (vs.take b.toNat).toArray } : Obj)) :: news) → Q (.ref p) { s with heap := h' })
    (hs : subscripted slice false (.ref t) (.ref s.heap.objs.size) = operate [.ref s.heap.objs.size, .ref t] (getItem (.ref t) (.ref s.heap.objs.size)))
    (hg : ∀ r, letTemporaryGo value (.ref t) r = pure ())
    (hsz : vs.toArray.size ≤ sizeLine) :
    wpAny (model prog w) A (subscriptTail value slice (.ref t) (.ref s.heap.objs.size)) Q E { s with heap := s.heap.push { cls := .type "slice", data := .fields #[.none, .int b u, .none] } } := by
  have ht0 : IsTup s.heap t vs.toArray := News.isTup N ht
  have ht' : IsTup (s.heap.push { cls := .type "slice", data := .fields #[.none, .int b u, .none] }) t vs.toArray := ht0.push _
  refine subscriptTail_ops (s := { s with heap := s.heap.push { cls := .type "slice", data := .fields #[.none, .int b u, .none] } }) ht'.typeIs slot_tuple_getitem.lookup
    (getItem_tuple_upto ht' (Heap.IsSliceOf.new ..) hb ?_ ?_ hsz) hs hg
  · intro hle
    have e : vs.take b.toNat = vs := List.take_of_length_le (by rw [List.size_toArray] at hle; omega)
    refine h t _ (F.push _) ?_
    rw [e]
    have N' : News h₀ L (s.heap.push { cls := .type "slice", data := .fields #[.none, .int b u, .none] }) news := N.grown fun _ _ e => Heap.get?_push_of_some _ e
    intro p hp
    rcases List.mem_cons.mp hp with rfl | hp
    · exact N' _ ht
    · exact N' _ hp
  · intro hlt
    have N1 := News.push (F.push { cls := .type "slice", data := .fields #[.none, .int b u, .none] }) (N.grown fun _ _ e => Heap.get?_push_of_some _ e) { cls := .type "tuple", data := .seq (vs.toArray.toList.take b.toNat).toArray }
    exact h _ _ ((F.push _).push _) N1
end

section
variable {prog : Program} {w : World} {A : Around} {E : Value → Shared → Prop} {s : Shared} {h₀ : Heap} {L : Addr} {m : Str → Option Value} {news : List (Addr × Obj)}
/-- one of two written texts at a place that is not written: one text, one path -/
theorem pick_text {value slice : PySem.Expr} {l : Addr} {x₁ x₂ : Str} {t₁ t₂ : Tok} {n : Nat} {k : Int} {u : Tok} {Q : Value → Shared → Prop}
    (N : News h₀ L s.heap news) (hl : (l, W.listOf #[.str x₁ t₁, .str x₂ t₂] n) ∈ news) (h0 : 0 ≤ k) (h2 : k < 2) (o₁ : PyData.strOk x₁ = true) (o₂ : PyData.strOk x₂ = true)
    (h : ∀ S t, PyData.strOk S = true → Q (.str S t) s)
    (hs : subscripted slice false (.ref l) (.int k u) = operate [.ref l, .int k u] (getItem (.ref l) (.int k u))) :
    wpAny (model prog w) A (subscriptTail value slice (.ref l) (.int k u)) Q E s := by
  have hi := News.isList N hl
  refine tail_any hi.typeIs slot_list_getitem.lookup ?_ hs
  by_cases hk : k = 0
  · subst hk
    exact wpAny_getItem_list hi (by decide) (by decide) (x := .str x₁ t₁) rfl (h _ _ o₁)
  · have : k = 1 := by omega
    subst this
    exact wpAny_getItem_list hi (by decide) (by decide) (x := .str x₂ t₂) rfl (h _ _ o₂)
/-- one of two written pairs of texts at a place that is not written: one object, one path -/
theorem pick_pair {value slice : PySem.Expr} {l a b : Addr} {x₁ y₁ x₂ y₂ : Str} {t₁ u₁ t₂ u₂ : Tok} {n : Nat} {k : Int} {u : Tok} {Q : Value → Shared → Prop}
    (N : News h₀ L s.heap news) (hl : (l, W.listOf #[.ref a, .ref b] n) ∈ news) (ha : (a, ({ cls := .type "tuple", data := .seq #[.str x₁ t₁, .str y₁ u₁] } : Obj)) ∈ news) (hb : (b, ({ cls := .type "tuple", data := .seq #[.str x₂ t₂, .str y₂ u₂] } : Obj)) ∈ news)
    (h0 : 0 ≤ k) (h2 : k < 2) (o₁ : (PyData.strOk x₁ && PyData.strOk y₁ && (PyData.strOk x₂ && PyData.strOk y₂)) = true)
    (h : ∀ p x y t v, PyData.strOk x = true → PyData.strOk y = true → News h₀ L s.heap ((p, ({ cls := .type "tuple", data := .seq #[.str x t, .str y v] } : Obj)) :: news) → Q (.ref p) s)
    (hs : subscripted slice false (.ref l) (.int k u) = operate [.ref l, .int k u] (getItem (.ref l) (.int k u))) :
    wpAny (model prog w) A (subscriptTail value slice (.ref l) (.int k u)) Q E s := by
  have hi := News.isList N hl
  simp only [Bool.and_eq_true] at o₁
  refine tail_any hi.typeIs slot_list_getitem.lookup ?_ hs
  have go : ∀ q o, (q, o) ∈ news → News h₀ L s.heap ((q, o) :: news) := by
    intro q o hq p hp
    rcases List.mem_cons.mp hp with rfl | hp
    · exact N _ hq
    · exact N _ hp
  by_cases hk : k = 0
  · subst hk
    exact wpAny_getItem_list hi (by decide) (by decide) (x := .ref a) rfl (h _ _ _ _ _ o₁.1.1 o₁.1.2 (go _ _ ha))
  · have : k = 1 := by omega
    subst this
    exact wpAny_getItem_list hi (by decide) (by decide) (x := .ref b) rfl (h _ _ _ _ _ o₁.2.1 o₁.2.2 (go _ _ hb))
end

/-! what is read: shapes -/
theorem reads_take {h : Heap} : ∀ {vs : List Value} {ds : List PyData} {as : List Addr}, ReadsAll h vs ds as → as = [] → ∀ n, ReadsAll h (vs.take n) (ds.take n) []
  | _, _, _, .nil, _, n => by cases n <;> exact .nil
  | _, _, _, .cons (as := as) (bs := bs) h1 h2, e, n => by
    obtain ⟨e1, e2⟩ := List.append_eq_nil_iff.mp e
    cases n with
    | zero => exact .nil
    | succ n =>
      subst e1
      exact ReadsAll.cons (as := []) h1 (reads_take h2 e2 n)

def SH (k : Nat) (d : PyData) : Prop := d.canLay0 = true ∧ d.depth ≤ k
def SHs (k : Nat) (ds : List PyData) : Prop := PyData.canLayAll0 ds = true ∧ PyData.depthAll ds ≤ k
theorem SH.shaped {d : PyData} {k : Nat} (h : SH k d) (hk : k ≤ 64) : SeqAt.shaped d = true := by
  unfold SeqAt.shaped
  rw [h.1, Bool.true_and]
  exact decide_eq_true (Nat.le_trans h.2 hk)
theorem SH.str {x : Str} (k : Nat) (h : PyData.strOk x = true) : SH k (.str x) := ⟨by rw [PyData.canLay0]; exact h, Nat.zero_le _⟩
theorem SH.bool {b : Bool} (k : Nat) : SH k (.bool b) := ⟨rfl, Nat.zero_le _⟩
theorem SH.tuple {ds : List PyData} {k : Nat} (h : SHs k ds) : SH (k + 1) (.tuple ds) := ⟨h.1, by
  have := h.2
  simp only [PyData.depth]
  omega⟩
theorem SH.list {ds : List PyData} {k : Nat} (h : SHs k ds) : SH (k + 1) (.list ds) := ⟨h.1, by
  have := h.2
  simp only [PyData.depth]
  omega⟩
theorem SHs.nil (k : Nat) : SHs k [] := ⟨rfl, Nat.zero_le _⟩
theorem SHs.cons {d : PyData} {ds : List PyData} {k : Nat} (h : SH k d) (r : SHs k ds) : SHs k (d :: ds) := ⟨by
  simp only [PyData.canLayAll0, h.1, r.1, Bool.and_true], by
  have h1 := h.2
  have h2 := r.2
  simp only [PyData.depthAll]
  omega⟩
theorem SHs.take {k : Nat} : ∀ {ds : List PyData} (_ : SHs k ds) (n : Nat), SHs k (ds.take n)
  | [], _, n => by rw [List.take_nil]; exact .nil k
  | d :: ds, h, 0 => .nil k
  | d :: ds, h, n + 1 => by
    have h1 := h.1
    have h2 := h.2
    simp only [PyData.canLayAll0, Bool.and_eq_true] at h1
    simp only [PyData.depthAll] at h2
    exact .cons ⟨h1.1, by omega⟩ (SHs.take ⟨h1.2, by omega⟩ n)

section
variable {prog : Program} {w : World} {A : Around} {E : Value → Shared → Prop} {s : Shared} {a b : Value} {d : PyData} {as bs : List Addr} {Q : Value → Shared → Prop}
theorem eq_same (ra : Reads s.heap a d as) (rb : Reads s.heap b d bs) (hd : SH 60 d) (hu : A.units + 64 < cLine) (h : Q (.bool true) s) :
    wpAny (model prog w) A (compareOp .Eq a b) Q E s := by
  refine eq_dataH ra rb (hd.shaped (by decide)) (hd.shaped (by decide)) hu ?_
  rw [SeqAt.eqv_refl d hd.1]
  exact h
theorem ne_same (ra : Reads s.heap a d as) (rb : Reads s.heap b d bs) (hd : SH 60 d) (hu : A.units + 64 < cLine) (h : Q (.bool false) s) :
    wpAny (model prog w) A (compareOp .NotEq a b) Q E s := by
  refine ne_dataH ra rb (hd.shaped (by decide)) (hd.shaped (by decide)) hu ?_
  rw [SeqAt.eqv_refl d hd.1]
  exact h
end

section
variable {prog : Program} {w : World} {A : Around} {E : Value → Shared → Prop} {s : Shared} {h₀ : Heap} {L : Addr} {m : Str → Option Value} {news : List (Addr × Obj)}
/-- the first item of a tuple whose other items are not looked at -/
theorem first_item {value slice : PySem.Expr} {t : Addr} {v : Value} {rest : List Value} {u : Tok} {Q : Value → Shared → Prop}
    (N : News h₀ L s.heap news) (ht : (t, ({ cls := .type "tuple", data := .seq (v :: rest).toArray } : Obj)) ∈ news) (h : Q v s)
    (hs : subscripted slice false (.ref t) (.int 0 u) = operate [.ref t, .int 0 u] (getItem (.ref t) (.int 0 u))) :
    wpAny (model prog w) A (subscriptTail value slice (.ref t) (.int 0 u)) Q E s := by
  have hi := News.isTup N ht
  refine tail_any hi.typeIs slot_tuple_getitem.lookup ?_ hs
  refine PyProof.Rows.getItem_tuple hi (by decide) (by decide) (j := 0) (x := v) ?_ ?_ h
  · simp [seqIndex?]
  · simp
end

section
variable {h₀ h : Heap} {L a : Addr} {news : List (Addr × Obj)} {vs : List Value} {xs : List PyData} {as bs : List Addr} {n : Nat}
theorem rd_tup (N : News h₀ L h news) (hm : (a, ({ cls := .type "tuple", data := .seq vs.toArray } : Obj)) ∈ news) (hi : ReadsAll h vs xs as) : Reads h (.ref a) (.tuple xs) as :=
  .tuple (N _ hm).1 rfl rfl hi
theorem rd_list (N : News h₀ L h news) (hm : (a, W.listOf vs.toArray n) ∈ news) (hi : ReadsAll h vs xs as) : Reads h (.ref a) (.list xs) (a :: as) :=
  .list (N _ hm).1 rfl rfl hi
theorem rd_take (m : Nat) (hi : ReadsAll h vs xs []) : ReadsAll h (vs.take m) (xs.take m) [] := reads_take hi rfl m
theorem rd_cons {v : Value} {d : PyData} (h1 : Reads h v d as) (h2 : ReadsAll h vs xs bs) : ReadsAll h (v :: vs) (d :: xs) (as ++ bs) := .cons h1 h2
theorem rd_cons0 {v : Value} {d : PyData} (h1 : Reads h v d []) (h2 : ReadsAll h vs xs []) : ReadsAll h (v :: vs) (d :: xs) [] := .cons (as := []) h1 h2
theorem rd_nil : ReadsAll h [] [] [] := .nil
end

theorem item_1 {prog : Program} {w : World} {A : Around} {E : Value → Shared → Prop} {s : Shared} {h₀ : Heap} {L : Addr} {news : List (Addr × Obj)} {value slice : PySem.Expr} {t : Addr} {x0 v : Value} {rest : List Value} {u : Tok} {Q : Value → Shared → Prop}
    (N : News h₀ L s.heap news) (ht : (t, ({ cls := .type "tuple", data := .seq (x0 :: v :: rest).toArray } : Obj)) ∈ news) (h : Q v s)
    (hs : subscripted slice false (.ref t) (.int 1 u) = operate [.ref t, .int 1 u] (getItem (.ref t) (.int 1 u))) :
    wpAny (model prog w) A (subscriptTail value slice (.ref t) (.int 1 u)) Q E s := by
  have hi := News.isTup N ht
  refine tail_any hi.typeIs slot_tuple_getitem.lookup ?_ hs
  refine PyProof.Rows.getItem_tuple hi (by decide) (by decide) (j := 1) (x := v) ?_ ?_ h
  · simp [seqIndex?]; omega
  · simp

theorem item_2 {prog : Program} {w : World} {A : Around} {E : Value → Shared → Prop} {s : Shared} {h₀ : Heap} {L : Addr} {news : List (Addr × Obj)} {value slice : PySem.Expr} {t : Addr} {x0 x1 v : Value} {rest : List Value} {u : Tok} {Q : Value → Shared → Prop}
    (N : News h₀ L s.heap news) (ht : (t, ({ cls := .type "tuple", data := .seq (x0 :: x1 :: v :: rest).toArray } : Obj)) ∈ news) (h : Q v s)
    (hs : subscripted slice false (.ref t) (.int 2 u) = operate [.ref t, .int 2 u] (getItem (.ref t) (.int 2 u))) :
    wpAny (model prog w) A (subscriptTail value slice (.ref t) (.int 2 u)) Q E s := by
  have hi := News.isTup N ht
  refine tail_any hi.typeIs slot_tuple_getitem.lookup ?_ hs
  refine PyProof.Rows.getItem_tuple hi (by decide) (by decide) (j := 2) (x := v) ?_ ?_ h
  · simp [seqIndex?]; omega
  · simp

theorem item_3 {prog : Program} {w : World} {A : Around} {E : Value → Shared → Prop} {s : Shared} {h₀ : Heap} {L : Addr} {news : List (Addr × Obj)} {value slice : PySem.Expr} {t : Addr} {x0 x1 x2 v : Value} {rest : List Value} {u : Tok} {Q : Value → Shared → Prop}
    (N : News h₀ L s.heap news) (ht : (t, ({ cls := .type "tuple", data := .seq (x0 :: x1 :: x2 :: v :: rest).toArray } : Obj)) ∈ news) (h : Q v s)
    (hs : subscripted slice false (.ref t) (.int 3 u) = operate [.ref t, .int 3 u] (getItem (.ref t) (.int 3 u))) :
    wpAny (model prog w) A (subscriptTail value slice (.ref t) (.int 3 u)) Q E s := by
  have hi := News.isTup N ht
  refine tail_any hi.typeIs slot_tuple_getitem.lookup ?_ hs
  refine PyProof.Rows.getItem_tuple hi (by decide) (by decide) (j := 3) (x := v) ?_ ?_ h
  · simp [seqIndex?]; omega
  · simp

theorem item_4 {prog : Program} {w : World} {A : Around} {E : Value → Shared → Prop} {s : Shared} {h₀ : Heap} {L : Addr} {news : List (Addr × Obj)} {value slice : PySem.Expr} {t : Addr} {x0 x1 x2 x3 v : Value} {rest : List Value} {u : Tok} {Q : Value → Shared → Prop}
    (N : News h₀ L s.heap news) (ht : (t, ({ cls := .type "tuple", data := .seq (x0 :: x1 :: x2 :: x3 :: v :: rest).toArray } : Obj)) ∈ news) (h : Q v s)
    (hs : subscripted slice false (.ref t) (.int 4 u) = operate [.ref t, .int 4 u] (getItem (.ref t) (.int 4 u))) :
    wpAny (model prog w) A (subscriptTail value slice (.ref t) (.int 4 u)) Q E s := by
  have hi := News.isTup N ht
  refine tail_any hi.typeIs slot_tuple_getitem.lookup ?_ hs
  refine PyProof.Rows.getItem_tuple hi (by decide) (by decide) (j := 4) (x := v) ?_ ?_ h
  · simp [seqIndex?]; omega
  · simp

theorem item_5 {prog : Program} {w : World} {A : Around} {E : Value → Shared → Prop} {s : Shared} {h₀ : Heap} {L : Addr} {news : List (Addr × Obj)} {value slice : PySem.Expr} {t : Addr} {x0 x1 x2 x3 x4 v : Value} {rest : List Value} {u : Tok} {Q : Value → Shared → Prop}
    (N : News h₀ L s.heap news) (ht : (t, ({ cls := .type "tuple", data := .seq (x0 :: x1 :: x2 :: x3 :: x4 :: v :: rest).toArray } : Obj)) ∈ news) (h : Q v s)
    (hs : subscripted slice false (.ref t) (.int 5 u) = operate [.ref t, .int 5 u] (getItem (.ref t) (.int 5 u))) :
    wpAny (model prog w) A (subscriptTail value slice (.ref t) (.int 5 u)) Q E s := by
  have hi := News.isTup N ht
  refine tail_any hi.typeIs slot_tuple_getitem.lookup ?_ hs
  refine PyProof.Rows.getItem_tuple hi (by decide) (by decide) (j := 5) (x := v) ?_ ?_ h
  · simp [seqIndex?]; omega
  · simp

theorem ite_yes {c : Prop} [Decidable c] {P Q : Prop} (h : c) (p : P) : if c then P else Q := by rw [if_pos h]; exact p
theorem ite_no {c : Prop} [Decidable c] {P Q : Prop} (h : ¬ c) (q : Q) : if c then P else Q := by rw [if_neg h]; exact q
theorem ne_allLt {d : Addr} : ∀ {l : List (Addr × Obj)}, AllLt d l → ∀ p ∈ l, p.1 ≠ d
  | [], _, _, hp => nomatch hp
  | q :: r, h, p, hp => by
    rcases List.mem_cons.mp hp with rfl | hp
    · exact Nat.ne_of_lt h.1
    · exact ne_allLt h.2 p hp
theorem ne_newer {d e : Addr} {o : Obj} {l : List (Addr × Obj)} (h : AllLt e l) (hm : (d, o) ∈ l) : e ≠ d := fun x => ne_allLt h _ hm x.symm
end Mine
end
section
open PySem.Calls PyProof.V PySem.Spec
namespace Mine
section
variable {prog : Program} {w : World} {A : Around} {E : Value → Shared → Prop} {s : Shared} {env : Env} {h₀ : Heap} {x : Str} {body : List Stmt} {Q : Flow → Shared → Prop}
/-- what a turn that keeps the ledger leaves behind it -/
def Kept (h₀ : Heap) (L : Addr) (x : Str) (m₀ : Str → Option Value) (nw : List (Addr × Obj)) (s₁ : Shared) (f : Flow) (s₂ : Shared) : Prop :=
  f = .next ∧ ∃ h' tk' m', s₂ = { s₁ with heap := h', toks := tk' } ∧ Fr h₀ L h' m' ∧ News h₀ L h' nw ∧ ∀ z, z ≠ x → m' z = m₀ z

theorem iter_tuple_keep {t : Addr} {vs : List Value} {L : Addr} {m₀ : Str → Option Value} {news : List (Addr × Obj)}
    (hL : env.locals = L) (hh : A.handled = none) (hl : (t, ({ cls := .type "tuple", data := .seq vs.toArray } : Obj)) ∈ news) (F : Fr h₀ L s.heap m₀) (N : News h₀ L s.heap news)
    (turn : ∀ v (m₁ : Str → Option Value) h tk nw, v ∈ vs → (∀ p ∈ news, p ∈ nw) → (∀ z, z ≠ x → m₁ z = m₀ z) → Fr h₀ L h (fun y => if y = x then some v else m₁ y) → News h₀ L h nw →
      wpAny (model prog w) A (execs body env) (Kept h₀ L x m₀ nw { s with heap := h, toks := tk }) E { s with heap := h, toks := tk })
    (done : ∀ (u : Str → Option Value) h tk, Fr h₀ L h (fun y => if y = x then u y else m₀ y) → News h₀ L h news → Q .next { s with heap := h, toks := tk }) :
    wpAny (model prog w) A (pyIter (.ref t)) (fun it s₂ => LoopAtV prog w A h₀ env x body Q E it s₂) E s := by
  subst hL
  have hol := (N _ hl).1
  have hls : s.heap.IsTuple t vs.toArray := ⟨_, hol, rfl, 0, rfl⟩
  have hne : t ≠ s.heap.objs.size := Nat.ne_of_lt (Heap.lt_size hol)
  refine wpAny_pyIter_tuple hls ?_
  have W := Walks.tuple (prog := prog) (w := w) hh s.heap.objs.size t hne vs.toArray
  refine ⟨_, _, _, _, _, _, m₀, news, (fun i m nx => nx = news ∧ ∀ z, z ≠ x → m z = m₀ z), rfl, W, ?_, ?_, ?_, ⟨⟨_, Heap.get?_push_size _ rfl, rfl, rfl⟩, hls.at fun o e => Heap.get?_push_of_some _ e⟩, F.push _, (fun p hp => ⟨Heap.get?_push_of_some _ (N p hp).1, (N p hp).2⟩), ⟨rfl, fun _ _ => rfl⟩, ?_, ?_⟩
  · intro hm
    rcases List.mem_cons.mp hm with e | hm
    · exact absurd F.ns.lt (e ▸ Nat.lt_irrefl _)
    · exact (N _ hl).2.1 ((List.mem_singleton.mp hm).symm)
  · intro b hb
    rw [List.mem_singleton.mp hb]
    exact next_is_new F
  · intro p hp hI
    exact absurd (Heap.lt_size (N p hp).1) ((List.mem_singleton.mp hI) ▸ Nat.lt_irrefl _)
  · rintro i v m₁ news₁ s₁ own ⟨hh', tk', rfl⟩ hin hP ⟨rfl, hJ⟩ hoff hown hget hfp _ F₁ N₁
    have hv : v ∈ vs := by
      have : vs[i]? = some v := by simpa using hP
      exact List.mem_of_getElem? this
    refine wpAny_mono (turn v m₁ hh' tk' (own ++ news₁) hv (fun p hp => List.mem_append_right _ hp) hJ F₁ N₁) (fun f s₂ p => ?_) fun _ _ e => e
    obtain ⟨rfl, h', tk, m', e, F', N', hm⟩ := p
    exact .next ⟨rfl, h', tk, m', news₁, e, F', N', hoff, rfl, hm⟩
  · rintro h' tk m' news' F' N' _ ⟨rfl, hJ⟩
    refine done m' h' tk ?_ N'
    have e : m' = fun y => if y = x then m' y else m₀ y := by
      funext y
      by_cases hy : y = x
      · rw [if_pos hy]
      · rw [if_neg hy, hJ y hy]
    rw [← e]
    exact F'

theorem iter_list_keep {t : Addr} {vs : List Value} {n : Nat} {L : Addr} {m₀ : Str → Option Value} {news : List (Addr × Obj)}
    (hL : env.locals = L) (hh : A.handled = none) (hl : (t, W.listOf vs.toArray n) ∈ news) (F : Fr h₀ L s.heap m₀) (N : News h₀ L s.heap news)
    (turn : ∀ v (m₁ : Str → Option Value) h tk nw, v ∈ vs → (∀ p ∈ news, p ∈ nw) → (∀ z, z ≠ x → m₁ z = m₀ z) → Fr h₀ L h (fun y => if y = x then some v else m₁ y) → News h₀ L h nw →
      wpAny (model prog w) A (execs body env) (Kept h₀ L x m₀ nw { s with heap := h, toks := tk }) E { s with heap := h, toks := tk })
    (done : ∀ (u : Str → Option Value) h tk, Fr h₀ L h (fun y => if y = x then u y else m₀ y) → News h₀ L h news → Q .next { s with heap := h, toks := tk }) :
    wpAny (model prog w) A (pyIter (.ref t)) (fun it s₂ => LoopAtV prog w A h₀ env x body Q E it s₂) E s := by
  subst hL
  have hol := (N _ hl).1
  have hls : s.heap.IsList t vs.toArray := ⟨_, hol, rfl, n, rfl⟩
  have hne : t ≠ s.heap.objs.size := Nat.ne_of_lt (Heap.lt_size hol)
  refine wpAny_pyIter_list hls ?_
  have W := Walks.list (prog := prog) (w := w) hh s.heap.objs.size t hne vs.toArray
  refine ⟨_, _, _, _, _, _, m₀, news, (fun i m nx => nx = news ∧ ∀ z, z ≠ x → m z = m₀ z), rfl, W, ?_, ?_, ?_, ⟨⟨_, Heap.get?_push_size _ rfl, rfl, rfl⟩, hls.at fun o e => Heap.get?_push_of_some _ e⟩, F.push _, (fun p hp => ⟨Heap.get?_push_of_some _ (N p hp).1, (N p hp).2⟩), ⟨rfl, fun _ _ => rfl⟩, ?_, ?_⟩
  · intro hm
    rcases List.mem_cons.mp hm with e | hm
    · exact absurd F.ns.lt (e ▸ Nat.lt_irrefl _)
    · exact (N _ hl).2.1 ((List.mem_singleton.mp hm).symm)
  · intro b hb
    rw [List.mem_singleton.mp hb]
    exact next_is_new F
  · intro p hp hI
    exact absurd (Heap.lt_size (N p hp).1) ((List.mem_singleton.mp hI) ▸ Nat.lt_irrefl _)
  · rintro i v m₁ news₁ s₁ own ⟨hh', tk', rfl⟩ hin hP ⟨rfl, hJ⟩ hoff hown hget hfp _ F₁ N₁
    have hv : v ∈ vs := by
      have : vs[i]? = some v := by simpa using hP
      exact List.mem_of_getElem? this
    refine wpAny_mono (turn v m₁ hh' tk' (own ++ news₁) hv (fun p hp => List.mem_append_right _ hp) hJ F₁ N₁) (fun f s₂ p => ?_) fun _ _ e => e
    obtain ⟨rfl, h', tk, m', e, F', N', hm⟩ := p
    exact .next ⟨rfl, h', tk, m', news₁, e, F', N', hoff, rfl, hm⟩
  · rintro h' tk m' news' F' N' _ ⟨rfl, hJ⟩
    refine done m' h' tk ?_ N'
    have e : m' = fun y => if y = x then m' y else m₀ y := by
      funext y
      by_cases hy : y = x
      · rw [if_pos hy]
      · rw [if_neg hy, hJ y hy]
    rw [← e]
    exact F'
end

section
variable {prog : Program} {w : World} {A : Around} {E : Value → Shared → Prop} {s : Shared} {h₀ : Heap} {L a b : Addr} {m : Str → Option Value} {news : List (Addr × Obj)} {vs ws : List Value} {n k : Nat} {Q : Value → Shared → Prop}
theorem add_two (F : Fr h₀ L s.heap m) (N : News h₀ L s.heap news) (ha : (a, W.listOf vs.toArray n) ∈ news) (hb : (b, W.listOf ws.toArray k) ∈ news)
    (h : ∀ D h', Fr h₀ L h' m → News h₀ L h' ((D, W.listOf (vs ++ ws).toArray 0) :: news) → Q (.ref D) { s with heap := h' })
    (hz : vs.length + ws.length ≤ sizeLine) : wpAny (model prog w) A (binaryOp .Add (.ref a) (.ref b)) Q E s :=
  kmk_add_lit F N (News.isList N ha) (News.isList N hb) (zs := vs ++ ws) rfl (fun D h' F' N' _ => h D h' F' N') hz
end
end Mine
end
section
open PySem.Calls PyProof.V PySem.Spec
namespace Mine
local macro_rules | `(tactic| walk_at "subscriptTail Name Constant ref int") => `(tactic| (k_here; (with_reducible show wpAny _ _ (subscriptTail _ _ (Value.ref _) (Value.int 0 _)) _ _ _); k_dflt (refine' Mine.first_item ?N ?l ?_ ?hs; (case N => k_asm); (case l => first | assumption | k_mem); (case hs => with_unfolding_all rfl)); (try dsimp only)))
/-- is x one of the six words of a step -/
def isStep (x : Str) : Bool := (([⟨#[115, 111, 114, 116, 45, 98, 101, 103, 105, 110]⟩, ⟨#[115, 111, 114, 116, 45, 116, 97, 107, 101]⟩, ⟨#[109, 101, 114, 103, 101, 45, 116, 97, 107, 101]⟩, ⟨#[115, 111, 114, 116, 45, 111, 114, 100, 101, 114]⟩, ⟨#[115, 111, 114, 116, 45, 103, 105, 118, 101]⟩, ⟨#[115, 111, 114, 116, 45, 101, 110, 100]⟩] : List Str)).any fun y => y == x
set_option maxHeartbeats 8000000 in
theorem step_call {w : World} {mean : ExcName → Option Value} {mg mb : Str → Option Value} {x : Str} {b : Bool}
    {dp un : Nat} {gd : Option (List Code)} {cn : Str} {cs : Scope} {a : Addr} {ccd : Value} {cl : List (Str × Addr)} {outer : List Env} {A₀ : Around} {base h₀ : Heap} {L : Addr} {m : Str → Option Value} {news : List (Addr × Obj)} {s : Shared} {t : Addr} {tx : Tok} {rest : List Value} {Q E : Value → Shared → Prop}
    (B : Below A₀ base outer h₀) (F : Fr h₀ L s.heap m) (X : (Mine.hd.heap_39 w.params).In h₀) (N : News h₀ L s.heap news) (T : Top Mine.hd.view_39 (looseW Mine.hd.view_39 []) mean mg mb h₀) (hk : cs.kind = .function)
    (ht : (t, ({ cls := .type "tuple", data := .seq (Value.str x tx :: rest).toArray } : Obj)) ∈ news) (hb : isStep x = b) (hd : dp + 1 < recursionLimit) (hu : un + 8 < cLine)
    (hret : ∀ h' tk', Fr h₀ L h' m → News h₀ L h' news → Q (.bool b) { s with heap := h', toks := tk' }) :
    wpAny (model PySem.Challenge.rw_pc0118_01.row.prog w) (ktrTop dp un gd cn cs L a ccd cl outer) (call (.ref 35) [.ref t]) Q E s := by
  revert X
  k_fill
  intro X
  refine wpAny_call ?_
  k_dflt cell_enter
  w_top off
  k_steps
  all_goals (subst hb; exact hret _ _ (by k_asm) (cb_drop (by k_asm) fun _ hp => List.mem_cons_of_mem _ hp))
end Mine
end
section
open PySem.Calls PyProof.V PySem.Spec
namespace Mine
def lawStmt : Stmt := PySem.Challenge.pw_pc0118_01.main.body.getD 8 (.Pass default)
def fnBody : Stmt → List Stmt
  | .FunctionDef _ _ b _ _ _ _ _ _ _ => b
  | _ => []
def fnScope : Stmt → Scope
  | .FunctionDef _ _ _ _ _ _ s _ _ _ => s
  | _ => default
def forBody : Stmt → List Stmt
  | .For _ _ b _ _ => b
  | _ => []
/-- the law's scope; the statements of the loop's turn, from the k-th on -/
def lawScope : Scope := fnScope lawStmt
def turn : List Stmt := forBody ((fnBody lawStmt).getD 1 (.Pass default))
def tail (k : Nat) : List Stmt := turn.drop k

theorem fr_eq {h₀ h : Heap} {L : Addr} {m m' : Str → Option Value} (F : Fr h₀ L h m) (e : ∀ y, m y = m' y) : Fr h₀ L h m' := by
  have : m = m' := funext e
  subst this
  exact F
/-- a name's value said at the frame's head -/
theorem fr_say {h₀ h : Heap} {L : Addr} {m : Str → Option Value} {x : Str} {v : Value} (F : Fr h₀ L h m) (hx : m x = some v) : Fr h₀ L h (fun y => if y = x then some v else m y) :=
  fr_eq F fun y => by
    by_cases e : y = x
    · rw [if_pos e, e, hx]
    · rw [if_neg e]
theorem news_sub {h₀ h : Heap} {L : Addr} {news news' : List (Addr × Obj)} (N : News h₀ L h news') (hs : ∀ p ∈ news, p ∈ news') : News h₀ L h news := fun p hp => N p (hs p hp)
/-- the two loops at the turn's end: their bodies -/
def partBody : List Stmt := forBody ((tail 11).getD 0 (.Pass default))
def wordBody : List Stmt := forBody ((tail 12).getD 0 (.Pass default))
end Mine
end
section
open PySem.Calls PyProof.V PySem.Spec
local macro_rules | `(tactic| walk_at "call ref") => `(tactic| (k_here; (with_reducible show wpAny _ _ (call (Value.ref 35) [Value.ref _]) _ _ _); k_dflt (first | (refine' Mine.step_call (b := true) ?hB ?hF ?hX ?hN ?hT ?hk ?ht ?hb ?hd ?hu ?_; (case hb => first | assumption | decide +kernel); (case hB => k_asm); (case hF => k_asm); (case hX => k_asm); (case hN => k_asm); (case hT => k_asm); (case hk => exact rfl); (case ht => k_mem); (case hd => ktr_room); (case hu => ktr_units)) | (refine' Mine.step_call (b := false) ?hB ?hF ?hX ?hN ?hT ?hk ?ht ?hb ?hd ?hu ?_; (case hb => first | assumption | decide +kernel); (case hB => k_asm); (case hF => k_asm); (case hX => k_asm); (case hN => k_asm); (case hT => k_asm); (case hk => exact rfl); (case ht => k_mem); (case hd => ktr_room); (case hu => ktr_units))); intro h9 tk9 F9 N9; (try dsimp only); (try k_sweep); (try k_fold)))
local macro_rules | `(tactic| passes_own) => `(tactic| exact PassesOwn.never)
local macro_rules | `(tactic| walk_at "subscriptTail Name Slice ref ref") => `(tactic| (k_here; (with_reducible show wpAny _ _ (subscriptTail _ (PySem.Expr.Slice none (some _) none _) (Value.ref _) (Value.ref _)) _ _ _); k_dflt (refine' Mine.slice_tuple_upto ?F ?N ?l ?b ?_ ?s ?t ?z; (case F => k_asm); (case N => k_asm); (case l => k_mem); (case b => kmk_sign); (case s => with_unfolding_all rfl); (case t => kmk_pure); (case z => kmk_size)); intro p' h' F' N'; (try k_sweep)))
local macro_rules | `(tactic| walk_at "subscriptTail Name Call ref int") => `(tactic| (k_here; (with_reducible show wpAny _ _ (subscriptTail _ _ (Value.ref _) (Value.int _ _)) _ _ _); k_dflt (refine' Mine.pick_text ?hN ?hl ?lo ?hi ?oa ?ob ?_ ?hs; (case hN => k_asm); (case hl => k_mem); (case lo => l_idx); (case hi => l_idx); (case oa => decide +kernel); (case ob => decide +kernel); (case hs => with_unfolding_all rfl)); intro S' t' oS'; (try dsimp only)))
local macro_rules | `(tactic| walk_at "subscriptTail Name Call ref int") => `(tactic| (k_here; (with_reducible show wpAny _ _ (subscriptTail _ _ (Value.ref _) (Value.int _ _)) _ _ _); (with_reducible rename News _ _ _ _ => pN9); k_dflt (refine' Mine.pick_pair pN9 ?hl ?hx ?hy ?lo ?hi ?oa ?_ ?hs; (case hl => k_mem); (case hx => k_mem); (case hy => k_mem); (case lo => l_idx); (case hi => l_idx); (case oa => decide +kernel); (case hs => with_unfolding_all rfl)); clear pN9; intro p' x' y' t' u' oX' oY' N'; (try dsimp only)))
local macro_rules | `(tactic| walk_at "compareOp NotEq ref ref") => `(tactic| (k_here; (with_reducible show wpAny _ _ (compareOp CmpOp.NotEq (Value.ref _) (Value.ref _)) _ _ _); k_dflt (refine' Mine.ne_same ?ra ?rb ?sh ?hu ?_; (case ra => (with_reducible repeat' (first | exact Reads.str _ _ | exact Reads.bool _ | exact Mine.rd_nil | refine' Mine.rd_cons0 ?_ ?_ | refine' Mine.rd_take _ ?_ | (refine' Mine.rd_list ?hN ?hm ?_; (case hN => assumption); (case hm => ((repeat (first | exact List.mem_cons_self | (refine List.mem_cons_of_mem _ ?_) | fail)); done))) | (refine' Mine.rd_tup ?hN ?hm ?_; (case hN => assumption); (case hm => ((repeat (first | exact List.mem_cons_self | (refine List.mem_cons_of_mem _ ?_) | fail)); done))) | fail))); (case rb => (with_reducible repeat' (first | exact Reads.str _ _ | exact Reads.bool _ | exact Mine.rd_nil | refine' Mine.rd_cons0 ?_ ?_ | refine' Mine.rd_take _ ?_ | (refine' Mine.rd_list ?hN ?hm ?_; (case hN => assumption); (case hm => ((repeat (first | exact List.mem_cons_self | (refine List.mem_cons_of_mem _ ?_) | fail)); done))) | (refine' Mine.rd_tup ?hN ?hm ?_; (case hN => assumption); (case hm => ((repeat (first | exact List.mem_cons_self | (refine List.mem_cons_of_mem _ ?_) | fail)); done))) | fail))); (case sh => (repeat' (first | (with_reducible exact Mine.SH.str _ (by first | assumption | decide +kernel)) | (with_reducible exact Mine.SH.bool _) | (with_reducible refine Mine.SH.tuple ?_) | (with_reducible refine Mine.SH.list ?_) | (with_reducible exact Mine.SHs.nil _) | (with_reducible refine Mine.SHs.cons ?_ ?_) | (with_reducible refine Mine.SHs.take ?_ _)))); (case hu => ke_room))))
local macro_rules | `(tactic| walk_at "subscriptTail Name Constant ref int") => `(tactic| (k_here; (with_reducible show wpAny _ _ (subscriptTail _ _ (Value.ref _) (Value.int _ _)) _ _ _); k_dflt (first | ((with_reducible refine' Mine.first_item ?hN ?hl ?_ ?hs); (case hN => k_asm); (case hl => (first | (with_reducible assumption) | (with_reducible ((repeat (first | exact List.mem_cons_self | (refine List.mem_cons_of_mem _ ?_) | fail)); done)) | (with_reducible ((repeat apply List.mem_cons_of_mem); assumption)))); (case hs => with_unfolding_all rfl)) | ((with_reducible refine' Mine.item_1 ?hN ?hl ?_ ?hs); (case hN => k_asm); (case hl => (first | (with_reducible assumption) | (with_reducible ((repeat (first | exact List.mem_cons_self | (refine List.mem_cons_of_mem _ ?_) | fail)); done)) | (with_reducible ((repeat apply List.mem_cons_of_mem); assumption)))); (case hs => with_unfolding_all rfl)) | ((with_reducible refine' Mine.item_2 ?hN ?hl ?_ ?hs); (case hN => k_asm); (case hl => (first | (with_reducible assumption) | (with_reducible ((repeat (first | exact List.mem_cons_self | (refine List.mem_cons_of_mem _ ?_) | fail)); done)) | (with_reducible ((repeat apply List.mem_cons_of_mem); assumption)))); (case hs => with_unfolding_all rfl)) | ((with_reducible refine' Mine.item_3 ?hN ?hl ?_ ?hs); (case hN => k_asm); (case hl => (first | (with_reducible assumption) | (with_reducible ((repeat (first | exact List.mem_cons_self | (refine List.mem_cons_of_mem _ ?_) | fail)); done)) | (with_reducible ((repeat apply List.mem_cons_of_mem); assumption)))); (case hs => with_unfolding_all rfl)) | ((with_reducible refine' Mine.item_4 ?hN ?hl ?_ ?hs); (case hN => k_asm); (case hl => (first | (with_reducible assumption) | (with_reducible ((repeat (first | exact List.mem_cons_self | (refine List.mem_cons_of_mem _ ?_) | fail)); done)) | (with_reducible ((repeat apply List.mem_cons_of_mem); assumption)))); (case hs => with_unfolding_all rfl)) | ((with_reducible refine' Mine.item_5 ?hN ?hl ?_ ?hs); (case hN => k_asm); (case hl => (first | (with_reducible assumption) | (with_reducible ((repeat (first | exact List.mem_cons_self | (refine List.mem_cons_of_mem _ ?_) | fail)); done)) | (with_reducible ((repeat apply List.mem_cons_of_mem); assumption)))); (case hs => with_unfolding_all rfl)) | fail); (try dsimp only)))
local macro_rules | `(tactic| walk_at "ite") => `(tactic| first | (refine' Mine.ite_yes ?hc ?_; (case hc => decide +kernel)) | (refine' Mine.ite_no ?hc ?_; (case hc => decide +kernel)) | fail)
local macro_rules | `(tactic| k_lt $h:ident) => `(tactic| (replace $h := allLt_of $h))
local macro_rules | `(tactic| k_upd) => `(tactic| first | (refine' Upd.head ?hh; (case hh => (with_reducible (refine Mine.ne_allLt ?_; assumption)))) | (refine' Upd.tail ?ht ?hu; (case ht => (with_reducible (refine' Mine.ne_newer ?ha ?hm; (case ha => assumption); (case hm => ((repeat (first | exact List.mem_cons_self | (refine List.mem_cons_of_mem _ ?_) | fail)); done))))); (case hu => k_upd)) | fail)
local macro_rules | `(tactic| walk_at "callWith builtin:list.append") => `(tactic| ((with_reducible refine' callWith_method1 ?_ ?he ?hp); (case he => k_dflt rfl); (case hp => k_dflt rfl)))
local macro_rules | `(tactic| walk_at "call builtin:list.append") => `(tactic| (k_here; k_dflt (refine' append_K ?k1 ?k2 ?k3 ?_ ?z; (case k1 => k_asm); (case k2 => k_asm); (case k3 => k_upd); (case z => size_fits); k_whole); intro h' F' N'; (try k_sweep)))
section
open PySem.Calls PyProof.V PySem.Spec
namespace Mine
set_option maxHeartbeats 8000000 in
theorem word_turn {w : World} {mean : ExcName → Option Value} {mg mb : Str → Option Value}
    {fa : Addr} {cd : Value} {h₀ : Heap} {L : Addr} {m : Str → Option Value} {news : List (Addr × Obj)} {s : Shared} {m₀ : Str → Option Value} {S x : Str} {ts tx : Tok}
    (B : Below callerA h₀ [] h₀) (F : Fr h₀ L s.heap (fun y => if y = Str.ofString "word" then some (.str x tx) else m y)) (X : (Mine.hd.heap_39 w.params).In h₀) (N : News h₀ L s.heap news) (T : Top Mine.hd.view_39 (looseW Mine.hd.view_39 []) mean mg mb h₀)
    (hf : m (Str.ofString "file") = some (.str S ts)) (hm : ∀ z, z ≠ Str.ofString "word" → m z = m₀ z) (hx : isStep x = false) :
    wpAny (model PySem.Challenge.rw_pc0118_01.row.prog w) (callerA.deeper (envOf (Str.ofString "law") lawScope L fa cd)) (execs wordBody (envOf (Str.ofString "law") lawScope L fa cd)) (Kept h₀ L (Str.ofString "word") m₀ news s) (fun _ _ => False) s := by
  revert X; k_fill; intro X
  have F0 : Fr h₀ L s.heap (fun y => if y = Str.ofString "word" then some (.str x tx) else if y = Str.ofString "file" then some (.str S ts) else m y) := fr_eq F fun y => by
    by_cases e : y = Str.ofString "word"
    · rw [if_pos e, if_pos e]
    · rw [if_neg e, if_neg e]
      by_cases e' : y = Str.ofString "file"
      · rw [if_pos e', e', hf]
      · rw [if_neg e']
  clear F
  dsimp only [Mine.partBody, Mine.wordBody, Mine.tail, Mine.turn, Mine.lawScope, Mine.fnScope, Mine.forBody, Mine.fnBody, Mine.lawStmt, PySem.Challenge.pw_pc0118_01, List.getD, List.drop, List.getElem?_cons_succ, List.getElem?_cons_zero, Option.getD]
  w_top off
  k_steps
  refine ⟨rfl, _, _, _, rfl, by k_asm, cb_drop (by k_asm) (fun _ hp => List.mem_cons_of_mem _ hp), fun z hz => ?_⟩
  rw [if_neg hz, ← hm z hz]
  by_cases e' : z = Str.ofString "file"
  · rw [if_pos e', e', hf]
  · rw [if_neg e']
set_option maxHeartbeats 8000000 in
theorem part_range {w : World} {mean : ExcName → Option Value} {mg mb : Str → Option Value}
    {fa : Addr} {cd : Value} {h₀ : Heap} {L : Addr} {m : Str → Option Value} {news : List (Addr × Obj)} {s : Shared} {m₀ : Str → Option Value} {p : Addr} {rest : List Value} {tr : Tok}
    (B : Below callerA h₀ [] h₀) (F : Fr h₀ L s.heap (fun y => if y = Str.ofString "part" then some (.ref p) else m y)) (X : (Mine.hd.heap_39 w.params).In h₀) (N : News h₀ L s.heap news) (T : Top Mine.hd.view_39 (looseW Mine.hd.view_39 []) mean mg mb h₀)
    (hp : (p, ({ cls := .type "tuple", data := .seq (Value.str (Str.ofString "range") tr :: rest).toArray } : Obj)) ∈ news) (hm : ∀ z, z ≠ Str.ofString "part" → m z = m₀ z) :
    wpAny (model PySem.Challenge.rw_pc0118_01.row.prog w) (callerA.deeper (envOf (Str.ofString "law") lawScope L fa cd)) (execs partBody (envOf (Str.ofString "law") lawScope L fa cd)) (Kept h₀ L (Str.ofString "part") m₀ news s) (fun _ _ => False) s := by
  revert X; k_fill; intro X
  dsimp only [Mine.partBody, Mine.wordBody, Mine.tail, Mine.turn, Mine.lawScope, Mine.fnScope, Mine.forBody, Mine.fnBody, Mine.lawStmt, PySem.Challenge.pw_pc0118_01, List.getD, List.drop, List.getElem?_cons_succ, List.getElem?_cons_zero, Option.getD]
  w_top off
  k_steps
  exact ⟨rfl, _, _, _, rfl, by k_asm, by k_asm, fun z hz => by rw [if_neg hz, hm z hz]⟩
set_option maxHeartbeats 8000000 in
theorem part_do {w : World} {mean : ExcName → Option Value} {mg mb : Str → Option Value}
    {fa : Addr} {cd : Value} {h₀ : Heap} {L : Addr} {m : Str → Option Value} {news : List (Addr × Obj)} {s : Shared} {m₀ : Str → Option Value} {p q : Addr} {x : Str} {rest : List Value} {td tx : Tok}
    (B : Below callerA h₀ [] h₀) (F : Fr h₀ L s.heap (fun y => if y = Str.ofString "part" then some (.ref p) else m y)) (X : (Mine.hd.heap_39 w.params).In h₀) (N : News h₀ L s.heap news) (T : Top Mine.hd.view_39 (looseW Mine.hd.view_39 []) mean mg mb h₀)
    (hp : (p, ({ cls := .type "tuple", data := .seq #[Value.str (Str.ofString "do") td, .ref q] } : Obj)) ∈ news)
    (hq : (q, ({ cls := .type "tuple", data := .seq (Value.str x tx :: rest).toArray } : Obj)) ∈ news) (hx : isStep x = true) (hm : ∀ z, z ≠ Str.ofString "part" → m z = m₀ z) :
    wpAny (model PySem.Challenge.rw_pc0118_01.row.prog w) (callerA.deeper (envOf (Str.ofString "law") lawScope L fa cd)) (execs partBody (envOf (Str.ofString "law") lawScope L fa cd)) (Kept h₀ L (Str.ofString "part") m₀ news s) (fun _ _ => False) s := by
  revert X; k_fill; intro X
  dsimp only [Mine.partBody, Mine.wordBody, Mine.tail, Mine.turn, Mine.lawScope, Mine.fnScope, Mine.forBody, Mine.fnBody, Mine.lawStmt, PySem.Challenge.pw_pc0118_01, List.getD, List.drop, List.getElem?_cons_succ, List.getElem?_cons_zero, Option.getD]
  w_top off
  k_steps
  exact ⟨rfl, _, _, _, rfl, by k_asm, by k_asm, fun z hz => by rw [if_neg hz, hm z hz]⟩
/-- a part that the last loop but one lets pass: a range, or a step -/
def GoodPart (news : List (Addr × Obj)) (v : Value) : Prop :=
  ∃ p, v = .ref p ∧ ((∃ tr rest, (p, ({ cls := .type "tuple", data := .seq (Value.str (Str.ofString "range") tr :: rest).toArray } : Obj)) ∈ news) ∨
    ∃ q td x tx rest, (p, ({ cls := .type "tuple", data := .seq #[Value.str (Str.ofString "do") td, .ref q] } : Obj)) ∈ news ∧ (q, ({ cls := .type "tuple", data := .seq (Value.str x tx :: rest).toArray } : Obj)) ∈ news ∧ isStep x = true)
def AllGood (news : List (Addr × Obj)) (vs : List Value) : Prop := ∀ v ∈ vs, GoodPart news v
theorem AllGood.nil {news : List (Addr × Obj)} : AllGood news [] := fun _ h => nomatch h
theorem AllGood.cons {news : List (Addr × Obj)} {v : Value} {vs : List Value} (h : GoodPart news v) (r : AllGood news vs) : AllGood news (v :: vs) := fun u hu => by
  rcases List.mem_cons.mp hu with rfl | hu
  · exact h
  · exact r u hu
theorem AllGood.range {news : List (Addr × Obj)} {p : Addr} {vs : List Value} {tr : Tok} {rest : List Value} (hm : (p, ({ cls := .type "tuple", data := .seq (Value.str (Str.ofString "range") tr :: rest).toArray } : Obj)) ∈ news) (r : AllGood news vs) : AllGood news (.ref p :: vs) :=
  .cons ⟨p, rfl, .inl ⟨_, _, hm⟩⟩ r
theorem AllGood.step {news : List (Addr × Obj)} {p q : Addr} {vs : List Value} {td tx : Tok} {x : Str} {rest : List Value} (hm : (p, ({ cls := .type "tuple", data := .seq #[Value.str (Str.ofString "do") td, .ref q] } : Obj)) ∈ news)
    (hq : (q, ({ cls := .type "tuple", data := .seq (Value.str x tx :: rest).toArray } : Obj)) ∈ news) (hx : isStep x = true) (r : AllGood news vs) : AllGood news (.ref p :: vs) :=
  .cons ⟨p, rfl, .inr ⟨q, td, x, tx, rest, hm, hq, hx⟩⟩ r
theorem GoodPart.mono {news nw : List (Addr × Obj)} {v : Value} (h : GoodPart news v) (hs : ∀ p ∈ news, p ∈ nw) : GoodPart nw v := by
  obtain ⟨p, e, h⟩ := h
  refine ⟨p, e, ?_⟩
  rcases h with ⟨tr, r, h1⟩ | ⟨q, td, x, tx, r, h1, h2, h3⟩
  · exact .inl ⟨tr, r, hs _ h1⟩
  · exact .inr ⟨q, td, x, tx, r, hs _ h1, hs _ h2, h3⟩
def GoodWord (v : Value) : Prop := ∃ x t, v = .str x t ∧ isStep x = false
def AllWord (vs : List Value) : Prop := ∀ v ∈ vs, GoodWord v
theorem AllWord.nil : AllWord [] := fun _ h => nomatch h
theorem AllWord.cons {v : Value} {vs : List Value} (h : GoodWord v) (r : AllWord vs) : AllWord (v :: vs) := fun u hu => by
  rcases List.mem_cons.mp hu with rfl | hu
  · exact h
  · exact r u hu
theorem AllWord.of {v : Value} {vs : List Value} (hv : v ∈ vs) (h : AllWord vs) : GoodWord v := h v hv
theorem word_any {w : World} {mean : ExcName → Option Value} {mg mb : Str → Option Value}
    {fa : Addr} {cd : Value} {h₀ : Heap} {L : Addr} {m : Str → Option Value} {news : List (Addr × Obj)} {s : Shared} {m₀ : Str → Option Value} {S : Str} {ts : Tok} {v : Value} (g : GoodWord v)
    (B : Below callerA h₀ [] h₀) (F : Fr h₀ L s.heap (fun y => if y = Str.ofString "word" then some v else m y)) (X : (Mine.hd.heap_39 w.params).In h₀) (N : News h₀ L s.heap news) (T : Top Mine.hd.view_39 (looseW Mine.hd.view_39 []) mean mg mb h₀)
    (hf : m (Str.ofString "file") = some (.str S ts)) (hm : ∀ z, z ≠ Str.ofString "word" → m z = m₀ z) :
    wpAny (model PySem.Challenge.rw_pc0118_01.row.prog w) (callerA.deeper (envOf (Str.ofString "law") lawScope L fa cd)) (execs wordBody (envOf (Str.ofString "law") lawScope L fa cd)) (Kept h₀ L (Str.ofString "word") m₀ news s) (fun _ _ => False) s := by
  obtain ⟨x, t, rfl, hx⟩ := g
  exact word_turn B F X N T hf hm hx
theorem part_any {w : World} {mean : ExcName → Option Value} {mg mb : Str → Option Value}
    {fa : Addr} {cd : Value} {h₀ : Heap} {L : Addr} {m : Str → Option Value} {news : List (Addr × Obj)} {s : Shared} {m₀ : Str → Option Value} {v : Value}
    (B : Below callerA h₀ [] h₀) (F : Fr h₀ L s.heap (fun y => if y = Str.ofString "part" then some v else m y)) (X : (Mine.hd.heap_39 w.params).In h₀) (N : News h₀ L s.heap news) (T : Top Mine.hd.view_39 (looseW Mine.hd.view_39 []) mean mg mb h₀)
    (g : GoodPart news v) (hm : ∀ z, z ≠ Str.ofString "part" → m z = m₀ z) :
    wpAny (model PySem.Challenge.rw_pc0118_01.row.prog w) (callerA.deeper (envOf (Str.ofString "law") lawScope L fa cd)) (execs partBody (envOf (Str.ofString "law") lawScope L fa cd)) (Kept h₀ L (Str.ofString "part") m₀ news s) (fun _ _ => False) s := by
  obtain ⟨p, rfl, h⟩ := g
  rcases h with ⟨tr, r, h1⟩ | ⟨q, td, x, tx, r, h1, h2, h3⟩
  · exact part_range B F X N T h1 hm
  · exact part_do B F X N T h1 h2 h3 hm
local macro_rules | `(tactic| walk_at "exec For Name Tuple cons nil") => `(tactic| (k_here; (rename Fr _ _ _ _ => lF'); (with_unfolding_all refine' For_invVF lF' ?k1 ?k2 ?_; (case k1 => exact rfl); (case k2 => exact rfl); k_whole)))
local macro_rules | `(tactic| walk_at "exec For Name BinOp cons nil") => `(tactic| (k_here; (rename Fr _ _ _ _ => lF'); (with_unfolding_all refine' For_invVF lF' ?k1 ?k2 ?_; (case k1 => exact rfl); (case k2 => exact rfl); k_whole)))
local macro_rules | `(tactic| walk_at "pyIter ref") => `(tactic| (k_here; (with_reducible show wpAny _ _ (pyIter (Value.ref _)) (fun it s₂ => LoopAtV _ _ _ _ _ _ _ _ _ it s₂) _ _); k_dflt (refine' Mine.iter_tuple_keep ?hL ?hh ?hl ?hF ?hN ?turn ?_; (case hL => exact rfl); (case hh => exact rfl); (case hF => k_asm); (case hN => k_asm); (case hl => k_mem); (case turn => (intro v9 m9 h9 tk9 nw9 hv9 hs9 hm9 F9 N9; refine Mine.word_any ?h0 (by k_asm) F9 (by k_asm) N9 (by k_asm) ((hm9 _ (by decide +kernel)).trans rfl) hm9; (refine Mine.AllWord.of hv9 ?_); (repeat (first | exact Mine.AllWord.nil | refine Mine.AllWord.cons ⟨_, _, rfl, by decide +kernel⟩ ?_))))); intro u' h' tk' F' N'; (try dsimp only); (try k_sweep); (try k_fold)))
local macro_rules | `(tactic| walk_at "pyIter ref") => `(tactic| (k_here; (with_reducible show wpAny _ _ (pyIter (Value.ref _)) (fun it s₂ => LoopAtV _ _ _ _ _ _ _ _ _ it s₂) _ _); k_dflt (refine' Mine.iter_list_keep ?hL ?hh ?hl ?hF ?hN ?turn ?_; (case hL => exact rfl); (case hh => exact rfl); (case hF => k_asm); (case hN => k_asm); (case hl => k_mem); (case turn => (intro v9 m9 h9 tk9 nw9 hv9 hs9 hm9 F9 N9; (rename Mine.AllGood _ _ => good9); exact Mine.part_any (by k_asm) F9 (by k_asm) N9 (by k_asm) ((good9 _ hv9).mono fun p9 hp9 => hs9 p9 (List.mem_cons_of_mem _ hp9)) hm9))); intro u' h' tk' F' N'; (try dsimp only); (try k_sweep); (try k_fold)))
local macro_rules | `(tactic| walk_at "binaryOp Add ref ref") => `(tactic| (k_here; k_dflt (refine' Mine.add_two ?hF ?hN ?h1 ?h2 ?_ ?hz; (case hF => k_asm); (case hN => k_asm); (case h1 => assumption); (case h2 => assumption); (case hz => assumption)); intro D' h' F' N'; (try k_sweep)))
set_option maxHeartbeats 8000000 in
theorem loops {w : World} {mean : ExcName → Option Value} {mg mb : Str → Option Value}
    {fa : Addr} {cd : Value} {h₀ : Heap} {L : Addr} {m : Str → Option Value} {news : List (Addr × Obj)} {s : Shared} {S : Str} {ts : Tok} {lf lm : Addr} {vs ws : List Value} {n k : Nat} {Q : Flow → Shared → Prop}
    (B : Below callerA h₀ [] h₀) (F : Fr h₀ L s.heap m) (X : (Mine.hd.heap_39 w.params).In h₀) (N : News h₀ L s.heap news) (T : Top Mine.hd.view_39 (looseW Mine.hd.view_39 []) mean mg mb h₀)
    (hf : m (Str.ofString "file") = some (.str S ts)) (h1 : m (Str.ofString "found") = some (.ref lf)) (h2 : m (Str.ofString "merge") = some (.ref lm))
    (hl1 : (lf, W.listOf vs.toArray n) ∈ news) (hl2 : (lm, W.listOf ws.toArray k) ∈ news) (hz : vs.length + ws.length ≤ sizeLine) (good : AllGood news (vs ++ ws))
    (hQ : ∀ h' m' tk', Fr h₀ L h' m' → News h₀ L h' news → (∀ z, z ≠ Str.ofString "part" → z ≠ Str.ofString "word" → m' z = m z) → Q .next { s with heap := h', toks := tk' }) :
    wpAny (model PySem.Challenge.rw_pc0118_01.row.prog w) (callerA.deeper (envOf (Str.ofString "law") lawScope L fa cd)) (execs (tail 11) (envOf (Str.ofString "law") lawScope L fa cd)) Q (fun _ _ => False) s := by
  have F3 := fr_say (fr_say (fr_say F hf) (x := Str.ofString "found") (v := .ref lf) (by rw [if_neg (by decide +kernel)]; exact h1)) (x := Str.ofString "merge") (v := .ref lm) (by rw [if_neg (by decide +kernel), if_neg (by decide +kernel)]; exact h2)
  clear F
  revert X; k_fill; intro X
  dsimp only [Mine.partBody, Mine.wordBody, Mine.tail, Mine.turn, Mine.lawScope, Mine.fnScope, Mine.forBody, Mine.fnBody, Mine.lawStmt, PySem.Challenge.pw_pc0118_01, List.getD, List.drop, List.getElem?_cons_succ, List.getElem?_cons_zero, Option.getD]
  w_top off
  k_steps
  refine hQ _ _ _ (by k_asm) (news_sub (by k_asm) (fun _ hp => by repeat' (first | exact hp | apply List.mem_cons_of_mem))) ?_
  intro z z1 z2
  rw [if_neg z2, if_neg z1]
  by_cases e1 : z = Str.ofString "merge"
  · rw [if_pos e1, e1, h2]
  · rw [if_neg e1]
    by_cases e2 : z = Str.ofString "found"
    · rw [if_pos e2, e2, h1]
    · rw [if_neg e2]
      by_cases e3 : z = Str.ofString "file"
      · rw [if_pos e3, e3, hf]
      · rw [if_neg e3]
end Mine
end
section
open PySem.Calls PyProof.V PySem.Spec
namespace Mine
/-- what a side of a statement is: files (so many of three names), or a range (two pairs of texts) -/
inductive SideD where
  | files (n : Nat)
  | range (x y z v : Str)
/-- what its part reads as, by the step's word and the file -/
def SideD.part : SideD → Str → Str → PyData
  | .files n, W, S => .tuple [.str (Str.ofString "do"), .tuple [.str W, .str S, .tuple (List.take n [.str (Str.ofString "A"), .str (Str.ofString "B-2"), .str (Str.ofString "C")])]]
  | .range x y z v, _, _ => .tuple [.str (Str.ofString "range"), .tuple [.str x, .str y], .tuple [.str z, .str v]]
def SideD.Ok : SideD → Prop
  | .files _ => True
  | .range x y z v => PyData.strOk x = true ∧ PyData.strOk y = true ∧ PyData.strOk z = true ∧ PyData.strOk v = true
/-- the ledger bears the side at a -/
def Side (news : List (Addr × Obj)) (a : Addr) : SideD → Prop
  | .files n => ∃ kf t ka kb kc, (a, ({ cls := .type "tuple", data := .seq #[.str (Str.ofString "files") kf, .ref t] } : Obj)) ∈ news ∧
      (t, ({ cls := .type "tuple", data := .seq (List.take n [Value.str (Str.ofString "A") ka, .str (Str.ofString "B-2") kb, .str (Str.ofString "C") kc]).toArray } : Obj)) ∈ news
  | .range x y z v => ∃ kf p q kx ky kz kv, (a, ({ cls := .type "tuple", data := .seq #[.str (Str.ofString "range") kf, .ref p, .ref q] } : Obj)) ∈ news ∧
      (p, ({ cls := .type "tuple", data := .seq #[.str x kx, .str y ky] } : Obj)) ∈ news ∧ (q, ({ cls := .type "tuple", data := .seq #[.str z kz, .str v kv] } : Obj)) ∈ news
/-- the ledger bears the side's part at r -/
def PartIn (news : List (Addr × Obj)) (r : Addr) (W S : Str) : SideD → Prop
  | .files n => ∃ td q tw ts t ka kb kc, (r, ({ cls := .type "tuple", data := .seq #[.str (Str.ofString "do") td, .ref q] } : Obj)) ∈ news ∧
      (q, ({ cls := .type "tuple", data := .seq #[.str W tw, .str S ts, .ref t] } : Obj)) ∈ news ∧
      (t, ({ cls := .type "tuple", data := .seq (List.take n [Value.str (Str.ofString "A") ka, .str (Str.ofString "B-2") kb, .str (Str.ofString "C") kc]).toArray } : Obj)) ∈ news
  | .range x y z v => ∃ tr p q kx ky kz kv, (r, ({ cls := .type "tuple", data := .seq #[.str (Str.ofString "range") tr, .ref p, .ref q] } : Obj)) ∈ news ∧
      (p, ({ cls := .type "tuple", data := .seq #[.str x kx, .str y ky] } : Obj)) ∈ news ∧ (q, ({ cls := .type "tuple", data := .seq #[.str z kz, .str v kv] } : Obj)) ∈ news
section
variable {news nw led : List (Addr × Obj)} {a r : Addr} {D : SideD} {W S : Str} {h₀ h : Heap} {L : Addr}
theorem Side.mono (x : Side news a D) (hs : ∀ p ∈ news, p ∈ nw) : Side nw a D := by
  cases D with
  | files n =>
    obtain ⟨kf, t, ka, kb, kc, h1, h2⟩ := x
    exact ⟨kf, t, ka, kb, kc, hs _ h1, hs _ h2⟩
  | range x y z v =>
    obtain ⟨kf, p, q, kx, ky, kz, kv, h1, h2, h3⟩ := x
    exact ⟨kf, p, q, kx, ky, kz, kv, hs _ h1, hs _ h2, hs _ h3⟩
theorem PartIn.reads (N : News h₀ L h nw) (hs : ∀ p ∈ news, p ∈ nw) (x : PartIn news r W S D) : Reads h (.ref r) (D.part W S) [] := by
  have N := news_sub N hs
  cases D with
  | files n =>
    obtain ⟨td, q, tw, ts, t, ka, kb, kc, h1, h2, h3⟩ := x
    exact rd_tup N h1 (rd_cons0 (Reads.str _ _) (rd_cons0 (rd_tup N h2 (rd_cons0 (Reads.str _ _) (rd_cons0 (Reads.str _ _) (rd_cons0 (rd_tup N h3 (rd_take n (rd_cons0 (Reads.str _ _) (rd_cons0 (Reads.str _ _) (rd_cons0 (Reads.str _ _) rd_nil))))) rd_nil)))) rd_nil))
  | range x y z v =>
    obtain ⟨tr, p, q, kx, ky, kz, kv, h1, h2, h3⟩ := x
    exact rd_tup N h1 (rd_cons0 (Reads.str _ _) (rd_cons0 (rd_tup N h2 (rd_cons0 (Reads.str _ _) (rd_cons0 (Reads.str _ _) rd_nil))) (rd_cons0 (rd_tup N h3 (rd_cons0 (Reads.str _ _) (rd_cons0 (Reads.str _ _) rd_nil))) rd_nil)))
theorem PartIn.good (x : PartIn news r W S D) (hs : ∀ p ∈ news, p ∈ nw) (hw : isStep W = true) : GoodPart nw (.ref r) := by
  refine ⟨r, rfl, ?_⟩
  cases D with
  | files n =>
    obtain ⟨td, q, tw, ts, t, ka, kb, kc, h1, h2, h3⟩ := x
    exact .inr ⟨q, td, W, tw, _, hs _ h1, hs _ h2, hw⟩
  | range x y z v =>
    obtain ⟨tr, p, q, kx, ky, kz, kv, h1, h2, h3⟩ := x
    exact .inl ⟨tr, _, hs _ h1⟩
theorem AllGood.part {vs : List Value} (x : PartIn news r W S D) (hs : ∀ p ∈ news, p ∈ nw) (hw : isStep W = true) (g : AllGood nw vs) : AllGood nw (.ref r :: vs) := .cons (x.good hs hw) g
theorem SH.part (k : Nat) (hD : D.Ok) (hW : PyData.strOk W = true) (hS : PyData.strOk S = true) : SH (k + 3) (D.part W S) := by
  cases D with
  | files n =>
    exact .tuple (.cons (.str _ (by decide +kernel)) (.cons (.tuple (.cons (.str _ hW) (.cons (.str _ hS) (.cons (.tuple (SHs.take (.cons (.str _ (by decide +kernel)) (.cons (.str _ (by decide +kernel)) (.cons (.str _ (by decide +kernel)) (.nil k)))) n)) (.nil _))))) (.nil _)))
  | range x y z v =>
    obtain ⟨hx, hy, hz, hv⟩ := hD
    exact .tuple (.cons (.str _ (by decide +kernel)) (.cons (.tuple (.cons (.str _ hx) (.cons (.str _ hy) (.nil _)))) (.cons (.tuple (.cons (.str _ hz) (.cons (.str _ hv) (.nil _)))) (.nil _))))
/-- the ends of a contract -/
theorem part_files {own : List (Addr × Obj)} {P : Addr → Prop} {td tw ts ka kb kc : Tok} {q t : Addr} {n : Nat} (N : News h₀ L h led) (hs : ∀ p ∈ news, p ∈ led) (m1 : (r, ({ cls := .type "tuple", data := .seq #[.str (Str.ofString "do") td, .ref q] } : Obj)) ∈ led)
    (m2 : (q, ({ cls := .type "tuple", data := .seq #[.str W tw, .str S ts, .ref t] } : Obj)) ∈ led)
    (m3 : (t, ({ cls := .type "tuple", data := .seq (List.take n [Value.str (Str.ofString "A") ka, .str (Str.ofString "B-2") kb, .str (Str.ofString "C") kc]).toArray } : Obj)) ∈ own)
    (hret : ∀ r o q o', News h₀ L h ((r, o) :: (q, o') :: news) → PartIn ((r, o) :: (q, o') :: own) r W S (.files n) → P r) : P r :=
  hret r _ q _ (fun p hp => by
    rcases List.mem_cons.mp hp with rfl | hp
    · exact N _ m1
    · rcases List.mem_cons.mp hp with rfl | hp
      · exact N _ m2
      · exact N _ (hs _ hp)) ⟨td, q, tw, ts, t, ka, kb, kc, .head _, .tail _ (.head _), .tail _ (.tail _ m3)⟩
theorem part_rng {own : List (Addr × Obj)} {P : Addr → Prop} {tr kx ky kz kv : Tok} {p q : Addr} {x y z v : Str} (N : News h₀ L h led) (hs : ∀ p ∈ news, p ∈ led) (m1 : (r, ({ cls := .type "tuple", data := .seq #[.str (Str.ofString "range") tr, .ref p, .ref q] } : Obj)) ∈ led)
    (m2 : (p, ({ cls := .type "tuple", data := .seq #[.str x kx, .str y ky] } : Obj)) ∈ own) (m3 : (q, ({ cls := .type "tuple", data := .seq #[.str z kz, .str v kv] } : Obj)) ∈ own)
    (hret : ∀ r o q o', News h₀ L h ((r, o) :: (q, o') :: news) → PartIn ((r, o) :: (q, o') :: own) r W S (.range x y z v) → P r) : P r :=
  hret r _ r _ (fun p hp => by
    rcases List.mem_cons.mp hp with rfl | hp
    · exact N _ m1
    · rcases List.mem_cons.mp hp with rfl | hp
      · exact N _ m1
      · exact N _ (hs _ hp)) ⟨tr, p, q, kx, ky, kz, kv, .head _, .tail _ (.tail _ m2), .tail _ (.tail _ m3)⟩
theorem side_files {P : Addr → Prop} {kf ka kb kc : Tok} {t : Addr} {n : Nat} (N : News h₀ L h led) (hs : ∀ p ∈ news, p ∈ led) (m1 : (a, ({ cls := .type "tuple", data := .seq #[.str (Str.ofString "files") kf, .ref t] } : Obj)) ∈ led)
    (m2 : (t, ({ cls := .type "tuple", data := .seq (List.take n [Value.str (Str.ofString "A") ka, .str (Str.ofString "B-2") kb, .str (Str.ofString "C") kc]).toArray } : Obj)) ∈ led)
    (hret : ∀ a o t o₂ u o₃ D, News h₀ L h ((a, o) :: (t, o₂) :: (u, o₃) :: news) → Side ((a, o) :: (t, o₂) :: (u, o₃) :: news) a D → D.Ok → P a) : P a :=
  hret a _ t _ t _ (.files n) (fun p hp => by
    rcases List.mem_cons.mp hp with rfl | hp
    · exact N _ m1
    · rcases List.mem_cons.mp hp with rfl | hp
      · exact N _ m2
      · rcases List.mem_cons.mp hp with rfl | hp
        · exact N _ m2
        · exact N _ (hs _ hp)) ⟨kf, t, ka, kb, kc, .head _, .tail _ (.head _)⟩ trivial
theorem side_range {P : Addr → Prop} {kf kx ky kz kv : Tok} {p q : Addr} {x y z v : Str} (N : News h₀ L h led) (hs : ∀ p ∈ news, p ∈ led) (m1 : (a, ({ cls := .type "tuple", data := .seq #[.str (Str.ofString "range") kf, .ref p, .ref q] } : Obj)) ∈ led)
    (m2 : (p, ({ cls := .type "tuple", data := .seq #[.str x kx, .str y ky] } : Obj)) ∈ led) (m3 : (q, ({ cls := .type "tuple", data := .seq #[.str z kz, .str v kv] } : Obj)) ∈ led)
    (ok : (SideD.range x y z v).Ok)
    (hret : ∀ a o t o₂ u o₃ D, News h₀ L h ((a, o) :: (t, o₂) :: (u, o₃) :: news) → Side ((a, o) :: (t, o₂) :: (u, o₃) :: news) a D → D.Ok → P a) : P a :=
  hret a _ p _ q _ (.range x y z v) (fun p hp => by
    rcases List.mem_cons.mp hp with rfl | hp
    · exact N _ m1
    · rcases List.mem_cons.mp hp with rfl | hp
      · exact N _ m2
      · rcases List.mem_cons.mp hp with rfl | hp
        · exact N _ m3
        · exact N _ (hs _ hp)) ⟨kf, p, q, kx, ky, kz, kv, .head _, .tail _ (.head _), .tail _ (.tail _ (.head _))⟩ ok
end
section
variable {prog : Program} {w : World} {A : Around} {E : Value → Shared → Prop} {s : Shared} {h₀ : Heap} {L a b : Addr} {m : Str → Option Value} {news : List (Addr × Obj)} {v u : Value} {vs us : List Value} {Q : Value → Shared → Prop}
theorem tup_add_nil (F : Fr h₀ L s.heap m) (N : News h₀ L s.heap news) (ha : (a, ({ cls := .type "tuple", data := .seq (v :: vs).toArray } : Obj)) ∈ news) (hb : (b, ({ cls := .type "tuple", data := .seq (List.toArray []) } : Obj)) ∈ news) (hz : vs.length ≤ 1000)
    (h : Q (.ref a) s) : wpAny (model prog w) A (binaryOp .Add (.ref a) (.ref b)) Q E s :=
  kde_addT1 F N (News.isTup N ha) (News.isTup N hb) (List.cons_ne_nil _ _) rfl (by simp; omega) h
theorem tup_add (F : Fr h₀ L s.heap m) (N : News h₀ L s.heap news) (ha : (a, ({ cls := .type "tuple", data := .seq (v :: vs).toArray } : Obj)) ∈ news) (hb : (b, ({ cls := .type "tuple", data := .seq (u :: us).toArray } : Obj)) ∈ news) (hz : vs.length + us.length ≤ 1000)
    (h : ∀ D h', Fr h₀ L h' m → News h₀ L h' ((D, ({ cls := .type "tuple", data := .seq (v :: (vs ++ u :: us)).toArray } : Obj)) :: news) → Q (.ref D) { s with heap := h' }) : wpAny (model prog w) A (binaryOp .Add (.ref a) (.ref b)) Q E s :=
  kde_addT F N (News.isTup N ha) (News.isTup N hb) (List.cons_ne_nil _ _) (List.cons_ne_nil _ _) (by simp; omega) (zs := v :: (vs ++ u :: us)) rfl fun D h' F' N' _ => h D h' F' N'
variable {led : List (Addr × Obj)} {S : Str} {h' : Heap} {l r q t p : Addr} {n : Nat} {td tg ts ka kb kc kx ky kz kv tr : Tok} {x y z w' : Str}
theorem goal_end_files {own : List (Addr × Obj)} {P : Addr → Prop} (N : News h₀ L h' ((l, W.listOf #[.ref r] 0) :: (r, ({ cls := .type "tuple", data := .seq #[.str (Str.ofString "do") td, .ref q] } : Obj)) :: (q, ({ cls := .type "tuple", data := .seq #[.str (Str.ofString "sort-give") tg, .str S ts, .ref t] } : Obj)) :: news))
    (h2 : (t, ({ cls := .type "tuple", data := .seq (List.take n [Value.str (Str.ofString "A") ka, .str (Str.ofString "B-2") kb, .str (Str.ofString "C") kc]).toArray } : Obj)) ∈ own)
    (hret : ∀ l r o q o', News h₀ L h' ((l, W.listOf #[.ref r] 0) :: (r, o) :: (q, o') :: news) → PartIn ((r, o) :: (q, o') :: own) r (Str.ofString "sort-give") S (.files n) → P l) : P l :=
  hret l r _ q _ N ⟨td, q, tg, ts, t, ka, kb, kc, .head _, .tail _ (.head _), .tail _ (.tail _ h2)⟩
theorem goal_end_range {own : List (Addr × Obj)} {P : Addr → Prop} (N : News h₀ L h' ((l, W.listOf #[.ref r] 0) :: (r, ({ cls := .type "tuple", data := .seq #[.str (Str.ofString "range") tr, .ref p, .ref q] } : Obj)) :: news))
    (h2 : (p, ({ cls := .type "tuple", data := .seq #[.str x kx, .str y ky] } : Obj)) ∈ own) (h3 : (q, ({ cls := .type "tuple", data := .seq #[.str z kz, .str w' kv] } : Obj)) ∈ own)
    (hret : ∀ l r o q o', News h₀ L h' ((l, W.listOf #[.ref r] 0) :: (r, o) :: (q, o') :: news) → PartIn ((r, o) :: (q, o') :: own) r (Str.ofString "sort-give") S (.range x y z w') → P l) : P l :=
  hret l r _ r _ (fun e he => by
    rcases List.mem_cons.mp he with rfl | he
    · exact N _ (.head _)
    · rcases List.mem_cons.mp he with rfl | he
      · exact N _ (.tail _ (.head _))
      · exact N _ (.tail _ he)) ⟨tr, p, q, kx, ky, kz, kv, .head _, .tail _ (.tail _ h2), .tail _ (.tail _ h3)⟩
theorem in_of {p : Addr × Obj} {own nw : List (Addr × Obj)} (h : ∀ p ∈ own, p ∈ nw) (hp : p ∈ own) : p ∈ nw := h p hp
theorem sub3 {e e' : Addr × Obj} {own nw : List (Addr × Obj)} (h1 : e ∈ nw) (h2 : e' ∈ nw) (h3 : ∀ p ∈ own, p ∈ nw) : ∀ p ∈ e :: e' :: own, p ∈ nw := fun p hp => by
  rcases List.mem_cons.mp hp with rfl | hp
  · exact h1
  · rcases List.mem_cons.mp hp with rfl | hp
    · exact h2
    · exact h3 _ hp
end
end Mine
end
section
open PySem.Calls PyProof.V PySem.Spec
namespace Mine
local macro_rules | `(tactic| walk_at "binaryOp Add ref ref") => `(tactic| (k_here; k_dflt (first | ((with_reducible refine' Mine.tup_add_nil ?hF ?hN ?ha ?hb ?hz ?_); (case hF => k_asm); (case hN => k_asm); (case hb => (first | (with_reducible assumption) | (with_reducible (apply List.mem_cons_of_mem; assumption)) | (with_reducible ((repeat (first | exact List.mem_cons_self | (refine List.mem_cons_of_mem _ ?_) | fail)); done)))); (case ha => (first | (with_reducible assumption) | (with_reducible (apply List.mem_cons_of_mem; assumption)) | (with_reducible ((repeat (first | exact List.mem_cons_self | (refine List.mem_cons_of_mem _ ?_) | fail)); done)))); (case hz => exact Nat.le_of_ble_eq_true rfl)) | ((with_reducible refine' Mine.tup_add ?hF ?hN ?ha ?hb ?hz ?_); (case hF => k_asm); (case hN => k_asm); (case hb => (first | (with_reducible assumption) | (with_reducible (apply List.mem_cons_of_mem; assumption)) | (with_reducible ((repeat (first | exact List.mem_cons_self | (refine List.mem_cons_of_mem _ ?_) | fail)); done)))); (case ha => (first | (with_reducible assumption) | (with_reducible (apply List.mem_cons_of_mem; assumption)) | (with_reducible ((repeat (first | exact List.mem_cons_self | (refine List.mem_cons_of_mem _ ?_) | fail)); done)))); (case hz => exact Nat.le_of_ble_eq_true rfl); intro D' h' F' N'; (try simp only [List.cons_append, List.nil_append] at N'); (try k_sweep)) | fail)))
set_option maxHeartbeats 8000000 in
theorem side_call {w : World} {mean : ExcName → Option Value} {mg mb : Str → Option Value}
    {dp un : Nat} {gd : Option (List Code)} {cn : Str} {cs : Scope} {a₁ : Addr} {ccd : Value} {cl : List (Str × Addr)} {outer : List Env} {A₀ : Around} {base h₀ : Heap} {L : Addr} {m : Str → Option Value} {news : List (Addr × Obj)} {s : Shared} {Q E : Value → Shared → Prop} {R : Int} {tr : Tok}
    (B : Below A₀ base outer h₀) (F : Fr h₀ L s.heap m) (X : (Mine.hd.heap_39 w.params).In h₀) (N : News h₀ L s.heap news) (T : Top Mine.hd.view_39 (looseW Mine.hd.view_39 []) mean mg mb h₀) (hk : cs.kind = .function) (hd : dp + 1 < recursionLimit)
    (hret : ∀ a o t o₂ u o₃ D h' tk', Fr h₀ L h' m → News h₀ L h' ((a, o) :: (t, o₂) :: (u, o₃) :: news) → Side ((a, o) :: (t, o₂) :: (u, o₃) :: news) a D → D.Ok → Q (.ref a) { s with heap := h', toks := tk' }) :
    wpAny (model PySem.Challenge.rw_pc0118_01.row.prog w) (ktrTop dp un gd cn cs L a₁ ccd cl outer) (call (.ref 42) [.int R tr]) Q E s := by
  revert X; k_fill; intro X
  refine wpAny_call ?_
  k_dflt cell_enter
  w_top off
  k_steps
  · refine' Mine.side_files (news := news) (P := fun a => Q (.ref a) _) ?hN ?hs ?m1 ?m2 ?hr
    case hN => k_asm
    case hs => (intro p9 hp9; (repeat (first | exact hp9 | (refine Mine.in_of ?_ hp9; assumption) | apply List.mem_cons_of_mem | fail)); done)
    case m1 => (with_reducible ((repeat (first | exact List.mem_cons_self | (refine List.mem_cons_of_mem _ ?_) | fail)); done))
    case m2 => (with_reducible ((repeat (first | exact List.mem_cons_self | (refine List.mem_cons_of_mem _ ?_) | fail)); done))
    case hr => intro a o t o₂ u o₃ D N9 S9 O9; exact hret _ _ _ _ _ _ _ _ _ (by k_asm) N9 S9 O9
  · refine' Mine.side_range (news := news) (P := fun a => Q (.ref a) _) ?hN2 ?hs2 ?m12 ?m22 ?m32 ?ok ?hr2
    case hN2 => k_asm
    case hs2 => (intro p9 hp9; (repeat (first | exact hp9 | (refine Mine.in_of ?_ hp9; assumption) | apply List.mem_cons_of_mem | fail)); done)
    case m12 => (with_reducible ((repeat (first | exact List.mem_cons_self | (refine List.mem_cons_of_mem _ ?_) | fail)); done))
    case m22 => (with_reducible ((repeat (first | exact List.mem_cons_self | (refine List.mem_cons_of_mem _ ?_) | fail)); done))
    case m32 => (with_reducible ((repeat (first | exact List.mem_cons_self | (refine List.mem_cons_of_mem _ ?_) | fail)); done))
    case ok => exact ⟨by assumption, by assumption, by assumption, by assumption⟩
    case hr2 => intro a o t o₂ u o₃ D N9 S9 O9; exact hret _ _ _ _ _ _ _ _ _ (by k_asm) N9 S9 O9
set_option maxHeartbeats 8000000 in
theorem taken_call {w : World} {mean : ExcName → Option Value} {mg mb : Str → Option Value}
    {dp un : Nat} {gd : Option (List Code)} {cn : Str} {cs : Scope} {a₁ : Addr} {ccd : Value} {cl : List (Str × Addr)} {outer : List Env} {A₀ : Around} {base h₀ : Heap} {L : Addr} {m : Str → Option Value} {news : List (Addr × Obj)} {s : Shared} {Q E : Value → Shared → Prop} {W S : Str} {tw ts : Tok} {b e : Addr} {own : List (Addr × Obj)} {D : SideD}
    (B : Below A₀ base outer h₀) (F : Fr h₀ L s.heap m) (X : (Mine.hd.heap_39 w.params).In h₀) (N : News h₀ L s.heap news) (T : Top Mine.hd.view_39 (looseW Mine.hd.view_39 []) mean mg mb h₀) (hk : cs.kind = .function) (hsd : Side own b D) (hso : ∀ p ∈ own, p ∈ news) (he : (e, ({ cls := .type "tuple", data := .seq (List.toArray []) } : Obj)) ∈ news) (hd : dp + 1 < recursionLimit)
    (hret : ∀ r o q o' h' tk', Fr h₀ L h' m → News h₀ L h' ((r, o) :: (q, o') :: news) → PartIn ((r, o) :: (q, o') :: own) r W S D → Q (.ref r) { s with heap := h', toks := tk' }) :
    wpAny (model PySem.Challenge.rw_pc0118_01.row.prog w) (ktrTop dp un gd cn cs L a₁ ccd cl outer) (call (.ref 49) [.ref b, .str W tw, .str S ts, .ref e]) Q E s := by
  cases D with
  | files n =>
    obtain ⟨kf, t, ka, kb, kc, h1, h2⟩ := hsd
    have h1 := hso _ h1
    revert X; k_fill; intro X
    refine wpAny_call ?_
    k_dflt cell_enter
    w_top off
    k_steps
    refine' Mine.part_files (news := news) (P := fun r => Q (.ref r) _) ?hN ?hs ?m1 ?m2 ?m3 ?hr
    case hN => k_asm
    case hs => (intro p9 hp9; (repeat (first | exact hp9 | (refine Mine.in_of ?_ hp9; assumption) | apply List.mem_cons_of_mem | fail)); done)
    case m1 => (first | (with_reducible assumption) | (with_reducible (apply List.mem_cons_of_mem; assumption)) | (with_reducible ((repeat (first | exact List.mem_cons_self | (refine List.mem_cons_of_mem _ ?_) | fail)); done)))
    case m2 => (first | (with_reducible assumption) | (with_reducible (apply List.mem_cons_of_mem; assumption)) | (with_reducible ((repeat (first | exact List.mem_cons_self | (refine List.mem_cons_of_mem _ ?_) | fail)); done)))
    case m3 => assumption
    case hr => intro r o q o' N9 P9; exact hret _ _ _ _ _ _ (by k_asm) N9 P9
  | range x y z v =>
    obtain ⟨kf, p, q, kx, ky, kz, kv, h1, h2, h3⟩ := hsd
    have h1 := hso _ h1
    revert X; k_fill; intro X
    refine wpAny_call ?_
    k_dflt cell_enter
    w_top off
    k_steps
    refine' Mine.part_rng (news := news) (P := fun r => Q (.ref r) _) ?hNr ?hsr ?m1r ?m2r ?m3r ?hrr
    case hNr => k_asm
    case hsr => (intro p9 hp9; (repeat (first | exact hp9 | (refine Mine.in_of ?_ hp9; assumption) | apply List.mem_cons_of_mem | fail)); done)
    case m1r => (first | (with_reducible assumption) | (with_reducible (apply List.mem_cons_of_mem; assumption)) | (with_reducible ((repeat (first | exact List.mem_cons_self | (refine List.mem_cons_of_mem _ ?_) | fail)); done)))
    case m2r => assumption
    case m3r => assumption
    case hrr => intro r o q o' N9 P9; exact hret _ _ _ _ _ _ (by k_asm) N9 P9
set_option maxHeartbeats 8000000 in
theorem goal_call {w : World} {mean : ExcName → Option Value} {mg mb : Str → Option Value}
    {dp un : Nat} {gd : Option (List Code)} {cn : Str} {cs : Scope} {a₁ : Addr} {ccd : Value} {cl : List (Str × Addr)} {outer : List Env} {A₀ : Around} {base h₀ : Heap} {L : Addr} {m : Str → Option Value} {news : List (Addr × Obj)} {s : Shared} {Q E : Value → Shared → Prop} {S : Str} {ts : Tok} {b : Addr} {own : List (Addr × Obj)} {D : SideD}
    (B : Below A₀ base outer h₀) (F : Fr h₀ L s.heap m) (X : (Mine.hd.heap_39 w.params).In h₀) (N : News h₀ L s.heap news) (T : Top Mine.hd.view_39 (looseW Mine.hd.view_39 []) mean mg mb h₀) (hk : cs.kind = .function) (hsd : Side own b D) (hso : ∀ p ∈ own, p ∈ news) (hd : dp + 1 < recursionLimit)
    (hret : ∀ l r o q o' h' tk', Fr h₀ L h' m → News h₀ L h' ((l, W.listOf #[.ref r] 0) :: (r, o) :: (q, o') :: news) → PartIn ((r, o) :: (q, o') :: own) r (Str.ofString "sort-give") S D → Q (.ref l) { s with heap := h', toks := tk' }) :
    wpAny (model PySem.Challenge.rw_pc0118_01.row.prog w) (ktrTop dp un gd cn cs L a₁ ccd cl outer) (call (.ref 21) [.str S ts, .ref b]) Q E s := by
  cases D with
  | files n =>
    obtain ⟨kf, t, ka, kb, kc, h1, h2⟩ := hsd
    have h1 := hso _ h1
    revert X; k_fill; intro X
    refine wpAny_call ?_
    k_dflt cell_enter
    w_top off
    k_steps
    refine' Mine.goal_end_files (P := fun l => Q (.ref l) _) ?hN h2 ?hr
    case hN => k_asm
    case hr => intro l r o q o' N9 P9; exact hret _ _ _ _ _ _ _ (by k_asm) N9 P9
  | range x y z v =>
    obtain ⟨kf, p, q, kx, ky, kz, kv, h1, h2, h3⟩ := hsd
    have h1 := hso _ h1
    revert X; k_fill; intro X
    refine wpAny_call ?_
    k_dflt cell_enter
    w_top off
    k_steps
    refine' Mine.goal_end_range (P := fun l => Q (.ref l) _) ?hNr h2 h3 ?hrr
    case hNr => k_asm
    case hrr => intro l r o q o' N9 P9; exact hret _ _ _ _ _ _ _ (by k_asm) N9 P9
end Mine
end
section
open PySem.Calls PyProof.V PySem.Spec
namespace Mine
local macro_rules | `(tactic| walk_at "pad") => `(tactic| fail)
local macro_rules | `(tactic| walk_at "call ref") => `(tactic| (k_here; (with_reducible show wpAny _ _ (call (Value.ref 21) [_, _]) _ _ _); k_dflt (refine' Mine.goal_call ?hB ?hF ?hX ?hN ?hT ?hk ?hsd ?hso ?hd ?_; (case hB => k_asm); (case hF => k_asm); (case hX => k_asm); (case hN => k_asm); (case hT => k_asm); (case hk => exact rfl); (case hsd => assumption); (case hso => (with_reducible (intro p9 hp9; (repeat (first | exact hp9 | (refine Mine.in_of ?_ hp9; assumption) | apply List.mem_cons_of_mem | fail)); done))); (case hd => ktr_room)); intro l9 r9 o9 q9 o8 h9 tk9 F9 N9 P9; (try dsimp only); (try k_sweep); (try k_fold)))
section
variable {h₀ h' : Heap} {L l p1 b1 p3 q3 p5 q5 k nm r₁ u₁ r₂ u₂ : Addr} {m : Str → Option Value} {news own nw : List (Addr × Obj)} {S : Str} {ts t1 t2 t3 t4 t5 t6 : Tok} {o₁ v₁ o₂ v₂ : Obj} {D₁ D₂ : SideD}
theorem all_cons {e : Addr × Obj} {l nw : List (Addr × Obj)} (h : e ∈ nw) (r : ∀ p ∈ l, p ∈ nw) : ∀ p ∈ e :: l, p ∈ nw := fun p hp => by
  rcases List.mem_cons.mp hp with rfl | hp
  · exact h
  · exact r _ hp
theorem part_at_files {td tw ka kb kc : Tok} {q t r : Addr} {n : Nat} {W : Str}
    (m3 : (t, ({ cls := .type "tuple", data := .seq (List.take n [Value.str (Str.ofString "A") ka, .str (Str.ofString "B-2") kb, .str (Str.ofString "C") kc]).toArray } : Obj)) ∈ own) :
    PartIn ((r, ({ cls := .type "tuple", data := .seq #[.str (Str.ofString "do") td, .ref q] } : Obj)) :: (q, ({ cls := .type "tuple", data := .seq #[.str W tw, .str S ts, .ref t] } : Obj)) :: own) r W S (.files n) :=
  ⟨td, q, tw, ts, t, ka, kb, kc, .head _, .tail _ (.head _), .tail _ (.tail _ m3)⟩
theorem part_at_range {tr kx ky kz kv : Tok} {p q r : Addr} {x y z v W : Str} (m2 : (p, ({ cls := .type "tuple", data := .seq #[.str x kx, .str y ky] } : Obj)) ∈ own) (m3 : (q, ({ cls := .type "tuple", data := .seq #[.str z kz, .str v kv] } : Obj)) ∈ own) :
    PartIn ((r, ({ cls := .type "tuple", data := .seq #[.str (Str.ofString "range") tr, .ref p, .ref q] } : Obj)) :: (r, ({ cls := .type "tuple", data := .seq #[.str (Str.ofString "range") tr, .ref p, .ref q] } : Obj)) :: own) r W S (.range x y z v) :=
  ⟨tr, p, q, kx, ky, kz, kv, .head _, .tail _ (.tail _ m2), .tail _ (.tail _ m3)⟩
end
set_option maxHeartbeats 8000000 in
theorem sort_call {w : World} {mean : ExcName → Option Value} {mg mb : Str → Option Value}
    {dp un : Nat} {gd : Option (List Code)} {cn : Str} {cs : Scope} {a₁ : Addr} {ccd : Value} {cl : List (Str × Addr)} {outer : List Env} {A₀ : Around} {base h₀ : Heap} {L : Addr} {m : Str → Option Value} {news : List (Addr × Obj)} {s : Shared} {Q E : Value → Shared → Prop} {S : Str} {ts t₀ : Tok} {st k nm a g : Addr} {bb : Bool} {own : List (Addr × Obj)} {D₁ D₂ : SideD}
    (B : Below A₀ base outer h₀) (F : Fr h₀ L s.heap m) (X : (Mine.hd.heap_39 w.params).In h₀) (N : News h₀ L s.heap news) (T : Top Mine.hd.view_39 (looseW Mine.hd.view_39 []) mean mg mb h₀) (hk : cs.kind = .function) (hst : (st, ({ cls := .type "tuple", data := .seq #[.str (Str.ofString "sort") t₀, .str S ts, .ref k, .bool bb, .ref a, .ref g] } : Obj)) ∈ news) (hs1 : Side own a D₁) (hs2 : Side own g D₂) (hso : ∀ p ∈ own, p ∈ news) (hd : dp + 2 < recursionLimit)
    (hret : ∀ (l r₁ u₁ r₂ u₂ p1 b1 p3 q3 p5 q5 : Addr) (o₁ v₁ o₂ v₂ : Obj) (t1 t2 t3 t4 t5 t6 : Tok) (h' : Heap) (tk' : Nat), Fr h₀ L h' m → News h₀ L h' ((l, W.listOf #[.ref p1, .ref r₁, .ref p3, .ref r₂, .ref p5] 0) :: (r₁, o₁) :: (u₁, v₁) :: (r₂, o₂) :: (u₂, v₂) :: (p1, ({ cls := .type "tuple", data := .seq #[.str (Str.ofString "do") t1, .ref b1] } : Obj)) :: (b1, ({ cls := .type "tuple", data := .seq #[.str (Str.ofString "sort-begin") t2, .str S ts] } : Obj)) :: (p3, ({ cls := .type "tuple", data := .seq #[.str (Str.ofString "do") t3, .ref q3] } : Obj)) :: (q3, ({ cls := .type "tuple", data := .seq #[.str (Str.ofString "sort-order") t4, .str S ts, .ref k] } : Obj)) :: (p5, ({ cls := .type "tuple", data := .seq #[.str (Str.ofString "do") t5, .ref q5] } : Obj)) :: (q5, ({ cls := .type "tuple", data := .seq #[.str (Str.ofString "sort-end") t6, .str S ts] } : Obj)) :: news) → PartIn ((r₁, o₁) :: (u₁, v₁) :: own) r₁ (Str.ofString "sort-take") S D₁ → PartIn ((r₂, o₂) :: (u₂, v₂) :: own) r₂ (Str.ofString "sort-give") S D₂ → Q (.ref l) { s with heap := h', toks := tk' }) :
    wpAny (model PySem.Challenge.rw_pc0118_01.row.prog w) (ktrTop dp un gd cn cs L a₁ ccd cl outer) (call (.ref 28) [.ref st]) Q E s := by
  cases D₁ with
  | files n =>
    obtain ⟨kf, t, ka, kb, kc, h1, h2⟩ := hs1
    have h1 := hso _ h1
    revert X; k_fill; intro X
    refine wpAny_call ?_
    k_dflt cell_enter
    w_top off
    k_steps
    refine' hret _ _ _ _ _ _ _ _ _ _ _ _ _ _ _ _ _ _ _ _ _ _ _ ?hFa ?hNa ?hP1a ?hP2a
    case hFa => k_asm
    case hP2a => assumption
    case' hP1a => refine' part_at_files h2
    case hNa =>
      refine' Mine.news_sub ?hN1a ?hS1a
      case hN1a => k_asm
      case hS1a => with_reducible ((repeat (first | (refine' Mine.all_cons ?_ ?_; focus ((repeat (first | exact List.mem_cons_self | (refine List.mem_cons_of_mem _ ?_) | fail)); done)) | fail)); (intro p9 hp9; (repeat (first | exact hp9 | (refine Mine.in_of ?_ hp9; assumption) | apply List.mem_cons_of_mem | fail)); done))
  | range x y z v =>
    obtain ⟨kf, p, q, kx, ky, kz, kv, h1, h2, h3⟩ := hs1
    have h1 := hso _ h1
    revert X; k_fill; intro X
    refine wpAny_call ?_
    k_dflt cell_enter
    w_top off
    k_steps
    refine' hret _ _ _ _ _ _ _ _ _ _ _ _ _ _ _ _ _ _ _ _ _ _ _ ?hFb ?hNb ?hP1b ?hP2b
    case hFb => k_asm
    case hP2b => assumption
    case' hP1b => refine' part_at_range h2 h3
    case hNb =>
      refine' Mine.news_sub ?hN1b ?hS1b
      case hN1b => k_asm
      case hS1b => with_reducible ((repeat (first | (refine' Mine.all_cons ?_ ?_; focus ((repeat (first | exact List.mem_cons_self | (refine List.mem_cons_of_mem _ ?_) | fail)); done)) | fail)); (intro p9 hp9; (repeat (first | exact hp9 | (refine Mine.in_of ?_ hp9; assumption) | apply List.mem_cons_of_mem | fail)); done))
set_option maxHeartbeats 8000000 in
theorem merge_call {w : World} {mean : ExcName → Option Value} {mg mb : Str → Option Value}
    {dp un : Nat} {gd : Option (List Code)} {cn : Str} {cs : Scope} {a₁ : Addr} {ccd : Value} {cl : List (Str × Addr)} {outer : List Env} {A₀ : Around} {base h₀ : Heap} {L : Addr} {m : Str → Option Value} {news : List (Addr × Obj)} {s : Shared} {Q E : Value → Shared → Prop} {S : Str} {ts t₀ : Tok} {st k nm a g : Addr} {bb : Bool} {own : List (Addr × Obj)} {D₁ D₂ : SideD}
    (B : Below A₀ base outer h₀) (F : Fr h₀ L s.heap m) (X : (Mine.hd.heap_39 w.params).In h₀) (N : News h₀ L s.heap news) (T : Top Mine.hd.view_39 (looseW Mine.hd.view_39 []) mean mg mb h₀) (hk : cs.kind = .function) (hst : (st, ({ cls := .type "tuple", data := .seq #[.str (Str.ofString "merge") t₀, .str S ts, .ref k, .ref nm, .ref g] } : Obj)) ∈ news) (hs2 : Side own g D₂) (hso : ∀ p ∈ own, p ∈ news) (hd : dp + 2 < recursionLimit)
    (hret : ∀ (l r₂ u₂ p1 b1 p3 q3 p5 q5 : Addr) (o₂ v₂ : Obj) (t1 t2 t3 t4 t5 t6 : Tok) (h' : Heap) (tk' : Nat), Fr h₀ L h' m → News h₀ L h' ((l, W.listOf #[.ref p1, .ref p3, .ref r₂, .ref p5] 0) :: (r₂, o₂) :: (u₂, v₂) :: (p1, ({ cls := .type "tuple", data := .seq #[.str (Str.ofString "do") t1, .ref b1] } : Obj)) :: (b1, ({ cls := .type "tuple", data := .seq #[.str (Str.ofString "sort-begin") t2, .str S ts] } : Obj)) :: (p3, ({ cls := .type "tuple", data := .seq #[.str (Str.ofString "do") t3, .ref q3] } : Obj)) :: (q3, ({ cls := .type "tuple", data := .seq #[.str (Str.ofString "merge-take") t4, .str S ts, .ref k, .ref nm] } : Obj)) :: (p5, ({ cls := .type "tuple", data := .seq #[.str (Str.ofString "do") t5, .ref q5] } : Obj)) :: (q5, ({ cls := .type "tuple", data := .seq #[.str (Str.ofString "sort-end") t6, .str S ts] } : Obj)) :: news) → PartIn ((r₂, o₂) :: (u₂, v₂) :: own) r₂ (Str.ofString "sort-give") S D₂ → Q (.ref l) { s with heap := h', toks := tk' }) :
    wpAny (model PySem.Challenge.rw_pc0118_01.row.prog w) (ktrTop dp un gd cn cs L a₁ ccd cl outer) (call (.ref 28) [.ref st]) Q E s := by
  revert X; k_fill; intro X
  refine wpAny_call ?_
  k_dflt cell_enter
  w_top off
  k_steps
  refine' hret _ _ _ _ _ _ _ _ _ _ _ _ _ _ _ _ _ _ _ ?hFc ?hNc ?hP2c
  case hFc => k_asm
  case hP2c => assumption
  case hNc =>
    refine' Mine.news_sub ?hN1c ?hS1c
    case hN1c => k_asm
    case hS1c => with_reducible ((repeat (first | (refine' Mine.all_cons ?_ ?_; focus ((repeat (first | exact List.mem_cons_self | (refine List.mem_cons_of_mem _ ?_) | fail)); done)) | fail)); (intro p9 hp9; (repeat (first | exact hp9 | (refine Mine.in_of ?_ hp9; assumption) | apply List.mem_cons_of_mem | fail)); done))
end Mine
end
section
open PySem.Calls PyProof.V PySem.Spec
namespace Mine
local macro_rules | `(tactic| walk_at "compareOp NotEq ref ref") => `(tactic| (k_here; (with_reducible show wpAny _ _ (compareOp CmpOp.NotEq (Value.ref _) (Value.ref _)) _ _ _); k_dflt (refine' Mine.ne_same ?ra ?rb ?sh ?hu ?_; (case ra => (with_reducible repeat' (first | exact Reads.str _ _ | exact Reads.bool _ | exact Mine.rd_nil | refine' Mine.rd_cons0 ?_ ?_ | refine' Mine.rd_take _ ?_ | (refine' Mine.PartIn.reads ?hN ?hs ?hp; (case hp => assumption); (case hN => assumption); (case hs => ((refine' Mine.sub3 ?_ ?_ ?_); (focus ((repeat (first | exact List.mem_cons_self | (refine List.mem_cons_of_mem _ ?_) | fail)); done)); (focus ((repeat (first | exact List.mem_cons_self | (refine List.mem_cons_of_mem _ ?_) | fail)); done)); (focus (intro p9 hp9; (repeat (first | exact hp9 | (refine Mine.in_of ?_ hp9; assumption) | apply List.mem_cons_of_mem | fail)); done))))) | (refine' Mine.rd_list ?hN ?hm ?_; (case hN => assumption); (case hm => ((repeat (first | exact List.mem_cons_self | (refine List.mem_cons_of_mem _ ?_) | fail)); done))) | (refine' Mine.rd_tup ?hN ?hm ?_; (case hN => assumption); (case hm => ((repeat (first | exact List.mem_cons_self | (refine List.mem_cons_of_mem _ ?_) | fail)); done))) | fail))); (case rb => (with_reducible repeat' (first | exact Reads.str _ _ | exact Reads.bool _ | exact Mine.rd_nil | refine' Mine.rd_cons0 ?_ ?_ | refine' Mine.rd_take _ ?_ | (refine' Mine.PartIn.reads ?hN ?hs ?hp; (case hp => assumption); (case hN => assumption); (case hs => ((refine' Mine.sub3 ?_ ?_ ?_); (focus ((repeat (first | exact List.mem_cons_self | (refine List.mem_cons_of_mem _ ?_) | fail)); done)); (focus ((repeat (first | exact List.mem_cons_self | (refine List.mem_cons_of_mem _ ?_) | fail)); done)); (focus (intro p9 hp9; (repeat (first | exact hp9 | (refine Mine.in_of ?_ hp9; assumption) | apply List.mem_cons_of_mem | fail)); done))))) | (refine' Mine.rd_list ?hN ?hm ?_; (case hN => assumption); (case hm => ((repeat (first | exact List.mem_cons_self | (refine List.mem_cons_of_mem _ ?_) | fail)); done))) | (refine' Mine.rd_tup ?hN ?hm ?_; (case hN => assumption); (case hm => ((repeat (first | exact List.mem_cons_self | (refine List.mem_cons_of_mem _ ?_) | fail)); done))) | fail))); (case sh => (repeat' (first | (with_reducible exact Mine.SH.str _ (by first | assumption | decide +kernel)) | (with_reducible exact Mine.SH.bool _) | (with_reducible (refine' Mine.SH.part _ ?hD ?hW ?hS; (case hD => assumption); (case hW => decide +kernel); (case hS => assumption))) | (with_reducible refine Mine.SH.tuple ?_) | (with_reducible refine Mine.SH.list ?_) | (with_reducible exact Mine.SHs.nil _) | (with_reducible refine Mine.SHs.cons ?_ ?_) | (with_reducible refine Mine.SHs.take ?_ _)))); (case hu => ke_room))))
local macro_rules | `(tactic| walk_at "call ref") => `(tactic| (k_here; (with_reducible show wpAny _ _ (call (Value.ref 49) [_, _, _, _]) _ _ _); k_dflt (refine' Mine.taken_call ?hB ?hF ?hX ?hN ?hT ?hk ?hsd ?hso ?he ?hd ?_; (case hB => k_asm); (case hF => k_asm); (case hX => k_asm); (case hN => k_asm); (case hT => k_asm); (case hk => exact rfl); (case hsd => assumption); (case hso => (with_reducible (intro p9 hp9; (repeat (first | exact hp9 | (refine Mine.in_of ?_ hp9; assumption) | apply List.mem_cons_of_mem | fail)); done))); (case he => (with_reducible ((repeat (first | exact List.mem_cons_self | (refine List.mem_cons_of_mem _ ?_) | fail)); done))); (case hd => ktr_room)); intro r9 o9 q9 o8 h9 tk9 F9 N9 P9; (try dsimp only); (try k_sweep); (try k_fold)))
local macro_rules | `(tactic| walk_at "call ref") => `(tactic| (k_here; (with_reducible show wpAny _ _ (call (Value.ref 21) [_, _]) _ _ _); k_dflt (refine' Mine.goal_call ?hB ?hF ?hX ?hN ?hT ?hk ?hsd ?hso ?hd ?_; (case hB => k_asm); (case hF => k_asm); (case hX => k_asm); (case hN => k_asm); (case hT => k_asm); (case hk => exact rfl); (case hsd => assumption); (case hso => (with_reducible (intro p9 hp9; (repeat (first | exact hp9 | (refine Mine.in_of ?_ hp9; assumption) | apply List.mem_cons_of_mem | fail)); done))); (case hd => ktr_room)); intro l9 r9 o9 q9 o8 h9 tk9 F9 N9 P9; (try dsimp only); (try k_sweep); (try k_fold)))
local macro_rules | `(tactic| walk_at "call ref") => `(tactic| (k_here; (with_reducible show wpAny _ _ (call (Value.ref 28) [_]) _ _ _); k_dflt (refine' Mine.merge_call (a := 0) (bb := true) (D₁ := .files 0) ?hB ?hF ?hX ?hN ?hT ?hk ?hst ?hs2 ?hso ?hd ?_; (case hB => k_asm); (case hF => k_asm); (case hX => k_asm); (case hN => k_asm); (case hT => k_asm); (case hk => exact rfl); (case hst => (with_reducible ((repeat (first | exact List.mem_cons_self | (refine List.mem_cons_of_mem _ ?_) | fail)); done))); (case hs2 => assumption); (case hso => (with_reducible (intro p9 hp9; (repeat (first | exact hp9 | (refine Mine.in_of ?_ hp9; assumption) | apply List.mem_cons_of_mem | fail)); done))); (case hd => ktr_room)); intro l9 r2 u2 p1 b1 p3 q3 p5 q5 o2 v2 t1 t2 t3 t4 t5 t6 h9 tk9 F9 N9 P9; (try dsimp only); (try k_sweep); (try k_fold)))
local macro_rules | `(tactic| walk_at "call ref") => `(tactic| (k_here; (with_reducible show wpAny _ _ (call (Value.ref 28) [_]) _ _ _); k_dflt (refine' Mine.sort_call (nm := 0) ?hB ?hF ?hX ?hN ?hT ?hk ?hst ?hs1 ?hs2 ?hso ?hd ?_; (case hB => k_asm); (case hF => k_asm); (case hX => k_asm); (case hN => k_asm); (case hT => k_asm); (case hk => exact rfl); (case hst => (with_reducible ((repeat (first | exact List.mem_cons_self | (refine List.mem_cons_of_mem _ ?_) | fail)); done))); (case hs1 => assumption); (case hs2 => assumption); (case hso => (with_reducible (intro p9 hp9; (repeat (first | exact hp9 | (refine Mine.in_of ?_ hp9; assumption) | apply List.mem_cons_of_mem | fail)); done))); (case hd => ktr_room)); intro l9 r1 u1 r2 u2 p1 b1 p3 q3 p5 q5 o1 v1 o2 v2 t1 t2 t3 t4 t5 t6 h9 tk9 F9 N9 P9 P8; (try dsimp only); (try k_sweep); (try k_fold)))
local macro_rules | `(tactic| walk_at "execs cons For cons") => `(tactic| (k_here; k_dflt (refine' Mine.loops ?hB ?hF ?hX ?hN ?hT ?hf ?h1 ?h2 ?hl1 ?hl2 ?hz ?good ?_; (case hF => k_asm); (case hN => k_asm); (case hB => k_asm); (case hX => k_asm); (case hT => k_asm); (case hf => exact rfl); (case h1 => exact rfl); (case h2 => exact rfl); (case hl1 => (with_reducible ((repeat (first | exact List.mem_cons_self | (refine List.mem_cons_of_mem _ ?_) | fail)); done))); (case hl2 => (with_reducible ((repeat (first | exact List.mem_cons_self | (refine List.mem_cons_of_mem _ ?_) | fail)); done))); (case hz => exact Nat.le_of_ble_eq_true rfl); (case good => (simp only [List.cons_append, List.nil_append]; (with_reducible (repeat (first | exact Mine.AllGood.nil | (refine' Mine.AllGood.part ?hp ?hs ?hx ?_; (case hp => assumption); (case hs => ((refine' Mine.sub3 ?_ ?_ ?_); (focus ((repeat (first | exact List.mem_cons_self | (refine List.mem_cons_of_mem _ ?_) | fail)); done)); (focus ((repeat (first | exact List.mem_cons_self | (refine List.mem_cons_of_mem _ ?_) | fail)); done)); (focus (intro p9 hp9; (repeat (first | exact hp9 | (refine Mine.in_of ?_ hp9; assumption) | apply List.mem_cons_of_mem | fail)); done)))); (case hx => decide +kernel)) | (refine' Mine.AllGood.step ?hm ?hq ?hx ?_; (case hm => ((repeat (first | exact List.mem_cons_self | (refine List.mem_cons_of_mem _ ?_) | fail)); done)); (case hq => ((repeat (first | exact List.mem_cons_self | (refine List.mem_cons_of_mem _ ?_) | fail)); done)); (case hx => decide +kernel)) | fail)))))); intro h9 m9 tk9 F9 N9 hm9; (try dsimp only); (try k_sweep)))
set_option maxHeartbeats 8000000 in
theorem law_tail {w : World} {mean : ExcName → Option Value} {mg mb : Str → Option Value}
    {fa : Addr} {cd : Value} {h₀ : Heap} {L : Addr} {m : Str → Option Value} {own : List (Addr × Obj)} {s : Shared} {R : Int} {u : Tok} {Q : Flow → Shared → Prop} {a b : Addr} {D₁ D₂ : SideD}
    (B : Below callerA h₀ [] h₀) (F : Fr h₀ L s.heap (fun y => if y = Str.ofString "source" then some (.ref a) else if y = Str.ofString "goal" then some (.ref b) else if y = Str.ofString "rest" then some (.int R u) else m y)) (X : (Mine.hd.heap_39 w.params).In h₀) (N : News h₀ L s.heap own) (T : Top Mine.hd.view_39 (looseW Mine.hd.view_39 []) mean mg mb h₀)
    (hs1 : Side own a D₁) (hs2 : Side own b D₂) (ok1 : D₁.Ok) (ok2 : D₂.Ok)
    (hQ : ∀ h' m' tk', Fr h₀ L h' m' → News h₀ L h' own → (∀ z, [Str.ofString "rest", Str.ofString "source", Str.ofString "goal", Str.ofString "file", Str.ofString "keys", Str.ofString "outward", Str.ofString "begin", Str.ofString "end", Str.ofString "due", Str.ofString "found", Str.ofString "names", Str.ofString "merge", Str.ofString "part", Str.ofString "word"].contains z = false → m' z = m z) → Q .next { s with heap := h', toks := tk' }) :
    wpAny (model PySem.Challenge.rw_pc0118_01.row.prog w) (callerA.deeper (envOf (Str.ofString "law") lawScope L fa cd)) (execs (tail 2) (envOf (Str.ofString "law") lawScope L fa cd)) Q (fun _ _ => False) s := by
  revert X; k_fill; intro X
  dsimp only [Mine.partBody, Mine.wordBody, Mine.tail, Mine.turn, Mine.lawScope, Mine.fnScope, Mine.forBody, Mine.fnBody, Mine.lawStmt, PySem.Challenge.pw_pc0118_01, List.getD, List.drop, List.getElem?_cons_succ, List.getElem?_cons_zero, Option.getD]
  w_top off
  k_steps
  refine hQ _ _ _ (by k_asm) (news_sub (by k_asm) (fun _ hp => by repeat' (first | exact hp | apply List.mem_cons_of_mem))) ?_
  intro z hz
  simp only [List.contains_cons, List.contains_nil, Bool.or_false, Bool.or_eq_false_iff, beq_eq_false_iff_ne, ne_eq] at hz
  rename (∀ z, z ≠ Str.ofString "part" → z ≠ Str.ofString "word" → _) => hm
  rw [hm z (by simp only [ne_eq, hz, not_false_iff]) (by simp only [ne_eq, hz, not_false_iff])]
  simp only [hz, if_false]
end Mine
end
end
section
open PySem.Calls PyProof.V PySem.Spec
namespace Mine

theorem noRaise {M : Model} {A : Around} {α : Type} {t : Sem α} {Q : α → Shared → Prop} {E : Value → Shared → Prop} {s : Shared} (h : wpAny M A t Q (fun _ _ => False) s) : wpAny M A t Q E s :=
  wpAny_mono h (fun _ _ h => h) fun _ _ h => h.elim
theorem news_also {h₀ h : Heap} {L : Addr} {p : Addr × Obj} {news nw : List (Addr × Obj)} (hm : p ∈ news) (N : News h₀ L h news ∧ News h₀ L h nw) : News h₀ L h news ∧ News h₀ L h (p :: nw) := ⟨N.1, fun q hq => by
  rcases List.mem_cons.mp hq with rfl | hq
  · exact N.1 _ hm
  · exact N.2 _ hq⟩
theorem news_twice {h₀ h : Heap} {L : Addr} {news : List (Addr × Obj)} (N : News h₀ L h news) : News h₀ L h news ∧ News h₀ L h news := ⟨N, N⟩
theorem fr_stored {h₀ h : Heap} {L : Addr} {stored : List Str} {m m' : Str → Option Value} (F : Fr h₀ L h m') (e : ∀ z, stored.contains z = false → m' z = m z) : Fr h₀ L h (fun y => if stored.contains y = true then m' y else m y) :=
  fr_eq F fun y => by
    by_cases hy : stored.contains y = true
    · rw [if_pos hy]
    · rw [if_neg hy]
      exact e y (by simpa using hy)
local macro_rules | `(tactic| walk_at "call ref") => `(tactic| (k_here; (with_reducible show wpAny _ _ (call (Value.ref 42) [_]) _ _ _); k_dflt (refine' Mine.side_call ?hB ?hF ?hX ?hN ?hT ?hk ?hd ?_; (case hB => k_asm); (case hF => k_asm); (case hX => k_asm); (case hN => k_asm); (case hT => k_asm); (case hk => exact rfl); (case hd => ktr_room)); intro a9 o9 t9 o8 u9 o7 D9 h9 tk9 F9 N9 S9 O9; (try dsimp only); (try k_sweep); (try k_fold)))
local macro_rules | `(tactic| walk_at "execs cons Assign") => `(tactic| (k_here; (with_reducible show wpAny _ _ (execs (Stmt.Assign [PySem.Expr.Tuple [PySem.Expr.Name (Str.ofString "file") _, _] _ _] _ _ :: _) _) _ _ _); (refine Mine.noRaise ?_); k_dflt (refine' Mine.law_tail ?hB ?hF ?hX ?hN ?hT (Mine.Side.mono ?hs1 ?hm1) (Mine.Side.mono ?hs2 ?hm2) ?ok1 ?ok2 ?_; (case hF => k_asm); (case hB => k_asm); (case hX => k_asm); (case hT => k_asm); (case hN => k_asm); (case hs1 => assumption); (case hs2 => assumption); (case hm1 => (with_reducible (intro p9 hp9; (repeat (first | exact hp9 | (refine Mine.in_of ?_ hp9; assumption) | apply List.mem_cons_of_mem | fail)); done))); (case hm2 => (with_reducible (intro p9 hp9; (repeat (first | exact hp9 | (refine Mine.in_of ?_ hp9; assumption) | apply List.mem_cons_of_mem | fail)); done))); (case ok1 => assumption); (case ok2 => assumption)); intro h9 m9 tk9 F9 N9 e9; (replace F9 := Mine.fr_stored F9 e9); clear e9; (try dsimp only); (try k_sweep)))
set_option maxHeartbeats 8000000 in
theorem whole : PySem.Challenge.rw_pc0118_01.Holds := Mine.hd (by
  w_top off
  k_with "pyIter ref" => (k_of "cell" => k_search (fun _ => True))
  (k_go0; (all_goals try k_fold); k_steps; (all_goals (try k_data)); all_goals w_report))
end Mine
end
theorem PySem.Challenge.cw_pc0118_01_holds : PySem.Challenge.rw_pc0118_01.Holds :=
  Mine.whole

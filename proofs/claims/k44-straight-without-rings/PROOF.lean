import PyProof.Rows.All
import Wide.All
import OpenK.AllK
import Wide.FinOn
import HandS.ForMost
import HandS.Style
import HandS.Deep
import HandS.TupAny
import HandS.IsInst
import HandS.RaiseMore
import HandS.Conv
import KE.SortData
import KE.SortKeyHeap
import HandS.Nested
import HandS.EndTab
import HandS.TupSets
import HandS.SetFor
import KE.GoesEnum
import KE.DatumOrd
import HandS.EndOwn
import PySem.Challenge.RW_servedall_k44_whole_straight_exactly_wit
set_option Elab.async false
section
set_option Elab.async false
set_option linter.all false
set_option maxRecDepth 100000
set_option maxHeartbeats 4000000
/-! Rules that the hand layer lacks: small ones. -/
namespace Sv
open PySem PySem.Spec PyProof.Rows L2

section
variable {X : Cx} {a b c d : Expr} {ta tb tc td : TE} {pos : Pos}
/-- a op b op c op d, as a test -/
def tLink3 (r1 r2 r3 : R2) (ta tb tc td : TE) : TT := fun σ H Q => ta σ H fun x H1 => tb σ H1 fun y H2 => r1 x y H2 fun k1 H3 => ∃ c1 : Bool, k1 = .bl c1 ∧
  (if c1 = true then tc σ H3 fun z H4 => r2 y z H4 fun k2 H5 => ∃ c2 : Bool, k2 = .bl c2 ∧
    (if c2 = true then td σ H5 fun w H6 => r3 z w H6 fun k3 H7 => ∃ c3 : Bool, k3 = .bl c3 ∧ Q c3 H7 else Q false H5) else Q false H3)
theorem pt_link3 {op1 op2 op3 : CmpOp} {r1 r2 r3 : R2} (o1 : OpR X (compareOp op1) r1) (o2 : OpR X (compareOp op2) r2) (o3 : OpR X (compareOp op3) r3) (ha : PE X a ta) (hb : PE X b tb) (hc : PE X c tc) (hd : PE X d td)
    (hm : lastMarks [op1, op2, op3] [b, c, d] = false := by with_unfolding_all rfl) : PT X (.Compare a [op1, op2, op3] [b, c, d] pos) (tLink3 r1 r2 r3 ta tb tc td) := by
  refine ⟨fun pins s σ H Q I h => ?_⟩
  refine isTrue_chain (thn (ha.run pins s σ H _ I h) fun v1 s1 ⟨x, H1, I1, e1, q1⟩ => ?_) hm
  refine test_link (thn (hb.run pins s1 σ H1 _ I1 q1) fun v2 s2 ⟨y, H2, I2, e2, q2⟩ => thn (o1 pins s2 σ H2 x y v1 v2 _ I2 e1 e2 q2) fun k1 s3 ⟨_, H3, I3, e3, c1, z1, q3⟩ => ?_)
  subst z1
  cases e3
  refine wpAny_truthy_bool ?_
  cases c1 with
  | false => exact ite_ff ⟨H3, I3, q3⟩
  | true =>
    refine ite_tt (test_link (thn (hc.run pins s3 σ H3 _ I3 q3) fun v3 s4 ⟨z, H4, I4, e4, q4⟩ => thn (o2 pins s4 σ H4 y z v2 v3 _ I4 e2 e4 q4) fun k2 s5 ⟨_, H5, I5, e5, c2, z2, q5⟩ => ?_))
    subst z2
    cases e5
    refine wpAny_truthy_bool ?_
    cases c2 with
    | false => exact ite_ff ⟨H5, I5, q5⟩
    | true =>
      refine ite_tt (test_last (thn (hd.run pins s5 σ H5 _ I5 q5) fun v4 s6 ⟨w, H6, I6, e6, q6⟩ => thn (o3 pins s6 σ H6 z w v3 v4 _ I6 e4 e6 q6) fun k3 s7 ⟨_, H7, I7, e7, c3, z3, q7⟩ => ?_))
      subst z3
      cases e7
      exact wpAny_truthy_bool ⟨H7, I7, q7⟩
end

section
variable {X : Cx}
/-- repr of a truth value -/
theorem call_repr_bl : CallR X (.builtin "repr") (fun xs H Q => ∃ k : Bool, xs = [.bl k] ∧ Q (.str (if k then "True" else "False")) H) := by
  intro pins s σ H xs us Q I r h
  obtain ⟨k, rfl, q⟩ := h
  obtain ⟨u, rfl, r1⟩ := vals1 r
  obtain rfl : u = Value.bool k := r1
  exact PySem.P.repr_of_bool ⟨.str (if k then "True" else "False"), H, I.tok _, ⟨_, rfl⟩, q⟩

/-- x in t, t a tuple of data -/
def rInTD (K : PySem.W.Frag) : R2 := fun x y H Q => ∃ d ds, Dp K H x d ∧ Dp K H y (.tuple ds) ∧ SeqAt.shaped d = true ∧ SeqAt.shaped (.tuple ds) = true ∧ Q (.bl (ds.any fun z => PyData.eqv z d)) H
theorem op_inTD (hu : X.A.units + 65 < cLine) : OpR X (compareOp .In) (rInTD X.K) := by
  intro pins s σ H x y v u Q I rx ry h
  obtain ⟨d, ds, hx, hy, sd, ss, q⟩ := h
  obtain ⟨as, r1⟩ := Dp.reads I d x v hx rx
  obtain ⟨bs, r2⟩ := Dp.reads I (.tuple ds) y u hy ry
  exact PySem.SeqAt.in_tuple_reads r2 r1 (SeqAt.canLay_of_shaped ss) (SeqAt.canLay_of_shaped sd) (room_in_shaped sd hu) ⟨.bl _, H, I, rfl, q⟩
end

section
variable {X : Cx} {sp : Sp} {CX : CXT} {k : Nat} {f : Addr} {fd : FuncData} {ps : List Str} {x : Str} {E : XK} {ks : List Str} {g : List Value → List Value → List Value} {gV : List V → List V → List V} {kws : List Keyword} {tk : TA} {p pos : Pos}
end

section
variable {X : Cx}
/-- sorted(xs), xs a list of alike data: some arrangement by the order -/
def rSortedDt (K : PySem.W.Frag) (A : Around) : List V → Hp → VK → Prop := fun vs H Q => ∃ (a : Addr) (zs : List (V × PyData)), vs = [V.ref a] ∧ SqL K H a (zs.map (·.1)) ∧ (∀ z ∈ zs, Dp K H z.1 z.2 ∧ A.units + 2 + z.2.depth < cLine) ∧ PySem.W.AllAlike (zs.map (·.2)) ∧ PySem.W.Sortable (zs.map (·.2)) ∧
  ∀ (ys : List (V × PyData)) (p : Addr), ys.Perm zs → ys.Pairwise (fun b c => PySem.W.dataLt c.2 b.2 = false) → H p = none → Q (.ref p) (upd H p (.lst (ys.map (·.1))))
theorem each_of {R : Value → V × PyData → Prop} : ∀ {zs : List (V × PyData)} {us : List Value}, Vals (zs.map (·.1)) us → (∀ z ∈ zs, ∀ u, RelV z.1 u → R u z) → PySem.W.EachIs R us zs
  | [], _, .nil, _ => .nil
  | z :: zs, _, .cons r t, h => .cons (h z List.mem_cons_self _ r) (each_of t fun y hy => h y (List.mem_cons_of_mem _ hy))
theorem vals_each : ∀ {zs : List (V × PyData)} {us : List Value}, PySem.W.EachIs (fun u z => RelV z.1 u) us zs → Vals (zs.map (·.1)) us
  | _, _, .nil => .nil
  | _, _, .cons r t => .cons r (vals_each t)
theorem dataLe_pair {ys : List (V × PyData)} (h : ys.Pairwise (fun b c => PySem.W.dataLe false (fun z : V × PyData => z.2) b c = true)) : ys.Pairwise (fun b c => PySem.W.dataLt c.2 b.2 = false) := by
  refine h.imp fun {b c} q => ?_
  rw [PySem.W.dataLe_eq] at q
  simpa using q
theorem cr_sortedDt : CallR X (.builtin "sorted") (rSortedDt X.K X.A) := by
  intro pins s σ H vs us Q I r h
  obtain ⟨a, zs, rfl, hs, hz, hal, hk, q⟩ := h
  obtain rfl := Vals.ref1 r
  obtain ⟨its, rv, hl, hlen⟩ := I.list hs
  rw [List.length_map] at hlen
  refine PySem.W.sorted_data (enc := fun z : V × PyData => z.2) (R := fun u z => RelV z.1 u) hl.isList (each_of rv fun z _ u ru => ru) (each_of rv fun z hm u ru => Dp.reads I z.2 z.1 u (hz z hm).1 ru) hal hk hlen (fun z hm => (hz z hm).2) fun out ho eo => ?_
  obtain ⟨ep, he'⟩ := PyProof.Rows.sortedAll_at s.heap its out.toArray
  have hp : (zs.mergeSort (PySem.W.dataLe false fun z : V × PyData => z.2)).Perm zs := List.mergeSort_perm _ _
  refine ⟨.ref _, upd H (s.heap.objs.size + 1) (.lst ((zs.mergeSort (PySem.W.dataLe false fun z : V × PyData => z.2)).map (·.1))), I.laid (t' := s.toks) (fun _ _ => PyProof.Rows.sortedAll_old) (Nat.le_succ _) ⟨?_, out, ep, vals_each eo, he'⟩, rfl, q _ _ hp (dataLe_pair ?_) (I.hok.fresh (Nat.le_succ _))⟩
  · rw [List.length_map, hp.length_eq]
    exact hlen
  · exact PySem.W.sort_pairwise (PySem.W.sortLe_total _ _ _) zs
end
end Sv
end

section
set_option Elab.async false
set_option linter.all false
set_option maxRecDepth 100000
set_option maxHeartbeats 4000000
/-! Rules that the hand layer lacks: a tuple read backwards, a call by keywords alone, sorted of what is no list. -/
namespace Sv
open PySem PySem.Spec PyProof.Rows L2

/-! ### t[::-1], t a tuple -/
section
variable {prog : Program} {w : World} {A : Around} {E : Value → Shared → Prop} {s : Shared}
theorem adjust_back (n : Nat) : Builtin.Slice.sliceAdjust none none (-1) (n : Int) = ((n : Int) - 1, -1) := rfl
theorem places_back (n : Nat) : Builtin.Slice.slicePlaces ((n : Int) - 1) (-1) (-1) = n := by
  unfold Builtin.Slice.slicePlaces
  have h1 : ¬ ((-1 : Int) > 0) := by decide
  simp only [h1, if_false]
  split
  · have e : ((n : Int) - 1 - -1 - 1) / (- -1) = (n : Int) - 1 := by
      rw [show (- -1 : Int) = 1 by decide, Int.ediv_one]
      omega
    rw [e]
    omega
  · omega
theorem pick_back (xs : Array Value) : ((List.range xs.size).filterMap fun (m : Nat) => xs[(((xs.size : Int) - 1) + (m : Int) * (-1)).toNat]?).toArray = xs.toList.reverse.toArray := by
  congr 1
  have e : (List.range xs.size).filterMap (fun (m : Nat) => xs[(((xs.size : Int) - 1) + (m : Int) * (-1)).toNat]?) = ((List.range xs.size).map fun k => xs.size - 1 - k).filterMap (xs[·]?) := by
    have e1 : ∀ (f : Nat → Option Value) (l : List Nat), l.filterMap f = (l.map f).filterMap id := fun f l => by rw [List.filterMap_map]; rfl
    rw [List.filterMap_map, e1, e1 (_ ∘ _)]
    refine congrArg _ (List.map_congr_left fun m hm => ?_)
    have hm := List.mem_range.mp hm
    have : (((xs.size : Int) - 1) + (m : Int) * (-1)).toNat = xs.size - 1 - m := by omega
    show xs[(((xs.size : Int) - 1) + (m : Int) * (-1)).toNat]? = xs[xs.size - 1 - m]?
    rw [this]
  rw [e, PySem.W.krv_range, List.filterMap_reverse, PySem.W.krv_all]
theorem applied_back {sl : Addr} {t : Tok} {n : Nat} {Q : Int × Int × Nat → Shared → Prop} (hs : s.heap.IsSliceOf sl .none .none (.int (-1) t)) (h : Q ((n : Int) - 1, -1, n) s) :
    wpAny (model prog w) A (Builtin.Slice.sliceApplied (.ref sl) (pure (n : Int))) Q E s := by
  obtain ⟨os, hos, hcs, hds⟩ := id hs
  unfold Builtin.Slice.sliceApplied Builtin.Slice.sliceFields
  refine wpAny_bind (wpAny_bind (wpAny_field hos hds (x := .none) rfl (wpAny_bind (wpAny_field hos hds (x := .none) rfl (wpAny_bind (wpAny_field hos hds (x := .int (-1) t) rfl (wpAny_pure ?_)))))))
  refine wpAny_bind (slicePart_int ?_)
  show wpAny _ _ (if ((-1 : Int) == 0) = true then _ else _) _ _ s
  rw [if_neg (by decide)]
  refine wpAny_bind (slicePart_none (wpAny_bind (slicePart_none (wpAny_bind (wpAny_pure ?_)))))
  show wpAny _ _ (match Builtin.Slice.sliceAdjust none none (-1) (n : Int) with | (lo, hi) => pure (lo, (-1 : Int), Builtin.Slice.slicePlaces lo hi (-1))) _ _ s
  rw [adjust_back]
  show wpAny _ _ (pure ((n : Int) - 1, (-1 : Int), Builtin.Slice.slicePlaces ((n : Int) - 1) (-1) (-1))) _ _ s
  rw [places_back]
  exact wpAny_pure h
theorem item_tup_back {t sl : Addr} {items : Array Value} {tk : Tok} {Q : Value → Shared → Prop} (ht : IsTup s.heap t items) (hs : s.heap.IsSliceOf sl .none .none (.int (-1) tk))
    (h : Q (.ref s.heap.objs.size) { s with heap := s.heap.push { cls := .type "tuple", data := .seq items.toList.reverse.toArray } }) (hsz : items.size ≤ sizeLine) : wpAny (model prog w) A (getItem (.ref t) (.ref sl)) Q E s := by
  have hfit : sizeOk (.seq items.toList.reverse.toArray) := by
    show items.toList.reverse.toArray.size ≤ sizeLine
    simpa using hsz
  obtain ⟨os, hos, hcs, hds⟩ := id hs
  have hTs : s.TypeIs (.ref sl) "slice" := ⟨os, hos, hcs⟩
  unfold getItem
  try with_reducible refine wpAny_holding ?_
  first | refine wpAny_bind (wpAny_pure ?_) | skip
  refine wpAny_bind (wpAny_sequenceKey ht.typeIs (by decide) ?_)
  refine wpAny_bind (wpAny_callSpecial?_slot (name := Str.ofString "__getitem__") ht.typeIs PyProof.Rows.slot_tuple_getitem (wpAny_call_entry PyProof.Rows.slot_tuple_getitem ht.typeIs entry_tuple_getitem ?_ (args_tuple_getitem _ _)))
  show wpAny _ _ (Builtin.Tuple.tupleItemsOf (.ref t) >>= _) _ _ s
  refine wpAny_bind (tupleItemsOf_ ht ?_)
  refine wpAny_bind (wpAny_typeOf hTs ?_)
  rw [if_pos (by decide)]
  refine wpAny_bind (applied_back hs ?_)
  have hno : ¬ ((((items.size : Int) - 1) == 0 && (-1 : Int) == 1 && items.size == items.size) = true) := by
    rw [show ((-1 : Int) == 1) = false by decide, Bool.and_false, Bool.false_and]
    exact Bool.false_ne_true
  show wpAny _ _ (if (((items.size : Int) - 1) == 0 && (-1 : Int) == 1 && items.size == items.size) = true then _ else _) _ _ s
  rw [if_neg hno, pick_back]
  first
    | exact wpAny_bind (m := Builtin.Tuple.tupleExact _) (wpAny_newObj_type (wpAny_pure ⟨_, rfl, wpAny_pure h⟩) hfit)
    | exact wpAny_bind (wpAny_bind (m := Builtin.Tuple.tupleExact _) (wpAny_newObj_type (wpAny_pure (wpAny_pure ⟨_, rfl, wpAny_pure h⟩)) hfit))
    | exact wpAny_bind (wpAny_bind (m := Builtin.Tuple.tupleExact _) (wpAny_newObj_type (wpAny_pure ⟨_, rfl, wpAny_pure h⟩) hfit))
end
def tBackT (K : PySem.W.Frag) (te : TE) : TE := fun σ H Q => te σ H fun x H1 => ∃ a xs, x = .ref a ∧ SqT K H1 a xs ∧ ∀ p, H1 p = none → Q (.ref p) (upd H1 p (.tup xs.reverse))
theorem pe_backT {X : Cx} {e : Expr} {te : TE} {k : Nat} {p1 p2 p3 pos : Pos} (he : PE X e te) : PE X (.Subscript e (.Slice none none (some (.UnaryOp .USub (.Constant (.int 1) k p1) p2)) p3) pos) (tBackT X.K te) := by
  refine ⟨fun pins s σ H Q I h => ?_⟩
  refine Subscript_ (thn (he.run pins s σ H _ I h) fun v s1 ⟨x, H1, I1, r1, a, xs, ex, hx, q⟩ => ?_)
  subst ex
  cases r1
  have step : PO X (some (.UnaryOp .USub (.Constant (.int 1) k p1) p2)) (tPart (tUn (rU fun i => .int (-i)) (tC (.int 1)))) := po_some (pe_un un_neg pe_int)
  refine wpAny_Slice (thn (po_none.run pins s1 σ H1 (fun o G => o = none ∧ G = H1) I1 ⟨rfl, rfl⟩) fun vl s2 ⟨l, G2, I2, pl, el, e2⟩ => ?_)
  subst el e2
  refine thn (po_none.run pins s2 σ G2 (fun o G => o = none ∧ G = G2) I2 ⟨rfl, rfl⟩) fun vu s3 ⟨u, G3, I3, pu, eu, e3⟩ => ?_
  subst eu e3
  refine thn (step.run pins s3 σ G3 (fun o G => o = some (-1) ∧ G = G3) I3 ⟨1, rfl, -1, rfl, rfl, rfl⟩) fun vs s4 ⟨o, G4, I4, ps, eo, e4⟩ => ?_
  subst eo e4
  cases pl
  cases pu
  cases ps with
  | int i t =>
    have I5 : Inv X pins σ G4 { s4 with heap := s4.heap.push { cls := .type "slice", data := .fields #[.none, .none, .int (-1) t] } } := I4.kept (t' := s4.toks) fun b ob q => Heap.get?_push_of_some _ q
    obtain ⟨its, r, ht, hz⟩ := I5.tuple hx
    have hlen := r.length
    show wpAny (model X.prog X.w) X.A (subscriptTail e (.Slice none none (some (.UnaryOp .USub (.Constant (.int 1) k p1) p2)) p3) (.ref a) (.ref s4.heap.objs.size)) (EP X pins σ Q) X.xe { s4 with heap := s4.heap.push { cls := .type "slice", data := .fields #[.none, .none, .int (-1) t] } }
    refine tail_any (ops := [.ref a, .ref s4.heap.objs.size]) ht.typeIs (PyProof.Rows.slot_tuple_getitem.lookup) ?_ (by with_unfolding_all rfl)
    refine item_tup_back ht (Heap.IsSliceOf.new _ .none .none (.int (-1) t)) ?_ (by rw [List.size_toArray]; omega)
    refine ⟨.ref _, _, I5.laid (t' := s4.toks) (o := .tup xs.reverse) (fun b ob q => Heap.get?_push_of_some _ q) (Nat.le_refl _) ?_, rfl, q _ (I5.hok.fresh (Nat.le_refl _))⟩
    exact ⟨by rw [List.length_reverse]; exact hz, _, by simpa using r.reverse, IsTup.new _ _⟩

/-! ### f(k = v, ..) -/
section
variable {X : Cx} {sp : Sp} {CX : CXT} {k : Nat} {f : Addr} {fd : FuncData} {ps : List Str} {x : Str} {E : XK} {ks : List Str} {g : List Value → List Value → List Value} {gV : List V → List V → List V} {kws : List Keyword} {tk : TA} {p pos : Pos}
theorem pe_callKw0 (F : FnOk X.prog X.w X.K X.mg X.base CX k f fd ps sp) (hr : Room k X.A) (hg : Gl X x) (hm : X.mg x = some (.ref f)) (hk : PySem.W.keepIn X.K (.ref f) = true) (hb : KBinds X.K fd ps ks g gV) (hx : Passes CX X E) (hkw : PK X kws tk)
    (hall : (backToKw pos (keywordEach kws X.env)).all (·.1.isSome) = true := by rfl) (hks : (backToKw pos (keywordEach kws X.env)).filterMap (·.1) = ks := by rfl) (hdb : (x == ("__debug__" : Str)) = false := by decide)
    (hpl : ((backTo pos (starEach [] X.env)).any (·.1) || (backToKw pos (keywordEach kws X.env)).any (·.1.isNone)) = false := by rfl) : PE X (.Call (.Name x p) [] kws pos) (fun σ H Q => tk σ H fun zs H2 => sp (gV [] zs) H2 Q E) := by
  refine ⟨fun pins s σ H Q I h => ?_⟩
  refine wpAny_Call_Name_kw (ld_glob I hg hm ?_ hdb)
  refine PySem.W.callWith_KW0 (h₀ := X.base) I.ok.mod.kin hk hall (thn (hkw.run pos pins s σ H _ I h) fun ws s2 ⟨zs, H2, I2, rz, q2⟩ => ⟨I2.kIn, ?_⟩) hpl
  rw [hks]
  exact run_fnk F hr hb hx I2 .nil rz q2
end

/-! ### sorted(x) by what x gives -/
section
variable {prog : Program} {w : World} {A : Around} {E : Value → Shared → Prop} {s : Shared}
theorem sorted_from {v : Value} {kw : List (Str × Value)} {Q : Value → Shared → Prop} (ha1 : argsOk "sorted" ⟨[v], kw⟩) (ha2 : ∀ x, argsOk "list.sort" ⟨[.ref x], kw⟩)
    (col : wpAny (model prog w) A.in1 (collect v) (fun vs s1 => vs.length ≤ sizeLine ∧ ∀ E' : Value → Shared → Prop, wpAny (model prog w) A.in1.in1 (Builtin.«list.sort» ⟨[.ref s1.heap.objs.size], kw⟩) (fun f s' => f = .done (.ret .none) ∧ Q (.ref s1.heap.objs.size) s') E' { s1 with heap := s1.heap.push (seqObj "list" vs.toArray 0) }) E s) :
    wpAny (model prog w) A (call (.builtin "sorted") [v] kw) Q E s := by
  refine call_function_entry_kw kind_sorted plain_sorted entry_sorted ha1 ?_
  unfold Builtin.«sorted»
  refine wpAny_bind (m := checkCount "sorted" 1 1 _) (wpAny_pure ?_)
  refine wpAny_bind (wpAny_mono col (fun vs s1 ⟨hz, body⟩ => ?_) fun _ _ e => e)
  refine wpAny_bind (wpAny_newList ?_ hz)
  have hnew : (s1.heap.push (seqObj "list" vs.toArray 0)).get? s1.heap.objs.size = some (seqObj "list" vs.toArray 0) := Heap.get?_push_size _ rfl
  show wpAny _ _ _ _ _ { s1 with heap := s1.heap.push (seqObj "list" vs.toArray 0) }
  refine wpAny_bind (wpAny_holding (wpAny_call_entry_kw slot_list_sort ⟨_, hnew, rfl⟩ entry_list_sort ?body (ha2 _)))
  case body =>
    refine wpAny_mono (body _) (fun f s' hf => ?_) fun _ _ e => e
    obtain ⟨rfl, hq⟩ := hf
    exact ⟨_, rfl, wpAny_pure ⟨_, rfl, hq⟩⟩

theorem collect_tup {t : Addr} {vs : List Value} {Q : List Value → Shared → Prop} (ht : IsTup s.heap t vs.toArray) (hz : vs.length ≤ sizeLine)
    (h : ∀ h' : Heap, (∀ b o, s.heap.get? b = some o → h'.get? b = some o) → Q vs { s with heap := h' }) : wpAny (model prog w) A (collect (.ref t)) Q E s := by
  obtain ⟨o, ho, hc, n, hd⟩ := id ht
  have kp : ∀ b o, s.heap.get? b = some o → ((s.heap.push (seqObj "list" #[] 0)).update s.heap.objs.size (Obj.mapSeq (· ++ vs.toArray))).get? b = some o := fun b o e =>
    (Heap.get?_update_ne _ _ _ _ (Nat.ne_of_lt (Heap.lt_size e))).trans (Heap.get?_push_of_some _ e)
  have ho' : (s.heap.push (seqObj "list" #[] 0)).get? t = some o := Heap.get?_push_of_some _ ho
  unfold collect
  refine wpAny_bind (wpAny_runValue (codeAny_builtin F.entry_proto_collect ?_))
  rw [Around.under_plainId F.plain_proto_collect _]
  show wpAny _ A.in1 (newList [] >>= fun l => again (.builtin "list.__iadd__" ⟨[l, .ref t], []⟩)) _ _ s
  refine wpAny_bind (wpAny_newList (wpAny_pure ⟨plainId_quiet F.plain_list_iadd _, codeAny_builtin F.entry_list_iadd ?_⟩))
  rw [Around.under_plainId F.plain_list_iadd _]
  show wpAny _ A.in1 (Builtin.List.listExtendWith (.ref s.heap.objs.size) (.ref t) (.ref s.heap.objs.size)) _ _ { s with heap := s.heap.push (seqObj "list" #[] 0) }
  unfold Builtin.List.listExtendWith
  refine wpAny_bind (wpAny_typeOf (T := "tuple") ⟨o, ho', hc⟩ ?_)
  rw [if_pos (by simp)]
  refine wpAny_bind (listItems_at ho' hd ?_)
  refine wpAny_bind (listItems_at (xs := #[]) (n := 0) (Heap.get?_push_size _ rfl) rfl ?_)
  rw [if_neg (by simp)]
  refine wpAny_bind (listUpdate_at (xs := #[]) (n := 0) (Heap.get?_push_size _ rfl) rfl ?_ (Nat.zero_le _) (by show (#[] ++ vs.toArray).size ≤ sizeLine + 1; simp only [Array.size_append, List.size_toArray, List.length_nil]; omega))
  refine wpAny_pure ?_
  show wpAny (model prog w) A (load s.heap.objs.size >>= _) Q E { s with heap := (s.heap.push (seqObj "list" #[] 0)).update s.heap.objs.size (Obj.mapSeq (· ++ vs.toArray)) }
  refine wpAny_bind (wpAny_load (get?_update_seq (Heap.get?_push_size _ rfl) _) ?_)
  show wpAny _ _ (pure ((#[] : Array Value) ++ vs.toArray).toList) Q E _
  rw [show ((#[] : Array Value) ++ vs.toArray).toList = vs by simp]
  exact wpAny_pure (h _ kp)
end

section
variable {X : Cx}
/-- sorted(t), t a tuple of alike data -/
def rSortedDtT (K : PySem.W.Frag) (A : Around) : List V → Hp → VK → Prop := fun vs H Q => ∃ (a : Addr) (zs : List (V × PyData)), vs = [V.ref a] ∧ SqT K H a (zs.map (·.1)) ∧ (∀ z ∈ zs, Dp K H z.1 z.2 ∧ A.units + 2 + z.2.depth < cLine) ∧ PySem.W.AllAlike (zs.map (·.2)) ∧ PySem.W.Sortable (zs.map (·.2)) ∧
  ∀ (ys : List (V × PyData)) (p : Addr), ys.Perm zs → ys.Pairwise (fun b c => PySem.W.dataLt c.2 b.2 = false) → H p = none → Q (.ref p) (upd H p (.lst (ys.map (·.1))))
theorem cr_sortedDtT : CallR X (.builtin "sorted") (rSortedDtT X.K X.A) := by
  intro pins s σ H vs us Q I r h
  obtain ⟨a, zs, rfl, hs, hz, hal, hk, q⟩ := h
  obtain rfl := Vals.ref1 r
  obtain ⟨its, rv, ht, hlen⟩ := I.tuple hs
  rw [List.length_map] at hlen
  have hil : its.length = zs.length := by have := rv.length; rw [List.length_map] at this; exact this.symm
  refine sorted_from (args_sorted1 _) (fun _ => args_list_sort _) (collect_tup ht (by omega) fun h' kp => ⟨by omega, fun E' => ?_⟩)
  show wpAny _ _ (Builtin.«list.sort» ⟨[.ref h'.objs.size], []⟩) _ E' { s with heap := h'.push (seqObj "list" its.toArray 0) }
  have hnew : (h'.push (seqObj "list" its.toArray 0)).get? h'.objs.size = some (seqObj "list" its.toArray 0) := Heap.get?_push_size _ rfl
  have kp2 : ∀ b o, s.heap.get? b = some o → (h'.push (seqObj "list" its.toArray 0)).get? b = some o := fun b o e => Heap.get?_push_of_some _ (kp b o e)
  have lt2 : ∀ {b o}, s.heap.get? b = some o → b ≠ h'.objs.size := fun {b o} e => Nat.ne_of_lt (Heap.lt_size (kp b o e))
  have erS : PySem.W.EachIs (fun v (b : V × PyData) => ∃ as, Reads (PySem.W.sortingHeap (h'.push (seqObj "list" its.toArray 0)) h'.objs.size its) v b.2 as) its zs :=
    each_of rv fun z hm u ru => by
      obtain ⟨as, hr⟩ := Dp.reads I z.2 z.1 u (hz z hm).1 ru
      exact ⟨as, PyProof.Rows.Reads.keeps (fun b o e => PySem.W.sortingHeap_old (lt2 e) (kp2 b o e)) hr⟩
  refine PySem.W.list_sort_vals (κ := PySem.W.dataKind (PySem.W.sortingHeap (h'.push (seqObj "list" its.toArray 0)) h'.objs.size its) (zs.map (·.2))) (s := { s with heap := h'.push (seqObj "list" its.toArray 0) }) hnew
    (PySem.W.SortsAt.data (s := { s with heap := PySem.W.sortingHeap (h'.push (seqObj "list" its.toArray 0)) h'.objs.size its }) (PySem.W.each_map (R := fun v d => ∃ as, Reads (PySem.W.sortingHeap (h'.push (seqObj "list" its.toArray 0)) h'.objs.size its) v d as) (fun z : V × PyData => z.2) erS) hal hk (PySem.W.bound_map fun z hm => (hz z hm).2)) (by omega) ⟨rfl, ?_⟩
  have eo := PySem.W.sortVals_data false (each_of rv fun z _ u ru => ru) erS hal
  have hp : (zs.mergeSort (PySem.W.dataLe false fun z : V × PyData => z.2)).Perm zs := List.mergeSort_perm _ _
  obtain ⟨ep, he'⟩ := PyProof.Rows.sortedHeap_at (vs := its) (out := (PySem.W.sortVals (PySem.W.dataKind (PySem.W.sortingHeap (h'.push (seqObj "list" its.toArray 0)) h'.objs.size its) (zs.map (·.2))) false its its).toArray) hnew
  have I1 : Inv X pins σ H { s with heap := h' } := I.kept (t' := s.toks) kp
  refine ⟨.ref h'.objs.size, upd H h'.objs.size (.lst ((zs.mergeSort (PySem.W.dataLe false fun z : V × PyData => z.2)).map (·.1))), I1.laid (t' := s.toks) (fun b o e => ?_) (Nat.le_refl _) ⟨?_, _, ep, vals_each eo, he'⟩, rfl, q _ _ hp (dataLe_pair (PySem.W.sort_pairwise (PySem.W.sortLe_total _ _ _) zs)) (I1.hok.fresh (Nat.le_refl _))⟩
  · exact (PyProof.Rows.sortedHeap_old (Nat.ne_of_lt (Heap.lt_size e)) (Nat.lt_trans (Heap.lt_size e) (by rw [size_push']; exact Nat.lt_succ_self _))).trans (Heap.get?_push_of_some _ e)
  · rw [List.length_map, hp.length_eq]
    exact hlen
end
end Sv
end

section
set_option Elab.async false
set_option linter.all false
set_option maxRecDepth 100000
set_option maxHeartbeats 4000000
/-! sorted(range(n), key=lambda at: keys[at]) -/
namespace Sv
open PySem PySem.Spec PyProof.Rows L2 LamX

section
variable {prog : Program} {w : World} {A : Around} {s : Shared}
/-- the lambda called with a place: the item there -/
theorem lam_item {f c' ka cc : Addr} {q kn an : Str} {params : Arguments} {p1 p2 p3 : Pos} {scope : Scope} {cl : List (Str × Addr)} {pm ctv x : Value} {its : List Value} {i : Int} {t : Tok}
    (hf : s.heap.get? f = some (PySem.W.kla_obj "<lambda>" q params (.Subscript (.Name kn p1) (.Name an p2) p3) scope cl pm c' ctv)) (hrec : s.heap.CodeRec (.ref c') q) (hlim : s.heap.NoLimit) (hroom : A.depth < recursionLimit)
    (hk : scope.kind = .function) (hco : scope.isCoroutine = false) (hgen : scope.isGenerator = false) (hnc : ∀ y ∈ scope.names, y.2 ≠ .cell) (hl : scope.names.lookup an = some .local) (hfr : scope.names.lookup kn = some .free)
    (hbind : ∀ v : Value, bindArgs (PySem.W.kla_fn "<lambda>" q params (.Subscript (.Name kn p1) (.Name an p2) p3) scope cl pm (.ref c') ctv) ⟨[v], []⟩ = pure [(an, v)])
    (hcl : cl.lookup kn = some cc) (hc : s.heap.IsCell cc (some (.ref ka))) (hka : PlainL s.heap ka its.toArray) (h0 : 0 ≤ i) (h1 : i < 2 ^ 63) (hx : its[i.toNat]? = some x)
    (hda : (an == ("__debug__" : Str)) = false) (hdk : (kn == ("__debug__" : Str)) = false) (hdc : (kn == ("__classdict__" : Str)) = false) :
    wpAny (model prog w) A (call (.ref f) [.int i t]) (fun v s2 => v = x ∧ ∃ h' tk, s2 = { s with heap := h', toks := tk } ∧ ∀ b o, s.heap.get? b = some o → h'.get? b = some o) (fun _ _ => False) s := by
  refine wpAny_call (codeAny_mono (R := fun r s2 => r = .ok (.ret x) ∧ ∃ h' tk, s2 = { s with heap := h', toks := tk } ∧ ∀ b o, s.heap.get? b = some o → h'.get? b = some o) ?_ fun r s2 hq => ?_)
  · refine PySem.W.kla_callFunE hroom hf rfl hco hgen rfl hrec ?_
    rw [hbind]
    refine wpAny_pure (wpAny_newFunctionEnv hnc (fun y hy => ?_) (fun h₁ hns hsb => ⟨hlim.fresh _ hsb, ?_⟩) hk)
    · rw [List.mem_singleton.mp hy]
      exact hl
    have kp : ∀ b o, s.heap.get? b = some o → h₁.get? b = some o := fun b o e => hsb.extBut b o (Nat.ne_of_lt (Heap.lt_size e)) (Heap.get?_push_of_some _ e)
    have hc1 : h₁.IsCell cc (some (.ref ka)) := by
      obtain ⟨o, ho, hd⟩ := hc
      exact ⟨o, kp _ _ ho, hd⟩
    have hl1 : h₁.IsList ka its.toArray := by
      obtain ⟨o, n, ho, e1, e2, e3⟩ := hka
      exact ⟨o, kp _ _ ho, e1, n, e3⟩
    refine PySem.W.kla_codeExpr (Subscript_ ?_)
    refine wpAny_Name (wpAny_loadName_free hk hfr hcl hc1 ?_ hdc) hdk
    refine wpAny_Name (wpAny_loadName_local hk hl hns (v := .int i t) ?_ ?_) hda
    · show ([(an, Value.int i t)] : List (Str × Value)).reverse.lookup an = _
      simp [List.lookup]
    · exact item_listR hl1 h0 h1 (by simpa using hx) ⟨rfl, _, _, rfl, kp⟩
  · obtain ⟨rfl, z⟩ := hq
    exact ⟨rfl, z⟩
end

theorem extN_seqL {K : PySem.W.Frag} {H H' : Hp} {a : Addr} {xs : List V} (e : ExtN H H') (h : SqL K H a xs) : SqL K H' a xs := by
  rcases h with (h | ⟨o, h⟩) | h
  · exact .inl (.inl (e _ _ h fun ps z => nomatch z))
  · exact .inl (.inr ⟨o, e _ _ h fun ps z => nomatch z⟩)
  · exact .inr h
theorem extN_seqT {K : PySem.W.Frag} {H H' : Hp} {a : Addr} {xs : List V} (e : ExtN H H') (h : SqT K H a xs) : SqT K H' a xs := by
  rcases h with (h | ⟨o, h⟩) | h
  · exact .inl (.inl (e _ _ h fun ps z => nomatch z))
  · exact .inl (.inr ⟨o, e _ _ h fun ps z => nomatch z⟩)
  · exact .inr h

theorem reads_ints {h : Heap} : ∀ {ns : List Int} {us : List Value}, Vals (ns.map V.int) us → ReadsAll h us (ns.map PyData.int) []
  | [], _, .nil => .nil
  | n :: ns, _, .cons r t => by
    obtain ⟨tk, rfl⟩ := r
    exact .cons (as := []) (bs := []) (.int n tk) (reads_ints t)
theorem reads_tupI {h : Heap} {t : Addr} {ns : List Int} {us : List Value} (r : Vals (ns.map V.int) us) (ht : IsTup h t us.toArray) : Reads h (.ref t) (.tuple (ns.map PyData.int)) [] := by
  obtain ⟨o, ho, hc, n, hd⟩ := ht
  exact .tuple ho hc hd (by simpa using reads_ints r)
theorem tupI_lt (xs ys : List Int) : PySem.W.dataLt (.tuple (xs.map .int)) (.tuple (ys.map .int)) = decide (xs < ys) := PySem.W.dataLt_ints xs ys
theorem tupI_alike (xs ys : List Int) : PySem.W.alike (.tuple (xs.map .int)) (.tuple (ys.map .int)) = true := by
  rw [PySem.W.alike]
  exact PySem.W.alike_ints xs ys
theorem tupI_depth (xs : List Int) : (PyData.tuple (xs.map .int)).depth = 1 := by
  rw [PyData.depth, PySem.W.depth_ints]

/-- the key of the n-th row -/
def rowAt (rs : List (Addr × List Int)) (n : Nat) : List Int := (rs.map (·.2)).getD n []
theorem rowAt_some {rs : List (Addr × List Int)} {n : Nat} {r : Addr × List Int} (h : rs[n]? = some r) : rowAt rs n = r.2 := by
  unfold rowAt
  simp [List.getD_eq_getElem?_getD, h]
theorem cr_range1 {X : Cx} : CallR X (.type "range") (fun vs H Q => ∃ n : Int, vs = [V.int n] ∧ ∀ p, H p = none → Q (.ref p) (upd H p (.rng 0 n))) := by
  intro pins s σ H xs us Q I r h
  obtain ⟨n, rfl, q⟩ := h
  obtain ⟨u, rfl, t, rfl⟩ := vals1 r
  exact call_range_1 ⟨.ref s.heap.objs.size, upd H s.heap.objs.size (.rng 0 n), I.laid (t' := s.toks + 1 + 1) (fun b o e => Heap.get?_push_of_some _ e) (Nat.le_refl _) ⟨_, _, _, Heap.get?_push_size _ rfl⟩, rfl, q _ (I.hok.fresh (Nat.le_refl _))⟩
def tSortLam (K : PySem.W.Frag) (T : List (Addr × Str)) (i : Nat) (te : TE) : TE := fun σ H Q => te σ H fun x H1 => ∃ (r ka : Addr) (rs : List (Addr × List Int)), x = .ref r ∧ H1 r = some (.rng 0 (rs.length : Nat)) ∧ Tabs T H1 ∧ σ[i]? = some (some (.ref ka)) ∧ rs.length ≤ 1000 ∧
  SqL K H1 ka (rs.map fun r => V.ref r.1) ∧ (∀ r ∈ rs, SqT K H1 r.1 (r.2.map V.int) ∧ r.2 ≠ []) ∧
  ∀ (H2 : Hp) (out : List Nat) (p : Addr), ExtN H1 H2 → Tabs T H2 → out.Perm (List.range rs.length) → out.Pairwise (fun x y => rowAt rs x ≤ rowAt rs y) → H2 p = none → Q (.ref p) (upd H2 p (.lst (out.map fun (n : Nat) => V.int n)))
theorem each_nat {P : Nat → Value → Prop} : ∀ (us : List Value) (k : Nat), (∀ j u, us[j]? = some u → P (k + j) u) → PySem.W.EachIs (fun u n => P n u) us (List.range' k us.length)
  | [], _, _ => .nil
  | u :: us, k, h => by
    rw [List.length_cons, List.range'_succ]
    refine .cons (h 0 u rfl) (each_nat us (k + 1) fun j v hj => ?_)
    have := h (j + 1) v (by simpa using hj)
    rw [show k + 1 + j = k + (j + 1) by omega]
    exact this
theorem vals_nat : ∀ {ns : List Nat} {us : List Value}, PySem.W.EachIs (fun u (n : Nat) => ∃ t, u = Value.int n t) us ns → Vals (ns.map fun (n : Nat) => V.int n) us
  | _, _, .nil => .nil
  | _, _, .cons r t => .cons r (vals_nat t)
section
variable {X : Cx}
theorem pe_sortLam {T : List (Addr × Str)} {c P : Addr} {i : Nat} {e : Expr} {te : TE} {kn an : Str} {params : Arguments} {p1 p2 p3 p lpos kpos pos : Pos} {scope : Scope}
    (hc : X.calm = true) (TB : TabB X.base X.mg c P) (hcode : X.env.code = .ref c) (hmT : (P, X.env.qual ++ "<lambda>") ∈ T) (hu : ∀ p ∈ T, p.1 = P → p.2 = X.env.qual ++ "<lambda>") (hg : Gl X "sorted") (hm : X.mg "sorted" = none) (he : PE X e te)
    (hr : Room 3 X.A) (hN : X.N[i]? = some kn) (hcell : X.env.scope.names.lookup kn = some .cell) (hdef : defaultsOf params X.env = ([], []))
    (hk : scope.kind = .function) (hco : scope.isCoroutine = false) (hgen : scope.isGenerator = false) (hnc : ∀ y ∈ scope.names, y.2 ≠ .cell) (hl : scope.names.lookup an = some .local) (hfr : scope.names.lookup kn = some .free)
    (hfree : ∀ y ∈ scope.names, y.2 = .free → X.env.scope.names.lookup y.1 = some .cell ∨ X.env.scope.names.lookup y.1 = some .free)
    (hbind : ∀ (q : Str) (cl : List (Str × Addr)) (pm cv ctv v : Value), bindArgs (PySem.W.kla_fn "<lambda>" q params (.Subscript (.Name kn p1) (.Name an p2) p3) scope cl pm cv ctv) ⟨[v], []⟩ = pure [(an, v)])
    (hda : (an == ("__debug__" : Str)) = false := by decide) (hdk : (kn == ("__debug__" : Str)) = false := by decide) (hdc : (kn == ("__classdict__" : Str)) = false := by decide)
    (na : starEach [e] X.env = (false, eval e X.env) :: starEach [] X.env := by rfl) :
    PE X (.Call (.Name "sorted" p) [e] [⟨some "key", .Lambda params (.Subscript (.Name kn p1) (.Name an p2) p3) scope lpos, kpos⟩] pos) (tSortLam X.K T i te) := by
  refine ⟨fun pins s σ H Q I h => ?_⟩
  refine wpAny_Call_Name_kw (ld_blt (u := .builtin "sorted") I hg hm (by decide +kernel) ?_)
  refine PyProof.Rows.callWith_kw ?_ (by rw [na]; rfl) (by rw [na]; rfl) (by rfl) (by rfl)
  refine args_cons (thn (he.run pins s σ H _ I h) fun xv s1 ⟨x, H1, I1, rx, r, ka, rs, ex, hrg, hT, hs, hz, hL, hI, q⟩ => args_nil ?_) na
  subst ex
  cases rx
  refine kwAll_cons ?_
  have hf : ∀ y ∈ scope.names, y.2 = .free → ∃ c, X.env.cells.lookup y.1 = some c := fun y hy e => (hfree y hy e).elim (fun z => I.ok.has _ (.inl z)) fun z => I.ok.has _ (.inr z)
  refine lam_make2 I1 TB hcode hmT hu hT hdef hf fun f c' pm ctv H2 s2 I2 eN T2 of fn0 fnf co => kwAll_nil ?_
  show wpAny _ _ (call (.builtin "sorted") [.ref r] [(Str.ofString "key", .ref f)]) _ _ s2
  have hrg2 : H2 r = some (.rng 0 (rs.length : Nat)) := eN _ _ hrg fun ps z => nomatch z
  obtain ⟨t, u, v, hob⟩ := I2.hok r _ hrg2
  have hL2 := extN_seqL eN hL
  -- what stands in every later heap
  obtain ⟨its, rv, hpl, hsz⟩ := I2.list hL2
  have hil : its.length = rs.length := by have := rv.length; rw [List.length_map] at this; exact this.symm
  obtain ⟨m, hns, hloc⟩ := id I2.loc
  obtain ⟨u1, ru1, look⟩ := hloc i kn (.ref ka) hN hs (.inr (.inl hcell))
  obtain rfl : u1 = Value.ref ka := ru1
  obtain ⟨cc, hcc, hcell2⟩ : ∃ cc, X.env.cells.lookup kn = some cc ∧ s2.heap.IsCell cc (some (.ref ka)) := by
    rcases look with ⟨z, _⟩ | ⟨_, cc, z1, z2⟩
    · have z : X.env.scope.names.lookup kn = some .local := z
      rw [hcell] at z; cases z
    · exact ⟨cc, z1, z2⟩
  have hcl : (cloFrom X.env.cells scope.names []).lookup kn = some cc := NdefX.clo_has hf (PySem.mem_of_lookup hfr) hcc
  have hlim := I2.nolimit
  obtain ⟨⟨oc, ovs, ot, hoc, hod, hov⟩, _, _⟩ := I2.hok c' _ co
  have kpair : ∀ n : Nat, ∀ x : Value, its[n]? = some x → ∃ ns : List Int, rowAt rs n = ns ∧ ns ≠ [] ∧ Reads s2.heap x (.tuple (ns.map .int)) [] := fun n x hx => by
    have hn : n < rs.length := by have := (List.getElem?_eq_some_iff.mp hx).1; omega
    have hrn : rs[n]? = some rs[n] := List.getElem?_eq_getElem hn
    obtain ⟨u2, hu2, ru2⟩ := rv.get (i := n) (x := V.ref rs[n].1) (by rw [List.getElem?_map, hrn]; rfl)
    rw [hx] at hu2
    obtain rfl : x = Value.ref rs[n].1 := (Option.some.inj hu2).trans ru2
    obtain ⟨h1, h2⟩ := hI rs[n] (List.mem_of_getElem? hrn)
    obtain ⟨its2, rv2, ht2, _⟩ := I2.tuple (extN_seqT eN h1)
    exact ⟨rs[n].2, rowAt_some hrn, h2, reads_tupI rv2 ht2⟩
  refine sorted_from (PyProof.Rows.ksk_s1 _ _) (fun _ => PyProof.Rows.ksk_l1 _ _) (collect_range (n := rs.length) (I2.ok.hd hc) hob (small_one (by omega) (by omega) (by omega) (by omega)) (by rw [rangeSize_nat]; omega) (by omega) fun h' tk acc kp items => ⟨?_, fun E' => ?_⟩)
  · rw [Array.length_toList, items.1, sizeLine_eq]
    omega
  have hlen : acc.toList.length = rs.length := by rw [Array.length_toList]; exact items.1
  show wpAny _ _ (Builtin.«list.sort» ⟨[.ref h'.objs.size], [(Str.ofString "key", .ref f)]⟩) _ E' { s2 with heap := h'.push (seqObj "list" acc.toList.toArray 0), toks := tk }
  have hnew : (h'.push (seqObj "list" acc.toList.toArray 0)).get? h'.objs.size = some (seqObj "list" acc.toList.toArray 0) := Heap.get?_push_size _ rfl
  have kp2 : ∀ b o, s2.heap.get? b = some o → (h'.push (seqObj "list" acc.toList.toArray 0)).get? b = some o := fun b o e => Heap.get?_push_of_some _ (kp b o e)
  have lt2 : ∀ {b o}, s2.heap.get? b = some o → b ≠ h'.objs.size := fun {b o} e => Nat.ne_of_lt (Heap.lt_size (kp b o e))
  rw [PyProof.Rows.ksk_t1]
  have each : PySem.W.EachIs (fun (u : Value) (n : Nat) => ∃ t, u = Value.int n t) acc.toList (List.range rs.length) := by
    rw [List.range_eq_range', ← hlen]
    refine each_nat acc.toList 0 fun j u hj => ?_
    obtain ⟨t2, e2⟩ := items.2 j u (by rw [← hj, Array.getElem?_toList])
    exact ⟨t2, by rw [e2]; congr 1; omega⟩
  have hal : PySem.W.AllAlike ((List.range rs.length).map fun n => PyData.tuple ((rowAt rs n).map .int)) := PySem.W.AllAlike.of fun n n' => tupI_alike _ _
  have hdp : ∀ d ∈ (List.range rs.length).map (fun n => PyData.tuple ((rowAt rs n).map .int)), X.A.in1.in1.units + d.depth < cLine := fun d hd => by
    obtain ⟨n, _, rfl⟩ := List.mem_map.mp hd
    rw [tupI_depth]
    have := hr.un
    show X.A.units + 1 + 1 + 1 < cLine
    omega
  have hsk : PySem.W.Sortable ((List.range rs.length).map fun n => PyData.tuple ((rowAt rs n).map .int)) := .inl fun d hd => by
    obtain ⟨n, hn, rfl⟩ := List.mem_map.mp hd
    have hn := List.mem_range.mp hn
    have hx : its[n]? = some its[n] := List.getElem?_eq_getElem (by omega)
    obtain ⟨ns, e1, e2, _⟩ := kpair n _ hx
    cases ns with
    | nil => exact absurd rfl e2
    | cons z zs => exact ⟨.int z, zs.map .int, by rw [e1]; rfl⟩
  refine PySem.W.keyH_tree (kz := (List.range rs.length).map fun n => PyData.tuple ((rowAt rs n).map .int)) (s := { s2 with heap := h'.push (seqObj "list" acc.toList.toArray 0), toks := tk }) hnew (by rw [List.length_map, List.length_range, hlen]) (by rw [hlen, sizeLine_eq]; omega) hal hsk hdp
    (fun n y k hy hkk g gt kb => ?_) fun g gt out ct kb hD ko => ⟨rfl, ?_⟩
  · -- the lambda at one place
    have hn : n < rs.length := by have := (List.getElem?_eq_some_iff.mp hy).1; omega
    obtain ⟨t2, e2⟩ := items.2 n y (by rw [← hy, Array.getElem?_toList])
    subst e2
    have hx : its[n]? = some its[n] := List.getElem?_eq_getElem (by omega)
    obtain ⟨ns, e1, _, hrd⟩ := kpair n _ hx
    have ek : k = .tuple (ns.map .int) := by
      rw [List.getElem?_map, List.getElem?_range hn] at hkk
      rw [← Option.some.inj hkk]
      show PyData.tuple ((rowAt rs n).map .int) = _
      rw [e1]
    have all : ∀ b o, s2.heap.get? b = some o → g.get? b = some o := fun b o e => kb b o (lt2 e) (kp2 b o e)
    refine wpAny_mono (lam_item (s := { s2 with heap := g, toks := gt }) (all _ _ of) ⟨c', oc, ovs, ot, rfl, all _ _ hoc, hod, hov⟩ (hlim.keeps all) ?_ hk hco hgen hnc hl hfr (fun w => hbind _ _ _ _ _ w) hcl (by obtain ⟨o, ho, hd⟩ := hcell2; exact ⟨o, all _ _ ho, hd⟩) (by obtain ⟨o, n2, ho, z1, z2, z3⟩ := hpl; exact ⟨o, n2, all _ _ ho, z1, z2, z3⟩) (i := 0 + (n : Int) * 1) (by omega) (by omega) (x := its[n]) (by rw [show (0 + (n : Int) * 1).toNat = n by omega]; exact hx) hda hdk hdc) (fun w s3 ⟨ew, g2, gt2, es, kg⟩ => ?_) fun _ _ z => z
    · have := hr.dp
      show X.A.depth < recursionLimit
      omega
    · subst ew es
      exact ⟨g2, gt2, rfl, kg, by rw [ek]; exact PyProof.Rows.Reads.keeps (fun b o e => kg b o (all b o e)) hrd⟩
  · have eo := PySem.W.keyedOut_each (fun n : Nat => PyData.tuple ((rowAt rs n).map .int)) ko each
    have hp : ((List.range rs.length).mergeSort (PySem.W.dataLe false fun n : Nat => PyData.tuple ((rowAt rs n).map .int))).Perm (List.range rs.length) := List.mergeSort_perm _ _
    have I3 : Inv X pins σ H2 { s2 with heap := h', toks := tk } := I2.kept kp
    have pw := PySem.W.sort_pairwise (PySem.W.sortLe_total _ _ _) (List.range rs.length) (le := PySem.W.dataLe false fun n : Nat => PyData.tuple ((rowAt rs n).map .int))
    refine ⟨.ref h'.objs.size, upd H2 h'.objs.size (.lst _), I3.laid (h' := g) (t' := gt) (fun b o e => kb b o (Nat.ne_of_lt (Heap.lt_size e)) (Heap.get?_push_of_some _ e)) (Nat.le_refl _) ⟨?_, out, ct, vals_nat eo, hD⟩, rfl, q H2 _ _ eN T2 hp (pw.imp fun {x y} hxy => ?_) (I3.hok.fresh (Nat.le_refl _))⟩
    · rw [List.length_map, hp.length_eq, List.length_range, sizeLine_eq]
      omega
    · rw [PySem.W.dataLe_eq] at hxy
      have z : (!PySem.W.dataLt (.tuple ((rowAt rs y).map .int)) (.tuple ((rowAt rs x).map .int))) = true := hxy
      rw [tupI_lt] at z
      have z : ¬ rowAt rs y < rowAt rs x := by simpa using z
      exact List.not_lt.mp z
end
end Sv
end

section
set_option Elab.async false
set_option linter.all false
set_option maxRecDepth 100000
set_option maxHeartbeats 4000000
/-! Sets of tuples of texts: made, asked. -/
namespace Sv
open PySem PySem.Spec PyProof.Rows L2

abbrev SKd (P : Program) (w : World) : KeyKind P w Str := PySem.strKind P w
abbrev kh (P : Program) (w : World) (k : List Str) : Int := tupleKeyHash (SKd P w) k
abbrev IsK (P : Program) (w : World) (h : Heap) (k : List Str) (a : Addr) : Prop := IsTupleKey (SKd P w) h k a
/-- the c-th place that a search for the hash h looks at -/
def pr (m : Nat) (h : Int) (c : Nat) : SetTable.Probe := nth m (runAt m (SetTable.bits h % (m + 1)) (SetTable.bits h)) c
theorem pr_add (m : Nat) (h : Int) (c q : Nat) : nth m (pr m h c) q = pr m h (c + q) := (nth_add m c _ q).symm
theorem pr_clean (m : Nat) (h : Int) (c : Nat) : (pr m h c).dummy = none := by
  have go : ∀ (n : Nat) (p : SetTable.Probe), p.dummy = none → (nth m p n).dummy = none := fun n => by
    induction n with
    | zero => exact fun p z => z
    | succ n ih => exact fun p z => ih (adv m p) (by unfold adv; split <;> exact z)
  exact go c _ rfl

section
variable {P : Program} {w : World} {A : Around} {E : Value → Shared → Prop} {s : Shared}
theorem all_strs {k : List Str} {vs : List Value} (h : ItemsAre (SKd P w) k vs) : ∀ v ∈ vs, ∃ x t, v = Value.str x t := by
  induction h with
  | nil => exact fun v hv => nomatch hv
  | cons h1 _ ih =>
    intro v hv
    rcases List.mem_cons.mp hv with rfl | hv
    · obtain ⟨t, e⟩ := Value.isStrOf_shape h1
      exact ⟨_, t, e⟩
    · exact ih v hv
theorem plain_str (n : Nat) (x : Str) (t : Tok) : ofAClassStatement n (.str x t) = pure false := by cases n <;> rfl
theorem byText_str (n : Nat) (x : Str) (t : Tok) : hashByValue n (.str x t) = pure false := by cases n <;> rfl
theorem noStatement {k : List Str} {b : Addr} {Q : Bool → Shared → Prop} (hk : IsK P w s.heap k b) (h : Q false s) : wpAny (model P w) A (ofAClassStatement 8 (.ref b)) Q E s := by
  have ty := hk.typeIs
  obtain ⟨o, items, n, ho, _, hd, hi⟩ := hk
  unfold ofAClassStatement
  refine wpAny_bind (wpAny_typeOf ty ?_)
  dsimp only
  simp only [beq_self_eq_true, if_true]
  try refine wpAny_bind (wpAny_pure ?_)
  simp only [Bool.not_true, Bool.false_eq_true, if_false]
  show wpAny _ _ (seqItems? (.ref b) >>= _) _ _ s
  refine wpAny_bind (wpAny_seqItems ho hd (wpAny_bind ?_))
  show wpAny _ _ (forIn items _ _) _ _ s
  rw [← Array.forIn_toList]
  refine wpAny_forIn_list _ (fun more r s2 => (∀ v ∈ more, ∃ x t, v = Value.str x t) ∧ r.1 = none ∧ s2 = s) _ ?_ ?_ _ _ ⟨all_strs hi, rfl, rfl⟩
  · rintro v more r s2 ⟨hv, hr, rfl⟩
    obtain ⟨x, t, rfl⟩ := hv _ List.mem_cons_self
    rw [plain_str]
    refine wpAny_bind (wpAny_pure ?_)
    simp only [Bool.false_eq_true, if_false]
    exact wpAny_pure ⟨fun u hu => hv u (List.mem_cons_of_mem _ hu), rfl, rfl⟩
  · rintro ⟨r1, r2⟩ s2 ⟨_, hr, rfl⟩
    simp only at hr
    subst hr
    exact wpAny_pure h
/-- whether its hash is by value: some answer -/
theorem someByValue {k : List Str} {b : Addr} {Q : Bool → Shared → Prop} (hk : IsK P w s.heap k b) (h : ∀ c, Q c s) : wpAny (model P w) A (hashByValue 8 (.ref b)) Q E s := by
  have ty := hk.typeIs
  obtain ⟨o, items, n, ho, _, hd, hi⟩ := hk
  unfold hashByValue
  refine wpAny_bind (wpAny_specialOf ty F.slot_tuple_hash.lookup ?_)
  show wpAny _ _ (seqItems? (.ref b) >>= _) _ _ s
  refine wpAny_bind (wpAny_seqItems ho hd (wpAny_bind ?_))
  show wpAny _ _ (forIn items _ _) _ _ s
  rw [← Array.forIn_toList]
  refine wpAny_forIn_list _ (fun more r s2 => (∀ v ∈ more, ∃ x t, v = Value.str x t) ∧ r.1 = none ∧ s2 = s) _ ?_ ?_ _ _ ⟨all_strs hi, rfl, rfl⟩
  · rintro v more r s2 ⟨hv, hr, rfl⟩
    obtain ⟨x, t, rfl⟩ := hv _ List.mem_cons_self
    rw [byText_str]
    refine wpAny_bind (wpAny_pure ?_)
    simp only [Bool.not_false, if_true]
    exact wpAny_pure (wpAny_pure (h _))
  · rintro ⟨r1, r2⟩ s2 ⟨_, hr, rfl⟩
    simp only at hr
    subst hr
    exact wpAny_pure (h _)
theorem notSeen {k : List Str} {b : Addr} {Q : Bool → Shared → Prop} (hk : IsK P w s.heap k b) {ys : List Value} (hy : ∀ y ∈ ys, ∃ k' c, y = Value.ref c ∧ IsK P w s.heap k' c) (h : Q false s) : wpAny (model P w) A (searchCouldBeSeen (.ref b) ys) Q E s := by
  unfold searchCouldBeSeen
  refine wpAny_bind (wpAny_forIn_list _ (fun more r s2 => (∀ y ∈ more, ∃ k' c, y = Value.ref c ∧ IsK P w s.heap k' c) ∧ r.1 = none ∧ s2 = s) _ ?_ ?_ _ _ ⟨hy, rfl, rfl⟩)
  · rintro v more r s2 ⟨hv, hr, rfl⟩
    obtain ⟨k', c, rfl, hc⟩ := hv _ List.mem_cons_self
    have left : ∀ y ∈ more, ∃ k' c, y = Value.ref c ∧ IsK P w s2.heap k' c := fun u hu => hv u (List.mem_cons_of_mem _ hu)
    dsimp only
    by_cases very : (b == c || (carriedByValue (.ref b) && carriedByValue (.ref c))) = true
    · exact wp_if_pos very (wpAny_pure ⟨left, rfl, rfl⟩)
    · refine wp_if_neg very (wpAny_bind (wpAny_eqIsQuiet_tuple hk ?_))
      simp only [Bool.not_true, Bool.false_eq_true, if_false]
      refine wpAny_bind (wpAny_eqIsQuiet_tuple hc ?_)
      simp only [Bool.not_true, Bool.false_eq_true, if_false]
      refine wpAny_bind (noStatement hk ?_)
      simp only [Bool.false_eq_true, if_false]
      refine wpAny_bind (noStatement hc ?_)
      simp only [Bool.false_eq_true, if_false]
      exact wpAny_pure ⟨left, rfl, rfl⟩
  · rintro ⟨r1, r2⟩ s2 ⟨_, hr, rfl⟩
    simp only at hr
    subst hr
    exact wpAny_pure h
end

/-! ### what stands in such a set -/
def entries (P : Program) (w : World) (L : List (Addr × List Str)) : List (Int × Value) := L.map fun p => (kh P w p.2, Value.ref p.1)
def hashes (P : Program) (w : World) (L : List (Addr × List Str)) : List Int := L.map fun p => kh P w p.2
structure PSet (P : Program) (w : World) (h : Heap) (a : Addr) (L : List (Addr × List Str)) (es : Array (Int × Value)) (ep : Nat) (t : SetTable) : Prop where
  ob : ∃ o, h.get? a = some o ∧ o.ExactSet ∧ o.data = .set es ep t
  rows : es.toList = entries P w L
  tab : TabOk t (hashes P w L)
  room : L.length * 5 < t.mask * 3
  few : L.length < 64
section
variable {P : Program} {w : World} {A : Around} {E : Value → Shared → Prop} {s : Shared} {a : Addr} {L : List (Addr × List Str)} {es : Array (Int × Value)} {ep : Nat} {t : SetTable} {h : Heap}
theorem hashes_len : (hashes P w L).length = L.length := by unfold hashes; rw [List.length_map]
theorem PSet.size (R : PSet P w h a L es ep t) : es.size = L.length := by
  have q := congrArg List.length R.rows
  unfold entries at q
  simpa using q
theorem PSet.placed (R : PSet P w h a L es ep t) : t.place.size = L.length := by rw [R.tab.sz, hashes_len]
theorem fits_of (hp : t.place.size = es.size) (hd : t.dummies = #[]) (hl : es.size ≤ t.mask) : t.fits es.size = true := by
  unfold SetTable.fits SetTable.fill
  rw [hd, Bool.and_eq_true, beq_iff_eq, decide_eq_true_eq]
  show t.place.size = es.size ∧ t.place.size + 0 ≤ t.mask
  omega
theorem PSet.fits (R : PSet P w h a L es ep t) : t.fits es.size = true :=
  fits_of (R.placed.trans R.size.symm) R.tab.dm (by have := R.room; have := R.size; omega)
theorem PSet.entry (R : PSet P w h a L es ep t) {i : Nat} {p : Addr × List Str} (e : L[i]? = some p) : es[i]? = some (kh P w p.2, Value.ref p.1) := by
  rw [← Array.getElem?_toList, R.rows]
  unfold entries
  rw [List.getElem?_map, e] <;> rfl
theorem PSet.hashAt (R : PSet P w h a L es ep t) {i : Nat} {p : Addr × List Str} (e : L[i]? = some p) : (es[i]?.map (·.1)).getD 0 = kh P w p.2 := by rw [R.entry e] <;> rfl
theorem PSet.stays (R : PSet P w h a L es ep t) : ¬ t.gaveWay = true := by
  unfold SetTable.gaveWay
  rw [mask_odd R.tab.mok]
  decide
theorem PSet.owner (R : PSet P w h a L es ep t) {i j : Nat} (e : t.place.toList[i]? = some j) : ∃ p, L[i]? = some p := by
  have h1 : i < t.place.toList.length := (List.getElem?_eq_some_iff.mp e).1
  have h2 := R.placed
  rw [Array.length_toList] at h1
  exact ⟨L[i]'(by omega), List.getElem?_eq_getElem (by omega)⟩

/-- the search from its c-th place on; j: places ahead of which nothing of this key stands -/
theorem find_on (R : PSet P w s.heap a L es ep t) (tup : ∀ p ∈ L, IsK P w s.heap p.2 p.1) {x : Addr} {k : List Str} (hx : IsK P w s.heap k x) (hu : A.units < cLine) (adding : Bool) {K : Nat} (hKf : K < 10 * SetTable.turns t.mask)
    (hK : way t.mask (kh P w k) K ∉ t.place.toList) (hKb : ∀ c, c < K → way t.mask (kh P w k) c ∈ t.place.toList) {Q : SetFound → Shared → Prop}
    (yes : k ∈ L.map (·.2) → ∀ r : Option Nat, (adding = false → r.isSome = true) → Q (.there r) s) (no : k ∉ L.map (·.2) → Q (.free (way t.mask (kh P w k) K) false) s) :
    ∀ (fuel c : Nat) (from_ : Option SetTable.Probe), from_.getD (t.probeStart (kh P w k)) = pr t.mask (kh P w k) c → c ≤ K → K - c < fuel →
      (∀ (i : Nat) p, L[i]? = some p → p.2 = k → ∃ c2, c ≤ c2 ∧ c2 < K ∧ t.place.toList[i]? = some (way t.mask (kh P w k) c2)) → wpAny (model P w) A (setSearchFrom a (.ref x) (kh P w k) adding fuel from_) Q E s := by
  intro fuel
  induction fuel with
  | zero => intro c from_ _ _ z; exact absurd z (Nat.not_lt_zero _)
  | succ fuel ih =>
    intro c from_ hst hc hfl ahead
    obtain ⟨o, ho, hex, hd⟩ := R.ob
    have wj : ∀ q, (nth t.mask (pr t.mask (kh P w k) c) q).j = way t.mask (kh P w k) (c + q) := fun q => congrArg SetTable.Probe.j (pr_add _ _ c q)
    rw [setSearchFrom_succ]
    refine wpAny_bind (wpAny_setState_of ho hd R.fits ?_)
    dsimp only
    refine wp_if_neg R.stays ?_
    try refine wpAny_bind (wpAny_pure ?_)
    have spec := go_spec t R.tab.ris R.tab.dm (fun i => (es[i]?.map (·.1)).getD 0) (kh P w k) (10 * SetTable.turns t.mask) (K - c) (pr t.mask (kh P w k) c) (pr_clean _ _ _) (by omega)
      (fun q hq => by rw [wj]; exact hKb (c + q) (by omega)) (by rw [wj, show c + (K - c) = K by omega]; exact hK)
    rcases spec with ⟨q, i, hq, hi, hh, before, found⟩ | ⟨none_, empty⟩
    · rw [wj] at hi
      obtain ⟨p, hp⟩ := R.owner hi
      have hmem : p ∈ L := List.mem_of_getElem? hp
      have probe : t.probe (fun i => (es[i]?.map (·.1)).getD 0) (kh P w k) (from_.getD (t.probeStart (kh P w k))) = some (.candidate (way t.mask (kh P w k) (c + q)) i (pr t.mask (kh P w k) (c + (q + 1)))) := by
        rw [hst, ← wj, ← pr_add]
        exact found
      rw [probe]
      dsimp only
      have slot : t.slot (way t.mask (kh P w k) (c + q)) = .live i := slot_live R.tab.ris hi
      have go : wpAny (model P w) A (searchRest a (.ref x) (kh P w k) adding fuel es t (way t.mask (kh P w k) (c + q)) i (pr t.mask (kh P w k) (c + (q + 1)))) Q E s := by
        unfold searchRest
        rw [R.entry hp]
        dsimp only
        refine wpAny_bind (wpAny_holding (wpAny_eqBool_tuple hu (tup p hmem) hx ?_))
        refine wpAny_bind (wpAny_setState_of ho hd R.fits ?_)
        dsimp only
        by_cases same : p.2 = k
        · have inL : k ∈ L.map (·.2) := List.mem_map.mpr ⟨p, hmem, same⟩
          cases adding with
          | true =>
            refine wp_if_pos (by simp [same]) ?_
            exact wpAny_pure (yes inL none (fun z => nomatch z))
          | false =>
            refine wp_if_neg (by simp) ?_
            try refine wpAny_bind (wpAny_pure ?_)
            rw [sameMem]
            dsimp only
            simp only [if_true, slot, R.entry hp]
            refine wpAny_bind (wpAny_isSame_ref_self (wpAny_bind (wpAny_pure ?_)))
            simp only [if_true]
            refine wp_if_pos (by simp [same]) ?_
            exact wpAny_pure (yes inL (some i) (fun _ => rfl))
        · refine wp_if_neg (by simp [same]) ?_
          try refine wpAny_bind (wpAny_pure ?_)
          rw [sameMem]
          dsimp only
          simp only [if_true, slot, R.entry hp]
          refine wpAny_bind (wpAny_isSame_ref_self (wpAny_bind (wpAny_pure ?_)))
          simp only [if_true]
          refine wp_if_neg (by simp [same]) ?_
          refine ih (c + (q + 1)) _ rfl (by omega) (by omega) fun i2 p2 h2 k2 => ?_
          obtain ⟨c2, a1, a2, a3⟩ := ahead i2 p2 h2 k2
          refine ⟨c2, ?_, a2, a3⟩
          rcases Nat.lt_trichotomy c2 (c + q) with z | z | z
          · exfalso
            refine before (c2 - c) i2 (by omega) (by rw [wj, show c + (c2 - c) = c2 by omega]; exact a3) ?_
            show (es[i2]?.map (·.1)).getD 0 = _
            rw [R.hashAt h2, k2]
          · exfalso
            rw [z] at a3
            have s2 := slot_live R.tab.ris a3
            rw [slot] at s2
            injection s2 with s2
            rw [← s2, hp] at h2
            exact same ((congrArg Prod.snd (Option.some.inj h2)).trans k2)
          · omega
      by_cases led : t.led = true
      · refine wp_if_neg (by simp [led]) ?_
        try refine wpAny_bind (wpAny_pure ?_)
        exact go
      · refine wp_if_pos (by simp [led]) (wpAny_bind (notSeen hx (fun y hy => ?_) ?_))
        · obtain ⟨e, he, ee⟩ := List.mem_map.mp hy
          have he2 : e ∈ es.toList := by simpa using (show e ∈ es ∧ e.1 = kh P w k by simpa using he).1
          rw [R.rows] at he2
          obtain ⟨p2, hp2, e2⟩ := List.mem_map.mp he2
          exact ⟨p2.2, p2.1, by rw [← ee, ← e2], tup p2 hp2⟩
        · refine wp_if_neg (by decide) ?_
          try refine wpAny_bind (wpAny_pure ?_)
          exact go
    · have probe : t.probe (fun i => (es[i]?.map (·.1)).getD 0) (kh P w k) (from_.getD (t.probeStart (kh P w k))) = some (.empty (way t.mask (kh P w k) K) none) := by
        have e2 : way t.mask (kh P w k) K = (nth t.mask (pr t.mask (kh P w k) c) (K - c)).j := by rw [wj, show c + (K - c) = K by omega]
        rw [hst, e2]
        exact empty
      rw [probe]
      dsimp only
      refine wpAny_pure (no fun hm => ?_)
      obtain ⟨p0, h0, hk0⟩ := List.mem_map.mp hm
      obtain ⟨i0, hi0⟩ := List.mem_iff_getElem?.mp h0
      obtain ⟨c2, a1, a2, a3⟩ := ahead i0 p0 hi0 hk0
      refine none_ (c2 - c) i0 (by omega) (by rw [wj, show c + (c2 - c) = c2 by omega]; exact a3) ?_
      show (es[i0]?.map (·.1)).getD 0 = _
      rw [R.hashAt hi0, hk0]
theorem find_at (R : PSet P w s.heap a L es ep t) (tup : ∀ p ∈ L, IsK P w s.heap p.2 p.1) {x : Addr} {k : List Str} (hx : IsK P w s.heap k x) (hu : A.units < cLine) (adding : Bool) {Q : SetFound → Shared → Prop}
    (yes : k ∈ L.map (·.2) → ∀ r : Option Nat, (adding = false → r.isSome = true) → Q (.there r) s)
    (no : ∀ K, k ∉ L.map (·.2) → way t.mask (kh P w k) K ∉ t.place.toList → (∀ c, c < K → way t.mask (kh P w k) c ∈ t.place.toList) → Q (.free (way t.mask (kh P w k) K) false) s) :
    wpAny (model P w) A (setSearch a (.ref x) (kh P w k) adding) Q E s := by
  have room := R.room
  obtain ⟨K, hKf, hK, hKb⟩ := R.tab.first (by rw [hashes_len]; omega) (kh P w k)
  have most : K < 100000 := by
    have : 10 * SetTable.turns t.mask ≤ 1420 := by
      unfold SetTable.turns
      rcases R.tab.mok with e | e | e <;> omega
    omega
  unfold setSearch
  refine find_on R tup hx hu adding hKf hK hKb yes (fun z => no K z hK hKb) 100000 0 none rfl (Nat.zero_le _) (by omega) fun i p hp hk => ?_
  have hil : i < t.place.toList.length := by
    have h1 : i < L.length := (List.getElem?_eq_some_iff.mp hp).1
    rw [Array.length_toList, R.placed]
    exact h1
  have hj := List.getElem?_eq_getElem hil
  obtain ⟨c, hc, e⟩ := R.tab.before (h := kh P w k) hK (by unfold hashes; rw [List.getElem?_map, hp, ← hk] <;> rfl) hj
  exact ⟨c, Nat.zero_le _, hc, by rw [hj, e]⟩
end
end Sv
end

section
set_option Elab.async false
set_option linter.all false
set_option maxRecDepth 100000
set_option maxHeartbeats 8000000
/-! Sets of tuples of texts: in, adding, set(tuple). -/
namespace Sv
open PySem PySem.Spec PyProof.Rows L2

section
variable {P : Program} {w : World} {A : Around} {E : Value → Shared → Prop} {s : Shared} {a : Addr} {L : List (Addr × List Str)} {es : Array (Int × Value)} {ep : Nat} {t : SetTable}
theorem PSet.later {h h' : Heap} (R : PSet P w h a L es ep t) (ha : ∀ o, h.get? a = some o → h'.get? a = some o) : PSet P w h' a L es ep t :=
  let ⟨o, ho, r⟩ := R.ob
  ⟨⟨o, ha o ho, r⟩, R.rows, R.tab, R.room, R.few⟩
theorem isK_later {h h' : Heap} {k : List Str} {b : Addr} (x : IsK P w h k b) (hk : ∀ c o, h.get? c = some o → h'.get? c = some o) : IsK P w h' k b :=
  let ⟨o, items, n, ho, r⟩ := x
  ⟨o, items, n, hk b o ho, r⟩
theorem isK_beside {h h' : Heap} {k : List Str} {b : Addr} {o : Obj} (hb : IsK P w h k b) (ho : h.get? a = some o) (hd : o.data = .set es ep t) (hs : Heap.SameBut a h h') : IsK P w h' k b := by
  obtain ⟨o2, items, n, h2, c2, d2, i2⟩ := hb
  refine ⟨o2, items, n, (hs.2 b ?_).trans h2, c2, d2, i2⟩
  rintro rfl
  rw [ho] at h2
  cases h2
  rw [hd] at d2
  cases d2

/-- x in the set -/
theorem in_pset (R : PSet P w s.heap a L es ep t) (tup : ∀ p ∈ L, IsK P w s.heap p.2 p.1) {x : Addr} {k : List Str} (hx : IsK P w s.heap k x) (hu : A.units + 3 < cLine) {Q : Value → Shared → Prop}
    (h : ∀ tk, Q (.bool (decide (k ∈ L.map (·.2)))) { s with toks := tk }) : wpAny (model P w) A (compareOp .In (.ref x) (.ref a)) Q E s := by
  obtain ⟨o, ho, hex, hd⟩ := R.ob
  have ty : s.TypeIs (.ref a) "set" := ⟨o, ho, hex.1⟩
  show wpAny _ _ (do return .bool (← contains (.ref a) (.ref x))) Q E s
  refine wpAny_bind ?_
  unfold contains
  try with_reducible refine wpAny_holding ?_
  refine wpAny_bind (wpAny_specialOf ty F.slot_set_contains.lookup ?_)
  show wpAny _ _ (if (some (Value.builtin "set.__contains__") == some Value.none) = true then _ else _) _ E s
  rw [if_neg (by rw [beq_builtin_none]; exact Bool.false_ne_true)]
  refine wpAny_bind (wpAny_callSpecialUnlessNone?_slot (name := Str.ofString "__contains__") ty F.slot_set_contains (wpAny_call_entry F.slot_set_contains ty entry_set_contains ?_ (F.args_set_contains_2 _ _)))
  unfold Builtin.«frozenset.__contains__» Builtin.Frozenset.oneOther
  simp only [List.isEmpty_nil, bind_assoc]
  unfold Builtin.Frozenset.addrOf Builtin.Frozenset.withSetAsKey setContains
  refine wpAny_bind (wpAny_pure ?_)
  try dsimp only
  refine wpAny_bind (wpAny_pure ?_)
  try dsimp only
  refine wpAny_bind (wpAny_tryCatch ?_)
  refine wpAny_holding ?_
  refine wpAny_bind (wpAny_pyHash_tuple (by show A.units + 1 < cLine; omega) hx ?_)
  unfold setFind
  rw [show (100000 : Nat) = 99999 + 1 from rfl]
  unfold setFindIn
  refine wpAny_bind (wpAny_bind (wpAny_setState_of (s := { s with toks := s.toks + (k.length + 1) }) ho hd R.fits ?_))
  dsimp only
  refine wp_if_neg (by simp [byScan, Value.scannable]) ?_
  try refine wpAny_bind (wpAny_pure ?_)
  refine wpAny_bind (find_at (s := { s with toks := s.toks + (k.length + 1) }) R tup hx (by show A.units + 1 < cLine; omega) false (fun hm r hr => ?_) fun K hm _ _ => ?_)
  · dsimp only
    refine wpAny_pure (wpAny_pure ?_)
    show wpAny _ _ (ret (Value.bool r.isSome)) _ _ _
    rw [hr rfl]
    have z := h (s.toks + (k.length + 1))
    rw [decide_eq_true hm] at z
    exact wpAny_pure ⟨_, rfl, wpAny_truthy_bool (wpAny_pure z)⟩
  · dsimp only
    refine wpAny_pure (wpAny_pure ?_)
    have z := h (s.toks + (k.length + 1))
    rw [decide_eq_false hm] at z
    show wpAny _ _ (ret (Value.bool false)) _ _ _
    exact wpAny_pure ⟨_, rfl, wpAny_truthy_bool (wpAny_pure z)⟩

/-! ### adding -/
/-- the entries taken in another order -/
theorem taken (es : Array (Int × Value)) (hr : es.toList = entries P w L) (order : Array Nat) (hp : order.toList.Perm (List.range L.length)) :
    ∃ L2 : List (Addr × List Str), (order.filterMap (es[·]?)).toList = entries P w L2 ∧ L2.Perm L ∧ hashes P w L2 = order.toList.map fun i => (es.map (·.1)).getD i 0 := by
  have ent : ∀ (i : Nat) (h : i < L.length), es[i]? = some (kh P w (L[i]).2, Value.ref (L[i]).1) := fun i h => by
    rw [← Array.getElem?_toList, hr]
    unfold entries
    rw [List.getElem?_map, List.getElem?_eq_getElem h] <;> rfl
  have one : ∀ l : List Nat, (∀ i ∈ l, i < L.length) → l.filterMap (fun i => es[i]?) = entries P w (l.filterMap fun i => L[i]?) ∧ hashes P w (l.filterMap fun i => L[i]?) = l.map fun i => (es.map (·.1)).getD i 0 := by
    intro l
    induction l with
    | nil => exact fun _ => ⟨rfl, rfl⟩
    | cons i l ih =>
      intro hl
      have hi := hl i List.mem_cons_self
      obtain ⟨e1, e2⟩ := ih fun j hj => hl j (List.mem_cons_of_mem _ hj)
      rw [List.filterMap_cons_some (ent i hi), List.filterMap_cons_some (List.getElem?_eq_getElem hi), e1]
      refine ⟨rfl, ?_⟩
      unfold hashes at e2 ⊢
      rw [List.map_cons, List.map_cons, e2]
      refine congrArg (· :: _) ?_
      have e5 : (es.map (·.1))[i]? = some (kh P w (L[i]).2) := by rw [Array.getElem?_map, ent i hi] <;> rfl
      simp [Array.getD_eq_getD_getElem?, e5]
  obtain ⟨e1, e2⟩ := one order.toList fun i hi => List.mem_range.mp (hp.mem_iff.mp hi)
  refine ⟨_, by first | (rw [Array.toList_filterMap]; exact e1) | simpa using e1, ?_, e2⟩
  have whole : ∀ n, n ≤ L.length → (List.range n).filterMap (fun i => L[i]?) = L.take n := by
    intro n
    induction n with
    | zero => intro _; rfl
    | succ n ih =>
      intro hn
      rw [List.range_succ, List.filterMap_append, ih (Nat.le_of_lt hn), List.take_succ, List.getElem?_eq_getElem hn, List.filterMap_cons_some (List.getElem?_eq_getElem hn)] <;> rfl
  have z := hp.filterMap fun i => L[i]?
  rw [whole L.length (Nat.le_refl _), List.take_length] at z
  exact z
/-- the table is laid anew, larger -/
theorem relaid {o : Obj} (ho : s.heap.get? a = some o) (hex : o.ExactSet) (hd : o.data = .set es ep t) (hr : es.toList = entries P w L) (hsz : t.place.size = es.size) (hdm : t.dummies = #[]) (hfl : es.size ≤ t.mask) (few : L.length < 64)
    {wanted M : Nat} (hw : SetTable.sizeAbove wanted - 1 = M) (hM : MaskOk M) (hw2 : SetTable.sizeAbove wanted ≤ 128) (hn : L.length * 5 < M * 3) {Q : Unit → Shared → Prop}
    (hQ : ∀ h2 L2 es2 ep2 t2, Heap.SameBut a s.heap h2 → PSet P w h2 a L2 es2 ep2 t2 → L2.Perm L → Q () { s with heap := h2 }) : wpAny (model P w) A (setRelay a wanted) Q E s := by
  have len : es.size = L.length := by
    have q := congrArg List.length hr
    unfold entries at q
    simpa using q
  obtain ⟨t2, order, e, hp, T, em, el, epl, ed⟩ := relaid_ok t (hs := es.map (·.1)) (wanted := wanted) hw hM (by rw [Array.size_map, len]; omega)
  rw [Array.size_map, len] at hp
  obtain ⟨L2, r1, r2, r3⟩ := taken es hr order hp
  rw [← r3] at T
  have len2 : (order.filterMap (es[·]?)).size = es.size := by
    have q := congrArg List.length r1
    unfold entries at q
    rw [Array.length_toList, List.length_map, r2.length_eq] at q
    rw [q, len]
  rw [setRelay_eq]
  refine wpAny_bind (wpAny_setState_of ho hd (fits_of hsz hdm hfl) ?_)
  dsimp only
  refine wp_if_neg (by rw [sizeLine_eq]; omega) ?_
  try refine wpAny_bind (wpAny_pure ?_)
  rw [e]
  dsimp only
  refine wpAny_bind (wp_if_neg (by rw [len2]; simp) ?_)
  try refine wpAny_bind (wpAny_pure ?_)
  refine wpAny_pure ?_
  dsimp only
  refine wpAny_storeSet_of ho hd ?_ (by rw [len2, len, sizeLine_eq]; omega)
  exact hQ _ L2 (order.filterMap (es[·]?)) (ep + 1) t2 (Heap.SameBut.update ..) ⟨⟨_, store_at ho hd, ⟨hex.1, hex.2.1, hex.2.2⟩, rfl⟩, r1, T, by rw [r2.length_eq, em]; exact hn, by rw [r2.length_eq]; exact few⟩ r2
/-- one more, or the same -/
theorem added (R : PSet P w s.heap a L es ep t) (tup : ∀ p ∈ L, IsK P w s.heap p.2 p.1) {x : Addr} {k : List Str} (hx : IsK P w s.heap k x) (hu : A.units < cLine) (hfew : L.length + 1 < 64) {Q : Bool → Shared → Prop}
    (hQ : ∀ b h2 L2 es2 ep2 t2, Heap.SameBut a s.heap h2 → PSet P w h2 a L2 es2 ep2 t2 → (L2 = L ∧ k ∈ L.map (·.2)) ∨ L2.Perm ((x, k) :: L) → Q b { s with heap := h2 }) : wpAny (model P w) A (setAddHashed a (.ref x) (kh P w k)) Q E s := by
  obtain ⟨o, ho, hex, hd⟩ := R.ob
  have len := R.size
  have room := R.room
  unfold setAddHashed
  refine wpAny_holding ?_
  rw [show (100000 : Nat) = 99999 + 1 from rfl, setAddHashedIn_succ]
  refine wpAny_bind (wpAny_setState_of ho hd R.fits ?_)
  dsimp only
  refine wp_if_neg (by simp [byScan, Value.scannable]) ?_
  try refine wpAny_bind (wpAny_pure ?_)
  refine wpAny_bind (find_at R tup hx hu true (fun hm r _ => ?_) fun K hm hK hb => ?_)
  · dsimp only
    exact wpAny_pure (hQ false s.heap L es ep t (Heap.SameBut.refl a s.heap) R (.inl ⟨rfl, hm⟩))
  · dsimp only
    refine wpAny_bind (wpAny_setState_of ho hd R.fits ?_)
    dsimp only
    obtain ⟨q1, q2, q3, q4, q5, q6, q7, q8, q9⟩ := R.tab.put hK hb
    generalize hpt : t.put (way t.mask (kh P w k) K) = pt at q1 q3 q4 q9 ⊢
    obtain ⟨t1, p⟩ := pt
    dsimp only at q1 q3 q4 q9 ⊢
    subst q1
    rw [hashes_len] at q2 q9
    have hin : (SetTable.insertAt es (SetTable.below t.place (way t.mask (kh P w k) K)) (kh P w k, Value.ref x)).toList = entries P w (L.take (SetTable.below t.place (way t.mask (kh P w k) K)) ++ (x, k) :: L.drop (SetTable.below t.place (way t.mask (kh P w k) K))) := by
      rw [SetTable.toList_insertAt, R.rows]
      unfold entries
      rw [List.map_append, List.map_cons, List.map_take, List.map_drop]
    generalize hpp : SetTable.below t.place (way t.mask (kh P w k) K) = p at q2 q3 hin ⊢
    have pm := put_perm L p (x, k)
    have len1 : (L.take p ++ (x, k) :: L.drop p).length = L.length + 1 := pm.length_eq
    have hhs : hashes P w (L.take p ++ (x, k) :: L.drop p) = (hashes P w L).take p ++ kh P w k :: (hashes P w L).drop p := by
      unfold hashes
      rw [List.map_append, List.map_cons, List.map_take, List.map_drop]
    rw [← hhs] at q3
    have hes : (SetTable.insertAt es p (kh P w k, Value.ref x)).size = L.length + 1 := by
      have q := congrArg List.length hin
      unfold entries at q
      rw [Array.length_toList, List.length_map, len1] at q
      exact q
    -- whether the hash is by value changes only a flag
    have store : ∀ byV : Bool, wpAny (model P w) A (do
        let t := if byV = true then t1 else { t1 with plain := false }
        storeSet a (SetTable.insertAt es p (kh P w k, Value.ref x)) t
        if (!false && t.tooFull) = true then setRelay a (SetTable.grown (es.size + 1))
        return true) Q E s := by
      intro byV
      have same : ∃ t3 : SetTable, (if byV = true then t1 else { t1 with plain := false }) = t3 ∧ t3.place = t1.place ∧ t3.dummies = t1.dummies ∧ t3.mask = t1.mask ∧ t3.tooFull = t1.tooFull := by
        cases byV with
        | true => exact ⟨t1, rfl, rfl, rfl, rfl, rfl⟩
        | false => exact ⟨{ t1 with plain := false }, rfl, rfl, rfl, rfl, rfl⟩
      obtain ⟨t3, e3, z1, z2, z3, z4⟩ := same
      dsimp only
      rw [e3]
      have q3' : TabOk t3 (hashes P w (L.take p ++ (x, k) :: L.drop p)) := by
        obtain ⟨b1, b2, b3, b4, b5, b6⟩ := q3
        refine ⟨by rw [z1]; exact b1, by rw [z2]; exact b2, by rw [z1]; exact b3, by rw [z3]; exact b4, by rw [z1, z3]; exact b5, ?_⟩
        intro i h j
        rw [z1, z3]
        exact b6 i h j
      generalize SetTable.insertAt es p (kh P w k, Value.ref x) = es1 at hin hes ⊢
      generalize L.take p ++ (x, k) :: L.drop p = L1 at pm len1 q3' hin
      refine wpAny_bind (wpAny_storeSet_of ho hd ?_ (by rw [hes, sizeLine_eq]; omega))
      have sb : Heap.SameBut a s.heap (s.heap.update a (Obj.putSet es1 t3)) := Heap.SameBut.update ..
      have ho1 := store_at (es' := es1) (t' := t3) ho hd
      generalize s.heap.update a (Obj.putSet es1 t3) = h1 at sb ho1 ⊢
      have full_iff : t3.tooFull = decide ((L.length + 1) * 5 ≥ t.mask * 3) := by
        rw [z4]
        unfold SetTable.tooFull
        rw [q9, q4]
      by_cases hf : t3.tooFull = true
      · first
          | (refine wpAny_bind ?_; refine wp_if_pos (by simp [hf]) ?_)
          | (refine wp_if_pos (by simp [hf]) ?_; refine wpAny_bind ?_)
        have hfull : (L.length + 1) * 5 ≥ t.mask * 3 := by rw [full_iff] at hf; exact of_decide_eq_true hf
        rw [len]
        have hsz1 : t3.place.size = es1.size := by
          have q := q3'.sz
          rw [hashes_len, len1] at q
          rw [q, hes]
        have two : (t.mask = 7 ∧ L.length = 4) ∨ (t.mask = 31 ∧ L.length = 18) := by
          rcases R.tab.mok with e | e | e
          · left; rw [e] at hfull room; exact ⟨e, by omega⟩
          · right; rw [e] at hfull room; exact ⟨e, by omega⟩
          · exfalso; rw [e] at hfull; omega
        have go : ∀ M, SetTable.sizeAbove (SetTable.grown (L.length + 1)) - 1 = M → MaskOk M → SetTable.sizeAbove (SetTable.grown (L.length + 1)) ≤ 128 → (L.length + 1) * 5 < M * 3 →
            wpAny (model P w) A (setRelay a (SetTable.grown (L.length + 1))) (fun _ s' => wpAny (model P w) A (pure true) Q E s') E { s with heap := h1 } := fun M a1 a2 a3 a4 => by
          refine relaid (s := { s with heap := h1 }) ho1 ⟨hex.1, hex.2.1, hex.2.2⟩ rfl hin hsz1 q3'.dm (by rw [hes, z3, q4]; rcases two with ⟨e, e2⟩ | ⟨e, e2⟩ <;> omega) (by rw [len1]; exact hfew) a1 a2 a3 (by rw [len1]; exact a4) ?_
          intro h2 L2 es2 ep2 t2 sb2 R2 pm2
          exact wpAny_pure (hQ true h2 L2 es2 ep2 t2 (sb.trans sb2) R2 (.inr (pm2.trans pm)))
        rcases two with ⟨_, e2⟩ | ⟨_, e2⟩
        · refine go 31 (by rw [e2, size_20]) (.inr (.inl rfl)) (by rw [e2, size_20]; decide) (by omega)
        · refine go 127 (by rw [e2, size_76]) (.inr (.inr rfl)) (by rw [e2, size_76]; decide) (by omega)
      · first
          | refine wp_if_neg (by simp [hf]) ?_
          | (refine wpAny_bind ?_; refine wp_if_neg (by simp [hf]) ?_; refine wpAny_pure ?_)
        have hroom : (L.length + 1) * 5 < t.mask * 3 := by
          have z : ¬ decide ((L.length + 1) * 5 ≥ t.mask * 3) = true := by rw [← full_iff]; exact hf
          have z := of_decide_eq_false (by simpa using z : decide ((L.length + 1) * 5 ≥ t.mask * 3) = false)
          omega
        exact wpAny_pure (hQ true h1 L1 es1 (ep + 1) t3 sb ⟨⟨_, ho1, ⟨hex.1, hex.2.1, hex.2.2⟩, rfl⟩, hin, q3', by rw [len1, z3, q4]; exact hroom, by rw [len1]; exact hfew⟩ (.inr pm))
    by_cases hpl : t1.plain = true
    · first
        | (refine wpAny_bind ?_; refine wp_if_pos hpl ?_; exact someByValue hx fun c => store c)
        | exact wp_if_pos hpl (wpAny_bind (someByValue hx fun c => store c))
    · first
        | (refine wpAny_bind ?_; refine wp_if_neg hpl ?_; exact wpAny_pure (store true))
        | exact wp_if_neg hpl (wpAny_bind (wpAny_pure (store true)))
end
end Sv
end

section
set_option Elab.async false
set_option linter.all false
set_option maxRecDepth 100000
set_option maxHeartbeats 8000000
/-! set(t), t a tuple of tuples of texts; the set as a tracked thing; in. -/
namespace Sv
open PySem PySem.Spec PyProof.Rows L2

abbrev emptySet (w : World) : Obj := { cls := .type "set", dict := none, data := .set #[] 0 (.fresh 0 0 (!w.params.followText "set-order")) }
/-- what a set has taken of the first i items -/
structure Took (ks : List (Addr × List Str)) (i : Nat) (L : List (Addr × List Str)) : Prop where
  from_ : ∀ p ∈ L, p ∈ ks.take i
  all : ∀ p ∈ ks.take i, p.2 ∈ L.map (·.2)
  len : L.length ≤ i
section
variable {P : Program} {w : World} {A : Around} {E : Value → Shared → Prop} {s : Shared}
theorem Took.next {ks L L2 : List (Addr × List Str)} {i : Nat} {x : Addr × List Str} (g : Took ks i L) (h : ks[i]? = some x) (c : (L2 = L ∧ x.2 ∈ L.map (·.2)) ∨ L2.Perm (x :: L)) : Took ks (i + 1) L2 := by
  have e := take_next h
  have end_ : ∀ {p}, p ∈ ks.take (i + 1) → p ∈ ks.take i ∨ p = x := fun {p} hp => by
    rw [e] at hp
    rcases List.mem_append.mp hp with z | z
    · exact .inl z
    · exact .inr (List.mem_singleton.mp z)
  rcases c with ⟨rfl, hm⟩ | pm
  · refine ⟨fun p hp => ?_, fun p hp => ?_, Nat.le_succ_of_le g.len⟩
    · rw [e]; exact List.mem_append_left _ (g.from_ p hp)
    · rcases end_ hp with z | rfl
      · exact g.all p z
      · exact hm
  · refine ⟨fun p hp => ?_, fun p hp => ?_, ?_⟩
    · rw [e]
      rcases List.mem_cons.mp (pm.mem_iff.mp hp) with rfl | z
      · exact List.mem_append_right _ (List.mem_singleton.mpr rfl)
      · exact List.mem_append_left _ (g.from_ p z)
    · rw [(pm.map (·.2)).mem_iff, List.map_cons]
      rcases end_ hp with z | rfl
      · exact List.mem_cons_of_mem _ (g.all p z)
      · exact List.mem_cons_self
    · rw [pm.length_eq, List.length_cons]
      exact Nat.succ_le_succ g.len
/-- the set's own loop over the tuple -/
theorem fill_loop (hh : A.handled = none) {S I l : Addr} {ks : List (Addr × List Str)} {items : Array Value} (hit : items.toList = ks.map fun p => Value.ref p.1) (few : ks.length < 64) (hu : A.units + 1 < cLine) {h0 : Heap} (hk : ∀ p ∈ ks, IsK P w h0 p.2 p.1)
    (nS : h0.get? S = none) (nI : h0.get? I = none) (hSI : S ≠ I) (hlI : l ≠ I) (hlS : l ≠ S) {R : Result → Shared → Prop} :
    ∀ (n i : Nat) (h : Heap) (tk : Nat), ks.length - i = n → i ≤ ks.length → h.IsTupleIter I l i → h.IsTuple l items → (∀ b o, h0.get? b = some o → h.get? b = some o) → (∃ L es ep t, PSet P w h S L es ep t ∧ Took ks i L) →
      (∀ h' tk' L es ep t, PSet P w h' S L es ep t → Took ks ks.length L → (∀ b o, h0.get? b = some o → h'.get? b = some o) → R (.ok (.ret .none)) { s with heap := h', toks := tk' }) →
      codeAny (model P w) A (.builtin "set.update.loop" ⟨[.ref S, .ref I], []⟩) R { s with heap := h, toks := tk } := by
  have hsz : items.size = ks.length := by have q := congrArg List.length hit; rw [Array.length_toList, List.length_map] at q; exact q
  intro n
  induction n with
  | zero =>
    intro i h tk hn hi it tu kp ⟨L, es, ep, t, R0, g⟩ hR
    obtain rfl : i = ks.length := by omega
    refine codeAny_builtin F.entry_set_update_loop ?_
    rw [Around.under_plainId F.plain_set_update_loop _]
    show wpAny _ A.in1 (pyNext (.ref I) >>= _) _ _ { s with heap := h, toks := tk }
    refine wpAny_bind (wpAny_pyNext_tuple_end (by simpa using hh) it tu (Array.getElem?_eq_none_iff.mpr (by omega)) fun h' ex => ?_)
    show wpAny _ A.in1 (ret Value.none) _ _ { s with heap := h', toks := tk }
    have kp2 : ∀ b o, h0.get? b = some o → h'.get? b = some o := fun b o e => ex b o (fun z => by rw [z, nI] at e; cases e) (kp b o e)
    exact wpAny_pure (hR h' tk L es ep t (R0.later fun o e => ex S o hSI e) g kp2)
  | succ n ih =>
    intro i h tk hn hi it tu kp ⟨L, es, ep, t, R0, g⟩ hR
    have hlt : i < ks.length := by omega
    have hp : ks[i]? = some ks[i] := List.getElem?_eq_getElem hlt
    generalize ks[i] = p at hp
    have hx : items[i]? = some (Value.ref p.1) := by
      rw [← Array.getElem?_toList, hit, List.getElem?_map, hp] <;> rfl
    refine codeAny_builtin F.entry_set_update_loop ?_
    rw [Around.under_plainId F.plain_set_update_loop _]
    show wpAny _ A.in1 (pyNext (.ref I) >>= _) _ _ { s with heap := h, toks := tk }
    refine wpAny_bind (wpAny_pyNext_tuple_item it tu hx fun h1 it1 sb1 => ?_)
    have kp1 : ∀ b o, h0.get? b = some o → h1.get? b = some o := fun b o e => (sb1.2 b (fun z => by rw [z, nI] at e; cases e)).trans (kp b o e)
    have R1 : PSet P w h1 S L es ep t := R0.later fun o e => (sb1.2 S hSI).trans e
    have in_ks : ∀ q ∈ L, q ∈ ks := fun q hq => List.mem_of_mem_take (g.from_ q hq)
    have kx : IsK P w h1 p.2 p.1 := isK_later (hk p (List.mem_of_getElem? hp)) kp1
    show wpAny _ A.in1 (holding [Value.ref p.1] (setAdd S (.ref p.1)) >>= _) _ _ { s with heap := h1, toks := tk }
    refine wpAny_bind (wpAny_holding ?_)
    unfold setAdd
    refine wpAny_holding ?_
    refine wpAny_bind (wpAny_pyHash_tuple hu kx ?_)
    refine added (s := { s with heap := h1, toks := tk + (p.2.length + 1) }) R1 (fun q hq => isK_later (hk q (in_ks q hq)) kp1) kx hu (by have := g.len; omega) fun b h2 L2 es2 ep2 t2 sb2 R2 c => ?_
    have kp2 : ∀ b o, h0.get? b = some o → h2.get? b = some o := fun b o e => (sb2.2 b (fun z => by rw [z, nS] at e; cases e)).trans (kp1 b o e)
    have tu1 : h1.IsTuple l items := by
      obtain ⟨o, ho, r⟩ := tu
      exact ⟨o, (sb1.2 l hlI).trans ho, r⟩
    have tu2 : h2.IsTuple l items := by
      obtain ⟨o, ho, r⟩ := tu1
      exact ⟨o, (sb2.2 l hlS).trans ho, r⟩
    have it2 : h2.IsTupleIter I l (i + 1) := it1.at fun o e => (sb2.2 I (Ne.symm hSI)).trans e
    exact wpAny_pure ⟨plainId_quiet F.plain_set_update_loop _, ih (i + 1) h2 _ (by omega) hlt it2 tu2 kp2 ⟨L2, es2, ep2, t2, R2, g.next hp c⟩ hR⟩
/-- an empty one -/
theorem pset_new {h : Heap} {a : Addr} (ho : h.get? a = some (emptySet w)) : PSet P w h a [] #[] 0 (.fresh 0 0 (!w.params.followText "set-order")) where
  ob := ⟨_, ho, ⟨rfl, rfl, rfl⟩, rfl⟩
  rows := rfl
  tab := ⟨List.Pairwise.nil, rfl, rfl, .inl rfl, fun x hx => (by cases hx), fun i h j hi => (by simp [hashes] at hi)⟩
  room := by show 0 * 5 < 7 * 3; decide
  few := by show 0 < 64; decide

/-- set(t) -/
theorem call_set_of {l : Addr} {items : Array Value} (ks : List (Addr × List Str)) {Q : Value → Shared → Prop} (hh : A.handled = none) (hl : IsTup s.heap l items) (hit : items.toList = ks.map fun p => Value.ref p.1)
    (hk : ∀ p ∈ ks, IsK P w s.heap p.2 p.1) (few : ks.length < 64) (hu : A.units + 8 < cLine)
    (h : ∀ (h' : Heap) (tk : Nat) L es ep t, PSet P w h' s.heap.objs.size L es ep t → Took ks ks.length L → (∀ b o, s.heap.get? b = some o → h'.get? b = some o) → Q (.ref s.heap.objs.size) { s with heap := h', toks := tk }) :
    wpAny (model P w) A (call (.type "set") [.ref l]) Q E s := by
  obtain ⟨c, tl, hmro⟩ := F.called_set.mro
  have hmade := F.called_set.made
  have hsub := F.called_set.sub
  have h1 := F.called_set.notType
  have h2 := F.called_set.canCreate
  have hct := F.typeCall_set_1 (.ref l)
  refine wpAny_call (codeAny_of_tree ?_)
  show wpAny _ _ (callAny (.type "set") _) _ _ _
  refine wpAny_pure ⟨Code.quiet_builtin _ (by decide +kernel), codeAny_builtin F.entry_type_call ?_⟩
  rw [Around.under_plain (weight_type_call_type "set" [.ref l] []) rfl]
  repeat (any_goals (first | assumption | wp_step))
  refine codeAny_mono (code_set_led1 (.ref l) (E := E) (Q₁ := fun obj s₁ => obj = .ref s.heap.objs.size ∧ s₁ = { s with heap := s.heap.push (emptySet w) }) ⟨rfl, rfl⟩) fun r s₁ hr => ?_
  cases r with
  | error e => exact hr
  | ok fl =>
    cases fl with
    | ret obj =>
      obtain ⟨rfl, rfl⟩ := hr
      have hS : (s.heap.push (emptySet w)).get? s.heap.objs.size = some (emptySet w) := Heap.get?_push_size _ rfl
      have hT : Shared.TypeIs { s with heap := s.heap.push (emptySet w) } (.ref s.heap.objs.size) "set" := ⟨_, hS, rfl⟩
      have hli := F.called_set.init.lookup
      have hbi := F.called_set.init.bind (.ref s.heap.objs.size)
      repeat (any_goals (first | assumption | wp_step))
      refine codeAny_mono (codeAny_call_builtin (R := wants (fun r s₂ => r = .none ∧ ∃ h' tk L es ep t, s₂ = { s with heap := h', toks := tk } ∧ PSet P w h' s.heap.objs.size L es ep t ∧ Took ks ks.length L ∧ (∀ b o, s.heap.get? b = some o → h'.get? b = some o)) E)
        F.called_set.init.plain F.entry_set_init (check_set_init_1 hT ?_)) fun r₂ s₂ hr₂ => ?_
      · obtain ⟨ol, hol, hcl, nl, hdl⟩ := hl
        obtain ⟨ocls, odict, odata, oslots⟩ := ol
        simp only at hcl hdl
        subst hcl hdl
        have hol' : (s.heap.push (emptySet w)).get? l = some { cls := .type "tuple", dict := odict, data := .seq items nl, slots := oslots } := Heap.get?_push_of_some _ hol
        have hsls := F.sub_tuple_set
        have hslf := F.sub_tuple_frozenset
        have hne : (Value.type "tuple" == Value.type "dict") = false := by decide
        have hl1 : (s.heap.push (emptySet w)).IsTuple l items := ⟨_, hol', rfl, nl, rfl⟩
        unfold Builtin.«set.__init__» noKeywords Builtin.Frozenset.updateFrom
        generalize hPI : pyIter = PI
        wp_walk
        subst hPI
        refine wpAny_pyIter_tuple hl1 ?_
        refine wpAny_bind (wpAny_runValue ?_)
        have lS : l < s.heap.objs.size := Heap.lt_size hol
        have zS : (s.heap.push (emptySet w)).objs.size = s.heap.objs.size + 1 := Heap.size_push ..
        have free : ∀ b, s.heap.objs.size ≤ b → s.heap.get? b = none := fun b hb => Heap.get?_none_of_le hb
        refine fill_loop (h0 := s.heap) (s := s) (by simp [hh]) hit few ?_ hk (free _ (Nat.le_refl _)) (free _ (by rw [zS]; exact Nat.le_succ _)) (by rw [zS]; exact Nat.ne_of_lt (Nat.lt_succ_self _)) (by rw [zS]; exact Nat.ne_of_lt (Nat.lt_succ_of_lt lS)) (Nat.ne_of_lt lS) ks.length 0 _ _ rfl (Nat.zero_le _)
          ⟨_, Heap.get?_push_size _ rfl, rfl, rfl⟩ (hl1.push _) (fun b o e => Heap.get?_push_of_some _ (Heap.get?_push_of_some _ e)) ⟨[], #[], 0, _, pset_new (Heap.get?_push_of_some _ hS), fun p hp => (by cases hp), fun p hp => (by simp at hp), Nat.le_refl _⟩ fun h' tk' L es ep t R2 g kp => ?_
        · show A.units + 1 + 1 + 1 < cLine
          omega
        · show wpAny _ _ _ _ _ _
          refine wpAny_pure ?_
          show wpAny _ _ (ret Value.none) _ _ _
          exact wpAny_pure ⟨rfl, h', tk', L, es, ep, t, rfl, R2, g, kp⟩
      · cases r₂ with
        | error e => exact hr₂
        | ok fl₂ =>
          cases fl₂ with
          | ret r =>
            obtain ⟨rfl, h', tk, L, es, ep, t, rfl, R2, g, kp⟩ := hr₂
            repeat (any_goals (first | assumption | wp_step))
            exact h _ _ _ _ _ _ R2 g kp
          | _ => exact hr₂.elim
    | _ => exact hr.elim
end

/-! ### over the layer -/
def SetP (P : Program) (w : World) (a : Addr) (L : List (Addr × List Str)) : HO := .ext fun h => ∃ es ep t, PSet P w h a L es ep t
theorem setP_ok {P : Program} {w : World} {H : Hp} {h : Heap} {a : Addr} {L : List (Addr × List Str)} {es : Array (Int × Value)} {ep : Nat} {t : SetTable} (R : PSet P w h a L es ep t) : ObjOk P w H h a (SetP P w a L) :=
  ⟨⟨es, ep, t, R⟩, let ⟨o, ho, _⟩ := R.ob; ⟨o, ho⟩, fun _ _ ⟨es2, ep2, t2, R2⟩ k => ⟨es2, ep2, t2, R2.later k⟩⟩
theorem items_of {P : Program} {w : World} : ∀ {k : List Str} {us : List Value}, Vals (k.map V.str) us → ItemsAre (SKd P w) k us
  | [], _, .nil => .nil
  | x :: k, _, .cons r t => by
    obtain ⟨tk, rfl⟩ := r
    exact .cons (by show Value.isStrOf x (.str x tk) = true; simp [Value.isStrOf]) (items_of t)
theorem refs_of {ks : List (Addr × List Str)} : ∀ {us : List Value}, Vals (ks.map fun p => V.ref p.1) us → us = ks.map fun p => Value.ref p.1 := by
  induction ks with
  | nil => intro us r; cases r; rfl
  | cons p ks ih =>
    intro us r
    cases r with
    | cons r1 r2 =>
      cases r1
      rw [ih r2] <;> rfl
section
variable {X : Cx}
theorem isK_of {pins : List (Addr × Obj)} {σ : L2.St} {H : Hp} {s : Shared} {b : Addr} {k : List Str} (I : Inv X pins σ H s) (h : SqT X.K H b (k.map V.str)) : IsK X.prog X.w s.heap k b := by
  obtain ⟨its, r, ⟨o, ho, hc, n, hd⟩, _⟩ := I.tuple h
  exact ⟨o, its.toArray, n, ho, hc, hd, by simpa using items_of r⟩
/-- set(t): all keys of t, and no other -/
def rSetP (K : PySem.W.Frag) (P : Program) (w : World) : List V → Hp → VK → Prop := fun xs H Q => ∃ (l : Addr) (ks : List (Addr × List Str)), xs = [V.ref l] ∧ SqT K H l (ks.map fun p => V.ref p.1) ∧ (∀ p ∈ ks, SqT K H p.1 (p.2.map V.str)) ∧ ks.length < 64 ∧
  ∀ a L, H a = none → (∀ p ∈ L, p ∈ ks) → (∀ p ∈ ks, p.2 ∈ L.map (·.2)) → Q (.ref a) (upd H a (SetP P w a L))
theorem cr_setP (hc : X.calm = true) (hu : X.A.units + 64 < cLine) : CallR X (.type "set") (rSetP X.K X.prog X.w) := by
  intro pins s σ H xs us Q I r h
  obtain ⟨l, ks, rfl, hl, hk, few, q⟩ := h
  rw [Vals.ref1 r]
  obtain ⟨its, rv, tu, hz⟩ := I.tuple hl
  refine call_set_of (P := X.prog) (w := X.w) ks (I.ok.hd hc) tu (by simpa using refs_of rv) (fun p hp => isK_of I (hk p hp)) few (by omega) fun h' tk L es ep t R g kp => ?_
  refine ⟨.ref s.heap.objs.size, upd H s.heap.objs.size (SetP X.prog X.w s.heap.objs.size L), I.laid (t' := tk) kp (Nat.le_refl _) (setP_ok R), rfl, q _ L (I.hok.fresh (Nat.le_refl _)) (fun p hp => List.mem_of_mem_take (g.from_ p hp)) fun p hp => g.all p (by rw [List.take_length]; exact hp)⟩
/-- x in s -/
def rInP (K : PySem.W.Frag) (P : Program) (w : World) : R2 := fun x y H Q => ∃ (b a : Addr) (k : List Str) (L : List (Addr × List Str)), x = .ref b ∧ y = .ref a ∧ SqT K H b (k.map V.str) ∧ H a = some (SetP P w a L) ∧ (∀ p ∈ L, SqT K H p.1 (p.2.map V.str)) ∧ Q (.bl (decide (k ∈ L.map (·.2)))) H
theorem op_inP (hu : X.A.units + 64 < cLine) : OpR X (compareOp .In) (rInP X.K X.prog X.w) := by
  intro pins s σ H x y v u Q I rx ry h
  obtain ⟨b, a, k, L, rfl, rfl, hb, ha, hL, q⟩ := h
  cases rx
  cases ry
  obtain ⟨⟨es, ep, t, R⟩, _, _⟩ := I.hok a _ ha
  exact in_pset R (fun p hp => isK_of I (hL p hp)) (isK_of I hb) (by omega) fun tk => ⟨.bl _, H, I.tok tk, rfl, q⟩
end
end Sv
end

section
set_option Elab.async false
set_option linter.all false
set_option maxRecDepth 100000
set_option maxHeartbeats 4000000
/-! enumerate(t), t a tuple. -/
namespace Sv
open PySem PySem.Spec PyProof.Rows L2

theorem meets_enum1 {v : Value} {o : Obj} {G : Heap → Prop} (B : Begins v o G) :
    Meets (Builtin.«enumerate.__new__» ⟨[.type "enumerate", v], []⟩) (fun _ R s => G s.heap ∧ R (.ok (.ret (.ref (s.heap.push o).objs.size))) { s with heap := (s.heap.push o).push { cls := .type "enumerate", data := .fields #[.none, .bool false, .ref s.heap.objs.size, rawInt 0, .none, .none] } }) :=
  .of_wp fun prog w A R s h => by
    obtain ⟨hp, g, d, tk, os⟩ := s
    obtain ⟨h1, h⟩ := h
    have hsub := sub_enumerate
    have it : ∀ {A' : Around} {E : Value → Shared → Prop} {Q : Value → Shared → Prop}, Q (.ref hp.objs.size) ⟨hp.push o, g, d, tk, os⟩ → wpAny (model prog w) A' (pyIter v) Q E ⟨hp, g, d, tk, os⟩ := fun q => B.iter prog w _ _ ⟨hp, g, d, tk, os⟩ _ h1 q
    wp_walk using it
    refine wpAny_stack_any fun st => wpAny_pure ?_
    split
    · rename_i c _ _ _ _ _
      cases (c == Value.type "enumerate") <;> (wp_walk using it; exact ⟨_, rfl, h⟩)
    · wp_walk using it
      exact ⟨_, rfl, h⟩
section
variable {prog : Program} {w : World} {A : Around} {E : Value → Shared → Prop} {s : Shared}
theorem enum1 {v : Value} {o : Obj} {G : Heap → Prop} {Q : Value → Shared → Prop} (B : Begins v o G) (h1 : G s.heap)
    (h : ∀ h', IsEnum h' (s.heap.objs.size + 1) s.heap.objs.size 0 .none → h'.get? s.heap.objs.size = some o → (∀ b o, s.heap.get? b = some o → h'.get? b = some o) → Q (.ref (s.heap.objs.size + 1)) { s with heap := h' }) :
    wpAny (model prog w) A (call (.type "enumerate") [v]) Q E s := by
  refine callType_new F.called_enumerate (by decide) (F.typeCall_enumerate_1 _) (F.newCall_enumerate_1 _) (fun obj => F.args_object_init_2 obj _) F.entry_enumerate_new (meets_enum1 B) ⟨h1, ?_⟩
  have hz : (s.heap.push o).objs.size = s.heap.objs.size + 1 := Heap.size_push ..
  show _ ∧ _
  rw [hz]
  have he : IsEnum ((s.heap.push o).push { cls := .type "enumerate", data := .fields #[.none, .bool false, .ref s.heap.objs.size, rawInt 0, .none, .none] }) (s.heap.objs.size + 1) s.heap.objs.size 0 .none := by
    have q := Heap.get?_push_size (s.heap.push o) (o := { cls := .type "enumerate", data := .fields #[.none, .bool false, .ref s.heap.objs.size, rawInt 0, .none, .none] }) rfl
    rw [hz] at q
    exact q
  exact ⟨⟨_, he, rfl⟩, h _ he (Heap.get?_push_of_some _ (Heap.get?_push_size _ B.free)) fun b o x => Heap.get?_push_of_some _ (Heap.get?_push_of_some _ x)⟩
end

/-- the tuple at a, its items in new pairs with their numbers -/
def ItEt (K : PySem.W.Frag) (a : Addr) : It :=
  ⟨fun i H => ∃ (xs : List V) (x : V), SqT K H a xs ∧ xs[i]? = some x, fun i H v H' => ∃ T x, v = .ref T ∧ H T = none ∧ H' = upd H T (.tup [.int (i : Nat), x]) ∧ ∀ xs, SqT K H a xs → xs[i]? = some x, fun i H => ∃ xs : List V, SqT K H a xs ∧ xs.length = i⟩
theorem apart {h : Heap} {it a : Addr} {i : Nat} {items : Array Value} (hi : h.IsTupleIter it a i) (ht : IsTup h a items) : a ≠ it := by
  rintro rfl
  obtain ⟨o, e, c, d⟩ := hi
  obtain ⟨o2, e2, c2, _⟩ := ht
  rw [e] at e2
  cases e2
  rw [c] at c2
  exact absurd c2 (by decide)
theorem turn_enumT {P : Program} {w : World} {K : PySem.W.Frag} {elts : List Expr} {kk : Nat} {tpos : Pos} (a e it : Addr) :
    Turn P w K (.Tuple elts kk tpos) (ItEt K a) [e, it] e (fun i h => (∃ old, IsEnum h e it ((i : Nat) : Int) old) ∧ h.IsTupleIter it a i ∧ e ≠ it) where
  mem := by simp
  obj := fun i h st b hb => by
    obtain ⟨⟨old, he⟩, ⟨o, ho, hc, hd⟩, _⟩ := st
    rcases (by simpa using hb : b = e ∨ b = it) with rfl | rfl
    · exact ⟨_, he, fun v q => nomatch q⟩
    · exact ⟨o, ho, fun v q => by rw [hd] at q; cases q⟩
  keep := fun i h h' st k => let ⟨⟨old, he⟩, hi, hne⟩ := st; ⟨⟨old, k e (by simp) _ he⟩, hi.at fun o q => k it (by simp) o q, hne⟩
  item := by
    intro X hP hw hK hc i pins s σ H E I hf st hg
    subst hP hw hK
    obtain ⟨⟨old, he⟩, hit, hne⟩ := st
    obtain ⟨xs, x, hq, hx⟩ := hg
    obtain ⟨its, rv, p, hz⟩ := I.tuple hq
    obtain ⟨u, hu, ru⟩ := rv.get hx
    have hel : e < s.heap.objs.size := Heap.lt_size he
    have hil : it < s.heap.objs.size := by obtain ⟨_, q, _⟩ := hit; exact Heap.lt_size q
    have hea : e ≠ a := by
      rintro rfl
      obtain ⟨o2, e2, c2, _⟩ := p
      have he : s.heap.get? e = some _ := he
      rw [he] at e2
      cases e2
      have c2 : Value.type "enumerate" = Value.type "tuple" := c2
      exact absurd c2 (by decide)
    have hlt : i < its.toArray.size := by rw [List.size_toArray]; exact (List.getElem?_eq_some_iff.mp hu).1
    have D : Draws X.prog X.w X.A.in1 it [it, a] its.toArray.size (fun i v => its.toArray[i]? = some v) (fun i h => h.IsTupleIter it a i ∧ h.IsTuple a its.toArray) := Draws.tuple (by simpa using I.ok.hd hc) it a (apart hit p) its.toArray
    refine wpAny_pyNext_enum_itemD D he ⟨hit, p⟩ hlt hne (by simp [hne, hea]) fun y h' tk hy ho hit' hT hsz hk => ?_
    have ey : y = u := by
      have q : its.toArray[i]? = some u := by simpa using hu
      rw [q] at hy
      exact (Option.some.inj hy).symm
    subst ey
    refine ⟨_, rfl, wpAny_letOwnedTupleGo_enum (s := { s with heap := h', toks := tk + 1 }) ho fun h'' he' sb => ?_⟩
    have hT2 : h''.get? s.heap.objs.size = some { cls := .type "tuple", data := .seq #[.int i tk, y] } := (sb.2 _ (Nat.ne_of_gt hel)).trans hT
    have new : ObjOk X.prog X.w (upd H s.heap.objs.size (.tup [.int (i : Nat), x])) h'' s.heap.objs.size (.tup [.int (i : Nat), x]) :=
      ⟨by show 2 ≤ sizeLine; decide, [.int i tk, y], .cons ⟨_, rfl⟩ (.cons ru .nil), ⟨_, hT2, rfl, _, rfl⟩⟩
    have I1 : Inv X pins σ (upd H s.heap.objs.size (.tup [.int (i : Nat), x])) { s with heap := h'', toks := tk + 1 } :=
      I.turnedNew (ch := [e, it]) (fun b ob hb q => (sb.2 b (fun z => hb (by simp [z]))).trans (hk b ob (fun z => hb (by simp [z])) (fun z => hb (by simp [z])) q)) hf (Nat.le_refl _) new
    refine ⟨.ref s.heap.objs.size, _, I1, rfl, ⟨_, x, rfl, I.hok.fresh (Nat.le_refl _), rfl, fun ys hy => by rw [I.tuple_inj hy hq]; exact hx⟩, ⟨⟨y, ?_⟩, hit'.1.at fun o q => (sb.2 it (Ne.symm hne)).trans q, hne⟩, fun b hb => ?_⟩
    · have e1 : ((i + 1 : Nat) : Int) = (i : Int) + 1 := by omega
      rw [e1]; exact he'
    · have hb' : b < s.heap.objs.size := by
        rcases (by simpa using hb : b = e ∨ b = it) with rfl | rfl
        · exact hel
        · exact hil
      rw [upd_ne (Nat.ne_of_lt hb')]
      exact (hf b hb).1
  done := by
    intro X hP hw hK hc i pins s σ H E I hf st hg
    subst hP hw hK
    obtain ⟨⟨old, he⟩, hit, hne⟩ := st
    obtain ⟨xs, hq, hx⟩ := hg
    obtain ⟨its, rv, p, hz⟩ := I.tuple hq
    obtain ⟨f0, f1, f2, f3, f4, f5⟩ := hf it (by simp)
    have hl : its.toArray.size = i := by rw [List.size_toArray, ← rv.length]; exact hx
    have D : Draws X.prog X.w X.A.in1 it [it, a] its.toArray.size (fun i v => its.toArray[i]? = some v) (fun i h => h.IsTupleIter it a i ∧ h.IsTuple a its.toArray) := Draws.tuple (by simpa using I.ok.hd hc) it a (apart hit p) its.toArray
    exact wpAny_pyNext_enum_endD D he (by rw [hl]; exact ⟨hit, p⟩) fun h' eb => ⟨rfl, I.turned (t' := s.toks) (fun b o hb q => eb b o hb q) f0 f1 f3 f4 f5⟩
  self := fun A i s Q E st h => let ⟨⟨_, he⟩, _⟩ := st; wpAny_pyIter_enum he h
def iEnumT (K : PySem.W.Frag) (ta : TA) : TI := fun σ H R => ta σ H fun vs H1 => ∃ a xs, vs = [.ref a] ∧ SqT K H1 a xs ∧ R (ItEt K a) H1
theorem pi_enumT {X : Cx} {e : Expr} {ta : TA} {p pos tpos : Pos} {elts : List Expr} {kk : Nat} (hg : Gl X "enumerate") (hm : X.mg "enumerate" = none) (ha : PA X [e] ta) (hs : starEach [e] X.env = [(false, eval e X.env)] := by rfl) :
    PI X (.Tuple elts kk tpos) (.Call (.Name "enumerate" p) [e] [] pos) (iEnumT X.K ta) := by
  refine ⟨fun pins s σ H R I h => ?_⟩
  refine Call_ (ld_blt I hg hm boot_enumerate (PyProof.Rows.callWith_type1 (thn (ha.run pos pins s σ H _ I h) fun us s1 ⟨vs, H1, I1, r1, a, xs, ex, hq, q⟩ => ?_) hs rfl))
  subst ex
  obtain rfl := Vals.ref1 r1
  obtain ⟨its, rv, p', hz⟩ := I1.tuple hq
  refine enum1 (begins_tuple a its.toArray) p' fun h' he hit hk => wpAny_pyIter_enum he ?_
  have I2 : Inv X pins σ H1 { s1 with heap := h' } := I1.kept (t' := s1.toks) hk
  refine ⟨s1.heap.objs.size + 1, [s1.heap.objs.size + 1, s1.heap.objs.size], _, _, H1, rfl, I2, turn_enumT a (s1.heap.objs.size + 1) s1.heap.objs.size, ⟨⟨.none, he⟩, ⟨_, hit, rfl, rfl⟩, Nat.succ_ne_self _⟩, fun b hb => ?_, q⟩
  have hle : s1.heap.objs.size ≤ b := by
    rcases (by simpa using hb : b = s1.heap.objs.size + 1 ∨ b = s1.heap.objs.size) with rfl | rfl
    · exact Nat.le_add_right _ _
    · exact Nat.le_refl _
  exact I1.fpOk hle (I1.hok.fresh hle)
/-- the reading of such a loop; the tuple stands still (it is a tuple) -/
theorem for_enumT {K : PySem.W.Frag} {a : Addr} {xs : List V} {g : TG} {tb : TS} {D : Ends} {σ : L2.St} {H : Hp} (Pv : Nat → L2.St → Hp → Prop) (h0 : Pv 0 σ H) (hl : ∀ i σ H, i ≤ xs.length → Pv i σ H → SqT K H a xs)
    (hs : ∀ i x σ H T, xs[i]? = some x → Pv i σ H → H T = none → g (.ref T) σ (upd H T (.tup [.int (i : Nat), x])) fun σ2 H2 => tb { D with nx := Pv (i + 1), ct := Pv (i + 1), bk := D.nx } σ2 H2) (hd : ∀ σ H, Pv xs.length σ H → D.nx σ H) :
    ∃ W : Nat → Nat → L2.St → Hp → Prop, (∃ m, W 0 m σ H) ∧ ∀ i m σ H, W i m σ H →
      ((ItEt K a).stop i H ∧ D.nx σ H) ∨ ((ItEt K a).go i H ∧ ∃ N : L2.St → Hp → Prop, (∀ σ' H', N σ' H' → ∃ m', m' < m ∧ W (i + 1) m' σ' H') ∧ ∀ x H', (ItEt K a).yld i H x H' → g x σ H' fun σ2 H2 => tb { D with nx := N, ct := N, bk := D.nx } σ2 H2) := by
  refine ⟨fun i m σ H => m = xs.length - i ∧ i ≤ xs.length ∧ Pv i σ H, ⟨xs.length, by simp, Nat.zero_le _, h0⟩, ?_⟩
  rintro i m σ H ⟨rfl, hi, p⟩
  have q := hl i σ H hi p
  by_cases hlt : i < xs.length
  · refine .inr ⟨⟨xs, xs[i], q, by simp [hlt]⟩, Pv (i + 1), fun σ' H' p' => ⟨xs.length - (i + 1), by omega, rfl, hlt, p'⟩, fun x H' ⟨T, y, e1, e2, e3, e4⟩ => ?_⟩
    subst e1 e3
    exact hs i y σ H T (e4 xs q) p e2
  · have e : i = xs.length := by omega
    subst e
    exact .inl ⟨⟨xs, q, rfl⟩, hd σ H p⟩
/-- .. of a comprehension -/
theorem lc_enumT {K : PySem.W.Frag} {a : Addr} {xs : List V} {g : TG} {tt : TT} {te : TE} {vs : List Nat} {σ : L2.St} {H1 : Hp} {D : Addr} {Qd : Hp → Prop} (Pv : Nat → Hp → Prop) (h0 : Pv 0 (upd H1 D (.lst []))) (hl : ∀ i H, i ≤ xs.length → Pv i H → SqT K H a xs)
    (hs : ∀ i x H T, xs[i]? = some x → Pv i H → H T = none → g (.ref T) (wipe σ vs) (upd H T (.tup [.int (i : Nat), x])) fun σ2 H2 => wipe σ2 vs = wipe σ vs ∧ tt σ2 H2 fun b H3 =>
      if b = true then te σ2 H3 fun y H4 => ∃ acc, H4 D = some (.lst acc) ∧ acc.length < sizeLine ∧ Pv (i + 1) (upd H4 D (.lst (acc ++ [y]))) else Pv (i + 1) H3) (hd : ∀ H, Pv xs.length H → Qd H) :
    ∃ W : Nat → Nat → Hp → Prop, (∃ m, W 0 m (upd H1 D (.lst []))) ∧ ∀ i m H, W i m H →
      ((ItEt K a).stop i H ∧ Qd H) ∨ ((ItEt K a).go i H ∧ ∃ Nx : Hp → Prop, (∀ H', Nx H' → ∃ m', m' < m ∧ W (i + 1) m' H') ∧ ∀ x H', (ItEt K a).yld i H x H' → g x (wipe σ vs) H' fun σ2 H2 => wipe σ2 vs = wipe σ vs ∧ tt σ2 H2 fun b H3 =>
        if b = true then te σ2 H3 fun y H4 => ∃ acc, H4 D = some (.lst acc) ∧ acc.length < sizeLine ∧ Nx (upd H4 D (.lst (acc ++ [y]))) else Nx H3) := by
  refine ⟨fun i m H => m = xs.length - i ∧ i ≤ xs.length ∧ Pv i H, ⟨xs.length, by simp, Nat.zero_le _, h0⟩, ?_⟩
  rintro i m H ⟨rfl, hi, p⟩
  have q := hl i H hi p
  by_cases hlt : i < xs.length
  · refine .inr ⟨⟨xs, xs[i], q, by simp [hlt]⟩, Pv (i + 1), fun H' p' => ⟨xs.length - (i + 1), by omega, rfl, hlt, p'⟩, fun x H' ⟨T, y, e1, e2, e3, e4⟩ => ?_⟩
    subst e1 e3
    exact hs i y H T (e4 xs q) p e2
  · have e : i = xs.length := by omega
    subst e
    exact .inl ⟨⟨xs, q, rfl⟩, hd H p⟩
end Sv
end

section
/-! The plain laws: rings, straight orders, sorting both ways. No program in sight. -/
set_option autoImplicit false
namespace Sv

section
variable {α β : Type} (M : α → β → Bool)

/-- houses to which one comes from lo, over people other than p who have not both lo and hi, and houses that p has not (but hi) -/
inductive Rch (Pe : α → Prop) (Ho : β → Prop) (p : α) (lo hi : β) : β → Prop
  | base : Rch Pe Ho p lo hi lo
  | step {h h' : β} {q : α} : Rch Pe Ho p lo hi h → Pe q → q ≠ p → ¬(M q lo = true ∧ M q hi = true) → M q h = true → M q h' = true → Ho h' → (M p h' = false ∨ h' = hi) → Rch Pe Ho p lo hi h'

def Ring (Pe : α → Prop) (Ho : β → Prop) : Prop :=
  ∃ p lo hi, Pe p ∧ Ho lo ∧ Ho hi ∧ lo ≠ hi ∧ M p lo = true ∧ M p hi = true ∧ Rch M Pe Ho p lo hi hi

variable {M} {Pe : α → Prop} {Ho : β → Prop} {p : α} {lo hi : β}

theorem Rch.at {h : β} (r : Rch M Pe Ho p lo hi h) : h = lo ∨ (Ho h ∧ (M p h = false ∨ h = hi)) := by
  cases r with
  | base => exact .inl rfl
  | step _ _ _ _ _ _ a b => exact .inr ⟨a, b⟩

theorem Rch.flip (hlo : Ho lo) {h : β} (r : Rch M Pe Ho p lo hi h) : Rch M Pe Ho p hi lo h → Rch M Pe Ho p hi lo lo := by
  induction r with
  | base => exact id
  | @step h h' q r hq hqp hb m1 m2 ho hok ih =>
    intro r'
    have hb' : ¬(M q hi = true ∧ M q lo = true) := fun z => hb ⟨z.2, z.1⟩
    rcases r.at with e | ⟨a, b⟩
    · subst e
      exact .step r' hq hqp hb' m2 m1 hlo (.inr rfl)
    · rcases b with b | b
      · exact ih (.step r' hq hqp hb' m2 m1 a (.inl b))
      · subst b
        exact ih .base

theorem Rch.first {h : β} (r : Rch M Pe Ho p lo hi h) : h = lo ∨ ∃ q, Pe q ∧ q ≠ p ∧ ¬(M q lo = true ∧ M q hi = true) ∧ M q lo = true := by
  induction r with
  | base => exact .inl rfl
  | @step h h' q r hq hqp hb m1 m2 ho hok ih =>
    rcases ih with e | e
    · subst e
      exact .inr ⟨q, hq, hqp, hb, m1⟩
    · exact .inr e

/-- no bent corner -/
def Straight (M : α → β → Bool) (ps : List α) (hs : List β) : Prop :=
  ps.Pairwise fun a b => hs.Pairwise fun c d => M a c = true → M a d = true → M b c = true → M b d = true

theorem two_sub {γ : Type} {c d : γ} (ne : c ≠ d) : ∀ {l : List γ}, c ∈ l → d ∈ l → [c, d].Sublist l ∨ [d, c].Sublist l
  | x :: l, hc0, hd0 => by
    rcases List.mem_cons.mp hc0 with e | hc
    · subst e
      rcases List.mem_cons.mp hd0 with e | hd
      · exact absurd e.symm ne
      · exact .inl ((List.singleton_sublist.mpr hd).cons_cons _)
    · rcases List.mem_cons.mp hd0 with e | hd
      · subst e
        exact .inr ((List.singleton_sublist.mpr hc).cons_cons _)
      · rcases two_sub ne hc hd with z | z
        · exact .inl (z.cons _)
        · exact .inr (z.cons _)

theorem noRing {hs : List β} : ∀ {ps : List α}, Straight M ps hs → ¬ Ring M (· ∈ ps) (· ∈ hs)
  | [], _ => by
    rintro ⟨p, _, _, h, _⟩
    simp at h
  | r :: ps, st => by
    have ih := noRing (hs := hs) (ps := ps) (List.pairwise_cons.mp st).2
    have st1 := (List.pairwise_cons.mp st).1
    have nest : ∀ c ∈ hs, ∀ d ∈ hs, c ≠ d → M r c = true → M r d = true → (∀ q ∈ ps, M q c = true → M q d = true) ∨ (∀ q ∈ ps, M q d = true → M q c = true) := by
      intro c hc d hd ne m1 m2
      rcases two_sub ne hc hd with z | z
      · exact .inl fun q hq => List.pairwise_iff_forall_sublist.mp (st1 q hq) z m1 m2
      · exact .inr fun q hq => List.pairwise_iff_forall_sublist.mp (st1 q hq) z m2 m1
    rintro ⟨p, lo, hi, hp, hlo, hhi, ne, m1, m2, rc⟩
    have hlo : lo ∈ hs := hlo
    have hhi : hi ∈ hs := hhi
    by_cases hpr : p = r
    · subst hpr
      have inps : ∀ {q : α}, q ∈ p :: ps → q ≠ p → q ∈ ps := fun {q} hq hqp => (List.mem_cons.mp hq).elim (fun e => absurd e hqp) id
      rcases nest lo hlo hi hhi ne m1 m2 with z | z
      · rcases rc.first with e | ⟨q, hq, hqp, hb, mq⟩
        · exact ne e.symm
        · exact hb ⟨mq, z q (inps hq hqp) mq⟩
      · cases rc with
        | base => exact ne rfl
        | @step h _ q r hq hqp hb a1 a2 ho hok => exact hb ⟨z q (inps hq hqp) a2, a2⟩
    · have hp' : p ∈ ps := (List.mem_cons.mp hp).elim (fun e => absurd e hpr) id
      refine ih ⟨p, lo, hi, hp', hlo, hhi, ne, m1, m2, ?_⟩
      have K : ∀ {h0 h' : β}, Rch M (· ∈ ps) (· ∈ hs) p lo hi h0 → M r h0 = true → M r h' = true → h' ∈ hs → (M p h' = false ∨ h' = hi) → ¬(M r lo = true ∧ M r hi = true) →
          Rch M (· ∈ ps) (· ∈ hs) p lo hi h' ∨ ∃ h0, Rch M (· ∈ ps) (· ∈ hs) p lo hi h0 ∧ M r h0 = true ∧ M r h' = true ∧ M p h' = false ∧ (∀ q ∈ ps, M q h' = true → M q h0 = true) := by
        intro h0 h' r0 a0 a' ho hok hb
        by_cases e0 : h0 = h'
        · subst e0; exact .inl r0
        have h0in : h0 ∈ hs := by
          rcases r0.at with e | ⟨z, _⟩
          · subst e; exact hlo
          · exact z
        rcases nest h0 h0in h' ho e0 a0 a' with z | z
        · cases r0 with
          | base =>
            have := z p hp' m1
            rcases hok with q | q
            · rw [this] at q; cases q
            · subst q; exact absurd ⟨a0, a'⟩ hb
          | @step g _ q rg hq hqp hbq c1 c2 _ _ =>
            exact .inl (.step rg hq hqp hbq c1 (z q hq c2) ho hok)
        · rcases hok with q | q
          · exact .inr ⟨h0, r0, a0, a', q, z⟩
          · subst q
            have m0 := z p hp' m2
            rcases r0.at with e | ⟨_, e | e⟩
            · subst e; exact absurd ⟨a0, a'⟩ hb
            · rw [m0] at e; cases e
            · exact absurd e e0
      have J : ∀ {h : β}, Rch M (· ∈ r :: ps) (· ∈ hs) p lo hi h → Rch M (· ∈ ps) (· ∈ hs) p lo hi h ∨
          ∃ h0, Rch M (· ∈ ps) (· ∈ hs) p lo hi h0 ∧ M r h0 = true ∧ M r h = true ∧ M p h = false ∧ (∀ q ∈ ps, M q h = true → M q h0 = true) := by
        intro h rh
        induction rh with
        | base => exact .inl .base
        | @step h h' q rr hq hqp hb c1 c2 ho hok ih' =>
          rcases List.mem_cons.mp hq with e | hq
          · subst e
            rcases ih' with z | ⟨h0, r0, a0, _, _, _⟩
            · exact K z c1 c2 ho hok hb
            · exact K r0 a0 c2 ho hok hb
          · rcases ih' with z | ⟨h0, r0, a0, _, _, hsub⟩
            · exact .inl (.step z hq hqp hb c1 c2 ho hok)
            · exact .inl (.step r0 hq hqp hb (hsub q hq c1) c2 ho hok)
      rcases J rc with z | ⟨_, _, _, _, z, _⟩
      · exact z
      · rw [m2] at z; cases z
end

/-! ### the last place where two rows differ -/
theorem lastDiff {f g : Nat → Bool} {n : Nat} (H : ∀ j, j < n → f j = true → g j = false → ∃ j', j < j' ∧ j' < n ∧ f j' = false ∧ g j' = true) :
    ∀ (t j : Nat), n - j ≤ t → j < n → f j ≠ g j → ∃ j', j ≤ j' ∧ j' < n ∧ f j' = false ∧ g j' = true ∧ ∀ d, j' < d → d < n → f d = g d := by
  intro t
  induction t with
  | zero => intro j h1 h2; omega
  | succ t ih =>
    intro j h1 h2 hd
    by_cases e : ∃ d, j < d ∧ d < n ∧ f d ≠ g d
    · obtain ⟨d, a, b, c⟩ := e
      obtain ⟨j', q1, q2⟩ := ih d (by omega) b c
      exact ⟨j', by omega, q2⟩
    · have ag : ∀ d, j < d → d < n → f d = g d := fun d a b => Classical.byContradiction fun z => e ⟨d, a, b, z⟩
      cases hf : f j with
      | true =>
        have hg : g j = false := by
          cases q : g j with
          | true => exact absurd (hf.trans q.symm) hd
          | false => rfl
        obtain ⟨j', a, b, c1, c2⟩ := H j h2 hf hg
        have := ag j' a b
        rw [c1, c2] at this; cases this
      | false =>
        have hg : g j = true := by
          cases q : g j with
          | false => exact absurd (hf.trans q.symm) hd
          | true => rfl
        exact ⟨j, Nat.le_refl _, h2, hf, hg, ag⟩

section
variable {α β : Type} {M : α → β → Bool} {Pe : α → Prop} {Ho : β → Prop}

theorem chain {row : Nat → α} {col : Nat → β} {m n : Nat} (hP : ∀ i, i < m → Pe (row i)) (hH : ∀ j, j < n → Ho (col j)) (inj : ∀ i k, i < m → k < m → row i = row k → i = k)
    (rows : ∀ i k, i < k → k < m → ∀ j, j < n → M (row i) (col j) = true → M (row k) (col j) = false → ∃ j', j < j' ∧ j' < n ∧ M (row i) (col j') = false ∧ M (row k) (col j') = true)
    (cols : ∀ j l, j < l → l < n → ∀ i, i < m → M (row i) (col j) = true → M (row i) (col l) = false → ∃ i', i < i' ∧ i' < m ∧ M (row i') (col j) = false ∧ M (row i') (col l) = true)
    {i0 j1 j2 : Nat} (hi0 : i0 < m) (hj1 : j1 < n) (hj2 : j2 < n) :
    ∀ (t a a' b b' : Nat), m - a' ≤ t → i0 ≤ a → a < a' → a' < m → b < b' → b' < n → M (row a') (col b) = true → M (row a) (col b') = true → M (row a') (col b') = false →
      (∀ d, b' < d → d < n → M (row i0) (col d) = M (row a) (col d)) → (∀ e, a' < e → e < m → M (row e) (col j1) = M (row e) (col b)) → ¬(M (row a') (col j1) = true ∧ M (row a') (col j2) = true) →
      ((Rch M Pe Ho (row i0) (col j1) (col j2) (col b) ∧ Rch M Pe Ho (row i0) (col j2) (col j1) (col b')) ∨ (Rch M Pe Ho (row i0) (col j2) (col j1) (col b) ∧ Rch M Pe Ho (row i0) (col j1) (col j2) (col b'))) →
      Rch M Pe Ho (row i0) (col j1) (col j2) (col j2) := by
  intro t
  induction t with
  | zero => intro a a' b b' h1 _ _ h4; omega
  | succ t ih =>
    intro a a' b b' ht hi ha ha' hb hb' m1 m2 m3 agR agC al cn
    obtain ⟨b2, q1, q2, q3, q4, q5⟩ := lastDiff (f := fun j => M (row a) (col j)) (g := fun j => M (row a') (col j)) (n := n) (rows a a' ha ha') n b' (by omega) hb' (by show M _ _ ≠ M _ _; rw [m2, m3]; exact fun z => nomatch z)
    obtain ⟨a2, p1, p2, p3, p4, p5⟩ := lastDiff (f := fun e => M (row e) (col b)) (g := fun e => M (row e) (col b')) (n := m) (cols b b' hb hb') m a' (by omega) ha' (by show M _ _ ≠ M _ _; rw [m1, m3]; exact fun z => nomatch z)
    have q3 : M (row a) (col b2) = false := q3
    have q4 : M (row a') (col b2) = true := q4
    have p3 : M (row a2) (col b) = false := p3
    have p4 : M (row a2) (col b') = true := p4
    have hbb : b' < b2 := by
      rcases Nat.lt_or_eq_of_le q1 with z | z
      · exact z
      · subst z; rw [m2] at q3; cases q3
    have haa : a' < a2 := by
      rcases Nat.lt_or_eq_of_le p1 with z | z
      · exact z
      · subst z; rw [m1] at p3; cases p3
    have free : M (row i0) (col b2) = false := by rw [agR b2 hbb q2]; exact q3
    have al2 : ¬(M (row a2) (col j1) = true ∧ M (row a2) (col j2) = true) := fun z => by
      rw [agC a2 haa p2, p3] at z; cases z.1
    have n1 : row a' ≠ row i0 := fun z => by have := inj _ _ ha' hi0 z; omega
    have n2 : row a2 ≠ row i0 := fun z => by have := inj _ _ p2 hi0 z; omega
    have sw : ∀ {x : α}, ¬(M x (col j1) = true ∧ M x (col j2) = true) → ¬(M x (col j2) = true ∧ M x (col j1) = true) := fun h z => h ⟨z.2, z.1⟩
    by_cases hm : M (row a2) (col b2) = true
    · rcases cn with ⟨c1, c2⟩ | ⟨c1, c2⟩
      · have r1 : Rch M Pe Ho (row i0) (col j1) (col j2) (col b2) := .step c1 (hP _ ha') n1 al m1 q4 (hH _ q2) (.inl free)
        have r2 : Rch M Pe Ho (row i0) (col j2) (col j1) (col b2) := .step c2 (hP _ p2) n2 (sw al2) p4 hm (hH _ q2) (.inl free)
        exact Rch.flip (hH _ hj2) r2 r1
      · have r2 : Rch M Pe Ho (row i0) (col j2) (col j1) (col b2) := .step c1 (hP _ ha') n1 (sw al) m1 q4 (hH _ q2) (.inl free)
        have r1 : Rch M Pe Ho (row i0) (col j1) (col j2) (col b2) := .step c2 (hP _ p2) n2 al2 p4 hm (hH _ q2) (.inl free)
        exact Rch.flip (hH _ hj2) r2 r1
    · have hm : M (row a2) (col b2) = false := by
        cases z : M (row a2) (col b2) with
        | true => exact absurd z hm
        | false => rfl
      refine ih a' a2 b' b2 (by omega) (by omega) haa p2 hbb q2 p4 q4 hm (fun d d1 d2 => ?_) (fun e e1 e2 => ?_) al2 ?_
      · rw [agR d (by omega) d2]; exact q5 d d1 d2
      · rw [agC e (by omega) e2]; exact p5 e e1 e2
      · rcases cn with ⟨c1, c2⟩ | ⟨c1, c2⟩
        · exact .inr ⟨c2, .step c1 (hP _ ha') n1 al m1 q4 (hH _ q2) (.inl free)⟩
        · exact .inl ⟨c2, .step c1 (hP _ ha') n1 (sw al) m1 q4 (hH _ q2) (.inl free)⟩

theorem ring_of_bent {row : Nat → α} {col : Nat → β} {m n : Nat} (hP : ∀ i, i < m → Pe (row i)) (hH : ∀ j, j < n → Ho (col j)) (inj : ∀ i k, i < m → k < m → row i = row k → i = k) (injc : ∀ j l, j < n → l < n → col j = col l → j = l)
    (rows : ∀ i k, i < k → k < m → ∀ j, j < n → M (row i) (col j) = true → M (row k) (col j) = false → ∃ j', j < j' ∧ j' < n ∧ M (row i) (col j') = false ∧ M (row k) (col j') = true)
    (cols : ∀ j l, j < l → l < n → ∀ i, i < m → M (row i) (col j) = true → M (row i) (col l) = false → ∃ i', i < i' ∧ i' < m ∧ M (row i') (col j) = false ∧ M (row i') (col l) = true)
    {i k j l : Nat} (hik : i < k) (hk : k < m) (hjl : j < l) (hl : l < n) (m1 : M (row i) (col j) = true) (m2 : M (row i) (col l) = true) (m3 : M (row k) (col j) = true) (m4 : M (row k) (col l) = false) : Ring M Pe Ho := by
  refine ⟨row i, col j, col l, hP _ (by omega), hH _ (by omega), hH _ hl, fun z => ?_, m1, m2, ?_⟩
  · have := injc _ _ (by omega) hl z; omega
  · refine chain hP hH inj rows cols (i0 := i) (j1 := j) (j2 := l) (by omega) (by omega) hl m i k j l (by omega) (Nat.le_refl _) hik hk hjl hl m3 m2 m4 (fun _ _ _ => rfl) (fun _ _ _ => rfl) (fun z => ?_) (.inl ⟨.base, .base⟩)
    rw [m4] at z; cases z.2
end
end Sv
end

section
/-! Sorting both ways: it comes to an end. -/
set_option autoImplicit false
namespace Sv

def b2 (b : Bool) : Int := if b then 1 else 0
/-- the values from the last to the first -/
def keyF : Nat → (Nat → Bool) → List Int
  | 0, _ => []
  | n + 1, f => b2 (f n) :: keyF n f

theorem keyF_lt : ∀ {n : Nat} {f g : Nat → Bool}, keyF n f < keyF n g ↔ ∃ j, j < n ∧ f j = false ∧ g j = true ∧ ∀ d, j < d → d < n → f d = g d
  | 0, f, g => by
    constructor
    · intro h; exact absurd h (List.lt_irrefl _)
    · rintro ⟨j, h, _⟩; omega
  | n + 1, f, g => by
    unfold keyF
    rw [List.cons_lt_cons_iff, keyF_lt (n := n)]
    constructor
    · rintro (h | ⟨h, j, h1, h2, h3, h4⟩)
      · refine ⟨n, by omega, ?_, ?_, fun d _ _ => by omega⟩
        · cases e : f n with
          | false => rfl
          | true => rw [e] at h; cases e' : g n <;> rw [e'] at h <;> exact absurd h (by decide)
        · cases e : g n with
          | true => rfl
          | false => rw [e] at h; cases e' : f n <;> rw [e'] at h <;> exact absurd h (by decide)
      · refine ⟨j, by omega, h2, h3, fun d d1 d2 => ?_⟩
        by_cases e : d = n
        · subst e
          cases e : f d <;> cases e' : g d <;> rw [e, e'] at h <;> first | rfl | exact absurd h (by decide)
        · exact h4 d d1 (by omega)
    · rintro ⟨j, h1, h2, h3, h4⟩
      by_cases e : j = n
      · subst e
        exact .inl (by rw [h2, h3]; decide)
      · exact .inr ⟨by rw [h4 n (by omega) (by omega)], j, by omega, h2, h3, fun d d1 d2 => h4 d d1 (by omega)⟩

theorem drop_sorted {K K' : List (List Int)} (hp : K'.Perm K) (hs : K'.Pairwise (· ≤ ·)) (k : Nat) (hk : ∀ (a b : Nat) (_ : a < b) (hb : b < K.length), k ≤ b → K[a] ≤ K[b]) (j : Nat) (hj : k ≤ j) : K'[j]? = K[j]? := by
  have le2 : ∀ a b : List Int, (decide (a ≤ b) = true) ↔ a ≤ b := fun a b => decide_eq_true_iff
  let S := (K.take k).mergeSort (fun a b => decide (a ≤ b))
  have hS : S.Perm (K.take k) := List.mergeSort_perm _ _
  have e : K' = S ++ K.drop k := by
    refine List.Perm.eq_of_pairwise (le := (· ≤ ·)) (fun a b _ _ h1 h2 => List.le_antisymm h1 h2) hs ?_ ?_
    · refine List.pairwise_append.mpr ⟨?_, ?_, ?_⟩
      · have z := List.pairwise_mergeSort (le := fun a b : List Int => decide (a ≤ b)) (fun a b c h1 h2 => (le2 _ _).mpr (List.le_trans ((le2 _ _).mp h1) ((le2 _ _).mp h2)))
          (fun a b => by rcases List.le_total a b with h | h <;> simp [h]) (K.take k)
        exact z.imp fun h => (le2 _ _).mp h
      · rw [List.pairwise_iff_getElem]
        intro a b ha hb hab
        rw [List.length_drop] at ha hb
        rw [List.getElem_drop, List.getElem_drop]
        exact hk (k + a) (k + b) (by omega) (by omega) (by omega)
      · intro x hx y hy
        have hx := hS.mem_iff.mp hx
        obtain ⟨a, ha, rfl⟩ := List.mem_iff_getElem.mp hx
        obtain ⟨b, hb, rfl⟩ := List.mem_iff_getElem.mp hy
        rw [List.length_take] at ha
        rw [List.length_drop] at hb
        rw [List.getElem_take, List.getElem_drop]
        exact hk a (k + b) (by omega) (by omega) (by omega)
    · refine hp.trans ?_
      have := hS.append_right (K.drop k)
      rw [List.take_append_drop] at this
      exact this.symm
  by_cases hkl : k ≤ K.length
  · have hl : S.length = k := by rw [hS.length_eq, List.length_take]; omega
    rw [e, List.getElem?_append_right (by omega), List.getElem?_drop, hl]
    congr 1
    omega
  · have hl := hp.length_eq
    rw [List.getElem?_eq_none (by omega), List.getElem?_eq_none (by omega)]

section
variable {α β : Type}
/-- what stands at a place of a list, by a function -/
def at' (f : β → Bool) (l : List β) (j : Nat) : Bool := match l[j]? with
  | some h => f h
  | none => false
theorem at'_some {f : β → Bool} {l : List β} {j : Nat} {h : β} (e : l[j]? = some h) : at' f l j = f h := by unfold at'; rw [e]
/-- the values of a list, from the last to the first -/
def keyOf (f : β → Bool) (l : List β) : List Int := l.reverse.map fun h => b2 (f h)
theorem keyF_congr {n : Nat} {f g : Nat → Bool} (h : ∀ j, j < n → f j = g j) : keyF n f = keyF n g := by
  induction n with
  | zero => rfl
  | succ n ih => unfold keyF; rw [h n (by omega), ih fun j hj => h j (by omega)]
theorem keyOf_eq (f : β → Bool) : ∀ (l : List β), keyOf f l = keyF l.length (at' f l) := by
  have go : ∀ r : List β, keyOf f r.reverse = keyF r.length (at' f r.reverse) := by
    intro r
    induction r with
    | nil => rfl
    | cons x r ih =>
      show (x :: r).reverse.reverse.map _ = _
      rw [List.reverse_reverse, List.map_cons, List.length_cons]
      show _ = b2 (at' f (x :: r).reverse r.length) :: keyF r.length (at' f (x :: r).reverse)
      have e1 : at' f (x :: r).reverse r.length = f x := at'_some (by rw [List.reverse_cons, List.getElem?_append_right (by simp)]; simp)
      rw [e1]
      refine congrArg _ ?_
      have ih' : r.map (fun h => b2 (f h)) = keyF r.length (at' f r.reverse) := by
        have z : keyOf f r.reverse = r.map (fun h => b2 (f h)) := by unfold keyOf; rw [List.reverse_reverse]
        rw [← z, ih]
      rw [ih']
      refine keyF_congr fun j hj => ?_
      unfold at'
      rw [List.reverse_cons, List.getElem?_append_left (by simpa using hj)]
  intro l
  have := go l.reverse
  rw [List.reverse_reverse, List.length_reverse] at this
  exact this
theorem keyOf_inj {f g : β → Bool} {l : List β} (h : keyOf f l = keyOf g l) : ∀ x ∈ l, f x = g x := by
  intro x hx
  have z := List.map_inj_left.mp h x (List.mem_reverse.mpr hx)
  unfold b2 at z
  cases e : f x <;> cases e' : g x <;> rw [e, e'] at z <;> first | rfl | exact absurd z (by decide)
theorem keyOf_lt {f g : β → Bool} {l : List β} : keyOf f l < keyOf g l ↔ ∃ j, j < l.length ∧ at' f l j = false ∧ at' g l j = true ∧ ∀ d, j < d → d < l.length → at' f l d = at' g l d := by
  rw [keyOf_eq, keyOf_eq, keyF_lt]
theorem le_ne {a b : List Int} (h : a ≤ b) (ne : a ≠ b) : a < b := by
  rcases List.le_iff_lt_or_eq.mp h with z | z
  · exact z
  · exact absurd z ne

variable (M : α → β → Bool)
/-- people stand by their houses, read backwards -/
def RowSorted (ps : List α) (hs : List β) : Prop := ps.Pairwise fun a b => keyOf (M a) hs ≤ keyOf (M b) hs
def ColSorted (ps : List α) (hs : List β) : Prop := hs.Pairwise fun c d => keyOf (fun p => M p c) ps ≤ keyOf (fun p => M p d) ps
/-- from place k on people stand right -/
def Upto (k : Nat) (ps : List α) (hs : List β) : Prop := ColSorted M ps hs ∧ ∀ (a b : Nat) (hb : b < ps.length) (_ : a < b), k ≤ b → keyOf (M (ps[a]'(by omega))) hs ≤ keyOf (M ps[b]) hs

variable {M}
theorem Upto.full {ps : List α} {hs : List β} (h : ColSorted M ps hs) : Upto M ps.length ps hs := ⟨h, fun _ _ hb _ hk => by omega⟩
theorem Upto.rows {ps : List α} {hs : List β} {k : Nat} (h : Upto M k ps hs) (hk : k ≤ 1) : RowSorted M ps hs := by
  unfold RowSorted
  rw [List.pairwise_iff_getElem]
  intro a b ha hb hab
  exact h.2 a b hb hab (by omega)

theorem Upto.turn {ps ps' : List α} {hs hs' : List β} {k : Nat} (h : Upto M k ps hs) (hP : ps'.Perm ps) (hR : RowSorted M ps' hs) (hH : hs'.Perm hs) (hC : ColSorted M ps' hs') : Upto M (k - 1) ps' hs' := by
  refine ⟨hC, fun a b hb hab hk => ?_⟩
  have lenP := hP.length_eq
  have lenH := hH.length_eq
  -- the rows from k on are as they were
  have same : ∀ j, k ≤ j → (ps'.map fun p => keyOf (M p) hs)[j]? = (ps.map fun p => keyOf (M p) hs)[j]? := by
    refine drop_sorted (hP.map _) ?_ k (fun a b hab hb hk => ?_)
    · exact List.pairwise_map.mpr hR
    · rw [List.length_map] at hb
      rw [List.getElem_map, List.getElem_map]
      exact h.2 a b hb hab hk
  have sameM : ∀ (j : Nat) (h1 : j < ps'.length) (h2 : j < ps.length), k ≤ j → ∀ x ∈ hs, M ps'[j] x = M ps[j] x := by
    intro j h1 h2 hj x hx
    have z := same j hj
    rw [List.getElem?_map, List.getElem?_map, List.getElem?_eq_getElem h1, List.getElem?_eq_getElem h2] at z
    exact keyOf_inj (Option.some.inj z) x hx
  refine Classical.byContradiction fun hn => ?_
  have hlt : keyOf (M ps'[b]) hs' < keyOf (M ps'[a]) hs' := List.not_le.mp hn
  obtain ⟨jj, c1, c2, c3, c4⟩ := keyOf_lt.mp hlt
  have hi : hs'[jj]? = some hs'[jj] := List.getElem?_eq_getElem c1
  rw [at'_some hi] at c2 c3
  have iin : hs'[jj] ∈ hs := hH.mem_iff.mp (List.getElem_mem c1)
  have hle : keyOf (M ps'[a]) hs ≤ keyOf (M ps'[b]) hs := List.pairwise_iff_getElem.mp hR a b (by omega) hb hab
  have hlt2 : keyOf (M ps'[a]) hs < keyOf (M ps'[b]) hs := le_ne hle fun e => by
    have := keyOf_inj e _ iin
    rw [c2, c3] at this; cases this
  obtain ⟨j0, d1, d2, d3, d4⟩ := keyOf_lt.mp hlt2
  have hj : hs[j0]? = some hs[j0] := List.getElem?_eq_getElem d1
  rw [at'_some hj] at d2 d3
  have jin : hs[j0] ∈ hs' := hH.mem_iff.mpr (List.getElem_mem d1)
  -- the places of both in the other order
  obtain ⟨i0, ei, ei2⟩ := List.mem_iff_getElem.mp iin
  obtain ⟨j1, ej, ej2⟩ := List.mem_iff_getElem.mp jin
  have o1 : i0 < j0 := by
    rcases Nat.lt_trichotomy i0 j0 with z | z | z
    · exact z
    · subst z
      rw [ei2, c3] at d2; cases d2
    · have q := d4 i0 z ei
      have e1 : hs[i0]? = some hs'[jj] := by rw [List.getElem?_eq_getElem ei, ei2]
      rw [at'_some e1, at'_some e1, c2, c3] at q; cases q
  have o2 : j1 < jj := by
    rcases Nat.lt_trichotomy j1 jj with z | z | z
    · exact z
    · subst z
      rw [ej2, d3] at c2; cases c2
    · have q := c4 j1 z ej
      have e1 : hs'[j1]? = some hs[j0] := by rw [List.getElem?_eq_getElem ej, ej2]
      rw [at'_some e1, at'_some e1, d2, d3] at q; cases q
  have k1 : keyOf (fun p => M p hs'[jj]) ps ≤ keyOf (fun p => M p hs[j0]) ps := by
    have z := List.pairwise_iff_getElem.mp h.1 i0 j0 ei d1 o1
    rw [ei2] at z
    exact z
  have k2 : keyOf (fun p => M p hs[j0]) ps' ≤ keyOf (fun p => M p hs'[jj]) ps' := by
    have z := List.pairwise_iff_getElem.mp hC j1 jj ej c1 o2
    rw [ej2] at z
    exact z
  have k3 : keyOf (fun p => M p hs[j0]) ps' < keyOf (fun p => M p hs'[jj]) ps' := le_ne k2 fun e => by
    have := keyOf_inj e ps'[b] (List.getElem_mem hb)
    rw [c2, d3] at this; cases this
  obtain ⟨r, r1, r2, r3, r4⟩ := keyOf_lt.mp k3
  have hr : ps'[r]? = some ps'[r] := List.getElem?_eq_getElem r1
  have hbb : ps'[b]? = some ps'[b] := List.getElem?_eq_getElem hb
  rw [at'_some hr] at r2 r3
  have o3 : b < r := by
    rcases Nat.lt_trichotomy b r with z | z | z
    · exact z
    · subst z
      rw [d3] at r2; cases r2
    · have q := r4 b z hb
      rw [at'_some hbb, at'_some hbb, d3, c2] at q; cases q
  refine List.not_lt.mpr k1 (keyOf_lt.mpr ⟨r, by omega, ?_, ?_, fun d e1 e2 => ?_⟩)
  · rw [at'_some (List.getElem?_eq_getElem (show r < ps.length by omega)), ← sameM r r1 (by omega) (by omega) _ (List.getElem_mem d1)]
    exact r2
  · rw [at'_some (List.getElem?_eq_getElem (show r < ps.length by omega)), ← sameM r r1 (by omega) (by omega) _ iin]
    exact r3
  · have q := r4 d e1 (by omega)
    rw [at'_some (List.getElem?_eq_getElem (show d < ps'.length by omega)), at'_some (List.getElem?_eq_getElem (show d < ps'.length by omega))] at q
    rw [at'_some (List.getElem?_eq_getElem e2), at'_some (List.getElem?_eq_getElem e2), ← sameM d (by omega) e2 (by omega) _ (List.getElem_mem d1), ← sameM d (by omega) e2 (by omega) _ iin]
    exact q
end
end Sv
end

section
set_option Elab.async false
set_option linter.all false
set_option maxRecDepth 100000
/-! The text by places; what stands in memory. -/
namespace Sv
open PySem L2 LamX

def top (i : Nat) : Stmt := PySem.Challenge.pw_servedall_k44_whole_straight_exactly_wit.main.body.getD i (.Pass ⟨0, 0, 0, 0⟩)
abbrev sCells : Stmt := top 1
abbrev sBeside : Stmt := top 2
abbrev sCorner : Stmt := top 3
abbrev sStraight : Stmt := top 4
abbrev sRows : Stmt := top 5
abbrev sCols : Stmt := top 6
abbrev sIsSorted : Stmt := top 7
abbrev sSortedBy : Stmt := top 8
abbrev sSortedOrder : Stmt := top 9
abbrev sStraightOrder : Stmt := top 10
abbrev sTable : Stmt := inClass (top 12) 0
abbrev sDeal : Stmt := top 14
abbrev sAny : Stmt := top 15
abbrev sOf : Stmt := top 16
abbrev sGrid : Stmt := top 17
abbrev sLine : Stmt := top 18
abbrev sNames : Stmt := top 19
abbrev sTab : Stmt := top 20
abbrev sShuf : Stmt := top 21
abbrev sMixed : Stmt := top 22
abbrev sSome : Stmt := top 23
abbrev sOrder : Stmt := top 24
abbrev sLCells : Stmt := top 25
abbrev sLBent : Stmt := top 26
abbrev sRing : Stmt := top 27
abbrev sRound : Stmt := top 28
abbrev sLSorted : Stmt := top 29
abbrev sLaw : Stmt := top 30

/-! ### what stands in memory -/
/-- the attributes of a table -/
def tabF (p h q : Addr) : List (Str × V) := putF "pairs" (.ref q) (putF "houses" (.ref h) (putF "people" (.ref p) []))
theorem kPH : ¬ (("people" : Str) = "houses") := by decide +kernel
theorem kPQ : ¬ (("people" : Str) = "pairs") := by decide +kernel
theorem kHQ : ¬ (("houses" : Str) = "pairs") := by decide +kernel
theorem tabF_p (p h q : Addr) : (tabF p h q).lookup ("people" : Str) = some (.ref p) := by
  unfold tabF
  rw [lookup_putF, if_neg kPQ, lookup_putF, if_neg kPH, lookup_putF, if_pos rfl]
theorem tabF_h (p h q : Addr) : (tabF p h q).lookup ("houses" : Str) = some (.ref h) := by
  unfold tabF
  rw [lookup_putF, if_neg kHQ, lookup_putF, if_pos rfl]
theorem tabF_q (p h q : Addr) : (tabF p h q).lookup ("pairs" : Str) = some (.ref q) := by
  unfold tabF
  rw [lookup_putF, if_pos rfl]
/-- a tuple of texts -/
abbrev TupS (H : Hp) (a : Addr) (xs : List Str) : Prop := H a = some (.tup (xs.map V.str))
/-- a table: its people, houses, and the pairs with their places -/
def TabO (C : Addr) (H : Hp) (t : Addr) (P Hs : List Str) (pr : List (Addr × List Str)) : Prop :=
  ∃ (dx p h q : Addr), H t = some (.ins C dx (tabF p h q)) ∧ H dx = some (.own t) ∧ TupS H p P ∧ TupS H h Hs ∧ H q = some (.tup (pr.map fun x => V.ref x.1)) ∧ ∀ x ∈ pr, TupS H x.1 x.2
/-- an order: a pair of tuples of texts -/
def OrdO (H : Hp) (o : Addr) (ps hs : List Str) : Prop := ∃ p h : Addr, H o = some (.tup [.ref p, .ref h]) ∧ TupS H p ps ∧ TupS H h hs
/-- who is served by which house -/
def rel (pr : List (Addr × List Str)) (p h : Str) : Bool := decide ([p, h] ∈ pr.map (·.2))
/-- rows at a list: the tuples of ints -/
def RowsT (H : Hp) (a : Addr) (rs : List (Addr × List Int)) : Prop := H a = some (.lst (rs.map fun r => V.ref r.1)) ∧ ∀ r ∈ rs, H r.1 = some (.tup (r.2.map V.int))
/-- rows at a list: lists of ints -/
def RowsL (H : Hp) (a : Addr) (rs : List (Addr × List Int)) : Prop := H a = some (.lst (rs.map fun r => V.ref r.1)) ∧ ∀ r ∈ rs, H r.1 = some (.lst (r.2.map V.int))

theorem TabO.ext {C : Addr} {H H' : Hp} {t : Addr} {P Hs : List Str} {pr : List (Addr × List Str)} (x : TabO C H t P Hs pr) (e : ExtN H H') : TabO C H' t P Hs pr := by
  obtain ⟨dx, p, h, q, h1, h2, h3, h4, h5, h6⟩ := x
  exact ⟨dx, p, h, q, e _ _ h1 (fun _ z => nomatch z), e _ _ h2 (fun _ z => nomatch z), e _ _ h3 (fun _ z => nomatch z), e _ _ h4 (fun _ z => nomatch z), e _ _ h5 (fun _ z => nomatch z), fun y hy => e _ _ (h6 y hy) (fun _ z => nomatch z)⟩
theorem OrdO.ext {H H' : Hp} {o : Addr} {ps hs : List Str} (x : OrdO H o ps hs) (e : ExtN H H') : OrdO H' o ps hs := by
  obtain ⟨p, h, h1, h2, h3⟩ := x
  exact ⟨p, h, e _ _ h1 (fun _ z => nomatch z), e _ _ h2 (fun _ z => nomatch z), e _ _ h3 (fun _ z => nomatch z)⟩
theorem RowsT.ext {H H' : Hp} {a : Addr} {rs : List (Addr × List Int)} (x : RowsT H a rs) (e : ExtN H H') : RowsT H' a rs :=
  ⟨e _ _ x.1 (fun _ z => nomatch z), fun r hr => e _ _ (x.2 r hr) (fun _ z => nomatch z)⟩
theorem RowsL.ext {H H' : Hp} {a : Addr} {rs : List (Addr × List Int)} (x : RowsL H a rs) (e : ExtN H H') : RowsL H' a rs :=
  ⟨e _ _ x.1 (fun _ z => nomatch z), fun r hr => e _ _ (x.2 r hr) (fun _ z => nomatch z)⟩
theorem Same.toN {H H' : Hp} (s : Same H H') : ExtN H H' := fun b o h _ => s b o h
theorem Same.new {H : Hp} {p : Addr} {o : HO} (n : H p = Option.none) : Same H (upd H p o) := fun b u e => by rw [upd_ne (ne_of_none e n)]; exact e
theorem Same.more {H0 H : Hp} {p : Addr} {o : HO} (s : Same H0 H) (n : H p = Option.none) : Same H0 (upd H p o) := s.trans (Same.new n)
/-- a store to what is not of the old heap -/
theorem Same.put {H0 H : Hp} {p : Addr} {o : HO} (s : Same H0 H) (n : H0 p = Option.none) : Same H0 (upd H p o) := fun b u e => by rw [upd_ne (ne_of_none e n)]; exact s b u e
theorem SqT.of' {K : PySem.W.Frag} {H : Hp} {a : Addr} {xs : List V} (h : H a = some (.tup xs)) : SqT K H a xs := SqT.of h

/-! ### the text, further in -/
def retOf : Stmt → Expr
  | .Return (some e) _ => e
  | _ => .Constant .none 0 ⟨0, 0, 0, 0⟩
def asgOf : Stmt → Expr
  | .Assign _ e _ => e
  | _ => .Constant .none 0 ⟨0, 0, 0, 0⟩
def lcSc : Expr → Scope
  | .ListComp _ _ sc _ => sc
  | _ => { kind := .function, names := [], isGenerator := false, isCoroutine := false }
def lcElt : Expr → Expr
  | .ListComp e _ _ _ => e
  | _ => .Constant .none 0 ⟨0, 0, 0, 0⟩
def arg0 : Expr → Expr
  | .Call _ (a :: _) _ _ => a
  | _ => .Constant .none 0 ⟨0, 0, 0, 0⟩
def ixOf : Expr → Expr
  | .Subscript e _ _ => e
  | _ => .Constant .none 0 ⟨0, 0, 0, 0⟩
def tupAt (i : Nat) : Expr → Expr
  | .Tuple es _ _ => es.getD i (.Constant .none 0 ⟨0, 0, 0, 0⟩)
  | .List es _ => es.getD i (.Constant .none 0 ⟨0, 0, 0, 0⟩)
  | _ => .Constant .none 0 ⟨0, 0, 0, 0⟩
def forBody : Stmt → List Stmt
  | .For _ _ b _ _ => b
  | .While _ b _ _ => b
  | .If _ b _ _ => b
  | _ => []
def inFor (s : Stmt) (j : Nat) : Stmt := (forBody s).getD j (.Pass ⟨0, 0, 0, 0⟩)
def bodyAt (s : Stmt) (j : Nat) : Stmt := (defBody s).getD j (.Pass ⟨0, 0, 0, 0⟩)

/-! ### the layer's rules with the written part by name -/
section
variable {X : Cx} {K : PySem.W.Frag} {tg e : Expr} {te : TE} {pos : Pos}
theorem ixT (h : X.K = K := by rfl) : IxR X (rIxT K) := by subst h; exact ix_tup
theorem ixL (h : X.K = K := by rfl) : IxR X (rIxL K) := by subst h; exact ix_list
theorem inP {P : Program} {w : World} (hu : X.A.units + 64 < cLine) (h : X.K = K := by rfl) (h2 : X.prog = P := by rfl) (h3 : X.w = w := by rfl) : OpR X (compareOp .In) (rInP K P w) := by subst h h2 h3; exact op_inP hu
theorem inTD (hu : X.A.units + 65 < cLine) (h : X.K = K := by rfl) : OpR X (compareOp .In) (rInTD K) := by subst h; exact op_inTD hu
theorem notInS (h : X.K = K := by rfl) : OpR X (compareOp .NotIn) (rIn K true) := by subst h; exact op_notIn_seq
theorem inS (h : X.K = K := by rfl) : OpR X (compareOp .In) (rIn K false) := by subst h; exact op_in_seq
theorem eqD (hu : X.A.units + 64 < cLine) (h : X.K = K := by rfl) : OpR X (compareOp .Eq) (rEqD K) := by subst h; exact op_eqD hu
theorem neD (hu : X.A.units + 64 < cLine) (h : X.K = K := by rfl) : OpR X (compareOp .NotEq) (rNeD K) := by subst h; exact op_neD hu
theorem piT (he : PE X e te) (h : X.K = K := by rfl) : PI X tg e (iTup K te) := by subst h; exact pi_tup he
theorem piL (he : PE X e te) (h : X.K = K := by rfl) : PI X tg e (iList K te) := by subst h; exact pi_list he
/-- tuple(x) -/
def rTup (K : PySem.W.Frag) : List V → Hp → VK → Prop := fun xs H Q => ∃ p ys, xs = [.ref p] ∧ ((SqL K H p ys ∧ ∀ l, H l = none → Q (.ref l) (upd H l (.tup ys))) ∨ (SqT K H p ys ∧ Q (.ref p) H))
theorem callTup (h : X.K = K := by rfl) : CallR X (.type "tuple") (rTup K) := by subst h; exact call_tuple_of
def rLen (K : PySem.W.Frag) : List V → Hp → VK → Prop := fun xs H Q => ∃ p ys, xs = [.ref p] ∧ (SqL K H p ys ∨ SqT K H p ys) ∧ Q (.int ys.length) H
theorem callLen (h : X.K = K := by rfl) : CallR X (.builtin "len") (rLen K) := by subst h; exact call_len_seq
theorem callSorted {A : Around} (h : X.K = K := by rfl) (h2 : X.A = A := by rfl) : CallR X (.builtin "sorted") (rSortedDt K A) := by subst h h2; exact cr_sortedDt
theorem callSum (hc : X.calm = true) (h : X.K = K := by rfl) : CallR X (.builtin "sum") (rSum K) := by subst h; exact cr_sum hc
theorem callAll (hc : X.calm = true) (h : X.K = K := by rfl) : CallR X (.builtin "all") (rAll K) := by subst h; exact cr_all hc
theorem peFld {f : Str} (he : PE X e te) (hb : attributeBase e f X.env (eval e X.env) = eval e X.env := by rfl) (h : X.K = K := by rfl) : PE X (.Attribute e f pos) (tFld K te f) := by subst h; exact pe_fld he hb
theorem peBackT {k : Nat} {p1 p2 p3 : Pos} (he : PE X e te) (h : X.K = K := by rfl) : PE X (.Subscript e (.Slice none none (some (.UnaryOp .USub (.Constant (.int 1) k p1) p2)) p3) pos) (tBackT K te) := by subst h; exact pe_backT he
theorem peBackL {k : Nat} {p1 p2 p3 : Pos} (he : PE X e te) (h : X.K = K := by rfl) : PE X (.Subscript e (.Slice none none (some (.UnaryOp .USub (.Constant (.int 1) k p1) p2)) p3) pos) (tRevL K te) := by subst h; exact pe_revL he
end
end Sv
end

section
set_option Elab.async false
set_option linter.all false
set_option maxRecDepth 100000
/-! Comprehensions whose items come from a thing that stands still: what the new list holds. -/
namespace Sv
open PySem L2 LamX

def Off (D : Addr) (H H' : Hp) : Prop := ∀ b o, b ≠ D → H b = some o → H' b = some o
theorem Off.upd {D : Addr} {H : Hp} {o : HO} : Off D H (upd H D o) := fun b u n e => by rw [upd_ne n]; exact e
theorem Off.of {D : Addr} {H H' : Hp} (s : Same H H') : Off D H H' := fun b o _ e => s b o e
theorem Off.trans {D : Addr} {H H' H'' : Hp} (s : Off D H H') (t : Off D H' H'') : Off D H H'' := fun b o n e => t b o n (s b o n e)
open PySem.W (EachIs)
/-- so far -/
def LcP (H1 : Hp) (D : Addr) (F : Nat → Bool) (G : Nat → V → Hp → Prop) (i : Nat) (H : Hp) : Prop :=
  Same H1 H ∧ ∃ ys, H D = some (.lst ys) ∧ EachIs (fun y j => G j y H) ys ((List.range i).filter F)
/-- the items stand what happens off the list, and what happens to the list -/
def Stay (D : Addr) (G : Nat → V → Hp → Prop) : Prop := ∀ j y H H', Off D H H' → G j y H → G j y H'
section
variable {H1 : Hp} {D : Addr} {F : Nat → Bool} {G : Nat → V → Hp → Prop}
theorem LcP.start (n1 : H1 D = none) : LcP H1 D F G 0 (upd H1 D (.lst [])) := ⟨fun b o e => by rw [upd_ne (ne_of_none e n1)]; exact e, [], upd_same, .nil⟩
theorem each_len {ys : List V} {i : Nat} {H : Hp} (e : EachIs (fun y j => G j y H) ys ((List.range i).filter F)) : ys.length ≤ i := by
  rw [e.length]
  exact Nat.le_trans (List.length_filter_le _ _) (by rw [List.length_range]; exact Nat.le_refl _)
theorem LcP.put {i : Nat} {H H4 : Hp} {y0 : V} (n1 : H1 D = none) (st : Stay D G) (hz : i < sizeLine) (p : LcP H1 D F G i H) (hF : F i = true) (s : Same H H4) (g : G i y0 H4) :
    ∃ acc, H4 D = some (.lst acc) ∧ acc.length < sizeLine ∧ LcP H1 D F G (i + 1) (upd H4 D (.lst (acc ++ [y0]))) := by
  obtain ⟨s1, ys, hd, e⟩ := p
  refine ⟨ys, s _ _ hd, Nat.lt_of_le_of_lt (each_len e) hz, Same.put (Same.trans s1 s) n1, ys ++ [y0], upd_same, ?_⟩
  rw [List.range_succ, List.filter_append, show [i].filter F = [i] by simp [hF]]
  exact PySem.W.each_snoc (R := fun y j => G j y (upd H4 D (.lst (ys ++ [y0])))) (st _ _ _ _ Off.upd g) (e.mono fun a b h => st _ _ _ _ ((Off.of s).trans Off.upd) h)
theorem LcP.skip {i : Nat} {H H3 : Hp} (st : Stay D G) (p : LcP H1 D F G i H) (hF : F i = false) (s : Same H H3) : LcP H1 D F G (i + 1) H3 := by
  obtain ⟨s1, ys, hd, e⟩ := p
  refine ⟨Same.trans s1 s, ys, s _ _ hd, ?_⟩
  rw [List.range_succ, List.filter_append, show [i].filter F = [] by simp [hF], List.append_nil]
  exact e.mono fun a b h => st _ _ _ _ (Off.of s) h
/-- a turn's reading -/
theorem LcP.turn {i : Nat} {H : Hp} {tt : TT} {te : TE} {σ2 : L2.St} {H2 : Hp} (n1 : H1 D = none) (st : Stay D G) (hz : i < sizeLine) (p : LcP H1 D F G i H)
    (h : ∀ (k : VK) (k' : Hp → Prop), (F i = true → ∀ y H4, Same H H4 → G i y H4 → k y H4) → (F i = false → ∀ H3, Same H H3 → k' H3) → tt σ2 H2 fun b H3 => if b = true then te σ2 H3 k else k' H3) :
    tt σ2 H2 fun b H3 => if b = true then te σ2 H3 fun y H4 => ∃ acc, H4 D = some (.lst acc) ∧ acc.length < sizeLine ∧ LcP H1 D F G (i + 1) (upd H4 D (.lst (acc ++ [y]))) else LcP H1 D F G (i + 1) H3 :=
  h _ _ (fun hF y H4 s g => p.put n1 st hz hF s g) fun hF H3 s => p.skip st hF s
end
/-- the turn as the reader asks it -/
abbrev LcStep (F : Nat → Bool) (G : Nat → V → Hp → Prop) (g : TG) (tt : TT) (te : TE) (vs : List Nat) (σ : L2.St) (i : Nat) (x : V) (H : Hp) : Prop :=
  ∀ (k : VK) (k' : Hp → Prop), (F i = true → ∀ y H4, Same H H4 → G i y H4 → k y H4) → (F i = false → ∀ H3, Same H H3 → k' H3) →
    g x (wipe σ vs) H fun σ2 H2 => wipe σ2 vs = wipe σ vs ∧ tt σ2 H2 fun b H3 => if b = true then te σ2 H3 k else k' H3
section
variable {K : PySem.W.Frag} {a : Addr} {xs : List V} {g : TG} {tt : TT} {te : TE} {vs : List Nat} {σ : L2.St} {H1 : Hp} {D : Addr} {Qd : Hp → Prop}
theorem map_tup (F : Nat → Bool) (G : Nat → V → Hp → Prop) (n1 : H1 D = none) (hx : SqT K H1 a xs) (hz : xs.length ≤ sizeLine) (st : Stay D G)
    (hs : ∀ i x H, xs[i]? = some x → LcP H1 D F G i H → LcStep F G g tt te vs σ i x H) (hd : ∀ ys H, Same H1 H → H D = some (.lst ys) → EachIs (fun y j => G j y H) ys ((List.range xs.length).filter F) → Qd H) :
    ∃ W : Nat → Nat → Hp → Prop, (∃ m, W 0 m (upd H1 D (.lst []))) ∧ ∀ i m H, W i m H →
      ((Itt K a).stop i H ∧ Qd H) ∨ ((Itt K a).go i H ∧ ∃ Nx : Hp → Prop, (∀ H', Nx H' → ∃ m', m' < m ∧ W (i + 1) m' H') ∧ ∀ x H', (Itt K a).yld i H x H' → g x (wipe σ vs) H' fun σ2 H2 => wipe σ2 vs = wipe σ vs ∧ tt σ2 H2 fun b H3 =>
        if b = true then te σ2 H3 fun y H4 => ∃ acc, H4 D = some (.lst acc) ∧ acc.length < sizeLine ∧ Nx (upd H4 D (.lst (acc ++ [y]))) else Nx H3) := by
  refine lc_tup (LcP H1 D F G) (LcP.start n1) (fun i H _ p => extN_seqT (Same.toN p.1) hx) (fun i x H hi p => ?_) fun H p => hd _ H p.1 p.2.choose_spec.1 p.2.choose_spec.2
  have hlt := (List.getElem?_eq_some_iff.mp hi).1
  exact hs i x H hi p _ _ (fun hF y H4 s g => p.put n1 st (by omega) hF s g) fun hF H3 s => p.skip st hF s
theorem map_list (F : Nat → Bool) (G : Nat → V → Hp → Prop) (n1 : H1 D = none) (hx : SqL K H1 a xs) (hz : xs.length ≤ sizeLine) (st : Stay D G)
    (hs : ∀ i x H, xs[i]? = some x → LcP H1 D F G i H → LcStep F G g tt te vs σ i x H) (hd : ∀ ys H, Same H1 H → H D = some (.lst ys) → EachIs (fun y j => G j y H) ys ((List.range xs.length).filter F) → Qd H) :
    ∃ W : Nat → Nat → Hp → Prop, (∃ m, W 0 m (upd H1 D (.lst []))) ∧ ∀ i m H, W i m H →
      ((Itl K a).stop i H ∧ Qd H) ∨ ((Itl K a).go i H ∧ ∃ Nx : Hp → Prop, (∀ H', Nx H' → ∃ m', m' < m ∧ W (i + 1) m' H') ∧ ∀ x H', (Itl K a).yld i H x H' → g x (wipe σ vs) H' fun σ2 H2 => wipe σ2 vs = wipe σ vs ∧ tt σ2 H2 fun b H3 =>
        if b = true then te σ2 H3 fun y H4 => ∃ acc, H4 D = some (.lst acc) ∧ acc.length < sizeLine ∧ Nx (upd H4 D (.lst (acc ++ [y]))) else Nx H3) := by
  refine lc_list (LcP H1 D F G) (LcP.start n1) (fun i H _ p => extN_seqL (Same.toN p.1) hx) (fun i x H hi p => ?_) fun H p => hd _ H p.1 p.2.choose_spec.1 p.2.choose_spec.2
  have hlt := (List.getElem?_eq_some_iff.mp hi).1
  exact hs i x H hi p _ _ (fun hF y H4 s g => p.put n1 st (by omega) hF s g) fun hF H3 s => p.skip st hF s
theorem map_range {lo : Int} {n : Nat} (F : Nat → Bool) (G : Nat → V → Hp → Prop) (n1 : H1 D = none) (hz : n ≤ sizeLine) (st : Stay D G)
    (hs : ∀ i H, i < n → LcP H1 D F G i H → LcStep F G g tt te vs σ i (.int (lo + i)) H) (hd : ∀ ys H, Same H1 H → H D = some (.lst ys) → EachIs (fun y j => G j y H) ys ((List.range n).filter F) → Qd H) :
    ∃ W : Nat → Nat → Hp → Prop, (∃ m, W 0 m (upd H1 D (.lst []))) ∧ ∀ i m H, W i m H →
      ((Itr lo n).stop i H ∧ Qd H) ∨ ((Itr lo n).go i H ∧ ∃ Nx : Hp → Prop, (∀ H', Nx H' → ∃ m', m' < m ∧ W (i + 1) m' H') ∧ ∀ x H', (Itr lo n).yld i H x H' → g x (wipe σ vs) H' fun σ2 H2 => wipe σ2 vs = wipe σ vs ∧ tt σ2 H2 fun b H3 =>
        if b = true then te σ2 H3 fun y H4 => ∃ acc, H4 D = some (.lst acc) ∧ acc.length < sizeLine ∧ Nx (upd H4 D (.lst (acc ++ [y]))) else Nx H3) := by
  refine lc_range (LcP H1 D F G) (LcP.start n1) (fun i H hlt p => ?_) fun H p => hd _ H p.1 p.2.choose_spec.1 p.2.choose_spec.2
  exact hs i H hlt p _ _ (fun hF y H4 s g => p.put n1 st (by omega) hF s g) fun hF H3 s => p.skip st hF s
end
/-! ### what the items then are -/
def yes : Nat → Bool := fun _ => true
theorem filter_yes (n : Nat) : (List.range n).filter yes = List.range n := List.filter_eq_self.mpr fun _ _ => rfl
theorem each_vals {α : Type} {f : α → V} {xs : List α} {ys : List V} {F : Nat → Bool} (e : EachIs (fun (y : V) (j : Nat) => ∃ x, xs[j]? = some x ∧ y = f x) ys ((List.range xs.length).filter F)) (hF : F = yes) : ys = xs.map f := by
  subst hF
  rw [filter_yes] at e
  refine List.ext_getElem? fun j => ?_
  by_cases hj : j < xs.length
  · have hl : j < ys.length := by rw [e.length, List.length_range]; exact hj
    have hz := e.zip (ys[j], j) (by
      refine List.mem_iff_getElem?.mpr ⟨j, ?_⟩
      rw [List.getElem?_zip_eq_some]
      exact ⟨List.getElem?_eq_getElem hl, by rw [List.getElem?_range hj]⟩)
    obtain ⟨x, h1, h2⟩ := hz
    rw [List.getElem?_map, h1, List.getElem?_eq_getElem hl]
    exact congrArg some h2
  · rw [List.getElem?_eq_none (by rw [e.length, List.length_range]; omega), List.getElem?_eq_none (by rw [List.length_map]; omega)]
/-- places of things -/
theorem each_refs {α : Type} {R : Addr → α → Prop} : ∀ {ys : List V} {is : List Nat} {q : Nat → α}, EachIs (fun (y : V) (j : Nat) => ∃ a, y = .ref a ∧ R a (q j)) ys is → ∃ rs : List (Addr × α), ys = rs.map (fun r => V.ref r.1) ∧ rs.map (·.2) = is.map q ∧ ∀ r ∈ rs, R r.1 r.2
  | _, _, _, .nil => ⟨[], rfl, rfl, by simp⟩
  | _, _, q, .cons ⟨a, e, h⟩ t => by
    obtain ⟨rs, e1, e2, e3⟩ := each_refs (q := q) t
    refine ⟨(a, _) :: rs, by rw [e, e1]; rfl, by rw [List.map_cons, List.map_cons, e2], fun r hr => ?_⟩
    rcases List.mem_cons.mp hr with rfl | hr
    · exact h
    · exact e3 r hr
end Sv
end

section
set_option Elab.async false
set_option linter.all false
set_option maxRecDepth 100000
set_option maxHeartbeats 4000000
namespace Sv
open PySem L2 LamX

theorem szl {n : Nat} (h : n ≤ 4000) : n ≤ sizeLine := Nat.le_trans h (by decide)
theorem map_at {α β : Type} {f : α → β} {l : List α} {i : Nat} {y : β} (h : (l.map f)[i]? = some y) : ∃ x, l[i]? = some x ∧ y = f x := by
  rw [List.getElem?_map] at h
  cases e : l[i]? with
  | none => rw [e] at h; cases h
  | some x => rw [e] at h; exact ⟨x, rfl, (Option.some.inj h).symm⟩
theorem range_getD {α : Type} (l : List α) (d : α) : (List.range l.length).map (fun j => l.getD j d) = l := by
  refine List.ext_getElem? fun j => ?_
  by_cases hj : j < l.length
  · rw [List.getElem?_map, List.getElem?_range hj, List.getElem?_eq_getElem hj]
    show some (l.getD j d) = _
    rw [List.getD_eq_getElem?_getD, List.getElem?_eq_getElem hj]; rfl
  · rw [List.getElem?_eq_none (by rw [List.length_map, List.length_range]; omega), List.getElem?_eq_none (by omega)]
theorem none_of {H H' : Hp} {a : Addr} (s : Same H H') (n : H' a = none) : H a = none := by
  cases e : H a with
  | none => rfl
  | some o => rw [s _ _ e] at n; cases n
/-- the cells of a table in an order -/
def matOf (M : Str → Str → Bool) (ps hs : List Str) : List (List Int) := ps.map fun p => hs.map fun h => b2 (M p h)
def spCells (C : Addr) : Sp := fun vs H Q _ => ∃ (t o : Addr) (P Hs : List Str) (pr : List (Addr × List Str)) (ps hs : List Str), vs = [.ref t, .ref o] ∧ TabO C H t P Hs pr ∧ OrdO H o ps hs ∧ ps.length ≤ 100 ∧ hs.length ≤ 100 ∧ pr.length < 64 ∧
  ∀ (H' : Hp) (a : Addr) (rs : List (Addr × List Int)), Same H H' → H a = none → RowsT H' a rs → rs.map (·.2) = matOf (rel pr) ps hs → Q (.ref a) H'

theorem callSet {X : Cx} {P : Program} {w : World} {K : PySem.W.Frag} (hc : X.calm = true) (hu : X.A.units + 64 < cLine) (h : X.K = K := by rfl) (h2 : X.prog = P := by rfl) (h3 : X.w = w := by rfl) : CallR X (.type "set") (rSetP K P w) := by subst h h2 h3; exact cr_setP hc hu
structure TxtC (K : PySem.W.Frag) (mg : Str → Option Value) (C : Addr) : Prop where
  cl : Cls K C
  nP : NoAttr K C "people"
  nH : NoAttr K C "houses"
  nQ : NoAttr K C "pairs"
  set : mg "set" = none
  int : mg "int" = none
  tuple : mg "tuple" = none
  range : mg "range" = none
  len : mg "len" = none
  enum : mg "enumerate" = none
  sorted : mg "sorted" = none
  all : mg "all" = none

section
variable {P : Program} {w : World} {K : PySem.W.Frag} {mg : Str → Option Value} {base : Heap}
abbrev lcCells : Expr := retOf (bodyAt sCells 1)
theorem scCells : FnScope ["table", "order", "pairs", "person", "house"] ["table", "order"] (defScope sCells) := ⟨rfl, rfl, rfl, by decide +kernel, rfl, by decide +kernel, by decide +kernel⟩
theorem ok_cells {f C : Addr} {fd : FuncData} (F : Fun K "cells" "cells" sCells f fd) (T : TxtC K mg C) : FnOk P w K mg base CX0 1 f fd ["table", "order"] (spCells C) := by
  refine F.ok scCells (fun vs H Q E h => ?_) (fun cdv A outer s H vs Q E hr h => ?_)
  · obtain ⟨t, o, _, _, _, _, _, rfl, _⟩ := h
    rfl
  · obtain ⟨t, o, P', Hs, pr, ps, hs, rfl, hT, hO, z1, z2, z3, k⟩ := h
    obtain ⟨dx, pa, ha, qa, t1, t2, t3, t4, t5, t6⟩ := id hT
    obtain ⟨po, ho, o1, o2, o3⟩ := id hO
    refine ⟨_, pss_cons (ps_set (i := 2) scCells.nd rfl (Or.inr rfl) (pe_callTy (T := "set") (callSet (K := K) (P := P) (w := w) rfl hr.units) (by rfl) T.set (by decide +kernel) (pa_cons (peFld (K := K) (pv 0) rfl) pa_nil)))
      (pss_one (ps_ret (pe_lc (own := [("person", 3)]) (g := gName 3) (tt := tYes) (by rfl) scCells.nd (piT (K := K) (pe_ix (ixT (K := K)) (pv 1) pe_int (fun _ _ => rfl))) (blkOk_by (N := ["table", "order", "pairs", "person", "house"]) (sc := defScope sCells) (by decide +kernel))
        (fun _ _ _ _ _ => pg_name (i := 3) scCells.nd rfl (Or.inr rfl)) (fun _ _ _ _ _ => pts_nil)
        (fun _ _ _ _ _ => pe_callTy (T := "tuple") (callTup (K := K)) (by rfl) T.tuple (by decide +kernel) (pa_cons
          (pe_lc (own := [("house", 4)]) (g := gName 4) (tt := tYes) (by rfl) scCells.nd (piT (K := K) (pe_ix (ixT (K := K)) (pv 1) pe_int (fun _ _ => rfl))) (blkOk_by (N := ["table", "order", "pairs", "person", "house"]) (sc := relS (lcSc lcCells) (defScope sCells)) (by decide +kernel))
            (fun _ _ _ _ _ => pg_name (i := 4) scCells.nd rfl (Or.inl rfl)) (fun _ _ _ _ _ => pts_nil)
            (fun _ _ _ _ _ => pe_callTy (T := "int") call_int1 (by rfl) T.int (by decide +kernel) (pa_cons (pe_cmpR (inP (K := K) (P := P) (w := w) hr.units) (pe_tup (pa_cons (pv 3) (pa_cons (pv 4) pa_nil))) (pv 2) (by rfl)) pa_nil))) pa_nil))))), ?_⟩
    refine ⟨_, rfl, t, C, dx, _, _, rfl, t1, T.cl, T.nQ, tabF_q _ _ _, qa, pr, rfl, SqT.of t5, fun x hx => SqT.of (t6 x hx), z3, fun sa L hs0 hL1 hL2 => ?_⟩
    have s1 : Same H (upd H sa (SetP P w sa L)) := Same.new hs0
    refine ⟨_, rfl, o, _, 0, _, rfl, rfl, SqT.of (s1 _ _ o1), rfl, po, rfl, ⟨_, SqT.of (s1 _ _ o2)⟩, fun D hD => ?_⟩
    refine map_tup yes (fun j y H => ∃ a, y = .ref a ∧ (a ≠ D ∧ H a = some (.tup (((matOf (rel pr) ps hs).getD j []).map V.int)))) hD (SqT.of (s1 _ _ o2)) (szl (by rw [List.length_map]; omega)) (fun j y H H' e ⟨a, h1, h2, h3⟩ => ⟨a, h1, h2, e _ _ h2 h3⟩) (fun i x H2 hi p => ?_) (fun ys H2 hs2 hd2 hy => ?_)
    · obtain ⟨q, hq, rfl⟩ := map_at hi
      intro k2 k2' kk kk'
      have s2 := Same.trans s1 p.1
      refine ⟨rfl, ⟨_, rfl, o, _, 1, _, rfl, rfl, SqT.of (s2 _ _ o1), rfl, ho, rfl, ⟨_, SqT.of (s2 _ _ o3)⟩, fun D2 hD2 => ?_⟩⟩
      refine map_tup yes (fun j y H => ∃ h, hs[j]? = some h ∧ y = .int (b2 (rel pr q h))) hD2 (SqT.of (s2 _ _ o3)) (szl (by rw [List.length_map]; omega)) (fun j y H H' e h => h) (fun i2 x2 H3 hi2 p2 => ?_) (fun ys2 H3 hs3 hd3 hy2 => ?_)
      · obtain ⟨h2, hh2, rfl⟩ := map_at hi2
        intro k3 k3' kk3 kk3'
        have s3 := Same.trans s2 p2.1
        refine ⟨rfl, ⟨_, rfl, _, rfl, szl (by show 2 ≤ 4000; decide), fun pt hpt => ⟨_, rfl, pt, sa, [q, h2], L, rfl, rfl, SqT.of upd_same, ?_, fun x hx => ?_, .inr ⟨_, rfl, kk3 rfl _ _ (Same.new hpt) ⟨h2, hh2, ?_⟩⟩⟩⟩⟩
        · rw [upd_ne (ne_of_none (p2.1 _ _ (p.1 _ _ upd_same)) hpt)]; exact p2.1 _ _ (p.1 _ _ upd_same)
        · exact SqT.of (Same.more s3 hpt _ _ (t6 x (hL1 x hx)))
        · congr 1
          have e : ([q, h2] ∈ L.map (·.2)) ↔ [q, h2] ∈ pr.map (·.2) := ⟨fun hm => by
            obtain ⟨x, hx, e⟩ := List.mem_map.mp hm
            exact e ▸ List.mem_map_of_mem (hL1 x hx), fun hm => by
            obtain ⟨x, hx, e⟩ := List.mem_map.mp hm
            exact e ▸ hL2 x hx⟩
          unfold b2 rel
          simp only [e]
      · rw [List.length_map] at hy2
        obtain rfl := each_vals hy2 rfl
        refine ⟨D2, _, rfl, .inl ⟨SqL.of hd3, fun l hl => kk rfl _ _ (Same.more hs3 hl) ⟨l, rfl, ?_, ?_⟩⟩⟩
        · rintro rfl
          have := hs3 _ _ p.2.choose_spec.1
          rw [hl] at this; cases this
        · rw [upd_same]
          have e : (matOf (rel pr) ps hs).getD i [] = hs.map fun h => b2 (rel pr q h) := by
            unfold matOf
            rw [List.getD_eq_getElem?_getD, List.getElem?_map, hq]; rfl
          rw [e, List.map_map]; rfl
    · rw [List.length_map, filter_yes] at hy
      obtain ⟨rs, rfl, e2, e3⟩ := each_refs (R := fun a row => a ≠ D ∧ H2 a = some (.tup (row.map V.int))) (q := fun j => (matOf (rel pr) ps hs).getD j []) hy
      refine k H2 D rs (Same.trans s1 hs2) (none_of s1 hD) ⟨hd2, fun r hr => (e3 r hr).2⟩ ?_
      rw [e2]
      have : ps.length = (matOf (rel pr) ps hs).length := by unfold matOf; rw [List.length_map]
      rw [this]
      exact range_getD _ _
end
end Sv
end

section
set_option Elab.async false
set_option linter.all false
set_option maxRecDepth 100000
set_option maxHeartbeats 4000000
namespace Sv
open PySem L2 LamX

/-- a bent corner of two rows of cells -/
def BadI (A B : List Int) (l h : Nat) : Prop := l < h ∧ A[l]? = some 1 ∧ A[h]? = some 1 ∧ B[l]? = some 1 ∧ B[h]? = some 0
def spBeside : Sp := fun vs H Q _ => ∃ (a : Addr) (i j : Nat) (rs : List (Addr × List Int)) (r1 r2 : Addr × List Int), vs = [.ref a, .int i, .int j] ∧ RowsT H a rs ∧ rs[i]? = some r1 ∧ rs[j]? = some r2 ∧ r1.2.length = r2.2.length ∧ r1.2.length ≤ 100 ∧
  (∀ H', Same H H' → (∀ l h, ¬ BadI r1.2 r2.2 l h) → Q .non H') ∧ ∀ (H' : Hp) (p : Addr) (l h : Nat), Same H H' → BadI r1.2 r2.2 l h → H p = none → H' p = some (.tup [.int l, .int h]) → Q (.ref p) H'

theorem row_get {H : Hp} {a : Addr} {rs : List (Addr × List Int)} {i : Nat} {r : Addr × List Int} (R : RowsT H a rs) (h : rs[i]? = some r) : H r.1 = some (.tup (r.2.map V.int)) := R.2 r (List.mem_of_getElem? h)
theorem row_ref {rs : List (Addr × List Int)} {i : Nat} {r : Addr × List Int} (h : rs[i]? = some r) : (rs.map fun r => V.ref r.1)[i]? = some (V.ref r.1) := by rw [List.getElem?_map, h]; rfl
theorem int_get {A : List Int} {i : Nat} {x : Int} (h : A[i]? = some x) : (A.map V.int)[i]? = some (V.int x) := by rw [List.getElem?_map, h]; rfl
theorem big {n : Nat} (h : n ≤ 4000) : -(2 ^ 62 : Int) ≤ (n : Int) ∧ (n : Int) < 2 ^ 62 := by omega

section
variable {P : Program} {w : World} {K : PySem.W.Frag} {mg : Str → Option Value} {base : Heap}
theorem scBeside : FnScope ["rows", "first", "later", "low", "here", "high"] ["rows", "first", "later"] (defScope sBeside) := ⟨rfl, rfl, rfl, by decide +kernel, rfl, by decide +kernel, by decide +kernel⟩
theorem ok_beside {f C : Addr} {fd : FuncData} (F : Fun K "bent_beside" "bent_beside" sBeside f fd) (T : TxtC K mg C) : FnOk P w K mg base CX0 1 f fd ["rows", "first", "later"] spBeside := by
  refine F.ok scBeside (fun vs H Q E h => ?_) (fun cdv A outer s H vs Q E hr h => ?_)
  · obtain ⟨a, i, j, _, _, _, rfl, _⟩ := h
    rfl
  · obtain ⟨a, i, j, rs, r1, r2, rfl, R, h1, h2, e12, z1, k1, k2⟩ := h
    refine ⟨_, pss_cons (ps_for PassesOwn.never rfl (pi_enumT (by rfl) T.enum (pa_cons (pe_ix (ixL (K := K)) (pv 0) (pv 1) (fun _ _ => rfl)) pa_nil))
        (pg_tup rfl (pgs_cons (pg_name (i := 3) scBeside.nd rfl (Or.inl rfl)) (pgs_cons (pg_name (i := 4) scBeside.nd rfl (Or.inl rfl)) pgs_nil)))
        (pss_one (ps_for PassesOwn.never rfl (pi_range2 (by rfl) T.range (pa_cons (pe_op op_add (pv 3) pe_int) (pa_cons (pe_callB call_len_seq (by rfl) T.len PySem.boot_len (pa_cons (pe_ix (ixL (K := K)) (pv 0) (pv 1) (fun _ _ => rfl)) pa_nil)) pa_nil)))
          (pg_name (i := 5) scBeside.nd rfl (Or.inl rfl))
          (pss_one (ps_if (pw_and (pt_link3 op_eq op_eq op_eq (pv 4) (pe_ix (ixT (K := K)) (pe_ix (ixL (K := K)) (pv 0) (pv 1) (fun _ _ => rfl)) (pv 5) (fun _ _ => rfl)) (pe_ix (ixT (K := K)) (pe_ix (ixL (K := K)) (pv 0) (pv 2) (fun _ _ => rfl)) (pv 3) (fun _ _ => rfl)) pe_int)
              (pw_and1 (pt_cmpR op_eq (pe_ix (ixT (K := K)) (pe_ix (ixL (K := K)) (pv 0) (pv 2) (fun _ _ => rfl)) (pv 5) (fun _ _ => rfl)) pe_int (nomark _)))).pt
            (pss_one (ps_ret (pe_tup (pa_cons (pv 3) (pa_cons (pv 5) pa_nil))))) pss_nil)))))
      (pss_one (ps_ret pe_non)), ?_⟩
    have t1 := row_get R h1
    have t2 := row_get R h2
    refine ⟨_, rfl, _, rfl, a, _, _, _, rfl, rfl, SqL.of R.1, atI_nat (row_ref h1), r1.1, _, rfl, SqT.of t1, ?_⟩
    refine for_enumT (fun n σ H' => Same H H' ∧ (∃ x3 x4 x5, σ = [some (.ref a), some (.int i), some (.int j), x3, x4, x5]) ∧ ∀ l h, l < n → ¬ BadI r1.2 r2.2 l h) ⟨fun _ _ e => e, ⟨_, _, _, rfl⟩, fun _ _ z => absurd z (Nat.not_lt_zero _)⟩
      (fun n σ H' _ p => SqT.of (p.1 _ _ t1)) (fun n x σ H' tt hx p hn => ?_) (fun σ H' p => ?_)
    · obtain ⟨s1, ⟨x3, x4, x5, rfl⟩, nb⟩ := p
      obtain ⟨c, hc, rfl⟩ := map_at hx
      have s2 := Same.more (o := .tup [.int n, .int c]) s1 hn
      have hnl : n < r1.2.length := (List.getElem?_eq_some_iff.mp hc).1
      refine ⟨tt, [.int n, .int c], rfl, SqT.of upd_same, rfl, _, _, rfl, _, _, rfl, rfl, ?_⟩
      refine ⟨_, rfl, _, _, rfl, rfl, _, rfl, _, rfl, a, _, _, _, rfl, rfl, SqL.of (s2 _ _ R.1), atI_nat (row_ref h1), r1.1, _, rfl, .inr (SqT.of (s2 _ _ t1)), ?_⟩
      rw [List.length_map]
      refine ⟨(n : Int) + 1, (r1.2.length : Nat), rfl, ⟨by omega, by omega, by omega, by omega⟩, ?_⟩
      refine for_range (lo := (n : Int) + 1) (n := (((r1.2.length : Nat) : Int) - ((n : Int) + 1)).toNat) (fun m σ H' => Same H H' ∧ (∃ x5, σ = [some (.ref a), some (.int i), some (.int j), some (.int n), some (.int c), x5]) ∧ ∀ h, h < n + 1 + m → ¬ BadI r1.2 r2.2 n h) ⟨s2, ⟨_, rfl⟩, fun h hh z => by have := z.1; omega⟩ (fun m σ H2 hm p2 => ?_) (fun σ H2 p2 => ?_)
      · obtain ⟨s3, ⟨y5, rfl⟩, nb2⟩ := p2
        have hh : n + 1 + m < r1.2.length := by omega
        obtain ⟨c2, hc2⟩ : ∃ c2, r1.2[n + 1 + m]? = some c2 := ⟨_, List.getElem?_eq_getElem hh⟩
        obtain ⟨d1, hd1⟩ : ∃ d1, r2.2[n]? = some d1 := ⟨_, List.getElem?_eq_getElem (by omega)⟩
        obtain ⟨d2, hd2⟩ : ∃ d2, r2.2[n + 1 + m]? = some d2 := ⟨_, List.getElem?_eq_getElem (by omega)⟩
        have en : (n : Int) + 1 + (m : Nat) = ((n + 1 + m : Nat) : Int) := by omega
        show gName 5 (.int ((n : Int) + 1 + (m : Nat))) _ _ _
        rw [en]
        have nbad : ¬ BadI r1.2 r2.2 n (n + 1 + m) → ∀ h, h < n + 1 + (m + 1) → ¬ BadI r1.2 r2.2 n h := fun z h hh2 => by
          rcases Nat.lt_or_ge h (n + 1 + m) with q | q
          · exact nb2 h q
          · rw [show h = n + 1 + m by omega]; exact z
        have u1 := SqL.of (K := K) (s3 _ _ R.1)
        have u2 := SqT.of (K := K) (s3 _ _ t1)
        have u3 := SqT.of (K := K) (s3 _ _ t2)
        have done : ¬ BadI r1.2 r2.2 n (n + 1 + m) → Same H H2 ∧ (∃ x5, [some (V.ref a), some (.int i), some (.int j), some (.int n), some (.int c), some (.int ((n + 1 + m : Nat) : Int))] = [some (.ref a), some (.int i), some (.int j), some (.int n), some (.int c), x5]) ∧ ∀ h, h < n + 1 + (m + 1) → ¬ BadI r1.2 r2.2 n h := fun z => ⟨s3, ⟨_, rfl⟩, nbad z⟩
        refine ⟨_, rfl, _, rfl, _, rfl, a, _, _, _, rfl, rfl, u1, atI_nat (row_ref h1), _, rfl, r1.1, _, _, _, rfl, rfl, u2, atI_nat (int_get hc2), rfl, _, rfl, ?_⟩
        refine ite2 (fun e1 => ?_) (fun e1 => iteF (iteF (done fun z => ?_)))
        · have e1 := V.int.inj (of_decide_eq_true e1)
          refine ⟨_, rfl, _, rfl, a, _, _, _, rfl, rfl, u1, atI_nat (row_ref h2), _, rfl, r2.1, _, _, _, rfl, rfl, u3, atI_nat (int_get hd1), rfl, _, rfl, ?_⟩
          refine ite2 (fun e2 => ?_) (fun e2 => iteF (iteF (done fun z => ?_)))
          · have e2 := V.int.inj (of_decide_eq_true e2)
            refine ⟨rfl, _, rfl, ?_⟩
            refine ite2 (fun e3 => ?_) (fun e3 => iteF (done fun z => ?_))
            · have e3 := V.int.inj (of_decide_eq_true e3)
              refine ⟨_, rfl, _, rfl, a, _, _, _, rfl, rfl, u1, atI_nat (row_ref h2), _, rfl, r2.1, _, _, _, rfl, rfl, u3, atI_nat (int_get hd2), rfl, _, rfl, ?_⟩
              refine ite2 (fun e4 => ?_) (fun e4 => done fun z => ?_)
              · have e4 := V.int.inj (of_decide_eq_true e4)
                refine ⟨_, rfl, _, rfl, szl (by show 2 ≤ 4000; decide), fun p hp => k2 _ p n (n + 1 + m) (Same.more s3 hp) ⟨by omega, ?_, ?_, ?_, ?_⟩ (none_of s3 hp) upd_same⟩
                · rw [hc, e1, e2, e3]
                · rw [hc2, e2, e3]
                · rw [hd1, e3]
                · rw [hd2, e4]
              · refine e4 (decide_eq_true ?_)
                have := z.2.2.2.2
                rw [hd2] at this
                rw [Option.some.inj this]
            · refine e3 (decide_eq_true ?_)
              have := z.2.2.2.1
              rw [hd1] at this
              rw [Option.some.inj this]
          · refine e2 (decide_eq_true ?_)
            have q1 := z.2.2.2.1
            have q2 := z.2.2.1
            rw [hd1] at q1
            rw [hc2] at q2
            rw [Option.some.inj q1, Option.some.inj q2]
        · refine e1 (decide_eq_true ?_)
          have q1 := z.2.1
          have q2 := z.2.2.1
          rw [hc] at q1
          rw [hc2] at q2
          rw [Option.some.inj q1, Option.some.inj q2]
      · obtain ⟨s3, ⟨y5, rfl⟩, nb2⟩ := p2
        refine ⟨s3, ⟨_, _, _, rfl⟩, fun l h hl => ?_⟩
        rcases Nat.lt_or_ge l n with q | q
        · exact nb l h q
        · rw [show l = n by omega]
          intro z
          have hz : h < r1.2.length := (List.getElem?_eq_some_iff.mp z.2.2.1).1
          exact nb2 h (by omega) z
    · obtain ⟨s1, _, nb⟩ := p
      refine k1 _ s1 fun l h z => nb l h ?_ z
      have := (List.getElem?_eq_some_iff.mp z.2.1).1
      rw [List.length_map]; exact this
end
end Sv
end

section
set_option Elab.async false
set_option linter.all false
set_option maxRecDepth 100000
set_option maxHeartbeats 4000000
namespace Sv
open PySem L2 LamX

/-! ### bent corners by places -/
section
variable {M : Str → Str → Bool} {ps hs : List Str}
def BentAt (M : Str → Str → Bool) (ps hs : List Str) (i j l h : Nat) : Prop := ∃ a b c d, ps[i]? = some a ∧ ps[j]? = some b ∧ hs[l]? = some c ∧ hs[h]? = some d ∧ i < j ∧ l < h ∧ M a c = true ∧ M a d = true ∧ M b c = true ∧ M b d = false
theorem straight_iff : Straight M ps hs ↔ ∀ i j l h, ¬ BentAt M ps hs i j l h := by
  constructor
  · rintro s i j l h ⟨a, b, c, d, e1, e2, e3, e4, l1, l2, m1, m2, m3, m4⟩
    obtain ⟨hi, rfl⟩ := List.getElem?_eq_some_iff.mp e1
    obtain ⟨hj, rfl⟩ := List.getElem?_eq_some_iff.mp e2
    obtain ⟨hl, rfl⟩ := List.getElem?_eq_some_iff.mp e3
    obtain ⟨hh, rfl⟩ := List.getElem?_eq_some_iff.mp e4
    have := List.pairwise_iff_getElem.mp (List.pairwise_iff_getElem.mp s i j hi hj l1) l h hl hh l2 m1 m2 m3
    rw [m4] at this; cases this
  · intro n
    refine List.pairwise_iff_getElem.mpr fun i j hi hj l1 => List.pairwise_iff_getElem.mpr fun l h hl hh l2 m1 m2 m3 => ?_
    cases e : M ps[j] hs[h] with
    | true => rfl
    | false => exact absurd ⟨_, _, _, _, List.getElem?_eq_getElem hi, List.getElem?_eq_getElem hj, List.getElem?_eq_getElem hl, List.getElem?_eq_getElem hh, l1, l2, m1, m2, m3, e⟩ (n i j l h)
theorem mat_row {rs : List (Addr × List Int)} {i : Nat} {r : Addr × List Int} (e : rs.map (·.2) = matOf M ps hs) (h : rs[i]? = some r) : ∃ p, ps[i]? = some p ∧ r.2 = hs.map fun h => b2 (M p h) := by
  have q : (rs.map (·.2))[i]? = some r.2 := by rw [List.getElem?_map, h]; rfl
  rw [e] at q
  exact map_at q
theorem mat_len {rs : List (Addr × List Int)} (e : rs.map (·.2) = matOf M ps hs) : rs.length = ps.length := by
  have := congrArg List.length e
  unfold matOf at this
  rw [List.length_map, List.length_map] at this; exact this
theorem b2_one {b : Bool} : b2 b = 1 ↔ b = true := by cases b <;> simp [b2]
theorem b2_zero {b : Bool} : b2 b = 0 ↔ b = false := by cases b <;> simp [b2]
theorem row_is {p : Str} {l : Nat} {x : Int} (h : (hs.map fun h => b2 (M p h))[l]? = some x) : ∃ c, hs[l]? = some c ∧ b2 (M p c) = x := by
  obtain ⟨c, h1, h2⟩ := map_at h
  exact ⟨c, h1, h2.symm⟩
theorem str_get {A : List Str} {i : Nat} {x : Str} (h : A[i]? = some x) : (A.map V.str)[i]? = some (V.str x) := by rw [List.getElem?_map, h]; rfl
theorem bad_bent {i j l h : Nat} {a b : Str} (hi : ps[i]? = some a) (hj : ps[j]? = some b) (ij : i < j) : BadI (hs.map fun h => b2 (M a h)) (hs.map fun h => b2 (M b h)) l h ↔ BentAt M ps hs i j l h := by
  constructor
  · rintro ⟨z1, z2, z3, z4, z5⟩
    obtain ⟨c, c1, c2⟩ := row_is z2
    obtain ⟨d, d1, d2⟩ := row_is z3
    obtain ⟨c', c3, c4⟩ := row_is z4
    obtain ⟨d', d3, d4⟩ := row_is z5
    rw [c1] at c3; rw [d1] at d3
    cases c3; cases d3
    exact ⟨a, b, c, d, hi, hj, c1, d1, ij, z1, b2_one.mp c2, b2_one.mp d2, b2_one.mp c4, b2_zero.mp d4⟩
  · rintro ⟨a', b', c, d, e1, e2, e3, e4, l1, l2, m1, m2, m3, m4⟩
    rw [hi] at e1; rw [hj] at e2
    cases e1; cases e2
    refine ⟨l2, ?_, ?_, ?_, ?_⟩ <;> rw [List.getElem?_map]
    · rw [e3]; show some (b2 (M a c)) = _; rw [m1]; rfl
    · rw [e4]; show some (b2 (M a d)) = _; rw [m2]; rfl
    · rw [e3]; show some (b2 (M b c)) = _; rw [m3]; rfl
    · rw [e4]; show some (b2 (M b d)) = _; rw [m4]; rfl
end

/-- what a caller knows of a function -/
structure Cal (K : PySem.W.Frag) (mg : Str → Option Value) (x : Str) (f : Addr) (fd : FuncData) (ps : List Str) : Prop where
  g : mg x = some (.ref f)
  k : PySem.W.keepIn K (.ref f) = true
  b : Binds K fd ps []
/-- what a function is asked about a table and an order -/
structure AskTO (C : Addr) (H : Hp) (t o : Addr) (pr : List (Addr × List Str)) (ps hs : List Str) : Prop where
  T : ∃ P Hs, TabO C H t P Hs pr
  O : OrdO H o ps hs
  p0 : 0 < ps.length
  h0 : 0 < hs.length
  p : ps.length ≤ 100
  h : hs.length ≤ 100
  q : pr.length < 64
theorem AskTO.ext {C : Addr} {H H' : Hp} {t o : Addr} {pr : List (Addr × List Str)} {ps hs : List Str} (x : AskTO C H t o pr ps hs) (e : ExtN H H') : AskTO C H' t o pr ps hs :=
  ⟨let ⟨P, Hs, y⟩ := x.T; ⟨P, Hs, y.ext e⟩, x.O.ext e, x.p0, x.h0, x.p, x.h, x.q⟩
theorem AskTO.cells {C : Addr} {H : Hp} {t o : Addr} {pr : List (Addr × List Str)} {ps hs : List Str} {Q : VK} {E : XK} (x : AskTO C H t o pr ps hs) (k : ∀ (H' : Hp) (a : Addr) (rs : List (Addr × List Int)), Same H H' → H a = none → RowsT H' a rs → rs.map (·.2) = matOf (rel pr) ps hs → Q (.ref a) H') :
    spCells C [.ref t, .ref o] H Q E := let ⟨P, Hs, y⟩ := x.T; ⟨t, o, P, Hs, pr, ps, hs, rfl, y, x.O, x.p, x.h, x.q, k⟩
def spCorner (C : Addr) : Sp := fun vs H Q _ => ∃ (t o : Addr) (pr : List (Addr × List Str)) (ps hs : List Str), vs = [.ref t, .ref o] ∧ AskTO C H t o pr ps hs ∧
  ∀ (H' : Hp) (v : V), Same H H' → (v = .non ↔ Straight (rel pr) ps hs) → Q v H'
def spStraight (C : Addr) : Sp := fun vs H Q _ => ∃ (t o : Addr) (pr : List (Addr × List Str)) (ps hs : List Str), vs = [.ref t, .ref o] ∧ AskTO C H t o pr ps hs ∧
  ∀ (H' : Hp) (b : Bool), Same H H' → (b = true ↔ Straight (rel pr) ps hs) → Q (.bl b) H'

section
variable {P : Program} {w : World} {K : PySem.W.Frag} {mg : Str → Option Value} {base : Heap}
theorem scCorner : FnScope ["table", "order", "rows", "people", "houses", "first", "later", "found"] ["table", "order"] (defScope sCorner) := ⟨rfl, rfl, rfl, by decide +kernel, rfl, by decide +kernel, by decide +kernel⟩
theorem ok_corner {f C fc fb : Addr} {fd fdc fdb : FuncData} (F : Fun K "bent_corner" "bent_corner" sCorner f fd) (T : TxtC K mg C) (gc : FnOk P w K mg base CX0 1 fc fdc ["table", "order"] (spCells C)) (cc : Cal K mg "cells" fc fdc ["table", "order"])
    (gb : FnOk P w K mg base CX0 1 fb fdb ["rows", "first", "later"] spBeside) (cb : Cal K mg "bent_beside" fb fdb ["rows", "first", "later"]) : FnOk P w K mg base CX0 2 f fd ["table", "order"] (spCorner C) := by
  refine F.ok scCorner (fun vs H Q E h => ?_) (fun cdv A outer s H vs Q E hr h => ?_)
  · obtain ⟨t, o, _, _, _, rfl, _⟩ := h
    rfl
  · obtain ⟨t, o, pr, ps, hs, rfl, ask, k⟩ := h
    refine ⟨_, pss_cons (ps_asg (pe_tup (pa_cons (pe_call gc hr rfl cc.g cc.k cc.b .nil pass0 (pa_cons (pv 0) (pa_cons (pv 1) pa_nil))) (pa_cons (pv 1) pa_nil)))
        (pg_tup rfl (pgs_cons (pg_name (i := 2) scCorner.nd rfl (Or.inl rfl)) (pgs_cons (pg_tup rfl (pgs_cons (pg_name (i := 3) scCorner.nd rfl (Or.inl rfl)) (pgs_cons (pg_name (i := 4) scCorner.nd rfl (Or.inl rfl)) pgs_nil))) pgs_nil))))
      (pss_cons (ps_for PassesOwn.never rfl (pi_range1 (by rfl) T.range (pa_cons (pe_callB call_len_seq (by rfl) T.len PySem.boot_len (pa_cons (pv 2) pa_nil)) pa_nil)) (pg_name (i := 5) scCorner.nd rfl (Or.inl rfl))
        (pss_one (ps_for PassesOwn.never rfl (pi_range2 (by rfl) T.range (pa_cons (pe_op op_add (pv 5) pe_int) (pa_cons (pe_callB call_len_seq (by rfl) T.len PySem.boot_len (pa_cons (pv 2) pa_nil)) pa_nil))) (pg_name (i := 6) scCorner.nd rfl (Or.inl rfl))
          (pss_cons (ps_set (i := 7) scCorner.nd rfl (Or.inl rfl) (pe_call gb hr rfl cb.g cb.k cb.b .nil pass0 (pa_cons (pv 2) (pa_cons (pv 5) (pa_cons (pv 6) pa_nil)))))
            (pss_one (ps_if (pt_cmp (pc_notN (pv 7))) (pss_one (ps_ret (pe_tup (pa_cons (pe_ix (ixT (K := K)) (pv 3) (pv 5) (fun _ _ => rfl)) (pa_cons (pe_ix (ixT (K := K)) (pv 3) (pv 6) (fun _ _ => rfl))
              (pa_cons (pe_ix (ixT (K := K)) (pv 4) (pe_ix (ixT (K := K)) (pv 7) pe_int (fun _ _ => rfl)) (fun _ _ => rfl)) (pa_cons (pe_ix (ixT (K := K)) (pv 4) (pe_ix (ixT (K := K)) (pv 7) pe_int (fun _ _ => rfl)) (fun _ _ => rfl)) pa_nil))))))) pss_nil))))))
      (pss_one (ps_ret pe_non))), ?_⟩
    obtain ⟨po, ho, o1, o2, o3⟩ := id ask.O
    obtain ⟨P', Hs, hT⟩ := ask.T
    refine ⟨_, rfl, _, rfl, t, o, P', Hs, pr, ps, hs, rfl, hT, ask.O, ask.p, ask.h, ask.q, fun H1 ra rs s1 na R eR => ?_⟩
    refine ⟨_, rfl, szl (by show 2 ≤ 4000; decide), fun pt hpt => ?_⟩
    have s2 := Same.more (o := .tup [.ref ra, .ref o]) s1 hpt
    have R2 := R.ext (Same.toN (Same.new (o := .tup [.ref ra, .ref o]) hpt))
    generalize hH2 : upd H1 pt (.tup [.ref ra, .ref o]) = H2 at s2 R2
    have hl := mat_len eR
    have hpt2 : H2 pt = some (.tup [.ref ra, .ref o]) := by rw [← hH2]; exact upd_same
    refine ⟨pt, _, rfl, SqT.of hpt2, rfl, _, _, rfl, _, _, rfl, ⟨o, _, rfl, SqT.of (s2 _ _ o1), rfl, _, _, rfl, _, _, rfl, rfl, rfl, ?_⟩⟩
    refine ⟨_, rfl, ra, _, rfl, .inl (SqL.of R2.1), (rs.length : Nat), by rw [List.length_map], by have := ask.p; omega, by have := ask.p; omega, ?_⟩
    refine for_range (lo := 0) (n := ((rs.length : Nat) : Int).toNat) (fun n σ H' => Same H2 H' ∧ (∃ x5 x6 x7, σ = [some (.ref t), some (.ref o), some (.ref ra), some (.ref po), some (.ref ho), x5, x6, x7]) ∧ ∀ i j l h, i < n → ¬ BentAt (rel pr) ps hs i j l h) ⟨fun _ _ e => e, ⟨_, _, _, rfl⟩, fun _ _ _ _ z => absurd z (Nat.not_lt_zero _)⟩ (fun n σ H3 hn p => ?_) (fun σ H3 p => ?_)
    · obtain ⟨s3, ⟨x5, x6, x7, rfl⟩, nb⟩ := p
      have hn : n < rs.length := by omega
      have en : (0 : Int) + (n : Nat) = (n : Int) := by omega
      show gName 5 (.int ((0 : Int) + (n : Nat))) _ _ _
      rw [en]
      refine ⟨_, rfl, _, _, rfl, rfl, _, rfl, ra, _, rfl, .inl (SqL.of (s3 _ _ R2.1)), (n : Int) + 1, (rs.length : Nat), by rw [List.length_map], ⟨by have := ask.p; omega, by have := ask.p; omega, by have := ask.p; omega, by have := ask.p; omega⟩, ?_⟩
      refine for_range (lo := (n : Int) + 1) (n := (((rs.length : Nat) : Int) - ((n : Int) + 1)).toNat) (fun m σ H' => Same H2 H' ∧ (∃ x6 x7, σ = [some (.ref t), some (.ref o), some (.ref ra), some (.ref po), some (.ref ho), some (.int n), x6, x7]) ∧ ∀ j l h, j < n + 1 + m → ¬ BentAt (rel pr) ps hs n j l h) ⟨s3, ⟨_, _, rfl⟩, fun j l h hj ⟨_, _, _, _, _, _, _, _, z, _⟩ => by omega⟩ (fun m σ H4 hm p4 => ?_) (fun σ H4 p4 => ?_)
      · obtain ⟨s4, ⟨y6, y7, rfl⟩, nb4⟩ := p4
        have hj : n + 1 + m < rs.length := by omega
        have em : (n : Int) + 1 + (m : Nat) = ((n + 1 + m : Nat) : Int) := by omega
        show gName 6 (.int ((n : Int) + 1 + (m : Nat))) _ _ _
        rw [em]
        have h1 : rs[n]? = some rs[n] := List.getElem?_eq_getElem hn
        have h2 : rs[n + 1 + m]? = some rs[n + 1 + m] := List.getElem?_eq_getElem hj
        obtain ⟨p1, e1, r1⟩ := mat_row eR h1
        obtain ⟨p2, e2, r2⟩ := mat_row eR h2
        refine ⟨_, rfl, _, rfl, _, rfl, ra, n, n + 1 + m, rs, _, _, rfl, R2.ext (Same.toN s4), h1, h2, by rw [r1, r2, List.length_map, List.length_map], by rw [r1, List.length_map]; exact ask.h, fun H5 s5 z => ?_, fun H5 fp l h s5 z nf hf => ?_⟩
        · refine ⟨_, rfl, _, rfl, ?_⟩
          show if (!decide (V.non = V.non)) = true then _ else _
          rw [decide_eq_true rfl]
          refine iteF ⟨Same.trans s4 s5, ⟨_, _, rfl⟩, fun j l h hjj => ?_⟩
          rcases Nat.lt_or_ge j (n + 1 + m) with q | q
          · exact nb4 j l h q
          · rw [show j = n + 1 + m by omega]
            intro b
            refine z l h ?_
            rw [r1, r2]
            exact (bad_bent e1 e2 (by omega)).mpr b
        · rw [r1, r2] at z
          have b := (bad_bent e1 e2 (by omega)).mp z
          refine ⟨_, rfl, _, rfl, ?_⟩
          show if (!decide (V.ref fp = V.non)) = true then _ else _
          rw [decide_eq_false (by intro q; cases q)]
          refine iteT ?_
          obtain ⟨a, b', c, d, f1, f2, f3, f4, _⟩ := id b
          have s6 := Same.trans s2 (Same.trans s4 s5)
          have u2 := SqT.of (K := K) (s6 _ _ o2)
          have u3 := SqT.of (K := K) (s6 _ _ o3)
          have uf := SqT.of (K := K) hf
          refine ⟨_, rfl, _, rfl, po, _, _, _, rfl, rfl, u2, atI_nat (str_get e1), _, rfl, _, rfl, po, _, _, _, rfl, rfl, u2, atI_nat (str_get e2), _, rfl, _, rfl, fp, _, 0, _, rfl, rfl, uf, rfl, ho, _, _, _, rfl, rfl, u3, atI_nat (str_get f3),
            _, rfl, _, rfl, fp, _, 1, _, rfl, rfl, uf, rfl, ho, _, _, _, rfl, rfl, u3, atI_nat (str_get f4), szl (by show 4 ≤ 4000; decide), fun q hq => k _ _ (Same.more s6 hq) ⟨fun z => (by cases z), fun z => ?_⟩⟩
          exact absurd b (straight_iff.mp z _ _ _ _)
      · obtain ⟨s4, ⟨y6, y7, rfl⟩, nb4⟩ := p4
        refine ⟨s4, ⟨_, _, _, rfl⟩, fun i j l h hi => ?_⟩
        rcases Nat.lt_or_ge i n with q | q
        · exact nb i j l h q
        · rw [show i = n by omega]
          intro z
          obtain ⟨_, _, _, _, _, e2, _⟩ := id z
          have hz := (List.getElem?_eq_some_iff.mp e2).1
          exact nb4 j l h (by omega) z
    · obtain ⟨s3, _, nb⟩ := p
      refine k _ _ (Same.trans s2 s3) ⟨fun _ => straight_iff.mpr fun i j l h z => ?_, fun _ => rfl⟩
      obtain ⟨_, _, _, _, e1, _⟩ := id z
      have hz := (List.getElem?_eq_some_iff.mp e1).1
      exact nb i j l h (by omega) z
theorem scStraight : FnScope ["table", "order"] ["table", "order"] (defScope sStraight) := ⟨rfl, rfl, rfl, by decide +kernel, rfl, by decide +kernel, by decide +kernel⟩
theorem ok_straight {f C fc : Addr} {fd fdc : FuncData} (F : Fun K "is_straight" "is_straight" sStraight f fd) (gc : FnOk P w K mg base CX0 2 fc fdc ["table", "order"] (spCorner C)) (cc : Cal K mg "bent_corner" fc fdc ["table", "order"]) :
    FnOk P w K mg base CX0 3 f fd ["table", "order"] (spStraight C) := by
  refine F.ok scStraight (fun vs H Q E h => ?_) (fun cdv A outer s H vs Q E hr h => ?_)
  · obtain ⟨t, o, _, _, _, rfl, _⟩ := h
    rfl
  · obtain ⟨t, o, pr, ps, hs, rfl, ask, k⟩ := h
    refine ⟨_, pss_one (ps_ret (pe_cmpR op_isN (pe_call gc hr rfl cc.g cc.k cc.b .nil pass0 (pa_cons (pv 0) (pa_cons (pv 1) pa_nil))) pe_non (by rfl))), ?_⟩
    refine ⟨_, rfl, _, rfl, t, o, pr, ps, hs, rfl, ask, fun H1 v s1 e => ⟨rfl, ?_⟩⟩
    exact k H1 _ s1 (by rw [decide_eq_true_eq]; exact e)
end
end Sv
end

section
set_option Elab.async false
set_option linter.all false
set_option maxRecDepth 100000
set_option maxHeartbeats 4000000
/-! sorted, == over data that have a Lean type. -/
namespace Sv
open PySem L2 LamX
open PySem.W (Datum DatumOrd Tup)

theorem perm_of_map {α β : Type} {f : α → β} : ∀ {l : List α} {l' : List β}, l'.Perm (l.map f) → ∃ l0 : List α, l0.Perm l ∧ l' = l0.map f
  | [], l', h => ⟨[], .refl _, List.Perm.eq_nil h⟩
  | x :: l, l', h => by
    obtain ⟨a, b, rfl⟩ := List.append_of_mem (h.mem_iff.mpr (by simp : f x ∈ (x :: l).map f))
    have h2 : (a ++ b).Perm (l.map f) := List.Perm.cons_inv (List.perm_middle.symm.trans h)
    obtain ⟨l0, p, e⟩ := perm_of_map h2
    obtain ⟨l1, l2, rfl, rfl, rfl⟩ := List.map_eq_append_iff.mp e.symm
    exact ⟨l1 ++ x :: l2, List.perm_middle.trans (p.cons x), by simp⟩

section
variable {α : Type} [DecidableEq α] [DatumOrd α] {K : PySem.W.Frag} {A : Around} {H : Hp} {Q : VK}
theorem alike_of (zs : List (V × α)) : PySem.W.AllAlike ((zs.map fun z => (z.1, Datum.toD z.2)).map (·.2)) := by
  intro d hd e he
  simp only [List.map_map, List.mem_map] at hd he
  obtain ⟨x, _, rfl⟩ := hd
  obtain ⟨y, _, rfl⟩ := he
  exact DatumOrd.alike _ _
theorem sortedOf {a : Addr} (zs : List (V × α)) (hl : SqL K H a (zs.map (·.1))) (hd : ∀ z ∈ zs, Dp K H z.1 (Datum.toD z.2)) (hu : A.units + 2 + Datum.depth α < cLine)
    (hs : PySem.W.Sortable (zs.map fun z => Datum.toD z.2)) (q : ∀ (ys : List (V × α)) (p : Addr), ys.Perm zs → ys.Pairwise (fun b c => DatumOrd.lt c.2 b.2 = false) → H p = none → Q (.ref p) (upd H p (.lst (ys.map (·.1))))) : rSortedDt K A [.ref a] H Q := by
  refine ⟨a, zs.map fun z => (z.1, Datum.toD z.2), rfl, by rw [List.map_map]; exact hl, fun z hz => ?_, alike_of zs, by rw [List.map_map]; exact hs, fun ys p hp hw hn => ?_⟩
  · obtain ⟨y, hy, rfl⟩ := List.mem_map.mp hz
    exact ⟨hd y hy, Nat.lt_of_le_of_lt (Nat.add_le_add_left (Datum.depth_le y.2) _) hu⟩
  · obtain ⟨l0, h1, rfl⟩ := perm_of_map hp
    have := q l0 p h1 (List.Pairwise.imp (fun h => by rw [← DatumOrd.lt_eq]; exact h) (List.pairwise_map.mp hw)) hn
    rw [List.map_map]
    exact this
/-- .. of a tuple -/
theorem sortedOfT {a : Addr} (zs : List (V × α)) (hl : SqT K H a (zs.map (·.1))) (hd : ∀ z ∈ zs, Dp K H z.1 (Datum.toD z.2)) (hu : A.units + 2 + Datum.depth α < cLine)
    (hs : PySem.W.Sortable (zs.map fun z => Datum.toD z.2)) (q : ∀ (ys : List (V × α)) (p : Addr), ys.Perm zs → ys.Pairwise (fun b c => DatumOrd.lt c.2 b.2 = false) → H p = none → Q (.ref p) (upd H p (.lst (ys.map (·.1))))) : rSortedDtT K A [.ref a] H Q := by
  refine ⟨a, zs.map fun z => (z.1, Datum.toD z.2), rfl, by rw [List.map_map]; exact hl, fun z hz => ?_, alike_of zs, by rw [List.map_map]; exact hs, fun ys p hp hw hn => ?_⟩
  · obtain ⟨y, hy, rfl⟩ := List.mem_map.mp hz
    exact ⟨hd y hy, Nat.lt_of_le_of_lt (Nat.add_le_add_left (Datum.depth_le y.2) _) hu⟩
  · obtain ⟨l0, h1, rfl⟩ := perm_of_map hp
    have := q l0 p h1 (List.Pairwise.imp (fun h => by rw [← DatumOrd.lt_eq]; exact h) (List.pairwise_map.mp hw)) hn
    rw [List.map_map]
    exact this
theorem shaped_of {x : α} (h : (Datum.toD x).canLay0 = true) (hd : Datum.depth α ≤ 64) : SeqAt.shaped (Datum.toD x) = true := by
  unfold SeqAt.shaped
  rw [h, Bool.true_and, decide_eq_true_eq]
  exact Nat.le_trans (Datum.depth_le x) hd
theorem eqOf {v u : V} {x y : α} (h1 : Dp K H v (Datum.toD x)) (h2 : Dp K H u (Datum.toD y)) (l1 : (Datum.toD x).canLay0 = true) (l2 : (Datum.toD y).canLay0 = true) (hd : Datum.depth α ≤ 64) (q : Q (.bl (decide (x = y))) H) : rEqD K v u H Q :=
  ⟨_, _, h1, h2, shaped_of l1 hd, shaped_of l2 hd, by rw [Datum.eqv]; exact q⟩
theorem neOf {v u : V} {x y : α} (h1 : Dp K H v (Datum.toD x)) (h2 : Dp K H u (Datum.toD y)) (l1 : (Datum.toD x).canLay0 = true) (l2 : (Datum.toD y).canLay0 = true) (hd : Datum.depth α ≤ 64) (q : Q (.bl (!decide (x = y))) H) : rNeD K v u H Q :=
  ⟨_, _, h1, h2, shaped_of l1 hd, shaped_of l2 hd, by rw [Datum.eqv]; exact q⟩
end
theorem canLayAll_map {β : Type} {f : β → PyData} : ∀ {xs : List β}, (∀ x ∈ xs, (f x).canLay0 = true) → PyData.canLayAll0 (xs.map f) = true
  | [], _ => by simp [PyData.canLayAll0]
  | x :: xs, h => by
    rw [List.map_cons, PyData.canLayAll0, h x List.mem_cons_self, canLayAll_map fun y hy => h y (List.mem_cons_of_mem _ hy)]
    rfl
section
variable {K : PySem.W.Frag} {H : Hp}
theorem dpAll {β : Type} {f : β → V} {g : β → PyData} : ∀ {rs : List β}, (∀ r ∈ rs, Dp K H (f r) (g r)) → DpAll K H (rs.map f) (rs.map g)
  | [], _ => .nil
  | r :: rs, h => .cons (h r List.mem_cons_self) (dpAll fun y hy => h y (List.mem_cons_of_mem _ hy))
theorem dpTupI {a : Addr} {ns : List Int} (h : SqT K H a (ns.map V.int)) : Dp K H (.ref a) (Datum.toD (⟨ns⟩ : Tup Int)) := .tup h (dpAll (g := PyData.int) fun r _ => .int r)
theorem dpTupS {a : Addr} {ns : List Str} (h : SqT K H a (ns.map V.str)) : Dp K H (.ref a) (Datum.toD (⟨ns⟩ : Tup Str)) := .tup h (dpAll (g := PyData.str) fun r _ => .str r)
theorem dpList {β : Type} [DecidableEq β] [Datum β] {a : Addr} {rs : List (V × β)} (h : SqL K H a (rs.map (·.1))) (hd : ∀ r ∈ rs, Dp K H r.1 (Datum.toD r.2)) : Dp K H (.ref a) (Datum.toD (rs.map (·.2))) := by
  have : (Datum.toD (rs.map (·.2)) : PyData) = .list (rs.map fun r => Datum.toD r.2) := by
    show PyData.list ((rs.map (·.2)).map Datum.toD) = _
    rw [List.map_map]; rfl
  rw [this]
  exact .lst h (dpAll hd)
theorem lay_int (i : Int) : (Datum.toD i : PyData).canLay0 = true := by show (PyData.int i).canLay0 = true; simp [PyData.canLay0]
theorem lay_tupI (t : Tup Int) : (Datum.toD t : PyData).canLay0 = true := by
  show (PyData.tuple (t.items.map Datum.toD)).canLay0 = true
  rw [PyData.canLay0]
  exact canLayAll_map fun x _ => lay_int x
theorem lay_list {β : Type} [DecidableEq β] [Datum β] (xs : List β) (h : ∀ x ∈ xs, (Datum.toD x : PyData).canLay0 = true) : (Datum.toD xs : PyData).canLay0 = true := by
  show (PyData.list (xs.map Datum.toD)).canLay0 = true
  rw [PyData.canLay0]
  exact canLayAll_map h
theorem ltTupI (t u : Tup Int) : DatumOrd.lt t u = decide (t.items < u.items) := (DatumOrd.lt_eq t u).symm.trans (tupI_lt t.items u.items)
end
/-- a list that is its sorted self -/
theorem sorted_same {K0 K1 : List (List Int)} (hp : K1.Perm K0) (hs : K1.Pairwise (· ≤ ·)) : K0 = K1 ↔ K0.Pairwise (· ≤ ·) := by
  constructor
  · rintro rfl; exact hs
  · intro h
    refine List.ext_getElem? fun j => ?_
    exact (drop_sorted hp hs 0 (fun a b ab hb _ => List.pairwise_iff_getElem.mp h a b (by omega) hb ab) j (Nat.zero_le _)).symm
/-- rows at a list as data -/
abbrev rowZ (rs : List (Addr × List Int)) : List (V × Tup Int) := rs.map fun r => (V.ref r.1, ⟨r.2⟩)
theorem RowsT.seq {K : PySem.W.Frag} {H : Hp} {a : Addr} {rs : List (Addr × List Int)} (R : RowsT H a rs) : SqL K H a ((rowZ rs).map (·.1)) := by
  rw [List.map_map]; exact SqL.of R.1
theorem RowsT.dp {K : PySem.W.Frag} {H : Hp} {a : Addr} {rs : List (Addr × List Int)} (R : RowsT H a rs) : ∀ z ∈ rowZ rs, Dp K H z.1 (Datum.toD z.2) := by
  intro z hz
  obtain ⟨r, hr, rfl⟩ := List.mem_map.mp hz
  exact dpTupI (SqT.of (R.2 r hr))
theorem some_eq_sorted {K : PySem.W.Frag} {A : Around} {H : Hp} {a : Addr} {rs : List (Addr × List Int)} {Q : VK} (R : RowsT H a rs) (ne : ∀ r ∈ rs, r.2 ≠ []) (hu : A.units + 3 < cLine)
    (q : ∀ (H' : Hp) (b : Bool), Same H H' → (b = true ↔ (rs.map (·.2)).Pairwise (· ≤ ·)) → Q (.bl b) H') : rSortedDt K A [.ref a] H fun y H2 => rEqD K (.ref a) y H2 Q := by
  refine sortedOf (α := Tup Int) (rowZ rs) R.seq R.dp (by show A.units + 2 + (0 + 1) < cLine; omega) (.inl fun d hd => ?_) fun ys p hp hw hn => ?_
  · simp only [List.mem_map] at hd
    obtain ⟨z, ⟨r, hr, rfl⟩, rfl⟩ := hd
    have := ne r hr
    cases e : r.2 with
    | nil => exact absurd e this
    | cons x t =>
      exact ⟨.int x, t.map Datum.toD, rfl⟩
  · have s1 : Same H (upd H p (.lst (ys.map (·.1)))) := Same.new hn
    have R2 := R.ext (Same.toN s1)
    have hy : ∀ z ∈ ys, Dp K (upd H p (.lst (ys.map (·.1)))) z.1 (Datum.toD z.2) := fun z hz => R2.dp z (hp.mem_iff.mp hz)
    have d1 := dpList (K := K) R2.seq R2.dp
    have d2 := dpList (K := K) (SqL.of upd_same) hy
    refine eqOf (α := List (Tup Int)) d1 d2 (lay_list _ fun x _ => lay_tupI x) (lay_list _ fun x _ => lay_tupI x) (by decide) (q _ _ s1 ?_)
    rw [decide_eq_true_eq]
    have e1 : ((rowZ rs).map (·.2)).map Tup.items = rs.map (·.2) := by
      rw [List.map_map, List.map_map]; rfl
    have p2 : ((ys.map (·.2)).map Tup.items).Perm (rs.map (·.2)) := by rw [← e1]; exact (hp.map _).map _
    have w2 : ((ys.map (·.2)).map Tup.items).Pairwise (· ≤ ·) := by
      rw [List.map_map]
      refine List.pairwise_map.mpr (hw.imp fun {b c} h => ?_)
      rw [ltTupI, decide_eq_false_iff_not] at h
      exact List.not_lt.mp h
    rw [← sorted_same p2 w2, ← e1]
    constructor
    · intro e; rw [e]
    · intro e
      have : Function.Injective (List.map (Tup.items (α := Int))) := fun x y h => by
        refine List.map_inj_right (fun a b e => ?_) |>.mp h
        cases a; cases b; exact congrArg Tup.mk e
      exact this e
end Sv
end

section
set_option Elab.async false
set_option linter.all false
set_option maxRecDepth 100000
set_option maxHeartbeats 4000000
namespace Sv
open PySem L2 LamX
/-- rows handed back -/
def spRows (C : Addr) (f : (Str → Str → Bool) → List Str → List Str → List (List Int)) : Sp := fun vs H Q _ => ∃ (t o : Addr) (pr : List (Addr × List Str)) (ps hs : List Str), vs = [.ref t, .ref o] ∧ AskTO C H t o pr ps hs ∧
  ∀ (H' : Hp) (a : Addr) (rs : List (Addr × List Int)), Same H H' → H a = none → RowsT H' a rs → rs.map (·.2) = f (rel pr) ps hs → Q (.ref a) H'
def rowsOf (M : Str → Str → Bool) (ps hs : List Str) : List (List Int) := ps.map fun p => keyOf (M p) hs
def colsOf (M : Str → Str → Bool) (ps hs : List Str) : List (List Int) := hs.map fun h => keyOf (fun p => M p h) ps
def spIsSorted (C : Addr) : Sp := fun vs H Q _ => ∃ (t o : Addr) (pr : List (Addr × List Str)) (ps hs : List Str), vs = [.ref t, .ref o] ∧ AskTO C H t o pr ps hs ∧
  ∀ (H' : Hp) (b : Bool), Same H H' → (b = true ↔ RowSorted (rel pr) ps hs ∧ ColSorted (rel pr) ps hs) → Q (.bl b) H'

theorem off_ne {H1 : Hp} {D l : Addr} {o : HO} (h : H1 D = some o) (n : H1 l = none) : l ≠ D := fun e => by subst e; rw [h] at n; cases n
theorem keyOf_rev {β : Type} (f : β → Bool) (l : List β) : (l.map fun h => b2 (f h)).reverse = keyOf f l := by
  unfold keyOf; rw [List.map_reverse]
theorem rows_ne {M : Str → Str → Bool} {ps hs : List Str} (h : 0 < hs.length) : ∀ r ∈ rowsOf M ps hs, r ≠ [] := by
  intro r hr e
  obtain ⟨p, _, rfl⟩ := List.mem_map.mp hr
  have : (keyOf (M p) hs).length = 0 := by rw [e]; rfl
  unfold keyOf at this
  rw [List.length_map, List.length_reverse] at this
  omega
theorem cols_ne {M : Str → Str → Bool} {ps hs : List Str} (h : 0 < ps.length) : ∀ r ∈ colsOf M ps hs, r ≠ [] := by
  intro r hr e
  obtain ⟨p, _, rfl⟩ := List.mem_map.mp hr
  have : (keyOf (fun q => M q p) ps).length = 0 := by rw [e]; rfl
  unfold keyOf at this
  rw [List.length_map, List.length_reverse] at this
  omega
theorem all_ne {rs : List (Addr × List Int)} {L : List (List Int)} (e : rs.map (·.2) = L) (h : ∀ r ∈ L, r ≠ []) : ∀ r ∈ rs, r.2 ≠ [] := fun r hr => h _ (e ▸ List.mem_map_of_mem hr)

section
variable {P : Program} {w : World} {K : PySem.W.Frag} {mg : Str → Option Value} {base : Heap}
theorem scRows : FnScope ["table", "order", "row"] ["table", "order"] (defScope sRows) := ⟨rfl, rfl, rfl, by decide +kernel, rfl, by decide +kernel, by decide +kernel⟩
theorem ok_rows {f C fc : Addr} {fd fdc : FuncData} (F : Fun K "rows_back" "rows_back" sRows f fd) (T : TxtC K mg C) (gc : FnOk P w K mg base CX0 1 fc fdc ["table", "order"] (spCells C)) (cc : Cal K mg "cells" fc fdc ["table", "order"]) :
    FnOk P w K mg base CX0 2 f fd ["table", "order"] (spRows C rowsOf) := by
  refine F.ok scRows (fun vs H Q E h => ?_) (fun cdv A outer s H vs Q E hr h => ?_)
  · obtain ⟨t, o, _, _, _, rfl, _⟩ := h
    rfl
  · obtain ⟨t, o, pr, ps, hs, rfl, ask, k⟩ := h
    refine ⟨_, pss_one (ps_ret (pe_lc (own := [("row", 2)]) (g := gName 2) (tt := tYes) (by rfl) scRows.nd (piL (K := K) (pe_call gc hr rfl cc.g cc.k cc.b .nil pass0 (pa_cons (pv 0) (pa_cons (pv 1) pa_nil)))) (blkOk_by (N := ["table", "order", "row"]) (sc := defScope sRows) (by decide +kernel))
        (fun _ _ _ _ _ => pg_name (i := 2) scRows.nd rfl (Or.inl rfl)) (fun _ _ _ _ _ => pts_nil)
        (fun _ _ _ _ _ => peBackT (K := K) (pv 2)))), ?_⟩
    obtain ⟨P', Hs, hT⟩ := ask.T
    refine ⟨_, rfl, _, rfl, t, o, P', Hs, pr, ps, hs, rfl, hT, ask.O, ask.p, ask.h, ask.q, fun H1 ra rs s1 na R eR => ⟨ra, rfl, ⟨_, SqL.of R.1⟩, fun D hD => ?_⟩⟩
    have hl := mat_len eR
    refine map_list yes (fun j y H => ∃ a, y = .ref a ∧ (a ≠ D ∧ H a = some (.tup (((rowsOf (rel pr) ps hs).getD j []).map V.int)))) hD (SqL.of R.1) (szl (by rw [List.length_map]; have := ask.p; omega)) (fun j y H H' e ⟨a, h1, h2, h3⟩ => ⟨a, h1, h2, e _ _ h2 h3⟩) (fun i x H2 hi p => ?_) (fun ys H2 hs2 hd2 hy => ?_)
    · obtain ⟨r, hr1, rfl⟩ := map_at hi
      intro k2 k2' kk kk'
      obtain ⟨q, hq, er⟩ := mat_row eR hr1
      refine ⟨rfl, ⟨_, rfl, r.1, _, rfl, SqT.of (p.1 _ _ (row_get R hr1)), fun l hl => kk rfl _ _ (Same.new hl) ⟨l, rfl, ?_, ?_⟩⟩⟩
      · exact off_ne p.2.choose_spec.1 hl
      · rw [upd_same]
        have e : (rowsOf (rel pr) ps hs).getD i [] = keyOf (rel pr q) hs := by
          unfold rowsOf
          rw [List.getD_eq_getElem?_getD, List.getElem?_map, hq]; rfl
        rw [e, er, ← List.map_reverse, keyOf_rev]
    · rw [List.length_map, filter_yes] at hy
      obtain ⟨qs, rfl, e2, e3⟩ := each_refs (R := fun a row => a ≠ D ∧ H2 a = some (.tup (row.map V.int))) (q := fun j => (rowsOf (rel pr) ps hs).getD j []) hy
      refine k H2 D qs (Same.trans s1 hs2) (none_of s1 hD) ⟨hd2, fun r hr => (e3 r hr).2⟩ ?_
      rw [e2]
      have : rs.length = (rowsOf (rel pr) ps hs).length := by unfold rowsOf; rw [List.length_map, hl]
      rw [this]
      exact range_getD _ _
theorem scCols : FnScope ["table", "order", "rows", "row", "at"] ["table", "order"] (defScope sCols) := ⟨rfl, rfl, rfl, by decide +kernel, rfl, by decide +kernel, by decide +kernel⟩
theorem ok_cols {f C fc : Addr} {fd fdc : FuncData} (F : Fun K "columns_back" "columns_back" sCols f fd) (T : TxtC K mg C) (gc : FnOk P w K mg base CX0 1 fc fdc ["table", "order"] (spCells C)) (cc : Cal K mg "cells" fc fdc ["table", "order"]) :
    FnOk P w K mg base CX0 2 f fd ["table", "order"] (spRows C colsOf) := by
  refine F.ok scCols (fun vs H Q E h => ?_) (fun cdv A outer s H vs Q E hr h => ?_)
  · obtain ⟨t, o, _, _, _, rfl, _⟩ := h
    rfl
  · obtain ⟨t, o, pr, ps, hs, rfl, ask, k⟩ := h
    refine ⟨_, pss_cons (ps_set (i := 2) scCols.nd rfl (Or.inr rfl) (peBackL (K := K) (pe_call gc hr rfl cc.g cc.k cc.b .nil pass0 (pa_cons (pv 0) (pa_cons (pv 1) pa_nil)))))
      (pss_one (ps_ret (pe_lc (own := [("at", 4)]) (g := gName 4) (tt := tYes) (by rfl) scCols.nd (pi_range1 (by rfl) T.range (pa_cons (pe_callB (callLen (K := K)) (by rfl) T.len PySem.boot_len (pa_cons (pe_ix (ixT (K := K)) (pv 1) pe_int (fun _ _ => rfl)) pa_nil)) pa_nil)) (blkOk_by (N := ["table", "order", "rows", "row", "at"]) (sc := defScope sCols) (by decide +kernel))
        (fun _ _ _ _ _ => pg_name (i := 4) scCols.nd rfl (Or.inr rfl)) (fun _ _ _ _ _ => pts_nil)
        (fun _ _ _ _ _ => pe_callTy (T := "tuple") (callTup (K := K)) (by rfl) T.tuple (by decide +kernel) (pa_cons
          (pe_lc (own := [("row", 3)]) (g := gName 3) (tt := tYes) (by rfl) scCols.nd (piL (K := K) (pv 2)) (blkOk_by (N := ["table", "order", "rows", "row", "at"]) (sc := relS (lcSc (retOf (bodyAt sCols 1))) (defScope sCols)) (by decide +kernel))
            (fun _ _ _ _ _ => pg_name (i := 3) scCols.nd rfl (Or.inl rfl)) (fun _ _ _ _ _ => pts_nil)
            (fun _ _ _ _ _ => pe_ix (ixT (K := K)) (pv 3) (pv 4) (fun _ _ => rfl))) pa_nil))))), ?_⟩
    obtain ⟨P', Hs, hT⟩ := ask.T
    obtain ⟨po, ho, o1, o2, o3⟩ := id ask.O
    refine ⟨_, rfl, _, rfl, t, o, P', Hs, pr, ps, hs, rfl, hT, ask.O, ask.p, ask.h, ask.q, fun H1 ra rs s1 na R eR => ⟨ra, _, rfl, SqL.of R.1, fun rb hrb => ?_⟩⟩
    have hl := mat_len eR
    have s2 := Same.more (o := .lst (rs.map fun r => V.ref r.1).reverse) s1 hrb
    have R2 : RowsT (upd H1 rb (.lst (rs.map fun r => V.ref r.1).reverse)) rb rs.reverse := ⟨by rw [upd_same, List.map_reverse], fun r hr => Same.new hrb _ _ (R.2 r (List.mem_reverse.mp hr))⟩
    generalize upd H1 rb (.lst (rs.map fun r => V.ref r.1).reverse) = H2 at s2 R2
    refine ⟨_, rfl, o, _, 1, _, rfl, rfl, SqT.of (s2 _ _ o1), rfl, ho, _, rfl, .inr (SqT.of (s2 _ _ o3)), (hs.length : Nat), by rw [List.length_map], by have := ask.h; omega, by have := ask.h; omega, fun D hD => ?_⟩
    refine map_range (lo := 0) (n := ((hs.length : Nat) : Int).toNat) yes (fun j y H => ∃ a, y = .ref a ∧ (a ≠ D ∧ H a = some (.tup (((colsOf (rel pr) ps hs).getD j []).map V.int)))) hD (szl (by have := ask.h; omega)) (fun j y H H' e ⟨a, h1, h2, h3⟩ => ⟨a, h1, h2, e _ _ h2 h3⟩) (fun i H3 hi p => ?_) (fun ys H3 hs3 hd3 hy => ?_)
    · intro k3 k3' kk kk'
      have hi : i < hs.length := by omega
      have ei : (0 : Int) + (i : Nat) = (i : Int) := by omega
      show gName 4 (.int ((0 : Int) + (i : Nat))) _ _ _
      rw [ei]
      refine ⟨rfl, ⟨_, rfl, rb, rfl, ⟨_, SqL.of (p.1 _ _ R2.1)⟩, fun D2 hD2 => ?_⟩⟩
      refine map_list yes (fun j y H => ∃ r : Addr × List Int, rs.reverse[j]? = some r ∧ y = .int (r.2.getD i 0)) hD2 (SqL.of (p.1 _ _ R2.1)) (szl (by rw [List.length_map, List.length_reverse]; have := ask.p; omega)) (fun j y H H' e h => h) (fun i2 x2 H4 hi2 p2 => ?_) (fun ys2 H4 hs4 hd4 hy2 => ?_)
      · obtain ⟨r, hr2, rfl⟩ := map_at hi2
        intro k4 k4' kk4 kk4'
        have hmem : r ∈ rs := List.mem_reverse.mp (List.mem_of_getElem? hr2)
        obtain ⟨j, hj⟩ := List.getElem?_of_mem hmem
        obtain ⟨q, hq, er⟩ := mat_row eR hj
        obtain ⟨c, hc⟩ : ∃ c, r.2[i]? = some c := ⟨_, List.getElem?_eq_getElem (by rw [er, List.length_map]; exact hi)⟩
        refine ⟨rfl, ⟨_, rfl, _, rfl, r.1, _, _, _, rfl, rfl, SqT.of (p2.1 _ _ (p.1 _ _ (row_get R2 hr2))), atI_nat (int_get hc), kk4 rfl _ _ (fun _ _ e => e) ⟨r, hr2, ?_⟩⟩⟩
        rw [List.getD_eq_getElem?_getD, hc]; rfl
      · rw [List.length_map] at hy2
        obtain rfl := each_vals hy2 rfl
        refine ⟨D2, _, rfl, .inl ⟨SqL.of hd4, fun l hl => kk rfl _ _ (Same.more hs4 hl) ⟨l, rfl, ?_, ?_⟩⟩⟩
        · rintro rfl
          have := hs4 _ _ p.2.choose_spec.1
          rw [hl] at this; cases this
        · rw [upd_same]
          have e : (colsOf (rel pr) ps hs).getD i [] = keyOf (fun q => rel pr q hs[i]) ps := by
            unfold colsOf
            rw [List.getD_eq_getElem?_getD, List.getElem?_map, List.getElem?_eq_getElem hi]; rfl
          have e2 : rs.reverse.map (fun r => r.2.getD i 0) = ((matOf (rel pr) ps hs).map fun row => row.getD i 0).reverse := by
            rw [← eR, List.map_map, List.map_reverse]; rfl
          have e3 : ((matOf (rel pr) ps hs).map fun row => row.getD i 0) = ps.map fun q => b2 (rel pr q hs[i]) := by
            unfold matOf
            rw [List.map_map]
            refine List.map_congr_left fun q _ => ?_
            show (hs.map fun h => b2 (rel pr q h)).getD i 0 = _
            rw [List.getD_eq_getElem?_getD, List.getElem?_map, List.getElem?_eq_getElem hi]; rfl
          rw [e, ← keyOf_rev, ← e3, ← e2, List.map_map]; rfl
    · rw [filter_yes] at hy
      obtain ⟨qs, rfl, e2, e3⟩ := each_refs (R := fun a row => a ≠ D ∧ H3 a = some (.tup (row.map V.int))) (q := fun j => (colsOf (rel pr) ps hs).getD j []) hy
      refine k H3 D qs (Same.trans s2 hs3) (none_of s2 hD) ⟨hd3, fun r hr => (e3 r hr).2⟩ ?_
      rw [e2]
      have : ((hs.length : Nat) : Int).toNat = (colsOf (rel pr) ps hs).length := by unfold colsOf; rw [List.length_map]; omega
      rw [this]
      exact range_getD _ _
end
end Sv
end

section
set_option Elab.async false
set_option linter.all false
set_option maxRecDepth 100000
set_option maxHeartbeats 4000000
namespace Sv
open PySem L2 LamX
abbrev ard (x : Str) (st : Stmt) (A : Around) (s : Shared) (f : Addr) (cdv : Value) : Around := A.deeper (PyProof.Rows.envOfC x (defScope st) s.heap.objs.size f cdv)
theorem rows_pw {M : Str → Str → Bool} {ps hs : List Str} : (rowsOf M ps hs).Pairwise (· ≤ ·) ↔ RowSorted M ps hs := List.pairwise_map
theorem cols_pw {M : Str → Str → Bool} {ps hs : List Str} : (colsOf M ps hs).Pairwise (· ≤ ·) ↔ ColSorted M ps hs := List.pairwise_map
section
variable {P : Program} {w : World} {K : PySem.W.Frag} {mg : Str → Option Value} {base : Heap}
theorem scIsSorted : FnScope ["table", "order", "some"] ["table", "order"] (defScope sIsSorted) := ⟨rfl, rfl, rfl, by decide +kernel, rfl, by decide +kernel, by decide +kernel⟩
theorem ok_isSorted {f C fr fc : Addr} {fd fdr fdc : FuncData} (F : Fun K "is_sorted" "is_sorted" sIsSorted f fd) (T : TxtC K mg C) (gr : FnOk P w K mg base CX0 2 fr fdr ["table", "order"] (spRows C rowsOf)) (cr : Cal K mg "rows_back" fr fdr ["table", "order"])
    (gc : FnOk P w K mg base CX0 2 fc fdc ["table", "order"] (spRows C colsOf)) (cc : Cal K mg "columns_back" fc fdc ["table", "order"]) : FnOk P w K mg base CX0 3 f fd ["table", "order"] (spIsSorted C) := by
  refine F.ok scIsSorted (fun vs H Q E h => ?_) (fun cdv A outer s H vs Q E hr h => ?_)
  · obtain ⟨t, o, _, _, _, rfl, _⟩ := h
    rfl
  · obtain ⟨t, o, pr, ps, hs, rfl, ask, k⟩ := h
    refine ⟨_, pss_one (ps_ret (pe_callB (callAll (K := K) rfl) (by rfl) T.all (by decide +kernel) (pa_cons (pe_lc (own := [("some", 2)]) (g := gName 2) (tt := tYes) (by rfl) scIsSorted.nd
        (piT (K := K) (pe_tup (pa_cons (pe_call gr hr rfl cr.g cr.k cr.b .nil pass0 (pa_cons (pv 0) (pa_cons (pv 1) pa_nil))) (pa_cons (pe_call gc hr rfl cc.g cc.k cc.b .nil pass0 (pa_cons (pv 0) (pa_cons (pv 1) pa_nil))) pa_nil)))) (blkOk_by (N := ["table", "order", "some"]) (sc := defScope sIsSorted) (by decide +kernel))
        (fun _ _ _ _ _ => pg_name (i := 2) scIsSorted.nd rfl (Or.inl rfl)) (fun _ _ _ _ _ => pts_nil)
        (fun _ _ _ _ _ => pe_cmpR (eqD (K := K) hr.units) (pv 2) (pe_callB (callSorted (K := K) (A := ard "is_sorted" sIsSorted A s f cdv)) (by rfl) T.sorted (by decide +kernel) (pa_cons (pv 2) pa_nil)) (by rfl))) pa_nil))), ?_⟩
    refine ⟨_, rfl, _, rfl, t, o, pr, ps, hs, rfl, ask, fun H1 ra rs s1 na R eR => ?_⟩
    refine ⟨_, rfl, _, rfl, t, o, pr, ps, hs, rfl, ask.ext (Same.toN s1), fun H2 rb qs s2 nb R' eR' => ?_⟩
    have s12 := Same.trans s1 s2
    refine ⟨szl (by show 2 ≤ 4000; decide), fun pt hpt => ⟨pt, rfl, ⟨_, SqT.of upd_same⟩, fun D hD => ?_⟩⟩
    have s3 := Same.more (o := .tup [.ref ra, .ref rb]) s12 hpt
    have R1 : RowsT (upd H2 pt (.tup [.ref ra, .ref rb])) ra rs := R.ext (Same.toN (Same.more s2 hpt))
    have R2 : RowsT (upd H2 pt (.tup [.ref ra, .ref rb])) rb qs := R'.ext (Same.toN (Same.new hpt))
    have u3 : upd H2 pt (.tup [.ref ra, .ref rb]) pt = some (.tup [.ref ra, .ref rb]) := upd_same
    generalize upd H2 pt (.tup [.ref ra, .ref rb]) = H3 at s3 R1 R2 u3 hD
    have hroom : (ard "is_sorted" sIsSorted A s f cdv).units + 3 < cLine := by
      have q : (ard "is_sorted" sIsSorted A s f cdv).units + 16 * 2 + 200 < cLine := hr.un
      omega
    refine map_tup yes (fun j y H => ∃ b, y = .bl b ∧ (j = 0 → (b = true ↔ RowSorted (rel pr) ps hs)) ∧ (j = 1 → (b = true ↔ ColSorted (rel pr) ps hs))) hD (SqT.of u3) (szl (by show 2 ≤ 4000; decide)) (fun j y H H' e h => h) (fun i x H4 hi p => ?_) (fun ys H4 hs4 hd4 hy => ?_)
    · intro k4 k4' kk kk'
      match i, hi with
      | 0, hi =>
        obtain rfl := (Option.some.inj hi)
        refine ⟨rfl, ⟨_, rfl, _, rfl, some_eq_sorted (R1.ext (Same.toN p.1)) (all_ne eR (rows_ne ask.h0)) hroom fun H5 b s5 e => kk rfl _ _ s5 ⟨b, rfl, fun _ => ?_, fun z => by cases z⟩⟩⟩
        rw [e, eR]; exact rows_pw
      | 1, hi =>
        obtain rfl := (Option.some.inj hi)
        refine ⟨rfl, ⟨_, rfl, _, rfl, some_eq_sorted (R2.ext (Same.toN p.1)) (all_ne eR' (cols_ne ask.p0)) hroom fun H5 b s5 e => kk rfl _ _ s5 ⟨b, rfl, fun z => (by cases z), fun _ => ?_⟩⟩⟩
        rw [e, eR']; exact cols_pw
      | n + 2, hi => cases hi
    · rw [filter_yes] at hy
      have hy : PySem.W.EachIs (fun y j => ∃ b, y = V.bl b ∧ (j = 0 → (b = true ↔ RowSorted (rel pr) ps hs)) ∧ (j = 1 → (b = true ↔ ColSorted (rel pr) ps hs))) ys [0, 1] := hy
      cases hy with
      | cons h0 t0 =>
        cases t0 with
        | cons h1 t1 =>
          cases t1
          obtain ⟨b0, rfl, e0, _⟩ := h0
          obtain ⟨b1, rfl, _, e1⟩ := h1
          refine ⟨D, [b0, b1], rfl, SqL.of hd4, k H4 _ (Same.trans s3 hs4) ?_⟩
          rw [← e0 rfl, ← e1 rfl]
          cases b0 <;> cases b1 <;> simp
end
end Sv
end

section
set_option Elab.async false
set_option linter.all false
set_option maxRecDepth 100000
set_option maxHeartbeats 4000000
namespace Sv
open PySem L2 LamX
/-- a def whose code object is known -/
structure FunC (K : PySem.W.Frag) (x qual : Str) (st : Stmt) (f : Addr) (fd : FuncData) (c : Addr) : Prop where
  ex : ∃ (oc : Value) (od : Option Addr) (kV doc pm : Value) (an : Option Addr) (ct : Value) (osl : Array (Option Value)),
    fd = PySem.W.fnOf x qual (defArgs st) (defBody st) (defScope st) .none kV doc pm an (.ref c) ct ∧ K.lookup f = some ⟨oc, od, .func fd, osl⟩ ∧ PySem.W.codeIn K (.ref c) qual = true
  kp : PySem.W.keepIn K (.ref f) = true
section
variable {P : Program} {w : World} {K : PySem.W.Frag} {mg : Str → Option Value} {base : Heap}
theorem FunC.ok {x qual : Str} {st : Stmt} {f c : Addr} {fd : FuncData} {N ps : List Str} {k : Nat} {sp : Sp} (F : FunC K x qual st f fd c) (S : FnScope N ps (defScope st)) (len : ∀ vs H Q E, sp vs H Q E → vs.length = ps.length)
    (hbody : ∀ (A : Around) (outer : List Env) (s : Shared) (H : Hp) (vs : List V) (Q : VK) (E : XK), Room k (A.deeper (PyProof.Rows.envOfC qual (defScope st) s.heap.objs.size f (.ref c))) → sp vs H Q E →
      ∃ t, PSs (cxOf CX0 P w K mg base N qual (defScope st) f (.ref c) A outer s H E).nox (defBody st) t ∧ t { nx := fun _ H' => Q .non H', rt := Q } (start N vs) H) : FnOk P w K mg base CX0 (k + 1) f fd ps sp := by
  obtain ⟨oc, od, kV, doc, pm, an, ct, osl, rfl, lk, hcd⟩ := F.ex
  refine fn_of lk hcd S len fun A outer s H vs Q E hr hsp => ?_
  obtain ⟨t, h, q⟩ := hbody A outer s H vs Q E hr hsp
  exact ⟨t, h.nox, q⟩
theorem FunC.binds {x qual : Str} {st : Stmt} {f c : Addr} {fd : FuncData} {ps : List Str} (F : FunC K x qual st f fd c)
    (h : ∀ (kV doc pm : Value) (an : Option Addr) (cdv ct : Value) (us : List Value), us.length = ps.length → bindArgs (PySem.W.fnOf x qual (defArgs st) (defBody st) (defScope st) .none kV doc pm an cdv ct) ⟨us, []⟩ = pure (ps.zip us)) : Binds K fd ps [] := by
  obtain ⟨oc, od, kV, doc, pm, an, ct, osl, rfl, lk, hcd⟩ := F.ex
  exact .all (h kV doc pm an (.ref c) ct)
end
/-- the lambda's name -/
def lamName : Str := (PyProof.Rows.envOfC "sorted_by" (defScope sSortedBy) 0 0 .none).qual ++ "<lambda>"
abbrev TT (p : Addr) : List (Addr × Str) := [(p, lamName)]
def spSortedBy (pt : Addr) : Sp := fun vs H Q _ => ∃ (n a : Addr) (names : List Str) (rs : List (Addr × List Int)), vs = [.ref n, .ref a] ∧ TupS H n names ∧ RowsT H a rs ∧ rs.length = names.length ∧ names.length ≤ 100 ∧ (∀ r ∈ rs, r.2 ≠ []) ∧ Tabs (TT pt) H ∧
  ∀ (H' : Hp) (p : Addr) (out : List Nat), ExtN H H' → Tabs (TT pt) H' → out.Perm (List.range names.length) → out.Pairwise (fun x y => rowAt rs x ≤ rowAt rs y) → TupS H' p (out.map fun j => names.getD j "") → Q (.ref p) H'
theorem lam_free : ∀ y ∈ [(("at" : Str), NameKind.local), (("keys" : Str), NameKind.free)], y.2 = .free → (defScope sSortedBy).names.lookup y.1 = some .cell ∨ (defScope sSortedBy).names.lookup y.1 = some .free := by decide +kernel
theorem not_tbl {o : HO} {xs : List V} (h : o = .lst xs ∨ o = .tup xs) : ∀ ps, o ≠ .tbl ps := fun ps z => by rcases h with rfl | rfl <;> cases z
section
variable {P : Program} {w : World} {K : PySem.W.Frag} {mg : Str → Option Value} {base : Heap}
theorem scSortedBy : FnScope ["names", "keys", "at"] ["names", "keys"] (defScope sSortedBy) := ⟨rfl, rfl, rfl, by decide +kernel, rfl, by decide +kernel, by decide +kernel⟩
theorem ok_sortedBy {f C c pt : Addr} {fd : FuncData} (F : FunC K "sorted_by" "sorted_by" sSortedBy f fd c) (T : TxtC K mg C) (TB : TabB base mg c pt) : FnOk P w K mg base CX0 4 f fd ["names", "keys"] (spSortedBy pt) := by
  refine F.ok scSortedBy (fun vs H Q E h => ?_) (fun A outer s H vs Q E hr h => ?_)
  · obtain ⟨n, a, _, _, rfl, _⟩ := h
    rfl
  · obtain ⟨n, a, names, rs, rfl, hn, R, hl, hz, hne, hT, k⟩ := h
    refine ⟨_, pss_one (ps_ret (pe_callTy (T := "tuple") (callTup (K := K)) (by rfl) T.tuple (by decide +kernel) (pa_cons
        (pe_lc (own := [("at", 2)]) (g := gName 2) (tt := tYes) (by rfl) scSortedBy.nd
          (piL (K := K) (pe_sortLam (T := TT pt) (i := 1) rfl TB rfl (List.mem_singleton.mpr rfl) (fun p hp _ => by rw [List.mem_singleton.mp hp]; rfl) (by rfl) T.sorted
            (pe_callTy (T := "range") cr_range1 (by rfl) T.range (by decide +kernel) (pa_cons (pe_callB (callLen (K := K)) (by rfl) T.len PySem.boot_len (pa_cons (pv 0) pa_nil)) pa_nil))
            hr rfl rfl rfl rfl rfl rfl (by decide +kernel) rfl rfl lam_free (fun _ _ _ _ _ _ => rfl)))
          (blkOk_by (N := ["names", "keys", "at"]) (sc := defScope sSortedBy) (by decide +kernel))
          (fun _ _ _ _ _ => pg_name (i := 2) scSortedBy.nd rfl (Or.inl rfl)) (fun _ _ _ _ _ => pts_nil)
          (fun _ _ _ _ _ => pe_ix (ixT (K := K)) (pv 0) (pv 2) (fun _ _ => rfl))) pa_nil))), ?_⟩
    refine ⟨_, rfl, n, _, rfl, .inr (SqT.of hn), _, rfl, fun r hr1 => ?_⟩
    have s1 : Same H (upd H r (.rng 0 ((names.map V.str).length : Nat))) := Same.new hr1
    rw [List.length_map] at s1 ⊢
    refine ⟨r, a, rs, rfl, by rw [hl]; exact upd_same, hT.ext s1, rfl, by omega, SqL.of (s1 _ _ R.1), fun q hq => ⟨SqT.of (s1 _ _ (R.2 q hq)), hne q hq⟩, fun H2 out p e2 T2 hp hw hn2 => ?_⟩
    have s3 := Same.new (o := .lst (out.map fun (n : Nat) => V.int n)) hn2
    have u3 : upd H2 p (.lst (out.map fun (n : Nat) => V.int n)) p = some (.lst (out.map fun (n : Nat) => V.int n)) := upd_same
    generalize upd H2 p (.lst (out.map fun (n : Nat) => V.int n)) = H3 at s3 u3
    have e3 : ExtN H H3 := (Same.toN s1).trans (e2.trans (Same.toN s3))
    have T3 := T2.ext s3
    have n3 : TupS H3 n names := e3 _ _ hn (not_tbl (.inr rfl))
    refine ⟨p, rfl, ⟨_, SqL.of u3⟩, fun D hD => ?_⟩
    have hlo : out.length = names.length := by rw [hp.length_eq, List.length_range, hl]
    refine map_list yes (fun j y H => ∃ i, out[j]? = some i ∧ y = .str (names.getD i "")) hD (SqL.of u3) (szl (by rw [List.length_map]; omega)) (fun j y H H' e h => h) (fun i x H4 hi p4 => ?_) (fun ys H4 hs4 hd4 hy => ?_)
    · obtain ⟨j, hj, rfl⟩ := map_at hi
      intro k4 k4' kk kk'
      have hjn : j < names.length := by
        have := hp.mem_iff.mp (List.mem_of_getElem? hj)
        rw [hl] at this
        exact List.mem_range.mp this
      refine ⟨rfl, ⟨_, rfl, _, rfl, n, _, _, _, rfl, rfl, SqT.of (p4.1 _ _ n3), atI_nat (str_get (List.getElem?_eq_getElem hjn)), kk rfl _ _ (fun _ _ e => e) ⟨j, hj, ?_⟩⟩⟩
      rw [List.getD_eq_getElem?_getD, List.getElem?_eq_getElem hjn]; rfl
    · rw [List.length_map] at hy
      obtain rfl := each_vals hy rfl
      refine ⟨D, _, rfl, .inl ⟨SqL.of hd4, fun l hl4 => ?_⟩⟩
      have s5 := Same.more (o := .tup (out.map fun i => V.str (names.getD i ""))) hs4 hl4
      rw [hl] at hp
      refine k _ l out (e3.trans (Same.toN s5)) (T3.ext s5) hp hw ?_
      show upd _ _ _ _ = _
      rw [upd_same, List.map_map]; rfl
end
end Sv
end

section
set_option Elab.async false
set_option linter.all false
set_option maxRecDepth 100000
set_option maxHeartbeats 4000000
namespace Sv
open PySem L2 LamX
theorem out_perm {names : List Str} {out : List Nat} (hp : out.Perm (List.range names.length)) : (out.map fun j => names.getD j "").Perm names := by
  have := hp.map fun j => names.getD j ""
  rwa [range_getD] at this
theorem out_pw {names : List Str} {out : List Nat} {rs : List (Addr × List Int)} {key : Str → List Int} (hp : out.Perm (List.range names.length)) (e : rs.map (·.2) = names.map key) (hw : out.Pairwise fun x y => rowAt rs x ≤ rowAt rs y) :
    (out.map fun j => names.getD j "").Pairwise fun a b => key a ≤ key b := by
  refine List.pairwise_map.mpr ?_
  refine hw.imp_of_mem fun {x y} hx hy h => ?_
  have q : ∀ z ∈ out, rowAt rs z = key (names.getD z "") := fun z hz => by
    have hz := List.mem_range.mp (hp.mem_iff.mp hz)
    unfold rowAt
    rw [e, List.getD_eq_getElem?_getD, List.getD_eq_getElem?_getD, List.getElem?_map, List.getElem?_eq_getElem hz]; rfl
  rw [← q x hx, ← q y hy]; exact h
/-- what a function is asked about a table -/
structure AskT (C : Addr) (H : Hp) (t : Addr) (P Hs : List Str) (pr : List (Addr × List Str)) : Prop where
  T : TabO C H t P Hs pr
  p0 : 0 < P.length
  h0 : 0 < Hs.length
  p : P.length ≤ 100
  h : Hs.length ≤ 100
  q : pr.length < 64
theorem AskT.ext {C : Addr} {H H' : Hp} {t : Addr} {P Hs : List Str} {pr : List (Addr × List Str)} (x : AskT C H t P Hs pr) (e : ExtN H H') : AskT C H' t P Hs pr := ⟨x.T.ext e, x.p0, x.h0, x.p, x.h, x.q⟩
theorem AskT.with {C : Addr} {H : Hp} {t o : Addr} {P Hs ps hs : List Str} {pr : List (Addr × List Str)} (x : AskT C H t P Hs pr) (O : OrdO H o ps hs) (e1 : ps.Perm P) (e2 : hs.Perm Hs) : AskTO C H t o pr ps hs :=
  ⟨⟨_, _, x.T⟩, O, e1.length_eq ▸ x.p0, e2.length_eq ▸ x.h0, e1.length_eq ▸ x.p, e2.length_eq ▸ x.h, x.q⟩
def spSortedOrder (C pt : Addr) : Sp := fun vs H Q _ => ∃ (t : Addr) (P Hs : List Str) (pr : List (Addr × List Str)), vs = [.ref t] ∧ AskT C H t P Hs pr ∧ Tabs (TT pt) H ∧
  ∀ (H' : Hp) (o : Addr) (ps hs : List Str), ExtN H H' → Tabs (TT pt) H' → OrdO H' o ps hs → ps.Perm P → hs.Perm Hs → RowSorted (rel pr) ps hs → ColSorted (rel pr) ps hs → Q (.ref o) H'
def spStraightOrder (C pt : Addr) : Sp := fun vs H Q _ => ∃ (t : Addr) (P Hs : List Str) (pr : List (Addr × List Str)), vs = [.ref t] ∧ AskT C H t P Hs pr ∧ Tabs (TT pt) H ∧
  (∀ (H' : Hp) (o : Addr) (ps hs : List Str), ExtN H H' → Tabs (TT pt) H' → OrdO H' o ps hs → ps.Perm P → hs.Perm Hs → RowSorted (rel pr) ps hs → ColSorted (rel pr) ps hs →
    (Straight (rel pr) ps hs → Q (.ref o) H') ∧ (¬ Straight (rel pr) ps hs → Q .non H'))
/-- what the sorting keeps from turn to turn -/
def WOrd (pr : List (Addr × List Str)) (P ps hs : List Str) (m : Nat) : Prop := m = P.length + 1 ∨ Upto (rel pr) m ps hs

section
variable {P : Program} {w : World} {K : PySem.W.Frag} {mg : Str → Option Value} {base : Heap}
theorem scSortedOrder : FnScope ["table", "order"] ["table"] (defScope sSortedOrder) := ⟨rfl, rfl, rfl, by decide +kernel, rfl, by decide +kernel, by decide +kernel⟩
theorem ok_sortedOrder {f C pt fi fs fr fc : Addr} {fd fdi fds fdr fdc : FuncData} (F : Fun K "sorted_order" "sorted_order" sSortedOrder f fd) (T : TxtC K mg C) (gi : FnOk P w K mg base CX0 3 fi fdi ["table", "order"] (spIsSorted C)) (ci : Cal K mg "is_sorted" fi fdi ["table", "order"])
    (gs : FnOk P w K mg base CX0 4 fs fds ["names", "keys"] (spSortedBy pt)) (cs : Cal K mg "sorted_by" fs fds ["names", "keys"])
    (gr : FnOk P w K mg base CX0 2 fr fdr ["table", "order"] (spRows C rowsOf)) (cr : Cal K mg "rows_back" fr fdr ["table", "order"])
    (gc : FnOk P w K mg base CX0 2 fc fdc ["table", "order"] (spRows C colsOf)) (cc : Cal K mg "columns_back" fc fdc ["table", "order"]) : FnOk P w K mg base CX0 5 f fd ["table"] (spSortedOrder C pt) := by
  refine F.ok scSortedOrder (fun vs H Q E h => ?_) (fun cdv A outer s H vs Q E hr h => ?_)
  · obtain ⟨t, _, _, _, rfl, _⟩ := h
    rfl
  · obtain ⟨t, Ps, Hs, pr, rfl, ask, hT, k⟩ := h
    have hr3 := hr.mono (by decide : 3 ≤ 4)
    have hr2 := hr.mono (by decide : 2 ≤ 4)
    refine ⟨_, pss_cons (ps_set (i := 1) scSortedOrder.nd rfl (Or.inl rfl) (pe_tup (pa_cons (pe_fld (pv 0) rfl) (pa_cons (pe_fld (pv 0) rfl) pa_nil))))
      (pss_cons (ps_while PassesOwn.never (pt_not (pt_val (pe_call gi hr3 rfl ci.g ci.k ci.b .nil pass0 (pa_cons (pv 0) (pa_cons (pv 1) pa_nil)))))
        (pss_cons (ps_set (i := 1) scSortedOrder.nd rfl (Or.inl rfl) (pe_tup (pa_cons (pe_call gs hr rfl cs.g cs.k cs.b .nil pass0 (pa_cons (pe_ix (ixT (K := K)) (pv 1) pe_int (fun _ _ => rfl)) (pa_cons (pe_call gr hr2 rfl cr.g cr.k cr.b .nil pass0 (pa_cons (pv 0) (pa_cons (pv 1) pa_nil))) pa_nil))) (pa_cons (pe_ix (ixT (K := K)) (pv 1) pe_int (fun _ _ => rfl)) pa_nil))))
          (pss_one (ps_set (i := 1) scSortedOrder.nd rfl (Or.inl rfl) (pe_tup (pa_cons (pe_ix (ixT (K := K)) (pv 1) pe_int (fun _ _ => rfl)) (pa_cons (pe_call gs hr rfl cs.g cs.k cs.b .nil pass0 (pa_cons (pe_ix (ixT (K := K)) (pv 1) pe_int (fun _ _ => rfl)) (pa_cons (pe_call gc hr2 rfl cc.g cc.k cc.b .nil pass0 (pa_cons (pv 0) (pa_cons (pv 1) pa_nil))) pa_nil))) pa_nil)))))))
      (pss_one (ps_ret (pv 1)))), ?_⟩
    obtain ⟨dx, pa, ha, qa, t1, t2, t3, t4, t5, t6⟩ := id ask.T
    refine ⟨_, rfl, t, C, dx, _, _, rfl, t1, T.cl, T.nP, tabF_p _ _ _, _, rfl, t, C, dx, _, _, rfl, t1, T.cl, T.nH, tabF_h _ _ _, szl (by show 2 ≤ 4000; decide), fun o ho => ?_⟩
    have s1 := Same.new (o := .tup [.ref pa, .ref ha]) ho
    refine ⟨fun m σ H' => ∃ (o : Addr) (ps hs : List Str), σ = [some (.ref t), some (.ref o)] ∧ ExtN H H' ∧ Tabs (TT pt) H' ∧ OrdO H' o ps hs ∧ ps.Perm Ps ∧ hs.Perm Hs ∧ WOrd pr Ps ps hs m,
      ⟨_, o, Ps, Hs, rfl, Same.toN s1, hT.ext s1, ⟨pa, ha, upd_same, s1 _ _ t3, s1 _ _ t4⟩, .refl _, .refl _, .inl rfl⟩, ?_⟩
    rintro m σ H1 ⟨o, ps, hs, rfl, e1, T1, O1, pp, ph, hW⟩
    have ask1 := (ask.ext e1).with O1 pp ph
    refine ⟨_, rfl, _, rfl, t, o, pr, ps, hs, rfl, ask1, fun H2 b s2 eb => ⟨b, rfl, ?_⟩⟩
    have e2 : ExtN H H2 := e1.trans (Same.toN s2)
    have T2 := T1.ext s2
    have O2 := O1.ext (Same.toN s2)
    have ask2 := ask1.ext (Same.toN s2)
    cases b with
    | true => exact iteF ⟨_, rfl, k H2 o ps hs e2 T2 O2 pp ph (eb.mp rfl).1 (eb.mp rfl).2⟩
    | false =>
      refine iteT ⟨_, fun σ' H' h => h, ?_⟩
      obtain ⟨po, ho2, o1, o2, o3⟩ := id O2
      refine ⟨_, rfl, o, _, 0, _, rfl, rfl, SqT.of o1, rfl, _, rfl, _, rfl, t, o, pr, ps, hs, rfl, ask2, fun H3 ra rs s3 _ R3 eR3 => ?_⟩
      have lR3 : rs.length = ps.length := by
        have := congrArg List.length eR3
        unfold rowsOf at this
        rwa [List.length_map, List.length_map] at this
      refine ⟨po, ra, ps, rs, rfl, s3 _ _ o2, R3, lR3, ask1.p, all_ne eR3 (rows_ne ask1.h0), T2.ext s3, fun H4 p out e4 T4 hp hw hps => ?_⟩
      have e14 : ExtN H4 H4 := ExtN.refl _
      have x4 : ExtN H2 H4 := (Same.toN s3).trans e4
      have O4 := O2.ext x4
      have o14 := x4 _ _ o1 (not_tbl (.inr rfl))
      have o34 := x4 _ _ o3 (not_tbl (.inr rfl))
      refine ⟨_, rfl, o, _, 1, _, rfl, rfl, SqT.of o14, rfl, szl (by show 2 ≤ 4000; decide), fun q hq => ?_⟩
      have s5 := Same.new (o := .tup [.ref p, .ref ho2]) hq
      have u5 : upd H4 q (.tup [.ref p, .ref ho2]) q = some (.tup [.ref p, .ref ho2]) := upd_same
      generalize upd H4 q (.tup [.ref p, .ref ho2]) = H5 at s5 u5
      generalize hps' : out.map (fun j => ps.getD j "") = ps' at hps
      have pp1 : ps'.Perm ps := hps' ▸ out_perm hp
      have hR : RowSorted (rel pr) ps' hs := hps' ▸ out_pw (key := fun p => keyOf (rel pr p) hs) hp eR3 hw
      have e5 : ExtN H H5 := e2.trans (x4.trans (Same.toN s5))
      have T5 := T4.ext s5
      have O5 : OrdO H5 q ps' hs := ⟨p, ho2, u5, s5 _ _ hps, s5 _ _ o34⟩
      have ask5 := (ask.ext e5).with O5 (pp1.trans pp) ph
      refine ⟨_, rfl, q, _, 0, _, rfl, rfl, SqT.of u5, rfl, _, rfl, q, _, 1, _, rfl, rfl, SqT.of u5, rfl, _, rfl, _, rfl, t, q, pr, ps', hs, rfl, ask5, fun H6 rb qs s6 _ R6 eR6 => ?_⟩
      have lR6 : qs.length = hs.length := by
        have := congrArg List.length eR6
        unfold colsOf at this
        rwa [List.length_map, List.length_map] at this
      refine ⟨ho2, rb, hs, qs, rfl, s6 _ _ (s5 _ _ o34), R6, lR6, ask1.h, all_ne eR6 (cols_ne ask5.p0), T5.ext s6, fun H7 p2 out2 e7 T7 hp2 hw2 hps2 => ?_⟩
      refine ⟨szl (by show 2 ≤ 4000; decide), fun r hr7 => ?_⟩
      have s8 := Same.new (o := .tup [.ref p, .ref p2]) hr7
      have u8 : upd H7 r (.tup [.ref p, .ref p2]) r = some (.tup [.ref p, .ref p2]) := upd_same
      generalize upd H7 r (.tup [.ref p, .ref p2]) = H8 at s8 u8
      generalize hhs' : out2.map (fun j => hs.getD j "") = hs' at hps2
      have ph1 : hs'.Perm hs := hhs' ▸ out_perm hp2
      have hC : ColSorted (rel pr) ps' hs' := hhs' ▸ out_pw (key := fun h => keyOf (fun p => rel pr p h) ps') hp2 eR6 hw2
      have x8 : ExtN H5 H8 := ((Same.toN s6).trans e7).trans (Same.toN s8)
      have fin : ∀ m', m' < m → WOrd pr Ps ps' hs' m' → ∃ m', m' < m ∧ ∃ (o : Addr) (ps hs : List Str), [some (V.ref t), some (V.ref r)] = [some (.ref t), some (.ref o)] ∧ ExtN H H8 ∧ Tabs (TT pt) H8 ∧ OrdO H8 o ps hs ∧ ps.Perm Ps ∧ hs.Perm Hs ∧ WOrd pr Ps ps hs m' :=
        fun m' hm hw' => ⟨m', hm, r, ps', hs', rfl, e5.trans x8, T7.ext s8, ⟨p, p2, u8, x8 _ _ (s5 _ _ hps) (not_tbl (.inr rfl)), s8 _ _ hps2⟩, pp1.trans pp, ph1.trans ph, hw'⟩
      have lp : ps'.length = Ps.length := (pp1.trans pp).length_eq
      rcases hW with rfl | hU
      · refine fin ps'.length (by omega) (.inr (Upto.full hC))
      · have hm2 : 2 ≤ m := by
          refine Nat.lt_of_not_le fun hm => ?_
          have := eb.mpr ⟨hU.rows hm, hU.1⟩
          cases this
        exact fin (m - 1) (by omega) (.inr (hU.turn pp1 hR ph1 hC))
theorem scStraightOrder : FnScope ["table", "order"] ["table"] (defScope sStraightOrder) := ⟨rfl, rfl, rfl, by decide +kernel, rfl, by decide +kernel, by decide +kernel⟩
theorem ok_straightOrder {f C pt fs fi : Addr} {fd fds fdi : FuncData} (F : Fun K "straight_order" "straight_order" sStraightOrder f fd) (gs : FnOk P w K mg base CX0 5 fs fds ["table"] (spSortedOrder C pt)) (cs : Cal K mg "sorted_order" fs fds ["table"])
    (gi : FnOk P w K mg base CX0 3 fi fdi ["table", "order"] (spStraight C)) (ci : Cal K mg "is_straight" fi fdi ["table", "order"]) : FnOk P w K mg base CX0 6 f fd ["table"] (spStraightOrder C pt) := by
  refine F.ok scStraightOrder (fun vs H Q E h => ?_) (fun cdv A outer s H vs Q E hr h => ?_)
  · obtain ⟨t, _, _, _, rfl, _⟩ := h
    rfl
  · obtain ⟨t, Ps, Hs, pr, rfl, ask, hT, k⟩ := h
    have hr3 := hr.mono (by decide : 3 ≤ 5)
    refine ⟨_, pss_cons (ps_set (i := 1) scStraightOrder.nd rfl (Or.inl rfl) (pe_call gs hr rfl cs.g cs.k cs.b .nil pass0 (pa_cons (pv 0) pa_nil)))
      (pss_one (ps_ret (pe_ifExp (pt_val (pe_call gi hr3 rfl ci.g ci.k ci.b .nil pass0 (pa_cons (pv 0) (pa_cons (pv 1) pa_nil)))) (pv 1) pe_non))), ?_⟩
    refine ⟨_, rfl, t, Ps, Hs, pr, rfl, ask, hT, fun H1 o ps hs e1 T1 O1 pp ph hR hC => ?_⟩
    refine ⟨_, rfl, _, rfl, t, o, pr, ps, hs, rfl, (ask.ext e1).with O1 pp ph, fun H2 b s2 eb => ⟨b, rfl, ?_⟩⟩
    have kk := k H2 o ps hs (e1.trans (Same.toN s2)) (T1.ext s2) (O1.ext (Same.toN s2)) pp ph hR hC
    cases b with
    | true => exact iteT ⟨_, rfl, kk.1 (eb.mp rfl)⟩
    | false => exact iteF (kk.2 fun z => by have := eb.mpr z; cases this)
end
end Sv
end

section
set_option Elab.async false
set_option linter.all false
set_option maxRecDepth 100000
set_option maxHeartbeats 4000000
namespace Sv
open PySem L2 LamX
open PySem.W (Datum DatumOrd Tup)
/-- the deal: what is left of the script, and the mix -/
def DealAt (d c : Addr) (H : Hp) : Prop := d ≠ c ∧ ∃ (m : Int) (xs : List Int), H d = some (.lst [.ref c, .int m]) ∧ H c = some (.lst (xs.map V.int)) ∧ xs.length ≤ 64
/-- all else stands -/
def But (d c : Addr) (H H' : Hp) : Prop := ∀ b o, b ≠ d → b ≠ c → H b = some o → H' b = some o
theorem But.refl {d c : Addr} (H : Hp) : But d c H H := fun _ _ _ _ e => e
theorem But.trans {d c : Addr} {H H' H'' : Hp} (a : But d c H H') (b : But d c H' H'') : But d c H H'' := fun x o n1 n2 e => b x o n1 n2 (a x o n1 n2 e)
theorem But.of {d c : Addr} {H H' : Hp} (s : Same H H') : But d c H H' := fun b o _ _ e => s b o e
theorem But.new {d c : Addr} {H : Hp} {p : Addr} {o : HO} (n : H p = none) : But d c H (upd H p o) := But.of (Same.new n)
theorem But.more {d c : Addr} {H0 H : Hp} {p : Addr} {o : HO} (s : But d c H0 H) (n : H p = none) : But d c H0 (upd H p o) := s.trans (But.new n)
/-- a store to what was not there -/
theorem But.put {d c : Addr} {H0 H : Hp} {p : Addr} {o : HO} (s : But d c H0 H) (n : H0 p = none) : But d c H0 (upd H p o) := fun b u n1 n2 e => by rw [upd_ne (ne_of_none e n)]; exact s b u n1 n2 e
theorem But.d {d c : Addr} {H : Hp} {o : HO} : But d c H (upd H d o) := fun b u n1 n2 e => by rw [upd_ne n1]; exact e
theorem But.c {d c : Addr} {H : Hp} {o : HO} : But d c H (upd H c o) := fun b u n1 n2 e => by rw [upd_ne n2]; exact e
theorem DealAt.same {d c : Addr} {H H' : Hp} (D : DealAt d c H) (s : Same H H') : DealAt d c H' := by
  obtain ⟨n, m, xs, h1, h2, h3⟩ := D
  exact ⟨n, m, xs, s _ _ h1, s _ _ h2, h3⟩
theorem DealAt.new {d c p : Addr} {H : Hp} {o : HO} (D : DealAt d c H) (n : H p = none) : DealAt d c (upd H p o) := D.same (Same.new n)
theorem DealAt.nd {d c p : Addr} {H : Hp} (D : DealAt d c H) (n : H p = none) : p ≠ d := by
  obtain ⟨_, m, xs, h1, h2, h3⟩ := D
  exact off_ne h1 n
theorem DealAt.nc {d c p : Addr} {H : Hp} (D : DealAt d c H) (n : H p = none) : p ≠ c := by
  obtain ⟨_, m, xs, h1, h2, h3⟩ := D
  exact off_ne h2 n
theorem DealAt.put {d c p : Addr} {H : Hp} {o : HO} (D : DealAt d c H) (n1 : p ≠ d) (n2 : p ≠ c) : DealAt d c (upd H p o) := by
  obtain ⟨n, m, xs, h1, h2, h3⟩ := D
  exact ⟨n, m, xs, by rw [upd_ne n1.symm]; exact h1, by rw [upd_ne n2.symm]; exact h2, h3⟩
/-- what is no list stands apart -/
theorem DealAt.apart {d c p : Addr} {H : Hp} {o : HO} (D : DealAt d c H) (h : H p = some o) (ne : ∀ xs, o ≠ .lst xs) : p ≠ d ∧ p ≠ c := by
  obtain ⟨n, m, xs, h1, h2, h3⟩ := D
  exact ⟨fun e => by subst e; rw [h1] at h; exact ne _ (Option.some.inj h).symm, fun e => by subst e; rw [h2] at h; exact ne _ (Option.some.inj h).symm⟩
theorem But.tup {d c p : Addr} {H H' : Hp} {xs : List V} (s : But d c H H') (D : DealAt d c H) (h : H p = some (.tup xs)) : H' p = some (.tup xs) := by
  obtain ⟨n1, n2⟩ := D.apart h fun _ z => nomatch z
  exact s _ _ n1 n2 h
theorem But.ins {d c p C dx : Addr} {H H' : Hp} {fs : List (Str × V)} (s : But d c H H') (D : DealAt d c H) (h : H p = some (.ins C dx fs)) : H' p = some (.ins C dx fs) := by
  obtain ⟨n1, n2⟩ := D.apart h fun _ z => nomatch z
  exact s _ _ n1 n2 h
theorem But.own {d c p a : Addr} {H H' : Hp} (s : But d c H H') (D : DealAt d c H) (h : H p = some (.own a)) : H' p = some (.own a) := by
  obtain ⟨n1, n2⟩ := D.apart h fun _ z => nomatch z
  exact s _ _ n1 n2 h
def spAny : Sp := fun vs H Q _ => ∃ (d c : Addr) (b : Int), vs = [.ref d, .int b] ∧ DealAt d c H ∧ 0 < b ∧ b < 1073741824 ∧ ∀ (H' : Hp) (r : Int), But d c H H' → DealAt d c H' → 0 ≤ r → r < b → Q (.int r) H'

/-- the names that the law's text reads -/
structure TxtL (K : PySem.W.Frag) (mg : Str → Option Value) (C : Addr) : Prop where
  t : TxtC K mg C
  abs : mg "abs" = none
  sum : mg "sum" = none
  min : mg "min" = none
  list : mg "list" = none
  isi : mg "isinstance" = none
  repr : mg "repr" = none
  tab : mg "Table" = some (.ref C)

section
variable {P : Program} {w : World} {K : PySem.W.Frag} {mg : Str → Option Value} {base : Heap}
theorem scAny : FnScope ["_law_deal_here", "_law_bound", "_law_rest"] ["_law_deal_here", "_law_bound"] (defScope sAny) := ⟨rfl, rfl, rfl, by decide +kernel, rfl, by decide +kernel, by decide +kernel⟩
theorem dpInts {H : Hp} {a : Addr} {xs : List Int} (h : SqL K H a (xs.map V.int)) : Dp K H (.ref a) (Datum.toD xs) := .lst h (dpAll (g := PyData.int) fun r _ => .int r)
theorem lay_ints (xs : List Int) : (Datum.toD xs : PyData).canLay0 = true := lay_list _ fun x _ => lay_int x
/-- the loop's test -/
theorem anyTest {d c : Addr} {b : V} {x2 : Option V} {m : Int} {xs : List Int} {H : Hp} {Q : Bool → Hp → Prop} (hd : H d = some (.lst [.ref c, .int m])) (hc : H c = some (.lst (xs.map V.int)))
    (q : ∀ (bb : Bool) (H2 : Hp), Same H H2 → (bb = true ↔ ∃ ys, xs = ys ++ [0]) → Q bb H2) :
    tAnd (tTest (tOp (rNeD K) (tOp (rIxL K) (tVar 0) (tC (.int 0))) (tLst tNil))) (tTest (tOp rEq (tOp (rIxL K) (tOp (rIxL K) (tVar 0) (tC (.int 0))) (tUn (rU fun i => .int (-i)) (tC (.int 1)))) (tC (.int 0)))) [some (.ref d), some b, x2] H Q := by
  refine ⟨_, rfl, d, _, 0, _, rfl, rfl, SqL.of hd, rfl, Nat.zero_le _, fun l hl => ?_⟩
  have s1 := Same.new (o := .lst []) hl
  refine neOf (α := List Int) (x := xs) (y := []) (dpInts (SqL.of (s1 _ _ hc))) (dpInts (SqL.of upd_same)) (lay_ints _) (lay_ints _) (by decide) ⟨_, rfl, ?_⟩
  rcases List.eq_nil_or_concat xs with rfl | ⟨ys, z, rfl⟩
  · refine iteF (q _ _ s1 ⟨fun z => (by cases z), fun ⟨ys, z⟩ => ?_⟩)
    have := congrArg List.length z
    rw [List.length_append] at this
    simp at this
  · simp only [List.concat_eq_append] at hc q ⊢
    rw [decide_eq_false (by intro z; have := congrArg List.length z; rw [List.length_append] at this; simp at this)]
    refine iteT ⟨_, rfl, d, _, 0, _, rfl, rfl, SqL.of (s1 _ _ hd), rfl, 1, rfl, c, _, -1, .int z, rfl, rfl, SqL.of (s1 _ _ hc), by rw [List.map_append]; exact atI_last _ _, rfl, _, rfl, q _ _ s1 ?_⟩
    rw [decide_eq_true_eq]
    constructor
    · intro e; exact ⟨ys, by rw [V.int.inj e]⟩
    · rintro ⟨zs, e⟩
      have := (List.append_inj' e rfl).2
      rw [(List.cons.inj this).1]
/-- is anything left? -/
theorem leftTest {d c : Addr} {b : V} {x2 : Option V} {m : Int} {xs : List Int} {H : Hp} {Q : Bool → Hp → Prop} (hd : H d = some (.lst [.ref c, .int m])) (hc : H c = some (.lst (xs.map V.int)))
    (q : ∀ (H2 : Hp), Same H H2 → Q (!decide (xs = [])) H2) :
    tTest (tOp (rNeD K) (tOp (rIxL K) (tVar 0) (tC (.int 0))) (tLst tNil)) [some (.ref d), some b, x2] H Q := by
  refine ⟨_, rfl, d, _, 0, _, rfl, rfl, SqL.of hd, rfl, Nat.zero_le _, fun l hl => ?_⟩
  have s1 := Same.new (o := .lst []) hl
  exact neOf (α := List Int) (x := xs) (y := []) (dpInts (SqL.of (s1 _ _ hc))) (dpInts (SqL.of upd_same)) (lay_ints _) (lay_ints _) (by decide) ⟨_, rfl, q _ s1⟩
theorem ok_any {f C : Addr} {fd : FuncData} (F : Fun K "_law_any" "_law_any" sAny f fd) (T : TxtL K mg C) : FnOk P w K mg base CX0 1 f fd ["_law_deal_here", "_law_bound"] spAny := by
  refine F.ok scAny (fun vs H Q E h => ?_) (fun cdv A outer s H vs Q E hr h => ?_)
  · obtain ⟨d, c, b, rfl, _⟩ := h
    rfl
  · obtain ⟨d, c, b, rfl, D0, b0, b1, k⟩ := h
    have hu := hr.units
    refine ⟨_, pss_cons (ps_while PassesOwn.never (pw_and (pt_cmpR (neD (K := K) hu) (pe_ix (ixL (K := K)) (pv 0) pe_int (fun _ _ => rfl)) (pe_lst pa_nil) (nomark _))
          (pw_and1 (pt_cmpR op_eq (pe_ix (ixL (K := K)) (pe_ix (ixL (K := K)) (pv 0) pe_int (fun _ _ => rfl)) (pe_un un_neg pe_int) (fun _ _ => rfl)) pe_int (nomark _)))).pt
        (pss_one (ps_expr (pe_bm0 PySem.F.plainAttrs_list PySem.F.slot_list_pop PySem.F.type_list_pop mt_pop (pe_ix (ixL (K := K)) (pv 0) pe_int (fun _ _ => rfl))))))
      (pss_cons (ps_if (pt_cmpR (neD (K := K) hu) (pe_ix (ixL (K := K)) (pv 0) pe_int (fun _ _ => rfl)) (pe_lst pa_nil) (nomark _))
          (pss_cons (ps_set (i := 2) scAny.nd rfl (Or.inl rfl) (pe_callTy (T := "int") call_int1 (by rfl) T.t.int (by decide +kernel) (pa_cons (pe_bm0 PySem.F.plainAttrs_list PySem.F.slot_list_pop PySem.F.type_list_pop mt_pop (pe_ix (ixL (K := K)) (pv 0) pe_int (fun _ _ => rfl))) pa_nil)))
          (pss_cons (ps_expr (pe_bm PySem.F.plainAttrs_list PySem.F.slot_list_append PySem.F.type_list_append mt_append (pe_ix (ixL (K := K)) (pv 0) pe_int (fun _ _ => rfl)) (pa_cons (pe_op op_fdiv (pv 2) (pv 1)) pa_nil)))
          (pss_one (ps_ret (pe_op op_mod (pv 2) (pv 1)))))) pss_nil)
      (pss_cons (ps_asg (pe_op op_mod (pe_callTy (T := "int") call_int1 (by rfl) T.t.int (by decide +kernel) (pa_cons (pe_op op_add (pe_op op_mul (pe_ix (ixL (K := K)) (pv 0) pe_int (fun _ _ => rfl)) pe_int) pe_int) pa_nil)) pe_int) (pg_sub (pv 0) pe_int set_list (fun _ => rfl)))
      (pss_one (ps_ret (pe_op op_mod (pe_callTy (T := "int") call_int1 (by rfl) T.t.int (by decide +kernel) (pa_cons (pe_op op_fdiv (pe_ix (ixL (K := K)) (pv 0) pe_int (fun _ _ => rfl)) pe_int) pa_nil)) (pv 1)))))), ?_⟩
    have modb : ∀ z : Int, 0 ≤ z % b ∧ z % b < b := fun z => ⟨Int.emod_nonneg _ (by omega), Int.emod_lt_of_pos _ b0⟩
    obtain ⟨ndc, m0, xs0, hd0, hc0, hl0⟩ := D0
    refine ⟨fun n σ H' => ∃ x2 m xs, σ = [some (.ref d), some (.int b), x2] ∧ But d c H H' ∧ H' d = some (.lst [.ref c, .int m]) ∧ H' c = some (.lst (xs.map V.int)) ∧ xs.length ≤ 64 ∧ n = xs.length, ⟨_, none, m0, xs0, rfl, But.refl _, hd0, hc0, hl0, rfl⟩, ?_⟩
    rintro n σ H1 ⟨x2, m, xs, rfl, B1, hd, hc, hl, rfl⟩
    refine anyTest hd hc fun bb H2 s2 eb => ?_
    have B2 := B1.trans (But.of s2)
    have hd2 := s2 _ _ hd
    have hc2 := s2 _ _ hc
    cases bb with
    | true =>
      obtain ⟨ys, rfl⟩ := eb.mp rfl
      refine iteT ⟨_, fun σ' H' h => h, ?_⟩
      refine ⟨_, rfl, d, _, 0, _, rfl, rfl, SqL.of hd2, rfl, .inl ⟨rfl, _, SqL.of hc2⟩, c, _, .int 0, rfl, rfl, hc2, ?_, ?_⟩
      · rw [List.map_append, List.length_append]; simp
      · refine ⟨ys.length, by rw [List.length_append]; simp, x2, m, ys, rfl, B2.trans But.c, by rw [upd_ne ndc]; exact hd2, by rw [upd_same, List.map_append]; simp, by rw [List.length_append] at hl; omega, rfl⟩
    | false =>
      refine iteF ?_
      clear eb
      refine leftTest hd2 hc2 fun H3 s3 => ?_
      have B3 := B2.trans (But.of s3)
      have hd3 := s3 _ _ hd2
      have hc3 := s3 _ _ hc2
      rcases List.eq_nil_or_concat xs with rfl | ⟨ys, z, rfl⟩
      · refine iteF ?_
        refine ⟨_, rfl, d, _, 1, _, rfl, rfl, SqL.of hd3, rfl, _, _, rfl, rfl, .inr ⟨by decide, by decide⟩, _, _, rfl, rfl, .inl ⟨_, rfl, _, _, rfl, rfl, (by show (0 : Int) < 2147483647; decide), _, rfl, d, _, 1, 1, rfl, rfl, hd3, rfl, ?_⟩⟩
        refine ⟨_, rfl, d, _, 1, _, rfl, rfl, SqL.of upd_same, rfl, _, _, rfl, rfl, ⟨by decide, by decide⟩, .inl ⟨_, rfl, _, rfl, _, _, rfl, rfl, b0, k _ _ (B3.trans But.d) ⟨ndc, _, [], upd_same, by rw [upd_ne ndc.symm]; exact hc3, Nat.zero_le _⟩ (modb _).1 (modb _).2⟩⟩
      · rw [List.concat_eq_append] at hc3 hl ⊢
        rw [decide_eq_false (by intro z; have := congrArg List.length z; rw [List.length_append] at this; simp at this)]
        refine iteT ?_
        refine ⟨_, rfl, d, _, 0, _, rfl, rfl, SqL.of hd3, rfl, .inl ⟨rfl, _, SqL.of hc3⟩, c, _, .int z, rfl, rfl, hc3, by rw [List.map_append, List.length_append]; simp, .inl ⟨_, rfl, ?_⟩⟩
        have e1 : ((ys ++ [z]).map V.int).dropLast = ys.map V.int := by rw [List.map_append]; simp
        have hd4 : upd H3 c (.lst ((ys ++ [z]).map V.int).dropLast) d = some (.lst [.ref c, .int m]) := by rw [upd_ne ndc]; exact hd3
        have hc4 : upd H3 c (.lst ((ys ++ [z]).map V.int).dropLast) c = some (.lst (ys.map V.int)) := by rw [upd_same, e1]
        have B4 : But d c H (upd H3 c (.lst ((ys ++ [z]).map V.int).dropLast)) := B3.trans But.c
        generalize upd H3 c (.lst ((ys ++ [z]).map V.int).dropLast) = H4 at hd4 hc4 B4
        rw [List.length_append] at hl
        have hl : ys.length + 1 ≤ 64 := hl
        refine ⟨_, rfl, d, _, 0, _, rfl, rfl, SqL.of hd4, rfl, .inl ⟨rfl, _, SqL.of hc4⟩, _, rfl, _, rfl, _, _, rfl, rfl, ⟨b0, b1⟩, c, _, .int (z / b), rfl, rfl, hc4, ?_, ?_⟩
        · rw [List.length_map]; exact Nat.lt_of_lt_of_le (by omega : ys.length < 64) (by decide)
        · refine ⟨_, rfl, _, rfl, _, _, rfl, rfl, b0, k _ _ (B4.trans But.c) ⟨ndc, m, ys ++ [z / b], by rw [upd_ne ndc]; exact hd4, by rw [upd_same, List.map_append]; rfl, by rw [List.length_append]; exact hl⟩ (modb _).1 (modb _).2⟩
end
end Sv
end

section
set_option Elab.async false
set_option linter.all false
set_option maxRecDepth 100000
set_option maxHeartbeats 4000000
namespace Sv
open PySem L2 LamX
open PySem.W (Datum DatumOrd Tup)
def spDeal (K : PySem.W.Frag) : Sp := fun vs H Q _ => ∃ (a : Addr) (z : Int) (ns : List Int), vs = [.ref a, .int z] ∧ SqL K H a (ns.map V.int) ∧ ∀ (H' : Hp) (d c : Addr), Same H H' → DealAt d c H' → Q (.ref d) H'
def spOf : Sp := fun vs H Q _ => ∃ (d c l : Addr) (xs : List V), vs = [.ref d, .ref l] ∧ DealAt d c H ∧ l ≠ d ∧ l ≠ c ∧ H l = some (.lst xs) ∧ 0 < xs.length ∧ xs.length ≤ 1000 ∧ ∀ (H' : Hp) (x : V), But d c H H' → DealAt d c H' → x ∈ xs → Q x H'
/-- any item of a list of ints is one -/
theorem each_ints {P : Int → Prop} : ∀ {ys : List V} {is : List Nat}, PySem.W.EachIs (fun (y : V) (_ : Nat) => ∃ i, y = V.int i ∧ P i) ys is → ∃ zs : List Int, ys = zs.map V.int ∧ (∀ z ∈ zs, P z) ∧ zs.length = is.length
  | _, _, .nil => ⟨[], rfl, by simp, rfl⟩
  | _, _, .cons ⟨i, e, h⟩ t => by
    obtain ⟨zs, e2, h2, h3⟩ := each_ints (P := P) t
    refine ⟨i :: zs, by rw [e, e2]; rfl, fun z hz => ?_, by rw [List.length_cons, List.length_cons, h3]⟩
    rcases List.mem_cons.mp hz with rfl | hz
    · exact h
    · exact h2 z hz
section
variable {P : Program} {w : World} {K : PySem.W.Frag} {mg : Str → Option Value} {base : Heap}
theorem scOf : FnScope ["_law_deal_here", "_law_some_here"] ["_law_deal_here", "_law_some_here"] (defScope sOf) := ⟨rfl, rfl, rfl, by decide +kernel, rfl, by decide +kernel, by decide +kernel⟩
theorem ok_of {f C fa : Addr} {fd fda : FuncData} (F : Fun K "_law_of" "_law_of" sOf f fd) (T : TxtL K mg C) (ga : FnOk P w K mg base CX0 1 fa fda ["_law_deal_here", "_law_bound"] spAny) (ca : Cal K mg "_law_any" fa fda ["_law_deal_here", "_law_bound"]) :
    FnOk P w K mg base CX0 2 f fd ["_law_deal_here", "_law_some_here"] spOf := by
  refine F.ok scOf (fun vs H Q E h => ?_) (fun cdv A outer s H vs Q E hr h => ?_)
  · obtain ⟨d, c, l, xs, rfl, _⟩ := h
    rfl
  · obtain ⟨d, c, l, xs, rfl, D, nd, nc, hl, l0, l1, k⟩ := h
    refine ⟨_, pss_one (ps_ret (pe_ix (ixL (K := K)) (pv 1) (pe_call ga hr rfl ca.g ca.k ca.b .nil pass0 (pa_cons (pv 0) (pa_cons (pe_callB (callLen (K := K)) (by rfl) T.t.len PySem.boot_len (pa_cons (pv 1) pa_nil)) pa_nil))) (fun _ _ => rfl))), ?_⟩
    refine ⟨_, rfl, _, rfl, _, rfl, l, xs, rfl, .inl (SqL.of hl), d, c, xs.length, rfl, D, by omega, by omega, fun H' r B D' r0 r1 => ?_⟩
    obtain ⟨j, rfl⟩ : ∃ j : Nat, r = (j : Int) := ⟨r.toNat, by omega⟩
    have hj : j < xs.length := by omega
    exact ⟨l, xs, _, xs[j], rfl, rfl, SqL.of (B _ _ nd nc hl), atI_nat (List.getElem?_eq_getElem hj), k _ _ B D' (List.getElem_mem hj)⟩
theorem scDeal : FnScope ["_law_script", "_law_base", "_law_cells_here", "_law_mix", "_law_cell"] ["_law_script", "_law_base"] (defScope sDeal) := ⟨rfl, rfl, rfl, by decide +kernel, rfl, by decide +kernel, by decide +kernel⟩
abbrev nDeal : List Str := ["_law_script", "_law_base", "_law_cells_here", "_law_mix", "_law_cell"]
theorem ok_deal {f C : Addr} {fd : FuncData} (F : Fun K "_law_deal" "_law_deal" sDeal f fd) (T : TxtL K mg C) : FnOk P w K mg base CX0 1 f fd ["_law_script", "_law_base"] (spDeal K) := by
  refine F.ok scDeal (fun vs H Q E h => ?_) (fun cdv A outer s H vs Q E hr h => ?_)
  · obtain ⟨a, z, ns, rfl, _⟩ := h
    rfl
  · obtain ⟨a, z, ns, rfl, ha, k⟩ := h
    refine ⟨_, pss_cons (ps_setLc (i := 2) (own := [("_law_cell", 4)]) (g := gName 4) (tt := tYes) (by rfl) scDeal.nd rfl rfl (sw_true rfl rfl rfl (by decide +kernel))
        (piL (K := K) (pe_slice sl_list (pv 0) po_none (po_some pe_int))) (blkOk_by (N := nDeal) (sc := defScope sDeal) (by decide +kernel)) (fun _ _ _ _ _ => pg_name (i := 4) scDeal.nd rfl (Or.inl rfl)) (fun _ _ _ _ _ => pts_nil)
        (fun _ _ _ _ _ => pe_callB call_abs (by rfl) T.abs (by decide +kernel) (pa_cons (pe_callTy (T := "int") call_int1 (by rfl) T.t.int (by decide +kernel) (pa_cons (pv 4) pa_nil)) pa_nil)))
      (pss_cons (ps_set (i := 3) scDeal.nd rfl (Or.inl rfl) (pe_op op_add (pe_op op_mul pe_int (pv 1)) pe_int))
      (pss_cons (ps_for PassesOwn.never rfl (piL (K := K) (pv 2)) (pg_name (i := 4) scDeal.nd rfl (Or.inl rfl))
        (pss_one (ps_set (i := 3) scDeal.nd rfl (Or.inl rfl) (pe_op op_mod (pe_callTy (T := "int") call_int1 (by rfl) T.t.int (by decide +kernel) (pa_cons (pe_op op_add (pe_op op_add (pe_op op_mul (pv 3) pe_int) (pe_op op_mod (pv 4) pe_int)) pe_int) pa_nil)) pe_int))))
      (pss_one (ps_ret (pe_lst (pa_cons (peBackL (K := K) (pe_lc (own := [("_law_cell", 4)]) (g := gName 4) (by rfl) scDeal.nd (piL (K := K) (pv 2)) (blkOk_by (N := nDeal) (sc := defScope sDeal) (by decide +kernel)) (fun _ _ _ _ _ => pg_name (i := 4) scDeal.nd rfl (Or.inl rfl))
          (fun _ _ _ _ _ => pts_one (pt_cmpR op_ge (pv 4) (pe_op op_pow pe_int pe_int) (nomark _))) (fun _ _ _ _ _ => pv 4))) (pa_cons (pv 3) pa_nil))))))), ?_⟩
    refine ⟨_, rfl, 63, rfl, a, _, rfl, ha, fun p hp => ?_⟩
    have s1 := Same.new (o := .lst (cutV (ns.map V.int) none (some 63))) hp
    obtain ⟨ns1, e1, l1⟩ : ∃ ns1 : List Int, cutV (ns.map V.int) none (some 63) = ns1.map V.int ∧ ns1.length ≤ 63 := by
      refine ⟨(ns.drop (HT.sIx (ns.map V.int).length 0 none)).take (HT.sIx (ns.map V.int).length (ns.map V.int).length (some 63) - HT.sIx (ns.map V.int).length 0 none), ?_, ?_⟩
      · unfold cutV
        rw [List.map_take, List.map_drop]
      · rw [List.length_take]
        have : HT.sIx (ns.map V.int).length (ns.map V.int).length (some ((63 : Nat) : Int)) = min 63 _ := HT.sIx_nat _ _ _
        have e : HT.sIx (ns.map V.int).length (ns.map V.int).length (some 63) ≤ 63 := by
          refine Nat.le_trans (Nat.le_of_eq this) (Nat.min_le_left _ _)
        omega
    rw [e1] at s1 ⊢
    have u1 : upd H p (.lst (ns1.map V.int)) p = some (.lst (ns1.map V.int)) := upd_same
    generalize upd H p (.lst (ns1.map V.int)) = H1 at s1 u1
    refine ⟨p, rfl, ⟨_, SqL.of u1⟩, fun D hD => ?_⟩
    refine map_list yes (fun j y H => ∃ i, y = V.int i ∧ True) hD (SqL.of u1) (szl (by rw [List.length_map]; omega)) (fun j y H H' e h => h) (fun i x H2 hi p2 => ?_) (fun ys H2 hs2 hd2 hy => ?_)
    · obtain ⟨n, _, rfl⟩ := map_at hi
      intro k2 k2' kk kk'
      exact ⟨rfl, ⟨_, rfl, .inl ⟨_, rfl, _, rfl, kk rfl _ _ (fun _ _ e => e) ⟨_, rfl, trivial⟩⟩⟩⟩
    rw [filter_yes] at hy
    obtain ⟨zs, rfl, _, lz⟩ := each_ints hy
    rw [List.length_range, List.length_map] at lz
    have s2 := Same.trans s1 hs2
    refine ⟨_, rfl, _, _, rfl, rfl, .inl ⟨by decide, by decide⟩, _, _, rfl, rfl, ?_⟩
    refine ⟨_, rfl, D, rfl, ⟨_, SqL.of hd2⟩, for_list (K := K) (a := D) (xs := zs.map V.int) (fun i σ H' => (∃ m x4, σ = [some (.ref a), some (.int z), some (.ref D), some (.int m), x4]) ∧ Same H2 H') ⟨⟨_, _, rfl⟩, fun _ _ e => e⟩ (fun i σ H' _ p => SqL.of (p.2 _ _ hd2)) (fun i x σ H3 hi p => ?_) (fun σ H3 p => ?_)⟩
    · obtain ⟨n, hn, rfl⟩ := map_at hi
      obtain ⟨⟨m, x4, rfl⟩, s3⟩ := p
      exact ⟨_, rfl, _, _, rfl, rfl, .inr ⟨by decide, by decide⟩, _, rfl, _, _, rfl, rfl, (by show (0 : Int) < 2147483579; decide), _, _, rfl, rfl, _, _, rfl, rfl, .inl ⟨_, rfl, _, _, rfl, rfl, (by show (0 : Int) < 2147483647; decide), ⟨_, _, rfl⟩, s3⟩⟩
    · obtain ⟨⟨m, x4, rfl⟩, s3⟩ := p
      refine ⟨_, rfl, D, rfl, ⟨_, SqL.of (s3 _ _ hd2)⟩, fun D2 hD2 => ?_⟩
      refine map_list (fun i => decide ((10 : Int) ^ 18 ≤ zs.getD i 0)) (fun j y H => ∃ i, y = V.int i ∧ True) hD2 (SqL.of (s3 _ _ hd2)) (szl (by rw [List.length_map]; omega)) (fun j y H H' e h => h) (fun i x H4 hi p4 => ?_) (fun ys H4 hs4 hd4 hy4 => ?_)
      · obtain ⟨n, hn, rfl⟩ := map_at hi
        intro k4 k4' kk kk'
        refine ⟨rfl, ⟨_, rfl, _, _, rfl, rfl, ⟨by decide, by decide, by decide⟩, _, _, rfl, rfl, _, rfl, ?_⟩⟩
        have en : zs.getD i 0 = n := by rw [List.getD_eq_getElem?_getD, hn]; rfl
        have cF : (fun i => decide ((10 : Int) ^ 18 ≤ zs.getD i 0)) i = decide ((10 : Int) ^ 18 ≤ n) := by
          show decide _ = _
          rw [en]
        refine ite2 (fun e => ⟨_, rfl, kk (cF.trans e) _ _ (fun _ _ e => e) ⟨_, rfl, trivial⟩⟩) (fun e => kk' (cF.trans ?_) _ (fun _ _ e => e))
        cases h : decide ((10 : Int) ^ 18 ≤ n) with
        | true => exact absurd h e
        | false => rfl
      · have lq : ys.length ≤ zs.length := by
          rw [hy4.length]
          refine Nat.le_trans (List.length_filter_le _ _) ?_
          rw [List.length_range, List.length_map]; exact Nat.le_refl _
        obtain ⟨qs, rfl, _, _⟩ := each_ints hy4
        rw [List.length_map] at lq
        refine ⟨D2, _, rfl, SqL.of hd4, fun q hq => ?_⟩
        have s5 := Same.new (o := .lst (qs.map V.int).reverse) hq
        have u5 : upd H4 q (.lst (qs.map V.int).reverse) q = some (.lst (qs.map V.int).reverse) := upd_same
        generalize upd H4 q (.lst (qs.map V.int).reverse) = H5 at s5 u5
        refine ⟨_, rfl, szl (by show 2 ≤ 4000; decide), fun e he => ?_⟩
        have s6 := Same.new (o := .lst [.ref q, .int m]) he
        refine k _ e q (Same.trans (Same.trans (Same.trans (Same.trans s2 s3) hs4) s5) s6) ⟨(ne_of_none u5 he).symm, m, qs.reverse, upd_same, by rw [List.map_reverse]; exact s6 _ _ u5, by rw [List.length_reverse]; omega⟩
end
end Sv
end

section
set_option Elab.async false
set_option linter.all false
set_option maxRecDepth 100000
set_option maxHeartbeats 4000000
namespace Sv
open PySem L2 LamX
open PySem.W (Datum DatumOrd Tup)
abbrev ltS (a b : Str) : Prop := a.cps.toList < b.cps.toList
def nameOf (mark : Str) (i : Nat) (s : Str) : Str := (mark ++ (⟨#[97 + i]⟩ : Str)) ++ s
theorem cps_app (a b : Str) : (a ++ b).cps.toList = a.cps.toList ++ b.cps.toList := by
  show (a.cps ++ b.cps).toList = _
  exact Array.toList_append
theorem nameLt {mark s t : Str} {i j : Nat} (h : i < j) : ltS (nameOf mark i s) (nameOf mark j t) := by
  unfold ltS nameOf
  rw [cps_app, cps_app, cps_app, cps_app]
  show mark.cps.toList ++ [97 + i] ++ s.cps.toList < mark.cps.toList ++ [97 + j] ++ t.cps.toList
  generalize mark.cps.toList = m
  induction m with
  | nil => exact List.cons_lt_cons_iff.mpr (.inl (by omega))
  | cons x m ih => exact List.cons_lt_cons_iff.mpr (.inr ⟨rfl, ih⟩)
theorem strOk_app {a b : Str} (h1 : PyData.strOk a = true) (h2 : PyData.strOk b = true) : PyData.strOk (a ++ b) = true := by
  unfold PyData.strOk at *
  show (a.cps ++ b.cps).all _ = true
  rw [Array.all_append, h1, h2]; rfl
abbrev marks : List Str := ["", "p", "h"]
abbrev sufs : List Str := ["", "z", "mm"]
abbrev letters : Str := "abcdefghijklmnop"
theorem letter_at : ∀ i, i < 16 → letters.cps.toList[i]? = some (97 + i) := by decide +kernel
theorem marks_ok : ∀ x ∈ marks, PyData.strOk x = true ∧ x.length ≤ 2 := by decide +kernel
theorem sufs_ok : ∀ x ∈ sufs, PyData.strOk x = true ∧ x.length ≤ 2 := by decide +kernel
theorem name_ok {mark s : Str} {i : Nat} (hm : mark ∈ marks) (hi : i < 16) (hs : s ∈ sufs) : PyData.strOk (nameOf mark i s) = true := by
  refine strOk_app (strOk_app (marks_ok _ hm).1 ?_) (sufs_ok _ hs).1
  have : ∀ i, i < 16 → PyData.strOk (⟨#[97 + i]⟩ : Str) = true := by decide +kernel
  exact this i hi
def spNames : Sp := fun vs H Q _ => ∃ (d c : Addr) (n : Nat) (mark : Str), vs = [.ref d, .int n, .str mark] ∧ DealAt d c H ∧ n ≤ 16 ∧ mark ∈ marks ∧
  ∀ (H' : Hp) (p : Addr) (names : List Str), But d c H H' → DealAt d c H' → TupS H' p names → names.length = n → names.Pairwise ltS → (∀ x ∈ names, PyData.strOk x = true) → Q (.ref p) H'
theorem named {mark : Str} {names : List Str} (hm : mark ∈ marks) (hl : names.length ≤ 16) (h : ∀ j x, names[j]? = some x → ∃ s ∈ sufs, x = nameOf mark j s) : names.Pairwise ltS ∧ ∀ x ∈ names, PyData.strOk x = true := by
  refine ⟨List.pairwise_iff_getElem.mpr fun i j hi hj ij => ?_, fun x hx => ?_⟩
  · obtain ⟨s, _, e1⟩ := h i _ (List.getElem?_eq_getElem hi)
    obtain ⟨t, _, e2⟩ := h j _ (List.getElem?_eq_getElem hj)
    rw [e1, e2]; exact nameLt ij
  · obtain ⟨i, hi⟩ := List.getElem?_of_mem hx
    obtain ⟨s, hs, rfl⟩ := h i x hi
    exact name_ok hm (by have := (List.getElem?_eq_some_iff.mp hi).1; omega) hs
section
variable {P : Program} {w : World} {K : PySem.W.Frag} {mg : Str → Option Value} {base : Heap}
theorem scNames : FnScope ["_law_deal_here", "_law_many", "_law_mark", "_law_found", "_law_at"] ["_law_deal_here", "_law_many", "_law_mark"] (defScope sNames) := ⟨rfl, rfl, rfl, by decide +kernel, rfl, by decide +kernel, by decide +kernel⟩
theorem ok_names {f C fo : Addr} {fd fdo : FuncData} (F : Fun K "_law_names" "_law_names" sNames f fd) (T : TxtL K mg C) (go : FnOk P w K mg base CX0 2 fo fdo ["_law_deal_here", "_law_some_here"] spOf) (co : Cal K mg "_law_of" fo fdo ["_law_deal_here", "_law_some_here"]) :
    FnOk P w K mg base CX0 3 f fd ["_law_deal_here", "_law_many", "_law_mark"] spNames := by
  refine F.ok scNames (fun vs H Q E h => ?_) (fun cdv A outer s H vs Q E hr h => ?_)
  · obtain ⟨d, c, n, mark, rfl, _⟩ := h
    rfl
  · obtain ⟨d, c, n, mark, rfl, D, hn, hm, k⟩ := h
    refine ⟨_, pss_cons (ps_set (i := 3) scNames.nd rfl (Or.inl rfl) (pe_lst pa_nil))
      (pss_cons (ps_for PassesOwn.never rfl (pi_range1 (by rfl) T.t.range (pa_cons (pv 1) pa_nil)) (pg_name (i := 4) scNames.nd rfl (Or.inl rfl))
        (pss_one (ps_expr (pe_bm PySem.F.plainAttrs_list PySem.F.slot_list_append PySem.F.type_list_append mt_append (pv 3) (pa_cons
          (pe_op op_add_str (pe_op op_add_str (pv 2) (pe_ix ix_str pe_str (pv 4) (fun _ _ => rfl))) (pe_call go hr rfl co.g co.k co.b .nil pass0 (pa_cons (pv 0) (pa_cons (pe_lst (pa_cons pe_str (pa_cons pe_str (pa_cons pe_str pa_nil)))) pa_nil)))) pa_nil)))))
      (pss_one (ps_ret (pe_callTy (T := "tuple") (callTup (K := K)) (by rfl) T.t.tuple (by decide +kernel) (pa_cons (pv 3) pa_nil))))), ?_⟩
    refine ⟨Nat.zero_le _, fun l hl => ⟨_, rfl, n, rfl, by omega, by omega, ?_⟩⟩
    refine for_range (lo := 0) (n := ((n : Nat) : Int).toNat) (fun i σ H' => ∃ x4 names, σ = [some (.ref d), some (.int n), some (.str mark), some (.ref l), x4] ∧ But d c H H' ∧ DealAt d c H' ∧ H' l = some (.lst (names.map V.str)) ∧ names.length = i ∧ ∀ j x, names[j]? = some x → ∃ s ∈ sufs, x = nameOf mark j s)
      ⟨_, [], rfl, But.new hl, D.new hl, upd_same, rfl, fun j x z => by cases z⟩ (fun i σ H1 hi p => ?_) (fun σ H1 p => ?_)
    · obtain ⟨x4, names, rfl, B1, D1, h1, hlen, hnm⟩ := p
      have hi : i < 16 := by omega
      have ei : (0 : Int) + (i : Nat) = (i : Int) := by omega
      show gName 4 (.int ((0 : Int) + (i : Nat))) _ _ _
      rw [ei]
      have nld := D.nd hl
      have nlc := D.nc hl
      have hml := (marks_ok _ hm).2
      refine ⟨_, rfl, .inl ⟨rfl, _, SqL.of h1⟩, _, rfl, _, rfl, letters, i, 97 + i, rfl, rfl, (by show 16 ≤ sizeLine; decide), atI_nat (letter_at i hi), mark, ⟨#[97 + i]⟩, rfl, rfl, ?_, _, rfl, szl (by show 3 ≤ 4000; decide), fun q hq => ?_⟩
      · refine Nat.le_trans (Nat.add_le_add_right hml _) ?_
        show 2 + 1 ≤ sizeLine
        decide
      refine ⟨d, c, q, [.str "", .str "z", .str "mm"], rfl, D1.new hq, D1.nd hq, D1.nc hq, upd_same, by decide, by decide, fun H2 x B2 D2 hx => ?_⟩
      obtain ⟨s, hs, rfl⟩ : ∃ s ∈ sufs, x = V.str s := by
        rcases List.mem_cons.mp hx with rfl | hx
        · exact ⟨_, by decide, rfl⟩
        rcases List.mem_cons.mp hx with rfl | hx
        · exact ⟨_, by decide, rfl⟩
        rcases List.mem_cons.mp hx with rfl | hx
        · exact ⟨_, by decide, rfl⟩
        · cases hx
      have h2 := B2 _ _ nld nlc (Same.new hq _ _ h1)
      have B12 : But d c H H2 := (B1.more hq).trans B2
      refine ⟨_, s, rfl, rfl, ?_, l, _, _, rfl, rfl, h2, ?_, ?_⟩
      · have e : (mark ++ (⟨#[97 + i]⟩ : Str)).length = mark.length + 1 := by
          show (mark.cps ++ #[97 + i]).size = _
          rw [Array.size_append]; rfl
        rw [e]
        have := (sufs_ok _ hs).2
        refine Nat.le_trans (by omega : _ ≤ 5) (by decide)
      · rw [List.length_map]; exact Nat.lt_of_lt_of_le (by omega : names.length < 16) (by decide)
      · refine ⟨_, names ++ [nameOf mark i s], rfl, B12.put hl, D2.put nld nlc, by rw [upd_same, List.map_append]; rfl, by rw [List.length_append, hlen]; rfl, fun j x hj => ?_⟩
        rcases Nat.lt_or_ge j names.length with z | z
        · rw [List.getElem?_append_left z] at hj
          exact hnm j x hj
        · rw [List.getElem?_append_right z] at hj
          have hj0 : j = names.length := by
            have := (List.getElem?_eq_some_iff.mp hj).1
            simp at this; omega
          subst hj0
          rw [Nat.sub_self] at hj
          obtain rfl := Option.some.inj hj
          exact ⟨s, hs, by rw [hlen]⟩
    · obtain ⟨x4, names, rfl, B1, D1, h1, hlen, hnm⟩ := p
      have hlen : names.length = n := by omega
      obtain ⟨w1, w2⟩ := named hm (by omega) hnm
      exact ⟨_, rfl, l, _, rfl, .inl ⟨SqL.of h1, fun p hp => k _ p names (B1.more hp) (D1.new hp) upd_same hlen w1 w2⟩⟩
end
end Sv
end

section
set_option Elab.async false
set_option linter.all false
set_option maxRecDepth 100000
set_option maxHeartbeats 4000000
namespace Sv
open PySem L2 LamX
open PySem.W (Datum DatumOrd Tup)
theorem ixN_at {n j : Nat} (h : j < n) : ixN n (j : Int) = some j := by
  unfold ixN
  rw [if_pos (by omega), if_pos (by omega)]
  simp
/-- a row of a grid -/
abbrev Bits (n : Nat) (xs : List Int) : Prop := xs.length = n ∧ ∀ x ∈ xs, x = 0 ∨ x = 1
theorem Bits.set {n j : Nat} {xs : List Int} (h : Bits n xs) : Bits n (xs.set j 1) := by
  refine ⟨by rw [List.length_set]; exact h.1, fun x hx => ?_⟩
  rcases List.mem_or_eq_of_mem_set hx with z | z
  · exact h.2 x z
  · exact .inr z
/-- a grid at a list -/
structure GridL (d c : Addr) (H : Hp) (a : Addr) (rs : List (Addr × List Int)) (n : Nat) : Prop where
  R : RowsL H a rs
  ad : a ≠ d
  ac : a ≠ c
  rd : ∀ r ∈ rs, r.1 ≠ d ∧ r.1 ≠ c
  m0 : 0 < rs.length
  m : rs.length ≤ 6
  n0 : 0 < n
  n6 : n ≤ 6
  w : ∀ r ∈ rs, Bits n r.2
theorem RowsL.but {d c a : Addr} {H H' : Hp} {rs : List (Addr × List Int)} (R : RowsL H a rs) (B : But d c H H') (ad : a ≠ d) (ac : a ≠ c) (rd : ∀ r ∈ rs, r.1 ≠ d ∧ r.1 ≠ c) : RowsL H' a rs :=
  ⟨B _ _ ad ac R.1, fun r hr => B _ _ (rd r hr).1 (rd r hr).2 (R.2 r hr)⟩
theorem RowsL.put {a p : Addr} {H : Hp} {o : HO} {rs : List (Addr × List Int)} (R : RowsL H a rs) (n1 : a ≠ p) (n2 : ∀ r ∈ rs, r.1 ≠ p) : RowsL (upd H p o) a rs :=
  ⟨by rw [upd_ne n1]; exact R.1, fun r hr => by rw [upd_ne (n2 r hr)]; exact R.2 r hr⟩
theorem GridL.but {d c a : Addr} {H H' : Hp} {rs : List (Addr × List Int)} {n : Nat} (G : GridL d c H a rs n) (B : But d c H H') : GridL d c H' a rs n := ⟨G.R.but B G.ad G.ac G.rd, G.ad, G.ac, G.rd, G.m0, G.m, G.n0, G.n6, G.w⟩
theorem But.none {d c p : Addr} {H H' : Hp} (B : But d c H H') (D : DealAt d c H') (n : H' p = Option.none) : H p = Option.none := by
  cases e : H p with
  | none => rfl
  | some o => rw [B _ _ (D.nd n) (D.nc n) e] at n; cases n
theorem RowsL.snoc {a L : Addr} {H : Hp} {rs : List (Addr × List Int)} {ys : List Int} (R : RowsL H a rs) (hL : H L = some (.lst (ys.map V.int))) (nL : L ≠ a) (ra : ∀ r ∈ rs, r.1 ≠ a) :
    RowsL (upd H a (.lst (rs.map (fun r => V.ref r.1) ++ [V.ref L]))) a (rs ++ [(L, ys)]) := by
  refine ⟨by rw [upd_same, List.map_append]; rfl, fun r hr => ?_⟩
  rcases List.mem_append.mp hr with hr | hr
  · rw [upd_ne (ra r hr)]; exact R.2 r hr
  · rw [List.mem_singleton.mp hr]
    show upd _ _ _ L = _
    rw [upd_ne nL]; exact hL
def spGrid : Sp := fun vs H Q _ => ∃ (d c : Addr), vs = [.ref d, .int 6] ∧ DealAt d c H ∧ ∀ (H' : Hp) (a : Addr) (rs : List (Addr × List Int)) (n : Nat), But d c H H' → DealAt d c H' → GridL d c H' a rs n → Q (.ref a) H'
section
variable {P : Program} {w : World} {K : PySem.W.Frag} {mg : Str → Option Value} {base : Heap}
abbrev nGrid : List Str := ["_law_deal_here", "_law_most", "_law_many", "_law_wide", "_law_share", "_law_rows", "_law_at", "_law_row", "_law_house"]
theorem scGrid : FnScope nGrid ["_law_deal_here", "_law_most"] (defScope sGrid) := ⟨rfl, rfl, rfl, by decide +kernel, rfl, by decide +kernel, by decide +kernel⟩
theorem ok_grid {f C fa fo : Addr} {fd fda fdo : FuncData} (F : Fun K "_law_grid" "_law_grid" sGrid f fd) (T : TxtL K mg C) (ga : FnOk P w K mg base CX0 1 fa fda ["_law_deal_here", "_law_bound"] spAny) (ca : Cal K mg "_law_any" fa fda ["_law_deal_here", "_law_bound"])
    (go : FnOk P w K mg base CX0 2 fo fdo ["_law_deal_here", "_law_some_here"] spOf) (co : Cal K mg "_law_of" fo fdo ["_law_deal_here", "_law_some_here"]) : FnOk P w K mg base CX0 3 f fd ["_law_deal_here", "_law_most"] spGrid := by
  refine F.ok scGrid (fun vs H Q E h => ?_) (fun cdv A outer s H vs Q E hr h => ?_)
  · obtain ⟨d, c, rfl, _⟩ := h
    rfl
  · obtain ⟨d, c, rfl, D, k⟩ := h
    have hr1 := hr.mono (by decide : 1 ≤ 2)
    refine ⟨_, pss_cons (ps_par (i := 2) (j := 3) rfl scGrid.nd rfl rfl (by decide) rfl rfl (pa_cons (pe_op op_add pe_int (pe_call ga hr1 rfl ca.g ca.k ca.b .nil pass0 (pa_cons (pv 0) (pa_cons (pv 1) pa_nil)))) (pa_cons (pe_op op_add pe_int (pe_call ga hr1 rfl ca.g ca.k ca.b .nil pass0 (pa_cons (pv 0) (pa_cons (pv 1) pa_nil)))) pa_nil)) rfl)
      (pss_cons (ps_asg (pe_tup (pa_cons (pe_call go hr rfl co.g co.k co.b .nil pass0 (pa_cons (pv 0) (pa_cons (pe_lst (pa_cons pe_int (pa_cons pe_int (pa_cons pe_int (pa_cons pe_int pa_nil))))) pa_nil))) (pa_cons (pe_lst pa_nil) pa_nil)))
          (pg_tup rfl (pgs_cons (pg_name (i := 4) scGrid.nd rfl (Or.inr rfl)) (pgs_cons (pg_name (i := 5) scGrid.nd rfl (Or.inl rfl)) pgs_nil))))
      (pss_cons (ps_for PassesOwn.never rfl (pi_range1 (by rfl) T.t.range (pa_cons (pv 2) pa_nil)) (pg_name (i := 6) scGrid.nd rfl (Or.inl rfl))
        (pss_cons (ps_setLc (i := 7) (own := [("_law_house", 8)]) (g := gName 8) (tt := tYes) (by rfl) scGrid.nd rfl rfl (sw_true rfl rfl rfl (by decide +kernel)) (pi_range1 (by rfl) T.t.range (pa_cons (pv 3) pa_nil)) (blkOk_by (N := nGrid) (sc := defScope sGrid) (by decide +kernel))
            (fun _ _ _ _ _ => pg_name (i := 8) scGrid.nd rfl (Or.inl rfl)) (fun _ _ _ _ _ => pts_nil)
            (fun _ _ _ _ _ => pe_ifExp (pt_cmpR op_eq (pe_call ga hr1 rfl ca.g ca.k ca.b .nil pass0 (pa_cons (pv 0) (pa_cons (pv 4) pa_nil))) pe_int (nomark _)) pe_int pe_int))
        (pss_cons (ps_if (pt_cmpR op_eq (pe_callB (callSum (K := K) rfl) (by rfl) T.sum (by decide +kernel) (pa_cons (pv 7) pa_nil)) pe_int (nomark _))
            (pss_one (ps_asg pe_int (pg_sub (pv 7) (pe_call ga hr1 rfl ca.g ca.k ca.b .nil pass0 (pa_cons (pv 0) (pa_cons (pv 3) pa_nil))) set_list (fun _ => rfl)))) pss_nil)
        (pss_one (ps_expr (pe_bm PySem.F.plainAttrs_list PySem.F.slot_list_append PySem.F.type_list_append mt_append (pv 5) (pa_cons (pv 7) pa_nil)))))))
      (pss_one (ps_ret (pv 5))))), ?_⟩
    refine ⟨_, rfl, _, rfl, d, c, 6, rfl, D, by decide, by decide, fun H1 r1 B1 D1 p1 q1 => ⟨_, _, rfl, rfl, _, rfl, _, rfl, d, c, 6, rfl, D1, by decide, by decide, fun H2 r2 B2 D2 p2 q2 => ⟨_, _, rfl, rfl, _, _, rfl, ?_⟩⟩⟩
    refine ⟨_, rfl, szl (by show 4 ≤ 4000; decide), fun q hq => ⟨d, c, q, [.int 2, .int 2, .int 3, .int 4], rfl, D2.new hq, D2.nd hq, D2.nc hq, upd_same, by decide, by decide, fun H3 x B3 D3 hx => ⟨Nat.zero_le _, fun lr hlr => ⟨szl (by show 2 ≤ 4000; decide), fun pt hpt => ?_⟩⟩⟩⟩
    obtain ⟨sh, s0, s1, rfl⟩ : ∃ sh : Int, 0 < sh ∧ sh < 1073741824 ∧ x = V.int sh := by
      rcases List.mem_cons.mp hx with rfl | hx
      · exact ⟨_, by decide, by decide, rfl⟩
      rcases List.mem_cons.mp hx with rfl | hx
      · exact ⟨_, by decide, by decide, rfl⟩
      rcases List.mem_cons.mp hx with rfl | hx
      · exact ⟨_, by decide, by decide, rfl⟩
      rcases List.mem_cons.mp hx with rfl | hx
      · exact ⟨_, by decide, by decide, rfl⟩
      · cases hx
    refine ⟨pt, _, rfl, SqT.of upd_same, rfl, _, _, rfl, _, _, rfl, rfl, ?_⟩
    have B4 : But d c H (upd (upd H3 lr (.lst [])) pt (.tup [.int sh, .ref lr])) := (((B1.trans B2).more hq).trans B3 |>.more hlr).more hpt
    have D4 : DealAt d c (upd (upd H3 lr (.lst [])) pt (.tup [.int sh, .ref lr])) := (D3.new hlr).new hpt
    have nlr : H lr = none := (((B1.trans B2).more hq).trans B3).none D3 hlr
    have hlr4 : upd (upd H3 lr (.lst [])) pt (.tup [.int sh, .ref lr]) lr = some (.lst []) := by
      rw [upd_ne (ne_of_none upd_same hpt)]; exact upd_same
    have nd := D3.nd hlr
    have nc := D3.nc hlr
    generalize upd (upd H3 lr (.lst [])) pt (.tup [.int sh, .ref lr]) = H4 at B4 D4 hlr4
    refine ⟨_, rfl, 1 + r1, rfl, by omega, by omega, ?_⟩
    refine for_range (lo := 0) (n := (1 + r1).toNat) (fun i σ H' => ∃ rs x6 x7 x8, σ = [some (.ref d), some (.int 6), some (.int (1 + r1)), some (.int (1 + r2)), some (.int sh), some (.ref lr), x6, x7, x8] ∧ But d c H H' ∧ DealAt d c H' ∧ RowsL H' lr rs ∧ rs.length = i ∧ ∀ r ∈ rs, r.1 ≠ d ∧ r.1 ≠ c ∧ r.1 ≠ lr ∧ Bits (1 + r2).toNat r.2)
      ⟨[], _, _, _, rfl, B4, D4, ⟨hlr4, by simp⟩, rfl, by simp⟩ (fun i σ H5 hi p => ?_) (fun σ H5 p => ?_)
    · obtain ⟨rs, x6, x7, x8, rfl, B5, D5, R5, l5, w5⟩ := p
      refine ⟨_, rfl, 1 + r2, rfl, by omega, by omega, fun L hL => ?_⟩
      have nLd := D5.nd hL
      have nLc := D5.nc hL
      have nLr : L ≠ lr := off_ne R5.1 hL
      have rsL : ∀ r ∈ rs, r.1 ≠ L := fun r hr => ne_of_none (R5.2 r hr) hL
      have ra : ∀ r ∈ rs, r.1 ≠ lr := fun r hr => (w5 r hr).2.2.1
      have nL0 : H L = none := B5.none D5 hL
      refine lc_range (lo := 0) (n := (1 + r2).toNat) (fun j H' => But d c H H' ∧ DealAt d c H' ∧ RowsL H' lr rs ∧ ∃ ys, H' L = some (.lst (ys.map V.int)) ∧ Bits j ys) ⟨B5.more hL, D5.new hL, R5.put nLr.symm rsL, [], upd_same, rfl, by simp⟩ (fun j H6 hj p6 => ?_) (fun H6 p6 => ?_)
      · obtain ⟨B6, D6, R6, ys, hL6, w6⟩ := p6
        have fin : ∀ (H7 : Hp) (z : Int), But d c H6 H7 → DealAt d c H7 → (z = 0 ∨ z = 1) → ∃ acc, H7 L = some (.lst acc) ∧ acc.length < sizeLine ∧ (But d c H (upd H7 L (.lst (acc ++ [V.int z]))) ∧ DealAt d c (upd H7 L (.lst (acc ++ [V.int z]))) ∧ RowsL (upd H7 L (.lst (acc ++ [V.int z]))) lr rs ∧ ∃ ys, upd H7 L (.lst (acc ++ [V.int z])) L = some (.lst (ys.map V.int)) ∧ Bits (j + 1) ys) := fun H7 z B7 D7 hz =>
          ⟨ys.map V.int, B7 _ _ nLd nLc hL6, by rw [List.length_map, w6.1]; exact Nat.lt_of_lt_of_le (by omega : j < 4000) (by decide), (B6.trans B7).put nL0, D7.put nLd nLc, (R6.but B7 nd nc fun r hr => ⟨(w5 r hr).1, (w5 r hr).2.1⟩).put nLr.symm rsL,
            ys ++ [z], by rw [upd_same, List.map_append]; rfl, by rw [List.length_append, w6.1]; rfl, fun x hx => (List.mem_append.mp hx).elim (w6.2 x) fun q => by rw [List.mem_singleton.mp q]; exact hz⟩
        exact ⟨rfl, ⟨_, rfl, _, rfl, d, c, sh, rfl, D6, s0, s1, fun H7 r B7 D7 _ _ => ⟨rfl, _, rfl, ite2 (fun _ => fin H7 1 B7 D7 (.inr rfl)) (fun _ => fin H7 0 B7 D7 (.inl rfl))⟩⟩⟩
      · obtain ⟨B6, D6, R6, ys, hL6, w6⟩ := p6
        have fin : ∀ (H7 : Hp) (zs : List Int) (x8 : Option V), But d c H H7 → DealAt d c H7 → RowsL H7 lr rs → H7 L = some (.lst (zs.map V.int)) → Bits (1 + r2).toNat zs →
            ∃ rs' y6 y7 y8, [some (V.ref d), some (.int 6), some (.int (1 + r1)), some (.int (1 + r2)), some (.int sh), some (.ref lr), some (.int ((0 : Int) + (i : Nat))), some (.ref L), x8] = [some (.ref d), some (.int 6), some (.int (1 + r1)), some (.int (1 + r2)), some (.int sh), some (.ref lr), y6, y7, y8] ∧
              But d c H (upd H7 lr (.lst (rs.map (fun r => V.ref r.1) ++ [V.ref L]))) ∧ DealAt d c (upd H7 lr (.lst (rs.map (fun r => V.ref r.1) ++ [V.ref L]))) ∧ RowsL (upd H7 lr (.lst (rs.map (fun r => V.ref r.1) ++ [V.ref L]))) lr rs' ∧ rs'.length = i + 1 ∧ ∀ r ∈ rs', r.1 ≠ d ∧ r.1 ≠ c ∧ r.1 ≠ lr ∧ Bits (1 + r2).toNat r.2 :=
          fun H7 zs x8 B7 D7 R7 hL7 w7 => ⟨rs ++ [(L, zs)], _, _, _, rfl, B7.put nlr, D7.put nd nc, R7.snoc hL7 nLr ra, by rw [List.length_append, l5]; rfl, fun r hr => (List.mem_append.mp hr).elim (w5 r) fun q => by rw [List.mem_singleton.mp q]; exact ⟨nLd, nLc, nLr, w7⟩⟩
        have lz : (rs.map fun r => V.ref r.1).length < sizeLine := by rw [List.length_map, l5]; exact Nat.lt_of_lt_of_le (by omega : i < 4000) (by decide)
        refine ⟨_, rfl, L, ys, rfl, SqL.of hL6, rfl, _, rfl, ite2 (fun _ => ?_) (fun _ => ?_)⟩
        · refine ⟨_, rfl, _, rfl, _, rfl, d, c, 1 + r2, rfl, D6, by omega, by omega, fun H7 r B7 D7 u0 u1 => ?_⟩
          obtain ⟨jj, rfl⟩ : ∃ jj : Nat, r = (jj : Int) := ⟨r.toNat, by omega⟩
          have hL7 := B7 _ _ nLd nLc hL6
          have R7 := R6.but B7 nd nc fun r hr => ⟨(w5 r hr).1, (w5 r hr).2.1⟩
          have e7 : (ys.map V.int).set jj (.int 1) = (ys.set jj 1).map V.int := by rw [List.map_set]
          refine ⟨L, _, jj, jj, rfl, rfl, hL7, ixN_at (by rw [List.length_map, w6.1]; omega), ?_⟩
          rw [e7]
          have R8 : RowsL (upd H7 L (.lst ((ys.set jj 1).map V.int))) lr rs := R7.put nLr.symm rsL
          exact ⟨_, rfl, .inl ⟨rfl, _, SqL.of R8.1⟩, _, rfl, lr, _, _, rfl, rfl, R8.1, lz, fin _ _ _ ((B6.trans B7).put nL0) (D7.put nLd nLc) R8 upd_same w6.set⟩
        · exact ⟨_, rfl, .inl ⟨rfl, _, SqL.of R6.1⟩, _, rfl, lr, _, _, rfl, rfl, R6.1, lz, fin _ _ _ B6 D6 R6 hL6 w6⟩
    · obtain ⟨rs, x6, x7, x8, rfl, B5, D5, R5, l5, w5⟩ := p
      exact ⟨_, rfl, k H5 lr rs (1 + r2).toNat B5 D5 ⟨R5, nd, nc, fun r hr => ⟨(w5 r hr).1, (w5 r hr).2.1⟩, by omega, by omega, by omega, by omega, fun r hr => (w5 r hr).2.2.2⟩⟩
end
end Sv
end

section
set_option Elab.async false
set_option linter.all false
set_option maxRecDepth 100000
set_option maxHeartbeats 4000000
namespace Sv
open PySem L2 LamX
open PySem.W (Datum DatumOrd Tup)
/-- one row changed -/
theorem RowsL.setRow {a : Addr} {H : Hp} {rs : List (Addr × List Int)} {k : Nat} {r : Addr × List Int} {ys : List Int} (R : RowsL H a rs) (h : rs[k]? = some r) (nd : (rs.map (·.1)).Nodup) (ra : ∀ r ∈ rs, r.1 ≠ a) :
    RowsL (upd H r.1 (.lst (ys.map V.int))) a (rs.set k (r.1, ys)) := by
  obtain ⟨hk, rfl⟩ := List.getElem?_eq_some_iff.mp h
  have em : (rs.set k (rs[k].1, ys)).map (fun r => V.ref r.1) = rs.map fun r => V.ref r.1 := by
    rw [List.map_set]
    refine List.ext_getElem? fun j => ?_
    rw [List.getElem?_set]
    split
    · next e => subst e; rw [if_pos (by rw [List.length_map]; exact hk), List.getElem?_map, List.getElem?_eq_getElem hk]; rfl
    · rfl
  refine ⟨by rw [upd_ne (ra _ (List.getElem_mem hk)).symm, em]; exact R.1, fun q hq => ?_⟩
  obtain ⟨j, hj⟩ := List.getElem?_of_mem hq
  rw [List.getElem?_set] at hj
  by_cases e : k = j
  · subst e
    rw [if_pos rfl, if_pos hk] at hj
    rw [← Option.some.inj hj]
    exact upd_same
  · rw [if_neg e] at hj
    obtain ⟨hj2, rfl⟩ := List.getElem?_eq_some_iff.mp hj
    rw [upd_ne]
    · exact R.2 _ (List.getElem_mem hj2)
    · intro z
      have h1 : (rs.map (·.1))[j]? = some rs[j].1 := by rw [List.getElem?_map, List.getElem?_eq_getElem hj2]; rfl
      have h2 : (rs.map (·.1))[k]? = some rs[j].1 := by rw [List.getElem?_map, List.getElem?_eq_getElem hk, z]; rfl
      obtain ⟨g1, e1⟩ := List.getElem?_eq_some_iff.mp h1
      obtain ⟨g2, e2⟩ := List.getElem?_eq_some_iff.mp h2
      exact e ((List.getElem_inj nd).mp (e2.trans e1.symm))
/-- rows of which some may still be written -/
structure Draft (d c lr : Addr) (H H' : Hp) (m n : Nat) (rs : List (Addr × List Int)) : Prop where
  B : But d c H H'
  D : DealAt d c H'
  R : RowsL H' lr rs
  l : rs.length = m
  nd : (rs.map (·.1)).Nodup
  w : ∀ r ∈ rs, r.1 ≠ d ∧ r.1 ≠ c ∧ r.1 ≠ lr ∧ H r.1 = none ∧ Bits n r.2
theorem Draft.but {d c lr : Addr} {H H1 H2 : Hp} {m n : Nat} {rs : List (Addr × List Int)} (X : Draft d c lr H H1 m n rs) (ld : lr ≠ d) (lc : lr ≠ c) (B : But d c H1 H2) (D : DealAt d c H2) : Draft d c lr H H2 m n rs :=
  ⟨X.B.trans B, D, X.R.but B ld lc fun r hr => ⟨(X.w r hr).1, (X.w r hr).2.1⟩, X.l, X.nd, X.w⟩
theorem Draft.set {d c lr : Addr} {H H1 : Hp} {m n k j : Nat} {rs : List (Addr × List Int)} {r : Addr × List Int} (X : Draft d c lr H H1 m n rs) (h : rs[k]? = some r) : ∃ rs', Draft d c lr H (upd H1 r.1 (.lst ((r.2.map V.int).set j (.int 1)))) m n rs' ∧ rs'.map (·.1) = rs.map (·.1) := by
  have hm := List.mem_of_getElem? h
  obtain ⟨w1, w2, w3, w4, w5⟩ := X.w r hm
  have e : (r.2.map V.int).set j (.int 1) = (r.2.set j 1).map V.int := by rw [List.map_set]
  rw [e]
  have em : (rs.set k (r.1, r.2.set j 1)).map (·.1) = rs.map (·.1) := by
    obtain ⟨hk, rfl⟩ := List.getElem?_eq_some_iff.mp h
    rw [List.map_set]
    refine List.ext_getElem? fun i => ?_
    rw [List.getElem?_set]
    split
    · next e => subst e; rw [if_pos (by rw [List.length_map]; exact hk), List.getElem?_map, List.getElem?_eq_getElem hk]; rfl
    · rfl
  refine ⟨rs.set k (r.1, r.2.set j 1), ⟨X.B.put w4, X.D.put w1 w2, X.R.setRow h X.nd fun q hq => (X.w q hq).2.2.1, by rw [List.length_set]; exact X.l, by rw [em]; exact X.nd, fun q hq => ?_⟩, em⟩
  rcases List.mem_or_eq_of_mem_set hq with z | rfl
  · exact X.w q z
  · exact ⟨w1, w2, w3, w4, w5.set⟩
theorem flat_one {α : Type} (n : Nat) (x : α) : (List.replicate n [x]).flatten = List.replicate n x := by
  induction n with
  | zero => rfl
  | succ n ih => rw [List.replicate_succ, List.flatten_cons, ih, List.replicate_succ]; rfl
theorem refs_eq {rs rs' : List (Addr × List Int)} (e : rs'.map (·.1) = rs.map (·.1)) : rs'.map (fun r => V.ref r.1) = rs.map fun r => V.ref r.1 := by
  have := congrArg (List.map V.ref) e
  rw [List.map_map, List.map_map] at this
  exact this
theorem Draft.grid {d c lr : Addr} {H H1 : Hp} {m n : Nat} {rs : List (Addr × List Int)} (X : Draft d c lr H H1 m n rs) (ld : lr ≠ d) (lc : lr ≠ c) (m0 : 0 < m) (m6 : m ≤ 6) (n0 : 0 < n) (n6 : n ≤ 6) : GridL d c H1 lr rs n :=
  ⟨X.R, ld, lc, fun r hr => ⟨(X.w r hr).1, (X.w r hr).2.1⟩, by rw [X.l]; exact m0, by rw [X.l]; exact m6, n0, n6, fun r hr => (X.w r hr).2.2.2.2⟩
section
variable {P : Program} {w : World} {K : PySem.W.Frag} {mg : Str → Option Value} {base : Heap}
abbrev nLine : List Str := ["_law_deal_here", "_law_most", "_law_many", "_law_wide", "_law_rows", "_law_at", "_law_house", "_law_first", "_law_row"]
theorem scLine : FnScope nLine ["_law_deal_here", "_law_most"] (defScope sLine) := ⟨rfl, rfl, rfl, by decide +kernel, rfl, by decide +kernel, by decide +kernel⟩
theorem ok_line {f C fa : Addr} {fd fda : FuncData} (F : Fun K "_law_line" "_law_line" sLine f fd) (T : TxtL K mg C) (ga : FnOk P w K mg base CX0 1 fa fda ["_law_deal_here", "_law_bound"] spAny) (ca : Cal K mg "_law_any" fa fda ["_law_deal_here", "_law_bound"]) :
    FnOk P w K mg base CX0 2 f fd ["_law_deal_here", "_law_most"] spGrid := by
  refine F.ok scLine (fun vs H Q E h => ?_) (fun cdv A outer s H vs Q E hr h => ?_)
  · obtain ⟨d, c, rfl, _⟩ := h
    rfl
  · obtain ⟨d, c, rfl, D, k⟩ := h
    refine ⟨_, pss_cons (ps_asg (pe_tup (pa_cons (pe_op op_add pe_int (pe_call ga hr rfl ca.g ca.k ca.b .nil pass0 (pa_cons (pv 0) (pa_cons (pv 1) pa_nil)))) (pa_cons (pe_op op_add pe_int (pe_call ga hr rfl ca.g ca.k ca.b .nil pass0 (pa_cons (pv 0) (pa_cons (pv 1) pa_nil)))) pa_nil)))
          (pg_tup rfl (pgs_cons (pg_name (i := 2) scLine.nd rfl (Or.inl rfl)) (pgs_cons (pg_name (i := 3) scLine.nd rfl (Or.inr rfl)) pgs_nil))))
      (pss_cons (ps_setLc (i := 4) (own := [("_law_at", 5)]) (g := gName 5) (tt := tYes) (by rfl) scLine.nd rfl rfl (sw_true rfl rfl rfl (by decide +kernel)) (pi_range1 (by rfl) T.t.range (pa_cons (pv 2) pa_nil)) (blkOk_by (N := nLine) (sc := defScope sLine) (by decide +kernel))
            (fun _ _ _ _ _ => pg_name (i := 5) scLine.nd rfl (Or.inl rfl)) (fun _ _ _ _ _ => pts_nil)
            (fun _ _ _ _ _ => pe_op op_rep (pe_lst (pa_cons pe_int pa_nil)) (pv 3)))
      (pss_cons (ps_for PassesOwn.never rfl (pi_range1 (by rfl) T.t.range (pa_cons (pv 3) pa_nil)) (pg_name (i := 6) scLine.nd rfl (Or.inl rfl))
        (pss_cons (ps_set (i := 7) scLine.nd rfl (Or.inl rfl) (pe_call ga hr rfl ca.g ca.k ca.b .nil pass0 (pa_cons (pv 0) (pa_cons (pv 2) pa_nil))))
        (pss_one (ps_for PassesOwn.never rfl (pi_range2 (by rfl) T.t.range (pa_cons (pv 7) (pa_cons (pe_callB (call_min2 rfl) (by rfl) T.min (by decide +kernel) (pa_cons (pv 2) (pa_cons (pe_op op_add (pe_op op_add (pv 7) pe_int) (pe_call ga hr rfl ca.g ca.k ca.b .nil pass0 (pa_cons (pv 0) (pa_cons pe_int pa_nil)))) pa_nil))) pa_nil)))
            (pg_name (i := 5) scLine.nd rfl (Or.inl rfl))
          (pss_one (ps_asg pe_int (pg_sub (pe_ix (ixL (K := K)) (pv 4) (pv 5) (fun _ _ => rfl)) (pv 6) set_list (fun _ => rfl))))))))
      (pss_cons (ps_for PassesOwn.never rfl (pi_list (pv 4)) (pg_name (i := 8) scLine.nd rfl (Or.inl rfl))
        (pss_one (ps_if (pt_cmpR op_eq (pe_callB (callSum (K := K) rfl) (by rfl) T.sum (by decide +kernel) (pa_cons (pv 8) pa_nil)) pe_int (nomark _))
            (pss_one (ps_asg pe_int (pg_sub (pv 8) (pe_call ga hr rfl ca.g ca.k ca.b .nil pass0 (pa_cons (pv 0) (pa_cons (pv 3) pa_nil))) set_list (fun _ => rfl)))) pss_nil)))
      (pss_one (ps_ret (pv 4)))))), ?_⟩
    refine ⟨_, rfl, _, rfl, d, c, 6, rfl, D, by decide, by decide, fun H1 r1 B1 D1 p1 q1 => ⟨_, _, rfl, rfl, _, rfl, _, rfl, d, c, 6, rfl, D1, by decide, by decide, fun H2 r2 B2 D2 p2 q2 => ⟨_, _, rfl, rfl, szl (by show 2 ≤ 4000; decide), fun pt hpt => ⟨pt, _, rfl, SqT.of upd_same, rfl, _, _, rfl, _, _, rfl, rfl, ?_⟩⟩⟩⟩
    have B3 : But d c H (upd H2 pt (.tup [.int (1 + r1), .int (1 + r2)])) := (B1.trans B2).more hpt
    have D3 : DealAt d c (upd H2 pt (.tup [.int (1 + r1), .int (1 + r2)])) := D2.new hpt
    show tSeq _ _ _ _ (upd H2 pt (.tup [.int (1 + r1), .int (1 + r2)]))
    generalize upd H2 pt (.tup [.int (1 + r1), .int (1 + r2)]) = H3 at B3 D3
    refine ⟨_, rfl, 1 + r1, rfl, by omega, by omega, fun lr hlr => ?_⟩
    have ld := D3.nd hlr
    have lc := D3.nc hlr
    have nlr : H lr = none := B3.none D3 hlr
    refine lc_range (lo := 0) (n := (1 + r1).toNat) (fun j H' => ∃ rs, Draft d c lr H H' j (1 + r2).toNat rs) ⟨[], B3.more hlr, D3.new hlr, ⟨upd_same, by simp⟩, rfl, by simp, by simp⟩ (fun j H4 hj p4 => ?_) (fun H4 p4 => ?_)
    · obtain ⟨rs, X⟩ := p4
      refine ⟨rfl, ⟨szl (by show 1 ≤ 4000; decide), fun q hq => ⟨_, rfl, q, 1 + r2, [.int 0], rfl, rfl, upd_same, by omega, by omega, ?_, fun p hp => ?_⟩⟩⟩
      · show 1 * (1 + r2).toNat ≤ sizeLine
        exact szl (by omega)
      have Bq := But.new (d := d) (c := c) (o := .lst [V.int 0]) hq
      have X1 := X.but ld lc Bq (X.D.new hq)
      generalize upd H4 q (.lst [.int 0]) = H5 at X1 hp
      have X2 := X1.but ld lc (But.new (o := .lst (List.replicate (1 + r2).toNat [V.int 0]).flatten) hp) (X1.D.new hp)
      have hp2 : upd H5 p (.lst (List.replicate (1 + r2).toNat [V.int 0]).flatten) p = some (.lst ((List.replicate (1 + r2).toNat (0 : Int)).map V.int)) := by
        rw [upd_same, flat_one, List.map_replicate]
      generalize upd H5 p (.lst (List.replicate (1 + r2).toNat [V.int 0]).flatten) = H6 at X2 hp2
      have npl : p ≠ lr := off_ne X1.R.1 hp
      refine ⟨_, X2.R.1, by rw [List.length_map, X2.l]; exact Nat.lt_of_lt_of_le (by omega : j < 4000) (by decide), rs ++ [(p, List.replicate (1 + r2).toNat 0)], X2.B.put nlr, X2.D.put ld lc, X2.R.snoc hp2 npl fun r hr => (X2.w r hr).2.2.1, by rw [List.length_append, X2.l]; rfl, ?_, fun r hr => ?_⟩
      · rw [List.map_append, List.nodup_append]
        refine ⟨X2.nd, by simp, fun a ha b hb => ?_⟩
        obtain ⟨r, hr, rfl⟩ := List.mem_map.mp ha
        rw [List.mem_singleton.mp hb]
        exact ne_of_none (X1.R.2 r hr) hp
      · rcases List.mem_append.mp hr with hr | hr
        · exact X2.w r hr
        · rw [List.mem_singleton.mp hr]
          refine ⟨X1.D.nd hp, X1.D.nc hp, npl, X1.B.none X1.D hp, by rw [List.length_replicate], fun x hx => .inl (List.eq_of_mem_replicate hx)⟩
    obtain ⟨rs, X⟩ := p4
    refine ⟨_, rfl, 1 + r2, rfl, by omega, by omega, ?_⟩
    refine for_range (lo := 0) (n := (1 + r2).toNat) (fun i σ H' => (∃ x5 x6 x7 x8, σ = [some (.ref d), some (.int 6), some (.int (1 + r1)), some (.int (1 + r2)), some (.ref lr), x5, x6, x7, x8]) ∧ ∃ rs, Draft d c lr H H' (1 + r1).toNat (1 + r2).toNat rs) ⟨⟨_, _, _, _, rfl⟩, rs, X⟩ (fun i σ H5 hi p => ?_) (fun σ H5 p => ?_)
    · obtain ⟨⟨x5, x6, x7, x8, rfl⟩, rs, X⟩ := p
      have ei : (0 : Int) + (i : Nat) = (i : Int) := by omega
      show gName 6 (.int ((0 : Int) + (i : Nat))) _ _ _
      rw [ei]
      refine ⟨_, rfl, _, rfl, d, c, 1 + r1, rfl, X.D, by omega, by omega, fun H6 r B6 D6 u0 u1 => ?_⟩
      have X6 := X.but ld lc B6 D6
      refine ⟨_, rfl, _, rfl, _, rfl, _, _, rfl, rfl, _, rfl, d, c, 4, rfl, D6, by decide, by decide, fun H7 r' B7 D7 v0 v1 => ?_⟩
      have X7 := X6.but ld lc B7 D7
      refine ⟨_, _, rfl, rfl, _, _, rfl, ?_⟩
      have hhi : (if r + 1 + r' < 1 + r1 then r + 1 + r' else 1 + r1) ≤ 1 + r1 ∧ 0 ≤ (if r + 1 + r' < 1 + r1 then r + 1 + r' else 1 + r1) := by split <;> omega
      generalize (if r + 1 + r' < 1 + r1 then r + 1 + r' else 1 + r1) = hi2 at hhi
      refine ⟨r, hi2, rfl, ⟨by omega, by omega, by omega, by omega⟩, ?_⟩
      refine for_range (lo := r) (n := (hi2 - r).toNat) (fun j σ H' => (∃ x5 x8, σ = [some (.ref d), some (.int 6), some (.int (1 + r1)), some (.int (1 + r2)), some (.ref lr), x5, some (.int (i : Nat)), some (.int r), x8]) ∧ ∃ rs, Draft d c lr H H' (1 + r1).toNat (1 + r2).toNat rs) ⟨⟨_, _, rfl⟩, rs, X7⟩ (fun j σ H8 hj p8 => ?_) (fun σ H8 p8 => ?_)
      · obtain ⟨⟨y5, y8, rfl⟩, rs, X8⟩ := p8
        obtain ⟨t, ht⟩ : ∃ t : Nat, r + (j : Nat) = (t : Int) := ⟨(r + j).toNat, by omega⟩
        show gName 5 (.int (r + (j : Nat))) _ _ _
        rw [ht]
        have htl : t < rs.length := by rw [X8.l]; omega
        have hg : rs[t]? = some rs[t] := List.getElem?_eq_getElem htl
        obtain ⟨rs', X9, _⟩ := X8.set (j := i) hg
        refine ⟨_, rfl, _, rfl, lr, _, t, _, rfl, rfl, SqL.of X8.R.1, atI_nat (row_ref hg), _, rfl, rs[t].1, _, i, i, rfl, rfl, X8.R.2 _ (List.getElem_mem htl), ixN_at ?_, ⟨⟨_, _, rfl⟩, rs', X9⟩⟩
        rw [List.length_map, (X8.w _ (List.getElem_mem htl)).2.2.2.2.1]
        exact hi
      · obtain ⟨⟨y5, y8, rfl⟩, rs, X8⟩ := p8
        exact ⟨⟨_, _, _, _, rfl⟩, rs, X8⟩
    · obtain ⟨⟨x5, x6, x7, x8, rfl⟩, rs, X⟩ := p
      refine ⟨_, rfl, lr, rfl, ⟨_, SqL.of X.R.1⟩, for_list (K := K) (a := lr) (xs := rs.map fun r => V.ref r.1) (fun i σ H' => (∃ x5 x6 x7 x8, σ = [some (.ref d), some (.int 6), some (.int (1 + r1)), some (.int (1 + r2)), some (.ref lr), x5, x6, x7, x8]) ∧ ∃ rs', Draft d c lr H H' (1 + r1).toNat (1 + r2).toNat rs' ∧ rs'.map (·.1) = rs.map (·.1))
        ⟨⟨_, _, _, _, rfl⟩, rs, X, rfl⟩ (fun i σ H' _ p => ?_) (fun i x σ H6 hi p => ?_) (fun σ H6 p => ?_)⟩
      · obtain ⟨_, rs', X', e⟩ := p
        rw [← refs_eq e]
        exact SqL.of X'.R.1
      · obtain ⟨⟨y5, y6, y7, y8, rfl⟩, rs', X', e⟩ := p
        rw [← refs_eq e] at hi
        obtain ⟨q, hq, rfl⟩ := map_at hi
        have hqm := List.mem_of_getElem? hq
        refine ⟨_, rfl, q.1, q.2, rfl, SqL.of (X'.R.2 q hqm), rfl, _, rfl, ite2 (fun _ => ?_) (fun _ => ⟨⟨_, _, _, _, rfl⟩, rs', X', e⟩)⟩
        refine ⟨_, rfl, _, rfl, _, rfl, d, c, 1 + r2, rfl, X'.D, by omega, by omega, fun H7 r B7 D7 u0 u1 => ?_⟩
        obtain ⟨jj, rfl⟩ : ∃ jj : Nat, r = (jj : Int) := ⟨r.toNat, by omega⟩
        have X7 := X'.but ld lc B7 D7
        obtain ⟨rs2, X8, e8⟩ := X7.set (j := jj) hq
        exact ⟨q.1, _, jj, jj, rfl, rfl, X7.R.2 q hqm, ixN_at (by rw [List.length_map, (X7.w q hqm).2.2.2.2.1]; omega), ⟨⟨_, _, _, _, rfl⟩, rs2, X8, e8.trans e⟩⟩
      · obtain ⟨⟨y5, y6, y7, y8, rfl⟩, rs', X', e⟩ := p
        exact ⟨_, rfl, k H6 lr rs' _ X'.B X'.D (X'.grid ld lc (by omega) (by omega) (by omega) (by omega))⟩
end
end Sv
end

section
set_option Elab.async false
set_option linter.all false
set_option maxRecDepth 100000
set_option maxHeartbeats 4000000
namespace Sv
open PySem L2 LamX
open PySem.W (Datum DatumOrd Tup)
theorem row_getL {H : Hp} {a : Addr} {rs : List (Addr × List Int)} {i : Nat} {r : Addr × List Int} (R : RowsL H a rs) (h : rs[i]? = some r) : H r.1 = some (.lst (r.2.map V.int)) := R.2 r (List.mem_of_getElem? h)
def spInit (C : Addr) : Sp := fun vs H Q _ => ∃ (t dx p h q : Addr), vs = [.ref t, .ref p, .ref h, .ref q] ∧ H t = some (.ins C dx []) ∧ ∀ H', (∀ b, b ≠ t → H' b = H b) → H' t = some (.ins C dx (tabF p h q)) → Q .non H'
/-- a one in the grid -/
def bit (rs : List (Addr × List Int)) (i j : Nat) : Prop := ∃ r, rs[i]? = some r ∧ r.2[j]? = some 1
/-- a table made of a grid -/
structure Made (C d c : Addr) (H : Hp) (t : Addr) (P Hs : List Str) (pr : List (Addr × List Str)) (rs : List (Addr × List Int)) (n : Nat) : Prop where
  T : TabO C H t P Hs pr
  q : pr.length < 64
  lp : P.length = rs.length
  lh : Hs.length = n
  ap : P.Pairwise ltS
  ah : Hs.Pairwise ltS
  op : ∀ x ∈ P, PyData.strOk x = true
  oh : ∀ x ∈ Hs, PyData.strOk x = true
  oq : ∀ x ∈ pr, ∀ y ∈ x.2, PyData.strOk y = true
  e : ∀ i j p h, P[i]? = some p → Hs[j]? = some h → (rel pr p h = true ↔ bit rs i j)
def spTab (C : Addr) : Sp := fun vs H Q _ => ∃ (d c a : Addr) (rs : List (Addr × List Int)) (n : Nat), vs = [.ref d, .ref a] ∧ DealAt d c H ∧ GridL d c H a rs n ∧
  ∀ (H' : Hp) (t : Addr) (P Hs : List Str) (pr : List (Addr × List Str)), But d c H H' → DealAt d c H' → Made C d c H' t P Hs pr rs n → Q (.ref t) H'
/-- what stands in the pairs after some rows -/
def PairsAt (P Hs : List Str) (rs : List (Addr × List Int)) (i : Nat) (L : List (Str × Str)) : Prop := L.length ≤ i * 6 ∧ ∀ p h, (p, h) ∈ L ↔ ∃ a j, a < i ∧ P[a]? = some p ∧ Hs[j]? = some h ∧ bit rs a j
theorem PairsAt.next {P Hs : List Str} {rs : List (Addr × List Int)} {i n : Nat} {L : List (Str × Str)} {r : Addr × List Int} (X : PairsAt P Hs rs i L) (hr : rs[i]? = some r) (hP : i < P.length) (hH : Hs.length = n) (n6 : n ≤ 6) (hn : r.2.length = n) :
    PairsAt P Hs rs (i + 1) (L ++ ((List.range n).filter fun j => decide (r.2.getD j 0 = 1)).map fun j => (P.getD i "", Hs.getD j "")) := by
  refine ⟨?_, fun p h => ?_⟩
  · rw [List.length_append, List.length_map]
    have := List.length_filter_le (fun j => decide (r.2.getD j 0 = 1)) (List.range n)
    rw [List.length_range] at this
    have := X.1
    omega
  rw [List.mem_append, X.2]
  constructor
  · rintro (⟨a, j, h1, h2⟩ | hm)
    · exact ⟨a, j, by omega, h2⟩
    · obtain ⟨j, hj, e⟩ := List.mem_map.mp hm
      obtain ⟨hj1, hj2⟩ := List.mem_filter.mp hj
      have hj1 := List.mem_range.mp hj1
      obtain ⟨e1, e2⟩ := Prod.mk.inj e
      have hj3 : r.2[j]? = some r.2[j] := List.getElem?_eq_getElem (by omega)
      have hj2 := of_decide_eq_true hj2
      rw [List.getD_eq_getElem?_getD, hj3] at hj2
      refine ⟨i, j, by omega, ?_, ?_, r, hr, by rw [hj3]; exact congrArg some hj2⟩
      · rw [← e1, List.getD_eq_getElem?_getD, List.getElem?_eq_getElem hP]; rfl
      · rw [← e2, List.getD_eq_getElem?_getD, List.getElem?_eq_getElem (by omega : j < Hs.length)]; rfl
  · rintro ⟨a, j, h1, h2, h3, h4⟩
    rcases Nat.lt_or_ge a i with q | q
    · exact .inl ⟨a, j, q, h2, h3, h4⟩
    · obtain rfl : a = i := by omega
      refine .inr (List.mem_map.mpr ⟨j, List.mem_filter.mpr ⟨List.mem_range.mpr ?_, ?_⟩, ?_⟩)
      · have := (List.getElem?_eq_some_iff.mp h3).1; omega
      · obtain ⟨r', e1, e2⟩ := h4
        rw [hr] at e1
        obtain rfl := Option.some.inj e1
        rw [List.getD_eq_getElem?_getD, e2]; rfl
      · rw [List.getD_eq_getElem?_getD, List.getD_eq_getElem?_getD, h2, h3]; rfl
theorem GridL.same {d c a : Addr} {H H' : Hp} {rs : List (Addr × List Int)} {n : Nat} (G : GridL d c H a rs n) (s : Same H H') : GridL d c H' a rs n := G.but (But.of s)
theorem ltS_ne {a b : Str} (h : ltS a b) : a ≠ b := fun e => by
  subst e
  exact List.lt_irrefl _ h
theorem asc_inj {P : List Str} (h : P.Pairwise ltS) {i j : Nat} {x : Str} (hi : P[i]? = some x) (hj : P[j]? = some x) : i = j := by
  obtain ⟨li, ei⟩ := List.getElem?_eq_some_iff.mp hi
  obtain ⟨lj, ej⟩ := List.getElem?_eq_some_iff.mp hj
  have := List.pairwise_iff_getElem.mp h
  rcases Nat.lt_trichotomy i j with q | q | q
  · exact absurd (ei.trans ej.symm) (ltS_ne (this i j li lj q))
  · exact q
  · exact absurd (ej.trans ei.symm) (ltS_ne (this j i lj li q))
section
variable {P : Program} {w : World} {K : PySem.W.Frag} {mg : Str → Option Value} {base : Heap}
theorem scTable : FnScope ["self", "people", "houses", "pairs"] ["self", "people", "houses", "pairs"] (defScope sTable) := ⟨rfl, rfl, rfl, by decide +kernel, rfl, by decide +kernel, by decide +kernel⟩
theorem ok_table {f C : Addr} {fd : FuncData} (F : Fun K "__init__" "Table.__init__" sTable f fd) (T : TxtC K mg C) : FnOk P w K mg base CX0 1 f fd ["self", "people", "houses", "pairs"] (spInit C) := by
  refine F.ok scTable (fun vs H Q E h => ?_) (fun cdv A outer s H vs Q E hr h => ?_)
  · obtain ⟨t, dx, p, h, q, rfl, _⟩ := h
    rfl
  · obtain ⟨t, dx, p, h, q, rfl, ht, k⟩ := h
    refine ⟨_, pss_cons (ps_fld (pv 0) (pv 1) rfl) (pss_cons (ps_fld (pv 0) (pv 2) rfl) (pss_one (ps_fld (pv 0) (pv 3) rfl))), ?_⟩
    refine ⟨_, rfl, _, rfl, t, C, dx, [], rfl, ht, T.cl, T.nP, (by show 0 < 1000; decide), _, rfl, _, rfl, t, C, dx, _, rfl, upd_same, T.cl, T.nH, (by show 1 < 1000; decide), _, rfl, _, rfl, t, C, dx, _, rfl, upd_same, T.cl, T.nQ, (by show 2 < 1000; decide), ?_⟩
    exact k _ (fun b hb => by rw [upd_ne hb, upd_ne hb, upd_ne hb]) upd_same
abbrev nTab : List Str := ["_law_deal_here", "_law_rows", "_law_people", "_law_houses", "_law_pairs", "_law_at", "_law_house"]
theorem scTab : FnScope nTab ["_law_deal_here", "_law_rows"] (defScope sTab) := ⟨rfl, rfl, rfl, by decide +kernel, rfl, by decide +kernel, by decide +kernel⟩
theorem ok_tab {f C fo fn fi : Addr} {fd fdo fdn fdi : FuncData} (F : Fun K "_law_table" "_law_table" sTab f fd) (T : TxtL K mg C) (go : FnOk P w K mg base CX0 2 fo fdo ["_law_deal_here", "_law_some_here"] spOf) (co : Cal K mg "_law_of" fo fdo ["_law_deal_here", "_law_some_here"])
    (gn : FnOk P w K mg base CX0 3 fn fdn ["_law_deal_here", "_law_many", "_law_mark"] spNames) (cn : Cal K mg "_law_names" fn fdn ["_law_deal_here", "_law_many", "_law_mark"])
    (M : Mk K C fi) (gi : FnOk P w K mg base CX0 1 fi fdi ["self", "people", "houses", "pairs"] (spInit C)) (bi : Binds K fdi ["self", "people", "houses", "pairs"] []) : FnOk P w K mg base CX0 4 f fd ["_law_deal_here", "_law_rows"] (spTab C) := by
  refine F.ok scTab (fun vs H Q E h => ?_) (fun cdv A outer s H vs Q E hr h => ?_)
  · obtain ⟨d, c, a, rs, n, rfl, _⟩ := h
    rfl
  · obtain ⟨d, c, a, rs, n, rfl, D, G, k⟩ := h
    have hr2 := hr.mono (by decide : 2 ≤ 3)
    refine ⟨_, pss_cons (ps_asg (pe_tup (pa_cons (pe_call gn hr rfl cn.g cn.k cn.b .nil pass0 (pa_cons (pv 0) (pa_cons (pe_callB (callLen (K := K)) (by rfl) T.t.len PySem.boot_len (pa_cons (pv 1) pa_nil)) (pa_cons (pe_call go hr2 rfl co.g co.k co.b .nil pass0 (pa_cons (pv 0) (pa_cons (pe_lst (pa_cons pe_str (pa_cons pe_str pa_nil))) pa_nil))) pa_nil))))
            (pa_cons (pe_call gn hr rfl cn.g cn.k cn.b .nil pass0 (pa_cons (pv 0) (pa_cons (pe_callB (callLen (K := K)) (by rfl) T.t.len PySem.boot_len (pa_cons (pe_ix (ixL (K := K)) (pv 1) pe_int (fun _ _ => rfl)) pa_nil)) (pa_cons (pe_call go hr2 rfl co.g co.k co.b .nil pass0 (pa_cons (pv 0) (pa_cons (pe_lst (pa_cons pe_str (pa_cons pe_str pa_nil))) pa_nil))) pa_nil)))) pa_nil)))
          (pg_tup rfl (pgs_cons (pg_name (i := 2) scTab.nd rfl (Or.inr rfl)) (pgs_cons (pg_name (i := 3) scTab.nd rfl (Or.inr rfl)) pgs_nil))))
      (pss_cons (ps_set (i := 4) scTab.nd rfl (Or.inl rfl) (pe_lst pa_nil))
      (pss_cons (ps_for PassesOwn.never rfl (pi_range1 (by rfl) T.t.range (pa_cons (pe_callB (callLen (K := K)) (by rfl) T.t.len PySem.boot_len (pa_cons (pv 1) pa_nil)) pa_nil)) (pg_name (i := 5) scTab.nd rfl (Or.inr rfl))
        (pss_one (ps_set (i := 4) scTab.nd rfl (Or.inl rfl) (pe_op op_cat (pv 4) (pe_lc (own := [("_law_house", 6)]) (g := gName 6) (by rfl) scTab.nd (pi_range1 (by rfl) T.t.range (pa_cons (pe_callB (callLen (K := K)) (by rfl) T.t.len PySem.boot_len (pa_cons (pv 3) pa_nil)) pa_nil)) (blkOk_by (N := nTab) (sc := defScope sTab) (by decide +kernel))
            (fun _ _ _ _ _ => pg_name (i := 6) scTab.nd rfl (Or.inl rfl)) (fun _ _ _ _ _ => pts_one (pt_cmpR op_eq (pe_ix (ixL (K := K)) (pe_ix (ixL (K := K)) (pv 1) (pv 5) (fun _ _ => rfl)) (pv 6) (fun _ _ => rfl)) pe_int (nomark _)))
            (fun _ _ _ _ _ => pe_tup (pa_cons (pe_ix (ixT (K := K)) (pv 2) (pv 5) (fun _ _ => rfl)) (pa_cons (pe_ix (ixT (K := K)) (pv 3) (pv 6) (fun _ _ => rfl)) pa_nil))))))))
      (pss_one (ps_ret (pe_make M gi hr2 rfl T.tab bi .nil pass0 (pa_cons (pv 2) (pa_cons (pv 3) (pa_cons (pe_callTy (T := "tuple") (callTup (K := K)) (by rfl) T.t.tuple (by decide +kernel) (pa_cons (pe_callB (callSorted (K := K) (A := ard "_law_table" sTab A s f cdv)) (by rfl) T.t.sorted (by decide +kernel) (pa_cons (pv 4) pa_nil)) pa_nil)) pa_nil)))))))), ?_⟩
    obtain ⟨r0, h0⟩ : ∃ r0, rs[0]? = some r0 := ⟨_, List.getElem?_eq_getElem G.m0⟩
    refine ⟨_, rfl, _, rfl, a, _, rfl, .inl (SqL.of G.R.1), _, rfl, szl (by show 2 ≤ 4000; decide), fun q hq => ⟨d, c, q, [.str "", .str "p"], rfl, D.new hq, D.nd hq, D.nc hq, upd_same, by decide, by decide, fun H1 x B1 D1 hx => ?_⟩⟩
    obtain ⟨mk, hmk, rfl⟩ : ∃ mk ∈ marks, x = V.str mk := by
      rcases List.mem_cons.mp hx with rfl | hx
      · exact ⟨_, by decide, rfl⟩
      rcases List.mem_cons.mp hx with rfl | hx
      · exact ⟨_, by decide, rfl⟩
      · cases hx
    have B1 := (But.new (d := d) (c := c) (o := .lst [V.str "", V.str "p"]) hq).trans B1
    refine ⟨d, c, _, mk, rfl, D1, by rw [List.length_map]; have := G.m; omega, hmk, fun H2 pa Ps B2 D2 hpa lP wP oP => ?_⟩
    rw [List.length_map] at lP
    have G2 := (G.but B1).but B2
    refine ⟨_, rfl, _, rfl, a, _, 0, _, rfl, rfl, SqL.of G2.R.1, atI_nat (row_ref h0), r0.1, _, rfl, .inl (SqL.of (G2.R.2 r0 (List.mem_of_getElem? h0))), _, rfl, szl (by show 2 ≤ 4000; decide), fun q' hq' => ⟨d, c, q', [.str "", .str "h"], rfl, D2.new hq', D2.nd hq', D2.nc hq', upd_same, by decide, by decide, fun H3 x B3 D3 hx => ?_⟩⟩
    obtain ⟨mk2, hmk2, rfl⟩ : ∃ mk ∈ marks, x = V.str mk := by
      rcases List.mem_cons.mp hx with rfl | hx
      · exact ⟨_, by decide, rfl⟩
      rcases List.mem_cons.mp hx with rfl | hx
      · exact ⟨_, by decide, rfl⟩
      · cases hx
    have B3 := (But.new (d := d) (c := c) (o := .lst [V.str "", V.str "h"]) hq').trans B3
    have lr0 : r0.2.length = n := (G.w r0 (List.mem_of_getElem? h0)).1
    refine ⟨d, c, _, mk2, rfl, D3, by rw [List.length_map, lr0]; have := G.n6; omega, hmk2, fun H4 ha Hs B4 D4 hha lH wH oH => ?_⟩
    rw [List.length_map, lr0] at lH
    refine ⟨szl (by show 2 ≤ 4000; decide), fun pt hpt => ⟨pt, _, rfl, SqT.of upd_same, rfl, _, _, rfl, _, _, rfl, rfl, ?_⟩⟩
    have BB : But d c H2 (upd H4 pt (.tup [.ref pa, .ref ha])) := (B3.trans B4).more hpt
    have B5 : But d c H (upd H4 pt (.tup [.ref pa, .ref ha])) := (B1.trans B2).trans BB
    have D5 : DealAt d c (upd H4 pt (.tup [.ref pa, .ref ha])) := D4.new hpt
    have G5 := G.but B5
    have hpa5 : TupS (upd H4 pt (.tup [.ref pa, .ref ha])) pa Ps := BB.tup D2 hpa
    have hha5 : TupS (upd H4 pt (.tup [.ref pa, .ref ha])) ha Hs := Same.new hpt _ _ hha
    show tSeq _ _ _ _ (upd H4 pt (.tup [.ref pa, .ref ha]))
    generalize upd H4 pt (.tup [.ref pa, .ref ha]) = H5 at B5 D5 G5 hpa5 hha5
    clear BB
    refine ⟨Nat.zero_le _, fun l0 hl0 => ⟨_, rfl, a, _, rfl, .inl (SqL.of (Same.new hl0 _ _ G5.R.1)), _, rfl, by omega, ?_, ?_⟩⟩
    · rw [List.length_map]; have := G.m; omega
    refine for_range (lo := 0) (n := (((rs.map fun r => V.ref r.1).length : Nat) : Int).toNat) (fun i σ H' => ∃ lp x5 x6 pq, σ = [some (.ref d), some (.ref a), some (.ref pa), some (.ref ha), some (.ref lp), x5, x6] ∧ Same H5 H' ∧ H' lp = some (.lst (pq.map fun x : Addr × (Str × Str) => V.ref x.1)) ∧ (∀ x ∈ pq, H' x.1 = some (.tup [.str x.2.1, .str x.2.2])) ∧ PairsAt Ps Hs rs i (pq.map (·.2)))
      ⟨l0, _, _, [], rfl, Same.new hl0, upd_same, by simp, ⟨Nat.zero_le _, fun p h => ⟨fun z => (by cases z), fun ⟨a, j, z, _⟩ => absurd z (Nat.not_lt_zero _)⟩⟩⟩ (fun i σ H6 hi p => ?_) (fun σ H6 p => ?_)
    · obtain ⟨lp, x5, x6, pq, rfl, s6, hlp, hpq, hX⟩ := p
      rw [List.length_map] at hi
      have hi : i < rs.length := by omega
      have ei : (0 : Int) + (i : Nat) = (i : Int) := by omega
      show gName 5 (.int ((0 : Int) + (i : Nat))) _ _ _
      rw [ei]
      obtain ⟨r, hr⟩ : ∃ r, rs[i]? = some r := ⟨_, List.getElem?_eq_getElem hi⟩
      have lr : r.2.length = n := (G.w r (List.mem_of_getElem? hr)).1
      have hPi : i < Ps.length := by omega
      refine ⟨_, rfl, _, rfl, ha, _, rfl, .inr (SqT.of (s6 _ _ hha5)), ((Hs.map V.str).length : Nat), rfl, by omega, ?_, fun L hL => ?_⟩
      · rw [List.length_map]; have := G.n6; omega
      rw [List.length_map]
      refine map_range (lo := 0) (n := ((Hs.length : Nat) : Int).toNat) (fun j => decide (r.2.getD j 0 = 1)) (fun j y H => ∃ q, y = .ref q ∧ (H q = some (.tup [.str (Ps.getD i ""), .str (Hs.getD j "")]) ∧ q ≠ L)) hL (szl (by have := G.n6; omega)) (fun j y H H' e ⟨q, h1, h2, h3⟩ => ⟨q, h1, e _ _ h3 h2, h3⟩) (fun j H7 hj p7 => ?_) (fun ys H7 hs7 hd7 hy => ?_)
      · intro k7 k7' kk kk'
        have hj : j < n := by omega
        have ej : (0 : Int) + (j : Nat) = (j : Int) := by omega
        show gName 6 (.int ((0 : Int) + (j : Nat))) _ _ _
        rw [ej]
        have G7 := G5.same (Same.trans s6 p7.1)
        have hrj : r.2[j]? = some (r.2.getD j 0) := by
          rw [List.getD_eq_getElem?_getD, List.getElem?_eq_getElem (by omega : j < r.2.length)]; rfl
        refine ⟨rfl, ⟨_, rfl, _, rfl, a, _, i, _, rfl, rfl, SqL.of G7.R.1, atI_nat (row_ref hr), _, rfl, r.1, _, j, _, rfl, rfl, SqL.of (row_getL G7.R hr), atI_nat (int_get hrj), rfl, _, rfl, ?_⟩⟩
        have s7 := Same.trans s6 p7.1
        refine ite2 (fun e => ?_) (fun e => kk' ?_ _ (fun _ _ e => e))
        · have e := V.int.inj (of_decide_eq_true e)
          have g1 : Ps[i]? = some (Ps.getD i "") := by rw [List.getD_eq_getElem?_getD, List.getElem?_eq_getElem hPi]; rfl
          have g2 : Hs[j]? = some (Hs.getD j "") := by rw [List.getD_eq_getElem?_getD, List.getElem?_eq_getElem (by omega : j < Hs.length)]; rfl
          exact ⟨_, rfl, _, rfl, pa, _, i, _, rfl, rfl, SqT.of (s7 _ _ hpa5), atI_nat (str_get g1), _, rfl, _, rfl, ha, _, j, _, rfl, rfl, SqT.of (s7 _ _ hha5), atI_nat (str_get g2), szl (by show 2 ≤ 4000; decide), fun q hq => kk (decide_eq_true e) _ _ (Same.new hq) ⟨q, rfl, upd_same, off_ne p7.2.choose_spec.1 hq⟩⟩
        · exact decide_eq_false fun z => e (decide_eq_true (by rw [z]))
      · obtain ⟨qs, rfl, e2, e3⟩ := each_refs (R := fun q (p : Str × Str) => H7 q = some (.tup [.str p.1, .str p.2]) ∧ q ≠ L) (q := fun j => (Ps.getD i "", Hs.getD j "")) hy
        have hX' := hX.next hr hPi lH G.n6 lr
        have el : ((Hs.length : Nat) : Int).toNat = n := by omega
        rw [el] at e2
        rw [← e2, ← List.map_append] at hX'
        have l1 := hX'.1
        rw [List.length_map, List.length_append] at l1
        refine ⟨lp, L, _, _, rfl, rfl, hs7 _ _ hlp, hd7, szl (by rw [List.length_map, List.length_map]; have := G.m; omega), fun p hp => ?_⟩
        refine ⟨p, _, _, pq ++ qs, rfl, Same.more (Same.trans s6 hs7) hp, by rw [upd_same, List.map_append], fun x hx => Same.new hp _ _ ?_, hX'⟩
        rcases List.mem_append.mp hx with hx | hx
        · exact hs7 _ _ (hpq x hx)
        · exact (e3 x hx).1
    · obtain ⟨lp, x5, x6, pq, rfl, s6, hlp, hpq, hX⟩ := p
      have el : (((rs.map fun r => V.ref r.1).length : Nat) : Int).toNat = rs.length := by rw [List.length_map]; omega
      rw [el] at hX
      have hroom : (ard "_law_table" sTab A s f cdv).units + 3 < cLine := by
        have q : (ard "_law_table" sTab A s f cdv).units + 16 * 3 + 200 < cLine := hr.un
        omega
      refine ⟨_, rfl, _, rfl, _, rfl, ?_⟩
      dsimp only [tNil]
      refine sortedOf (α := Str × Str) (pq.map fun x => (V.ref x.1, x.2)) (by rw [List.map_map]; exact SqL.of hlp) (fun z hz => ?_) (by show (ard "_law_table" sTab A s f cdv).units + 2 + (max 0 0 + 1) < cLine; simpa using hroom) (.inl fun dd hdd => ?_) fun ys p hp hw hn => ?_
      · obtain ⟨x, hx, rfl⟩ := List.mem_map.mp hz
        exact .tup (SqT.of (hpq x hx)) (.cons (.str _) (.cons (.str _) .nil))
      · obtain ⟨z, hz, rfl⟩ := List.mem_map.mp hdd
        exact ⟨_, _, rfl⟩
      · obtain ⟨qs, hqs, rfl⟩ := perm_of_map hp
        rw [List.map_map]
        have s7 := Same.new (o := .lst (qs.map ((fun x : V × (Str × Str) => x.1) ∘ fun x : Addr × (Str × Str) => (V.ref x.1, x.2)))) hn
        have u7 : upd H6 p (.lst (qs.map ((fun x : V × (Str × Str) => x.1) ∘ fun x : Addr × (Str × Str) => (V.ref x.1, x.2)))) p = some (.lst (qs.map fun x => V.ref x.1)) := upd_same
        generalize upd H6 p (.lst (qs.map ((fun x : V × (Str × Str) => x.1) ∘ fun x : Addr × (Str × Str) => (V.ref x.1, x.2)))) = H7 at s7 u7
        refine ⟨p, _, rfl, .inl ⟨SqL.of u7, fun tq htq => ?_⟩⟩
        have s8 := Same.new (o := .tup (qs.map fun x => V.ref x.1)) htq
        have u8 : upd H7 tq (.tup (qs.map fun x => V.ref x.1)) tq = some (.tup (qs.map fun x => V.ref x.1)) := upd_same
        generalize upd H7 tq (.tup (qs.map fun x => V.ref x.1)) = H8 at s8 u8
        intro t dx nt ndx ne
        have s68 : Same H6 H8 := Same.trans s7 s8
        have s9 : Same H8 (upd (upd H8 dx (.own t)) t (.ins C dx [])) := Same.more (Same.new ndx) (by rw [upd_ne ne.symm]; exact nt)
        have u9 : upd (upd H8 dx (.own t)) t (.ins C dx []) dx = some (.own t) := by rw [upd_ne ne]; exact upd_same
        refine ⟨t, dx, pa, ha, tq, rfl, upd_same, fun H10 hoff ht10 => ⟨rfl, ?_⟩⟩
        have s10 : Same H8 H10 := fun b o e => by
          have nb : b ≠ t := ne_of_none e nt
          rw [hoff b nb]
          exact s9 _ _ e
        have sall : Same H5 H10 := Same.trans s6 (Same.trans s68 s10)
        have hdx : H10 dx = some (.own t) := by rw [hoff dx ne]; exact u9
        have hmem : ∀ p h, [p, h] ∈ (qs.map fun x => (x.1, [x.2.1, x.2.2])).map (·.2) ↔ (p, h) ∈ pq.map (·.2) := fun p h => by
          rw [List.map_map]
          constructor
          · intro hm
            obtain ⟨x, hx, e⟩ := List.mem_map.mp hm
            have e : [x.2.1, x.2.2] = [p, h] := e
            injection e with e1 e2
            injection e2 with e2 _
            exact List.mem_map.mpr ⟨x, hqs.mem_iff.mp hx, by rw [← e1, ← e2]⟩
          · intro hm
            obtain ⟨x, hx, e⟩ := List.mem_map.mp hm
            refine List.mem_map.mpr ⟨x, hqs.mem_iff.mpr hx, ?_⟩
            show [x.2.1, x.2.2] = [p, h]
            rw [e]
        have lq := hX.1
        rw [List.length_map] at lq
        refine k H10 t Ps Hs (qs.map fun x => (x.1, [x.2.1, x.2.2])) (B5.trans (But.of sall)) (D5.same sall) ⟨⟨dx, pa, ha, tq, ht10, hdx, sall _ _ hpa5, sall _ _ hha5, ?_, fun x hx => ?_⟩, ?_, lP, lH, wP, wH, oP, oH, fun x hx y hy => ?_, fun i j p h hi hj => ?_⟩
        · rw [List.map_map]; exact s10 _ _ u8
        · obtain ⟨y, hy, rfl⟩ := List.mem_map.mp hx
          exact Same.trans s68 s10 _ _ (hpq y (hqs.mem_iff.mp hy))
        · rw [List.length_map, hqs.length_eq]; have := G.m; omega
        · obtain ⟨z, hz, rfl⟩ := List.mem_map.mp hx
          obtain ⟨a', j', _, e1, e2, _⟩ := (hX.2 z.2.1 z.2.2).mp (List.mem_map.mpr ⟨z, hqs.mem_iff.mp hz, rfl⟩)
          rcases List.mem_cons.mp hy with rfl | hy
          · exact oP _ (List.mem_of_getElem? e1)
          · rw [List.mem_singleton.mp hy]; exact oH _ (List.mem_of_getElem? e2)
        · unfold rel
          rw [decide_eq_true_eq, hmem, hX.2]
          constructor
          · rintro ⟨a', j', _, e1, e2, e3⟩
            rw [asc_inj wP hi e1, asc_inj wH hj e2]; exact e3
          · intro hb
            exact ⟨i, j, by have := (List.getElem?_eq_some_iff.mp hi).1; omega, hi, hj, hb⟩
end
end Sv
end

section
set_option Elab.async false
set_option linter.all false
set_option maxRecDepth 100000
set_option maxHeartbeats 4000000
namespace Sv
open PySem L2 LamX
open PySem.W (Datum DatumOrd Tup)
def spShuf : Sp := fun vs H Q _ => ∃ (d c a : Addr) (xs : List V), vs = [.ref d, .ref a] ∧ DealAt d c H ∧ ((H a = some (.lst xs) ∧ a ≠ d ∧ a ≠ c) ∨ H a = some (.tup xs)) ∧ xs.length ≤ 100 ∧
  ∀ (H' : Hp) (p : Addr) (ys : List V), But d c H H' → DealAt d c H' → H p = none → p ≠ d → p ≠ c → H' p = some (.lst ys) → ys.Perm xs → Q (.ref p) H'
theorem perm_ins {ys xs : List V} {x : V} {k : Nat} (h : ys.Perm xs) : (ys.take k ++ [x] ++ ys.drop k).Perm (xs ++ [x]) := by
  have h1 : (ys.take k ++ [x] ++ ys.drop k).Perm (x :: ys) := by
    rw [List.append_assoc]
    refine List.perm_middle.trans ?_
    show (x :: (ys.take k ++ ys.drop k)).Perm _
    rw [List.take_append_drop]
  exact h1.trans ((h.cons x).trans (by simpa using (List.perm_append_comm (l₁ := [x]) (l₂ := xs))))
theorem take_next {xs : List V} {i : Nat} {x : V} (h : xs[i]? = some x) : xs.take (i + 1) = xs.take i ++ [x] := by
  obtain ⟨hi, rfl⟩ := List.getElem?_eq_some_iff.mp h
  rw [List.take_succ, List.getElem?_eq_getElem hi]; rfl
section
variable {P : Program} {w : World} {K : PySem.W.Frag} {mg : Str → Option Value} {base : Heap}
theorem scShuf : FnScope ["_law_deal_here", "_law_some_here", "_law_found", "_law_one"] ["_law_deal_here", "_law_some_here"] (defScope sShuf) := ⟨rfl, rfl, rfl, by decide +kernel, rfl, by decide +kernel, by decide +kernel⟩
theorem ok_shuf {f C fa : Addr} {fd fda : FuncData} (F : Fun K "_law_shuffled" "_law_shuffled" sShuf f fd) (T : TxtL K mg C) (ga : FnOk P w K mg base CX0 1 fa fda ["_law_deal_here", "_law_bound"] spAny) (ca : Cal K mg "_law_any" fa fda ["_law_deal_here", "_law_bound"]) :
    FnOk P w K mg base CX0 2 f fd ["_law_deal_here", "_law_some_here"] spShuf := by
  refine F.ok scShuf (fun vs H Q E h => ?_) (fun cdv A outer s H vs Q E hr h => ?_)
  · obtain ⟨d, c, a, xs, rfl, _⟩ := h
    rfl
  · obtain ⟨d, c, a, xs, rfl, D, hcase, hl, k⟩ := h
    rcases hcase with ⟨ha, had, hac⟩ | ha
    · refine ⟨_, pss_cons (ps_set (i := 2) scShuf.nd rfl (Or.inl rfl) (pe_lst pa_nil))
        (pss_cons (ps_for PassesOwn.never rfl (pi_list (pv 1)) (pg_name (i := 3) scShuf.nd rfl (Or.inl rfl))
          (pss_one (ps_expr (pe_bm PySem.F.plainAttrs_list PySem.F.slot_list_insert PySem.F.type_list_insert mt_insert (pv 2) (pa_cons (pe_call ga hr rfl ca.g ca.k ca.b .nil pass0 (pa_cons (pv 0) (pa_cons (pe_op op_add (pe_callB (callLen (K := K)) (by rfl) T.t.len PySem.boot_len (pa_cons (pv 2) pa_nil)) pe_int) pa_nil))) (pa_cons (pv 3) pa_nil))))))
        (pss_one (ps_ret (pv 2)))), ?_⟩
      refine ⟨Nat.zero_le _, fun l hl0 => ?_⟩
      have nld := D.nd hl0
      have nlc := D.nc hl0
      refine ⟨_, rfl, a, rfl, ⟨_, SqL.of (Same.new hl0 _ _ ha)⟩, for_list (K := K) (a := a) (xs := xs) (fun i σ H' => ∃ x3 ys, σ = [some (.ref d), some (.ref a), some (.ref l), x3] ∧ But d c H H' ∧ DealAt d c H' ∧ H' l = some (.lst ys) ∧ ys.Perm (xs.take i))
        ⟨_, [], rfl, But.new hl0, D.new hl0, upd_same, by simp⟩ (fun i σ H' _ ⟨_, _, _, B', _⟩ => SqL.of (B' _ _ had hac ha)) (fun i x σ H1 hi ⟨x3, ys, e, B1, D1, h1, hp⟩ => ?_) (fun σ H1 ⟨x3, ys, e, B1, D1, h1, hp⟩ => ?_)⟩
      · subst e
        have hil := (List.getElem?_eq_some_iff.mp hi).1
        have hyl : ys.length ≤ 100 := by rw [hp.length_eq, List.length_take]; omega
        refine ⟨_, rfl, .inl ⟨rfl, _, SqL.of h1⟩, _, rfl, _, rfl, l, ys, rfl, .inl (SqL.of h1), _, _, rfl, rfl, d, c, (ys.length : Int) + 1, rfl, D1, by omega, by omega, fun H2 r B2 D2 r0 r1 => ?_⟩
        refine ⟨_, rfl, l, ys, r, x, rfl, rfl, B2 _ _ nld nlc h1, Nat.lt_of_le_of_lt hyl (by decide), r0, by omega, ?_⟩
        exact ⟨_, _, rfl, (B1.trans B2).put hl0, D2.put nld nlc, upd_same, by rw [take_next hi]; exact perm_ins hp⟩
      · subst e
        rw [List.take_length] at hp
        exact ⟨_, rfl, k H1 l ys B1 D1 hl0 nld nlc h1 hp⟩
    · refine ⟨_, pss_cons (ps_set (i := 2) scShuf.nd rfl (Or.inl rfl) (pe_lst pa_nil))
        (pss_cons (ps_for PassesOwn.never rfl (pi_tup (pv 1)) (pg_name (i := 3) scShuf.nd rfl (Or.inl rfl))
          (pss_one (ps_expr (pe_bm PySem.F.plainAttrs_list PySem.F.slot_list_insert PySem.F.type_list_insert mt_insert (pv 2) (pa_cons (pe_call ga hr rfl ca.g ca.k ca.b .nil pass0 (pa_cons (pv 0) (pa_cons (pe_op op_add (pe_callB (callLen (K := K)) (by rfl) T.t.len PySem.boot_len (pa_cons (pv 2) pa_nil)) pe_int) pa_nil))) (pa_cons (pv 3) pa_nil))))))
        (pss_one (ps_ret (pv 2)))), ?_⟩
      refine ⟨Nat.zero_le _, fun l hl0 => ?_⟩
      have nld := D.nd hl0
      have nlc := D.nc hl0
      refine ⟨_, rfl, a, rfl, ⟨_, SqT.of (Same.new hl0 _ _ ha)⟩, for_tup (K := K) (a := a) (xs := xs) (fun i σ H' => ∃ x3 ys, σ = [some (.ref d), some (.ref a), some (.ref l), x3] ∧ But d c H H' ∧ DealAt d c H' ∧ H' l = some (.lst ys) ∧ ys.Perm (xs.take i))
        ⟨_, [], rfl, But.new hl0, D.new hl0, upd_same, by simp⟩ (fun i σ H' _ ⟨_, _, _, B', _⟩ => SqT.of (B'.tup D ha)) (fun i x σ H1 hi ⟨x3, ys, e, B1, D1, h1, hp⟩ => ?_) (fun σ H1 ⟨x3, ys, e, B1, D1, h1, hp⟩ => ?_)⟩
      · subst e
        have hil := (List.getElem?_eq_some_iff.mp hi).1
        have hyl : ys.length ≤ 100 := by rw [hp.length_eq, List.length_take]; omega
        refine ⟨_, rfl, .inl ⟨rfl, _, SqL.of h1⟩, _, rfl, _, rfl, l, ys, rfl, .inl (SqL.of h1), _, _, rfl, rfl, d, c, (ys.length : Int) + 1, rfl, D1, by omega, by omega, fun H2 r B2 D2 r0 r1 => ?_⟩
        refine ⟨_, rfl, l, ys, r, x, rfl, rfl, B2 _ _ nld nlc h1, Nat.lt_of_le_of_lt hyl (by decide), r0, by omega, ?_⟩
        exact ⟨_, _, rfl, (B1.trans B2).put hl0, D2.put nld nlc, upd_same, by rw [take_next hi]; exact perm_ins hp⟩
      · subst e
        rw [List.take_length] at hp
        exact ⟨_, rfl, k H1 l ys B1 D1 hl0 nld nlc h1 hp⟩
end
end Sv
end

section
set_option Elab.async false
set_option linter.all false
set_option maxRecDepth 100000
set_option maxHeartbeats 4000000
namespace Sv
open PySem L2 LamX
open PySem.W (Datum DatumOrd Tup)
def spMixed : Sp := fun vs H Q _ => ∃ (d c a : Addr) (rs : List (Addr × List Int)) (n : Nat), vs = [.ref d, .ref a] ∧ DealAt d c H ∧ GridL d c H a rs n ∧
  ∀ (H' : Hp) (b : Addr) (qs : List (Addr × List Int)), But d c H H' → DealAt d c H' → GridL d c H' b qs n → Q (.ref b) H'
theorem rgV_nat (n : Nat) : rgV 0 (n : Int) = (List.range n).map fun i => V.int ((i : Nat) : Int) := by
  unfold rgV
  rw [show ((n : Int) - 0).toNat = n by omega]
  refine List.map_congr_left fun i _ => ?_
  show V.int ((0 : Int) + (i : Nat)) = _
  rw [show (0 : Int) + (i : Nat) = (i : Int) by omega]
def spOrder (C : Addr) : Sp := fun vs H Q _ => ∃ (d c t : Addr) (P Hs : List Str) (pr : List (Addr × List Str)), vs = [.ref d, .ref t] ∧ DealAt d c H ∧ TabO C H t P Hs pr ∧ P.length ≤ 100 ∧ Hs.length ≤ 100 ∧
  ∀ (H' : Hp) (o : Addr) (ps hs : List Str), But d c H H' → DealAt d c H' → OrdO H' o ps hs → ps.Perm P → hs.Perm Hs → Q (.ref o) H'
theorem TabO.but {C d c : Addr} {H H' : Hp} {t : Addr} {P Hs : List Str} {pr : List (Addr × List Str)} (x : TabO C H t P Hs pr) (B : But d c H H') (D : DealAt d c H) : TabO C H' t P Hs pr := by
  obtain ⟨dx, p, h, q, h1, h2, h3, h4, h5, h6⟩ := x
  exact ⟨dx, p, h, q, B.ins D h1, B.own D h2, B.tup D h3, B.tup D h4, B.tup D h5, fun y hy => B.tup D (h6 y hy)⟩
section
variable {P : Program} {w : World} {K : PySem.W.Frag} {mg : Str → Option Value} {base : Heap}
abbrev nMixed : List Str := ["_law_deal_here", "_law_rows", "_law_columns", "_law_row", "_law_at"]
theorem scMixed : FnScope nMixed ["_law_deal_here", "_law_rows"] (defScope sMixed) := ⟨rfl, rfl, rfl, by decide +kernel, rfl, by decide +kernel, by decide +kernel⟩
theorem ok_mixed {f C fs : Addr} {fd fds : FuncData} (F : Fun K "_law_mixed" "_law_mixed" sMixed f fd) (T : TxtL K mg C) (gs : FnOk P w K mg base CX0 2 fs fds ["_law_deal_here", "_law_some_here"] spShuf) (cs : Cal K mg "_law_shuffled" fs fds ["_law_deal_here", "_law_some_here"]) :
    FnOk P w K mg base CX0 3 f fd ["_law_deal_here", "_law_rows"] spMixed := by
  refine F.ok scMixed (fun vs H Q E h => ?_) (fun cdv A outer s H vs Q E hr h => ?_)
  · obtain ⟨d, c, a, rs, n, rfl, _⟩ := h
    rfl
  · obtain ⟨d, c, a, rs, n, rfl, D, G, k⟩ := h
    refine ⟨_, pss_cons (ps_set (i := 2) scMixed.nd rfl (Or.inr rfl) (pe_call gs hr rfl cs.g cs.k cs.b .nil pass0 (pa_cons (pv 0) (pa_cons (pe_listRg (by rfl) (by rfl) T.list (prg_1 (by rfl) T.t.range (pe_callB (callLen (K := K)) (by rfl) T.t.len PySem.boot_len (pa_cons (pe_ix (ixL (K := K)) (pv 1) pe_int (fun _ _ => rfl)) pa_nil)))) pa_nil))))
      (pss_one (ps_ret (pe_lc (own := [("_law_row", 3)]) (g := gName 3) (tt := tYes) (by rfl) scMixed.nd (piL (K := K) (pe_call gs hr rfl cs.g cs.k cs.b .nil pass0 (pa_cons (pv 0) (pa_cons (pv 1) pa_nil)))) (blkOk_by (N := nMixed) (sc := defScope sMixed) (by decide +kernel))
        (fun _ _ _ _ _ => pg_name (i := 3) scMixed.nd rfl (Or.inr rfl)) (fun _ _ _ _ _ => pts_nil)
        (fun _ _ _ _ _ => pe_lc (own := [("_law_at", 4)]) (g := gName 4) (tt := tYes) (by rfl) scMixed.nd (piL (K := K) (pv 2)) (blkOk_by (N := nMixed) (sc := relS (lcSc (retOf (bodyAt sMixed 1))) (defScope sMixed)) (by decide +kernel))
            (fun _ _ _ _ _ => pg_name (i := 4) scMixed.nd rfl (Or.inl rfl)) (fun _ _ _ _ _ => pts_nil)
            (fun _ _ _ _ _ => pe_ix (ixL (K := K)) (pv 3) (pv 4) (fun _ _ => rfl)))))), ?_⟩
    obtain ⟨r0, h0⟩ : ∃ r0, rs[0]? = some r0 := ⟨_, List.getElem?_eq_getElem G.m0⟩
    have lr0 : r0.2.length = n := (G.w r0 (List.mem_of_getElem? h0)).1
    have n6 := G.n6
    have m6 := G.m
    refine ⟨_, rfl, _, rfl, a, _, 0, _, rfl, rfl, SqL.of G.R.1, atI_nat (row_ref h0), r0.1, _, rfl, .inl (SqL.of (row_getL G.R h0)), _, rfl, RgOk.of_le (by omega) ?_ (by omega) (by omega), fun q hq => ?_⟩
    · rw [List.length_map, lr0]; omega
    rw [List.length_map, lr0, rgV_nat]
    refine ⟨d, c, q, (List.range n).map fun i => V.int ((i : Nat) : Int), rfl, D.new hq, .inl ⟨upd_same, D.nd hq, D.nc hq⟩, by rw [List.length_map, List.length_range]; omega, fun H1 p ys B1 D1 hp0 hpd hpc hp1 hperm => ?_⟩
    obtain ⟨cols, hcols, rfl⟩ := perm_of_map hperm
    have B1 := (But.new (d := d) (c := c) hq).trans B1
    have G1 := G.but B1
    refine ⟨_, rfl, _, rfl, d, c, a, _, rfl, D1, .inl ⟨G1.R.1, G.ad, G.ac⟩, by rw [List.length_map]; omega, fun H2 b zs B2 D2 hb0 hbd hbc hb1 hperm2 => ?_⟩
    obtain ⟨qs, hqs, rfl⟩ := perm_of_map hperm2
    have B12 := B1.trans B2
    have G2 := G1.but B2
    have hp2 := B2 _ _ hpd hpc hp1
    refine ⟨b, rfl, ⟨_, SqL.of hb1⟩, fun L hL => ?_⟩
    have lq : qs.length = rs.length := hqs.length_eq
    have lc : cols.length = n := by rw [hcols.length_eq, List.length_range]
    refine map_list yes (fun j y H => ∃ a, y = .ref a ∧ ((a ≠ L ∧ a ≠ d ∧ a ≠ c) ∧ ∃ row, H a = some (.lst (row.map V.int)) ∧ Bits n row)) hL (SqL.of hb1) (szl (by rw [List.length_map]; omega)) (fun j y Ha Hb e h => by
      obtain ⟨a2, h1, h2, row, h3, h4⟩ := h
      exact ⟨a2, h1, h2, row, e _ _ h2.1 h3, h4⟩) (fun i x H3 hi p3 => ?_) (fun ys H3 hs3 hd3 hy => ?_)
    · obtain ⟨r, hr1, rfl⟩ := map_at hi
      intro k3 k3' kk kk'
      have hrm : r ∈ rs := hqs.mem_iff.mp (List.mem_of_getElem? hr1)
      have wr := G.w r hrm
      have hr3 : H3 r.1 = some (.lst (r.2.map V.int)) := p3.1 _ _ (G2.R.2 r hrm)
      have D3 := D2.same p3.1
      refine ⟨rfl, ⟨_, rfl, p, rfl, ⟨_, SqL.of (p3.1 _ _ hp2)⟩, fun L2 hL2 => ?_⟩⟩
      refine map_list yes (fun j y H => ∃ i, y = V.int i ∧ (i = 0 ∨ i = 1)) hL2 (SqL.of (p3.1 _ _ hp2)) (szl (by rw [List.length_map]; omega)) (fun j y H H' e h => h) (fun i2 x2 H4 hi2 p4 => ?_) (fun ys2 H4 hs4 hd4 hy2 => ?_)
      · obtain ⟨cj, hcj, rfl⟩ := map_at hi2
        intro k4 k4' kk4 kk4'
        have hcn : cj < n := List.mem_range.mp (hcols.mem_iff.mp (List.mem_of_getElem? hcj))
        have hg : r.2[cj]? = some r.2[cj] := List.getElem?_eq_getElem (by rw [wr.1]; exact hcn)
        exact ⟨rfl, ⟨_, rfl, _, rfl, r.1, _, cj, _, rfl, rfl, SqL.of (p4.1 _ _ hr3), atI_nat (int_get hg), kk4 rfl _ _ (fun _ _ e => e) ⟨_, rfl, wr.2 _ (List.mem_of_getElem? hg)⟩⟩⟩
      · rw [filter_yes] at hy2
        obtain ⟨row, rfl, hrow, lrow⟩ := each_ints hy2
        rw [List.length_range, List.length_map, lc] at lrow
        exact kk rfl _ _ hs4 ⟨L2, rfl, ⟨off_ne p3.2.choose_spec.1 hL2, D3.nd hL2, D3.nc hL2⟩, row, hd4, lrow, hrow⟩
    · rw [List.length_map, filter_yes] at hy
      have : ∀ {ys : List V} {is : List Nat}, PySem.W.EachIs (fun (y : V) (j : Nat) => ∃ a, y = V.ref a ∧ ((a ≠ L ∧ a ≠ d ∧ a ≠ c) ∧ ∃ row, H3 a = some (.lst (row.map V.int)) ∧ Bits n row)) ys is → ∃ ts : List (Addr × List Int), ys = ts.map (fun r => V.ref r.1) ∧ ts.length = is.length ∧ ∀ r ∈ ts, (r.1 ≠ L ∧ r.1 ≠ d ∧ r.1 ≠ c) ∧ H3 r.1 = some (.lst (r.2.map V.int)) ∧ Bits n r.2 := by
        intro ys is e
        induction e with
        | nil => exact ⟨[], rfl, rfl, by simp⟩
        | cons h t ih =>
          obtain ⟨a, rfl, h2, row, h3, h4⟩ := h
          obtain ⟨ts, rfl, l, w⟩ := ih
          refine ⟨(a, row) :: ts, rfl, by rw [List.length_cons, List.length_cons, l], fun r hr => ?_⟩
          rcases List.mem_cons.mp hr with rfl | hr
          · exact ⟨h2, h3, h4⟩
          · exact w r hr
      obtain ⟨ts, rfl, lt, wt⟩ := this hy
      rw [List.length_range] at lt
      exact k H3 L ts (B12.trans (But.of hs3)) (D2.same hs3) ⟨⟨hd3, fun r hr => (wt r hr).2.1⟩, D2.nd hL, D2.nc hL, fun r hr => (wt r hr).1.2, by have := G.m0; omega, by omega, G.n0, n6, fun r hr => (wt r hr).2.2⟩
theorem scSome : FnScope ["_law_deal_here", "_law_most", "_law_rows"] ["_law_deal_here", "_law_most"] (defScope sSome) := ⟨rfl, rfl, rfl, by decide +kernel, rfl, by decide +kernel, by decide +kernel⟩
theorem ok_some {f C fa fl fg fm : Addr} {fd fda fdl fdg fdm : FuncData} (F : Fun K "_law_some" "_law_some" sSome f fd) (ga : FnOk P w K mg base CX0 1 fa fda ["_law_deal_here", "_law_bound"] spAny) (ca : Cal K mg "_law_any" fa fda ["_law_deal_here", "_law_bound"])
    (gl : FnOk P w K mg base CX0 2 fl fdl ["_law_deal_here", "_law_most"] spGrid) (cl : Cal K mg "_law_line" fl fdl ["_law_deal_here", "_law_most"]) (gg : FnOk P w K mg base CX0 3 fg fdg ["_law_deal_here", "_law_most"] spGrid) (cg : Cal K mg "_law_grid" fg fdg ["_law_deal_here", "_law_most"])
    (gm : FnOk P w K mg base CX0 3 fm fdm ["_law_deal_here", "_law_rows"] spMixed) (cm : Cal K mg "_law_mixed" fm fdm ["_law_deal_here", "_law_rows"]) : FnOk P w K mg base CX0 4 f fd ["_law_deal_here", "_law_most"] spGrid := by
  refine F.ok scSome (fun vs H Q E h => ?_) (fun cdv A outer s H vs Q E hr h => ?_)
  · obtain ⟨d, c, rfl, _⟩ := h
    rfl
  · obtain ⟨d, c, rfl, D, k⟩ := h
    have hr1 := hr.mono (by decide : 1 ≤ 3)
    have hr2 := hr.mono (by decide : 2 ≤ 3)
    refine ⟨_, pss_cons (ps_set (i := 2) scSome.nd rfl (Or.inl rfl) (pe_ifExp (pt_cmpR op_eq (pe_call ga hr1 rfl ca.g ca.k ca.b .nil pass0 (pa_cons (pv 0) (pa_cons pe_int pa_nil))) pe_int (nomark _))
        (pe_call gl hr2 rfl cl.g cl.k cl.b .nil pass0 (pa_cons (pv 0) (pa_cons (pv 1) pa_nil))) (pe_call gg hr rfl cg.g cg.k cg.b .nil pass0 (pa_cons (pv 0) (pa_cons (pv 1) pa_nil)))))
      (pss_one (ps_ret (pe_call gm hr rfl cm.g cm.k cm.b .nil pass0 (pa_cons (pv 0) (pa_cons (pv 2) pa_nil))))), ?_⟩
    refine ⟨_, rfl, d, c, 2, rfl, D, by decide, by decide, fun H1 r B1 D1 _ _ => ⟨rfl, _, rfl, ite2 (fun _ => ?_) (fun _ => ?_)⟩⟩
    · exact ⟨_, rfl, _, rfl, d, c, rfl, D1, fun H2 a rs n B2 D2 G2 => ⟨_, rfl, _, rfl, d, c, a, rs, n, rfl, D2, G2, fun H3 b qs B3 D3 G3 => k H3 b qs n ((B1.trans B2).trans B3) D3 G3⟩⟩
    · exact ⟨_, rfl, _, rfl, d, c, rfl, D1, fun H2 a rs n B2 D2 G2 => ⟨_, rfl, _, rfl, d, c, a, rs, n, rfl, D2, G2, fun H3 b qs B3 D3 G3 => k H3 b qs n ((B1.trans B2).trans B3) D3 G3⟩⟩
theorem scOrder : FnScope ["_law_deal_here", "_law_table_here"] ["_law_deal_here", "_law_table_here"] (defScope sOrder) := ⟨rfl, rfl, rfl, by decide +kernel, rfl, by decide +kernel, by decide +kernel⟩
theorem ok_order {f C fs : Addr} {fd fds : FuncData} (F : Fun K "_law_order" "_law_order" sOrder f fd) (T : TxtL K mg C) (gs : FnOk P w K mg base CX0 2 fs fds ["_law_deal_here", "_law_some_here"] spShuf) (cs : Cal K mg "_law_shuffled" fs fds ["_law_deal_here", "_law_some_here"]) :
    FnOk P w K mg base CX0 3 f fd ["_law_deal_here", "_law_table_here"] (spOrder C) := by
  refine F.ok scOrder (fun vs H Q E h => ?_) (fun cdv A outer s H vs Q E hr h => ?_)
  · obtain ⟨d, c, t, _, _, _, rfl, _⟩ := h
    rfl
  · obtain ⟨d, c, t, Ps, Hs, pr, rfl, D, hT, z1, z2, k⟩ := h
    refine ⟨_, pss_one (ps_ret (pe_tup (pa_cons (pe_callTy (T := "tuple") (callTup (K := K)) (by rfl) T.t.tuple (by decide +kernel) (pa_cons (pe_call gs hr rfl cs.g cs.k cs.b .nil pass0 (pa_cons (pv 0) (pa_cons (pe_fld (pv 1) rfl) pa_nil))) pa_nil))
        (pa_cons (pe_callTy (T := "tuple") (callTup (K := K)) (by rfl) T.t.tuple (by decide +kernel) (pa_cons (pe_call gs hr rfl cs.g cs.k cs.b .nil pass0 (pa_cons (pv 0) (pa_cons (pe_fld (pv 1) rfl) pa_nil))) pa_nil)) pa_nil)))), ?_⟩
    obtain ⟨dx, pa, ha, qa, t1, t2, t3, t4, t5, t6⟩ := id hT
    refine ⟨_, rfl, _, rfl, t, C, dx, _, _, rfl, t1, T.t.cl, T.t.nP, tabF_p _ _ _, d, c, pa, _, rfl, D, .inr t3, by rw [List.length_map]; exact z1, fun H1 p ys B1 D1 hp0 hpd hpc hp1 hperm => ?_⟩
    obtain ⟨ps, hps, rfl⟩ := perm_of_map hperm
    refine ⟨p, _, rfl, .inl ⟨SqL.of hp1, fun tp htp => ?_⟩⟩
    have B2 : But d c H (upd H1 tp (.tup (ps.map V.str))) := B1.more htp
    have D2 := D1.new (o := .tup (ps.map V.str)) htp
    have u2 : upd H1 tp (.tup (ps.map V.str)) tp = some (.tup (ps.map V.str)) := upd_same
    generalize upd H1 tp (.tup (ps.map V.str)) = H2 at B2 D2 u2
    refine ⟨_, rfl, _, rfl, t, C, dx, _, _, rfl, B2.ins D t1, T.t.cl, T.t.nH, tabF_h _ _ _, d, c, ha, _, rfl, D2, .inr (B2.tup D t4), by rw [List.length_map]; exact z2, fun H3 q zs B3 D3 hq0 hqd hqc hq1 hperm2 => ?_⟩
    obtain ⟨hs, hhs, rfl⟩ := perm_of_map hperm2
    refine ⟨q, _, rfl, .inl ⟨SqL.of hq1, fun tq htq => ⟨szl (by show 2 ≤ 4000; decide), fun o ho => ?_⟩⟩⟩
    have s4 := Same.new (o := .tup (hs.map V.str)) htq
    have s5 := Same.new (o := .tup [.ref tp, .ref tq]) ho
    have s45 := Same.trans s4 s5
    refine k _ o ps hs ((B2.trans B3).trans (But.of s45)) (D3.same s45) ⟨tp, tq, upd_same, s45 _ _ (B3.tup D2 u2), s5 _ _ upd_same⟩ hps hhs
end
end Sv
end

section
set_option Elab.async false
set_option linter.all false
set_option maxRecDepth 100000
set_option maxHeartbeats 4000000
namespace Sv
open PySem L2 LamX
open PySem.W (Datum DatumOrd Tup)
def OkS (xs : List Str) : Prop := ∀ x ∈ xs, PyData.strOk x = true
def spLCells (C : Addr) : Sp := fun vs H Q _ => ∃ (t o : Addr) (pr : List (Addr × List Str)) (ps hs : List Str), vs = [.ref t, .ref o] ∧ AskTO C H t o pr ps hs ∧ OkS ps ∧ OkS hs ∧ (∀ x ∈ pr, OkS x.2) ∧
  ∀ (H' : Hp) (a : Addr) (rs : List (Addr × List Int)), Same H H' → RowsL H' a rs → rs.map (·.2) = matOf (rel pr) ps hs → Q (.ref a) H'
theorem lay_str {x : Str} (h : PyData.strOk x = true) : (Datum.toD x : PyData).canLay0 = true := by
  show (PyData.str x).canLay0 = true
  rw [PyData.canLay0]; exact h
theorem lay_tupS {xs : List Str} (h : OkS xs) : (Datum.toD (⟨xs⟩ : Tup Str) : PyData).canLay0 = true := by
  show (PyData.tuple (xs.map Datum.toD)).canLay0 = true
  rw [PyData.canLay0]
  exact canLayAll_map fun x hx => lay_str (h x hx)
theorem lay_tup {β : Type} [DecidableEq β] [Datum β] (xs : List β) (h : ∀ x ∈ xs, (Datum.toD x : PyData).canLay0 = true) : (Datum.toD (⟨xs⟩ : Tup β) : PyData).canLay0 = true := by
  show (PyData.tuple (xs.map Datum.toD)).canLay0 = true
  rw [PyData.canLay0]
  exact canLayAll_map h
theorem any_in {α : Type} [DecidableEq α] [Datum α] (x : α) : ∀ ys : List α, ((ys.map Datum.toD).any fun z => PyData.eqv z (Datum.toD x)) = decide (x ∈ ys)
  | [] => rfl
  | y :: ys => by
    rw [List.map_cons, List.any_cons, any_in x ys, Datum.eqv]
    by_cases e : y = x
    · subst e; simp
    · have : ¬ x = y := fun z => e z.symm
      simp [e, this]
theorem shaped_of' {α : Type} [DecidableEq α] [Datum α] {x : α} (h : (Datum.toD x : PyData).canLay0 = true) (hd : Datum.depth α ≤ 64) : SeqAt.shaped (Datum.toD x) = true := by
  unfold SeqAt.shaped
  rw [h, Bool.true_and, decide_eq_true_eq]
  exact Nat.le_trans (Datum.depth_le x) hd
/-- x in a tuple of alike data -/
theorem inOf {α : Type} [DecidableEq α] [Datum α] {K : PySem.W.Frag} {H : Hp} {Q : VK} {v u : V} {x : α} {ys : List α} (h1 : Dp K H v (Datum.toD x)) (h2 : Dp K H u (Datum.toD (⟨ys⟩ : Tup α))) (l1 : (Datum.toD x : PyData).canLay0 = true) (l2 : ∀ y ∈ ys, (Datum.toD y : PyData).canLay0 = true) (hd : Datum.depth α < 64)
    (q : Q (.bl (decide (x ∈ ys))) H) : rInTD K v u H Q := by
  refine ⟨_, ys.map Datum.toD, h1, h2, shaped_of' l1 (Nat.le_of_lt hd), shaped_of' (x := (⟨ys⟩ : Tup α)) (lay_tup ys l2) hd, ?_⟩
  rw [any_in]; exact q
theorem dpTup {β : Type} [DecidableEq β] [Datum β] {K : PySem.W.Frag} {H : Hp} {a : Addr} {rs : List (V × β)} (h : SqT K H a (rs.map (·.1))) (hd : ∀ r ∈ rs, Dp K H r.1 (Datum.toD r.2)) : Dp K H (.ref a) (Datum.toD (⟨rs.map (·.2)⟩ : Tup β)) := by
  have : (Datum.toD (⟨rs.map (·.2)⟩ : Tup β) : PyData) = .tuple (rs.map fun r => Datum.toD r.2) := by
    show PyData.tuple ((rs.map (·.2)).map Datum.toD) = _
    rw [List.map_map]; rfl
  rw [this]
  exact .tup h (dpAll hd)
/-- is (p, h) among the pairs? -/
theorem pairIn {K : PySem.W.Frag} {H : Hp} {Q : VK} {b q : Addr} {p h : Str} {pr : List (Addr × List Str)} (hb : H b = some (.tup [.str p, .str h])) (hq : H q = some (.tup (pr.map fun x => V.ref x.1))) (hx : ∀ x ∈ pr, TupS H x.1 x.2) (op : PyData.strOk p = true) (oh : PyData.strOk h = true) (oq : ∀ x ∈ pr, OkS x.2)
    (k : Q (.bl (rel pr p h)) H) : rInTD K (.ref b) (.ref q) H Q := by
  have e2 : (pr.map fun x => (V.ref x.1, (⟨x.2⟩ : Tup Str))).map (·.2) = pr.map fun x => (⟨x.2⟩ : Tup Str) := by rw [List.map_map]; rfl
  refine inOf (α := Tup Str) (x := ⟨[p, h]⟩) (ys := pr.map fun x => ⟨x.2⟩) (dpTupS (SqT.of hb)) ?_ (lay_tupS fun x hx => ?_) (fun y hy => ?_) (by show 0 + 1 < 64; decide) ?_
  · rw [← e2]
    refine dpTup (by rw [List.map_map]; exact SqT.of hq) fun r hr => ?_
    obtain ⟨x, hx2, rfl⟩ := List.mem_map.mp hr
    exact dpTupS (SqT.of (hx x hx2))
  · rcases List.mem_cons.mp hx with rfl | hx
    · exact op
    · rw [List.mem_singleton.mp hx]; exact oh
  · obtain ⟨x, hx2, rfl⟩ := List.mem_map.mp hy
    exact lay_tupS (oq x hx2)
  · have e : decide ((⟨[p, h]⟩ : Tup Str) ∈ pr.map fun x => (⟨x.2⟩ : Tup Str)) = rel pr p h := by
      unfold rel
      refine decide_eq_decide.mpr ?_
      simp only [List.mem_map]
      constructor
      · rintro ⟨x, h1, h2⟩; exact ⟨x, h1, congrArg Tup.items h2⟩
      · rintro ⟨x, h1, h2⟩; exact ⟨x, h1, congrArg Tup.mk h2⟩
    rw [e]; exact k
section
variable {P : Program} {w : World} {K : PySem.W.Frag} {mg : Str → Option Value} {base : Heap}
abbrev nLCells : List Str := ["_law_table_here", "_law_order_here", "_law_person", "_law_house"]
theorem scLCells : FnScope nLCells ["_law_table_here", "_law_order_here"] (defScope sLCells) := ⟨rfl, rfl, rfl, by decide +kernel, rfl, by decide +kernel, by decide +kernel⟩
theorem ok_lcells {f C : Addr} {fd : FuncData} (F : Fun K "_law_cells" "_law_cells" sLCells f fd) (T : TxtL K mg C) : FnOk P w K mg base CX0 1 f fd ["_law_table_here", "_law_order_here"] (spLCells C) := by
  refine F.ok scLCells (fun vs H Q E h => ?_) (fun cdv A outer s H vs Q E hr h => ?_)
  · obtain ⟨t, o, _, _, _, rfl, _⟩ := h
    rfl
  · obtain ⟨t, o, pr, ps, hs, rfl, ask, op, oh, oq, k⟩ := h
    have hu : (ard "_law_cells" sLCells A s f cdv).units + 65 < cLine := by
      have q : (ard "_law_cells" sLCells A s f cdv).units + 16 * 0 + 200 < cLine := hr.un
      omega
    refine ⟨_, pss_one (ps_ret (pe_lc (own := [("_law_person", 2)]) (g := gName 2) (tt := tYes) (by rfl) scLCells.nd (piT (K := K) (pe_ix (ixT (K := K)) (pv 1) pe_int (fun _ _ => rfl))) (blkOk_by (N := nLCells) (sc := defScope sLCells) (by decide +kernel))
        (fun _ _ _ _ _ => pg_name (i := 2) scLCells.nd rfl (Or.inr rfl)) (fun _ _ _ _ _ => pts_nil)
        (fun _ _ _ _ _ => pe_lc (own := [("_law_house", 3)]) (g := gName 3) (tt := tYes) (by rfl) scLCells.nd (piT (K := K) (pe_ix (ixT (K := K)) (pv 1) pe_int (fun _ _ => rfl))) (blkOk_by (N := nLCells) (sc := relS (lcSc (retOf (bodyAt sLCells 0))) (defScope sLCells)) (by decide +kernel))
            (fun _ _ _ _ _ => pg_name (i := 3) scLCells.nd rfl (Or.inl rfl)) (fun _ _ _ _ _ => pts_nil)
            (fun _ _ _ _ _ => pe_ifExp (pt_cmpR (inTD (K := K) hu) (pe_tup (pa_cons (pv 2) (pa_cons (pv 3) pa_nil))) (peFld (K := K) (pv 0) rfl) (by rfl)) pe_int pe_int)))), ?_⟩
    obtain ⟨P', Hs, hT⟩ := ask.T
    obtain ⟨dx, pa, ha, qa, t1, t2, t3, t4, t5, t6⟩ := id hT
    obtain ⟨po, ho, o1, o2, o3⟩ := id ask.O
    have z1 := ask.p
    have z2 := ask.h
    refine ⟨_, rfl, o, _, 0, _, rfl, rfl, SqT.of o1, rfl, po, rfl, ⟨_, SqT.of o2⟩, fun D hD => ?_⟩
    refine map_tup yes (fun j y H => ∃ a, y = .ref a ∧ (a ≠ D ∧ H a = some (.lst (((matOf (rel pr) ps hs).getD j []).map V.int)))) hD (SqT.of o2) (szl (by rw [List.length_map]; omega)) (fun j y H H' e ⟨a, h1, h2, h3⟩ => ⟨a, h1, h2, e _ _ h2 h3⟩) (fun i x H2 hi p => ?_) (fun ys H2 hs2 hd2 hy => ?_)
    · obtain ⟨q, hq, rfl⟩ := map_at hi
      intro k2 k2' kk kk'
      refine ⟨rfl, ⟨_, rfl, o, _, 1, _, rfl, rfl, SqT.of (p.1 _ _ o1), rfl, ho, rfl, ⟨_, SqT.of (p.1 _ _ o3)⟩, fun D2 hD2 => ?_⟩⟩
      refine map_tup yes (fun j y H => ∃ h, hs[j]? = some h ∧ y = .int (b2 (rel pr q h))) hD2 (SqT.of (p.1 _ _ o3)) (szl (by rw [List.length_map]; omega)) (fun j y H H' e h => h) (fun i2 x2 H3 hi2 p2 => ?_) (fun ys2 H3 hs3 hd3 hy2 => ?_)
      · obtain ⟨h2, hh2, rfl⟩ := map_at hi2
        intro k3 k3' kk3 kk3'
        refine ⟨rfl, ⟨_, rfl, _, rfl, szl (by show 2 ≤ 4000; decide), fun pt hpt => ?_⟩⟩
        have s4 := Same.trans (Same.trans p.1 p2.1) (Same.new (o := .tup [.str q, .str h2]) hpt)
        have k3s := Same.new (o := .tup [.str q, .str h2]) hpt
        refine ⟨_, rfl, t, C, dx, _, _, rfl, s4 _ _ t1, T.t.cl, T.t.nQ, tabF_q _ _ _, ?_⟩
        refine pairIn (pr := pr) upd_same (s4 _ _ t5) (fun x hx => s4 _ _ (t6 x hx)) (op _ (List.mem_of_getElem? hq)) (oh _ (List.mem_of_getElem? hh2)) oq ⟨_, rfl, ?_⟩
        cases e : rel pr q h2 with
        | true => exact iteT (kk3 rfl _ _ k3s ⟨h2, hh2, by rw [e]; rfl⟩)
        | false => exact iteF (kk3 rfl _ _ k3s ⟨h2, hh2, by rw [e]; rfl⟩)
      · rw [List.length_map] at hy2
        obtain rfl := each_vals hy2 rfl
        refine kk rfl _ _ hs3 ⟨D2, rfl, off_ne p.2.choose_spec.1 hD2, ?_⟩
        rw [hd3]
        have e : (matOf (rel pr) ps hs).getD i [] = hs.map fun h => b2 (rel pr q h) := by
          unfold matOf
          rw [List.getD_eq_getElem?_getD, List.getElem?_map, hq]; rfl
        rw [e, List.map_map]; rfl
    · rw [List.length_map, filter_yes] at hy
      obtain ⟨rs, rfl, e2, e3⟩ := each_refs (R := fun a row => a ≠ D ∧ H2 a = some (.lst (row.map V.int))) (q := fun j => (matOf (rel pr) ps hs).getD j []) hy
      refine k H2 D rs hs2 ⟨hd2, fun r hr => (e3 r hr).2⟩ ?_
      rw [e2]
      have : ps.length = (matOf (rel pr) ps hs).length := by unfold matOf; rw [List.length_map]
      rw [this]
      exact range_getD _ _
end
end Sv
end

section
set_option Elab.async false
set_option linter.all false
set_option maxRecDepth 100000
set_option maxHeartbeats 4000000
namespace Sv
open PySem L2 LamX
open PySem.W (Datum DatumOrd Tup)
/-- a bent corner of rows by places -/
def BadAt (rs : List (Addr × List Int)) (i j l h : Nat) : Prop := ∃ r1 r2, rs[i]? = some r1 ∧ rs[j]? = some r2 ∧ i < j ∧ BadI r1.2 r2.2 l h
def spLBent : Sp := fun vs H Q _ => ∃ (a : Addr) (rs : List (Addr × List Int)) (n : Nat), vs = [.ref a] ∧ RowsL H a rs ∧ 0 < rs.length ∧ rs.length ≤ 6 ∧ n ≤ 6 ∧ (∀ r ∈ rs, r.2.length = n) ∧
  ∀ (H' : Hp) (b : Addr) (xs : List V), Same H H' → H' b = some (.lst xs) → (xs = [] ↔ ∀ i j l h, ¬ BadAt rs i j l h) → Q (.ref b) H'
/-- what is found so far -/
def Fnd (rs : List (Addr × List Int)) (H H' : Hp) (lf : Addr) (cnt : Nat) (D : Nat → Nat → Nat → Prop) : Prop := ∃ xs, Same H H' ∧ H' lf = some (.lst xs) ∧ xs.length ≤ cnt ∧ (xs = [] ↔ ∀ i j l h, D i j l → ¬ BadAt rs i j l h)
theorem Fnd.weak {rs : List (Addr × List Int)} {H H' : Hp} {lf : Addr} {c c' : Nat} {D D' : Nat → Nat → Nat → Prop} (X : Fnd rs H H' lf c D) (hc : c ≤ c') (hD : ∀ i j l h, BadAt rs i j l h → (D i j l ↔ D' i j l)) : Fnd rs H H' lf c' D' := by
  obtain ⟨xs, s, h, l, e⟩ := X
  refine ⟨xs, s, h, Nat.le_trans l hc, e.trans ⟨fun q i j l h d b => q i j l h ((hD i j l h b).mpr d) b, fun q i j l h d b => q i j l h ((hD i j l h b).mp d) b⟩⟩
theorem fnd_iff {rs : List (Addr × List Int)} {xs zs : List V} {D D' : Nat → Nat → Nat → Prop} {p q r : Nat} (X : xs = [] ↔ ∀ i j l h, D i j l → ¬ BadAt rs i j l h) (Z : zs = [] ↔ ∀ h, ¬ BadAt rs p q r h) (hD : ∀ i j l, D' i j l ↔ D i j l ∨ (i = p ∧ j = q ∧ l = r)) :
    xs ++ zs = [] ↔ ∀ i j l h, D' i j l → ¬ BadAt rs i j l h := by
  rw [List.append_eq_nil_iff, X, Z]
  constructor
  · rintro ⟨h1, h2⟩ i j l h d
    rcases (hD i j l).mp d with d | ⟨rfl, rfl, rfl⟩
    · exact h1 i j l h d
    · exact h2 h
  · intro h0
    exact ⟨fun i j l h d => h0 i j l h ((hD i j l).mpr (.inl d)), fun h => h0 p q r h ((hD p q r).mpr (.inr ⟨rfl, rfl, rfl⟩))⟩
section
variable {P : Program} {w : World} {K : PySem.W.Frag} {mg : Str → Option Value} {base : Heap}
theorem RowsL.same {a : Addr} {H H' : Hp} {rs : List (Addr × List Int)} (R : RowsL H a rs) (s : Same H H') : RowsL H' a rs := R.ext (Same.toN s)
abbrev nLBent : List Str := ["_law_rows", "_law_found", "_law_p", "_law_q", "_law_h", "_law_i"]
theorem scLBent : FnScope nLBent ["_law_rows"] (defScope sLBent) := ⟨rfl, rfl, rfl, by decide +kernel, rfl, by decide +kernel, by decide +kernel⟩
theorem ok_lbent {f C : Addr} {fd : FuncData} (F : Fun K "_law_bent" "_law_bent" sLBent f fd) (T : TxtL K mg C) : FnOk P w K mg base CX0 1 f fd ["_law_rows"] spLBent := by
  refine F.ok scLBent (fun vs H Q E h => ?_) (fun cdv A outer s H vs Q E hr h => ?_)
  · obtain ⟨a, _, _, rfl, _⟩ := h
    rfl
  · obtain ⟨a, rs, n, rfl, R, m0, m6, n6, hw, k⟩ := h
    refine ⟨_, pss_cons (ps_set (i := 1) scLBent.nd rfl (Or.inl rfl) (pe_lst pa_nil))
      (pss_cons (ps_for PassesOwn.never rfl (pi_range1 (by rfl) T.t.range (pa_cons (pe_callB (callLen (K := K)) (by rfl) T.t.len PySem.boot_len (pa_cons (pv 0) pa_nil)) pa_nil)) (pg_name (i := 2) scLBent.nd rfl (Or.inr rfl))
        (pss_one (ps_for PassesOwn.never rfl (pi_range2 (by rfl) T.t.range (pa_cons (pe_op op_add (pv 2) pe_int) (pa_cons (pe_callB (callLen (K := K)) (by rfl) T.t.len PySem.boot_len (pa_cons (pv 0) pa_nil)) pa_nil))) (pg_name (i := 3) scLBent.nd rfl (Or.inr rfl))
          (pss_one (ps_for PassesOwn.never rfl (pi_range1 (by rfl) T.t.range (pa_cons (pe_callB (callLen (K := K)) (by rfl) T.t.len PySem.boot_len (pa_cons (pe_ix (ixL (K := K)) (pv 0) pe_int (fun _ _ => rfl)) pa_nil)) pa_nil)) (pg_name (i := 4) scLBent.nd rfl (Or.inr rfl))
            (pss_one (ps_if (pw_and (pt_cmpR op_eq (pe_ix (ixL (K := K)) (pe_ix (ixL (K := K)) (pv 0) (pv 2) (fun _ _ => rfl)) (pv 4) (fun _ _ => rfl)) pe_int (nomark _)) (pw_and1 (pt_cmpR op_eq (pe_ix (ixL (K := K)) (pe_ix (ixL (K := K)) (pv 0) (pv 3) (fun _ _ => rfl)) (pv 4) (fun _ _ => rfl)) pe_int (nomark _)))).pt
              (pss_one (ps_set (i := 1) scLBent.nd rfl (Or.inl rfl) (pe_op op_cat (pv 1) (pe_lc (own := [("_law_i", 5)]) (g := gName 5) (by rfl) scLBent.nd (pi_range2 (by rfl) T.t.range (pa_cons (pe_op op_add (pv 4) pe_int) (pa_cons (pe_callB (callLen (K := K)) (by rfl) T.t.len PySem.boot_len (pa_cons (pe_ix (ixL (K := K)) (pv 0) pe_int (fun _ _ => rfl)) pa_nil)) pa_nil))) (blkOk_by (N := nLBent) (sc := defScope sLBent) (by decide +kernel))
                (fun _ _ _ _ _ => pg_name (i := 5) scLBent.nd rfl (Or.inl rfl))
                (fun _ _ _ _ _ => pts_one (pw_and (pt_cmpR op_eq (pe_ix (ixL (K := K)) (pe_ix (ixL (K := K)) (pv 0) (pv 2) (fun _ _ => rfl)) (pv 5) (fun _ _ => rfl)) pe_int (nomark _)) (pw_and1 (pt_cmpR op_eq (pe_ix (ixL (K := K)) (pe_ix (ixL (K := K)) (pv 0) (pv 3) (fun _ _ => rfl)) (pv 5) (fun _ _ => rfl)) pe_int (nomark _)))).pt)
                (fun _ _ _ _ _ => pe_tup (pa_cons (pv 2) (pa_cons (pv 3) (pa_cons (pv 4) (pa_cons (pv 5) pa_nil))))))))) pss_nil)))))))
      (pss_one (ps_ret (pv 1)))), ?_⟩
    obtain ⟨r0, h0⟩ : ∃ r0, rs[0]? = some r0 := ⟨_, List.getElem?_eq_getElem m0⟩
    have lr0 := hw r0 (List.mem_of_getElem? h0)
    refine ⟨Nat.zero_le _, fun l0 hl0 => ⟨_, rfl, a, _, rfl, .inl (SqL.of (Same.new hl0 _ _ R.1)), (rs.length : Nat), by rw [List.length_map], by omega, by omega, ?_⟩⟩
    refine for_range (lo := 0) (n := ((rs.length : Nat) : Int).toNat) (fun p σ H' => ∃ lf x2 x3 x4 x5, σ = [some (.ref a), some (.ref lf), x2, x3, x4, x5] ∧ Fnd rs H H' lf (p * 216) (fun i j l => i < p)) ⟨l0, _, _, _, _, rfl, [], Same.new hl0, upd_same, Nat.zero_le _, ⟨fun _ i j l h z => absurd z (Nat.not_lt_zero _), fun _ => rfl⟩⟩ (fun p σ H1 hp st => ?_) (fun σ H1 st => ?_)
    · obtain ⟨lf, x2, x3, x4, x5, rfl, X⟩ := st
      have s1 : Same H H1 := X.choose_spec.1
      have hp : p < rs.length := by omega
      have ep : (0 : Int) + (p : Nat) = (p : Int) := by omega
      show gName 2 (.int ((0 : Int) + (p : Nat))) _ _ _
      rw [ep]
      refine ⟨_, rfl, _, _, rfl, rfl, _, rfl, a, _, rfl, .inl (SqL.of (s1 _ _ R.1)), (p : Int) + 1, (rs.length : Nat), by rw [List.length_map], ⟨by omega, by omega, by omega, by omega⟩, ?_⟩
      refine for_range (lo := (p : Int) + 1) (n := (((rs.length : Nat) : Int) - ((p : Int) + 1)).toNat) (fun m σ H' => ∃ lf x3 x4 x5, σ = [some (.ref a), some (.ref lf), some (.int p), x3, x4, x5] ∧ Fnd rs H H' lf (p * 216 + m * 36) (fun i j l => i < p ∨ (i = p ∧ j < p + 1 + m))) ⟨lf, _, _, _, rfl, X.weak (by omega) fun i j l h ⟨_, _, _, _, b, _⟩ => by omega⟩ (fun m σ H2 hm st2 => ?_) (fun σ H2 st2 => ?_)
      · obtain ⟨lf, x3, x4, x5, rfl, X2⟩ := st2
        have s2 : Same H H2 := X2.choose_spec.1
        have hq : p + 1 + m < rs.length := by omega
        have eq : (p : Int) + 1 + (m : Nat) = ((p + 1 + m : Nat) : Int) := by omega
        show gName 3 (.int ((p : Int) + 1 + (m : Nat))) _ _ _
        rw [eq]
        refine ⟨_, rfl, a, _, 0, _, rfl, rfl, SqL.of (s2 _ _ R.1), atI_nat (row_ref h0), r0.1, _, rfl, .inl (SqL.of (s2 _ _ (row_getL R h0))), (n : Nat), by rw [List.length_map, lr0], by omega, by omega, ?_⟩
        refine for_range (lo := 0) (n := ((n : Nat) : Int).toNat) (fun hh σ H' => ∃ lf x4 x5, σ = [some (.ref a), some (.ref lf), some (.int p), some (.int ((p + 1 + m : Nat) : Int)), x4, x5] ∧ Fnd rs H H' lf (p * 216 + m * 36 + hh * 6) (fun i j l => i < p ∨ (i = p ∧ (j < p + 1 + m ∨ (j = p + 1 + m ∧ l < hh))))) ⟨lf, _, _, rfl, X2.weak (by omega) fun i j l h _ => by omega⟩ (fun hh σ H3 hhn st3 => ?_) (fun σ H3 st3 => ?_)
        · obtain ⟨lf, x4, x5, rfl, xs, s3, hlf, lxs, iff⟩ := st3
          have hhn : hh < n := by omega
          have eh : (0 : Int) + (hh : Nat) = (hh : Int) := by omega
          show gName 4 (.int ((0 : Int) + (hh : Nat))) _ _ _
          rw [eh]
          obtain ⟨r1, g1⟩ : ∃ r1, rs[p]? = some r1 := ⟨_, List.getElem?_eq_getElem hp⟩
          obtain ⟨r2, g2⟩ : ∃ r2, rs[p + 1 + m]? = some r2 := ⟨_, List.getElem?_eq_getElem hq⟩
          have l1 := hw r1 (List.mem_of_getElem? g1)
          have l2 := hw r2 (List.mem_of_getElem? g2)
          have at1 : ∀ j, j < n → r1.2[j]? = some (r1.2.getD j 0) := fun j hj => by rw [List.getD_eq_getElem?_getD, List.getElem?_eq_getElem (by omega : j < r1.2.length)]; rfl
          have at2 : ∀ j, j < n → r2.2[j]? = some (r2.2.getD j 0) := fun j hj => by rw [List.getD_eq_getElem?_getD, List.getElem?_eq_getElem (by omega : j < r2.2.length)]; rfl
          have hD : ∀ i j l : Nat, (i < p ∨ (i = p ∧ (j < p + 1 + m ∨ (j = p + 1 + m ∧ l < hh + 1)))) ↔ (i < p ∨ (i = p ∧ (j < p + 1 + m ∨ (j = p + 1 + m ∧ l < hh)))) ∨ (i = p ∧ j = p + 1 + m ∧ l = hh) := fun i j l => by omega
          have badE : ∀ h, BadAt rs p (p + 1 + m) hh h ↔ BadI r1.2 r2.2 hh h := fun h => ⟨fun ⟨q1, q2, e1, e2, _, b⟩ => by
            rw [g1] at e1; rw [g2] at e2
            cases e1; cases e2; exact b, fun b => ⟨r1, r2, g1, g2, by omega, b⟩⟩
          have none1 : (∀ h, ¬ BadI r1.2 r2.2 hh h) → ∃ lf' y4 y5, [some (V.ref a), some (V.ref lf), some (.int p), some (.int ((p + 1 + m : Nat) : Int)), some (.int (hh : Nat)), x5] = [some (.ref a), some (.ref lf'), some (.int p), some (.int ((p + 1 + m : Nat) : Int)), y4, y5] ∧ Fnd rs H H3 lf' (p * 216 + m * 36 + (hh + 1) * 6) (fun i j l => i < p ∨ (i = p ∧ (j < p + 1 + m ∨ (j = p + 1 + m ∧ l < hh + 1)))) := fun z => by
            refine ⟨lf, _, _, rfl, xs, s3, hlf, by omega, ?_⟩
            have := fnd_iff (zs := []) iff ⟨fun _ h b => z h ((badE h).mp b), fun _ => rfl⟩ hD
            rwa [List.append_nil] at this
          have u1 := SqL.of (K := K) (s3 _ _ R.1)
          have v1 := SqL.of (K := K) (s3 _ _ (row_getL R g1))
          have v2 := SqL.of (K := K) (s3 _ _ (row_getL R g2))
          refine ⟨_, rfl, _, rfl, a, _, p, _, rfl, rfl, u1, atI_nat (row_ref g1), _, rfl, r1.1, _, hh, _, rfl, rfl, v1, atI_nat (int_get (at1 hh hhn)), rfl, _, rfl, ?_⟩
          refine ite2 (fun e1 => ?_) (fun e1 => iteF (none1 fun h b => e1 (decide_eq_true ?_)))
          · have e1 := V.int.inj (of_decide_eq_true e1)
            refine ⟨_, rfl, _, rfl, a, _, _, _, rfl, rfl, u1, atI_nat (row_ref g2), _, rfl, r2.1, _, hh, _, rfl, rfl, v2, atI_nat (int_get (at2 hh hhn)), rfl, _, rfl, ?_⟩
            refine ite2 (fun e2 => ?_) (fun e2 => none1 fun h b => e2 (decide_eq_true ?_))
            · have e2 := V.int.inj (of_decide_eq_true e2)
              refine ⟨_, rfl, _, rfl, _, _, rfl, rfl, _, rfl, a, _, 0, _, rfl, rfl, u1, atI_nat (row_ref h0), r0.1, _, rfl, .inl (SqL.of (s3 _ _ (row_getL R h0))), (hh : Int) + 1, (n : Nat), by rw [List.length_map, lr0], ⟨by omega, by omega, by omega, by omega⟩, fun L hL => ?_⟩
              refine map_range (lo := (hh : Int) + 1) (n := (((n : Nat) : Int) - ((hh : Int) + 1)).toNat) (fun i => decide (r1.2.getD (hh + 1 + i) 0 = 1) && decide (r2.2.getD (hh + 1 + i) 0 = 0)) (fun j y H => True) hL (szl (by omega)) (fun j y Ha Hb e h => h) (fun i H4 hi p4 => ?_) (fun ys H4 hs4 hd4 hy => ?_)
              · intro k4 k4' kk kk'
                have hi : hh + 1 + i < n := by omega
                have ei : (hh : Int) + 1 + (i : Nat) = ((hh + 1 + i : Nat) : Int) := by omega
                show gName 5 (.int ((hh : Int) + 1 + (i : Nat))) _ _ _
                rw [ei]
                have s4 := Same.trans s3 p4.1
                refine ⟨rfl, ⟨_, rfl, _, rfl, a, _, p, _, rfl, rfl, SqL.of (s4 _ _ R.1), atI_nat (row_ref g1), _, rfl, r1.1, _, _, _, rfl, rfl, SqL.of (s4 _ _ (row_getL R g1)), atI_nat (int_get (at1 _ hi)), rfl, _, rfl, ?_⟩⟩
                refine ite2 (fun c1 => ?_) (fun c1 => iteF (kk' ?_ _ (fun _ _ e => e)))
                · have c1 := V.int.inj (of_decide_eq_true c1)
                  refine ⟨_, rfl, _, rfl, a, _, _, _, rfl, rfl, SqL.of (s4 _ _ R.1), atI_nat (row_ref g2), _, rfl, r2.1, _, _, _, rfl, rfl, SqL.of (s4 _ _ (row_getL R g2)), atI_nat (int_get (at2 _ hi)), rfl, _, rfl, ?_⟩
                  refine ite2 (fun c2 => ?_) (fun c2 => kk' ?_ _ (fun _ _ e => e))
                  · have c2 := V.int.inj (of_decide_eq_true c2)
                    refine ⟨_, rfl, _, rfl, _, rfl, _, rfl, szl (by show 4 ≤ 4000; decide), fun t ht => kk ?_ _ _ (Same.new ht) trivial⟩
                    show (decide _ && decide _) = true
                    rw [c1, c2]; rfl
                  · show (decide _ && decide _) = false
                    rw [decide_eq_false (p := r2.2.getD (hh + 1 + i) 0 = 0) fun z => c2 (decide_eq_true (by rw [z])), Bool.and_false]
                · show (decide _ && decide _) = false
                  rw [decide_eq_false (p := r1.2.getD (hh + 1 + i) 0 = 1) fun z => c1 (decide_eq_true (by rw [z])), Bool.false_and]
              · have ly := hy.length
                have ly6 : ys.length ≤ 6 := by
                  rw [ly]
                  refine Nat.le_trans (List.length_filter_le _ _) ?_
                  rw [List.length_range]; omega
                have Z : ys = [] ↔ ∀ h, ¬ BadAt rs p (p + 1 + m) hh h := by
                  rw [← List.length_eq_zero_iff, ly, List.length_eq_zero_iff, List.filter_eq_nil_iff]
                  constructor
                  · intro z h b
                    obtain ⟨b1, b2, b3, b4, b5⟩ := (badE h).mp b
                    have hln : h < n := by have := (List.getElem?_eq_some_iff.mp b3).1; omega
                    have := z (h - (hh + 1)) (List.mem_range.mpr (by omega))
                    apply this
                    show (decide _ && decide _) = true
                    rw [show hh + 1 + (h - (hh + 1)) = h by omega]
                    rw [at1 h hln] at b3
                    rw [at2 h hln] at b5
                    rw [Option.some.inj b3, Option.some.inj b5]; rfl
                  · intro z i hi hF
                    have hi : hh + 1 + i < n := by have := List.mem_range.mp hi; omega
                    have hF : (decide (r1.2.getD (hh + 1 + i) 0 = 1) && decide (r2.2.getD (hh + 1 + i) 0 = 0)) = true := hF
                    rw [Bool.and_eq_true] at hF
                    have c1 := of_decide_eq_true hF.1
                    have c2 := of_decide_eq_true hF.2
                    refine z (hh + 1 + i) ((badE _).mpr ⟨by omega, ?_, ?_, ?_, ?_⟩)
                    · rw [at1 hh hhn, e1]
                    · rw [at1 _ hi, c1]
                    · rw [at2 hh hhn, e2]
                    · rw [at2 _ hi, c2]
                refine ⟨lf, L, xs, ys, rfl, rfl, hs4 _ _ hlf, hd4, szl (by omega), fun t ht => ?_⟩
                exact ⟨t, _, _, rfl, xs ++ ys, Same.more (Same.trans s3 hs4) ht, upd_same, by rw [List.length_append]; omega, fnd_iff iff Z hD⟩
            · have b4 := b.2.2.2.1
              rw [at2 hh hhn] at b4
              rw [Option.some.inj b4]
          · have b2 := b.2.1
            rw [at1 hh hhn] at b2
            rw [Option.some.inj b2]
        · obtain ⟨lf, x4, x5, rfl, X3⟩ := st3
          refine ⟨lf, _, _, _, rfl, X3.weak (by omega) fun i j l h b => ?_⟩
          obtain ⟨q1, q2, e1, e2, b1, b2⟩ := b
          have : l < n := by
            have := (List.getElem?_eq_some_iff.mp b2.2.1).1
            rw [hw q1 (List.mem_of_getElem? e1)] at this; exact this
          omega
      · obtain ⟨lf, x3, x4, x5, rfl, X2⟩ := st2
        refine ⟨lf, _, _, _, _, rfl, X2.weak (by omega) fun i j l h b => ?_⟩
        obtain ⟨q1, q2, e1, e2, b1, b2⟩ := b
        have := (List.getElem?_eq_some_iff.mp e2).1
        omega
    · obtain ⟨lf, x2, x3, x4, x5, rfl, xs, s1, hlf, _, iff⟩ := st
      refine ⟨_, rfl, k H1 lf xs s1 hlf (iff.trans ⟨fun q i j l h b => q i j l h ?_ b, fun q i j l h _ => q i j l h⟩)⟩
      obtain ⟨q1, q2, e1, e2, b1, b2⟩ := b
      have := (List.getElem?_eq_some_iff.mp e1).1
      omega
end
end Sv
end

section
/-! The search for a ring, in plain lists. -/
set_option autoImplicit false
namespace Sv
theorem nodup_le : ∀ (n : Nat) (T : List Nat), T.Nodup → (∀ x ∈ T, x < n) → T.length ≤ n
  | 0, T, _, h => by
    cases T with
    | nil => exact Nat.le_refl _
    | cons x T => exact absurd (h x List.mem_cons_self) (Nat.not_lt_zero _)
  | n + 1, T, hd, h => by
    have h1 := nodup_le n (T.erase n) (hd.erase n) fun x hx => by
      have := (hd.mem_erase_iff).mp hx
      have := h x this.2
      have := this
      have ne := ((hd.mem_erase_iff).mp hx).1
      omega
    have h2 : T.length ≤ (T.erase n).length + 1 := by
      rw [List.length_erase]
      split <;> omega
    omega
section
variable (M : Nat → Nat → Bool) (m n p lo hi : Nat)
def FP : List Nat := (List.range m).filter fun q => decide (q ≠ p) && !(M q lo && M q hi)
def FH : List Nat := (List.range n).filter fun j => !(M p j) || decide (j = hi)
abbrev R0 (x : Nat) : Prop := Rch M (· < m) (· < n) p lo hi x
structure BInv (T : List Nat) (t : Nat) : Prop where
  nd : T.Nodup
  b : lo ∈ T
  r : ∀ x ∈ T, x < n ∧ R0 M m n p lo hi x
  len0 : t ≤ T.length
  cl : ∀ i x, i < t → T[i]? = some x → ∀ q ∈ FP M m p lo hi, M q x = true → ∀ h ∈ FH M n p hi, M q h = true → h ∈ T
def Part (T : List Nat) (x k : Nat) : Prop := ∀ j q, j < k → (FP M m p lo hi)[j]? = some q → M q x = true → ∀ h ∈ FH M n p hi, M q h = true → h ∈ T
def more (T : List Nat) (q : Nat) : List Nat := (FH M n p hi).filter fun h => M q h && !(decide (h ∈ T))
variable {M m n p lo hi}
theorem mem_FP {q : Nat} : q ∈ FP M m p lo hi ↔ q < m ∧ q ≠ p ∧ ¬(M q lo = true ∧ M q hi = true) := by
  unfold FP
  rw [List.mem_filter, List.mem_range]
  cases M q lo <;> cases M q hi <;> simp
theorem mem_FH {j : Nat} : j ∈ FH M n p hi ↔ j < n ∧ (M p j = false ∨ j = hi) := by
  unfold FH
  rw [List.mem_filter, List.mem_range]
  cases M p j <;> simp
theorem mem_more {T : List Nat} {q h : Nat} : h ∈ more M n p hi T q ↔ h ∈ FH M n p hi ∧ M q h = true ∧ h ∉ T := by
  unfold more
  rw [List.mem_filter]
  simp
theorem BInv.start (hlo : lo < n) : BInv M m n p lo hi [lo] 0 :=
  ⟨by simp, by simp, fun x hx => by rw [List.mem_singleton.mp hx]; exact ⟨hlo, .base⟩, Nat.zero_le _, fun i x hi => absurd hi (Nat.not_lt_zero _)⟩
theorem BInv.add {T : List Nat} {t x q : Nat} (B : BInv M m n p lo hi T t) (hx : x ∈ T) (hq : q ∈ FP M m p lo hi) (hm : M q x = true) : BInv M m n p lo hi (T ++ more M n p hi T q) t := by
  refine ⟨?_, List.mem_append_left _ B.b, fun y hy => ?_, Nat.le_trans B.len0 (by rw [List.length_append]; omega), fun i y hi hy => ?_⟩
  · rw [List.nodup_append]
    refine ⟨B.nd, List.Pairwise.filter _ (List.Pairwise.filter _ List.nodup_range), fun a ha b hb e => ?_⟩
    subst e
    exact (mem_more.mp hb).2.2 ha
  · rcases List.mem_append.mp hy with hy | hy
    · exact B.r y hy
    · obtain ⟨h1, h2, _⟩ := mem_more.mp hy
      obtain ⟨h3, h4⟩ := mem_FH.mp h1
      obtain ⟨q1, q2, q3⟩ := mem_FP.mp hq
      exact ⟨h3, .step (B.r x hx).2 q1 q2 q3 hm h2 h3 h4⟩
  · rw [List.getElem?_append_left (by have := B.len0; omega)] at hy
    exact fun q' hq' e h hh e' => List.mem_append_left _ (B.cl i y hi hy q' hq' e h hh e')
theorem Part.add {T : List Nat} {x k q : Nat} (X : Part M m n p lo hi T x k) (hk : (FP M m p lo hi)[k]? = some q) : Part M m n p lo hi (T ++ more M n p hi T q) x (k + 1) := by
  intro j q' hj hq' e h hh e'
  rcases Nat.lt_or_ge j k with z | z
  · exact List.mem_append_left _ (X j q' z hq' e h hh e')
  · obtain rfl : j = k := by omega
    rw [hk] at hq'
    obtain rfl := Option.some.inj hq'
    by_cases hT : h ∈ T
    · exact List.mem_append_left _ hT
    · exact List.mem_append_right _ (mem_more.mpr ⟨hh, e', hT⟩)
theorem Part.skip {T : List Nat} {x k q : Nat} (X : Part M m n p lo hi T x k) (hk : (FP M m p lo hi)[k]? = some q) (hm : M q x = false) : Part M m n p lo hi T x (k + 1) := by
  intro j q' hj hq' e h hh e'
  rcases Nat.lt_or_ge j k with z | z
  · exact X j q' z hq' e h hh e'
  · obtain rfl : j = k := by omega
    rw [hk] at hq'
    obtain rfl := Option.some.inj hq'
    rw [hm] at e; cases e
theorem BInv.next {T : List Nat} {t x : Nat} (B : BInv M m n p lo hi T t) (hx : T[t]? = some x) (X : Part M m n p lo hi T x (FP M m p lo hi).length) : BInv M m n p lo hi T (t + 1) := by
  refine ⟨B.nd, B.b, B.r, (List.getElem?_eq_some_iff.mp hx).1, fun i y hi hy q hq e h hh e' => ?_⟩
  rcases Nat.lt_or_ge i t with z | z
  · exact B.cl i y z hy q hq e h hh e'
  · obtain rfl : i = t := by omega
    rw [hx] at hy
    obtain rfl := Option.some.inj hy
    obtain ⟨j, hj⟩ := List.getElem?_of_mem hq
    exact X j q (List.getElem?_eq_some_iff.mp hj).1 hj e h hh e'
theorem BInv.fin {T : List Nat} {t : Nat} (B : BInv M m n p lo hi T t) (ht : t = T.length ∨ t = n) : hi ∈ T ↔ R0 M m n p lo hi hi := by
  have hl := nodup_le n T B.nd fun x hx => (B.r x hx).1
  have htl : t = T.length := by have := B.len0; omega
  refine ⟨fun h => (B.r hi h).2, fun r => ?_⟩
  have all : ∀ {y}, R0 M m n p lo hi y → y ∈ T := fun {y} r => by
    induction r with
    | base => exact B.b
    | @step h h' q _ q1 q2 q3 m1 m2 ho ok ih =>
      obtain ⟨i, hi2⟩ := List.getElem?_of_mem ih
      exact B.cl i h (by have := (List.getElem?_eq_some_iff.mp hi2).1; omega) hi2 q (mem_FP.mpr ⟨q1, q2, q3⟩) m1 h' (mem_FH.mpr ⟨ho, ok⟩) m2
  exact all r
theorem BInv.len {T : List Nat} {t : Nat} (B : BInv M m n p lo hi T t) : T.length ≤ n := nodup_le n T B.nd fun x hx => (B.r x hx).1
end
end Sv
end

section
set_option Elab.async false
set_option linter.all false
set_option maxRecDepth 100000
set_option maxHeartbeats 4000000
namespace Sv
open PySem L2 LamX
open PySem.W (Datum DatumOrd Tup)
/-- the grid as a relation of places -/
def cellL (L : List (List Int)) (i j : Nat) : Int := (L.getD i []).getD j 0
def MatL (L : List (List Int)) (i j : Nat) : Bool := decide (cellL L i j = 1)
structure RowsB (H : Hp) (a : Addr) (rs : List (Addr × List Int)) (n : Nat) : Prop where
  R : RowsL H a rs
  m0 : 0 < rs.length
  m : rs.length ≤ 6
  n0 : 0 < n
  n6 : n ≤ 6
  w : ∀ r ∈ rs, Bits n r.2
theorem RowsB.same {a : Addr} {H H' : Hp} {rs : List (Addr × List Int)} {n : Nat} (X : RowsB H a rs n) (s : Same H H') : RowsB H' a rs n := ⟨X.R.same s, X.m0, X.m, X.n0, X.n6, X.w⟩
theorem GridL.rows {d c a : Addr} {H : Hp} {rs : List (Addr × List Int)} {n : Nat} (G : GridL d c H a rs n) : RowsB H a rs n := ⟨G.R, G.m0, G.m, G.n0, G.n6, G.w⟩
theorem RowsB.at {a : Addr} {H : Hp} {rs : List (Addr × List Int)} {n i j : Nat} (X : RowsB H a rs n) (hi : i < rs.length) (hj : j < n) : ∃ r, rs[i]? = some r ∧ r.2[j]? = some (cellL (rs.map (·.2)) i j) := by
  have hr : rs[i]? = some rs[i] := List.getElem?_eq_getElem hi
  refine ⟨_, hr, ?_⟩
  have : (rs.map (·.2)).getD i [] = rs[i].2 := by rw [List.getD_eq_getElem?_getD, List.getElem?_map, hr]; rfl
  unfold cellL
  rw [this, List.getD_eq_getElem?_getD, List.getElem?_eq_getElem (by rw [(X.w _ (List.getElem_mem hi)).1]; exact hj)]; rfl
theorem RowsB.zero {a : Addr} {H : Hp} {rs : List (Addr × List Int)} {n i j : Nat} (X : RowsB H a rs n) (hi : i < rs.length) (hj : j < n) : cellL (rs.map (·.2)) i j = 0 ↔ MatL (rs.map (·.2)) i j = false := by
  obtain ⟨r, h1, h2⟩ := X.at hi hj
  unfold MatL
  rw [decide_eq_false_iff_not]
  rcases (X.w r (List.mem_of_getElem? h1)).2 _ (List.mem_of_getElem? h2) with z | z
  · rw [z]; simp
  · rw [z]; simp
/-- a list of places -/
abbrev nats (T : List Nat) : List V := T.map fun j : Nat => V.int (j : Nat)
theorem inV_nats (x : Nat) (T : List Nat) : inV (.int (x : Nat)) (nats T) = decide (x ∈ T) := by
  unfold inV nats
  rw [List.any_map]
  induction T with
  | nil => rfl
  | cons y T ih =>
    rw [List.any_cons, ih]
    show (((y : Int) == (x : Int)) || _) = _
    by_cases e : y = x
    · subst e; simp
    · have : ¬ x = y := fun z => e z.symm
      have h2 : ¬ ((y : Int) = (x : Int)) := fun z => e (by omega)
      simp [e, this, h2]
theorem nats_flat (T : List Nat) : (nats T).all flatV = true := by
  rw [List.all_eq_true]
  intro v hv
  obtain ⟨j, _, rfl⟩ := List.mem_map.mp hv
  rfl
/-- which places the filter keeps -/
theorem each_nats {p : Nat → Bool} {ys : List V} {n : Nat} (e : PySem.W.EachIs (fun (y : V) (j : Nat) => y = .int (j : Nat)) ys ((List.range n).filter p)) : ys = nats ((List.range n).filter p) := by
  generalize (List.range n).filter p = is at e
  induction e with
  | nil => rfl
  | cons h t ih => rw [h, ih]; rfl
theorem each_natsF {f : Nat → Nat} {ys : List V} {is : List Nat} (e : PySem.W.EachIs (fun (y : V) (j : Nat) => y = .int ((f j : Nat) : Int)) ys is) : ys = nats (is.map f) := by
  induction e with
  | nil => rfl
  | cons h t ih => rw [h, ih]; rfl
theorem filter_getD (l : List Nat) (g : Nat → Bool) : ((List.range l.length).filter fun i => g (l.getD i 0)).map (fun i => l.getD i 0) = l.filter g := by
  have := congrArg (List.filter g) (range_getD l 0)
  rw [List.filter_map] at this
  exact this
theorem nats_get {T : List Nat} {i x : Nat} (h : T[i]? = some x) : (nats T)[i]? = some (.int (x : Nat)) := by rw [List.getElem?_map, h]; rfl
/-- rows[x][y] == 1, == 0 as a test -/
theorem cellT {K : PySem.W.Frag} {σ : L2.St} {H : Hp} {Q : Bool → Hp → Prop} {u v w x y n : Nat} {a : Addr} {rs : List (Addr × List Int)} (X : RowsB H a rs n) (hu : σ[u]? = some (some (.ref a))) (hv : σ[v]? = some (some (.int (x : Nat)))) (hw : σ[w]? = some (some (.int (y : Nat)))) (hx : x < rs.length) (hy : y < n)
    (q : Q (MatL (rs.map (·.2)) x y) H) : tTest (tOp rEq (tOp (rIxL K) (tOp (rIxL K) (tVar u) (tVar v)) (tVar w)) (tC (.int 1))) σ H Q := by
  obtain ⟨r, g1, g2⟩ := X.at hx hy
  refine ⟨_, hu, _, hv, a, _, x, _, rfl, rfl, SqL.of X.R.1, atI_nat (row_ref g1), _, hw, r.1, _, y, _, rfl, rfl, SqL.of (row_getL X.R g1), atI_nat (int_get g2), rfl, _, rfl, ?_⟩
  have e : decide (V.int (cellL (rs.map (·.2)) x y) = V.int 1) = MatL (rs.map (·.2)) x y := decide_eq_decide.mpr ⟨fun z => V.int.inj z, fun z => by rw [z]⟩
  rw [e]; exact q
theorem cellT0 {K : PySem.W.Frag} {σ : L2.St} {H : Hp} {Q : Bool → Hp → Prop} {u v w x y n : Nat} {a : Addr} {rs : List (Addr × List Int)} (X : RowsB H a rs n) (hu : σ[u]? = some (some (.ref a))) (hv : σ[v]? = some (some (.int (x : Nat)))) (hw : σ[w]? = some (some (.int (y : Nat)))) (hx : x < rs.length) (hy : y < n)
    (q : Q (!MatL (rs.map (·.2)) x y) H) : tTest (tOp rEq (tOp (rIxL K) (tOp (rIxL K) (tVar u) (tVar v)) (tVar w)) (tC (.int 0))) σ H Q := by
  obtain ⟨r, g1, g2⟩ := X.at hx hy
  refine ⟨_, hu, _, hv, a, _, x, _, rfl, rfl, SqL.of X.R.1, atI_nat (row_ref g1), _, hw, r.1, _, y, _, rfl, rfl, SqL.of (row_getL X.R g1), atI_nat (int_get g2), rfl, _, rfl, ?_⟩
  have e : decide (V.int (cellL (rs.map (·.2)) x y) = V.int 0) = !MatL (rs.map (·.2)) x y := by
    have := X.zero hx hy
    cases hM : MatL (rs.map (·.2)) x y with
    | false => exact decide_eq_true (by rw [this.mpr hM])
    | true =>
      refine decide_eq_false fun z => ?_
      have := this.mp (V.int.inj z)
      rw [hM] at this; cases this
  rw [e]; exact q
def spRound : Sp := fun vs H Q _ => ∃ (a : Addr) (p lo hi : Nat) (rs : List (Addr × List Int)) (n : Nat), vs = [.ref a, .int p, .int lo, .int hi] ∧ RowsB H a rs n ∧ p < rs.length ∧ lo < n ∧ hi < n ∧
  ∀ (H' : Hp) (b : Bool), Same H H' → (b = true ↔ R0 (MatL (rs.map (·.2))) rs.length n p lo hi hi) → Q (.bl b) H'
section
variable {P : Program} {w : World} {K : PySem.W.Frag} {mg : Str → Option Value} {base : Heap}
abbrev nRound : List Str := ["_law_rows", "_law_at", "_law_low", "_law_high", "_law_people", "_law_houses", "_law_met", "_law_todo", "_law_turn", "_law_one", "_law_more", "_law_house"]
theorem scRound : FnScope nRound ["_law_rows", "_law_at", "_law_low", "_law_high"] (defScope sRound) := ⟨rfl, rfl, rfl, by decide +kernel, rfl, by decide +kernel, by decide +kernel⟩
theorem ok_round {f C : Addr} {fd : FuncData} (F : Fun K "_law_goes_round" "_law_goes_round" sRound f fd) (T : TxtL K mg C) : FnOk P w K mg base CX0 1 f fd ["_law_rows", "_law_at", "_law_low", "_law_high"] spRound := by
  refine F.ok scRound (fun vs H Q E h => ?_) (fun cdv A outer s H vs Q E hr h => ?_)
  · obtain ⟨a, p, lo, hi, _, _, rfl, _⟩ := h
    rfl
  · obtain ⟨a, p, lo, hi, rs, n, rfl, X, hp, hlo, hhi, k⟩ := h
    refine ⟨_, pss_cons (ps_setLc (i := 4) (own := [("_law_one", 9)]) (g := gName 9) (by rfl) scRound.nd rfl rfl (sw_true rfl rfl rfl (by decide +kernel)) (pi_range1 (by rfl) T.t.range (pa_cons (pe_callB (callLen (K := K)) (by rfl) T.t.len PySem.boot_len (pa_cons (pv 0) pa_nil)) pa_nil)) (blkOk_by (N := nRound) (sc := defScope sRound) (by decide +kernel))
          (fun _ _ _ _ _ => pg_name (i := 9) scRound.nd rfl (Or.inl rfl))
          (fun _ _ _ _ _ => pts_one (pw_and (pt_cmpR op_ne (pv 9) (pv 1) (nomark _)) (pw_and1 (pt_not (pw_and (pt_cmpR op_eq (pe_ix (ixL (K := K)) (pe_ix (ixL (K := K)) (pv 0) (pv 9) (fun _ _ => rfl)) (pv 2) (fun _ _ => rfl)) pe_int (nomark _)) (pw_and1 (pt_cmpR op_eq (pe_ix (ixL (K := K)) (pe_ix (ixL (K := K)) (pv 0) (pv 9) (fun _ _ => rfl)) (pv 3) (fun _ _ => rfl)) pe_int (nomark _)))).pt))).pt)
          (fun _ _ _ _ _ => pv 9))
      (pss_cons (ps_setLc (i := 5) (own := [("_law_house", 11)]) (g := gName 11) (by rfl) scRound.nd rfl rfl (sw_true rfl rfl rfl (by decide +kernel)) (pi_range1 (by rfl) T.t.range (pa_cons (pe_callB (callLen (K := K)) (by rfl) T.t.len PySem.boot_len (pa_cons (pe_ix (ixL (K := K)) (pv 0) pe_int (fun _ _ => rfl)) pa_nil)) pa_nil)) (blkOk_by (N := nRound) (sc := defScope sRound) (by decide +kernel))
          (fun _ _ _ _ _ => pg_name (i := 11) scRound.nd rfl (Or.inl rfl))
          (fun _ _ _ _ _ => pts_one (pw_or (pt_cmpR op_eq (pe_ix (ixL (K := K)) (pe_ix (ixL (K := K)) (pv 0) (pv 1) (fun _ _ => rfl)) (pv 11) (fun _ _ => rfl)) pe_int (nomark _)) (pw_or1 (pt_cmpR op_eq (pv 11) (pv 3) (nomark _)))).pt)
          (fun _ _ _ _ _ => pv 11))
      (pss_cons (ps_asg (pe_tup (pa_cons (pe_lst (pa_cons (pv 2) pa_nil)) (pa_cons (pe_lst (pa_cons (pv 2) pa_nil)) pa_nil))) (pg_tup rfl (pgs_cons (pg_name (i := 6) scRound.nd rfl (Or.inr rfl)) (pgs_cons (pg_name (i := 7) scRound.nd rfl (Or.inl rfl)) pgs_nil))))
      (pss_cons (ps_for PassesOwn.never rfl (pi_range1 (by rfl) T.t.range (pa_cons (pe_callB (callLen (K := K)) (by rfl) T.t.len PySem.boot_len (pa_cons (pe_ix (ixL (K := K)) (pv 0) pe_int (fun _ _ => rfl)) pa_nil)) pa_nil)) (pg_name (i := 8) scRound.nd rfl (Or.inl rfl))
        (pss_cons (ps_if (pt_cmpR op_eq (pv 8) (pe_callB (callLen (K := K)) (by rfl) T.t.len PySem.boot_len (pa_cons (pv 7) pa_nil)) (nomark _)) (pss_one ps_break) pss_nil)
        (pss_one (ps_for PassesOwn.never rfl (pi_list (pv 4)) (pg_name (i := 9) scRound.nd rfl (Or.inr rfl))
          (pss_one (ps_if (pt_cmpR op_eq (pe_ix (ixL (K := K)) (pe_ix (ixL (K := K)) (pv 0) (pv 9) (fun _ _ => rfl)) (pe_ix (ixL (K := K)) (pv 7) (pv 8) (fun _ _ => rfl)) (fun _ _ => rfl)) pe_int (nomark _))
            (pss_cons (ps_setLc (i := 10) (own := [("_law_house", 11)]) (g := gName 11) (by rfl) scRound.nd rfl rfl (sw_true rfl rfl rfl (by decide +kernel)) (piL (K := K) (pv 5)) (blkOk_by (N := nRound) (sc := defScope sRound) (by decide +kernel))
              (fun _ _ _ _ _ => pg_name (i := 11) scRound.nd rfl (Or.inl rfl))
              (fun _ _ _ _ _ => pts_one (pw_and (pt_cmpR op_eq (pe_ix (ixL (K := K)) (pe_ix (ixL (K := K)) (pv 0) (pv 9) (fun _ _ => rfl)) (pv 11) (fun _ _ => rfl)) pe_int (nomark _)) (pw_and1 (pt_cmpR (notInS (K := K)) (pv 11) (pv 6) (by rfl)))).pt)
              (fun _ _ _ _ _ => pv 11))
            (pss_one (ps_asg (pe_tup (pa_cons (pe_op op_cat (pv 6) (pv 10)) (pa_cons (pe_op op_cat (pv 7) (pv 10)) pa_nil))) (pg_tup rfl (pgs_cons (pg_name (i := 6) scRound.nd rfl (Or.inr rfl)) (pgs_cons (pg_name (i := 7) scRound.nd rfl (Or.inl rfl)) pgs_nil)))))) pss_nil))))))
      (pss_one (ps_ret (pe_cmpR (inS (K := K)) (pv 3) (pv 6) (by rfl))))))), ?_⟩
    have m6 := X.m
    have n6 := X.n6
    obtain ⟨r0, h0, _⟩ := X.at X.m0 X.n0
    have lr0 := (X.w r0 (List.mem_of_getElem? h0)).1
    generalize hM : MatL (rs.map (·.2)) = M at k
    refine ⟨_, rfl, a, _, rfl, .inl (SqL.of X.R.1), (rs.length : Nat), by rw [List.length_map], by omega, by omega, fun lp hlp => ?_⟩
    refine map_range (lo := 0) (n := ((rs.length : Nat) : Int).toNat) (fun q => decide (q ≠ p) && !(M q lo && M q hi)) (fun j y H => y = .int (j : Nat)) hlp (szl (by omega)) (fun j y H H' e h => h) (fun i H1 hi1 p1 => ?_) (fun ys H1 hs1 hd1 hy => ?_)
    · intro k2 k2' kk kk'
      have hi1 : i < rs.length := by omega
      have ei : (0 : Int) + (i : Nat) = (i : Int) := by omega
      show gName 9 (.int ((0 : Int) + (i : Nat))) _ _ _
      rw [ei]
      have X1 := X.same p1.1
      refine ⟨rfl, ⟨_, rfl, _, rfl, rfl, _, rfl, ?_⟩⟩
      have hip : (!decide (V.int (i : Nat) = V.int (p : Nat))) = decide (i ≠ p) := by
        by_cases e : i = p
        · subst e; simp
        · have : ¬ (V.int (i : Nat) = V.int (p : Nat)) := fun z => e (by have := V.int.inj z; omega)
          simp [e, this]
      rw [hip]
      refine ite2 (fun e1 => ?_) (fun e1 => iteF (kk' ?_ _ (fun _ _ e => e)))
      · refine cellT (Q := fun c H1 => if c = true then _ else _) (y := lo) X1 rfl rfl rfl hi1 hlo ?_
        rw [hM]
        refine ite2 (fun e2 => ?_) (fun e2 => ?_)
        · refine cellT (y := hi) X1 rfl rfl rfl hi1 hhi ?_
          rw [hM]
          show if (!M i hi) = true then _ else _
          cases e3 : M i hi with
          | true => exact iteF (kk' (by show (decide (i ≠ p) && !(M i lo && M i hi)) = false; rw [e2, e3]; simp) _ (fun _ _ e => e))
          | false => exact iteT ⟨_, rfl, kk (by show (decide (i ≠ p) && !(M i lo && M i hi)) = true; rw [e1, e2, e3]; rfl) _ _ (fun _ _ e => e) rfl⟩
        · have e2 : M i lo = false := by cases h : M i lo with | true => exact absurd h e2 | false => rfl
          exact iteT ⟨_, rfl, kk (by show (decide (i ≠ p) && !(M i lo && M i hi)) = true; rw [e1, e2]; rfl) _ _ (fun _ _ e => e) rfl⟩
      · show (decide (i ≠ p) && _) = false
        have e1 : decide (i ≠ p) = false := by cases h : decide (i ≠ p) with | true => exact absurd h e1 | false => rfl
        rw [e1]; rfl
    obtain rfl := each_nats hy
    have eFP : (List.range ((rs.length : Nat) : Int).toNat).filter (fun q => decide (q ≠ p) && !(M q lo && M q hi)) = FP M rs.length p lo hi := by
      unfold FP
      rw [show ((rs.length : Nat) : Int).toNat = rs.length by omega]
    rw [eFP] at hd1
    have X1 := X.same hs1
    refine ⟨_, rfl, a, _, 0, _, rfl, rfl, SqL.of X1.R.1, atI_nat (row_ref h0), r0.1, _, rfl, .inl (SqL.of (row_getL X1.R h0)), (n : Nat), by rw [List.length_map, lr0], by omega, by omega, fun lh hlh => ?_⟩
    refine map_range (lo := 0) (n := ((n : Nat) : Int).toNat) (fun j => !(M p j) || decide (j = hi)) (fun j y H => y = .int (j : Nat)) hlh (szl (by omega)) (fun j y H H' e h => h) (fun i H2 hi2 p2 => ?_) (fun ys H2 hs2 hd2 hy2 => ?_)
    · intro k2 k2' kk kk'
      have hi2 : i < n := by omega
      have ei : (0 : Int) + (i : Nat) = (i : Int) := by omega
      show gName 11 (.int ((0 : Int) + (i : Nat))) _ _ _
      rw [ei]
      have X2 := X1.same p2.1
      refine ⟨rfl, ?_⟩
      refine cellT0 (Q := fun c H1 => if c = true then _ else _) (x := p) X2 rfl rfl rfl hp hi2 ?_
      rw [hM]
      cases e1 : M p i with
      | false => exact iteT (iteT ⟨_, rfl, kk (by show (!(M p i) || _) = true; rw [e1]; rfl) _ _ (fun _ _ e => e) rfl⟩)
      | true =>
        refine iteF ⟨_, rfl, _, rfl, rfl, _, rfl, ?_⟩
        refine ite2 (fun e2 => ⟨_, rfl, kk ?_ _ _ (fun _ _ e => e) rfl⟩) (fun e2 => kk' ?_ _ (fun _ _ e => e))
        · have := V.int.inj (of_decide_eq_true e2)
          show (_ || decide (i = hi)) = true
          rw [decide_eq_true (by omega : i = hi), Bool.or_true]
        · show (!(M p i) || decide (i = hi)) = false
          rw [e1, decide_eq_false (fun z => e2 (decide_eq_true (by rw [z])))]; rfl
    obtain rfl := each_nats hy2
    have eFH : (List.range ((n : Nat) : Int).toNat).filter (fun j => !(M p j) || decide (j = hi)) = FH M n p hi := by
      unfold FH
      rw [show ((n : Nat) : Int).toNat = n by omega]
    rw [eFH] at hd2
    have X2 := X1.same hs2
    have hlp2 := hs2 _ _ hd1
    refine ⟨_, rfl, szl (by show 1 ≤ 4000; decide), fun lm hlm => ⟨_, rfl, szl (by show 1 ≤ 4000; decide), fun lt hlt => ⟨szl (by show 2 ≤ 4000; decide), fun pt hpt => ⟨pt, _, rfl, SqT.of upd_same, rfl, _, _, rfl, _, _, rfl, rfl, ?_⟩⟩⟩⟩
    have sa := Same.new (o := .lst [.int (lo : Nat)]) hlm
    have sb := Same.new (o := .lst [.int (lo : Nat)]) hlt
    have sc := Same.new (o := .tup [.ref lm, .ref lt]) hpt
    have X3 := ((X2.same sa).same sb).same sc
    have s3 : Same H2 _ := Same.trans (Same.trans sa sb) sc
    have hm3 := sc _ _ (sb _ _ (upd_same (H := H2) (a := lm) (o := .lst [.int (lo : Nat)])))
    have ht3 := sc _ _ (upd_same (H := upd H2 lm (.lst [.int (lo : Nat)])) (a := lt) (o := .lst [.int (lo : Nat)]))
    have hlp3 := s3 _ _ hlp2
    have hlh3 := s3 _ _ hd2
    have sall : Same H _ := Same.trans (Same.trans hs1 hs2) s3
    show tSeq _ _ _ _ (upd (upd (upd H2 lm (.lst [.int (lo : Nat)])) lt (.lst [.int (lo : Nat)])) pt (.tup [.ref lm, .ref lt]))
    generalize upd (upd (upd H2 lm (.lst [.int (lo : Nat)])) lt (.lst [.int (lo : Nat)])) pt (.tup [.ref lm, .ref lt]) = H3 at X3 s3 hm3 ht3 hlp3 hlh3 sall
    have fin : ∀ (H' : Hp) (lm : Addr) (T : List Nat) (t : Nat), Same H3 H' → H' lm = some (.lst (nats T)) → BInv M rs.length n p lo hi T t → (t = T.length ∨ t = n) → rIn K false (.int (hi : Nat)) (.ref lm) H' Q := fun H' lm T t s h B ht =>
      ⟨lm, _, rfl, .inl (SqL.of h), rfl, nats_flat T, k H' _ (Same.trans sall s) (by
        show inV _ _ = true ↔ _
        rw [inV_nats, decide_eq_true_eq]; exact B.fin ht)⟩
    refine ⟨_, rfl, a, _, 0, _, rfl, rfl, SqL.of X3.R.1, atI_nat (row_ref h0), r0.1, _, rfl, .inl (SqL.of (row_getL X3.R h0)), (n : Nat), by rw [List.length_map, lr0], by omega, by omega, ?_⟩
    refine for_range (lo := 0) (n := ((n : Nat) : Int).toNat) (fun t σ H' => ∃ lm lt x8 x9 x10 x11 T, σ = [some (.ref a), some (.int (p : Nat)), some (.int (lo : Nat)), some (.int (hi : Nat)), some (.ref lp), some (.ref lh), some (.ref lm), some (.ref lt), x8, x9, x10, x11] ∧ Same H3 H' ∧ H' lm = some (.lst (nats T)) ∧ H' lt = some (.lst (nats T)) ∧ BInv M rs.length n p lo hi T t)
      ⟨lm, lt, _, _, _, _, [lo], rfl, fun _ _ e => e, hm3, ht3, BInv.start hlo⟩ (fun t σ H4 ht st => ?_) (fun σ H4 st => ?_)
    · obtain ⟨lm, lt, x8, x9, x10, x11, T, rfl, s4, hm4, ht4, B⟩ := st
      have ei : (0 : Int) + (t : Nat) = (t : Int) := by omega
      show gName 8 (.int ((0 : Int) + (t : Nat))) _ _ _
      rw [ei]
      refine ⟨_, rfl, _, rfl, lt, _, rfl, .inl (SqL.of ht4), rfl, _, rfl, ite2 (fun e => ?_) (fun e => ?_)⟩
      · have e := V.int.inj (of_decide_eq_true e)
        rw [List.length_map] at e
        exact ⟨_, rfl, _, rfl, fin H4 lm T t s4 hm4 B (.inl (by omega))⟩
      · have tl : t < T.length := by
          have := B.len0
          refine Nat.lt_of_le_of_ne this fun z => e (decide_eq_true ?_)
          rw [List.length_map, z]
        have hx : T[t]? = some T[t] := List.getElem?_eq_getElem tl
        generalize T[t] = x at hx
        refine ⟨_, rfl, lp, rfl, ⟨_, SqL.of (s4 _ _ hlp3)⟩, for_list (K := K) (a := lp) (xs := nats (FP M rs.length p lo hi)) (fun j σ H' => ∃ lm lt x9 x10 x11 T, σ = [some (.ref a), some (.int (p : Nat)), some (.int (lo : Nat)), some (.int (hi : Nat)), some (.ref lp), some (.ref lh), some (.ref lm), some (.ref lt), some (.int (t : Nat)), x9, x10, x11] ∧ Same H3 H' ∧ H' lm = some (.lst (nats T)) ∧ H' lt = some (.lst (nats T)) ∧ BInv M rs.length n p lo hi T t ∧ T[t]? = some x ∧ Part M rs.length n p lo hi T x j)
          ⟨lm, lt, _, _, _, T, rfl, s4, hm4, ht4, B, hx, fun j q hj => absurd hj (Nat.not_lt_zero _)⟩ (fun j σ H' _ ⟨_, _, _, _, _, _, _, s, _⟩ => SqL.of (s _ _ hlp3)) (fun j y σ H5 hj st => ?_) (fun σ H5 st => ?_)⟩
        · clear hx B tl e hm4 ht4 T x9 x10 x11
          obtain ⟨lm, lt, x9, x10, x11, T, rfl, s5, hm5, ht5, B, hx, hPt⟩ := st
          obtain ⟨q, hq, rfl⟩ := map_at hj
          have hqm := List.mem_of_getElem? hq
          have hql := (mem_FP.mp hqm).1
          have hxm := List.mem_of_getElem? hx
          have hxn := (B.r x hxm).1
          have X5 := X3.same s5
          obtain ⟨r, g1, g2⟩ := X5.at hql hxn
          refine ⟨_, rfl, _, rfl, a, _, q, _, rfl, rfl, SqL.of X5.R.1, atI_nat (row_ref g1), _, rfl, _, rfl, lt, _, t, _, rfl, rfl, SqL.of ht5, atI_nat (nats_get hx), r.1, _, x, _, rfl, rfl, SqL.of (row_getL X5.R g1), atI_nat (int_get g2), rfl, _, rfl, ?_⟩
          have eM : decide (V.int (cellL (rs.map (·.2)) q x) = V.int 1) = M q x := by
            rw [← hM]
            exact decide_eq_decide.mpr ⟨fun z => V.int.inj z, fun z => by rw [z]⟩
          rw [eM]
          cases eq : M q x with
          | false => exact iteF ⟨lm, lt, _, _, _, T, rfl, s5, hm5, ht5, B, hx, hPt.skip hq eq⟩
          | true =>
            refine iteT ⟨_, rfl, lh, rfl, ⟨_, SqL.of (s5 _ _ hlh3)⟩, fun L hL => ?_⟩
            refine map_list (fun i => M q ((FH M n p hi).getD i 0) && !decide ((FH M n p hi).getD i 0 ∈ T)) (fun i y H => y = .int (((FH M n p hi).getD i 0 : Nat) : Int)) hL (SqL.of (s5 _ _ hlh3)) (szl (by
              rw [List.length_map]
              unfold FH
              refine Nat.le_trans (List.length_filter_le _ _) ?_
              rw [List.length_range]; omega)) (fun j y H H' e h => h) (fun i y H6 hi6 p6 => ?_) (fun ys H6 hs6 hd6 hy6 => ?_)
            · obtain ⟨z, hz, rfl⟩ := map_at hi6
              intro k7 k7' kk kk'
              have eg : (FH M n p hi).getD i 0 = z := by rw [List.getD_eq_getElem?_getD, hz]; rfl
              have cF : (fun i => M q ((FH M n p hi).getD i 0) && !decide ((FH M n p hi).getD i 0 ∈ T)) i = (M q z && !decide (z ∈ T)) := by
                show (M q ((FH M n p hi).getD i 0) && _) = _
                rw [eg]
              have hzn := (mem_FH.mp (List.mem_of_getElem? hz)).1
              have X6 := X5.same p6.1
              refine ⟨rfl, ?_⟩
              refine cellT (Q := fun c H1 => if c = true then _ else _) (x := q) (y := z) X6 rfl rfl rfl hql hzn ?_
              rw [hM]
              cases e1 : M q z with
              | false => exact iteF (iteF (kk' (cF.trans (by rw [e1]; rfl)) _ (fun _ _ e => e)))
              | true =>
                refine iteT ⟨_, rfl, _, rfl, lm, _, rfl, .inl (SqL.of (p6.1 _ _ hm5)), rfl, nats_flat T, _, rfl, ?_⟩
                show if (!inV _ _) = true then _ else _
                rw [inV_nats]
                cases e2 : decide (z ∈ T) with
                | true => exact iteF (kk' (cF.trans (by rw [e1, e2]; rfl)) _ (fun _ _ e => e))
                | false => exact iteT ⟨_, rfl, kk (cF.trans (by rw [e1, e2]; rfl)) _ _ (fun _ _ e => e) (by show V.int (z : Nat) = V.int (((FH M n p hi).getD i 0 : Nat) : Int); rw [eg])⟩
            · rw [List.length_map] at hy6
              obtain rfl := each_natsF (f := fun i => (FH M n p hi).getD i 0) hy6
              rw [filter_getD (FH M n p hi) (fun h => M q h && !decide (h ∈ T))] at hd6
              have hd6 : H6 L = some (.lst (nats (more M n p hi T q))) := hd6
              have B' := B.add hxm hqm eq
              have lB := B.len
              have lB' := B'.len
              rw [List.length_append] at lB'
              have enats : nats T ++ nats (more M n p hi T q) = nats (T ++ more M n p hi T q) := by rw [← List.map_append]
              have hml : (nats T).length + (nats (more M n p hi T q)).length ≤ sizeLine := szl (by rw [List.length_map, List.length_map]; omega)
              refine ⟨_, rfl, _, rfl, lm, L, _, _, rfl, rfl, hs6 _ _ hm5, hd6, hml, fun lm' hlm' => ?_⟩
              have s7 := Same.new (o := .lst (nats T ++ nats (more M n p hi T q))) hlm'
              refine ⟨_, rfl, _, rfl, lt, L, _, _, rfl, rfl, s7 _ _ (hs6 _ _ ht5), s7 _ _ hd6, hml, fun lt' hlt' => ?_⟩
              have s8 := Same.new (o := .lst (nats T ++ nats (more M n p hi T q))) hlt'
              refine ⟨szl (by show 2 ≤ 4000; decide), fun pt' hpt' => ⟨pt', _, rfl, SqT.of upd_same, rfl, _, _, rfl, _, _, rfl, rfl, ?_⟩⟩
              have s9 := Same.new (o := .tup [.ref lm', .ref lt']) hpt'
              refine ⟨lm', lt', _, _, _, T ++ more M n p hi T q, rfl, Same.trans (Same.trans (Same.trans (Same.trans s5 hs6) s7) s8) s9, ?_, ?_, B', ?_, hPt.add hq⟩
              · rw [← enats]; exact s9 _ _ (s8 _ _ upd_same)
              · rw [← enats]; exact s9 _ _ upd_same
              · rw [List.getElem?_append_left (List.getElem?_eq_some_iff.mp hx).1]; exact hx
        · obtain ⟨lm, lt, y9, y10, y11, T', rfl, s5, hm5, ht5, B', hx', hPt⟩ := st
          rw [List.length_map] at hPt
          exact ⟨lm, lt, _, _, _, _, T', rfl, s5, hm5, ht5, B'.next hx' hPt⟩
    · obtain ⟨lm, lt, x8, x9, x10, x11, T, rfl, s4, hm4, ht4, B⟩ := st
      exact ⟨_, rfl, _, rfl, fin H4 lm T _ s4 hm4 B (.inr (by omega))⟩
end
end Sv
end

section
set_option Elab.async false
set_option linter.all false
set_option maxRecDepth 100000
set_option maxHeartbeats 4000000
namespace Sv
open PySem L2 LamX
open PySem.W (Datum DatumOrd Tup)
def RingAt (M : Nat → Nat → Bool) (m n p l h : Nat) : Prop := l < h ∧ h < n ∧ M p l = true ∧ M p h = true ∧ R0 M m n p l h h
theorem ring_iff {M : Nat → Nat → Bool} {m n : Nat} : Ring M (· < m) (· < n) ↔ ∃ p l h, p < m ∧ RingAt M m n p l h := by
  constructor
  · rintro ⟨p, lo, hi, h1, h2, h3, h4, h5, h6, h7⟩
    rcases Nat.lt_or_gt_of_ne h4 with z | z
    · exact ⟨p, lo, hi, h1, z, h3, h5, h6, h7⟩
    · exact ⟨p, hi, lo, h1, z, h2, h6, h5, Rch.flip h2 h7 .base⟩
  · rintro ⟨p, l, h, h1, h2, h3, h4, h5, h6⟩
    exact ⟨p, l, h, h1, Nat.lt_trans h2 h3, h3, Nat.ne_of_lt h2, h4, h5, h6⟩
def spRing : Sp := fun vs H Q _ => ∃ (a : Addr) (rs : List (Addr × List Int)) (n : Nat), vs = [.ref a] ∧ RowsB H a rs n ∧
  ∀ (H' : Hp) (b : Bool), Same H H' → (b = true ↔ Ring (MatL (rs.map (·.2))) (· < rs.length) (· < n)) → Q (.bl b) H'
section
variable {P : Program} {w : World} {K : PySem.W.Frag} {mg : Str → Option Value} {base : Heap}
abbrev nRing : List Str := ["_law_rows", "_law_at", "_law_mine", "_law_low", "_law_high", "_law_house"]
theorem scRing : FnScope nRing ["_law_rows"] (defScope sRing) := ⟨rfl, rfl, rfl, by decide +kernel, rfl, by decide +kernel, by decide +kernel⟩
theorem ok_ring {f C fg : Addr} {fd fdg : FuncData} (F : Fun K "_law_has_ring" "_law_has_ring" sRing f fd) (T : TxtL K mg C) (gg : FnOk P w K mg base CX0 1 fg fdg ["_law_rows", "_law_at", "_law_low", "_law_high"] spRound) (cg : Cal K mg "_law_goes_round" fg fdg ["_law_rows", "_law_at", "_law_low", "_law_high"]) :
    FnOk P w K mg base CX0 2 f fd ["_law_rows"] spRing := by
  refine F.ok scRing (fun vs H Q E h => ?_) (fun cdv A outer s H vs Q E hr h => ?_)
  · obtain ⟨a, _, _, rfl, _⟩ := h
    rfl
  · obtain ⟨a, rs, n, rfl, X, k⟩ := h
    refine ⟨_, pss_cons (ps_for PassesOwn.never rfl (pi_range1 (by rfl) T.t.range (pa_cons (pe_callB (callLen (K := K)) (by rfl) T.t.len PySem.boot_len (pa_cons (pv 0) pa_nil)) pa_nil)) (pg_name (i := 1) scRing.nd rfl (Or.inr rfl))
        (pss_cons (ps_setLc (i := 2) (own := [("_law_house", 5)]) (g := gName 5) (by rfl) scRing.nd rfl rfl (sw_true rfl rfl rfl (by decide +kernel)) (pi_range1 (by rfl) T.t.range (pa_cons (pe_callB (callLen (K := K)) (by rfl) T.t.len PySem.boot_len (pa_cons (pe_ix (ixL (K := K)) (pv 0) pe_int (fun _ _ => rfl)) pa_nil)) pa_nil)) (blkOk_by (N := nRing) (sc := defScope sRing) (by decide +kernel))
          (fun _ _ _ _ _ => pg_name (i := 5) scRing.nd rfl (Or.inl rfl))
          (fun _ _ _ _ _ => pts_one (pt_cmpR op_eq (pe_ix (ixL (K := K)) (pe_ix (ixL (K := K)) (pv 0) (pv 1) (fun _ _ => rfl)) (pv 5) (fun _ _ => rfl)) pe_int (nomark _)))
          (fun _ _ _ _ _ => pv 5))
        (pss_one (ps_for PassesOwn.never rfl (pi_list (pv 2)) (pg_name (i := 3) scRing.nd rfl (Or.inl rfl))
          (pss_one (ps_for PassesOwn.never rfl (pi_list (pv 2)) (pg_name (i := 4) scRing.nd rfl (Or.inl rfl))
            (pss_one (ps_if (PW.pt (pw_and (pt_cmpR op_lt (pv 3) (pv 4) (nomark _)) (pw_and1 (pt_val (pe_call gg hr rfl cg.g cg.k cg.b .nil pass0 (pa_cons (pv 0) (pa_cons (pv 1) (pa_cons (pv 3) (pa_cons (pv 4) pa_nil)))))))))
              (pss_one (ps_ret pe_bl)) pss_nil))))))))
      (pss_one (ps_ret pe_bl)), ?_⟩
    have m6 := X.m
    have n6 := X.n6
    obtain ⟨r0, h0, _⟩ := X.at X.m0 X.n0
    have lr0 := (X.w r0 (List.mem_of_getElem? h0)).1
    generalize hM : MatL (rs.map (·.2)) = M at k
    refine ⟨_, rfl, a, _, rfl, .inl (SqL.of X.R.1), (rs.length : Nat), by rw [List.length_map], by omega, by omega, ?_⟩
    refine for_range (lo := 0) (n := ((rs.length : Nat) : Int).toNat) (fun i σ H' => ∃ x1 x2 x3 x4 x5, σ = [some (.ref a), x1, x2, x3, x4, x5] ∧ Same H H' ∧ ∀ p l h, p < i → ¬ RingAt M rs.length n p l h) ⟨_, _, _, _, _, rfl, fun _ _ e => e, fun p l h z => absurd z (Nat.not_lt_zero _)⟩ (fun p σ H1 hp st => ?_) (fun σ H1 st => ?_)
    · obtain ⟨x1, x2, x3, x4, x5, rfl, s1, no1⟩ := st
      have hp : p < rs.length := by omega
      have ei : (0 : Int) + (p : Nat) = (p : Int) := by omega
      show gName 1 (.int ((0 : Int) + (p : Nat))) _ _ _
      rw [ei]
      have X1 := X.same s1
      refine ⟨_, rfl, a, _, 0, _, rfl, rfl, SqL.of X1.R.1, atI_nat (row_ref h0), r0.1, _, rfl, .inl (SqL.of (row_getL X1.R h0)), (n : Nat), by rw [List.length_map, lr0], by omega, by omega, fun lm hlm => ?_⟩
      refine map_range (lo := 0) (n := ((n : Nat) : Int).toNat) (fun j => M p j) (fun j y H => y = .int (j : Nat)) hlm (szl (by omega)) (fun j y H H' e h => h) (fun i H2 hi2 p2 => ?_) (fun ys H2 hs2 hd2 hy2 => ?_)
      · intro k2 k2' kk kk'
        have hi2 : i < n := by omega
        have ei : (0 : Int) + (i : Nat) = (i : Int) := by omega
        show gName 5 (.int ((0 : Int) + (i : Nat))) _ _ _
        rw [ei]
        refine ⟨rfl, cellT (x := p) (X1.same p2.1) rfl rfl rfl hp hi2 ?_⟩
        rw [hM]
        exact ite2 (fun e => ⟨_, rfl, kk e _ _ (fun _ _ e => e) rfl⟩) (fun e => kk' (by
          show M p i = false
          cases h : M p i with
          | true => exact absurd h e
          | false => rfl) _ (fun _ _ e => e))
      · obtain rfl := each_nats hy2
        rw [show ((n : Nat) : Int).toNat = n by omega] at hd2
        have hmine : ∀ j, j ∈ (List.range n).filter (fun j => M p j) ↔ j < n ∧ M p j = true := fun j => by rw [List.mem_filter, List.mem_range]
        generalize (List.range n).filter (fun j => M p j) = mine at hd2 hmine
        have X2 := X1.same hs2
        refine ⟨_, rfl, lm, rfl, ⟨_, SqL.of hd2⟩, for_list (K := K) (a := lm) (xs := nats mine) (fun j σ H' => ∃ x3 x4 x5, σ = [some (.ref a), some (.int (p : Nat)), some (.ref lm), x3, x4, x5] ∧ Same H2 H' ∧ ∀ j' l h, j' < j → mine[j']? = some l → ¬ RingAt M rs.length n p l h)
          ⟨_, _, _, rfl, fun _ _ e => e, fun j' l h z => absurd z (Nat.not_lt_zero _)⟩ (fun j σ H' _ ⟨_, _, _, _, s, _⟩ => SqL.of (s _ _ hd2)) (fun j y σ H3 hj st => ?_) (fun σ H3 st => ?_)⟩
        · obtain ⟨x3, x4, x5, rfl, s3, no3⟩ := st
          obtain ⟨l, hl, rfl⟩ := map_at hj
          have hlm := (hmine l).mp (List.mem_of_getElem? hl)
          refine ⟨_, rfl, lm, rfl, ⟨_, SqL.of (s3 _ _ hd2)⟩, for_list (K := K) (a := lm) (xs := nats mine) (fun i σ H' => ∃ x4 x5, σ = [some (.ref a), some (.int (p : Nat)), some (.ref lm), some (.int (l : Nat)), x4, x5] ∧ Same H2 H' ∧ ∀ i' h, i' < i → mine[i']? = some h → ¬ RingAt M rs.length n p l h)
            ⟨_, _, rfl, s3, fun j' h z => absurd z (Nat.not_lt_zero _)⟩ (fun j σ H' _ ⟨_, _, _, s, _⟩ => SqL.of (s _ _ hd2)) (fun i y σ H4 hi st => ?_) (fun σ H4 st => ?_)⟩
          · obtain ⟨x4, x5, rfl, s4, no4⟩ := st
            obtain ⟨h, hh, rfl⟩ := map_at hi
            have hhm := (hmine h).mp (List.mem_of_getElem? hh)
            have next : ¬ RingAt M rs.length n p l h → ∀ (H5 : Hp), Same H4 H5 → ∃ y4 y5, [some (V.ref a), some (.int (p : Nat)), some (.ref lm), some (.int (l : Nat)), some (.int (h : Nat)), x5] = [some (.ref a), some (.int (p : Nat)), some (.ref lm), some (.int (l : Nat)), y4, y5] ∧ Same H2 H5 ∧ ∀ i' h, i' < i + 1 → mine[i']? = some h → ¬ RingAt M rs.length n p l h := fun no H5 s5 =>
              ⟨_, _, rfl, Same.trans s4 s5, fun i' h' z e => by
                rcases Nat.lt_or_ge i' i with q | q
                · exact no4 i' h' q e
                · obtain rfl : i' = i := by omega
                  rw [hh] at e
                  obtain rfl := Option.some.inj e
                  exact no⟩
            refine ⟨_, rfl, _, rfl, _, _, rfl, rfl, _, rfl, ite2 (fun e => ?_) (fun e => iteF (next (fun z => e (decide_eq_true (by have := z.1; omega))) _ fun _ _ e => e))⟩
            have e := of_decide_eq_true e
            refine ⟨_, rfl, _, rfl, _, rfl, _, rfl, a, p, l, h, rs, n, rfl, X2.same s4, hp, hlm.1, hhm.1, fun H5 b s5 eb => ⟨b, rfl, ?_⟩⟩
            rw [hM] at eb
            cases b with
            | true =>
              refine iteT (k H5 true (Same.trans (Same.trans (Same.trans s1 hs2) s4) s5) ⟨fun _ => ring_iff.mpr ⟨p, l, h, hp, by omega, hhm.1, hlm.2, hhm.2, eb.mp rfl⟩, fun _ => rfl⟩)
            | false => exact iteF (next (fun z => by have := eb.mpr z.2.2.2.2; cases this) _ s5)
          · obtain ⟨x4, x5, rfl, s4, no4⟩ := st
            refine ⟨_, _, _, rfl, s4, fun j' l' h' z e => ?_⟩
            rcases Nat.lt_or_ge j' j with q | q
            · exact no3 j' l' h' q e
            · obtain rfl : j' = j := by omega
              rw [hl] at e
              obtain rfl := Option.some.inj e
              intro r
              obtain ⟨i', hi'⟩ := List.getElem?_of_mem ((hmine h').mpr ⟨r.2.1, r.2.2.2.1⟩)
              exact no4 i' h' (by have := (List.getElem?_eq_some_iff.mp hi').1; rw [List.length_map]; exact this) hi' r
        · obtain ⟨x3, x4, x5, rfl, s3, no3⟩ := st
          refine ⟨_, _, _, _, _, rfl, Same.trans (Same.trans s1 hs2) s3, fun p' l' h' z => ?_⟩
          rcases Nat.lt_or_ge p' p with q | q
          · exact no1 p' l' h' q
          · obtain rfl : p' = p := by omega
            intro r
            obtain ⟨j', hj'⟩ := List.getElem?_of_mem ((hmine l').mpr ⟨Nat.lt_trans r.1 r.2.1, r.2.2.1⟩)
            exact no3 j' l' h' (by have := (List.getElem?_eq_some_iff.mp hj').1; rw [List.length_map]; exact this) hj' r
    · obtain ⟨x1, x2, x3, x4, x5, rfl, s1, no1⟩ := st
      exact k H1 false s1 ⟨fun z => (by cases z), fun r => by
        obtain ⟨p, l, h, hp, hr⟩ := ring_iff.mp r
        exact absurd hr (no1 p l h (by omega))⟩
end
end Sv
end

section
set_option Elab.async false
set_option linter.all false
set_option maxRecDepth 100000
set_option maxHeartbeats 4000000
namespace Sv
open PySem L2 LamX
open PySem.W (Datum DatumOrd Tup EachIs)
theorem pgTup {X : Cx} {K : PySem.W.Frag} {es : List Expr} {k : Nat} {t : TGs} {n : Nat} {pos : Pos} (hc : X.calm = true) (h : PGs X es t) (hK : X.K = K := by rfl)
    (hn : (assignEach es X.env).length = n := by rfl) (hst : (assignEach es X.env).findIdx? (·.1) = none := by rfl) : PG X (.Tuple es k pos) (gTup K n t) := by subst hK; exact pg_tup hc h hn hst
theorem piEnumT {X : Cx} {K : PySem.W.Frag} {e : Expr} {ta : TA} {p pos tpos : Pos} {elts : List Expr} {kk : Nat} (hg : Gl X "enumerate") (hm : X.mg "enumerate" = none) (ha : PA X [e] ta) (hK : X.K = K := by rfl) (hs : starEach [e] X.env = [(false, eval e X.env)] := by rfl) :
    PI X (.Tuple elts kk tpos) (.Call (.Name "enumerate" p) [e] [] pos) (iEnumT K ta) := by subst hK; exact pi_enumT hg hm ha hs
theorem LcP.more {H1 : Hp} {D : Addr} {F : Nat → Bool} {G : Nat → V → Hp → Prop} {i : Nat} {H : Hp} {T : Addr} {o : HO} (st : Stay D G) (p : LcP H1 D F G i H) (n : H T = none) : LcP H1 D F G i (upd H T o) := by
  obtain ⟨s1, ys, hd, e⟩ := p
  exact ⟨Same.more s1 n, ys, Same.new n _ _ hd, e.mono fun a b h => st _ _ _ _ (Off.of (Same.new n)) h⟩
theorem map_enumT {K : PySem.W.Frag} {a : Addr} {xs : List V} {g : TG} {tt : L2.TT} {te : TE} {vs : List Nat} {σ : L2.St} {H1 : Hp} {D : Addr} {Qd : Hp → Prop} (F : Nat → Bool) (G : Nat → V → Hp → Prop) (n1 : H1 D = none) (hx : SqT K H1 a xs) (hz : xs.length ≤ sizeLine) (st : Stay D G)
    (hs : ∀ i x H T, xs[i]? = some x → LcP H1 D F G i H → H T = some (.tup [.int (i : Nat), x]) → LcStep F G g tt te vs σ i (.ref T) H) (hd : ∀ ys H, Same H1 H → H D = some (.lst ys) → EachIs (fun y j => G j y H) ys ((List.range xs.length).filter F) → Qd H) :
    ∃ W : Nat → Nat → Hp → Prop, (∃ m, W 0 m (upd H1 D (.lst []))) ∧ ∀ i m H, W i m H →
      ((ItEt K a).stop i H ∧ Qd H) ∨ ((ItEt K a).go i H ∧ ∃ Nx : Hp → Prop, (∀ H', Nx H' → ∃ m', m' < m ∧ W (i + 1) m' H') ∧ ∀ x H', (ItEt K a).yld i H x H' → g x (wipe σ vs) H' fun σ2 H2 => wipe σ2 vs = wipe σ vs ∧ tt σ2 H2 fun b H3 =>
        if b = true then te σ2 H3 fun y H4 => ∃ acc, H4 D = some (.lst acc) ∧ acc.length < sizeLine ∧ Nx (upd H4 D (.lst (acc ++ [y]))) else Nx H3) := by
  refine lc_enumT (LcP H1 D F G) (LcP.start n1) (fun i H _ p => extN_seqT (Same.toN p.1) hx) (fun i x H T hi p hT => ?_) fun H p => hd _ H p.1 p.2.choose_spec.1 p.2.choose_spec.2
  have hlt := (List.getElem?_eq_some_iff.mp hi).1
  exact hs i x _ T hi (p.more st hT) upd_same _ _ (fun hF y H4 s g => (p.more st hT).put n1 st (by omega) hF s g) fun hF H3 s => (p.more st hT).skip st hF s
/-- lists of truth values by their numbers -/
theorem lt_bools : ∀ xs ys : List Bool, PySem.W.listLt xs ys = decide (xs.map b2 < ys.map b2)
  | [], [] => by simp [PySem.W.listLt]
  | [], _ :: _ => by simp [PySem.W.listLt]
  | _ :: _, [] => by simp [PySem.W.listLt]
  | x :: xs, y :: ys => by
    rw [PySem.W.listLt, List.map_cons, List.map_cons]
    by_cases e : x = y
    · subst e
      rw [if_pos rfl, lt_bools xs ys]
      refine decide_eq_decide.mpr ?_
      rw [List.cons_lt_cons_iff]
      constructor
      · exact fun h => .inr ⟨rfl, h⟩
      · rintro (h | ⟨_, h⟩)
        · exact absurd h (Int.lt_irrefl _)
        · exact h
    · rw [if_neg e]
      cases x <;> cases y
      · exact absurd rfl e
      · show true = _
        refine (decide_eq_true ?_).symm
        rw [List.cons_lt_cons_iff]
        exact .inl (by decide)
      · show false = _
        refine (decide_eq_false ?_).symm
        rw [List.cons_lt_cons_iff]
        rintro (h | ⟨h, _⟩)
        · exact absurd h (by decide)
        · exact absurd h (by decide)
      · exact absurd rfl e
/-- the half of a turn -/
theorem half {names : List Str} {f : Str → List Bool} {zs0 qs : List (Addr × (List Bool × Int))} (hz : zs0.map (·.2) = (List.range names.length).map fun i => (f (names.getD i ""), ((i : Nat) : Int))) (hp : qs.Perm zs0) (hw : qs.Pairwise fun b c => DatumOrd.lt c.2 b.2 = false) :
    (∀ q ∈ qs, ∃ i : Nat, i < names.length ∧ q.2 = (f (names.getD i ""), (i : Int))) ∧ (qs.map fun q => names.getD q.2.2.toNat "").Perm names ∧ (qs.map fun q => names.getD q.2.2.toNat "").Pairwise fun a b => (f a).map b2 ≤ (f b).map b2 := by
  have mem : ∀ q ∈ qs, ∃ i : Nat, i < names.length ∧ q.2 = (f (names.getD i ""), (i : Int)) := fun q hq => by
    have : q.2 ∈ zs0.map (·.2) := List.mem_map_of_mem (hp.mem_iff.mp hq)
    rw [hz] at this
    obtain ⟨i, hi, e⟩ := List.mem_map.mp this
    exact ⟨i, List.mem_range.mp hi, e.symm⟩
  refine ⟨mem, ?_, ?_⟩
  · have h1 : (qs.map fun q => names.getD q.2.2.toNat "").Perm (zs0.map fun q => names.getD q.2.2.toNat "") := hp.map _
    have h2 : (zs0.map fun q => names.getD q.2.2.toNat "") = names := by
      have : (zs0.map fun q => names.getD q.2.2.toNat "") = (zs0.map (·.2)).map fun p => names.getD p.2.toNat "" := by rw [List.map_map]; rfl
      rw [this, hz, List.map_map]
      refine Eq.trans (List.map_congr_left fun i _ => ?_) (range_getD names "")
      show names.getD ((i : Nat) : Int).toNat "" = _
      rw [Int.toNat_natCast]
    rwa [h2] at h1
  · refine List.pairwise_map.mpr (hw.imp_of_mem fun {b c} hb hc h => ?_)
    obtain ⟨i, hi, e1⟩ := mem b hb
    obtain ⟨j, hj, e2⟩ := mem c hc
    rw [e1, e2] at h ⊢
    show (f (names.getD ((i : Nat) : Int).toNat "")).map b2 ≤ (f (names.getD ((j : Nat) : Int).toNat "")).map b2
    rw [Int.toNat_natCast, Int.toNat_natCast]
    refine List.not_lt.mp fun z => ?_
    have h : (if f (names.getD j "") = f (names.getD i "") then DatumOrd.lt (j : Int) (i : Int) else PySem.W.listLt (f (names.getD j "")) (f (names.getD i ""))) = false := h
    rw [if_neg (fun e => by rw [e] at z; exact List.lt_irrefl _ z), lt_bools, decide_eq_false_iff_not] at h
    exact h z
def spLSorted (C : Addr) : Sp := fun vs H Q _ => ∃ (t o : Addr) (pr : List (Addr × List Str)) (ps hs : List Str), vs = [.ref t, .ref o] ∧ AskTO C H t o pr ps hs ∧ OkS ps ∧ OkS hs ∧ (∀ x ∈ pr, OkS x.2) ∧
  ∀ (H' : Hp) (o' : Addr) (ps' hs' : List Str), Same H H' → OrdO H' o' ps' hs' → ps'.Perm ps → hs'.Perm hs → RowSorted (rel pr) ps' hs' → ColSorted (rel pr) ps' hs' → Q (.ref o') H'
section
variable {P : Program} {w : World} {K : PySem.W.Frag} {mg : Str → Option Value} {base : Heap}
abbrev nLS : List Str := ["_law_table_here", "_law_order_here", "_law_people", "_law_houses", "_law_turn", "_law_keys", "_law_after", "_law_rest", "_law_at", "_law_person", "_law_house", "_law_key"]
theorem scLS : FnScope nLS ["_law_table_here", "_law_order_here"] (defScope sLSorted) := ⟨rfl, rfl, rfl, by decide +kernel, rfl, by decide +kernel, by decide +kernel⟩
abbrev lsFor : Stmt := bodyAt sLSorted 1
theorem ok_lsorted {f C : Addr} {fd : FuncData} (F : Fun K "_law_sorted" "_law_sorted" sLSorted f fd) (T : TxtL K mg C) : FnOk P w K mg base CX0 1 f fd ["_law_table_here", "_law_order_here"] (spLSorted C) := by
  refine F.ok scLS (fun vs H Q E h => ?_) (fun cdv A outer s H vs Q E hr h => ?_)
  · obtain ⟨t, o, _, _, _, rfl, _⟩ := h
    rfl
  · obtain ⟨t, o, pr, ps, hs, rfl, ask, op, oh, oq, k⟩ := h
    have hu : (ard "_law_sorted" sLSorted A s f cdv).units + 65 < cLine := by
      have q : (ard "_law_sorted" sLSorted A s f cdv).units + 16 * 0 + 200 < cLine := hr.un
      omega
    refine ⟨_, pss_cons (ps_asg (pv 1) (pg_tup rfl (pgs_cons (pg_name (i := 2) scLS.nd rfl (Or.inr rfl)) (pgs_cons (pg_name (i := 3) scLS.nd rfl (Or.inr rfl)) pgs_nil))))
      (pss_cons (ps_for PassesOwn.never rfl (pi_range1 (by rfl) T.t.range (pa_cons pe_int pa_nil)) (pg_name (i := 4) scLS.nd rfl (Or.inl rfl))
        (pss_cons (ps_setLc (i := 5) (own := [("_law_at", 8), ("_law_person", 9)]) (tt := tYes) (by rfl) scLS.nd rfl rfl (sw_true rfl rfl rfl (by decide +kernel)) (piEnumT (K := K) (by rfl) T.t.enum (pa_cons (pv 2) pa_nil)) (blkOk_by (N := nLS) (sc := defScope sLSorted) (by decide +kernel))
            (fun _ _ _ _ _ => pgTup (K := K) (n := 2) rfl (pgs_cons (pg_name (i := 8) scLS.nd rfl (Or.inl rfl)) (pgs_cons (pg_name (i := 9) scLS.nd rfl (Or.inr rfl)) pgs_nil))) (fun _ _ _ _ _ => pts_nil)
            (fun _ _ _ _ _ => pe_tup (pa_cons (pe_lc (own := [("_law_house", 10)]) (g := gName 10) (tt := tYes) (by rfl) scLS.nd (piT (K := K) (peBackT (K := K) (pv 3))) (blkOk_by (N := nLS) (sc := relS (lcSc (asgOf (inFor lsFor 0))) (defScope sLSorted)) (by decide +kernel))
                (fun _ _ _ _ _ => pg_name (i := 10) scLS.nd rfl (Or.inl rfl)) (fun _ _ _ _ _ => pts_nil)
                (fun _ _ _ _ _ => pe_cmpR (inTD (K := K) hu) (pe_tup (pa_cons (pv 9) (pa_cons (pv 10) pa_nil))) (peFld (K := K) (pv 0) rfl) (by rfl))) (pa_cons (pv 8) pa_nil))))
        (pss_cons (ps_set (i := 6) scLS.nd rfl (Or.inr rfl) (pe_callTy (T := "tuple") (callTup (K := K)) (by rfl) T.t.tuple (by decide +kernel) (pa_cons
            (pe_lc (own := [("_law_key", 11), ("_law_at", 8)]) (tt := tYes) (by rfl) scLS.nd (piL (K := K) (pe_callB (callSorted (K := K) (A := ard "_law_sorted" sLSorted A s f cdv)) (by rfl) T.t.sorted (by decide +kernel) (pa_cons (pv 5) pa_nil))) (blkOk_by (N := nLS) (sc := defScope sLSorted) (by decide +kernel))
              (fun _ _ _ _ _ => pgTup (K := K) (n := 2) rfl (pgs_cons (pg_name (i := 11) scLS.nd rfl (Or.inl rfl)) (pgs_cons (pg_name (i := 8) scLS.nd rfl (Or.inl rfl)) pgs_nil))) (fun _ _ _ _ _ => pts_nil)
              (fun _ _ _ _ _ => pe_ix (ixT (K := K)) (pv 2) (pv 8) (fun _ _ => rfl))) pa_nil)))
        (pss_cons (ps_setLc (i := 5) (own := [("_law_at", 8), ("_law_house", 10)]) (tt := tYes) (by rfl) scLS.nd rfl rfl (sw_true rfl rfl rfl (by decide +kernel)) (piEnumT (K := K) (by rfl) T.t.enum (pa_cons (pv 3) pa_nil)) (blkOk_by (N := nLS) (sc := defScope sLSorted) (by decide +kernel))
            (fun _ _ _ _ _ => pgTup (K := K) (n := 2) rfl (pgs_cons (pg_name (i := 8) scLS.nd rfl (Or.inl rfl)) (pgs_cons (pg_name (i := 10) scLS.nd rfl (Or.inr rfl)) pgs_nil))) (fun _ _ _ _ _ => pts_nil)
            (fun _ _ _ _ _ => pe_tup (pa_cons (pe_lc (own := [("_law_person", 9)]) (g := gName 9) (tt := tYes) (by rfl) scLS.nd (piT (K := K) (peBackT (K := K) (pv 6))) (blkOk_by (N := nLS) (sc := relS (lcSc (asgOf (inFor lsFor 2))) (defScope sLSorted)) (by decide +kernel))
                (fun _ _ _ _ _ => pg_name (i := 9) scLS.nd rfl (Or.inl rfl)) (fun _ _ _ _ _ => pts_nil)
                (fun _ _ _ _ _ => pe_cmpR (inTD (K := K) hu) (pe_tup (pa_cons (pv 9) (pa_cons (pv 10) pa_nil))) (peFld (K := K) (pv 0) rfl) (by rfl))) (pa_cons (pv 8) pa_nil))))
        (pss_cons (ps_set (i := 7) scLS.nd rfl (Or.inl rfl) (pe_callTy (T := "tuple") (callTup (K := K)) (by rfl) T.t.tuple (by decide +kernel) (pa_cons
            (pe_lc (own := [("_law_key", 11), ("_law_at", 8)]) (tt := tYes) (by rfl) scLS.nd (piL (K := K) (pe_callB (callSorted (K := K) (A := ard "_law_sorted" sLSorted A s f cdv)) (by rfl) T.t.sorted (by decide +kernel) (pa_cons (pv 5) pa_nil))) (blkOk_by (N := nLS) (sc := defScope sLSorted) (by decide +kernel))
              (fun _ _ _ _ _ => pgTup (K := K) (n := 2) rfl (pgs_cons (pg_name (i := 11) scLS.nd rfl (Or.inl rfl)) (pgs_cons (pg_name (i := 8) scLS.nd rfl (Or.inl rfl)) pgs_nil))) (fun _ _ _ _ _ => pts_nil)
              (fun _ _ _ _ _ => pe_ix (ixT (K := K)) (pv 3) (pv 8) (fun _ _ => rfl))) pa_nil)))
        (pss_cons (ps_if (pt_cmpR (eqD (K := K) hr.units) (pe_tup (pa_cons (pv 6) (pa_cons (pv 7) pa_nil))) (pe_tup (pa_cons (pv 2) (pa_cons (pv 3) pa_nil))) (nomark _)) (pss_one ps_break) pss_nil)
        (pss_one (ps_asg (pe_tup (pa_cons (pv 6) (pa_cons (pv 7) pa_nil))) (pg_tup rfl (pgs_cons (pg_name (i := 2) scLS.nd rfl (Or.inr rfl)) (pgs_cons (pg_name (i := 3) scLS.nd rfl (Or.inr rfl)) pgs_nil)))))))))))
      (pss_one (ps_ret (pe_tup (pa_cons (pv 2) (pa_cons (pv 3) pa_nil)))))), ?_⟩
    obtain ⟨P', Hs', hT⟩ := ask.T
    obtain ⟨dx, pa0, ha0, qa, t1, t2, t3, t4, t5, t6⟩ := id hT
    obtain ⟨po, ho, o1, o2, o3⟩ := id ask.O
    have zp := ask.p
    have zh := ask.h
    have hroom : (ard "_law_sorted" sLSorted A s f cdv).units + 2 + Datum.depth (List Bool × Int) < cLine := by
      have : Datum.depth (List Bool × Int) = 2 := rfl
      rw [this]; omega
    refine ⟨_, rfl, o, _, rfl, SqT.of o1, rfl, _, _, rfl, _, _, rfl, rfl, ⟨200, rfl, by decide, by decide, ?_⟩⟩
    refine for_range (lo := 0) (n := 200) (fun i σ H' => ∃ pa ha ps' hs' x4 x5 x6 x7 x8 x9 x10 x11, σ = [some (.ref t), some (.ref o), some (.ref pa), some (.ref ha), x4, x5, x6, x7, x8, x9, x10, x11] ∧ Same H H' ∧ TupS H' pa ps' ∧ TupS H' ha hs' ∧ ps'.Perm ps ∧ hs'.Perm hs ∧ (i = 0 ∨ Upto (rel pr) (ps.length + 1 - i) ps' hs'))
      ⟨po, ho, ps, hs, _, _, _, _, _, _, _, _, rfl, fun _ _ e => e, o2, o3, .refl _, .refl _, .inl rfl⟩ (fun i σ H1 hi st => ?_) (fun σ H1 st => ?_)
    · obtain ⟨pa, ha, ps', hs', x4, x5, x6, x7, x8, x9, x10, x11, rfl, s1, hpa, hha, pp, ph, hU⟩ := st
      have op' : OkS ps' := fun x hx => op x (pp.mem_iff.mp hx)
      have oh' : OkS hs' := fun x hx => oh x (ph.mem_iff.mp hx)

      have lA : ps'.length ≤ 100 := by rw [pp.length_eq]; exact zp
      have bA : hs'.length ≤ 100 := by rw [ph.length_eq]; exact zh
      refine ⟨_, rfl, pa, _, rfl, SqT.of hpa, fun L hL => ?_⟩
      refine map_enumT yes (fun j y Ha => ∃ q, y = .ref q ∧ (q ≠ L ∧ ∃ l, l ≠ L ∧ Ha q = some (.tup [.ref l, .int (j : Nat)]) ∧ Ha l = some (.lst (((fun nm => hs'.reverse.map fun h => rel pr nm h) (ps'.getD j "")).map V.bl)))) hL (SqT.of hpa) (szl (by rw [List.length_map]; omega)) (fun j y Ha Hb e hh => by
        obtain ⟨q, h1, h2, l, h3, h4, h5⟩ := hh
        exact ⟨q, h1, h2, l, h3, e _ _ h2 h4, e _ _ h3 h5⟩) (fun i x Hc Tt hi p hT => ?_) (fun ys Hc hsc hdc hy => ?_)
      · obtain ⟨nm, hnm, rfl⟩ := map_at hi
        intro k2 k2' kk kk'
        have sc := Same.trans s1 p.1
        refine ⟨Tt, _, rfl, SqT.of hT, rfl, _, _, rfl, _, _, rfl, rfl, rfl, ⟨_, rfl, ha, _, rfl, SqT.of (p.1 _ _ hha), fun rv hrv => ⟨rv, rfl, ⟨_, SqT.of upd_same⟩, fun L2 hL2 => ?_⟩⟩⟩
        have se := Same.new (o := .tup (hs'.map V.str).reverse) hrv
        have ue : upd Hc rv (.tup (hs'.map V.str).reverse) rv = some (.tup (hs'.reverse.map V.str)) := by rw [upd_same, List.map_reverse]
        have noL : upd Hc rv (.tup (hs'.map V.str).reverse) L = some (.lst p.2.choose) := se _ _ p.2.choose_spec.1
        generalize upd Hc rv (.tup (hs'.map V.str).reverse) = He at se ue hL2 noL
        refine map_tup yes (fun j y H => ∃ h, hs'.reverse[j]? = some h ∧ y = .bl (rel pr nm h)) hL2 (SqT.of ue) (szl (by rw [List.length_map, List.length_reverse]; omega)) (fun j y Ha Hb e h => h) (fun i2 x2 Hf hi2 p2 => ?_) (fun ys2 Hf hsf hdf hy2 => ?_)
        · obtain ⟨h2, hh2, rfl⟩ := map_at hi2
          intro k3 k3' kk3 kk3'
          have sf := Same.trans (Same.trans sc se) p2.1
          refine ⟨rfl, ⟨_, rfl, _, rfl, szl (by show 2 ≤ 4000; decide), fun pt hpt => ?_⟩⟩
          have sg := Same.trans sf (Same.new (o := .tup [.str nm, .str h2]) hpt)
          refine ⟨_, rfl, t, C, dx, _, _, rfl, sg _ _ t1, T.t.cl, T.t.nQ, tabF_q _ _ _, ?_⟩
          have hm2 : h2 ∈ hs' := List.mem_reverse.mp (List.mem_of_getElem? hh2)
          have hm1 : nm ∈ ps' := List.mem_of_getElem? hnm
          exact pairIn (pr := pr) upd_same (sg _ _ t5) (fun x hx => sg _ _ (t6 x hx)) (op' _ hm1) (oh' _ hm2) oq (kk3 rfl _ _ (Same.new hpt) ⟨h2, hh2, rfl⟩)
        · rw [List.length_map] at hy2
          obtain rfl := each_vals hy2 rfl
          refine ⟨_, rfl, szl (by show 2 ≤ 4000; decide), fun q hq => kk rfl _ _ (Same.trans (Same.trans se hsf) (Same.new hq)) ⟨q, rfl, off_ne (hsf _ _ noL) hq, L2, off_ne noL hL2, upd_same, ?_⟩⟩
          rw [Same.new hq _ _ hdf, List.getD_eq_getElem?_getD, hnm]
          show _ = some (HO.lst ((hs'.reverse.map _).map V.bl))
          rw [List.map_map]; rfl
      rw [List.length_map, filter_yes] at hy
      obtain ⟨zs0, rfl, ez, wz⟩ := each_refs (R := fun q (kv : List Bool × Int) => q ≠ L ∧ ∃ l, l ≠ L ∧ Hc q = some (.tup [.ref l, .int kv.2]) ∧ Hc l = some (.lst (kv.1.map V.bl))) (q := fun j => ((fun nm => hs'.reverse.map fun h => rel pr nm h) (ps'.getD j ""), ((j : Nat) : Int))) hy
      have sA := Same.trans s1 hsc
      refine ⟨_, rfl, ?_⟩
      dsimp only [tNil]
      refine sortedOf (α := List Bool × Int) (zs0.map fun x => (V.ref x.1, x.2)) (by rw [List.map_map]; exact SqL.of hdc) (fun z hz => ?_) hroom (.inl fun dd hdd => ?_) fun ys p hp hw hn => ?_
      · obtain ⟨x, hx, rfl⟩ := List.mem_map.mp hz
        obtain ⟨_, l, _, h1, h2⟩ := wz x hx
        exact .tup (SqT.of h1) (.cons (.lst (SqL.of h2) (dpAll (g := PyData.bool) fun r _ => .bl r)) (.cons (.int _) .nil))
      · obtain ⟨z, hz, rfl⟩ := List.mem_map.mp hdd
        exact ⟨_, _, rfl⟩
      obtain ⟨qs, hqs, rfl⟩ := perm_of_map hp
      rw [List.map_map]
      have sn := Same.new (o := .lst (qs.map ((fun x : V × (List Bool × Int) => x.1) ∘ fun x : Addr × (List Bool × Int) => (V.ref x.1, x.2)))) hn
      have un : upd Hc p (.lst (qs.map ((fun x : V × (List Bool × Int) => x.1) ∘ fun x : Addr × (List Bool × Int) => (V.ref x.1, x.2)))) p = some (.lst (qs.map fun x => V.ref x.1)) := upd_same
      generalize upd Hc p (.lst (qs.map ((fun x : V × (List Bool × Int) => x.1) ∘ fun x : Addr × (List Bool × Int) => (V.ref x.1, x.2)))) = Hn at sn un
      obtain ⟨memq, permq, pwq⟩ := half (names := ps') (f := (fun nm => hs'.reverse.map fun h => rel pr nm h)) ez hqs ((List.pairwise_map.mp hw))
      have lqs : qs.length = ps'.length := by have := permq.length_eq; rwa [List.length_map] at this
      refine ⟨p, rfl, ⟨_, SqL.of un⟩, fun L3 hL3 => ?_⟩
      refine map_list yes (fun j y H => ∃ q, qs[j]? = some q ∧ y = .str (ps'.getD q.2.2.toNat "")) hL3 (SqL.of un) (szl (by rw [List.length_map]; omega)) (fun j y Ha Hb e h => h) (fun i x Hd hi p3 => ?_) (fun ys Hd hsd hdd hy3 => ?_)
      · obtain ⟨q, hq, rfl⟩ := map_at hi
        intro k4 k4' kk kk'
        have hqm := List.mem_of_getElem? hq
        obtain ⟨_, l, _, h1, h2⟩ := wz q (hqs.mem_iff.mp hqm)
        obtain ⟨j, hj, ej⟩ := memq q hqm
        have e2 : q.2.2 = (j : Int) := by rw [ej]
        have sd := Same.trans sn p3.1
        refine ⟨q.1, _, rfl, SqT.of (sd _ _ h1), rfl, _, _, rfl, _, _, rfl, rfl, rfl, ⟨_, rfl, _, rfl, pa, _, q.2.2, .str (ps'.getD q.2.2.toNat ""), rfl, rfl, SqT.of (sd _ _ (hsc _ _ hpa)), ?_, kk rfl _ _ (fun _ _ e => e) ⟨q, hq, rfl⟩⟩⟩
        rw [e2, Int.toNat_natCast]
        exact atI_nat (str_get (by rw [List.getD_eq_getElem?_getD, List.getElem?_eq_getElem hj]; rfl))
      rw [List.length_map] at hy3
      obtain rfl := each_vals hy3 rfl
      refine ⟨L3, _, rfl, .inl ⟨SqL.of hdd, fun tq htq => ?_⟩⟩
      have sq := Same.new (o := .tup (qs.map fun q => V.str (ps'.getD q.2.2.toNat ""))) htq
      have uq : TupS (upd Hd tq (.tup (qs.map fun q => V.str (ps'.getD q.2.2.toNat "")))) tq (qs.map fun q => ps'.getD q.2.2.toNat "") := by
        show upd _ _ _ _ = _
        rw [upd_same, List.map_map]; rfl
      have sA' := Same.trans (Same.trans sn hsd) sq
      generalize hafter : qs.map (fun q => ps'.getD q.2.2.toNat "") = after at uq permq pwq
      have hR : RowSorted (rel pr) after hs' := by
        refine pwq.imp fun {a b} h => ?_
        have e : ∀ nm, ((hs'.reverse.map fun h => rel pr nm h).map b2) = keyOf (rel pr nm) hs' := fun nm => by unfold keyOf; rw [List.map_map]; rfl
        rw [e, e] at h; exact h
      have paA : after.Perm ps := permq.trans pp
      have oa : OkS after := fun x hx => op x (paA.mem_iff.mp hx)
      have sX := Same.trans sA sA'
      have hha2 : TupS _ ha hs' := sA' _ _ (hsc _ _ hha)
      have hpa2 : TupS _ pa ps' := sA' _ _ (hsc _ _ hpa)
      generalize upd Hd tq (.tup (qs.map fun q => V.str (ps'.getD q.2.2.toNat ""))) = H5 at uq sX hha2 hpa2

      have lB : hs'.length ≤ 100 := by rw [ph.length_eq]; exact zh
      have bB : after.length ≤ 100 := by rw [paA.length_eq]; exact zp
      refine ⟨_, rfl, ha, _, rfl, SqT.of hha2, fun L hL => ?_⟩
      refine map_enumT yes (fun j y Ha => ∃ q, y = .ref q ∧ (q ≠ L ∧ ∃ l, l ≠ L ∧ Ha q = some (.tup [.ref l, .int (j : Nat)]) ∧ Ha l = some (.lst (((fun nm => after.reverse.map fun p => rel pr p nm) (hs'.getD j "")).map V.bl)))) hL (SqT.of hha2) (szl (by rw [List.length_map]; omega)) (fun j y Ha Hb e hh => by
        obtain ⟨q, h1, h2, l, h3, h4, h5⟩ := hh
        exact ⟨q, h1, h2, l, h3, e _ _ h2 h4, e _ _ h3 h5⟩) (fun i x Hc Tt hi p hT => ?_) (fun ys Hc hsc hdc hy => ?_)
      · obtain ⟨nm, hnm, rfl⟩ := map_at hi
        intro k2 k2' kk kk'
        have sc := Same.trans sX p.1
        refine ⟨Tt, _, rfl, SqT.of hT, rfl, _, _, rfl, _, _, rfl, rfl, rfl, ⟨_, rfl, tq, _, rfl, SqT.of (p.1 _ _ uq), fun rv hrv => ⟨rv, rfl, ⟨_, SqT.of upd_same⟩, fun L2 hL2 => ?_⟩⟩⟩
        have se := Same.new (o := .tup (after.map V.str).reverse) hrv
        have ue : upd Hc rv (.tup (after.map V.str).reverse) rv = some (.tup (after.reverse.map V.str)) := by rw [upd_same, List.map_reverse]
        have noL : upd Hc rv (.tup (after.map V.str).reverse) L = some (.lst p.2.choose) := se _ _ p.2.choose_spec.1
        generalize upd Hc rv (.tup (after.map V.str).reverse) = He at se ue hL2 noL
        refine map_tup yes (fun j y H => ∃ h, after.reverse[j]? = some h ∧ y = .bl (rel pr h nm)) hL2 (SqT.of ue) (szl (by rw [List.length_map, List.length_reverse]; omega)) (fun j y Ha Hb e h => h) (fun i2 x2 Hf hi2 p2 => ?_) (fun ys2 Hf hsf hdf hy2 => ?_)
        · obtain ⟨h2, hh2, rfl⟩ := map_at hi2
          intro k3 k3' kk3 kk3'
          have sf := Same.trans (Same.trans sc se) p2.1
          refine ⟨rfl, ⟨_, rfl, _, rfl, szl (by show 2 ≤ 4000; decide), fun pt hpt => ?_⟩⟩
          have sg := Same.trans sf (Same.new (o := .tup [.str h2, .str nm]) hpt)
          refine ⟨_, rfl, t, C, dx, _, _, rfl, sg _ _ t1, T.t.cl, T.t.nQ, tabF_q _ _ _, ?_⟩
          have hm2 : h2 ∈ after := List.mem_reverse.mp (List.mem_of_getElem? hh2)
          have hm1 : nm ∈ hs' := List.mem_of_getElem? hnm
          exact pairIn (pr := pr) upd_same (sg _ _ t5) (fun x hx => sg _ _ (t6 x hx)) (oa _ hm2) (oh' _ hm1) oq (kk3 rfl _ _ (Same.new hpt) ⟨h2, hh2, rfl⟩)
        · rw [List.length_map] at hy2
          obtain rfl := each_vals hy2 rfl
          refine ⟨_, rfl, szl (by show 2 ≤ 4000; decide), fun q hq => kk rfl _ _ (Same.trans (Same.trans se hsf) (Same.new hq)) ⟨q, rfl, off_ne (hsf _ _ noL) hq, L2, off_ne noL hL2, upd_same, ?_⟩⟩
          rw [Same.new hq _ _ hdf, List.getD_eq_getElem?_getD, hnm]
          show _ = some (HO.lst ((after.reverse.map _).map V.bl))
          rw [List.map_map]; rfl
      rw [List.length_map, filter_yes] at hy
      obtain ⟨zs0, rfl, ez, wz⟩ := each_refs (R := fun q (kv : List Bool × Int) => q ≠ L ∧ ∃ l, l ≠ L ∧ Hc q = some (.tup [.ref l, .int kv.2]) ∧ Hc l = some (.lst (kv.1.map V.bl))) (q := fun j => ((fun nm => after.reverse.map fun p => rel pr p nm) (hs'.getD j ""), ((j : Nat) : Int))) hy
      have sB := Same.trans sX hsc
      refine ⟨_, rfl, ?_⟩
      dsimp only [tNil]
      refine sortedOf (α := List Bool × Int) (zs0.map fun x => (V.ref x.1, x.2)) (by rw [List.map_map]; exact SqL.of hdc) (fun z hz => ?_) hroom (.inl fun dd hdd => ?_) fun ys p hp hw hn => ?_
      · obtain ⟨x, hx, rfl⟩ := List.mem_map.mp hz
        obtain ⟨_, l, _, h1, h2⟩ := wz x hx
        exact .tup (SqT.of h1) (.cons (.lst (SqL.of h2) (dpAll (g := PyData.bool) fun r _ => .bl r)) (.cons (.int _) .nil))
      · obtain ⟨z, hz, rfl⟩ := List.mem_map.mp hdd
        exact ⟨_, _, rfl⟩
      obtain ⟨qs, hqs, rfl⟩ := perm_of_map hp
      rw [List.map_map]
      have sn := Same.new (o := .lst (qs.map ((fun x : V × (List Bool × Int) => x.1) ∘ fun x : Addr × (List Bool × Int) => (V.ref x.1, x.2)))) hn
      have un : upd Hc p (.lst (qs.map ((fun x : V × (List Bool × Int) => x.1) ∘ fun x : Addr × (List Bool × Int) => (V.ref x.1, x.2)))) p = some (.lst (qs.map fun x => V.ref x.1)) := upd_same
      generalize upd Hc p (.lst (qs.map ((fun x : V × (List Bool × Int) => x.1) ∘ fun x : Addr × (List Bool × Int) => (V.ref x.1, x.2)))) = Hn at sn un
      obtain ⟨memq, permq, pwq⟩ := half (names := hs') (f := (fun nm => after.reverse.map fun p => rel pr p nm)) ez hqs ((List.pairwise_map.mp hw))
      have lqs : qs.length = hs'.length := by have := permq.length_eq; rwa [List.length_map] at this
      refine ⟨p, rfl, ⟨_, SqL.of un⟩, fun L3 hL3 => ?_⟩
      refine map_list yes (fun j y H => ∃ q, qs[j]? = some q ∧ y = .str (hs'.getD q.2.2.toNat "")) hL3 (SqL.of un) (szl (by rw [List.length_map]; omega)) (fun j y Ha Hb e h => h) (fun i x Hd hi p3 => ?_) (fun ys Hd hsd hdd hy3 => ?_)
      · obtain ⟨q, hq, rfl⟩ := map_at hi
        intro k4 k4' kk kk'
        have hqm := List.mem_of_getElem? hq
        obtain ⟨_, l, _, h1, h2⟩ := wz q (hqs.mem_iff.mp hqm)
        obtain ⟨j, hj, ej⟩ := memq q hqm
        have e2 : q.2.2 = (j : Int) := by rw [ej]
        have sd := Same.trans sn p3.1
        refine ⟨q.1, _, rfl, SqT.of (sd _ _ h1), rfl, _, _, rfl, _, _, rfl, rfl, rfl, ⟨_, rfl, _, rfl, ha, _, q.2.2, .str (hs'.getD q.2.2.toNat ""), rfl, rfl, SqT.of (sd _ _ (hsc _ _ hha2)), ?_, kk rfl _ _ (fun _ _ e => e) ⟨q, hq, rfl⟩⟩⟩
        rw [e2, Int.toNat_natCast]
        exact atI_nat (str_get (by rw [List.getD_eq_getElem?_getD, List.getElem?_eq_getElem hj]; rfl))
      rw [List.length_map] at hy3
      obtain rfl := each_vals hy3 rfl
      refine ⟨L3, _, rfl, .inl ⟨SqL.of hdd, fun tr htr => ?_⟩⟩
      have sq := Same.new (o := .tup (qs.map fun q => V.str (hs'.getD q.2.2.toNat ""))) htr
      have ur : TupS (upd Hd tr (.tup (qs.map fun q => V.str (hs'.getD q.2.2.toNat "")))) tr (qs.map fun q => hs'.getD q.2.2.toNat "") := by
        show upd _ _ _ _ = _
        rw [upd_same, List.map_map]; rfl
      have sB' := Same.trans (Same.trans sn hsd) sq
      generalize hrest : qs.map (fun q => hs'.getD q.2.2.toNat "") = rest at ur permq pwq
      have hC : ColSorted (rel pr) after rest := by
        refine pwq.imp fun {a b} h => ?_
        have e : ∀ nm, ((after.reverse.map fun p => rel pr p nm).map b2) = keyOf (fun p => rel pr p nm) after := fun nm => by unfold keyOf; rw [List.map_map]; rfl
        rw [e, e] at h; exact h
      have phA : rest.Perm hs := permq.trans ph
      have or' : OkS rest := fun x hx => oh x (phA.mem_iff.mp hx)
      have sY := Same.trans sB sB'
      have hha3 : TupS _ ha hs' := sB' _ _ (hsc _ _ hha2)
      have hpa3 : TupS _ pa ps' := sB' _ _ (hsc _ _ hpa2)
      have hta3 : TupS _ tq after := sB' _ _ (hsc _ _ uq)
      generalize upd Hd tr (.tup (qs.map fun q => V.str (hs'.getD q.2.2.toNat ""))) = H6 at ur sY hha3 hpa3 hta3
      refine ⟨_, rfl, _, rfl, szl (by show 2 ≤ 4000; decide), fun w1 hw1 => ⟨_, rfl, _, rfl, szl (by show 2 ≤ 4000; decide), fun w2 hw2 => ?_⟩⟩
      have sw1 := Same.new (o := .tup [.ref tq, .ref tr]) hw1
      have sw2 := Same.new (o := .tup [.ref pa, .ref ha]) hw2
      have sw := Same.trans sw1 sw2
      have lay2 : ∀ a b : List Str, OkS a → OkS b → (Datum.toD ((⟨a⟩, ⟨b⟩) : Tup Str × Tup Str) : PyData).canLay0 = true := fun a b ha hb => by
        show (PyData.tuple [Datum.toD (⟨a⟩ : Tup Str), Datum.toD (⟨b⟩ : Tup Str)]).canLay0 = true
        rw [PyData.canLay0, PyData.canLayAll0, PyData.canLayAll0, PyData.canLayAll0, lay_tupS ha, lay_tupS hb]; rfl
      refine eqOf (α := Tup Str × Tup Str) (x := (⟨after⟩, ⟨rest⟩)) (y := (⟨ps'⟩, ⟨hs'⟩)) (.tup (SqT.of (sw2 _ _ upd_same)) (.cons (dpTupS (SqT.of (sw _ _ hta3))) (.cons (dpTupS (SqT.of (sw _ _ ur))) .nil))) (.tup (SqT.of upd_same) (.cons (dpTupS (SqT.of (sw _ _ hpa3))) (.cons (dpTupS (SqT.of (sw _ _ hha3))) .nil))) (lay2 _ _ oa or') (lay2 _ _ op' oh') (by decide) ⟨_, rfl, ite2 (fun e => ?_) (fun e => ?_)⟩
      · have e := of_decide_eq_true e
        have e1 : after = ps' := congrArg Tup.items (Prod.mk.inj e).1
        have e2 : rest = hs' := congrArg Tup.items (Prod.mk.inj e).2
        subst e1 e2
        refine ⟨_, rfl, _, rfl, szl (by show 2 ≤ 4000; decide), fun o' ho' => ?_⟩
        have so := Same.new (o := .tup [.ref pa, .ref ha]) ho'
        have sall := Same.trans (Same.trans sY sw) so
        exact k _ o' after rest sall ⟨pa, ha, upd_same, so _ _ (sw _ _ hpa3), so _ _ (sw _ _ hha3)⟩ paA phA hR hC
      · refine ⟨_, rfl, _, rfl, szl (by show 2 ≤ 4000; decide), fun w3 hw3 => ⟨w3, _, rfl, SqT.of upd_same, rfl, _, _, rfl, _, _, rfl, rfl, ?_⟩⟩
        have sw3 := Same.new (o := .tup [.ref tq, .ref tr]) hw3
        refine ⟨tq, tr, after, rest, _, _, _, _, _, _, _, _, rfl, Same.trans (Same.trans sY sw) sw3, sw3 _ _ (sw _ _ hta3), sw3 _ _ (sw _ _ ur), paA, phA, .inr ?_⟩
        have hpm : after.Perm ps' := paA.trans pp.symm
        have hhm : rest.Perm hs' := phA.trans ph.symm
        rcases hU with rfl | hU
        · rw [show ps.length + 1 - (0 + 1) = after.length by rw [paA.length_eq]; omega]
          exact Upto.full hC
        · rw [show ps.length + 1 - (i + 1) = ps.length + 1 - i - 1 by omega]
          exact hU.turn hpm hR hhm hC
    · obtain ⟨pa, ha, ps', hs', x4, x5, x6, x7, x8, x9, x10, x11, rfl, s1, hpa, hha, pp, ph, hU⟩ := st
      have hU : Upto (rel pr) (ps.length + 1 - 200) ps' hs' := by rcases hU with z | z; cases z; exact z
      refine ⟨_, rfl, _, rfl, szl (by show 2 ≤ 4000; decide), fun o' ho' => ?_⟩
      have so := Same.new (o := .tup [.ref pa, .ref ha]) ho'
      exact k _ o' ps' hs' (Same.trans s1 so) ⟨pa, ha, upd_same, so _ _ hpa, so _ _ hha⟩ pp ph (hU.rows (by omega)) hU.1
end
end Sv
end

section
/-! A sorted order is straight where there is no ring; rings by places and by names. -/
set_option autoImplicit false
namespace Sv
section
variable {α β : Type} {M : α → β → Bool}
theorem sorted_row {ps : List α} {hs : List β} (hR : RowSorted M ps hs) {i k : Nat} (hik : i < k) (hk : k < ps.length) {j : Nat} (hj : j < hs.length) (m1 : M (ps[i]'(by omega)) hs[j] = true) (m2 : M ps[k] hs[j] = false) :
    ∃ j', j < j' ∧ ∃ h : j' < hs.length, M (ps[i]'(by omega)) hs[j'] = false ∧ M ps[k] hs[j'] = true := by
  have le := List.pairwise_iff_getElem.mp hR i k (by omega) hk hik
  have ne : keyOf (M (ps[i]'(by omega))) hs ≠ keyOf (M ps[k]) hs := fun e => by
    have := keyOf_inj e hs[j] (List.getElem_mem hj)
    rw [m1, m2] at this; cases this
  obtain ⟨j', h1, h2, h3, h4⟩ := keyOf_lt.mp (le_ne le ne)
  have e1 : ∀ (f : β → Bool) (d : Nat) (hd : d < hs.length), at' f hs d = f hs[d] := fun f d hd => at'_some (List.getElem?_eq_getElem hd)
  refine ⟨j', ?_, h1, ?_, ?_⟩
  · rcases Nat.lt_trichotomy j j' with q | q | q
    · exact q
    · subst q
      rw [e1 _ _ hj, m1] at h2; cases h2
    · have := h4 j q hj
      rw [e1 _ _ hj, e1 _ _ hj, m1, m2] at this; cases this
  · rw [e1 _ _ h1] at h2; exact h2
  · rw [e1 _ _ h1] at h3; exact h3
theorem nodup_inj {γ : Type} {l : List γ} (h : l.Nodup) {i k : Nat} (hi : i < l.length) (hk : k < l.length) (e : l[i] = l[k]) : i = k := (List.getElem_inj h).mp e
theorem bent_ring {ps : List α} {hs : List β} (hR : RowSorted M ps hs) (hC : ColSorted M ps hs) (np : ps.Nodup) (nh : hs.Nodup) {i k j l : Nat} (hik : i < k) (hk : k < ps.length) (hjl : j < l) (hl : l < hs.length)
    (m1 : M (ps[i]'(by omega)) (hs[j]'(by omega)) = true) (m2 : M (ps[i]'(by omega)) hs[l] = true) (m3 : M ps[k] (hs[j]'(by omega)) = true) (m4 : M ps[k] hs[l] = false) : Ring M (· ∈ ps) (· ∈ hs) := by
  have hp0 : 0 < ps.length := by omega
  have hh0 : 0 < hs.length := by omega
  have rp : ∀ i (h : i < ps.length), (ps[i]?.getD ps[0]) = ps[i] := fun i h => by rw [List.getElem?_eq_getElem h]; rfl
  have rh : ∀ i (h : i < hs.length), (hs[i]?.getD hs[0]) = hs[i] := fun i h => by rw [List.getElem?_eq_getElem h]; rfl
  refine ring_of_bent (row := fun i => ps[i]?.getD ps[0]) (col := fun j => hs[j]?.getD hs[0]) (m := ps.length) (n := hs.length) (fun i h => by show _ ∈ ps; rw [rp i h]; exact List.getElem_mem h) (fun j h => by show _ ∈ hs; rw [rh j h]; exact List.getElem_mem h)
    (fun i k h1 h2 e => by rw [rp i h1, rp k h2] at e; exact nodup_inj np h1 h2 e) (fun i k h1 h2 e => by rw [rh i h1, rh k h2] at e; exact nodup_inj nh h1 h2 e)
    (fun i k h1 h2 j h3 e1 e2 => ?_) (fun j l h1 h2 i h3 e1 e2 => ?_) hik hk hjl hl ?_ ?_ ?_ ?_
  · rw [rp i (by omega), rh j h3] at e1
    rw [rp k h2, rh j h3] at e2
    obtain ⟨j', g1, g2, g3, g4⟩ := sorted_row hR h1 h2 h3 e1 e2
    exact ⟨j', g1, g2, by rw [rp i (by omega), rh j' g2]; exact g3, by rw [rp k h2, rh j' g2]; exact g4⟩
  · rw [rp i h3, rh j (by omega)] at e1
    rw [rp i h3, rh l h2] at e2
    obtain ⟨j', g1, g2, g3, g4⟩ := sorted_row (M := fun h p => M p h) (ps := hs) (hs := ps) hC h1 h2 h3 e1 e2
    exact ⟨j', g1, g2, by rw [rp j' g2, rh j (by omega)]; exact g3, by rw [rp j' g2, rh l h2]; exact g4⟩
  · rw [rp i (by omega), rh j (by omega)]; exact m1
  · rw [rp i (by omega), rh l hl]; exact m2
  · rw [rp k hk, rh j (by omega)]; exact m3
  · rw [rp k hk, rh l hl]; exact m4
theorem straight_ring {ps : List α} {hs : List β} (hR : RowSorted M ps hs) (hC : ColSorted M ps hs) (np : ps.Nodup) (nh : hs.Nodup) : Straight M ps hs ↔ ¬ Ring M (· ∈ ps) (· ∈ hs) := by
  refine ⟨noRing, fun h => ?_⟩
  refine List.pairwise_iff_getElem.mpr fun i k hi hk hik => List.pairwise_iff_getElem.mpr fun j l hj hl hjl m1 m2 m3 => ?_
  cases e : M ps[k] hs[l] with
  | true => rfl
  | false => exact absurd (bent_ring hR hC np nh hik hk hjl hl m1 m2 m3 e) h
end
section
variable {α β γ δ : Type} {M : α → β → Bool} {M' : γ → δ → Bool} {Pe : α → Prop} {Ho : β → Prop} {Pe' : γ → Prop} {Ho' : δ → Prop} {f : α → γ} {g : β → δ}
theorem rch_map (hP : ∀ q, Pe q → Pe' (f q)) (hH : ∀ h, Ho h → Ho' (g h)) (hM : ∀ q h, Pe q → Ho h → M q h = M' (f q) (g h)) (inj : ∀ q q', Pe q → Pe q' → f q = f q' → q = q') {p : α} {lo hi : β} (pp : Pe p) (hlo : Ho lo) (hhi : Ho hi) {h : β} (r : Rch M Pe Ho p lo hi h) :
    Ho h ∧ Rch M' Pe' Ho' (f p) (g lo) (g hi) (g h) := by
  induction r with
  | base => exact ⟨hlo, .base⟩
  | @step h h' q r q1 q2 q3 m1 m2 ho ok ih =>
    refine ⟨ho, .step ih.2 (hP _ q1) (fun e => q2 (inj _ _ q1 pp e)) ?_ ?_ ?_ (hH _ ho) ?_⟩
    · rw [← hM _ _ q1 hlo, ← hM _ _ q1 hhi]; exact q3
    · rw [← hM _ _ q1 ih.1]; exact m1
    · rw [← hM _ _ q1 ho]; exact m2
    · rw [← hM _ _ pp ho]
      exact ok.imp id fun e => congrArg g e
theorem ring_map (hP : ∀ q, Pe q → Pe' (f q)) (hH : ∀ h, Ho h → Ho' (g h)) (hM : ∀ q h, Pe q → Ho h → M q h = M' (f q) (g h)) (inj : ∀ q q', Pe q → Pe q' → f q = f q' → q = q') (injh : ∀ h h', Ho h → Ho h' → g h = g h' → h = h') (R : Ring M Pe Ho) : Ring M' Pe' Ho' := by
  obtain ⟨p, lo, hi, h1, h2, h3, h4, h5, h6, h7⟩ := R
  exact ⟨f p, g lo, g hi, hP _ h1, hH _ h2, hH _ h3, fun e => h4 (injh _ _ h2 h3 e), by rw [← hM _ _ h1 h2]; exact h5, by rw [← hM _ _ h1 h3]; exact h6, (rch_map hP hH hM inj h1 h2 h3 h7).2⟩
end
/-- by places and by names -/
theorem ring_names {α β : Type} [DecidableEq α] [DecidableEq β] {M : α → β → Bool} {M' : Nat → Nat → Bool} {P : List α} {Hs : List β} (np : P.Nodup) (nh : Hs.Nodup) (h : ∀ i j (hi : i < P.length) (hj : j < Hs.length), M' i j = M P[i] Hs[j]) :
    Ring M' (· < P.length) (· < Hs.length) ↔ Ring M (· ∈ P) (· ∈ Hs) := by
  constructor
  · intro R
    obtain ⟨p, lo, hi, h1, h2, h3, _⟩ := id R
    have rp : ∀ i (h : i < P.length), (P[i]?.getD P[p]) = P[i] := fun i h => by rw [List.getElem?_eq_getElem h]; rfl
    have rh : ∀ i (h : i < Hs.length), (Hs[i]?.getD Hs[lo]) = Hs[i] := fun i h => by rw [List.getElem?_eq_getElem h]; rfl
    refine ring_map (f := fun i => P[i]?.getD P[p]) (g := fun j => Hs[j]?.getD Hs[lo]) (fun q hq => ?_) (fun q hq => ?_) (fun q x hq hx => ?_) (fun q q' hq hq' e => ?_) (fun q q' hq hq' e => ?_) R
    · show _ ∈ P; rw [rp q hq]; exact List.getElem_mem hq
    · show _ ∈ Hs; rw [rh q hq]; exact List.getElem_mem hq
    · show _ = M (P[q]?.getD P[p]) (Hs[x]?.getD Hs[lo])
      rw [rp q hq, rh x hx]; exact h q x hq hx
    · have e : P[q]?.getD P[p] = P[q']?.getD P[p] := e
      rw [rp q hq, rp q' hq'] at e; exact nodup_inj np hq hq' e
    · have e : Hs[q]?.getD Hs[lo] = Hs[q']?.getD Hs[lo] := e
      rw [rh q hq, rh q' hq'] at e; exact nodup_inj nh hq hq' e
  · intro R
    refine ring_map (f := fun x => P.idxOf x) (g := fun x => Hs.idxOf x) (fun q hq => List.idxOf_lt_length_of_mem hq) (fun q hq => List.idxOf_lt_length_of_mem hq) (fun q x hq hx => ?_) (fun q q' hq hq' e => ?_) (fun q q' hq hq' e => ?_) R
    · have h1 := List.idxOf_lt_length_of_mem hq
      have h2 := List.idxOf_lt_length_of_mem hx
      rw [h _ _ h1 h2, List.getElem_idxOf h1, List.getElem_idxOf h2]
    · have h1 := List.idxOf_lt_length_of_mem hq
      have h2 := List.idxOf_lt_length_of_mem hq'
      rw [← List.getElem_idxOf h1, ← List.getElem_idxOf h2]
      congr 1
    · have h1 := List.idxOf_lt_length_of_mem hq
      have h2 := List.idxOf_lt_length_of_mem hq'
      rw [← List.getElem_idxOf h1, ← List.getElem_idxOf h2]
      congr 1
/-- one sorting of one set of names -/
theorem asc_unique {α : Type} {lt : α → α → Prop} : ∀ {P ys : List α}, P.Pairwise lt → ys.Perm P → ys.Pairwise (fun b c => ¬ lt c b) → ys = P
  | [], ys, _, hp, _ => List.Perm.eq_nil hp
  | p :: P, [], _, hp, _ => by have := hp.length_eq; cases this
  | p :: P, y :: ys, hs, hp, hw => by
    have hy : y ∈ p :: P := hp.mem_iff.mp List.mem_cons_self
    have hpm : p ∈ y :: ys := hp.mem_iff.mpr List.mem_cons_self
    have e : y = p := by
      rcases List.mem_cons.mp hpm with e | h1
      · exact e.symm
      · rcases List.mem_cons.mp hy with e | h2
        · exact e
        · exact absurd ((List.pairwise_cons.mp hs).1 y h2) ((List.pairwise_cons.mp hw).1 p h1)
    subst e
    rw [asc_unique (List.pairwise_cons.mp hs).2 (List.Perm.cons_inv hp) (List.pairwise_cons.mp hw).2]
theorem Ring.perm {α β : Type} {M : α → β → Bool} {ps P : List α} {hs Hs : List β} (h1 : ps.Perm P) (h2 : hs.Perm Hs) : Ring M (· ∈ ps) (· ∈ hs) ↔ Ring M (· ∈ P) (· ∈ Hs) := by
  have e1 : (fun x => x ∈ ps) = fun x => x ∈ P := funext fun x => propext h1.mem_iff
  have e2 : (fun x => x ∈ hs) = fun x => x ∈ Hs := funext fun x => propext h2.mem_iff
  show Ring M (fun x => x ∈ ps) (fun x => x ∈ hs) ↔ _
  rw [e1, e2]
end Sv
end

section
set_option Elab.async false
set_option linter.all false
set_option maxRecDepth 100000
set_option maxHeartbeats 4000000
namespace Sv
open PySem L2 LamX
open PySem.W (Datum DatumOrd Tup EachIs)
theorem callSortedT {X : Cx} {K : PySem.W.Frag} {A : Around} (h : X.K = K := by rfl) (h2 : X.A = A := by rfl) : CallR X (.builtin "sorted") (rSortedDtT K A) := by subst h h2; exact cr_sortedDtT
def spLaw (K : PySem.W.Frag) (pt : Addr) : Sp := fun vs H Q _ => ∃ (a : Addr) (ns : List Int), vs = [.ref a] ∧ SqL K H a (ns.map V.int) ∧ Tabs (TT pt) H ∧ ∀ H', Q (.bl true) H'
/-- what the law keeps -/
structure LawSt (C d c pt t : Addr) (b : Bool) (P Hs : List Str) (pr : List (Addr × List Str)) (H : Hp) : Prop where
  D : DealAt d c H
  A : AskT C H t P Hs pr
  Tb : Tabs (TT pt) H
  m6 : P.length ≤ 6
  h6 : Hs.length ≤ 6
  aP : P.Pairwise ltS
  aH : Hs.Pairwise ltS
  oP : OkS P
  oH : OkS Hs
  oq : ∀ x ∈ pr, OkS x.2
  eb : b = true ↔ Ring (rel pr) (· ∈ P) (· ∈ Hs)
theorem DealAt.extN {d c : Addr} {H H' : Hp} (D : DealAt d c H) (e : ExtN H H') : DealAt d c H' := by
  obtain ⟨n, m, xs, h1, h2, h3⟩ := D
  exact ⟨n, m, xs, e _ _ h1 (fun _ z => nomatch z), e _ _ h2 (fun _ z => nomatch z), h3⟩
theorem But.tabs {d c : Addr} {H H' : Hp} {T : List (Addr × Str)} (B : But d c H H') (D : DealAt d c H) (t : Tabs T H) : Tabs T H' := by
  intro p hp
  obtain ⟨ps, h1, h2, h3⟩ := t p hp
  obtain ⟨n1, n2⟩ := D.apart h1 fun _ z => nomatch z
  refine ⟨ps, B _ _ n1 n2 h1, h2, fun pos cv h => ?_⟩
  obtain ⟨c', e1, e2⟩ := h3 pos cv h
  obtain ⟨n3, n4⟩ := D.apart e2 fun xs z => by
    unfold CodeO at z
    cases z
  exact ⟨c', e1, B _ _ n3 n4 e2⟩
section
variable {C d c pt t : Addr} {b : Bool} {P Hs : List Str} {pr : List (Addr × List Str)} {H H' : Hp}
theorem LawSt.ext (X : LawSt C d c pt t b P Hs pr H) (e : ExtN H H') (T : Tabs (TT pt) H') : LawSt C d c pt t b P Hs pr H' := ⟨X.D.extN e, X.A.ext e, T, X.m6, X.h6, X.aP, X.aH, X.oP, X.oH, X.oq, X.eb⟩
theorem LawSt.same (X : LawSt C d c pt t b P Hs pr H) (s : Same H H') : LawSt C d c pt t b P Hs pr H' := X.ext (Same.toN s) (X.Tb.ext s)
theorem LawSt.but (X : LawSt C d c pt t b P Hs pr H) (B : But d c H H') (D : DealAt d c H') : LawSt C d c pt t b P Hs pr H' :=
  ⟨D, ⟨X.A.T.but B X.D, X.A.p0, X.A.h0, X.A.p, X.A.h, X.A.q⟩, B.tabs X.D X.Tb, X.m6, X.h6, X.aP, X.aH, X.oP, X.oH, X.oq, X.eb⟩
theorem asc_nodup {P : List Str} (h : P.Pairwise ltS) : P.Nodup := h.imp fun h => ltS_ne h
/-- in a sorted order: straight where there is no ring -/
theorem LawSt.st (X : LawSt C d c pt t b P Hs pr H) {ps hs : List Str} (pp : ps.Perm P) (ph : hs.Perm Hs) (hR : RowSorted (rel pr) ps hs) (hC : ColSorted (rel pr) ps hs) : Straight (rel pr) ps hs ↔ b = false := by
  rw [straight_ring hR hC (pp.symm.nodup (asc_nodup X.aP)) (ph.symm.nodup (asc_nodup X.aH)), Ring.perm pp ph, ← X.eb]
  cases b <;> simp
theorem LawSt.not (X : LawSt C d c pt t b P Hs pr H) {ps hs : List Str} {b2 : Bool} (pp : ps.Perm P) (ph : hs.Perm Hs) (hR : RowSorted (rel pr) ps hs) (hC : ColSorted (rel pr) ps hs) (e : b2 = true ↔ Straight (rel pr) ps hs) : b2 = !b := by
  rw [X.st pp ph hR hC] at e
  cases b <;> cases b2 <;> simp at e ⊢
end
section
variable {P : Program} {w : World} {K : PySem.W.Frag} {mg : Str → Option Value} {base : Heap}
abbrev nLaw : List Str := ["_law_script", "_law_deal_here", "_law_rows", "_law_table_here", "_law_has_ring_here", "_law_told", "_law_turn", "_law_order_here"]
theorem scLaw : FnScope nLaw ["_law_script"] (defScope sLaw) := ⟨rfl, rfl, rfl, by decide +kernel, rfl, by decide +kernel, by decide +kernel⟩
abbrev LawX (P : Program) (w : World) (K : PySem.W.Frag) (mg : Str → Option Value) (base : Heap) (f : Addr) (cdv : Value) (A : Around) (outer : List Env) (s : Shared) (H : Hp) (E : XK) : Cx := (cxOf CX0 P w K mg base nLaw "law" (defScope sLaw) f cdv A outer s H E).nox
theorem law_tail {f C pt fo fls fis fst fso : Addr} {cdv : Value} {A : Around} {outer : List Env} {s : Shared} {H : Hp} {E : XK} {fdo fdls fdis fdst fdso : FuncData} (T : TxtL K mg C) (hr : Room 6 (ard "law" sLaw A s f cdv))
    (go : FnOk P w K mg base CX0 3 fo fdo ["_law_deal_here", "_law_table_here"] (spOrder C)) (co : Cal K mg "_law_order" fo fdo ["_law_deal_here", "_law_table_here"])
    (gls : FnOk P w K mg base CX0 1 fls fdls ["_law_table_here", "_law_order_here"] (spLSorted C)) (cls : Cal K mg "_law_sorted" fls fdls ["_law_table_here", "_law_order_here"])
    (gis : FnOk P w K mg base CX0 3 fis fdis ["table", "order"] (spIsSorted C)) (cis : Cal K mg "is_sorted" fis fdis ["table", "order"])
    (gst : FnOk P w K mg base CX0 3 fst fdst ["table", "order"] (spStraight C)) (cst : Cal K mg "is_straight" fst fdst ["table", "order"])
    (gso : FnOk P w K mg base CX0 5 fso fdso ["table"] (spSortedOrder C pt)) (cso : Cal K mg "sorted_order" fso fdso ["table"]) {Q : VK} (hQ : ∀ H', Q (.bl true) H') :
    ∃ u, PSs (LawX P w K mg base f cdv A outer s H E) ((defBody sLaw).drop 6) u ∧ ∀ (a d c ra t : Addr) (b : Bool) (told : V) (x6 x7 : Option V) (Ps Hs : List Str) (pr : List (Addr × List Str)) (H' : Hp), LawSt C d c pt t b Ps Hs pr H' →
      u { nx := fun _ H' => Q .non H', rt := Q } [some (.ref a), some (.ref d), some (.ref ra), some (.ref t), some (.bl b), some told, x6, x7] H' := by
  have hr1 := hr.mono (by decide : 1 ≤ 6)
  have hr3 := hr.mono (by decide : 3 ≤ 6)
  have hr5 := hr.mono (by decide : 5 ≤ 6)
  refine ⟨_, pss_cons (ps_for PassesOwn.never rfl (pi_range1 (by rfl) T.t.range (pa_cons pe_int pa_nil)) (pg_name (i := 6) scLaw.nd rfl (Or.inl rfl))
      (pss_cons (ps_set (i := 7) scLaw.nd rfl (Or.inl rfl) (pe_call gls hr1 rfl cls.g cls.k cls.b .nil pass0 (pa_cons (pv 3) (pa_cons (pe_call go hr3 rfl co.g co.k co.b .nil pass0 (pa_cons (pv 1) (pa_cons (pv 3) pa_nil))) pa_nil))))
      (pss_one (ps_if (PW.pt (pw_or (pt_cmpR op_notBl (pe_call gis hr3 rfl cis.g cis.k cis.b .nil pass0 (pa_cons (pv 3) (pa_cons (pv 7) pa_nil))) pe_bl (nomark _))
          (pw_or1 (pt_cmpR op_ne (pe_callB call_repr_bl (by rfl) T.repr (by decide +kernel) (pa_cons (pe_call gst hr3 rfl cst.g cst.k cst.b .nil pass0 (pa_cons (pv 3) (pa_cons (pv 7) pa_nil))) pa_nil))
            (pe_callB call_repr_bl (by rfl) T.repr (by decide +kernel) (pa_cons (pe_not (pv 4)) pa_nil)) (nomark _))))) (pss_one (ps_ret pe_bl)) pss_nil))))
    (pss_one (ps_ret (pe_cmpR op_eq (pe_callB call_repr_bl (by rfl) T.repr (by decide +kernel) (pa_cons (pe_call gst hr3 rfl cst.g cst.k cst.b .nil pass0 (pa_cons (pv 3) (pa_cons (pe_call gso hr5 rfl cso.g cso.k cso.b .nil pass0 (pa_cons (pv 3) pa_nil)) pa_nil))) pa_nil))
      (pe_callB call_repr_bl (by rfl) T.repr (by decide +kernel) (pa_cons (pe_not (pv 4)) pa_nil)) (nomark _)))), ?_⟩
  intro a d c ra t b told x6 x7 Ps Hs pr H0 X0
  refine ⟨3, rfl, by decide, by decide, ?_⟩
  refine for_range (lo := 0) (n := 3) (fun i σ H' => ∃ x6 x7, σ = [some (.ref a), some (.ref d), some (.ref ra), some (.ref t), some (.bl b), some told, x6, x7] ∧ LawSt C d c pt t b Ps Hs pr H') ⟨_, _, rfl, X0⟩ (fun i σ H1 hi st => ?_) (fun σ H1 st => ?_)
  · obtain ⟨x6, x7, rfl, X⟩ := st
    refine ⟨_, rfl, _, rfl, _, rfl, d, c, t, Ps, Hs, pr, rfl, X.D, X.A.T, X.A.p, X.A.h, fun H2 o ps hs B2 D2 O2 pp ph => ?_⟩
    have X2 := X.but B2 D2
    refine ⟨t, o, pr, ps, hs, rfl, X2.A.with O2 pp ph, fun x hx => X.oP x (pp.mem_iff.mp hx), fun x hx => X.oH x (ph.mem_iff.mp hx), X.oq, fun H3 o' ps' hs' s3 O3 pp' ph' hR hC => ?_⟩
    have X3 := X2.same s3
    have pp3 := pp'.trans pp
    have ph3 := ph'.trans ph
    have ask3 := X3.A.with O3 pp3 ph3
    refine ⟨_, rfl, _, rfl, t, o', pr, ps', hs', rfl, ask3, fun H4 b1 s4 e1 => ⟨b1, true, rfl, rfl, _, rfl, ?_⟩⟩
    obtain rfl : b1 = true := e1.mpr ⟨hR, hC⟩
    have X4 := X3.same s4
    refine iteF ⟨_, rfl, _, rfl, t, o', pr, ps', hs', rfl, ask3.ext (Same.toN s4), fun H5 b2 s5 e2 => ⟨b2, rfl, _, rfl, b, rfl, !b, rfl, rfl, _, rfl, ?_⟩⟩
    have hb2 := X4.not pp3 ph3 hR hC e2
    rw [← hb2, decide_eq_true rfl]
    exact iteF ⟨_, _, rfl, X4.same s5⟩
  · obtain ⟨x6, x7, rfl, X⟩ := st
    refine ⟨_, rfl, _, rfl, t, Ps, Hs, pr, rfl, X.A, X.Tb, fun H2 o ps hs e2 T2 O2 pp ph hR hC => ?_⟩
    have X2 := X.ext e2 T2
    refine ⟨t, o, pr, ps, hs, rfl, X2.A.with O2 pp ph, fun H3 b3 s3 e3 => ⟨b3, rfl, _, rfl, b, rfl, !b, rfl, rfl, ?_⟩⟩
    have hb := X2.not pp ph hR hC e3
    show Q (.bl (decide _)) H3
    rw [← hb, decide_eq_true rfl]
    exact hQ H3
end
end Sv
end

section
set_option Elab.async false
set_option linter.all false
set_option maxRecDepth 100000
set_option maxHeartbeats 4000000
namespace Sv
open PySem L2 LamX
open PySem.W (Datum DatumOrd Tup EachIs)
/-- what a caller by keywords knows -/
structure CalK (K : PySem.W.Frag) (mg : Str → Option Value) (x : Str) (f : Addr) (fd : FuncData) (ps : List Str) : Prop where
  g : mg x = some (.ref f)
  k : PySem.W.keepIn K (.ref f) = true
  b : KBinds K fd ps ps (fun us ws => us ++ ws) (fun vs zs => vs ++ zs)
theorem Made.st {C d c pt a t : Addr} {b : Bool} {P Hs : List Str} {pr : List (Addr × List Str)} {H H' H2 : Hp} {rs : List (Addr × List Int)} {n : Nat} (X : Made C d c H t P Hs pr rs n) (G : RowsB H2 a rs n) (D : DealAt d c H') (s : Same H H') (T : Tabs (TT pt) H') (e : b = true ↔ Ring (MatL (rs.map (·.2))) (· < rs.length) (· < n)) :
    LawSt C d c pt t b P Hs pr H' := by
  have m0 := G.m0
  have m6 := G.m
  have n0 := G.n0
  have n6 := G.n6
  have lp := X.lp
  have lh := X.lh
  refine ⟨D, ⟨X.T.ext (Same.toN s), by omega, by omega, by omega, by omega, X.q⟩, T, by omega, by omega, X.ap, X.ah, X.op, X.oh, X.oq, ?_⟩
  rw [e, ← lp, ← lh]
  refine ring_names (asc_nodup X.ap) (asc_nodup X.ah) fun i j hi hj => ?_
  have he := X.e i j P[i] Hs[j] (List.getElem?_eq_getElem hi) (List.getElem?_eq_getElem hj)
  obtain ⟨r, g1, g2⟩ := G.at (i := i) (j := j) (by omega) (by omega)
  have : rel pr P[i] Hs[j] = true ↔ MatL (rs.map (·.2)) i j = true := by
    rw [he]
    unfold bit MatL
    rw [decide_eq_true_eq]
    constructor
    · rintro ⟨r', e1, e2⟩
      rw [g1] at e1
      obtain rfl := Option.some.inj e1
      rw [g2] at e2
      exact Option.some.inj e2
    · intro z
      exact ⟨r, g1, by rw [g2, z]⟩
  cases e1 : MatL (rs.map (·.2)) i j <;> cases e2 : rel pr P[i] Hs[j] <;> rw [e1, e2] at this <;> simp at this ⊢
theorem not_bad {M : Str → Str → Bool} {ps hs : List Str} {rs : List (Addr × List Int)} (e : rs.map (·.2) = matOf M ps hs) (s : Straight M ps hs) : ∀ i j l h, ¬ BadAt rs i j l h := by
  rintro i j l h ⟨r1, r2, g1, g2, ij, b⟩
  obtain ⟨p1, e1, q1⟩ := mat_row e g1
  obtain ⟨p2, e2, q2⟩ := mat_row e g2
  rw [q1, q2] at b
  exact straight_iff.mp s i j l h ((bad_bent e1 e2 ij).mp b)
theorem sortedNe {K : PySem.W.Frag} {A : Around} {σ : L2.St} {H : Hp} {Q : Bool → Hp → Prop} {o p t C dx q : Addr} {xs : List V} {i : Int} {ps P : List Str} {fs : List (Str × V)} {fld : Str} (h5 : σ[5]? = some (some (.ref o))) (ho : H o = some (.tup xs)) (hi : atI xs i = some (.ref p)) (hp : TupS H p ps)
    (pp : ps.Perm P) (aP : P.Pairwise ltS) (oP : OkS P) (h3 : σ[3]? = some (some (.ref t))) (ht : H t = some (.ins C dx fs)) (hc : Cls K C) (hn : NoAttr K C fld) (hl : fs.lookup fld = some (.ref q)) (hq : TupS H q P) (hu : A.units + 3 < cLine) (k : ∀ H', Same H H' → Q false H') :
    tTest (tOp (rNeD K) (tCB (rTup K) (tCons (tCB (rSortedDtT K A) (tCons (tOp (rIxT K) (tVar 5) (tC (.int i))) tNil)) tNil)) (tFld K (tVar 3) fld)) σ H Q := by
  refine ⟨_, h5, o, _, i, _, rfl, rfl, SqT.of ho, hi, ?_⟩
  dsimp only [tNil]
  refine sortedOfT (α := Str) (ps.map fun x => (V.str x, x)) (by rw [List.map_map]; exact SqT.of hp) (fun z hz => ?_) (by show A.units + 2 + 0 < cLine; omega) (.inr fun d hd => ?_) fun ys p2 hp2 hw hn2 => ?_
  · obtain ⟨x, _, rfl⟩ := List.mem_map.mp hz
    exact .str x
  · obtain ⟨z, hz, rfl⟩ := List.mem_map.mp hd
    exact ⟨fun e => (by cases e), fun xs e => (by cases e)⟩
  · obtain ⟨qs, hqs, rfl⟩ := perm_of_map hp2
    have hqP : qs = P := asc_unique aP (hqs.trans pp) ((List.pairwise_map.mp hw).imp fun {b c} h => by
      have h : decide (c.cps.toList < b.cps.toList) = false := h
      exact of_decide_eq_false h)
    subst hqP
    have s1 := Same.new (o := .lst ((qs.map fun x => (V.str x, x)).map (·.1))) hn2
    have u1 : upd H p2 (.lst ((qs.map fun x => (V.str x, x)).map (·.1))) p2 = some (.lst (qs.map V.str)) := by rw [upd_same, List.map_map]; rfl
    generalize upd H p2 (.lst ((qs.map fun x => (V.str x, x)).map (·.1))) = H1 at s1 u1
    refine ⟨p2, _, rfl, .inl ⟨SqL.of u1, fun tq htq => ?_⟩⟩
    have s2 := Same.trans s1 (Same.new (o := .tup (qs.map V.str)) htq)
    refine ⟨_, h3, t, C, dx, _, _, rfl, s2 _ _ ht, hc, hn, hl, ?_⟩
    refine neOf (α := Tup Str) (x := ⟨qs⟩) (y := ⟨qs⟩) (dpTupS (SqT.of upd_same)) (dpTupS (SqT.of (s2 _ _ hq))) (lay_tupS oP) (lay_tupS oP) (by decide) ⟨_, rfl, ?_⟩
    rw [decide_eq_true rfl]
    exact k _ s2
section
variable {P : Program} {w : World} {K : PySem.W.Frag} {mg : Str → Option Value} {base : Heap}
theorem ok_law {f C pt fd0 fsm ftb frg fsto flc flb fo fls fis fst fso : Addr} {fd fdd fdsm fdtb fdrg fdsto fdlc fdlb fdo fdls fdis fdst fdso : FuncData} (F : Fun K "law" "law" sLaw f fd) (T : TxtL K mg C)
    (gd : FnOk P w K mg base CX0 1 fd0 fdd ["_law_script", "_law_base"] (spDeal K)) (cd : Cal K mg "_law_deal" fd0 fdd ["_law_script", "_law_base"])
    (gsm : FnOk P w K mg base CX0 4 fsm fdsm ["_law_deal_here", "_law_most"] spGrid) (csm : Cal K mg "_law_some" fsm fdsm ["_law_deal_here", "_law_most"])
    (gtb : FnOk P w K mg base CX0 4 ftb fdtb ["_law_deal_here", "_law_rows"] (spTab C)) (ctb : Cal K mg "_law_table" ftb fdtb ["_law_deal_here", "_law_rows"])
    (grg : FnOk P w K mg base CX0 2 frg fdrg ["_law_rows"] spRing) (crg : Cal K mg "_law_has_ring" frg fdrg ["_law_rows"])
    (gsto : FnOk P w K mg base CX0 6 fsto fdsto ["table"] (spStraightOrder C pt)) (csto : CalK K mg "straight_order" fsto fdsto ["table"])
    (glc : FnOk P w K mg base CX0 1 flc fdlc ["_law_table_here", "_law_order_here"] (spLCells C)) (clc : Cal K mg "_law_cells" flc fdlc ["_law_table_here", "_law_order_here"])
    (glb : FnOk P w K mg base CX0 1 flb fdlb ["_law_rows"] spLBent) (clb : Cal K mg "_law_bent" flb fdlb ["_law_rows"])
    (go : FnOk P w K mg base CX0 3 fo fdo ["_law_deal_here", "_law_table_here"] (spOrder C)) (co : Cal K mg "_law_order" fo fdo ["_law_deal_here", "_law_table_here"])
    (gls : FnOk P w K mg base CX0 1 fls fdls ["_law_table_here", "_law_order_here"] (spLSorted C)) (cls : Cal K mg "_law_sorted" fls fdls ["_law_table_here", "_law_order_here"])
    (gis : FnOk P w K mg base CX0 3 fis fdis ["table", "order"] (spIsSorted C)) (cis : Cal K mg "is_sorted" fis fdis ["table", "order"])
    (gst : FnOk P w K mg base CX0 3 fst fdst ["table", "order"] (spStraight C)) (cst : Cal K mg "is_straight" fst fdst ["table", "order"])
    (gso : FnOk P w K mg base CX0 5 fso fdso ["table"] (spSortedOrder C pt)) (cso : Cal K mg "sorted_order" fso fdso ["table"]) : FnOk P w K mg base CX0 7 f fd ["_law_script"] (spLaw K pt) := by
  refine F.ok scLaw (fun vs H Q E h => ?_) (fun cdv A outer s H vs Q E hr h => ?_)
  · obtain ⟨a, ns, rfl, _⟩ := h
    rfl
  · obtain ⟨a, ns, rfl, hS, hT, k⟩ := h
    have hr1 := hr.mono (by decide : 1 ≤ 6)
    have hr2 := hr.mono (by decide : 2 ≤ 6)
    have hr3 := hr.mono (by decide : 3 ≤ 6)
    have hr4 := hr.mono (by decide : 4 ≤ 6)
    obtain ⟨u, hu1, hu2⟩ := law_tail (outer := outer) (H := H) (E := E) T hr go co gls cls gis cis gst cst gso cso k
    refine ⟨_, pss_cons (ps_set (i := 1) scLaw.nd rfl (Or.inl rfl) (pe_call gd hr1 rfl cd.g cd.k cd.b .nil pass0 (pa_cons (pv 0) (pa_cons pe_int pa_nil))))
      (pss_cons (ps_set (i := 2) scLaw.nd rfl (Or.inl rfl) (pe_call gsm hr4 rfl csm.g csm.k csm.b .nil pass0 (pa_cons (pv 1) (pa_cons pe_int pa_nil))))
      (pss_cons (ps_par (i := 3) (j := 4) rfl scLaw.nd rfl rfl (by decide) rfl rfl (pa_cons (pe_call gtb hr4 rfl ctb.g ctb.k ctb.b .nil pass0 (pa_cons (pv 1) (pa_cons (pv 2) pa_nil))) (pa_cons (pe_call grg hr2 rfl crg.g crg.k crg.b .nil pass0 (pa_cons (pv 2) pa_nil)) pa_nil)) rfl)
      (pss_cons (ps_set (i := 5) scLaw.nd rfl (Or.inl rfl) (pe_callKw0 gsto hr rfl csto.g csto.k csto.b pass0 (pk_cons (pv 3) pk_nil)))
      (pss_cons (ps_if (pt_cmpR op_ne (pv 4) (pe_cmpR op_isN (pv 5) pe_non (nomark _)) (nomark _)) (pss_one (ps_ret pe_bl)) pss_nil)
      (pss_cons (ps_if (pt_cmp (pc_notN (pv 5)))
          (pss_cons (ps_if (PW.pt (pw_or (pt_cmpR (neD (K := K) hr.units) (pe_callTy (T := "tuple") (callTup (K := K)) (by rfl) T.t.tuple (by decide +kernel) (pa_cons (pe_callB (callSortedT (K := K) (A := ard "law" sLaw A s f cdv)) (by rfl) T.t.sorted (by decide +kernel) (pa_cons (pe_ix (ixT (K := K)) (pv 5) pe_int (fun _ _ => rfl)) pa_nil)) pa_nil)) (pe_fld (pv 3) rfl) (nomark _))
              (pw_or (pt_cmpR (neD (K := K) hr.units) (pe_callTy (T := "tuple") (callTup (K := K)) (by rfl) T.t.tuple (by decide +kernel) (pa_cons (pe_callB (callSortedT (K := K) (A := ard "law" sLaw A s f cdv)) (by rfl) T.t.sorted (by decide +kernel) (pa_cons (pe_ix (ixT (K := K)) (pv 5) pe_int (fun _ _ => rfl)) pa_nil)) pa_nil)) (pe_fld (pv 3) rfl) (nomark _))
              (pw_or1 (pt_not (pt_val (pe_callB call_isi (by rfl) T.isi (by decide +kernel) (pa_cons (pv 5) (pa_cons (pe_bltn (v := .ty "tuple") (by rfl) T.t.tuple (by decide +kernel) rfl) pa_nil)))))))))
            (pss_one (ps_ret pe_bl)) pss_nil)
          (pss_one (ps_if (PW.pt (pw_or (pt_cmpR (neD (K := K) hr.units) (pe_call glb hr1 rfl clb.g clb.k clb.b .nil pass0 (pa_cons (pe_call glc hr1 rfl clc.g clc.k clc.b .nil pass0 (pa_cons (pv 3) (pa_cons (pv 5) pa_nil))) pa_nil)) (pe_lst pa_nil) (nomark _))
              (pw_or1 (pt_cmpR op_notBl (pe_call gst hr3 rfl cst.g cst.k cst.b .nil pass0 (pa_cons (pv 3) (pa_cons (pv 5) pa_nil))) pe_bl (nomark _))))) (pss_one (ps_ret pe_bl)) pss_nil))) pss_nil)
        hu1))))), ?_⟩
    refine ⟨_, rfl, a, 44, ns, rfl, hS, fun H1 d c s1 D1 => ⟨_, rfl, d, c, rfl, D1, fun H2 ra rs n B2 D2 G2 => ⟨_, rfl, _, rfl, d, c, ra, rs, n, rfl, D2, G2, fun H3 t Ps Hs pr B3 D3 Mk => ⟨_, rfl, ra, rs, n, rfl, (G2.but B3).rows, fun H4 b s4 eb => ⟨_, _, rfl, ?_⟩⟩⟩⟩⟩
    have T4 : Tabs (TT pt) H4 := (B3.tabs D2 (B2.tabs D1 (hT.ext s1))).ext s4
    have X4 : LawSt C d c pt t b Ps Hs pr H4 := Mk.st (G2.but B3).rows (D3.same s4) s4 T4 eb
    refine ⟨_, rfl, t, Ps, Hs, pr, rfl, X4.A, X4.Tb, fun H5 o ps hs e5 T5 O5 pp ph hR hC => ?_⟩
    have X5 := X4.ext e5 T5
    have st := X5.st pp ph hR hC
    refine ⟨fun hs1 => ?_, fun hs1 => ?_⟩
    · obtain rfl := st.mp hs1
      refine ⟨_, rfl, _, rfl, rfl, rfl, _, rfl, ?_⟩
      have c1 : decide (V.ref o = V.non) = false := decide_eq_false (by intro z; cases z)
      rw [c1, decide_eq_true rfl]
      refine iteF ?_
      refine ⟨_, rfl, _, rfl, ?_⟩
      rw [c1]
      refine iteT ?_
      obtain ⟨po, ho, o1, o2, o3⟩ := id O5
      obtain ⟨dx, pa, ha, qa, t1, t2, t3, t4, t5, t6⟩ := id X5.A.T
      have hroom : (ard "law" sLaw A s f cdv).units + 3 < cLine := by
        have q : (ard "law" sLaw A s f cdv).units + 16 * 6 + 200 < cLine := hr.un
        omega
      refine sortedNe (i := 0) rfl o1 rfl o2 pp X5.aP X5.oP rfl t1 T.t.cl T.t.nP (tabF_p _ _ _) t3 hroom fun H6 s6 => ?_
      refine iteF ?_
      refine sortedNe (i := 1) rfl (s6 _ _ o1) rfl (s6 _ _ o3) ph X5.aH X5.oH rfl (s6 _ _ t1) T.t.cl T.t.nH (tabF_h _ _ _) (s6 _ _ t4) hroom fun H7 s7 => ?_
      have s57 := Same.trans s6 s7
      refine iteF ⟨_, rfl, .ref o, .ty "tuple", .type "tuple", .type "tuple", true, rfl, .ty _, .base (.tup (s57 _ _ o1)), kit_ty (by decide +kernel), true, rfl, ?_⟩
      refine iteF ?_
      have X7 := X5.same s57
      have O7 := O5.ext (Same.toN s57)
      have ask7 := X7.A.with O7 pp ph
      refine ⟨_, rfl, _, rfl, t, o, pr, ps, hs, rfl, ask7, fun x hx => X7.oP x (pp.mem_iff.mp hx), fun x hx => X7.oH x (ph.mem_iff.mp hx), X7.oq, fun H8 ra2 rs2 s8 R8 eR8 => ?_⟩
      have lrs := mat_len eR8
      have lps := pp.length_eq
      have lhs := ph.length_eq
      have m6 := X7.m6
      have h6 := X7.h6
      have p0 := X7.A.p0
      refine ⟨ra2, rs2, hs.length, rfl, R8, by omega, by omega, by omega, fun r hr => ?_, fun H9 bl xs s9 hbl iff => ?_⟩
      · obtain ⟨j, hj⟩ := List.getElem?_of_mem hr
        obtain ⟨q, _, er⟩ := mat_row eR8 hj
        rw [er, List.length_map]
      · obtain rfl : xs = [] := iff.mpr (not_bad eR8 hs1)
        have s79 := Same.trans s8 s9
        have X9 := X7.same s79
        refine ⟨Nat.zero_le _, fun l hl => ?_⟩
        have sl := Same.new (o := .lst []) hl
        refine neOf (α := List Int) (x := []) (y := []) (dpInts (SqL.of (sl _ _ hbl))) (dpInts (SqL.of upd_same)) (lay_ints _) (lay_ints _) (by decide) ⟨_, rfl, ?_⟩
        refine iteF ⟨_, rfl, _, rfl, t, o, pr, ps, hs, rfl, (X9.same sl).A.with (O7.ext (Same.toN (Same.trans s79 sl))) pp ph, fun H10 b2 s10 e2 => ⟨b2, true, rfl, rfl, _, rfl, ?_⟩⟩
        obtain rfl : b2 = true := e2.mpr hs1
        exact iteF (hu2 a d c ra t false (.ref o) _ _ Ps Hs pr H10 ((X9.same sl).same s10))
    · have hb : b = true := by
        cases b with
        | true => rfl
        | false => exact absurd (st.mpr rfl) hs1
      subst hb
      refine ⟨_, rfl, _, rfl, rfl, rfl, _, rfl, ?_⟩
      have c1 : decide (V.non = V.non) = true := decide_eq_true rfl
      rw [c1, decide_eq_true rfl]
      refine iteF ⟨_, rfl, _, rfl, ?_⟩
      rw [c1]
      exact iteF (hu2 a d c ra t true .non _ _ Ps Hs pr H5 X5)
end
end Sv
end

section
set_option Elab.async false
set_option linter.all false
set_option maxRecDepth 100000
set_option maxHeartbeats 4000000
namespace Sv
open PySem L2 LamX
theorem calk {K : PySem.W.Frag} {mg : Str → Option Value} {x : Str} {f : Addr} {fd : FuncData} {p : Str} (g : mg x = some (.ref f)) (k : PySem.W.keepIn K (.ref f) = true) (h1 : ∀ u : Value, bindArgs fd ⟨[u], []⟩ = pure [(p, u)]) (h2 : ∀ u : Value, bindArgs fd ⟨[], [(p, u)]⟩ = pure [(p, u)]) : CalK K mg x f fd [p] :=
  ⟨g, k, ⟨fun s us ws _ hl => by
    match us, ws, hl with
    | [u], [], _ => exact .of_eq (h1 u)
    | [], [u], _ => exact .of_eq (h2 u), fun r1 r2 => r1.append r2⟩⟩

theorem all_mk {l : PySem.W.OpenLaw} {w : World} {K : PySem.W.Frag} {h : Heap} {mg : Str → Option Value} {fa C c pt fin fsb fcl fbe fco fst frb fcb fis fso fsr fde fan fof fgr fli fna fta fsh fmi fsm fod flc flb fri fro fls flw : Addr} (X : K.In h) (G : h.Ns mainGlobals mg) (hfa : mg "law" = some (.ref fa))
    (HT : ∀ c P, PySem.W.tabIn K "sorted_by" = some (c, P) → PySem.W.CodeHd h c P ∧ h.get? P = some { cls := .none, data := .fields #[] })
    {odcl ancl odbe anbe odco anco odst anst odrb anrb odcb ancb odis anis odso anso odsr ansr odde ande odan anan odof anof odgr angr odli anli odna anna odta anta odsh ansh odmi anmi odsm ansm odod anod odlc anlc odlb anlb odri anri odro anro odls anls odlw anlw odin anin odsb ansb : Option Addr}
    {slcl slbe slco slst slrb slcb slis slso slsr slde slan slof slgr slli slna slta slsh slmi slsm slod sllc sllb slri slro slls sllw slin slsb : Array (Option Value)}
    {occl kVcl dccl pmcl cdcl ctcl ocbe kVbe dcbe pmbe cdbe ctbe occo kVco dcco pmco cdco ctco ocst kVst dcst pmst cdst ctst ocrb kVrb dcrb pmrb cdrb ctrb occb kVcb dccb pmcb cdcb ctcb ocis kVis dcis pmis cdis ctis ocso kVso dcso pmso cdso ctso ocsr kVsr dcsr pmsr cdsr ctsr ocde kVde dcde pmde cdde ctde ocan kVan dcan pman cdan ctan ocof kVof dcof pmof cdof ctof ocgr kVgr dcgr pmgr cdgr ctgr ocli kVli dcli pmli cdli ctli ocna kVna dcna pmna cdna ctna octa kVta dcta pmta cdta ctta ocsh kVsh dcsh pmsh cdsh ctsh ocmi kVmi dcmi pmmi cdmi ctmi ocsm kVsm dcsm pmsm cdsm ctsm ocod kVod dcod pmod cdod ctod oclc kVlc dclc pmlc cdlc ctlc oclb kVlb dclb pmlb cdlb ctlb ocri kVri dcri pmri cdri ctri ocro kVro dcro pmro cdro ctro ocls kVls dcls pmls cdls ctls oclw kVlw dclw pmlw cdlw ctlw ocin kVin dcin pmin cdin ctin ocsb kVsb dcsb pmsb ctsb : Value}
    (aC : PySem.W.nsIn K mainGlobals "Table" = some (some (.ref C)))
    (ain : PySem.W.findIn K (.ref C) "__init__" = some (some (.ref fin)))
    (iin : PySem.W.isFn K (.ref fin) = true)
    (lin : K.lookup fin = some ⟨ocin, odin, .func (PySem.W.fnOf "__init__" "Table.__init__" (defArgs sTable) (defBody sTable) (defScope sTable) .none kVin dcin pmin anin cdin ctin), slin⟩)
    (cin : PySem.W.codeIn K cdin "Table.__init__" = true)
    (kin : PySem.W.keepIn K (.ref fin) = true)
    (asb : PySem.W.nsIn K mainGlobals "sorted_by" = some (some (.ref fsb)))
    (lsb : K.lookup fsb = some ⟨ocsb, odsb, .func (PySem.W.fnOf "sorted_by" "sorted_by" (defArgs sSortedBy) (defBody sSortedBy) (defScope sSortedBy) .none kVsb dcsb pmsb ansb (.ref c) ctsb), slsb⟩)
    (csb : PySem.W.codeIn K (.ref c) "sorted_by" = true)
    (ksb : PySem.W.keepIn K (.ref fsb) = true)
    (tsb : PySem.W.tabIn K "sorted_by" = some (c, pt))
    (nsb : K.lookup pt = none)
    (acl : PySem.W.nsIn K mainGlobals "cells" = some (some (.ref fcl)))
    (lcl : K.lookup fcl = some ⟨occl, odcl, .func (PySem.W.fnOf "cells" "cells" (defArgs sCells) (defBody sCells) (defScope sCells) .none kVcl dccl pmcl ancl cdcl ctcl), slcl⟩)
    (ccl : PySem.W.codeIn K cdcl "cells" = true)
    (kcl : PySem.W.keepIn K (.ref fcl) = true)
    (abe : PySem.W.nsIn K mainGlobals "bent_beside" = some (some (.ref fbe)))
    (lbe : K.lookup fbe = some ⟨ocbe, odbe, .func (PySem.W.fnOf "bent_beside" "bent_beside" (defArgs sBeside) (defBody sBeside) (defScope sBeside) .none kVbe dcbe pmbe anbe cdbe ctbe), slbe⟩)
    (cbe : PySem.W.codeIn K cdbe "bent_beside" = true)
    (kbe : PySem.W.keepIn K (.ref fbe) = true)
    (aco : PySem.W.nsIn K mainGlobals "bent_corner" = some (some (.ref fco)))
    (lco : K.lookup fco = some ⟨occo, odco, .func (PySem.W.fnOf "bent_corner" "bent_corner" (defArgs sCorner) (defBody sCorner) (defScope sCorner) .none kVco dcco pmco anco cdco ctco), slco⟩)
    (cco : PySem.W.codeIn K cdco "bent_corner" = true)
    (kco : PySem.W.keepIn K (.ref fco) = true)
    (ast : PySem.W.nsIn K mainGlobals "is_straight" = some (some (.ref fst)))
    (lst : K.lookup fst = some ⟨ocst, odst, .func (PySem.W.fnOf "is_straight" "is_straight" (defArgs sStraight) (defBody sStraight) (defScope sStraight) .none kVst dcst pmst anst cdst ctst), slst⟩)
    (cst : PySem.W.codeIn K cdst "is_straight" = true)
    (kst : PySem.W.keepIn K (.ref fst) = true)
    (arb : PySem.W.nsIn K mainGlobals "rows_back" = some (some (.ref frb)))
    (lrb : K.lookup frb = some ⟨ocrb, odrb, .func (PySem.W.fnOf "rows_back" "rows_back" (defArgs sRows) (defBody sRows) (defScope sRows) .none kVrb dcrb pmrb anrb cdrb ctrb), slrb⟩)
    (crb : PySem.W.codeIn K cdrb "rows_back" = true)
    (krb : PySem.W.keepIn K (.ref frb) = true)
    (acb : PySem.W.nsIn K mainGlobals "columns_back" = some (some (.ref fcb)))
    (lcb : K.lookup fcb = some ⟨occb, odcb, .func (PySem.W.fnOf "columns_back" "columns_back" (defArgs sCols) (defBody sCols) (defScope sCols) .none kVcb dccb pmcb ancb cdcb ctcb), slcb⟩)
    (ccb : PySem.W.codeIn K cdcb "columns_back" = true)
    (kcb : PySem.W.keepIn K (.ref fcb) = true)
    (ais : PySem.W.nsIn K mainGlobals "is_sorted" = some (some (.ref fis)))
    (lis : K.lookup fis = some ⟨ocis, odis, .func (PySem.W.fnOf "is_sorted" "is_sorted" (defArgs sIsSorted) (defBody sIsSorted) (defScope sIsSorted) .none kVis dcis pmis anis cdis ctis), slis⟩)
    (cis : PySem.W.codeIn K cdis "is_sorted" = true)
    (kis : PySem.W.keepIn K (.ref fis) = true)
    (aso : PySem.W.nsIn K mainGlobals "sorted_order" = some (some (.ref fso)))
    (lso : K.lookup fso = some ⟨ocso, odso, .func (PySem.W.fnOf "sorted_order" "sorted_order" (defArgs sSortedOrder) (defBody sSortedOrder) (defScope sSortedOrder) .none kVso dcso pmso anso cdso ctso), slso⟩)
    (cso : PySem.W.codeIn K cdso "sorted_order" = true)
    (kso : PySem.W.keepIn K (.ref fso) = true)
    (asr : PySem.W.nsIn K mainGlobals "straight_order" = some (some (.ref fsr)))
    (lsr : K.lookup fsr = some ⟨ocsr, odsr, .func (PySem.W.fnOf "straight_order" "straight_order" (defArgs sStraightOrder) (defBody sStraightOrder) (defScope sStraightOrder) .none kVsr dcsr pmsr ansr cdsr ctsr), slsr⟩)
    (csr : PySem.W.codeIn K cdsr "straight_order" = true)
    (ksr : PySem.W.keepIn K (.ref fsr) = true)
    (ade : PySem.W.nsIn K mainGlobals "_law_deal" = some (some (.ref fde)))
    (lde : K.lookup fde = some ⟨ocde, odde, .func (PySem.W.fnOf "_law_deal" "_law_deal" (defArgs sDeal) (defBody sDeal) (defScope sDeal) .none kVde dcde pmde ande cdde ctde), slde⟩)
    (cde : PySem.W.codeIn K cdde "_law_deal" = true)
    (kde : PySem.W.keepIn K (.ref fde) = true)
    (aan : PySem.W.nsIn K mainGlobals "_law_any" = some (some (.ref fan)))
    (lan : K.lookup fan = some ⟨ocan, odan, .func (PySem.W.fnOf "_law_any" "_law_any" (defArgs sAny) (defBody sAny) (defScope sAny) .none kVan dcan pman anan cdan ctan), slan⟩)
    (can : PySem.W.codeIn K cdan "_law_any" = true)
    (kan : PySem.W.keepIn K (.ref fan) = true)
    (aof : PySem.W.nsIn K mainGlobals "_law_of" = some (some (.ref fof)))
    (lof : K.lookup fof = some ⟨ocof, odof, .func (PySem.W.fnOf "_law_of" "_law_of" (defArgs sOf) (defBody sOf) (defScope sOf) .none kVof dcof pmof anof cdof ctof), slof⟩)
    (cof : PySem.W.codeIn K cdof "_law_of" = true)
    (kof : PySem.W.keepIn K (.ref fof) = true)
    (agr : PySem.W.nsIn K mainGlobals "_law_grid" = some (some (.ref fgr)))
    (lgr : K.lookup fgr = some ⟨ocgr, odgr, .func (PySem.W.fnOf "_law_grid" "_law_grid" (defArgs sGrid) (defBody sGrid) (defScope sGrid) .none kVgr dcgr pmgr angr cdgr ctgr), slgr⟩)
    (cgr : PySem.W.codeIn K cdgr "_law_grid" = true)
    (kgr : PySem.W.keepIn K (.ref fgr) = true)
    (ali : PySem.W.nsIn K mainGlobals "_law_line" = some (some (.ref fli)))
    (lli : K.lookup fli = some ⟨ocli, odli, .func (PySem.W.fnOf "_law_line" "_law_line" (defArgs sLine) (defBody sLine) (defScope sLine) .none kVli dcli pmli anli cdli ctli), slli⟩)
    (cli : PySem.W.codeIn K cdli "_law_line" = true)
    (kli : PySem.W.keepIn K (.ref fli) = true)
    (ana : PySem.W.nsIn K mainGlobals "_law_names" = some (some (.ref fna)))
    (lna : K.lookup fna = some ⟨ocna, odna, .func (PySem.W.fnOf "_law_names" "_law_names" (defArgs sNames) (defBody sNames) (defScope sNames) .none kVna dcna pmna anna cdna ctna), slna⟩)
    (cna : PySem.W.codeIn K cdna "_law_names" = true)
    (kna : PySem.W.keepIn K (.ref fna) = true)
    (ata : PySem.W.nsIn K mainGlobals "_law_table" = some (some (.ref fta)))
    (lta : K.lookup fta = some ⟨octa, odta, .func (PySem.W.fnOf "_law_table" "_law_table" (defArgs sTab) (defBody sTab) (defScope sTab) .none kVta dcta pmta anta cdta ctta), slta⟩)
    (cta : PySem.W.codeIn K cdta "_law_table" = true)
    (kta : PySem.W.keepIn K (.ref fta) = true)
    (ash : PySem.W.nsIn K mainGlobals "_law_shuffled" = some (some (.ref fsh)))
    (lsh : K.lookup fsh = some ⟨ocsh, odsh, .func (PySem.W.fnOf "_law_shuffled" "_law_shuffled" (defArgs sShuf) (defBody sShuf) (defScope sShuf) .none kVsh dcsh pmsh ansh cdsh ctsh), slsh⟩)
    (csh : PySem.W.codeIn K cdsh "_law_shuffled" = true)
    (ksh : PySem.W.keepIn K (.ref fsh) = true)
    (ami : PySem.W.nsIn K mainGlobals "_law_mixed" = some (some (.ref fmi)))
    (lmi : K.lookup fmi = some ⟨ocmi, odmi, .func (PySem.W.fnOf "_law_mixed" "_law_mixed" (defArgs sMixed) (defBody sMixed) (defScope sMixed) .none kVmi dcmi pmmi anmi cdmi ctmi), slmi⟩)
    (cmi : PySem.W.codeIn K cdmi "_law_mixed" = true)
    (kmi : PySem.W.keepIn K (.ref fmi) = true)
    (asm : PySem.W.nsIn K mainGlobals "_law_some" = some (some (.ref fsm)))
    (lsm : K.lookup fsm = some ⟨ocsm, odsm, .func (PySem.W.fnOf "_law_some" "_law_some" (defArgs sSome) (defBody sSome) (defScope sSome) .none kVsm dcsm pmsm ansm cdsm ctsm), slsm⟩)
    (csm : PySem.W.codeIn K cdsm "_law_some" = true)
    (ksm : PySem.W.keepIn K (.ref fsm) = true)
    (aod : PySem.W.nsIn K mainGlobals "_law_order" = some (some (.ref fod)))
    (lod : K.lookup fod = some ⟨ocod, odod, .func (PySem.W.fnOf "_law_order" "_law_order" (defArgs sOrder) (defBody sOrder) (defScope sOrder) .none kVod dcod pmod anod cdod ctod), slod⟩)
    (cod : PySem.W.codeIn K cdod "_law_order" = true)
    (kod : PySem.W.keepIn K (.ref fod) = true)
    (alc : PySem.W.nsIn K mainGlobals "_law_cells" = some (some (.ref flc)))
    (llc : K.lookup flc = some ⟨oclc, odlc, .func (PySem.W.fnOf "_law_cells" "_law_cells" (defArgs sLCells) (defBody sLCells) (defScope sLCells) .none kVlc dclc pmlc anlc cdlc ctlc), sllc⟩)
    (clc : PySem.W.codeIn K cdlc "_law_cells" = true)
    (klc : PySem.W.keepIn K (.ref flc) = true)
    (alb : PySem.W.nsIn K mainGlobals "_law_bent" = some (some (.ref flb)))
    (llb : K.lookup flb = some ⟨oclb, odlb, .func (PySem.W.fnOf "_law_bent" "_law_bent" (defArgs sLBent) (defBody sLBent) (defScope sLBent) .none kVlb dclb pmlb anlb cdlb ctlb), sllb⟩)
    (clb : PySem.W.codeIn K cdlb "_law_bent" = true)
    (klb : PySem.W.keepIn K (.ref flb) = true)
    (ari : PySem.W.nsIn K mainGlobals "_law_has_ring" = some (some (.ref fri)))
    (lri : K.lookup fri = some ⟨ocri, odri, .func (PySem.W.fnOf "_law_has_ring" "_law_has_ring" (defArgs sRing) (defBody sRing) (defScope sRing) .none kVri dcri pmri anri cdri ctri), slri⟩)
    (cri : PySem.W.codeIn K cdri "_law_has_ring" = true)
    (kri : PySem.W.keepIn K (.ref fri) = true)
    (aro : PySem.W.nsIn K mainGlobals "_law_goes_round" = some (some (.ref fro)))
    (lro : K.lookup fro = some ⟨ocro, odro, .func (PySem.W.fnOf "_law_goes_round" "_law_goes_round" (defArgs sRound) (defBody sRound) (defScope sRound) .none kVro dcro pmro anro cdro ctro), slro⟩)
    (cro : PySem.W.codeIn K cdro "_law_goes_round" = true)
    (kro : PySem.W.keepIn K (.ref fro) = true)
    (als : PySem.W.nsIn K mainGlobals "_law_sorted" = some (some (.ref fls)))
    (lls : K.lookup fls = some ⟨ocls, odls, .func (PySem.W.fnOf "_law_sorted" "_law_sorted" (defArgs sLSorted) (defBody sLSorted) (defScope sLSorted) .none kVls dcls pmls anls cdls ctls), slls⟩)
    (cls : PySem.W.codeIn K cdls "_law_sorted" = true)
    (kls : PySem.W.keepIn K (.ref fls) = true)
    (alw : PySem.W.nsIn K mainGlobals "law" = some (some (.ref flw)))
    (llw : K.lookup flw = some ⟨oclw, odlw, .func (PySem.W.fnOf "law" "law" (defArgs sLaw) (defBody sLaw) (defScope sLaw) .none kVlw dclw pmlw anlw cdlw ctlw), sllw⟩)
    (clw : PySem.W.codeIn K cdlw "law" = true)
    (klw : PySem.W.keepIn K (.ref flw) = true)
    (pg : PySem.W.plainGet K C Str.empty = true)
    (hd : PySem.W.hasDictIn K C = true)
    (po : PySem.W.plainOver K C = true)
    (sa : PySem.W.findIn K (.ref C) "__setattr__" = some (some (.builtin "object.__setattr__")))
    (mk : PySem.W.makesIn K C = true)
    (kc : PySem.W.keepIn K (.ref C) = true)
    (nP : PySem.W.findIn K (.ref C) "people" = some none)
    (nH : PySem.W.findIn K (.ref C) "houses" = some none)
    (nQ : PySem.W.findIn K (.ref C) "pairs" = some none)
    (zset : PySem.W.nsIn K mainGlobals "set" = some none)
    (zint : PySem.W.nsIn K mainGlobals "int" = some none)
    (ztuple : PySem.W.nsIn K mainGlobals "tuple" = some none)
    (zrange : PySem.W.nsIn K mainGlobals "range" = some none)
    (zlen : PySem.W.nsIn K mainGlobals "len" = some none)
    (zenumerate : PySem.W.nsIn K mainGlobals "enumerate" = some none)
    (zsorted : PySem.W.nsIn K mainGlobals "sorted" = some none)
    (zall : PySem.W.nsIn K mainGlobals "all" = some none)
    (zabs : PySem.W.nsIn K mainGlobals "abs" = some none)
    (zsum : PySem.W.nsIn K mainGlobals "sum" = some none)
    (zmin : PySem.W.nsIn K mainGlobals "min" = some none)
    (zlist : PySem.W.nsIn K mainGlobals "list" = some none)
    (zisinstance : PySem.W.nsIn K mainGlobals "isinstance" = some none)
    (zrepr : PySem.W.nsIn K mainGlobals "repr" = some none) :
    LawAtS l w K CX0 7 63 "_law_script" mg fa h := by
  have e := hfa.symm.trans (PySem.W.mg_of X G alw)
  cases e
  have T0 : TxtC K mg C := ⟨⟨pg, hd, po, sa⟩, nP, nH, nQ, PySem.W.mg_none_of X G zset, PySem.W.mg_none_of X G zint, PySem.W.mg_none_of X G ztuple, PySem.W.mg_none_of X G zrange, PySem.W.mg_none_of X G zlen, PySem.W.mg_none_of X G zenumerate, PySem.W.mg_none_of X G zsorted, PySem.W.mg_none_of X G zall⟩
  have T : TxtL K mg C := ⟨T0, PySem.W.mg_none_of X G zabs, PySem.W.mg_none_of X G zsum, PySem.W.mg_none_of X G zmin, PySem.W.mg_none_of X G zlist, PySem.W.mg_none_of X G zisinstance, PySem.W.mg_none_of X G zrepr, PySem.W.mg_of X G aC⟩
  have Fcl := fun_mk (st := sCells) lcl ccl kcl
  have bcl := Fcl.binds (ps := ["table", "order"]) fun _ _ _ _ _ _ us hl => match us, hl with | [_, _], _ => rfl
  have Ccl : Cal K mg "cells" fcl _ ["table", "order"] := ⟨PySem.W.mg_of X G acl, kcl, bcl⟩
  have Fbe := fun_mk (st := sBeside) lbe cbe kbe
  have bbe := Fbe.binds (ps := ["rows", "first", "later"]) fun _ _ _ _ _ _ us hl => match us, hl with | [_, _, _], _ => rfl
  have Cbe : Cal K mg "bent_beside" fbe _ ["rows", "first", "later"] := ⟨PySem.W.mg_of X G abe, kbe, bbe⟩
  have Fco := fun_mk (st := sCorner) lco cco kco
  have bco := Fco.binds (ps := ["table", "order"]) fun _ _ _ _ _ _ us hl => match us, hl with | [_, _], _ => rfl
  have Cco : Cal K mg "bent_corner" fco _ ["table", "order"] := ⟨PySem.W.mg_of X G aco, kco, bco⟩
  have Fst := fun_mk (st := sStraight) lst cst kst
  have bst := Fst.binds (ps := ["table", "order"]) fun _ _ _ _ _ _ us hl => match us, hl with | [_, _], _ => rfl
  have Cst : Cal K mg "is_straight" fst _ ["table", "order"] := ⟨PySem.W.mg_of X G ast, kst, bst⟩
  have Frb := fun_mk (st := sRows) lrb crb krb
  have brb := Frb.binds (ps := ["table", "order"]) fun _ _ _ _ _ _ us hl => match us, hl with | [_, _], _ => rfl
  have Crb : Cal K mg "rows_back" frb _ ["table", "order"] := ⟨PySem.W.mg_of X G arb, krb, brb⟩
  have Fcb := fun_mk (st := sCols) lcb ccb kcb
  have bcb := Fcb.binds (ps := ["table", "order"]) fun _ _ _ _ _ _ us hl => match us, hl with | [_, _], _ => rfl
  have Ccb : Cal K mg "columns_back" fcb _ ["table", "order"] := ⟨PySem.W.mg_of X G acb, kcb, bcb⟩
  have Fis := fun_mk (st := sIsSorted) lis cis kis
  have bis := Fis.binds (ps := ["table", "order"]) fun _ _ _ _ _ _ us hl => match us, hl with | [_, _], _ => rfl
  have Cis : Cal K mg "is_sorted" fis _ ["table", "order"] := ⟨PySem.W.mg_of X G ais, kis, bis⟩
  have Fso := fun_mk (st := sSortedOrder) lso cso kso
  have bso := Fso.binds (ps := ["table"]) fun _ _ _ _ _ _ us hl => match us, hl with | [_], _ => rfl
  have Cso : Cal K mg "sorted_order" fso _ ["table"] := ⟨PySem.W.mg_of X G aso, kso, bso⟩
  have Fsr := fun_mk (st := sStraightOrder) lsr csr ksr
  have bsr := Fsr.binds (ps := ["table"]) fun _ _ _ _ _ _ us hl => match us, hl with | [_], _ => rfl
  have Csr : Cal K mg "straight_order" fsr _ ["table"] := ⟨PySem.W.mg_of X G asr, ksr, bsr⟩
  have Fde := fun_mk (st := sDeal) lde cde kde
  have bde := Fde.binds (ps := ["_law_script", "_law_base"]) fun _ _ _ _ _ _ us hl => match us, hl with | [_, _], _ => rfl
  have Cde : Cal K mg "_law_deal" fde _ ["_law_script", "_law_base"] := ⟨PySem.W.mg_of X G ade, kde, bde⟩
  have Fan := fun_mk (st := sAny) lan can kan
  have ban := Fan.binds (ps := ["_law_deal_here", "_law_bound"]) fun _ _ _ _ _ _ us hl => match us, hl with | [_, _], _ => rfl
  have Can : Cal K mg "_law_any" fan _ ["_law_deal_here", "_law_bound"] := ⟨PySem.W.mg_of X G aan, kan, ban⟩
  have Fof := fun_mk (st := sOf) lof cof kof
  have bof := Fof.binds (ps := ["_law_deal_here", "_law_some_here"]) fun _ _ _ _ _ _ us hl => match us, hl with | [_, _], _ => rfl
  have Cof : Cal K mg "_law_of" fof _ ["_law_deal_here", "_law_some_here"] := ⟨PySem.W.mg_of X G aof, kof, bof⟩
  have Fgr := fun_mk (st := sGrid) lgr cgr kgr
  have bgr := Fgr.binds (ps := ["_law_deal_here", "_law_most"]) fun _ _ _ _ _ _ us hl => match us, hl with | [_, _], _ => rfl
  have Cgr : Cal K mg "_law_grid" fgr _ ["_law_deal_here", "_law_most"] := ⟨PySem.W.mg_of X G agr, kgr, bgr⟩
  have Fli := fun_mk (st := sLine) lli cli kli
  have bli := Fli.binds (ps := ["_law_deal_here", "_law_most"]) fun _ _ _ _ _ _ us hl => match us, hl with | [_, _], _ => rfl
  have Cli : Cal K mg "_law_line" fli _ ["_law_deal_here", "_law_most"] := ⟨PySem.W.mg_of X G ali, kli, bli⟩
  have Fna := fun_mk (st := sNames) lna cna kna
  have bna := Fna.binds (ps := ["_law_deal_here", "_law_many", "_law_mark"]) fun _ _ _ _ _ _ us hl => match us, hl with | [_, _, _], _ => rfl
  have Cna : Cal K mg "_law_names" fna _ ["_law_deal_here", "_law_many", "_law_mark"] := ⟨PySem.W.mg_of X G ana, kna, bna⟩
  have Fta := fun_mk (st := sTab) lta cta kta
  have bta := Fta.binds (ps := ["_law_deal_here", "_law_rows"]) fun _ _ _ _ _ _ us hl => match us, hl with | [_, _], _ => rfl
  have Cta : Cal K mg "_law_table" fta _ ["_law_deal_here", "_law_rows"] := ⟨PySem.W.mg_of X G ata, kta, bta⟩
  have Fsh := fun_mk (st := sShuf) lsh csh ksh
  have bsh := Fsh.binds (ps := ["_law_deal_here", "_law_some_here"]) fun _ _ _ _ _ _ us hl => match us, hl with | [_, _], _ => rfl
  have Csh : Cal K mg "_law_shuffled" fsh _ ["_law_deal_here", "_law_some_here"] := ⟨PySem.W.mg_of X G ash, ksh, bsh⟩
  have Fmi := fun_mk (st := sMixed) lmi cmi kmi
  have bmi := Fmi.binds (ps := ["_law_deal_here", "_law_rows"]) fun _ _ _ _ _ _ us hl => match us, hl with | [_, _], _ => rfl
  have Cmi : Cal K mg "_law_mixed" fmi _ ["_law_deal_here", "_law_rows"] := ⟨PySem.W.mg_of X G ami, kmi, bmi⟩
  have Fsm := fun_mk (st := sSome) lsm csm ksm
  have bsm := Fsm.binds (ps := ["_law_deal_here", "_law_most"]) fun _ _ _ _ _ _ us hl => match us, hl with | [_, _], _ => rfl
  have Csm : Cal K mg "_law_some" fsm _ ["_law_deal_here", "_law_most"] := ⟨PySem.W.mg_of X G asm, ksm, bsm⟩
  have Fod := fun_mk (st := sOrder) lod cod kod
  have bod := Fod.binds (ps := ["_law_deal_here", "_law_table_here"]) fun _ _ _ _ _ _ us hl => match us, hl with | [_, _], _ => rfl
  have Cod : Cal K mg "_law_order" fod _ ["_law_deal_here", "_law_table_here"] := ⟨PySem.W.mg_of X G aod, kod, bod⟩
  have Flc := fun_mk (st := sLCells) llc clc klc
  have blc := Flc.binds (ps := ["_law_table_here", "_law_order_here"]) fun _ _ _ _ _ _ us hl => match us, hl with | [_, _], _ => rfl
  have Clc : Cal K mg "_law_cells" flc _ ["_law_table_here", "_law_order_here"] := ⟨PySem.W.mg_of X G alc, klc, blc⟩
  have Flb := fun_mk (st := sLBent) llb clb klb
  have blb := Flb.binds (ps := ["_law_rows"]) fun _ _ _ _ _ _ us hl => match us, hl with | [_], _ => rfl
  have Clb : Cal K mg "_law_bent" flb _ ["_law_rows"] := ⟨PySem.W.mg_of X G alb, klb, blb⟩
  have Fri := fun_mk (st := sRing) lri cri kri
  have bri := Fri.binds (ps := ["_law_rows"]) fun _ _ _ _ _ _ us hl => match us, hl with | [_], _ => rfl
  have Cri : Cal K mg "_law_has_ring" fri _ ["_law_rows"] := ⟨PySem.W.mg_of X G ari, kri, bri⟩
  have Fro := fun_mk (st := sRound) lro cro kro
  have bro := Fro.binds (ps := ["_law_rows", "_law_at", "_law_low", "_law_high"]) fun _ _ _ _ _ _ us hl => match us, hl with | [_, _, _, _], _ => rfl
  have Cro : Cal K mg "_law_goes_round" fro _ ["_law_rows", "_law_at", "_law_low", "_law_high"] := ⟨PySem.W.mg_of X G aro, kro, bro⟩
  have Fls := fun_mk (st := sLSorted) lls cls kls
  have bls := Fls.binds (ps := ["_law_table_here", "_law_order_here"]) fun _ _ _ _ _ _ us hl => match us, hl with | [_, _], _ => rfl
  have Cls : Cal K mg "_law_sorted" fls _ ["_law_table_here", "_law_order_here"] := ⟨PySem.W.mg_of X G als, kls, bls⟩
  have Flw := fun_mk (st := sLaw) llw clw klw
  have blw := Flw.binds (ps := ["_law_script"]) fun _ _ _ _ _ _ us hl => match us, hl with | [_], _ => rfl
  have Fin := fun_mk (st := sTable) lin cin kin
  have bin := Fin.binds (ps := ["self", "people", "houses", "pairs"]) fun _ _ _ _ _ _ us hl => match us, hl with | [_, _, _, _], _ => rfl
  have Fsb : FunC K "sorted_by" "sorted_by" sSortedBy fsb _ c := ⟨⟨_, _, _, _, _, _, _, _, rfl, lsb, csb⟩, ksb⟩
  have bsb := Fsb.binds (ps := ["names", "keys"]) fun _ _ _ _ _ _ us hl => match us, hl with | [_, _], _ => rfl
  have Csb : Cal K mg "sorted_by" fsb _ ["names", "keys"] := ⟨PySem.W.mg_of X G asb, ksb, bsb⟩
  have CKsr : CalK K mg "straight_order" fsr (PySem.W.fnOf "straight_order" "straight_order" (defArgs sStraightOrder) (defBody sStraightOrder) (defScope sStraightOrder) .none kVsr dcsr pmsr ansr cdsr ctsr) ["table"] := calk (PySem.W.mg_of X G asr) ksr (fun _ => rfl) (fun _ => rfl)
  obtain ⟨hcd, hpt⟩ := HT _ _ tsb
  refine ⟨PySem.W.fnOf "law" "law" (defArgs sLaw) (defBody sLaw) (defScope sLaw) .none kVlw dclw pmlw anlw cdlw ctlw, [(c, pt)], spLaw K pt, fun p hp => ?_, fun p hp => ?_, fun p hp => ?_, fun s v => .of_eq rfl, fun H a ns _ _ hH hS => ?_, fun base _ _ TB => ?_⟩
  · rw [List.mem_singleton.mp hp]; exact hpt
  · rw [List.mem_singleton.mp hp]; exact nsb
  · rw [List.mem_singleton.mp hp]; exact hcd
  · refine ⟨a, ns, rfl, hS, fun p hp => ?_, fun _ => rfl⟩
    rw [List.mem_singleton.mp hp]
    exact TabS.nil (hH (c, pt) (List.mem_singleton.mpr rfl))
  · have TBc : TabB base mg c pt := TB (c, pt) (List.mem_singleton.mpr rfl)
    have Gcl := ok_cells (P := l.prog) (w := w) (base := base) Fcl T0
    have Gbe := ok_beside (P := l.prog) (w := w) (base := base) (C := C) Fbe T0
    have Gco := ok_corner (P := l.prog) (w := w) (base := base) Fco T0 Gcl Ccl Gbe Cbe
    have Gst := ok_straight (P := l.prog) (w := w) (base := base) Fst Gco Cco
    have Grb := ok_rows (P := l.prog) (w := w) (base := base) Frb T0 Gcl Ccl
    have Gcb := ok_cols (P := l.prog) (w := w) (base := base) Fcb T0 Gcl Ccl
    have Gis := ok_isSorted (P := l.prog) (w := w) (base := base) Fis T0 Grb Crb Gcb Ccb
    have Gsb := ok_sortedBy (P := l.prog) (w := w) (base := base) Fsb T0 TBc
    have Gso := ok_sortedOrder (P := l.prog) (w := w) (base := base) Fso T0 Gis Cis Gsb Csb Grb Crb Gcb Ccb
    have Gsr := ok_straightOrder (P := l.prog) (w := w) (base := base) Fsr Gso Cso Gst Cst
    have Gde := ok_deal (P := l.prog) (w := w) (base := base) Fde T
    have Gan := ok_any (P := l.prog) (w := w) (base := base) Fan T
    have Gof := ok_of (P := l.prog) (w := w) (base := base) Fof T Gan Can
    have Ggr := ok_grid (P := l.prog) (w := w) (base := base) Fgr T Gan Can Gof Cof
    have Gli := ok_line (P := l.prog) (w := w) (base := base) Fli T Gan Can
    have Gna := ok_names (P := l.prog) (w := w) (base := base) Fna T Gof Cof
    have Gin := ok_table (P := l.prog) (w := w) (base := base) Fin T0
    have Gta := ok_tab (P := l.prog) (w := w) (base := base) Fta T Gof Cof Gna Cna ⟨mk, ain, iin, kc⟩ Gin bin
    have Gsh := ok_shuf (P := l.prog) (w := w) (base := base) Fsh T Gan Can
    have Gmi := ok_mixed (P := l.prog) (w := w) (base := base) Fmi T Gsh Csh
    have Gsm := ok_some (P := l.prog) (w := w) (base := base) (C := C) Fsm Gan Can Gli Cli Ggr Cgr Gmi Cmi
    have God := ok_order (P := l.prog) (w := w) (base := base) Fod T Gsh Csh
    have Glc := ok_lcells (P := l.prog) (w := w) (base := base) Flc T
    have Glb := ok_lbent (P := l.prog) (w := w) (base := base) Flb T
    have Gro := ok_round (P := l.prog) (w := w) (base := base) Fro T
    have Gri := ok_ring (P := l.prog) (w := w) (base := base) Fri T Gro Cro
    have Gls := ok_lsorted (P := l.prog) (w := w) (base := base) Fls T
    exact ok_law Flw T Gde Cde Gsm Csm Gta Cta Gri Cri Gsr CKsr Glc Clc Glb Clb God Cod Gls Cls Gis Cis Gst Cst Gso Cso
theorem walk {l : PySem.W.OpenLaw} {q : Program} {loose : List Str} {XP : (Str → Option Value) → Heap → Prop} {YP : World → Heap → Prop} {d : DefRec} {K : Params → PySem.W.Frag} (hn : l.most = some 63) (hdf : d.params.defaults = [])
    (hrec : ((PyProof.Rows.recsOf q).any fun e => e.name == ("sorted_by" : Str)) = true) (hY : ∀ (w : World) (h : Heap), YP w h → (K w.params).In h)
    (F : ∀ (w : World) (mg : Str → Option Value) (fa : Addr) (h : Heap), (K w.params).In h → h.Ns mainGlobals mg → mg d.name = some (.ref fa) → (∀ c P, PySem.W.tabIn (K w.params) "sorted_by" = some (c, P) → PySem.W.CodeHd h c P ∧ h.get? P = some { cls := .none, data := .fields #[] }) →
      LawAtS l w (K w.params) CX0 7 63 "_law_script" mg fa h) :
    PySem.W.WalkO q loose XP YP l.row.toRowW d [] (fun f vs => PySem.call f vs) := by
  refine Att.attach_callB hn hdf fun w s₀ s₁ mg mb fa o pm cd doc a vs ns G Y ho hd hcd hmg hobj hints hlen hbits hg => ?_
  have KX := hY w _ Y
  have HT : ∀ c P, PySem.W.tabIn (K w.params) "sorted_by" = some (c, P) → PySem.W.CodeHd s₁.heap c P ∧ s₁.heap.get? P = some { cls := .none, data := .fields #[] } := fun c P ht => by
    cases e : (PyProof.Rows.recsOf q).find? fun e => e.name == ("sorted_by" : Str) with
    | none =>
      obtain ⟨x, hx, hn⟩ := List.any_eq_true.mp hrec
      exact absurd hn (by have := List.find?_eq_none.mp e x hx; exact this)
    | some d2 => exact PySem.W.tab_of G.T KX e ht
  obtain ⟨fd, cs, sp, hT, nT, C, hb, hsp, hF⟩ := F w mg fa _ KX G.T.g hmg HT
  exact law_callTs KX G.T.g G.T.b G.T.builtins G.T.nolimit hg hT nT C G.T.bmain hobj hints (Nat.le_trans hlen (by decide)) ⟨rfl, by decide, by decide⟩ hF hb (fun H hH hS => hsp H a ns hlen hbits hH hS) fun H e s' z => z
end Sv
end

section
set_option Elab.async false
open PySem PySem.W PyProof.Rows
set_option maxRecDepth 100000 in
set_option maxHeartbeats 0 in
theorem PySem.Challenge.cw_servedall_k44_whole_straight_exactly_wit_holds : PySem.Challenge.rw_servedall_k44_whole_straight_exactly_wit.Holds := by
  w_on; o_law; k_head; (case hw => w_witness2)
  k_fill
  refine Sv.walk (l := PySem.Challenge.rw_servedall_k44_whole_straight_exactly_wit) rfl rfl (by decide +kernel) (fun w h Y => PySem.W.km_in_of Y) ?F
  case F =>
    intro w mg fa h KX G hmg HT
    refine' Sv.all_mk (pt := 57) KX G hmg HT ?aC ?ain ?iin ?lin ?cin ?kin ?asb ?lsb ?csb ?ksb ?tsb ?nsb ?acl ?lcl ?ccl ?kcl ?abe ?lbe ?cbe ?kbe ?aco ?lco ?cco ?kco ?ast ?lst ?cst ?kst ?arb ?lrb ?crb ?krb ?acb ?lcb ?ccb ?kcb ?ais ?lis ?cis ?kis ?aso ?lso ?cso ?kso ?asr ?lsr ?csr ?ksr ?ade ?lde ?cde ?kde ?aan ?lan ?can ?kan ?aof ?lof ?cof ?kof ?agr ?lgr ?cgr ?kgr ?ali ?lli ?cli ?kli ?ana ?lna ?cna ?kna ?ata ?lta ?cta ?kta ?ash ?lsh ?csh ?ksh ?ami ?lmi ?cmi ?kmi ?asm ?lsm ?csm ?ksm ?aod ?lod ?cod ?kod ?alc ?llc ?clc ?klc ?alb ?llb ?clb ?klb ?ari ?lri ?cri ?kri ?aro ?lro ?cro ?kro ?als ?lls ?cls ?kls ?alw ?llw ?clw ?klw ?pg ?hd ?po ?sa ?mk ?kc ?nP ?nH ?nQ ?zset ?zint ?ztuple ?zrange ?zlen ?zenumerate ?zsorted ?zall ?zabs ?zsum ?zmin ?zlist ?zisinstance ?zrepr
    (case aC => k_is)
    (case ain => k_is)
    (case iin => k_is)
    (case lin => k_is)
    (case cin => k_is)
    (case kin => k_is)
    (case asb => k_is)
    (case lsb => k_is)
    (case csb => k_is)
    (case ksb => k_is)
    (case tsb => kernel_rfl)
    (case nsb => kernel_rfl)
    (case acl => k_is)
    (case lcl => k_is)
    (case ccl => k_is)
    (case kcl => k_is)
    (case abe => k_is)
    (case lbe => k_is)
    (case cbe => k_is)
    (case kbe => k_is)
    (case aco => k_is)
    (case lco => k_is)
    (case cco => k_is)
    (case kco => k_is)
    (case ast => k_is)
    (case lst => k_is)
    (case cst => k_is)
    (case kst => k_is)
    (case arb => k_is)
    (case lrb => k_is)
    (case crb => k_is)
    (case krb => k_is)
    (case acb => k_is)
    (case lcb => k_is)
    (case ccb => k_is)
    (case kcb => k_is)
    (case ais => k_is)
    (case lis => k_is)
    (case cis => k_is)
    (case kis => k_is)
    (case aso => k_is)
    (case lso => k_is)
    (case cso => k_is)
    (case kso => k_is)
    (case asr => k_is)
    (case lsr => k_is)
    (case csr => k_is)
    (case ksr => k_is)
    (case ade => k_is)
    (case lde => k_is)
    (case cde => k_is)
    (case kde => k_is)
    (case aan => k_is)
    (case lan => k_is)
    (case can => k_is)
    (case kan => k_is)
    (case aof => k_is)
    (case lof => k_is)
    (case cof => k_is)
    (case kof => k_is)
    (case agr => k_is)
    (case lgr => k_is)
    (case cgr => k_is)
    (case kgr => k_is)
    (case ali => k_is)
    (case lli => k_is)
    (case cli => k_is)
    (case kli => k_is)
    (case ana => k_is)
    (case lna => k_is)
    (case cna => k_is)
    (case kna => k_is)
    (case ata => k_is)
    (case lta => k_is)
    (case cta => k_is)
    (case kta => k_is)
    (case ash => k_is)
    (case lsh => k_is)
    (case csh => k_is)
    (case ksh => k_is)
    (case ami => k_is)
    (case lmi => k_is)
    (case cmi => k_is)
    (case kmi => k_is)
    (case asm => k_is)
    (case lsm => k_is)
    (case csm => k_is)
    (case ksm => k_is)
    (case aod => k_is)
    (case lod => k_is)
    (case cod => k_is)
    (case kod => k_is)
    (case alc => k_is)
    (case llc => k_is)
    (case clc => k_is)
    (case klc => k_is)
    (case alb => k_is)
    (case llb => k_is)
    (case clb => k_is)
    (case klb => k_is)
    (case ari => k_is)
    (case lri => k_is)
    (case cri => k_is)
    (case kri => k_is)
    (case aro => k_is)
    (case lro => k_is)
    (case cro => k_is)
    (case kro => k_is)
    (case als => k_is)
    (case lls => k_is)
    (case cls => k_is)
    (case kls => k_is)
    (case alw => k_is)
    (case llw => k_is)
    (case clw => k_is)
    (case klw => k_is)
    (case pg => k_is)
    (case hd => k_is)
    (case po => k_is)
    (case sa => k_is)
    (case mk => k_is)
    (case kc => k_is)
    (case nP => k_is)
    (case nH => k_is)
    (case nQ => k_is)
    (case zset => k_is)
    (case zint => k_is)
    (case ztuple => k_is)
    (case zrange => k_is)
    (case zlen => k_is)
    (case zenumerate => k_is)
    (case zsorted => k_is)
    (case zall => k_is)
    (case zabs => k_is)
    (case zsum => k_is)
    (case zmin => k_is)
    (case zlist => k_is)
    (case zisinstance => k_is)
    (case zrepr => k_is)
end

import PyProof.Rows.All
import Wide.All
import OpenK.AllK
import Wide.FinOn
import HandS.TupMul
import HandS.TupAny
import HandS.Style
import KE.SortData
import KE.DataCmp
import HandS.SortInts
import HandS.ForMost
import HandS.ForExc
import HandS.TupLe
import HandS.Wide
import HandS.IsInst
import HandS.Deep
import HandS.Flow
import HandS.HeadHook1
import HandS.ExcCtx
import HandS.Conv
import HandS.Iter
import HandS.Rev
import HandS.Comp
import HandS.TryOnly
import HandS.Defaults
import HandS.HeadHook4
import KE.KExcSuper
import KE.KSuper
import HandS.ExcInit
import KE.KExcIs
import HandS.HotCalls
import HandS.ExcField
import KE.KStateDown
import HandS.Head0
import HandS.Head1
import HandS.Head2
import HandS.HeadEnd
import HandS.HeadHook2
import HandS.HeadHook3
import PySem.Challenge.RW_gradatim_k71_whole_stages
import HandS.ExcIs
set_option Elab.async false
set_option linter.all false
set_option maxRecDepth 100000
set_option maxHeartbeats 4000000
/-! MiV: rules for tuples that the kit lacks: tuple * 0, * 1; t[::-1]; sorted of alike data. -/
namespace L2
open PySem PySem.Spec PyProof.Rows
theorem tuple_mul_same (l : Addr) (items : Array Value) (n : Nat) (dd : Option Addr) (sl : Array (Option Value)) (x : Int) (u : Tok) (c0 : (decide (x < -(2 ^ 63)) || decide (x ≥ 2 ^ 63)) = false) (c1 : (items.isEmpty || x == 1) = true) :
    Meets (Builtin.«tuple.__mul__» ⟨[.ref l, .int x u], []⟩) (fun _ R s => s.heap.get? l = some { cls := .type "tuple", dict := dd, data := .seq items n, slots := sl } ∧ R (.ok (.ret (Value.ref l))) s) :=
  .of_wp fun prog w A R s h => by
    obtain ⟨hp, g, d, tk, os⟩ := s
    obtain ⟨hl, h⟩ := h
    have f1 := AutoSeq1.idx_int
    have hty : (⟨hp, g, d, tk, os⟩ : Shared).TypeIs (.ref l) "tuple" := ⟨_, hl, rfl⟩
    wp_walk using MeetsSeq.wpAny_loadPart' hl
    repeat (first
      | (refine wpAny_ite_false (decide_eq_false (by rw [c0]; exact Bool.false_ne_true)) ?_; wp_walk using MeetsSeq.wpAny_loadPart' hl)
      | (refine wpAny_ite_true (decide_eq_true c1) ?_; wp_walk using MeetsSeq.wpAny_loadPart' hl))
    exact ⟨_, rfl, h⟩
theorem tuple_mul_none (l : Addr) (items : Array Value) (n : Nat) (dd : Option Addr) (sl : Array (Option Value)) (x : Int) (u : Tok) (c0 : (decide (x < -(2 ^ 63)) || decide (x ≥ 2 ^ 63)) = false) (c1 : (items.isEmpty || x == 1) = false) (c2 : (decide (x ≤ 0) || items.isEmpty) = true) :
    Meets (Builtin.«tuple.__mul__» ⟨[.ref l, .int x u], []⟩) (fun _ R s => s.heap.get? l = some { cls := .type "tuple", dict := dd, data := .seq items n, slots := sl } ∧
      R (.ok (.ret (Value.ref s.heap.objs.size))) { s with heap := s.heap.push { cls := Value.type "tuple", data := Data.seq #[] }, toks := s.toks }) :=
  .of_wp fun prog w A R s h => by
    obtain ⟨hp, g, d, tk, os⟩ := s
    obtain ⟨hl, h⟩ := h
    have f1 := AutoSeq1.idx_int
    wp_walk using MeetsSeq.wpAny_loadPart' hl
    repeat (first
      | (refine wpAny_ite_false (decide_eq_false (by rw [c0]; exact Bool.false_ne_true)) ?_; wp_walk using MeetsSeq.wpAny_loadPart' hl)
      | (refine wpAny_ite_false (decide_eq_false (by rw [c1]; exact Bool.false_ne_true)) ?_; wp_walk using MeetsSeq.wpAny_loadPart' hl)
      | (refine wpAny_ite_true (decide_eq_true c2) ?_; wp_walk using MeetsSeq.wpAny_loadPart' hl))
    exact ⟨_, rfl, h⟩
/-- t * k, k at most 1, or t empty -/
def rRepS (K : PySem.W.Frag) : R2 := fun x y H Q => ∃ l k xs, x = .ref l ∧ y = .int k ∧ SqT K H l xs ∧ -1000 ≤ k ∧ k ≤ 1000 ∧ ((xs = [] ∨ k = 1) → Q (.ref l) H) ∧ ((xs ≠ [] ∧ k ≠ 1) → k ≤ 0 ∧ ∀ p, H p = none → Q (.ref p) (upd H p (.tup [])))
section
variable {X : Cx}
theorem op_repS : OpR X (binaryOp .Mult) (rRepS X.K) := by
  intro pins s σ H x y v u Q I rx ry h
  obtain ⟨l, k, xs, rfl, rfl, hT, h0, h1, q1, q2⟩ := h
  cases rx
  obtain ⟨t, rfl⟩ := ry
  obtain ⟨its, r, ⟨⟨cls, dd, data, sl⟩, ho, hc, n, hd⟩, hs⟩ := I.tuple hT
  simp only at hc hd
  subst hc hd
  have hle : its.length = xs.length := r.length.symm
  have c0 : (decide (k < -(2 ^ 63)) || decide (k ≥ 2 ^ 63)) = false := by
    rw [decide_eq_false (by omega), decide_eq_false (by omega)] <;> rfl
  have emp : (its.toArray.isEmpty = true) ↔ xs = [] := by
    constructor
    · intro e
      have e2 : its = [] := by simpa using e
      rw [e2] at hle
      exact List.eq_nil_of_length_eq_zero hle.symm
    · intro e
      rw [e] at hle
      have e2 : its = [] := List.eq_nil_of_length_eq_zero hle
      rw [e2]
      rfl
  have road : ∀ {R : Value → Shared → Prop}, wpAny (model X.prog X.w) X.A (call (.builtin "tuple.__mul__") [.ref l, .int k t]) R X.xe s → wpAny (model X.prog X.w) X.A (binaryOp .Mult (.ref l) (.int k t)) R X.xe s := fun hw =>
    wpAny_binaryOp_repeat_ref (T := "tuple") (U := "int") (by decide) ⟨_, ho, rfl⟩ (fun s' => typeIs_int s' k t) noFill_tuple_mul F.fills_int_mul F.slot_int_rmul repeat_tuple F.slot_int_index.lookup
      (call_meets F.slot_int_rmul (typeIs_int s k t) F.entry_int_rmul (F.args_int_rmul_2 _ _) (int_rmul_tuple k t l its.toArray n dd sl) ⟨ho, rfl, ⟨_, ho, rfl⟩, hw⟩)
  by_cases hsame : xs = [] ∨ k = 1
  · have c1 : (its.toArray.isEmpty || k == 1) = true := by
      rcases hsame with h | h
      · rw [emp.mpr h]; rfl
      · rw [h]; simp
    exact road (call_meets F.slot_tuple_mul ⟨_, ho, rfl⟩ F.entry_tuple_mul (F.args_tuple_mul_2 _ _) (tuple_mul_same l its.toArray n dd sl k t c0 c1) ⟨ho, .ref l, H, I, rfl, q1 hsame⟩)
  · have hn : xs ≠ [] ∧ k ≠ 1 := ⟨fun e => hsame (.inl e), fun e => hsame (.inr e)⟩
    obtain ⟨hk, q⟩ := q2 hn
    have e0 : its.toArray.isEmpty = false := by
      cases e : its.toArray.isEmpty with
      | false => rfl
      | true => exact absurd (emp.mp e) hn.1
    have c1 : (its.toArray.isEmpty || k == 1) = false := by
      rw [e0, Bool.false_or]
      exact beq_eq_false_iff_ne.mpr hn.2
    have c2 : (decide (k ≤ 0) || its.toArray.isEmpty) = true := by
      rw [decide_eq_true hk]; rfl
    refine road (call_meets F.slot_tuple_mul ⟨_, ho, rfl⟩ F.entry_tuple_mul (F.args_tuple_mul_2 _ _) (tuple_mul_none l its.toArray n dd sl k t c0 c1 c2) ⟨ho, ?_⟩)
    refine ⟨.ref s.heap.objs.size, _, I.laid (t' := s.toks) (o := .tup []) (fun b ob q => Heap.get?_push_of_some _ q) (Nat.le_refl _) ?_, rfl, q _ (I.hok.fresh (Nat.le_refl _))⟩
    exact ⟨Nat.zero_le _, [], .nil, IsTup.new _ _⟩
end

/-! ### t[::-1] -/
theorem range_rev (xs : Array Value) : ((List.range xs.size).filterMap fun (k : Nat) => xs[(((xs.size : Int) - 1) + (k : Int) * (-1)).toNat]?) = xs.toList.reverse := by
  have e := List.filterMap_map (l := List.range xs.size) (f := fun (k : Nat) => (((xs.size : Int) - 1) + (k : Int) * (-1)).toNat) (g := fun (i : Nat) => xs[i]?)
  refine Eq.trans (Eq.symm e) ?_
  have e2 : (List.range xs.size).map (fun (k : Nat) => (((xs.size : Int) - 1) + (k : Int) * (-1)).toNat) = (List.range xs.size).reverse := by
    rw [← PySem.W.krv_range]
    refine List.map_congr_left fun k hk => ?_
    have hk' : k < xs.size := List.mem_range.mp hk
    omega
  rw [e2, List.filterMap_reverse, PySem.W.krv_all]
theorem getItem_tuple_rev {prog : Program} {w : World} {A : Around} {E : Value → Shared → Prop} {s : Shared} {t sl : Addr} {items : Array Value} {vl vu vs : Value} {Q : Value → Shared → Prop} (ht : IsTup s.heap t items) (hs : s.heap.IsSliceOf sl vl vu vs) (pl : IsPart vl none) (pu : IsPart vu none) (ps : IsPart vs (some (-1)))
    (h : Q (.ref s.heap.objs.size) { s with heap := s.heap.push { cls := .type "tuple", data := .seq items.toList.reverse.toArray } })
    (hsz : items.size ≤ sizeLine) : wpAny (model prog w) A (getItem (.ref t) (.ref sl)) Q E s := by
  have htake : sizeOk (.seq items.toList.reverse.toArray) := by
    show items.toList.reverse.toArray.size ≤ sizeLine
    rw [List.size_toArray, List.length_reverse, Array.length_toList]
    exact hsz
  obtain ⟨os, hos, hcs, hds⟩ := id hs
  have hTs : s.TypeIs (.ref sl) "slice" := ⟨os, hos, hcs⟩
  unfold getItem
  try with_reducible refine wpAny_holding ?_
  first | refine wpAny_bind (wpAny_pure ?_) | skip
  refine wpAny_bind (wpAny_sequenceKey ht.typeIs (by decide) ?_)
  refine wpAny_bind (wpAny_callSpecial?_slot (name := Str.ofString "__getitem__") ht.typeIs PyProof.Rows.slot_tuple_getitem
    (wpAny_call_entry PyProof.Rows.slot_tuple_getitem ht.typeIs entry_tuple_getitem ?_ (args_tuple_getitem _ _)))
  show wpAny _ _ (Builtin.Tuple.tupleItemsOf (.ref t) >>= _) _ _ s
  refine wpAny_bind (tupleItemsOf_ ht ?_)
  refine wpAny_bind (wpAny_typeOf hTs ?_)
  rw [if_pos (by decide)]
  have app : ∀ {A : Around} {E : Value → Shared → Prop} {Q : Int × Int × Nat → Shared → Prop}, Q ((items.size : Int) - 1, -1, items.size) s → wpAny (model prog w) A (Builtin.Slice.sliceApplied (.ref sl) (pure (items.size : Int))) Q E s := fun {A E Q} hq => by
    unfold Builtin.Slice.sliceApplied Builtin.Slice.sliceFields
    refine wpAny_bind (wpAny_bind (wpAny_field hos hds (x := vl) rfl (wpAny_bind (wpAny_field hos hds (x := vu) rfl (wpAny_bind (wpAny_field hos hds (x := vs) rfl (wpAny_pure ?_)))))))
    refine wpAny_bind (HT.slicePart_ ps ?_)
    show wpAny _ _ (if ((-1 : Int) == 0) = true then _ else _) _ _ s
    rw [if_neg (by decide)]
    refine wpAny_bind (HT.slicePart_ pl (wpAny_bind (HT.slicePart_ pu (wpAny_bind (wpAny_pure ?_)))))
    have ea : Builtin.Slice.sliceAdjust none none (-1) (items.size : Int) = ((items.size : Int) - 1, -1) := by
      unfold Builtin.Slice.sliceAdjust
      simp
    have ep : Builtin.Slice.slicePlaces ((items.size : Int) - 1) (-1) (-1) = items.size := by
      unfold Builtin.Slice.slicePlaces
      have h1 : ¬ ((-1 : Int) > 0) := by omega
      simp only [h1, if_false]
      split <;> simp <;> omega
    show wpAny _ _ (match Builtin.Slice.sliceAdjust none none (-1) (items.size : Int) with | (lo, hi) => pure (lo, (-1 : Int), Builtin.Slice.slicePlaces lo hi (-1))) _ _ s
    rw [ea]
    show wpAny _ _ (pure (((items.size : Int) - 1), (-1 : Int), Builtin.Slice.slicePlaces ((items.size : Int) - 1) (-1) (-1))) _ _ s
    rw [ep]
    exact wpAny_pure hq
  refine wpAny_bind (app ?_)
  have hno : ¬ ((((items.size : Int) - 1) == 0 && (-1 : Int) == 1 && items.size == items.size) = true) := by simp
  show wpAny _ _ (if (((items.size : Int) - 1) == 0 && (-1 : Int) == 1 && items.size == items.size) = true then _ else _) _ _ s
  rw [if_neg hno, range_rev]
  unfold Builtin.Tuple.tupleExact
  first
    | exact wpAny_bind (wpAny_newObj_type (wpAny_pure ⟨_, rfl, h⟩) htake)
    | exact wpAny_bind (wpAny_newObj_type (wpAny_pure ⟨_, rfl, wpAny_pure h⟩) htake)
    | exact wpAny_bind (wpAny_bind (wpAny_newObj_type (wpAny_pure (wpAny_pure ⟨_, rfl, wpAny_pure h⟩)) htake))
/-- x[::-1], x a list or a tuple -/
def tRevA (K : PySem.W.Frag) (te : TE) : TE := fun σ H Q => te σ H fun x H1 => ∃ a xs, x = .ref a ∧ ((SqL K H1 a xs ∧ ∀ p, H1 p = none → Q (.ref p) (upd H1 p (.lst xs.reverse))) ∨ (SqT K H1 a xs ∧ ∀ p, H1 p = none → Q (.ref p) (upd H1 p (.tup xs.reverse))))
theorem pe_revA {X : Cx} {e : Expr} {te : TE} {k : Nat} {p1 p2 p3 pos : Pos} (he : PE X e te) : PE X (.Subscript e (.Slice none none (some (.UnaryOp .USub (.Constant (.int 1) k p1) p2)) p3) pos) (tRevA X.K te) := by
  refine ⟨fun pins s σ H Q I h => ?_⟩
  refine Subscript_ (thn (he.run pins s σ H _ I h) fun v s1 ⟨x, H1, I1, r1, q1⟩ => ?_)
  obtain ⟨a, xs, ex, q⟩ := q1
  subst ex
  cases r1
  have hst : PO X (some (.UnaryOp .USub (.Constant (.int 1) k p1) p2)) (tPart (tUn (rU fun i => .int (-i)) (tC (.int 1)))) := po_some (pe_un un_neg pe_int)
  refine wpAny_Slice (thn (po_none.run pins s1 σ H1 (fun o H2 => o = none ∧ H2 = H1) I1 ⟨rfl, rfl⟩) fun vl s2 ⟨l, H2, I2, pl, el, e2⟩ => ?_)
  subst el e2
  refine thn (po_none.run pins s2 σ H2 (fun o H3 => o = none ∧ H3 = H2) I2 ⟨rfl, rfl⟩) fun vu s3 ⟨u, H3, I3, pu, eu, e3⟩ => ?_
  subst eu e3
  refine thn (hst.run pins s3 σ H3 (fun o H4 => o = some (-1) ∧ H4 = H3) I3 ⟨1, rfl, -1, rfl, rfl, rfl⟩) fun vs s4 ⟨o, H4, I4, ps, eo, e4⟩ => ?_
  subst eo e4
  have I5 : Inv X pins σ H4 { s4 with heap := s4.heap.push { cls := .type "slice", data := .fields #[vl, vu, vs] } } := I4.kept (t' := s4.toks) fun b ob q => Heap.get?_push_of_some _ q
  show wpAny (model X.prog X.w) X.A (subscriptTail e (.Slice none none (some (.UnaryOp .USub (.Constant (.int 1) k p1) p2)) p3) (.ref a) (.ref s4.heap.objs.size)) (EP X pins σ Q) X.xe { s4 with heap := s4.heap.push { cls := .type "slice", data := .fields #[vl, vu, vs] } }
  rcases q with ⟨hx, q⟩ | ⟨hx, q⟩
  · obtain ⟨its, r, ht, hz⟩ := I5.list hx
    have hlen := r.length
    refine tail_any (ops := [.ref a, .ref s4.heap.objs.size]) ht.isList.typeIs (PySem.slot_list_getitem.lookup) ?_ (by with_unfolding_all rfl)
    refine wpAny_getItem_list_slice ht.isList (Heap.IsSliceOf.new _ vl vu vs) pl pu ps (by decide) ?_ (by rw [List.size_toArray]; omega)
    rw [PySem.W.krv_pick]
    refine ⟨.ref _, _, I5.laid (t' := s4.toks) (o := .lst xs.reverse) (fun b ob q => Heap.get?_push_of_some _ q) (Nat.le_refl _) ?_, rfl, q _ (I5.hok.fresh (Nat.le_refl _))⟩
    exact ⟨by rw [List.length_reverse]; exact hz, _, 0, r.reverse, Heap.get?_push_size _ rfl⟩
  · obtain ⟨its, r, ht, hz⟩ := I5.tuple hx
    have hlen := r.length
    refine tail_any (ops := [.ref a, .ref s4.heap.objs.size]) ht.typeIs (PyProof.Rows.slot_tuple_getitem.lookup) ?_ (by with_unfolding_all rfl)
    refine getItem_tuple_rev ht (Heap.IsSliceOf.new _ vl vu vs) pl pu ps ?_ (by rw [List.size_toArray]; omega)
    refine ⟨.ref _, _, I5.laid (t' := s4.toks) (o := .tup xs.reverse) (fun b ob q => Heap.get?_push_of_some _ q) (Nat.le_refl _) ?_, rfl, q _ (I5.hok.fresh (Nat.le_refl _))⟩
    exact ⟨by rw [List.length_reverse]; exact hz, _, r.reverse, IsTup.new _ _⟩

/-! ### sorted of alike data -/
def rSortedD {δ : Type} (enc : δ → PyData) (units : Nat) (K : PySem.W.Frag) : List V → Hp → VK → Prop := fun vs H Q => ∃ (a : Addr) (bs : List (V × δ)), vs = [V.ref a] ∧ SqL K H a (bs.map (·.1)) ∧ (∀ b ∈ bs, Dp K H b.1 (enc b.2)) ∧
  PySem.W.AllAlike (bs.map fun b => enc b.2) ∧ PySem.W.Sortable (bs.map fun b => enc b.2) ∧ (∀ b ∈ bs, units + 2 + (enc b.2).depth < cLine) ∧
  ∀ p, H p = none → Q (.ref p) (upd H p (.lst ((bs.mergeSort (PySem.W.dataLe false fun b => enc b.2)).map (·.1))))
section
variable {X : Cx} {δ : Type}
theorem each_vals : ∀ {bs : List (V × δ)} {us : List Value}, Vals (bs.map (·.1)) us → PySem.W.EachIs (fun u b => RelV b.1 u) us bs
  | [], _, h => by cases h; exact .nil
  | b :: bs, _, h => by
    cases h with
    | cons h1 h2 => exact .cons h1 (each_vals h2)
theorem vals_each : ∀ {bs : List (V × δ)} {us : List Value}, PySem.W.EachIs (fun u b => RelV b.1 u) us bs → Vals (bs.map (·.1)) us
  | [], _, h => by cases h; exact .nil
  | b :: bs, _, h => by
    cases h with
    | cons h1 h2 => exact .cons h1 (vals_each h2)
theorem each_and {α β : Type} {R : α → β → Prop} {S : α → β → Prop} : ∀ {us : List α} {bs : List β}, PySem.W.EachIs R us bs → (∀ b ∈ bs, ∀ u, R u b → S u b) → PySem.W.EachIs S us bs
  | _, _, .nil, _ => .nil
  | _, _, .cons h1 h2, h => .cons (h _ List.mem_cons_self _ h1) (each_and h2 fun b hb => h b (List.mem_cons_of_mem _ hb))
theorem cr_sortedD (enc : δ → PyData) : CallR X (.builtin "sorted") (rSortedD enc X.A.units X.K) := by
  intro pins s σ H vs us Q I r h
  obtain ⟨a, bs, rfl, hs, hd, hal, hk, hu, q⟩ := h
  obtain ⟨its, rv, hl, hz⟩ := I.list hs
  obtain ⟨u, rfl, ru⟩ := vals1 r
  obtain rfl : u = Value.ref a := ru
  have hlen := rv.length
  rw [List.length_map] at hlen hz
  have e := each_vals rv
  have er : PySem.W.EachIs (fun v b => ∃ as, Reads s.heap v (enc b.2) as) its bs := each_and e fun b hb u hu => Dp.reads I _ _ _ (hd b hb) hu
  refine PySem.W.sorted_data (R := fun u b => RelV b.1 u) (enc := fun b : V × δ => enc b.2) hl.isList e er hal hk hz hu fun out ho eo => ?_
  obtain ⟨ep, he'⟩ := PyProof.Rows.sortedAll_at s.heap its out.toArray
  have hlen2 : ((bs.mergeSort (PySem.W.dataLe false fun b => enc b.2)).map (·.1)).length ≤ sizeLine := by
    rw [List.length_map, List.length_mergeSort]
    exact hz
  exact ⟨.ref _, upd H (s.heap.objs.size + 1) (.lst ((bs.mergeSort (PySem.W.dataLe false fun b => enc b.2)).map (·.1))), I.laid (t' := s.toks) (fun _ _ => PyProof.Rows.sortedAll_old) (Nat.le_succ _) ⟨hlen2, out, ep, vals_each eo, he'⟩, rfl, q _ (I.hok.fresh (Nat.le_succ _))⟩
end
end L2


set_option Elab.async false
set_option linter.all false
set_option maxRecDepth 100000
/-! MiA: plain data, the mini interpreter over the text (semantics only). -/
namespace Mi
open PySem

/-! ### data -/
inductive D where
  | non | bl (b : Bool) | int (i : Int) | str (s : Str) | tup (ds : List D) | lst (ds : List D) | dct (kvs : List (Str × D)) | obj (n : Nat)
  deriving Inhabited
inductive Sl where
  | no | fz (d : D) | ow (d : D)
abbrev Env := List Sl
inductive Ob where
  | lst (ds : List D) | frz (ds : List D) | ins (C : Str) (fs : List (Str × D))
abbrev Sto := List Ob
structure Xn where
  cls : Str
  flds : Option (List (Str × D))
inductive Res (α : Type) where
  | ok (a : α) (T : Sto) | ex (x : Xn) (T : Sto) | bad
@[inline] def Res.bind {α β : Type} (r : Res α) (f : α → Sto → Res β) : Res β := match r with
  | .ok a T => f a T
  | .ex x T => .ex x T
  | .bad => .bad
abbrev EM (α : Type) := Env → Sto → Res α
def EM.pure {α : Type} (a : α) : EM α := fun _ T => .ok a T
def EM.bind {α β : Type} (m : EM α) (f : α → EM β) : EM β := fun σ T => (m σ T).bind fun a T1 => f a σ T1
def EM.bad {α : Type} : EM α := fun _ _ => .bad
def EM.lift {α : Type} (o : Option α) : EM α := fun _ T => match o with
  | some a => .ok a T
  | none => .bad

/-! ### sizes -/
def fits (n : Nat) : Bool := decide (n ≤ 16777216)

/-! ### equality, order, truth -/
mutual
def D.py : D → PyData
  | .non => .none
  | .bl b => .bool b
  | .int i => .int i
  | .str s => .str s
  | .tup ds => .tuple (D.pys ds)
  | .lst ds => .list (D.pys ds)
  | .dct _ => .dict []
  | .obj _ => .dict []
def D.pys : List D → List PyData
  | [] => []
  | d :: ds => d.py :: D.pys ds
end
mutual
/-- made of none, bools, ints, texts, tuples, lists -/
def D.plain : D → Bool
  | .str x => PySem.PyData.strOk x
  | .dct _ => false
  | .obj _ => false
  | .tup ds => D.plains ds
  | .lst ds => D.plains ds
  | _ => true
def D.plains : List D → Bool
  | [] => true
  | d :: ds => d.plain && D.plains ds
end
mutual
def D.deep : D → Nat
  | .tup ds => D.deeps ds + 1
  | .lst ds => D.deeps ds + 1
  | _ => 0
def D.deeps : List D → Nat
  | [] => 0
  | d :: ds => max d.deep (D.deeps ds)
end
def D.eqv (a b : D) : Bool := PyData.eqv a.py b.py
/-- a == b, where it is told -/
def eqD (a b : D) : Option Bool := match a, b with
  | .str x, .str y => some (decide (x = y))
  | .int i, .int j => some (decide (i = j))
  | a, b => if a.plain && b.plain && decide (min a.deep b.deep ≤ 190) then some (a.eqv b) else none
/-- which order: of two that are not equal -/
inductive Od where
  | lt | le | gt | ge
  deriving DecidableEq
def Od.onInt : Od → Int → Int → Bool
  | .lt, i, j => decide (i < j)
  | .le, i, j => decide (i ≤ j)
  | .gt, i, j => decide (j < i)
  | .ge, i, j => decide (j ≤ i)
def Od.onNat : Od → Nat → Nat → Bool
  | .lt, i, j => decide (i < j)
  | .le, i, j => decide (i ≤ j)
  | .gt, i, j => decide (j < i)
  | .ge, i, j => decide (j ≤ i)
def Od.onStr : Od → Str → Str → Bool
  | .lt, i, j => decide (i.cps.toList < j.cps.toList)
  | .le, i, j => !decide (j.cps.toList < i.cps.toList)
  | .gt, i, j => decide (j.cps.toList < i.cps.toList)
  | .ge, i, j => !decide (i.cps.toList < j.cps.toList)
def Od.onData : Od → PyData → PyData → Bool
  | .lt, a, b => PySem.W.dataLt a b
  | .le, a, b => !PySem.W.dataLt b a
  | .gt, a, b => PySem.W.dataLt b a
  | .ge, a, b => !PySem.W.dataLt a b
/-- a < b (and the others), where it is told: ints, texts, tuples of alike data -/
def ordD (o : Od) : D → D → Option Bool
  | .int i, .int j => some (o.onInt i j)
  | .str x, .str y => some (o.onStr x y)
  | .tup xs, .tup ys => if D.plains xs && D.plains ys && PySem.W.alike (D.tup xs).py (D.tup ys).py && decide (min (D.deeps xs) (D.deeps ys) ≤ 189) then some (o.onData (D.tup xs).py (D.tup ys).py) else none
  | _, _ => none
/-- a tuple with something in it -/
def D.isTup1 : D → Bool
  | .tup (_ :: _) => true
  | _ => false
/-- sorted, where it is told: tuples of alike data -/
def sortD (ds : List D) : Option (List D) :=
  if D.plains ds && fits ds.length && decide (D.deeps ds ≤ 190) && ds.all D.isTup1 && (ds.all fun a => ds.all fun b => PySem.W.alike a.py b.py) then some (ds.mergeSort (PySem.W.dataLe false D.py)) else none
def D.truth : D → Bool
  | .non => false
  | .bl b => b
  | .int i => i != 0
  | .str s => (s.length : Int) != 0
  | .tup ds => !ds.isEmpty
  | .lst ds => !ds.isEmpty
  | .dct kvs => !kvs.isEmpty
  | .obj _ => true
/-- the truth where it is told -/
def truD : D → Option Bool
  | .obj _ => none
  | .dct _ => none
  | .str s => if fits s.length then some ((s.length : Int) != 0) else none
  | d => some d.truth


/-! ### operators -/
def rep (n : Nat) (ds : List D) : List D := (List.replicate n ds).flatten
def repS (n : Nat) (s : Str) : Str := ⟨(List.replicate n s.cps.toList).flatten.toArray⟩
def binD : Operator → D → D → Option D
  | .Add, .int i, .int j => some (.int (i + j))
  | .Add, .str x, .str y => if fits (x.length + y.length) then some (.str (x ++ y)) else none
  | .Add, .tup xs, .tup ys => if fits (xs.length + ys.length) then some (.tup (xs ++ ys)) else none
  | .Add, .lst xs, .lst ys => if fits (xs.length + ys.length) then some (.lst (xs ++ ys)) else none
  | .Sub, .int i, .int j => some (.int (i - j))
  | .Mult, .int i, .int j => if decide (i.natAbs.log2 + j.natAbs.log2 < 1000000) then some (.int (i * j)) else none
  | .Mult, .tup xs, .int j => if decide (xs.length ≤ 1000) && decide (-1000 ≤ j) && decide (j ≤ 1000) then some (.tup (rep j.toNat xs)) else none
  | .Mult, .lst xs, .int j => if decide (-(2 ^ 63) ≤ j) && decide (j < 2 ^ 63) && fits (xs.length * j.toNat) then some (.lst (rep j.toNat xs)) else none
  | .FloorDiv, .int i, .int j => if decide (0 < j) && decide (j.natAbs.log2 < 9000) then some (.int (i / j)) else none
  | .Mod, .int i, .int j => if decide (0 < j) then some (.int (i % j)) else none
  | .Pow, .int i, .int j => if decide (0 ≤ j) && decide (j ≤ 1000000) && decide (i.natAbs < 18446744073709551616) then some (.int (i ^ j.toNat)) else none
  | _, _, _ => none
def lenD : D → Option Nat
  | .str s => if fits s.length then some s.length else none
  | .tup ds => some ds.length
  | .lst ds => some ds.length
  | _ => none
/-- the place that an index means -/
def ixD (n : Nat) (i : Int) : Option Nat := if 0 ≤ i then (if i < n then some i.toNat else none) else if -(n : Int) ≤ i then some (i + n).toNat else none
def itemD : D → D → Option D
  | .tup ds, .int i => (ixD ds.length i).bind fun j => ds[j]?
  | .lst ds, .int i => (ixD ds.length i).bind fun j => ds[j]?
  | .str s, .int i => if fits s.length then (ixD s.length i).bind fun j => s.cps.toList[j]?.map fun c => .str ⟨#[c]⟩ else none
  | _, _ => none
def cutL {α : Type} (xs : List α) (lo hi : Option Int) : List α := (xs.drop (HT.sIx xs.length 0 lo)).take (HT.sIx xs.length xs.length hi - HT.sIx xs.length 0 lo)
def sliceD : D → Option Int → Option Int → Option D
  | .tup ds, lo, hi => some (.tup (cutL ds lo hi))
  | .lst ds, lo, hi => some (.lst (cutL ds lo hi))
  | .str s, lo, hi => if fits s.length then some (.str ⟨(cutL s.cps.toList lo hi).toArray⟩) else none
  | _, _, _ => none
def backD : D → Option D
  | .lst ds => some (.lst ds.reverse)
  | .tup ds => some (.tup ds.reverse)
  | _ => none
/-- no tuple, no list -/
def D.flat : D → Bool
  | .non => true
  | .bl _ => true
  | .int _ => true
  | .str _ => true
  | _ => false
/-- x in c -/
def memD (x : D) (ds : List D) : Option Bool :=
  if ds.all D.flat && x.flat then some (ds.any fun y => y.eqv x)
  else if D.plains ds && x.plain && decide (x.deep ≤ 190) then some (ds.any fun y => y.eqv x) else none
def inD (x : D) : D → Option Bool
  | .tup ds => memD x ds
  | .lst ds => memD x ds
  | .str s => match x with
    | .str z => (match z.cps.toList with
      | [c] => some (decide (c ∈ s.cps.toList))
      | _ => none)
    | _ => none
  | _ => none
def isD (x y : D) : Option Bool := match x, y with
  | x, .non => some (match x with | .non => true | _ => false)
  | .bl a, .bl b => some (decide (a = b))
  | _, _ => none
def cmpD : CmpOp → D → D → Option Bool
  | .Eq, a, b => eqD a b
  | .NotEq, a, b => (eqD a b).map (!·)
  | .Lt, a, b => ordD .lt a b
  | .LtE, a, b => ordD .le a b
  | .Gt, a, b => ordD .gt a b
  | .GtE, a, b => ordD .ge a b
  | .In, a, b => inD a b
  | .NotIn, a, b => (inD a b).map (!·)
  | .Is, a, b => isD a b
  | .IsNot, a, b => (isD a b).map (!·)
end Mi


set_option Elab.async false
set_option linter.all false
set_option maxRecDepth 100000
/-! MiB: the mini interpreter: expressions and statements over the text. -/
namespace Mi
open PySem

/-! ### what is fixed -/
/-- a frame's names and its scope -/
structure Fi where
  N : List Str
  sc : Scope
  fn : Str → Bool
/-- the module: its functions, its constants, the locals that hold store objects, per row the locals whose owned lists are frozen there -/
structure Gi where
  fn : List Str
  cst : List (Str × D)
  ref : List Str
  frz : List (Nat × List Str)
abbrev CallT := Str → List D → Sto → Res (D × Bool)
def visB (sc : Scope) (x : Str) : Bool := match sc.names.lookup x with
  | some .local => true
  | some .cell => true
  | some .free => true
  | _ => false
def locB (sc : Scope) (x : Str) : Bool := match sc.names.lookup x with
  | some .local => true
  | some .cell => true
  | _ => false
def isGl (sc : Scope) (x : Str) : Bool := match sc.names.lookup x with
  | some .globalImplicit => true
  | _ => false
def ixOf (x : Str) : List Str → Option Nat
  | [] => none
  | y :: ys => if y = x then some 0 else (ixOf x ys).map (· + 1)
def slot (F : Fi) (x : Str) : Option Nat := if visB F.sc x then ixOf x F.N else none
def slotL (F : Fi) (x : Str) : Option Nat := if locB F.sc x && (F.fn x || decide (F.sc.names.lookup x = some .local)) then ixOf x F.N else none
def isDbg (x : Str) : Bool := decide (x = ("__debug__" : Str)) || decide (x = ("__classdict__" : Str)) || decide (x = ("__name__" : Str))

/-! ### expressions -/
structure Dn where
  val : Fi → Expr → EM (D × Bool)
  tst : Fi → Expr → EM Bool
def vVar (i : Nat) : EM (D × Bool) := fun σ T => match σ[i]? with
  | some (.fz d) => .ok (d, false) T
  | _ => .bad
def pVar (i : Nat) : EM D := fun σ T => match σ[i]? with
  | some (.fz d) => .ok d T
  | some (.ow d) => .ok d T
  | _ => .bad
def vE (R : Dn) (F : Fi) (e : Expr) : EM D := EM.bind (R.val F e) fun d => EM.pure d.1
/-- only looked at -/
def pE (R : Dn) (F : Fi) (e : Expr) : EM D := match e with
  | .Name x _ => if isDbg x then EM.bad else match slot F x with
    | some i => pVar i
    | none => vE R F e
  | _ => vE R F e
def notStar : Expr → Bool
  | .Starred _ _ => false
  | _ => true
def notSlice : Expr → Bool
  | .Slice _ _ _ _ => false
  | _ => true
def aL (R : Dn) (F : Fi) : List Expr → EM (List D)
  | [] => EM.pure []
  | e :: es => EM.bind (vE R F e) fun d => EM.bind (aL R F es) fun ds => EM.pure (d :: ds)
def aE (R : Dn) (F : Fi) (es : List Expr) : EM (List D) := if es.all notStar then aL R F es else EM.bad
def tAll (R : Dn) (F : Fi) : List Expr → EM Bool
  | [] => EM.pure true
  | e :: es => EM.bind (R.tst F e) fun b => if b then tAll R F es else EM.pure false
def tAny (R : Dn) (F : Fi) : List Expr → EM Bool
  | [] => EM.pure false
  | e :: es => EM.bind (R.tst F e) fun b => if b then EM.pure true else tAny R F es
/-- a and b .., a or b .. as values -/
def vAnd (R : Dn) (F : Fi) : List Expr → EM (D × Bool)
  | [] => EM.bad
  | [e] => EM.bind (vE R F e) fun d => EM.pure (d, false)
  | e :: es => EM.bind (vE R F e) fun d => EM.bind (EM.lift (truD d)) fun b => if b then vAnd R F es else EM.pure (d, false)
def vOr (R : Dn) (F : Fi) : List Expr → EM (D × Bool)
  | [] => EM.bad
  | [e] => EM.bind (vE R F e) fun d => EM.pure (d, false)
  | e :: es => EM.bind (vE R F e) fun d => EM.bind (EM.lift (truD d)) fun b => if b then EM.pure (d, false) else vOr R F es
def cM (R : Dn) (F : Fi) (op : CmpOp) (a b : Expr) : EM Bool := EM.bind (pE R F a) fun x => EM.bind (pE R F b) fun y => EM.lift (cmpD op x y)
def notSet : Expr → Bool
  | .Set _ _ _ => false
  | _ => true
def c2M (R : Dn) (F : Fi) (op op2 : CmpOp) (a b c : Expr) : EM Bool := EM.bind (pE R F a) fun x => EM.bind (pE R F b) fun y => EM.bind (EM.lift (cmpD op x y)) fun k =>
  if k then EM.bind (pE R F c) fun z => EM.lift (cmpD op2 y z) else EM.pure false
/-- which class: a built-in's name -/
def isiD (T : Str) (d : D) : Option Bool :=
  if T = ("int" : Str) then some (match d with | .int _ => true | .bl _ => true | _ => false)
  else if T = ("bool" : Str) then some (match d with | .bl _ => true | _ => false)
  else if T = ("str" : Str) then some (match d with | .str _ => true | _ => false)
  else if T = ("tuple" : Str) then some (match d with | .tup _ => true | _ => false)
  else if T = ("list" : Str) then some (match d with | .lst _ => true | _ => false)
  else none
def isiNames : List Str := ["int", "bool", "str", "tuple", "list"]
def noObj : D → Bool
  | .obj _ => false
  | _ => true
/-- the item of a value or of a store object -/
def itemM (x i : D) : EM D := fun _ T => match x with
  | .obj n => (match T[n]? with
    | some (.lst ds) => (match itemD (.lst ds) i with
      | some d => .ok d T
      | none => .bad)
    | _ => .bad)
  | x => (match itemD x i with
    | some d => .ok d T
    | none => .bad)
def lenM (x : D) : EM D := fun _ T => match x with
  | .obj n => (match T[n]? with
    | some (.lst ds) => .ok (.int ds.length) T
    | _ => .bad)
  | x => (match lenD x with
    | some k => .ok (.int k) T
    | none => .bad)
/-- an optional part of a slice -/
def oE (R : Dn) (F : Fi) : Option Expr → EM (Option Int)
  | none => EM.pure none
  | some e => EM.bind (vE R F e) fun d => match d with
    | .int i => EM.pure (some i)
    | _ => EM.bad
def isLst : D → Bool
  | .lst _ => true
  | _ => false
def chars (s : Str) : List D := s.cps.toList.map fun c => .str ⟨#[c]⟩
def boolsOf : List D → Option (List Bool)
  | [] => some []
  | .bl b :: ds => (boolsOf ds).map (b :: ·)
  | _ :: _ => none
def intsOf : List D → Option (List Int)
  | [] => some []
  | .int i :: ds => (intsOf ds).map (i :: ·)
  | _ :: _ => none
/-- what is walked -/
def itemsD : D → Option (List D)
  | .lst ds => some ds
  | .tup ds => some ds
  | .str s => if fits s.length then some (chars s) else none
  | _ => none
def small62 (i : Int) : Bool := decide (-(4611686018427387904) ≤ i) && decide (i < 4611686018427387904)
def rangeD (lo : Int) (n : Nat) : List D := (List.range n).map fun (i : Nat) => D.int (lo + (i : Int))
def enumFrom (k : Nat) : List D → List D
  | [] => []
  | d :: ds => .tup [.int (k : Int), d] :: enumFrom (k + 1) ds
def itemsM (d : D) : EM (List D) := fun _ T => match d with
  | .obj n => (match T[n]? with
    | some (.frz ds) => .ok ds T
    | _ => .bad)
  | d => (match itemsD d with
    | some ds => .ok ds T
    | none => .bad)
def isTupE : Expr → Bool
  | .Tuple _ _ _ => true
  | _ => false
def itM (P : Fi → Expr → EM D) (R : Dn) (F : Fi) (tg e : Expr) : EM (List D) := match e with
  | .Call (.Name f _) [a] [] _ => if isGl F.sc f && notStar a && decide (f = ("range" : Str)) then
      EM.bind (vE R F a) fun d => match d with
        | .int j => if small62 j then EM.pure (rangeD 0 j.toNat) else EM.bad
        | _ => EM.bad
    else if isGl F.sc f && notStar a && decide (f = ("enumerate" : Str)) then (if isTupE tg then EM.bind (P F a) fun d => match d with
        | .lst ds => EM.pure (enumFrom 0 ds)
        | _ => EM.bad
      else EM.bad)
    else if isGl F.sc f && notStar a && decide (f = ("reversed" : Str)) then EM.bind (P F a) fun d => match d with
        | .lst ds => EM.pure ds.reverse
        | .tup ds => EM.pure ds.reverse
        | _ => EM.bad
    else EM.bind (P F e) fun d => itemsM d
  | .Call (.Name f _) [a, b] [] _ => if isGl F.sc f && notStar a && notStar b && decide (f = ("range" : Str)) then
      EM.bind (vE R F a) fun d => EM.bind (vE R F b) fun d2 => match d, d2 with
        | .int i, .int j => if small62 i && small62 j then EM.pure (rangeD i (j - i).toNat) else EM.bad
        | _, _ => EM.bad
    else EM.bind (P F e) fun d => itemsM d
  | e => EM.bind (P F e) fun d => itemsM d
/-- names as targets -/
def bindNs (F : Fi) : List Expr → List D → Env → Option Env
  | [], [], σ => some σ
  | .Name x _ :: ts, d :: ds, σ => (slotL F x).bind fun i => bindNs F ts ds (σ.set i (.fz d))
  | _, _, _ => none
def bindT (F : Fi) : Expr → D → Env → Option Env
  | .Name x _, d, σ => (slotL F x).map fun i => σ.set i (.fz d)
  | .Tuple ts _ _, .tup ds, σ => bindNs F ts ds σ
  | .Tuple ts _ _, .lst ds, σ => bindNs F ts ds σ
  | _, _, _ => none
/-- the slots of targets -/
def slotsNs (F : Fi) : List Expr → List Nat
  | [] => []
  | .Name x _ :: ts => (match slotL F x with | some i => [i] | none => []) ++ slotsNs F ts
  | _ :: ts => slotsNs F ts
def slotsT (F : Fi) : Expr → List Nat
  | .Name x _ => (match slotL F x with | some i => [i] | none => [])
  | .Tuple ts _ _ => slotsNs F ts
  | _ => []
def wipeE (σ : Env) : List Nat → Env
  | [] => σ
  | v :: vs => (wipeE σ vs).set v .no
/-- the names of a comprehension's block with their slots -/
def ownOf (N : List Str) (scope : Scope) : List (Str × Nat) := scope.names.filterMap fun (n, k) => match k with
  | .local => (ixOf n N).map fun i => (n, i)
  | .cell => (ixOf n N).map fun i => (n, i)
  | _ => none
def Res.noex {α : Type} : Res α → Res α
  | .ok a T => .ok a T
  | .ex _ _ => .bad
  | .bad => .bad
def lcLoop (tg : D → Env → Option Env) (tst : EM Bool) (el : EM D) (σ : Env) : List D → List D → Sto → Res (List D)
  | [], acc, T => .ok acc T
  | d :: ds, acc, T => match tg d σ with
    | none => .bad
    | some σ1 => (tst σ1 T).noex.bind fun b T1 => if b then (el σ1 T1).noex.bind fun y T2 => if decide (acc.length < 16777216) then lcLoop tg tst el σ ds (acc ++ [y]) T2 else .bad else lcLoop tg tst el σ ds acc T1
def ifsE (R : Dn) (F : Fi) : List Expr → EM Bool
  | [] => EM.pure true
  | [c] => R.tst F c
  | _ => EM.bad
def lcE (R : Dn) (F : Fi) (elt tg iter : Expr) (ifs : List Expr) (scope : Scope) : EM (D × Bool) :=
  if L2.blkC F.N F.sc scope (ownOf F.N scope) && (slotsT ⟨F.N, L2.relS scope F.sc, fun x => scope.names.lookup x == some .cell⟩ tg).all (fun i => (ownOf F.N scope).any fun p => p.2 == i) && notSet iter then
    EM.bind (itM (pE R) R F tg iter) fun items σ T =>
      (lcLoop (bindT ⟨F.N, L2.relS scope F.sc, fun x => scope.names.lookup x == some .cell⟩ tg) (ifsE R ⟨F.N, L2.relS scope F.sc, fun x => scope.names.lookup x == some .cell⟩ ifs) (vE R ⟨F.N, L2.relS scope F.sc, fun x => scope.names.lookup x == some .cell⟩ elt) (wipeE σ ((ownOf F.N scope).map (·.2))) items [] T).bind fun ds T1 => .ok (.lst ds, true) T1
  else EM.bad

/-- built-ins on values that are only looked at -/
def bltD (f : Str) (ds : List D) : Option (D × Bool) :=
  if f = ("abs" : Str) then (match ds with
    | [.int i] => some (.int (if i < 0 then -i else i), false)
    | _ => none)
  else if f = ("int" : Str) then (match ds with
    | [.int i] => some (.int i, false)
    | [.bl b] => some (.int (if b then 1 else 0), false)
    | _ => none)
  else if f = ("bool" : Str) then (match ds with
    | [.int i] => some (.bl (i != 0), false)
    | [.bl b] => some (.bl b, false)
    | _ => none)
  else if f = ("tuple" : Str) then (match ds with
    | [.lst xs] => some (.tup xs, false)
    | [.tup xs] => some (.tup xs, false)
    | _ => none)
  else if f = ("all" : Str) then (match ds with
    | [.lst xs] => (boolsOf xs).map fun bs => (.bl (bs.all id), false)
    | _ => none)
  else if f = ("any" : Str) then (match ds with
    | [.lst xs] => (boolsOf xs).map fun bs => (.bl (bs.any id), false)
    | _ => none)
  else if f = ("sum" : Str) then (match ds with
    | [.lst xs] => (intsOf xs).map fun ns => (.int ns.sum, false)
    | _ => none)
  else if f = ("sorted" : Str) then (match ds with
    | [.lst xs] => (sortD xs).map fun ys => (.lst ys, true)
    | _ => none)
  else none
def oneArg : List Str := ["abs", "int", "bool", "tuple", "all", "any", "sum", "sorted"]
/-- min, max of two ints -/
def blt2 (f : Str) (ds : List D) : Option D :=
  if f = ("min" : Str) then (match ds with
    | [.int i, .int j] => some (.int (if j < i then j else i))
    | _ => none)
  else if f = ("max" : Str) then (match ds with
    | [.int i, .int j] => some (.int (if j > i then j else i))
    | _ => none)
  else none
def twoArg : List Str := ["min", "max"]
def listM (d : D) : EM (D × Bool) := fun _ T => match d with
  | .lst xs => .ok (.lst xs, true) T
  | .tup xs => .ok (.lst xs, true) T
  | .obj n => (match T[n]? with
    | some (.frz xs) => .ok (.lst xs, true) T
    | _ => .bad)
  | _ => .bad
def callE (G : Gi) (C : CallT) (R : Dn) (F : Fi) (f : Str) (args : List Expr) : EM (D × Bool) :=
  if isGl F.sc f && !isDbg f then
    (if f ∈ G.fn then (match args with
      | [] => EM.bad
      | args => EM.bind (aE R F args) fun ds _ T => C f ds T)
    else if f = ("isinstance" : Str) then (match args with
      | [x, .Name t _] => if isGl F.sc t && !isDbg t && decide (t ∈ isiNames) && notStar x then EM.bind (pE R F x) fun d => if noObj d then EM.bind (EM.lift (isiD t d)) fun b => EM.pure (.bl b, false) else EM.bad else EM.bad
      | _ => EM.bad)
    else if f = ("len" : Str) then (match args with
      | [x] => if notStar x then EM.bind (pE R F x) fun d => EM.bind (lenM d) fun k => EM.pure (k, false) else EM.bad
      | _ => EM.bad)
    else if f = ("list" : Str) then (match args with
      | [.Call (.Name r _) [a] [] _] => if decide (r = ("range" : Str)) && isGl F.sc r && notStar a then EM.bind (vE R F a) fun d => match d with
          | .int j => if small62 j && decide (j ≤ 16777216) then EM.pure (.lst (rangeD 0 j.toNat), true) else EM.bad
          | _ => EM.bad
        else EM.bad
      | [x] => if notStar x then EM.bind (pE R F x) fun d => listM d else EM.bad
      | _ => EM.bad)
    else if f ∈ oneArg then (match args with
      | [x] => if notStar x then EM.bind (pE R F x) fun d => EM.lift (bltD f [d]) else EM.bad
      | _ => EM.bad)
    else if f ∈ twoArg then (match args with
      | [x, y] => EM.bind (aE R F [x, y]) fun ds => EM.bind (EM.lift (blt2 f ds)) fun d => EM.pure (d, false)
      | _ => EM.bad)
    else EM.bad)
  else EM.bad

def constD : Const → Option D
  | .none => some .non
  | .bool b => some (.bl b)
  | .int i => some (.int i)
  | .str s => some (.str s)
  | _ => none
def stepVal (G : Gi) (C : CallT) (R : Dn) (F : Fi) (e : Expr) : EM (D × Bool) := match e with
  | .Name x _ => if isDbg x then EM.bad else (match slot F x with
    | some i => vVar i
    | none => if isGl F.sc x then EM.bind (EM.lift (G.cst.lookup x)) fun d => EM.pure (d, false) else EM.bad)
  | .Constant c _ _ => EM.bind (EM.lift (constD c)) fun d => EM.pure (d, false)
  | .BinOp a op b _ => EM.bind (pE R F a) fun x => EM.bind (pE R F b) fun y => EM.bind (EM.lift (binD op x y)) fun d => EM.pure (d, isLst d)
  | .UnaryOp .USub a _ => EM.bind (vE R F a) fun x => match x with
    | .int i => EM.pure (.int (-i), false)
    | _ => EM.bad
  | .UnaryOp .Not a _ => EM.bind (pE R F a) fun x => EM.bind (EM.lift (truD x)) fun b => EM.pure (.bl (!b), false)
  | .BoolOp .And es _ => vAnd R F es
  | .BoolOp .Or es _ => vOr R F es
  | .Compare a [op] [b] _ => if notSet b then EM.bind (cM R F op a b) fun k => EM.pure (.bl k, false) else EM.bad
  | .Compare a [op, op2] [b, c] _ => if notSet c then EM.bind (c2M R F op op2 a b c) fun k => EM.pure (.bl k, false) else EM.bad
  | .IfExp c a b _ => EM.bind (R.tst F c) fun t => if t then R.val F a else R.val F b
  | .Tuple es _ _ => EM.bind (aE R F es) fun ds => if fits ds.length then EM.pure (.tup ds, false) else EM.bad
  | .List es _ => EM.bind (aE R F es) fun ds => if fits ds.length then EM.pure (.lst ds, true) else EM.bad
  | .Subscript a (.Slice lo hi none _) _ => EM.bind (pE R F a) fun x => EM.bind (oE R F lo) fun l => EM.bind (oE R F hi) fun h => EM.bind (EM.lift (sliceD x l h)) fun d => EM.pure (d, isLst d)
  | .Subscript a (.Slice none none (some (.UnaryOp .USub (.Constant (.int 1) _ _) _)) _) _ => EM.bind (pE R F a) fun x => EM.bind (EM.lift (backD x)) fun d => EM.pure (d, isLst d)
  | .Subscript a i _ => if notSlice i then EM.bind (pE R F a) fun x => EM.bind (vE R F i) fun j => EM.bind (itemM x j) fun d => EM.pure (d, false) else EM.bad
  | .ListComp elt [⟨tg, iter, ifs, 0⟩] scope _ => lcE R F elt tg iter ifs scope
  | .Call (.Name f _) args [] _ => callE G C R F f args
  | _ => EM.bad
def stepTst (G : Gi) (C : CallT) (R : Dn) (F : Fi) (e : Expr) : EM Bool := match e with
  | .BoolOp .And es _ => tAll R F es
  | .BoolOp .Or es _ => tAny R F es
  | .UnaryOp .Not a _ => EM.bind (R.tst F a) fun b => EM.pure (!b)
  | .Compare a [op] [b] _ => if notSet b then cM R F op a b else EM.bad
  | .Compare a [op, op2] [b, c] _ => if notSet c then c2M R F op op2 a b c else EM.bad
  | .Compare _ _ _ _ => EM.bad
  | .IfExp _ _ _ _ => EM.bad
  | .UnaryOp _ _ _ => EM.bad
  | e => EM.bind (pE R F e) fun x => EM.lift (truD x)
def dn (G : Gi) (C : CallT) : Nat → Dn
  | 0 => ⟨fun _ _ => EM.bad, fun _ _ => EM.bad⟩
  | n + 1 => ⟨stepVal G C (dn G C n), stepTst G C (dn G C n)⟩
end Mi
namespace Mi
open PySem
/-! ### statements -/
inductive RS where
  | nx (σ : Env) (T : Sto) | rt (d : D) (b : Bool) (T : Sto) | bk (σ : Env) (T : Sto) | ct (σ : Env) (T : Sto) | ex (x : Xn) (σ : Env) (T : Sto) | bad
abbrev SM := Env → Sto → RS
def Res.then_ {α : Type} (r : Res α) (σ : Env) (f : α → Sto → RS) : RS := match r with
  | .ok a T => f a T
  | .ex x T => .ex x σ T
  | .bad => .bad
def RS.seq (r : RS) (f : Env → Sto → RS) : RS := match r with
  | .nx σ T => f σ T
  | r => r
def frzS : Sl → Sl
  | .ow d => .fz d
  | s => s
/-- the named owned lists frozen -/
def frzNs (F : Fi) : List Str → Env → Env
  | [], σ => σ
  | x :: xs, σ => match slot F x with
    | some i => (match σ[i]? with
      | some s => frzNs F xs (σ.set i (frzS s))
      | none => frzNs F xs σ)
    | none => frzNs F xs σ
def frzE (G : Gi) (F : Fi) (l : Nat) (σ : Env) : Env := match G.frz.lookup l with
  | some xs => frzNs F xs σ
  | none => σ
/-- what a name gets; a name of G.ref gets a new store object -/
def put (G : Gi) (i : Nat) (x : Str) (d : D) (fl : Bool) : SM := fun σ T => if x ∈ G.ref then (match d, fl with
      | .lst ds, true => .nx (σ.set i (.fz (.obj T.length))) (T ++ [.lst ds])
      | _, _ => .bad)
    else .nx (σ.set i (if fl then .ow d else .fz d)) T
def withL (F : Fi) (x : Str) (f : Nat → SM) : SM := match slotL F x with
  | some i => f i
  | none => fun _ _ => .bad
def withS (F : Fi) (x : Str) (f : Nat → SM) : SM := match slot F x with
  | some i => f i
  | none => fun _ _ => .bad
/-- list methods that change an owned list -/
def mutD (m : Str) (xs : List D) (ds : List D) : Option (List D × D) :=
  if m = ("append" : Str) then (match ds with
    | [d] => if decide (xs.length < 16777216) then some (xs ++ [d], .non) else none
    | _ => none)
  else if m = ("extend" : Str) then (match ds with
    | [.lst ys] => if fits (xs.length + ys.length) then some (xs ++ ys, .non) else none
    | _ => none)
  else if m = ("pop" : Str) then (match ds with
    | [] => (match xs.getLast? with
      | some d => some (xs.dropLast, d)
      | none => none)
    | [.int i] => if small62 i then (ixD xs.length i).bind fun k => (xs[k]?).map fun d => (xs.eraseIdx k, d) else none
    | _ => none)
  else none
/-- y.m(ds), y an owned list -/
def mutV (F : Fi) (y m : Str) (ds : List D) (k : D → SM) : SM := fun σ T => match slot F y with
  | none => .bad
  | some i => (match σ[i]? with
    | some (.ow (.lst xs)) => (match mutD m xs ds with
      | some (ys, r) => k r (σ.set i (.ow (.lst ys))) T
      | none => .bad)
    | _ => .bad)
def isOw (F : Fi) (y : Str) (σ : Env) : Bool := match slot F y with
  | none => false
  | some i => (match σ[i]? with
    | some (.ow (.lst _)) => true
    | _ => false)
def mutM (R : Dn) (F : Fi) (y m : Str) (args : List Expr) (k : D → SM) : SM := fun σ T => if isOw F y σ then
    (if m = ("extend" : Str) then (match args with
      | [a] => (pE R F a σ T).then_ σ fun d T1 => mutV F y m [d] k σ T1
      | _ => .bad)
    else (aE R F args σ T).then_ σ fun ds T1 => mutV F y m ds k σ T1) else .bad
def isMut (m : Str) : Bool := decide (m = ("append" : Str)) || decide (m = ("extend" : Str)) || decide (m = ("pop" : Str))
def mutOk (y m : Str) (args : List Expr) (ap cp : Pos) : Bool := isMut m && !isDbg y && (ap.endLine == cp.line) && args.all notStar && decide (args.length < 30)
def isHere (k : Nat) (σ : Env) : Bool := match σ[k]? with
  | some (.ow _) => true
  | some (.fz _) => true
  | _ => false
/-- x[i] = d, x an owned list or a store object -/
def setM (k : Nat) (i d : D) : SM := fun σ T => match σ[k]? with
    | some (.ow (.lst xs)) => (match i with
      | .int j => (match ixD xs.length j with
        | some p => .nx (σ.set k (.ow (.lst (xs.set p d)))) T
        | none => .bad)
      | _ => .bad)
    | some (.fz (.obj n)) => (match T[n]?, i with
      | some (.lst xs), .int j => (match ixD xs.length j with
        | some p => .nx σ (T.set n (.lst (xs.set p d)))
        | none => .bad)
      | _, _ => .bad)
    | _ => .bad
def augD : Operator → D → D → Option D
  | .Add, .int i, .int j => some (.int (i + j))
  | .Add, .str x, .str y => if fits (x.length + y.length) then some (.str (x ++ y)) else none
  | .Sub, .int i, .int j => some (.int (i - j))
  | .Mult, .int i, .int j => if decide (-(18446744073709551616) < j) && decide (j < 18446744073709551616) then some (.int (i * j)) else none
  | _, _, _ => none
/-- exceptions by class: what raise X(..) makes, args looked at -/
structure Ei where
  mkX : Str → List D → Option Xn
  has : Str → Nat → Bool
def forLoop (tg : D → Env → Option Env) (body : SM) : List D → SM
  | [], σ, T => .nx σ T
  | d :: ds, σ, T => match tg d σ with
    | none => .bad
    | some σ1 => (match body σ1 T with
      | .nx σ2 T2 => forLoop tg body ds σ2 T2
      | .ct σ2 T2 => forLoop tg body ds σ2 T2
      | .bk σ2 T2 => .nx σ2 T2
      | .rt d b T2 => .rt d b T2
      | .ex x σ2 T2 => .ex x σ2 T2
      | .bad => .bad)
def whileLoop (c : EM Bool) (body : SM) : Nat → SM
  | 0, _, _ => .bad
  | n + 1, σ, T => (c σ T).then_ σ fun b T1 => if b then (match body σ T1 with
      | .nx σ2 T2 => whileLoop c body n σ2 T2
      | .ct σ2 T2 => whileLoop c body n σ2 T2
      | .bk σ2 T2 => .nx σ2 T2
      | .rt d b T2 => .rt d b T2
      | .ex x σ2 T2 => .ex x σ2 T2
      | .bad => .bad) else .nx σ T1
def loopFuel : Nat := 1000000000
/-- may the statement be run by a store into that target by itself -/
def notLc : Expr → Bool
  | .ListComp _ _ _ _ => false
  | .SetComp _ _ _ _ => false
  | .DictComp _ _ _ _ _ => false
  | _ => true
def notTup : Expr → Bool
  | .Tuple _ _ _ => false
  | _ => true
def bindM (F : Fi) (tg : Expr) (d : D) : SM := fun σ T => match bindT F tg d σ with
  | some σ1 => .nx σ1 T
  | none => .bad
def stepStm (G : Gi) (EI : Ei) (C : CallT) (R : Dn) (X : List Stmt → Fi → SM) (F : Fi) (st : Stmt) : SM := match st with
  | .Pass _ => fun σ T => .nx σ T
  | .Break _ => fun σ T => .bk σ T
  | .Continue _ => fun σ T => .ct σ T
  | .Return none _ => fun _ T => .rt .non false T
  | .Return (some (.Name x p)) _ => if isDbg x then (fun _ _ => .bad) else (match slot F x with
    | some i => fun σ T => (match σ[i]? with
      | some (.fz d) => .rt d false T
      | some (.ow d) => .rt d true T
      | _ => .bad)
    | none => fun σ T => (R.val F (.Name x p) σ T).then_ σ fun d T1 => .rt d.1 d.2 T1)
  | .Return (some e) pos => fun σ T => (R.val F e σ T).then_ σ fun d T1 => .rt d.1 d.2 T1
  | .Assign [.Name x py] (.ListComp elt gs scope p) pos => withL F x fun i σ T => (R.val F (.ListComp elt gs scope p) σ T).then_ σ fun d T1 => put G i x d.1 d.2 σ T1
  | .Assign [.Name x _] (.Call (.Attribute (.Name y _) m ap) args [] cp) _ => if mutOk y m args ap cp then withL F x fun i => mutM R F y m args fun r σ T => put G i x r false σ T else fun _ _ => .bad
  | .Assign [.Name x _] e _ => if notLc e then withL F x fun i σ T => (R.val F e σ T).then_ σ fun d T1 => put G i x d.1 d.2 σ T1 else fun _ _ => .bad
  | .Assign [.Tuple ts k p] (.Call (.Attribute (.Name y _) m ap) args [] cp) _ => if mutOk y m args ap cp then mutM R F y m args fun r σ T => bindM F (.Tuple ts k p) r σ T else fun _ _ => .bad
  | .Assign [.Tuple ts k p] e _ => if notLc e && notTup e then fun σ T => (vE R F e σ T).then_ σ fun d T1 => bindM F (.Tuple ts k p) d σ T1 else fun _ _ => .bad
  | .Assign [.Subscript (.Name x _) i _] e _ => if notLc e && notTup e && notSlice i && !isDbg x then withS F x fun k σ T => if isHere k σ then (vE R F e σ T).then_ σ fun d T1 => (vE R F i σ T1).then_ σ fun j T2 => setM k j d σ T2 else .bad else fun _ _ => .bad
  | .AugAssign (.Name x _) op e _ => if isDbg x then (fun _ _ => .bad) else (match slotL F x with
    | some i => fun σ T => (match σ[i]? with
      | some (.fz d) => (vE R F e σ T).then_ σ fun y T1 => (match augD op d y with
        | some z => .nx (σ.set i (.fz z)) T1
        | none => .bad)
      | _ => .bad)
    | none => fun _ _ => .bad)
  | .Expr (.Constant (.str _) _ _) _ => fun σ T => .nx σ T
  | .Expr (.Call (.Attribute (.Name y _) m ap) [.Call (.Attribute (.Name z _) m2 ap2) args [] cp2] [] cp) _ =>
    if mutOk z m2 args ap2 cp2 && mutOk y m [] ap cp && decide (m = ("append" : Str)) then fun σ T => if isOw F y σ then mutM R F z m2 args (fun r σ1 T1 => mutV F y m [r] (fun _ σ T => .nx σ T) σ1 T1) σ T else .bad else fun _ _ => .bad
  | .Expr (.Call (.Attribute (.Name y _) m ap) args [] cp) _ => if mutOk y m args ap cp then mutM R F y m args fun _ σ T => .nx σ T else fun _ _ => .bad
  | .Expr (.Call (.Name f p0) args [] p) _ => fun σ T => (R.val F (.Call (.Name f p0) args [] p) σ T).then_ σ fun _ T1 => .nx σ T1
  | .If c a b _ => fun σ T => (R.tst F c σ T).then_ σ fun k T1 => if k then X a F σ T1 else X b F σ T1
  | .While c body [] _ => whileLoop (R.tst F c) (X body F) loopFuel
  | .For tg iter body [] _ => if notSet iter then fun σ T => (itM (vE R) R F tg iter σ T).then_ σ fun ds T1 => forLoop (bindT F tg) (X body F) ds σ T1 else fun _ _ => .bad
  | .Raise (some (.Call (.Name x _) args [] _)) none _ => if isGl F.sc x && !isDbg x && EI.has x args.length then fun σ T => (aE R F args σ T).then_ σ fun ds T1 => (match EI.mkX x ds with
      | some e => .ex e σ T1
      | none => .bad) else fun _ _ => .bad
  | _ => fun _ _ => .bad
def stmsBy (S : Fi → Stmt → SM) : List Stmt → Fi → SM
  | [], _ => fun σ T => .nx σ T
  | st :: r, F => fun σ T => (S F st σ T).seq (stmsBy S r F)
/-- E: statements that are run by a law's own rule (try) -/
abbrev ExtT := CallT → Dn → Fi → Stmt → Option SM
def sn (G : Gi) (EI : Ei) (U : ExtT) (C : CallT) (M : Nat) : Nat → Fi → Stmt → SM
  | 0, _, _ => fun _ _ => .bad
  | n + 1, F, st => fun σ T => (match U C (dn G C M) F st with
    | some m => m
    | none => stepStm G EI C (dn G C M) (stmsBy (sn G EI U C M n)) F st) (frzE G F st.pos.line σ) T
/-- a def: its names (parameters first), the number of its parameters, its scope, its body -/
structure Df where
  N : List Str
  np : Nat
  sc : Scope
  body : List Stmt
def startE (d : Df) (ds : List D) : Env := ds.map .fz ++ List.replicate (d.N.length - ds.length) .no
def runDf (G : Gi) (EI : Ei) (U : ExtT) (C : CallT) (M L : Nat) (d : Df) (ds : List D) (T : Sto) : Res (D × Bool) :=
  if ds.length = d.np then (match stmsBy (sn G EI U C M L) d.body ⟨d.N, d.sc, fun _ => true⟩ (startE d ds) T with
    | .nx _ T => .ok (.non, false) T
    | .rt d b T => .ok (d, b) T
    | .ex x _ T => .ex x T
    | _ => .bad) else .bad
/-- all defs of the module, n calls deep -/
def callN (G : Gi) (EI : Ei) (U : ExtT) (M L : Nat) (tab : List (Str × Df)) : Nat → CallT
  | 0 => fun _ _ _ => .bad
  | n + 1 => fun f ds T => match tab.lookup f with
    | some d => runDf G EI U (callN G EI U M L tab n) M L d ds T
    | none => .bad
end Mi


set_option Elab.async false
set_option linter.all false
set_option maxRecDepth 100000
/-! MiC: how data lie in the abstract heap; what an evaluation may change; readings. -/
namespace Mi
open PySem PySem.Spec PyProof.Rows L2

/-! ### data in the heap: G is the part of the heap that nobody changes any more, rho the store objects' addresses -/
mutual
inductive Rp (K : PySem.W.Frag) (ρ : List Addr) (G : Hp) : V → D → Prop
  | non : Rp K ρ G .non .non
  | bl (b : Bool) : Rp K ρ G (.bl b) (.bl b)
  | int (i : Int) : Rp K ρ G (.int i) (.int i)
  | str (s : Str) : Rp K ρ G (.str s) (.str s)
  | tup {a : Addr} {vs : List V} {ds : List D} : SqT K G a vs → Rps K ρ G vs ds → Rp K ρ G (.ref a) (.tup ds)
  | lst {a : Addr} {vs : List V} {ds : List D} : G a = some (.lst vs) → Rps K ρ G vs ds → Rp K ρ G (.ref a) (.lst ds)
  | obj {a : Addr} {n : Nat} : ρ[n]? = some a → Rp K ρ G (.ref a) (.obj n)
inductive Rps (K : PySem.W.Frag) (ρ : List Addr) (G : Hp) : List V → List D → Prop
  | nil : Rps K ρ G [] []
  | cons {v : V} {vs : List V} {d : D} {ds : List D} : Rp K ρ G v d → Rps K ρ G vs ds → Rps K ρ G (v :: vs) (d :: ds)
end
abbrev Sub (G H : Hp) : Prop := ∀ a o, G a = some o → H a = some o
abbrev Pre (ρ ρ' : List Addr) : Prop := ∀ (n : Nat) (a : Addr), ρ[n]? = some a → ρ'[n]? = some a
theorem Rd.sub {G H : Hp} (s : Sub G H) {a : Addr} {u : HO} (h : Rd G a u) : Rd H a u := by
  rcases h with h | ⟨o, h⟩
  · exact .inl (s _ _ h)
  · exact .inr ⟨o, s _ _ h⟩
theorem SqT.sub {K : PySem.W.Frag} {G H : Hp} (s : Sub G H) {a : Addr} {vs : List V} (h : SqT K G a vs) : SqT K H a vs := by
  rcases h with h | h
  · exact .inl (Rd.sub s h)
  · exact .inr h
section
variable {K : PySem.W.Frag} {ρ ρ' : List Addr} {G G' H : Hp}
mutual
theorem Rp.mono (s : Sub G G') (p : Pre ρ ρ') : ∀ (d : D) (v : V), Rp K ρ G v d → Rp K ρ' G' v d
  | .non, _, h => by cases h; exact .non
  | .bl b, _, h => by cases h; exact .bl b
  | .int i, _, h => by cases h; exact .int i
  | .str x, _, h => by cases h; exact .str x
  | .tup ds, _, h => by
    cases h with
    | tup q r => exact .tup (SqT.sub s q) (Rps.mono s p ds _ r)
  | .lst ds, _, h => by
    cases h with
    | lst q r => exact .lst (s _ _ q) (Rps.mono s p ds _ r)
  | .dct _, _, h => by cases h
  | .obj n, _, h => by
    cases h with
    | obj q => exact .obj (p _ _ q)
theorem Rps.mono (s : Sub G G') (p : Pre ρ ρ') : ∀ (ds : List D) (vs : List V), Rps K ρ G vs ds → Rps K ρ' G' vs ds
  | [], _, h => by cases h; exact .nil
  | d :: ds, _, h => by
    cases h with
    | cons q r => exact .cons (Rp.mono s p d _ q) (Rps.mono s p ds _ r)
end
theorem Rps.length : ∀ {vs : List V} {ds : List D}, Rps K ρ G vs ds → vs.length = ds.length
  | _, _, .nil => rfl
  | _, _, .cons _ r => by rw [List.length_cons, List.length_cons, Rps.length r]
theorem Rps.get : ∀ {vs : List V} {ds : List D} {i : Nat} {d : D}, Rps K ρ G vs ds → ds[i]? = some d → ∃ v, vs[i]? = some v ∧ Rp K ρ G v d
  | _, _, _, _, .nil, e => by simp at e
  | _, _, 0, _, .cons q _, e => by simp at e; subst e; exact ⟨_, rfl, q⟩
  | _, _, i + 1, d, .cons _ r, e => by
    obtain ⟨v, h1, h2⟩ := Rps.get (i := i) (d := d) r (by simpa using e)
    exact ⟨v, by simpa using h1, h2⟩
theorem Rps.app : ∀ {vs ws : List V} {ds es : List D}, Rps K ρ G vs ds → Rps K ρ G ws es → Rps K ρ G (vs ++ ws) (ds ++ es)
  | _, _, _, _, .nil, s => s
  | _, _, _, _, .cons q r, s => .cons q (Rps.app r s)
theorem Rps.one {v : V} {d : D} (h : Rp K ρ G v d) : Rps K ρ G [v] [d] := .cons h .nil
theorem Rps.take : ∀ {vs : List V} {ds : List D} (n : Nat), Rps K ρ G vs ds → Rps K ρ G (vs.take n) (ds.take n)
  | _, _, 0, _ => .nil
  | _, _, _ + 1, .nil => .nil
  | _, _, n + 1, .cons q r => .cons q (Rps.take n r)
theorem Rps.drop : ∀ {vs : List V} {ds : List D} (n : Nat), Rps K ρ G vs ds → Rps K ρ G (vs.drop n) (ds.drop n)
  | _, _, 0, r => r
  | _, _, _ + 1, .nil => .nil
  | _, _, n + 1, .cons _ r => Rps.drop n r
theorem Rps.set {v : V} {d : D} (h : Rp K ρ G v d) : ∀ {vs : List V} {ds : List D} (n : Nat), Rps K ρ G vs ds → Rps K ρ G (vs.set n v) (ds.set n d)
  | _, _, _, .nil => .nil
  | _, _, 0, .cons _ r => .cons h r
  | _, _, n + 1, .cons q r => .cons q (Rps.set h n r)
theorem Rps.erase : ∀ {vs : List V} {ds : List D} (n : Nat), Rps K ρ G vs ds → Rps K ρ G (vs.eraseIdx n) (ds.eraseIdx n)
  | _, _, _, .nil => .nil
  | _, _, 0, .cons _ r => r
  | _, _, n + 1, .cons q r => .cons q (Rps.erase n r)
theorem Rps.rev {vs : List V} {ds : List D} (h : Rps K ρ G vs ds) : Rps K ρ G vs.reverse ds.reverse := by
  induction ds generalizing vs with
  | nil => cases h; exact .nil
  | cons d ds ih =>
    cases h with
    | cons q r =>
      rw [List.reverse_cons, List.reverse_cons]
      exact (ih r).app (.one q)
theorem Rps.dropLast {vs : List V} {ds : List D} (h : Rps K ρ G vs ds) : Rps K ρ G vs.dropLast ds.dropLast := by
  rw [List.dropLast_eq_take, List.dropLast_eq_take, h.length]
  exact h.take _
theorem Rps.rep {vs : List V} {ds : List D} (h : Rps K ρ G vs ds) : ∀ n : Nat, Rps K ρ G (List.replicate n vs).flatten (Mi.rep n ds)
  | 0 => .nil
  | n + 1 => by
    have q := h.app (Rps.rep h n)
    unfold Mi.rep
    rw [List.replicate_succ, List.replicate_succ, List.flatten_cons, List.flatten_cons]
    exact q
theorem Rps.cut {vs : List V} {ds : List D} (h : Rps K ρ G vs ds) (lo hi : Option Int) : Rps K ρ G (cutL vs lo hi) (cutL ds lo hi) := by
  unfold cutL
  rw [h.length]
  exact (h.drop _).take _
theorem Rps.ints : ∀ {ns : List Int}, Rps K ρ G (ns.map V.int) (ns.map D.int)
  | [] => .nil
  | n :: ns => .cons (.int n) Rps.ints
theorem Rps.of_ints : ∀ {ds : List D} {vs : List V} {ns : List Int}, Rps K ρ G vs ds → intsOf ds = some ns → vs = ns.map V.int
  | [], _, ns, h, e => by cases h; simp [intsOf] at e; subst e; rfl
  | d :: ds, _, ns, h, e => by
    cases h with
    | cons q r =>
      cases d <;> first | (simp [intsOf] at e; done) | skip
      rename_i i
      cases q
      unfold intsOf at e
      cases e2 : intsOf ds with
      | none => rw [e2] at e; cases e
      | some ms =>
        rw [e2] at e
        have e3 : i :: ms = ns := by simpa using e
        rw [← e3, Rps.of_ints r e2]
        rfl
theorem Rps.of_bools : ∀ {ds : List D} {vs : List V} {bs : List Bool}, Rps K ρ G vs ds → boolsOf ds = some bs → vs = bs.map V.bl
  | [], _, ns, h, e => by cases h; simp [boolsOf] at e; subst e; rfl
  | d :: ds, _, ns, h, e => by
    cases h with
    | cons q r =>
      cases d <;> first | (simp [boolsOf] at e; done) | skip
      rename_i i
      cases q
      unfold boolsOf at e
      cases e2 : boolsOf ds with
      | none => rw [e2] at e; cases e
      | some ms =>
        rw [e2] at e
        have e3 : i :: ms = ns := by simpa using e
        rw [← e3, Rps.of_bools r e2]
        rfl
end

/-- only looked at: frozen, or a list that stands there by itself -/
def PRel (K : PySem.W.Frag) (ρ : List Addr) (G H : Hp) (v : V) (d : D) : Prop :=
  Rp K ρ G v d ∨ ∃ (a : Addr) (vs : List V) (ds : List D), v = .ref a ∧ d = .lst ds ∧ H a = some (.lst vs) ∧ Rps K ρ G vs ds ∧ a ∉ ρ
def ObR (K : PySem.W.Frag) (ρ : List Addr) (G : Hp) : Ob → Option HO → Prop
  | .lst ds, h => ∃ vs, h = some (.lst vs) ∧ Rps K ρ G vs ds
  | .frz ds, h => ∃ o vs, h = some (.frz o (.lst vs)) ∧ Rps K ρ G vs ds
  | .ins _ _, _ => False
def isFrz : HO → Prop
  | .frz _ _ => True
  | _ => False
structure Wd (K : PySem.W.Frag) (ρ : List Addr) (G H : Hp) (T : Sto) : Prop where
  sub : Sub G H
  len : ρ.length = T.length
  sto : ∀ (n : Nat) (ob : Ob), T[n]? = some ob → ∃ a, ρ[n]? = some a ∧ ObR K ρ G ob (H a)
  nd : ρ.Nodup
  dj : ∀ a ∈ ρ, G a = none
structure Tr (ρ : List Addr) (G H : Hp) (ρ' : List Addr) (G' H' : Hp) : Prop where
  pre : Pre ρ ρ'
  rnew : ∀ a ∈ ρ', a ∈ ρ ∨ H a = none
  gsub : Sub G G'
  gnew : ∀ a, G' a ≠ none → G a ≠ none ∨ H a = none
  keep : ∀ a o, H a = some o → (a ∉ ρ ∨ isFrz o) → H' a = some o
section
variable {K : PySem.W.Frag} {ρ ρ' ρ1 ρ2 : List Addr} {G G' G1 G2 H H' H1 H2 : Hp} {T T' : Sto} {v : V} {d : D}
theorem Tr.refl : Tr ρ G H ρ G H := ⟨fun _ _ e => e, fun _ h => .inl h, fun _ _ e => e, fun _ h => .inl h, fun _ _ e _ => e⟩
theorem Pre.mem (p : Pre ρ ρ') {a : Addr} (h : a ∈ ρ) : a ∈ ρ' := by
  obtain ⟨n, hn⟩ := List.mem_iff_getElem?.mp h
  exact List.mem_of_getElem? (p n a hn)
/-- what is free behind was free ahead -/
theorem Tr.back (t : Tr ρ G H ρ1 G1 H1) {a : Addr} (h : H1 a = none) : a ∈ ρ ∨ H a = none := by
  cases e : H a with
  | none => exact .inr rfl
  | some o =>
    by_cases hr : a ∈ ρ
    · exact .inl hr
    · have := t.keep a o e (.inl hr)
      rw [h] at this
      cases this
theorem Wd.at (w : Wd K ρ G H T) {a : Addr} (h : a ∈ ρ) : H a ≠ none := by
  obtain ⟨n, hn⟩ := List.mem_iff_getElem?.mp h
  have hlt : n < T.length := by
    rw [← w.len]
    exact (List.getElem?_eq_some_iff.mp hn).1
  obtain ⟨b, hb, r⟩ := w.sto n _ (List.getElem?_eq_getElem hlt)
  rw [hn] at hb
  cases hb
  intro e
  rw [e] at r
  cases hT : T[n] with
  | lst ds => rw [hT] at r; obtain ⟨_, z, _⟩ := r; cases z
  | frz ds => rw [hT] at r; obtain ⟨_, _, z, _⟩ := r; cases z
  | ins C fs => rw [hT] at r; exact r
theorem Tr.trans (t : Tr ρ G H ρ1 G1 H1) (w1 : Wd K ρ1 G1 H1 T) (u : Tr ρ1 G1 H1 ρ2 G2 H2) (w2 : Wd K ρ2 G2 H2 T') : Tr ρ G H ρ2 G2 H2 := by
  have bk : ∀ a, H1 a = none → H a = none := fun a h => by
    rcases t.back h with hr | hr
    · exact absurd h (w1.at (t.pre.mem hr))
    · exact hr
  refine ⟨fun n a e => u.pre n a (t.pre n a e), fun a h => ?_, fun a o e => u.gsub a o (t.gsub a o e), fun a h => ?_, fun a o e h => ?_⟩
  · rcases u.rnew a h with h | h
    · exact t.rnew a h
    · exact .inr (bk a h)
  · rcases u.gnew a h with h | h
    · exact t.gnew a h
    · exact .inr (bk a h)
  · have q := t.keep a o e h
    refine u.keep a o q ?_
    rcases h with h | h
    · refine .inl fun h1 => ?_
      rcases t.rnew a h1 with z | z
      · exact h z
      · rw [e] at z; cases z
    · exact .inr h
theorem Tr.new (t : Tr ρ G H ρ1 G1 H1) (w1 : Wd K ρ1 G1 H1 T) {p : Addr} (hp : H1 p = none) (o : HO) : Tr ρ G H ρ1 G1 (upd H1 p o) := by
  refine ⟨t.pre, t.rnew, t.gsub, t.gnew, fun a o' e h => ?_⟩
  have q := t.keep a o' e h
  rw [upd_ne (ne_of_none q hp)]
  exact q
theorem Rp.tr (t : Tr ρ G H ρ1 G1 H1) (h : Rp K ρ G v d) : Rp K ρ1 G1 v d := Rp.mono t.gsub t.pre _ _ h
theorem Rps.tr (t : Tr ρ G H ρ1 G1 H1) {vs : List V} {ds : List D} (h : Rps K ρ G vs ds) : Rps K ρ1 G1 vs ds := Rps.mono t.gsub t.pre _ _ h
theorem PRel.tr (t : Tr ρ G H ρ1 G1 H1) (h : PRel K ρ G H v d) : PRel K ρ1 G1 H1 v d := by
  rcases h with h | ⟨a, vs, ds, e1, e2, ha, r, n⟩
  · exact .inl (h.tr t)
  · refine .inr ⟨a, vs, ds, e1, e2, t.keep _ _ ha (.inl n), r.tr t, fun z => ?_⟩
    rcases t.rnew a z with z | z
    · exact n z
    · rw [ha] at z; cases z
theorem ObR.mono (s : Sub G G') (p : Pre ρ ρ') {ob : Ob} {h : Option HO} (r : ObR K ρ G ob h) : ObR K ρ' G' ob h := by
  cases ob with
  | lst ds => obtain ⟨vs, e, q⟩ := r; exact ⟨vs, e, Rps.mono s p _ _ q⟩
  | frz ds => obtain ⟨o, vs, e, q⟩ := r; exact ⟨o, vs, e, Rps.mono s p _ _ q⟩
  | ins C fs => exact r
/-- a new object that is not frozen -/
theorem Wd.new (w : Wd K ρ G H T) {p : Addr} (hp : H p = none) (o : HO) : Wd K ρ G (upd H p o) T := by
  refine ⟨fun a u e => ?_, w.len, fun n ob e => ?_, w.nd, w.dj⟩
  · have q := w.sub a u e
    rw [upd_ne (ne_of_none q hp)]
    exact q
  · obtain ⟨a, ha, r⟩ := w.sto n ob e
    refine ⟨a, ha, ?_⟩
    have : a ≠ p := fun z => w.at (List.mem_of_getElem? ha) (by rw [z]; exact hp)
    rw [upd_ne this]
    exact r
/-- an object that stands by itself is frozen -/
theorem Wd.frz (w : Wd K ρ G H T) {p : Addr} {o : HO} (hp : H p = some o) (n : p ∉ ρ) (g : G p = none) : Wd K ρ (upd G p o) H T := by
  have s : Sub G (upd G p o) := fun a u e => by
    rw [upd_ne (ne_of_none e g)]
    exact e
  refine ⟨fun a u e => ?_, w.len, fun n ob e => ?_, w.nd, fun a h => ?_⟩
  · by_cases hb : a = p
    · rw [hb, upd_same] at e
      cases e
      rw [hb]
      exact hp
    · rw [upd_ne hb] at e
      exact w.sub a u e
  · obtain ⟨a, ha, r⟩ := w.sto n ob e
    exact ⟨a, ha, r.mono s fun _ _ e => e⟩
  · have : a ≠ p := fun z => n (z ▸ h)
    rw [upd_ne this]
    exact w.dj a h
theorem Tr.frz (t : Tr ρ G H ρ1 G1 H1) {p : Addr} (o : HO) (g1 : G1 p = none) (h0 : H p = none) : Tr ρ G H ρ1 (upd G1 p o) H1 := by
  refine ⟨t.pre, t.rnew, fun a u e => ?_, fun a h => ?_, t.keep⟩
  · have q := t.gsub a u e
    rw [upd_ne (ne_of_none q g1)]
    exact q
  · by_cases hb : a = p
    · rw [hb]; exact .inr h0
    · rw [upd_ne hb] at h
      exact t.gnew a h
theorem sub_frz {p : Addr} (o : HO) (g : G p = none) : Sub G (upd G p o) := fun a u e => by
  rw [upd_ne (ne_of_none e g)]
  exact e
/-- nothing free is frozen or a store object -/
theorem Wd.gfree (w : Wd K ρ G H T) {p : Addr} (hp : H p = none) : G p = none := by
  cases e : G p with
  | none => rfl
  | some o => rw [w.sub _ _ e] at hp; cases hp
theorem Wd.rfree (w : Wd K ρ G H T) {p : Addr} (hp : H p = none) : p ∉ ρ := fun h => w.at h hp
theorem Tr.hfree (t : Tr ρ G H ρ1 G1 H1) (w1 : Wd K ρ1 G1 H1 T) {p : Addr} (hp : H1 p = none) : H p = none := by
  rcases t.back hp with hr | hr
  · exact absurd (t.pre.mem hr) (w1.rfree hp)
  · exact hr
end

/-! ### a frame's names -/
def SloR (K : PySem.W.Frag) (ρ : List Addr) (G H : Hp) (s : Sl) (v : Option V) : Prop := match s with
  | .no => True
  | .fz d => ∃ x, v = some x ∧ Rp K ρ G x d
  | .ow d => ∃ (a : Addr) (vs : List V) (ds : List D), v = some (.ref a) ∧ d = .lst ds ∧ H a = some (.lst vs) ∧ Rps K ρ G vs ds ∧ a ∉ ρ ∧ G a = none
structure EnvR (K : PySem.W.Frag) (ρ : List Addr) (G H : Hp) (σ : Env) (σv : L2.St) : Prop where
  len : σ.length = σv.length
  at_ : ∀ (i : Nat) (s : Sl) (v : Option V), σ[i]? = some s → σv[i]? = some v → SloR K ρ G H s v
  dist : ∀ (i j : Nat) (d e : D) (a : Addr), σ[i]? = some (.ow d) → σ[j]? = some (.ow e) → σv[i]? = some (some (V.ref a)) → σv[j]? = some (some (V.ref a)) → i = j
section
variable {K : PySem.W.Frag} {ρ ρ1 : List Addr} {G G1 H H1 : Hp} {T T1 : Sto} {σ : Env} {σv : L2.St}
theorem SloR.tr (t : Tr ρ G H ρ1 G1 H1) {s : Sl} {v : Option V} (h : SloR K ρ G H s v) : SloR K ρ1 G1 H1 s v := by
  cases s with
  | no => trivial
  | fz d => obtain ⟨x, e, r⟩ := h; exact ⟨x, e, r.tr t⟩
  | ow d =>
    obtain ⟨a, vs, ds, e1, e2, ha, r, n, g⟩ := h
    refine ⟨a, vs, ds, e1, e2, t.keep _ _ ha (.inl n), r.tr t, fun z => ?_, ?_⟩
    · rcases t.rnew a z with z | z
      · exact n z
      · rw [ha] at z; cases z
    · cases q : G1 a with
      | none => rfl
      | some o =>
        rcases t.gnew a (by rw [q]; exact fun z => nomatch z) with z | z
        · exact absurd g z
        · rw [ha] at z; cases z
theorem EnvR.tr (t : Tr ρ G H ρ1 G1 H1) (h : EnvR K ρ G H σ σv) : EnvR K ρ1 G1 H1 σ σv :=
  ⟨h.len, fun i s v e1 e2 => (h.at_ i s v e1 e2).tr t, h.dist⟩
theorem EnvR.look (h : EnvR K ρ G H σ σv) {i : Nat} {s : Sl} (e : σ[i]? = some s) : ∃ v, σv[i]? = some v ∧ SloR K ρ G H s v := by
  have hi : i < σv.length := by
    rw [← h.len]
    exact (List.getElem?_eq_some_iff.mp e).1
  exact ⟨_, List.getElem?_eq_getElem hi, h.at_ i s _ e (List.getElem?_eq_getElem hi)⟩
theorem EnvR.fz (h : EnvR K ρ G H σ σv) {i : Nat} {d : D} (e : σ[i]? = some (.fz d)) : ∃ x, σv[i]? = some (some x) ∧ Rp K ρ G x d := by
  obtain ⟨v, e2, x, rfl, r⟩ := h.look e
  exact ⟨x, e2, r⟩
end
end Mi


set_option Elab.async false
set_option linter.all false
set_option maxRecDepth 100000
/-! MiD: operators, comparisons, truth, items, slices on data. -/
namespace Mi
open PySem PySem.Spec PyProof.Rows L2

/-! ### what a value is -/
section
variable {K : PySem.W.Frag} {ρ : List Addr} {G H : Hp} {v : V} {ds : List D}
theorem Rp.i {i : Int} (h : Rp K ρ G v (.int i)) : v = .int i := by cases h; rfl
theorem Rp.b {b : Bool} (h : Rp K ρ G v (.bl b)) : v = .bl b := by cases h; rfl
theorem Rp.n (h : Rp K ρ G v .non) : v = .non := by cases h; rfl
theorem Rp.s {s : Str} (h : Rp K ρ G v (.str s)) : v = .str s := by cases h; rfl
theorem PRel.i {i : Int} (h : PRel K ρ G H v (.int i)) : v = .int i := by
  rcases h with h | ⟨_, _, _, _, e, _⟩
  · exact h.i
  · cases e
theorem PRel.b {b : Bool} (h : PRel K ρ G H v (.bl b)) : v = .bl b := by
  rcases h with h | ⟨_, _, _, _, e, _⟩
  · exact h.b
  · cases e
theorem PRel.n (h : PRel K ρ G H v .non) : v = .non := by
  rcases h with h | ⟨_, _, _, _, e, _⟩
  · exact h.n
  · cases e
theorem PRel.s {s : Str} (h : PRel K ρ G H v (.str s)) : v = .str s := by
  rcases h with h | ⟨_, _, _, _, e, _⟩
  · exact h.s
  · cases e
theorem PRel.t (h : PRel K ρ G H v (.tup ds)) : ∃ a vs, v = .ref a ∧ SqT K G a vs ∧ Rps K ρ G vs ds := by
  rcases h with h | ⟨_, _, _, _, e, _⟩
  · cases h with
    | tup q r => exact ⟨_, _, rfl, q, r⟩
  · cases e
theorem PRel.l (s : Sub G H) (h : PRel K ρ G H v (.lst ds)) : ∃ a vs, v = .ref a ∧ H a = some (.lst vs) ∧ Rps K ρ G vs ds := by
  rcases h with h | ⟨a, vs, ds', e1, e, h1, r, _⟩
  · cases h with
    | lst q r => exact ⟨_, _, rfl, s _ _ q, r⟩
  · cases e
    exact ⟨a, vs, e1, h1, r⟩
theorem PRel.o {n : Nat} (h : PRel K ρ G H v (.obj n)) : ∃ a, v = .ref a ∧ ρ[n]? = some a := by
  rcases h with h | ⟨_, _, _, _, e, _⟩
  · cases h with
    | obj q => exact ⟨_, rfl, q⟩
  · cases e
theorem PRel.d {kvs : List (Str × D)} (h : PRel K ρ G H v (.dct kvs)) : False := by
  rcases h with h | ⟨_, _, _, _, e, _⟩
  · cases h
  · cases e
end
theorem fits_iff {n : Nat} : fits n = true ↔ n ≤ sizeLine := by
  unfold fits
  rw [decide_eq_true_eq, sizeLine_eq]

/-! ### the end of an operation -/
def Fresh (K : PySem.W.Frag) (ρ : List Addr) (G H0 H : Hp) (v : V) (d : D) : Prop :=
  ∃ (a : Addr) (vs : List V) (ds : List D), v = .ref a ∧ d = .lst ds ∧ H a = some (.lst vs) ∧ Rps K ρ G vs ds ∧ a ∉ ρ ∧ G a = none ∧ H0 a = none
/-- the kinds of what an evaluation gives: frozen; only looked at; frozen or a new list of one's own -/
abbrev Kd (β α : Type) := List Addr → Hp → Hp → Hp → β → α → Prop
def kF (K : PySem.W.Frag) : Kd V D := fun ρ G _ _ v d => Rp K ρ G v d
def kP (K : PySem.W.Frag) : Kd V D := fun ρ G _ H v d => PRel K ρ G H v d
def kV (K : PySem.W.Frag) : Kd V (D × Bool) := fun ρ G H0 H v p => if p.2 = true then Fresh K ρ G H0 H v p.1 else Rp K ρ G v p.1
def Done (K : PySem.W.Frag) (ρ : List Addr) (G H : Hp) (T : Sto) (Q : VK) (r : D × Bool) : Prop :=
  ∀ v ρ' G' H', Tr ρ G H ρ' G' H' → Wd K ρ' G' H' T → kV K ρ' G' H H' v r → Q v H'
section
variable {K : PySem.W.Frag} {ρ : List Addr} {G H : Hp} {T : Sto} {Q : VK} {v : V} {d : D} {ds : List D} {vs : List V}
theorem Done.frozen (q : Done K ρ G H T Q (d, false)) (w : Wd K ρ G H T) (r : Rp K ρ G v d) : Q v H := q v ρ G H .refl w r
theorem Done.tup (q : Done K ρ G H T Q (.tup ds, false)) (w : Wd K ρ G H T) (r : Rps K ρ G vs ds) {p : Addr} (hp : H p = none) : Q (.ref p) (upd H p (.tup vs)) := by
  have g := w.gfree hp
  have n := w.rfree hp
  have w1 : Wd K ρ (upd G p (.tup vs)) (upd H p (.tup vs)) T := (w.new hp _).frz upd_same n g
  refine q _ ρ (upd G p (.tup vs)) _ ((Tr.refl.new w hp _).frz _ g hp) w1 ?_
  exact .tup (.inl (.inl upd_same)) (Rps.mono (sub_frz _ g) (fun _ _ e => e) _ _ r)
theorem Done.lst (q : Done K ρ G H T Q (.lst ds, true)) (w : Wd K ρ G H T) (r : Rps K ρ G vs ds) {p : Addr} (hp : H p = none) : Q (.ref p) (upd H p (.lst vs)) :=
  q _ ρ G _ (Tr.refl.new w hp _) (w.new hp _) ⟨p, vs, ds, rfl, rfl, upd_same, r, w.rfree hp, w.gfree hp, hp⟩
end

/-! ### operators -/
section
variable {X : Cx}
theorem opBin (op : Operator) : OpR X (binaryOp op) (fun x y H Q => ∃ ρ G T a b d, Wd X.K ρ G H T ∧ PRel X.K ρ G H x a ∧ PRel X.K ρ G H y b ∧ binD op a b = some d ∧ Done X.K ρ G H T Q (d, isLst d)) := by
  intro pins s σ H x y v u Q I rx ry h
  obtain ⟨ρ, G, T, a, b, d, w, pa, pb, e, q⟩ := h
  unfold binD at e
  split at e
  · cases e
    cases pa.i; cases pb.i
    exact op_add pins s σ H _ _ v u Q I rx ry ⟨_, _, rfl, rfl, q.frozen w (.int _)⟩
  · split at e
    · rename_i hf
      cases e
      cases pa.s; cases pb.s
      exact op_add_str pins s σ H _ _ v u Q I rx ry ⟨_, _, rfl, rfl, fits_iff.mp hf, q.frozen w (.str _)⟩
    · cases e
  · split at e
    · rename_i xs ys hf
      cases e
      obtain ⟨p1, vs, rfl, h1, r1⟩ := pa.t
      obtain ⟨p2, ws, rfl, h2, r2⟩ := pb.t
      refine op_catA pins s σ H _ _ v u Q I rx ry ⟨p1, p2, vs, ws, rfl, rfl, SqT.sub w.sub h1, SqT.sub w.sub h2, by rw [r1.length, r2.length]; exact fits_iff.mp hf, fun z => ?_, fun _ z => ?_, fun _ _ p hp => ?_⟩
      · subst z
        cases r1
        exact q.frozen w (.tup h2 r2)
      · subst z
        cases r2
        refine q.frozen w (.tup h1 ?_)
        rw [List.append_nil]
        exact r1
      · exact Done.tup q w (r1.app r2) hp
    · cases e
  · split at e
    · rename_i xs ys hf
      cases e
      obtain ⟨p1, vs, rfl, h1, r1⟩ := pa.l w.sub
      obtain ⟨p2, ws, rfl, h2, r2⟩ := pb.l w.sub
      exact op_cat pins s σ H _ _ v u Q I rx ry ⟨p1, p2, vs, ws, rfl, rfl, h1, h2, by rw [r1.length, r2.length]; exact fits_iff.mp hf, fun p hp => Done.lst q w (r1.app r2) hp⟩
    · cases e
  · cases e
    cases pa.i; cases pb.i
    exact op_sub pins s σ H _ _ v u Q I rx ry ⟨_, _, rfl, rfl, q.frozen w (.int _)⟩
  · split at e
    · rename_i hf
      cases e
      cases pa.i; cases pb.i
      exact op_mulW pins s σ H _ _ v u Q I rx ry ⟨_, _, rfl, rfl, (show _ + _ < _ from of_decide_eq_true (by simpa using hf)), q.frozen w (.int _)⟩
    · cases e
  · split at e
    · rename_i xs j hf
      simp only [Bool.and_eq_true, decide_eq_true_eq] at hf
      obtain ⟨⟨f1, f2⟩, f3⟩ := hf
      cases e
      obtain ⟨p1, vs, rfl, h1, r1⟩ := pa.t
      cases pb.i
      by_cases hj : xs = [] ∨ j ≤ 1
      · refine op_repS pins s σ H _ _ v u Q I rx ry ⟨p1, j, vs, rfl, rfl, SqT.sub w.sub h1, f2, f3, fun hh => ?_, fun hh => ?_⟩
        · have ee : rep j.toNat xs = xs := by
            rcases hh with rfl | rfl
            · cases r1
              simp [rep]
            · simp [rep]
          rw [ee] at q
          exact q.frozen w (.tup h1 r1)
        · have hx : xs ≠ [] := fun z => by
            subst z
            cases r1
            exact hh.1 rfl
          have hj0 : j ≤ 0 := by
            rcases hj with z | z
            · exact absurd z hx
            · have := hh.2
              omega
          have ee : rep j.toNat xs = [] := by
            have : j.toNat = 0 := by omega
            rw [this]
            rfl
          rw [ee] at q
          exact ⟨hj0, fun p hp => Done.tup q w .nil hp⟩
      · have hj' : ¬ xs = [] ∧ 1 < j := by
          refine ⟨fun z => hj (.inl z), ?_⟩
          have := fun z => hj (.inr z)
          omega
        refine op_repT pins s σ H _ _ v u Q I rx ry ⟨p1, j, vs, rfl, rfl, SqT.sub w.sub h1, ?_, by omega, f3, by rw [r1.length]; exact f1, fun p hp => Done.tup q w (r1.rep _) hp⟩
        rintro rfl
        cases r1
        exact hj'.1 rfl
    · cases e
  · split at e
    · rename_i xs j hf
      simp only [Bool.and_eq_true, decide_eq_true_eq] at hf
      obtain ⟨⟨f1, f2⟩, f3⟩ := hf
      cases e
      obtain ⟨p1, vs, rfl, h1, r1⟩ := pa.l w.sub
      cases pb.i
      exact op_rep pins s σ H _ _ v u Q I rx ry ⟨p1, j, vs, rfl, rfl, h1, f1, f2, by rw [r1.length]; exact fits_iff.mp f3, fun p hp => Done.lst q w (r1.rep _) hp⟩
    · cases e
  · split at e
    · rename_i hf
      simp only [Bool.and_eq_true, decide_eq_true_eq] at hf
      cases e
      cases pa.i; cases pb.i
      exact op_fdivW pins s σ H _ _ v u Q I rx ry ⟨_, _, rfl, rfl, hf, q.frozen w (.int _)⟩
    · cases e
  · split at e
    · rename_i hf
      cases e
      cases pa.i; cases pb.i
      exact op_mod pins s σ H _ _ v u Q I rx ry ⟨_, _, rfl, rfl, of_decide_eq_true hf, q.frozen w (.int _)⟩
    · cases e
  · split at e
    · rename_i hf
      simp only [Bool.and_eq_true, decide_eq_true_eq] at hf
      obtain ⟨⟨f1, f2⟩, f3⟩ := hf
      cases e
      cases pa.i; cases pb.i
      exact op_pow pins s σ H _ _ v u Q I rx ry ⟨_, _, rfl, rfl, ⟨f1, f2, by show _ < 2 ^ 64; exact f3⟩, q.frozen w (.int _)⟩
    · cases e
  · cases e

/-! ### truth -/
theorem truV {K : PySem.W.Frag} {ρ : List Addr} {G H : Hp} {v : V} {d : D} {k : Bool} (s : Sub G H) (h : PRel K ρ G H v d) (e : truD d = some k) : TruV K v H k := by
  cases d with
  | non => cases h.n; cases e; rfl
  | bl b => cases h.b; cases e; rfl
  | int i => cases h.i; cases e; rfl
  | str x =>
    cases h.s
    have e' : (if fits x.length = true then some ((x.length : Int) != 0) else none) = some k := e
    split at e'
    · rename_i hf
      cases e'
      exact ⟨fits_iff.mp hf, rfl⟩
    · cases e'
  | tup ds =>
    obtain ⟨a, vs, rfl, h1, r⟩ := h.t
    cases e
    refine .inr (.inl ⟨vs, SqT.sub s h1, ?_⟩)
    cases r <;> rfl
  | lst ds =>
    obtain ⟨a, vs, rfl, h1, r⟩ := h.l s
    cases e
    refine .inl ⟨vs, SqL.of h1, ?_⟩
    cases r <;> rfl
  | dct kvs => cases e
  | obj n => cases e
end
/-! ### comparisons -/
mutual
theorem plain_lay : ∀ d : D, d.plain = true → d.py.canLay0 = true
  | .non, _ => rfl
  | .bl _, _ => rfl
  | .int _, _ => rfl
  | .str x, h => by
    show PyData.canLay0 (.str x) = true
    unfold PyData.canLay0
    exact h
  | .tup ds, h => by
    show PyData.canLay0 (.tuple (D.pys ds)) = true
    unfold PyData.canLay0
    exact plain_lays ds h
  | .lst ds, h => by
    show PyData.canLay0 (.list (D.pys ds)) = true
    unfold PyData.canLay0
    exact plain_lays ds h
  | .dct _, h => by cases h
  | .obj _, h => by cases h
theorem plain_lays : ∀ ds : List D, D.plains ds = true → PyData.canLayAll0 (D.pys ds) = true
  | [], _ => by
    show PyData.canLayAll0 [] = true
    unfold PyData.canLayAll0
    rfl
  | d :: ds, h => by
    have h' : (d.plain && D.plains ds) = true := h
    rw [Bool.and_eq_true] at h'
    show PyData.canLayAll0 (d.py :: D.pys ds) = true
    unfold PyData.canLayAll0
    rw [plain_lay d h'.1, plain_lays ds h'.2]
    rfl
end
mutual
theorem plain_deep : ∀ d : D, d.plain = true → d.py.depth = d.deep
  | .non, _ => by simp [D.py, D.deep, PyData.depth]
  | .bl _, _ => by simp [D.py, D.deep, PyData.depth]
  | .int _, _ => by simp [D.py, D.deep, PyData.depth]
  | .str x, h => by simp [D.py, D.deep, PyData.depth]
  | .tup ds, h => by
    have q := plain_deeps ds h
    simp [D.py, D.deep, PyData.depth, q]
  | .lst ds, h => by
    have q := plain_deeps ds h
    simp [D.py, D.deep, PyData.depth, q]
  | .dct _, h => by cases h
  | .obj _, h => by cases h
theorem plain_deeps : ∀ ds : List D, D.plains ds = true → PyData.depthAll (D.pys ds) = D.deeps ds
  | [], _ => by simp [D.pys, D.deeps, PyData.depthAll]
  | d :: ds, h => by
    have h' : (d.plain && D.plains ds) = true := h
    rw [Bool.and_eq_true] at h'
    simp [D.pys, D.deeps, PyData.depthAll, plain_deep d h'.1, plain_deeps ds h'.2]
end
section
variable {K : PySem.W.Frag} {ρ : List Addr} {G H : Hp}
mutual
theorem Rp.dp (s : Sub G H) : ∀ (d : D) (v : V), d.plain = true → Rp K ρ G v d → Dp K H v d.py
  | .non, _, _, h => by cases h; exact .non
  | .bl b, _, _, h => by cases h; exact .bl b
  | .int i, _, _, h => by cases h; exact .int i
  | .str x, _, _, h => by cases h; exact .str x
  | .tup ds, _, p, h => by
    cases h with
    | tup q r => exact .tup (SqT.sub s q) (Rps.dp s ds _ p r)
  | .lst ds, _, p, h => by
    cases h with
    | lst q r => exact .lst (SqL.of (s _ _ q)) (Rps.dp s ds _ p r)
  | .dct _, _, p, _ => by cases p
  | .obj _, _, p, _ => by cases p
theorem Rps.dp (s : Sub G H) : ∀ (ds : List D) (vs : List V), D.plains ds = true → Rps K ρ G vs ds → DpAll K H vs (D.pys ds)
  | [], _, _, h => by cases h; exact .nil
  | d :: ds, _, p, h => by
    have p' : (d.plain && D.plains ds) = true := p
    rw [Bool.and_eq_true] at p'
    cases h with
    | cons q r => exact .cons (Rp.dp s d _ p'.1 q) (Rps.dp s ds _ p'.2 r)
end
theorem PRel.dp (s : Sub G H) {d : D} {v : V} (p : d.plain = true) (h : PRel K ρ G H v d) : Dp K H v d.py := by
  rcases h with h | ⟨a, vs, ds, rfl, rfl, h1, r, _⟩
  · exact h.dp s _ _ p
  · exact .lst (SqL.of h1) (Rps.dp s ds _ p r)
theorem flat_V {d : D} {v : V} (h : Rp K ρ G v d) (f : d.flat = true) : flatV v = true := by
  cases d <;> first | (cases h; rfl) | (cases f)
theorem flats_V : ∀ {ds : List D} {vs : List V}, Rps K ρ G vs ds → ds.all D.flat = true → vs.all flatV = true
  | [], _, h, _ => by cases h; rfl
  | d :: ds, _, h, f => by
    cases h with
    | cons q r =>
      rw [List.all_cons, Bool.and_eq_true] at f
      rw [List.all_cons, flat_V q f.1, flats_V r f.2]
      rfl
theorem eqV_py {x y : V} {a b : D} (hx : Rp K ρ G x a) (hy : Rp K ρ G y b) (fa : a.flat = true) (fb : b.flat = true) : eqV x y = a.eqv b := by
  cases a <;> cases b <;> first | (cases fa; done) | (cases fb; done) | (cases hx; cases hy; simp [eqV, D.eqv, D.py, PyData.eqv])
theorem inV_any {x : V} {a : D} (hx : Rp K ρ G x a) (fa : a.flat = true) : ∀ {ds : List D} {vs : List V}, Rps K ρ G vs ds → ds.all D.flat = true → inV x vs = ds.any fun y => y.eqv a
  | [], _, h, _ => by cases h; rfl
  | d :: ds, _, h, f => by
    cases h with
    | cons q r =>
      rw [List.all_cons, Bool.and_eq_true] at f
      have e : inV x _ = ds.any fun y => y.eqv a := inV_any hx fa r f.2
      unfold inV at e
      unfold inV
      rw [List.any_cons, List.any_cons, e, eqV_py q hx f.1 fa]
end
theorem pys_any (a : D) : ∀ ds : List D, (D.pys ds).any (fun z => PyData.eqv z a.py) = ds.any fun y => y.eqv a
  | [] => rfl
  | d :: ds => by
    show (d.py :: D.pys ds).any _ = _
    rw [List.any_cons, List.any_cons, pys_any a ds]
    rfl
section
variable {X : Cx}
/-- what a comparison asks -/
def rC (X : Cx) (f : D → D → Option Bool) : R2 := fun x y H Q => ∃ ρ G T a b k, Wd X.K ρ G H T ∧ PRel X.K ρ G H x a ∧ PRel X.K ρ G H y b ∧ f a b = some k ∧ Q (.bl k) H
theorem opEqs (hu : X.A.units + 200 < cLine) (op : CmpOp) (neg : Bool) (hop : (op = .Eq ∧ neg = false) ∨ (op = .NotEq ∧ neg = true)) : OpR X (compareOp op) (rC X fun a b => (eqD a b).map fun k => neg ^^ k) := by
  intro pins s σ H x y v u Q I rx ry h
  obtain ⟨ρ, G, T, a, b, k, w, pa, pb, e, q⟩ := h
  have scal2 : ∀ {x y : V}, RelV x v → RelV y u → scal x y = true → (neg ^^ decide (x = y)) = k → wpAny (model X.prog X.w) X.A (compareOp op v u) (EP X pins σ Q) X.xe s := fun {x y} rx ry sc ek => by
    rcases hop with ⟨rfl, rfl⟩ | ⟨rfl, rfl⟩
    · exact op_eq pins s σ H x y v u Q I rx ry ⟨sc, by rw [Bool.false_xor] at ek; rw [ek]; exact q⟩
    · exact op_ne pins s σ H x y v u Q I rx ry ⟨sc, by rw [Bool.true_xor] at ek; rw [ek]; exact q⟩
  have deep : ∀ {a b : D}, PRel X.K ρ G H x a → PRel X.K ρ G H y b → (if a.plain && b.plain && decide (min a.deep b.deep ≤ 190) then some (a.eqv b) else none).map (fun k => neg ^^ k) = some k → wpAny (model X.prog X.w) X.A (compareOp op v u) (EP X pins σ Q) X.xe s := fun {a b} pa pb e => by
    split at e
    · rename_i hf
      simp only [Bool.and_eq_true, decide_eq_true_eq] at hf
      obtain ⟨⟨f1, f2⟩, f3⟩ := hf
      have ek : (neg ^^ a.eqv b) = k := by simpa using e
      obtain ⟨as, r1⟩ := Dp.reads I _ _ _ (pa.dp w.sub f1) rx
      obtain ⟨bs, r2⟩ := Dp.reads I _ _ _ (pb.dp w.sub f2) ry
      have hd : X.A.units + min a.py.depth b.py.depth < cLine := by
        rw [plain_deep a f1, plain_deep b f2]
        omega
      rcases hop with ⟨rfl, rfl⟩ | ⟨rfl, rfl⟩
      · refine SeqAt.compareEq_reads r1 r2 (plain_lay _ f1) (plain_lay _ f2) hd ⟨.bl k, H, I, ?_, q⟩
        rw [← ek, Bool.false_xor]
        rfl
      · refine SeqAt.compareNe_reads r1 r2 (plain_lay _ f1) (plain_lay _ f2) hd ⟨.bl k, H, I, ?_, q⟩
        rw [← ek, Bool.true_xor]
        rfl
    · cases e
  have e : (eqD a b).map (fun k => neg ^^ k) = some k := e
  unfold eqD at e
  split at e
  · rename_i z1 z2 _
    cases pa.s; cases pb.s
    refine scal2 rx ry rfl ?_
    have e2 : (neg ^^ decide (z1 = z2)) = k := by simpa using e
    rw [← e2]
    by_cases hz : z1 = z2
    · rw [decide_eq_true hz, decide_eq_true (by rw [hz])]
    · rw [decide_eq_false hz, decide_eq_false (fun z => hz (V.str.inj z))]
  · rename_i z1 z2 _
    cases pa.i; cases pb.i
    refine scal2 rx ry rfl ?_
    have e2 : (neg ^^ decide (z1 = z2)) = k := by simpa using e
    rw [← e2]
    by_cases hz : z1 = z2
    · rw [decide_eq_true hz, decide_eq_true (by rw [hz])]
    · rw [decide_eq_false hz, decide_eq_false (fun z => hz (V.int.inj z))]
  · exact deep pa pb e
theorem opOrd (hu : X.A.units + 200 < cLine) (op : CmpOp) (o : Od) (hop : (op = .Lt ∧ o = .lt) ∨ (op = .LtE ∧ o = .le) ∨ (op = .Gt ∧ o = .gt) ∨ (op = .GtE ∧ o = .ge)) : OpR X (compareOp op) (rC X (ordD o)) := by
  intro pins s σ H x y v u Q I rx ry h
  obtain ⟨ρ, G, T, a, b, k, w, pa, pb, e, q⟩ := h
  unfold ordD at e
  split at e
  · cases pa.i; cases pb.i
    cases e
    rcases hop with ⟨rfl, rfl⟩ | ⟨rfl, rfl⟩ | ⟨rfl, rfl⟩ | ⟨rfl, rfl⟩
    · exact op_lt pins s σ H _ _ v u Q I rx ry ⟨_, _, rfl, rfl, q⟩
    · exact op_le pins s σ H _ _ v u Q I rx ry ⟨_, _, rfl, rfl, q⟩
    · exact op_gt pins s σ H _ _ v u Q I rx ry ⟨_, _, rfl, rfl, q⟩
    · exact op_ge pins s σ H _ _ v u Q I rx ry ⟨_, _, rfl, rfl, q⟩
  · cases pa.s; cases pb.s
    cases e
    rcases hop with ⟨rfl, rfl⟩ | ⟨rfl, rfl⟩ | ⟨rfl, rfl⟩ | ⟨rfl, rfl⟩
    · exact op_lt_str pins s σ H _ _ v u Q I rx ry ⟨_, _, rfl, rfl, q⟩
    · exact op_le_str pins s σ H _ _ v u Q I rx ry ⟨_, _, rfl, rfl, q⟩
    · exact op_gt_str pins s σ H _ _ v u Q I rx ry ⟨_, _, rfl, rfl, q⟩
    · exact op_ge_str pins s σ H _ _ v u Q I rx ry ⟨_, _, rfl, rfl, q⟩
  · rename_i xs ys
    split at e
    · rename_i hf
      simp only [Bool.and_eq_true, decide_eq_true_eq] at hf
      obtain ⟨⟨⟨f1, f2⟩, f3⟩, f4⟩ := hf
      have ek : o.onData (D.tup xs).py (D.tup ys).py = k := by simpa using e
      have p1 : (D.tup xs).plain = true := f1
      have p2 : (D.tup ys).plain = true := f2
      obtain ⟨as, r1⟩ := Dp.reads I _ _ _ (pa.dp w.sub p1) rx
      obtain ⟨bs, r2⟩ := Dp.reads I _ _ _ (pb.dp w.sub p2) ry
      have hd : X.A.units + min (D.tup xs).py.depth (D.tup ys).py.depth < cLine := by
        rw [plain_deep _ p1, plain_deep _ p2]
        show X.A.units + min (D.deeps xs + 1) (D.deeps ys + 1) < cLine
        omega
      have nn : (D.tup xs).py ≠ .none := fun z => by cases z
      have q' : EP X pins σ Q (.bool k) s := ⟨.bl k, H, I, rfl, q⟩
      subst ek
      rcases hop with ⟨rfl, rfl⟩ | ⟨rfl, rfl⟩ | ⟨rfl, rfl⟩ | ⟨rfl, rfl⟩
      · exact PySem.W.lt_data r1 r2 f3 nn hd q'
      · exact PySem.W.le_data r1 r2 f3 nn hd q'
      · exact PySem.W.gt_data r1 r2 f3 nn hd q'
      · exact PySem.W.ge_data r1 r2 f3 nn hd q'
    · cases e
  · cases e
theorem str1 {z : Str} {c : Nat} (h : z.cps.toList = [c]) : z = ⟨#[c]⟩ := by
  obtain ⟨a⟩ := z
  have : a = #[c] := by
    apply Array.toList_inj.mp
    exact h
  rw [this]
theorem opMem (hu : X.A.units + 200 < cLine) (op : CmpOp) (neg : Bool) (hop : (op = .In ∧ neg = false) ∨ (op = .NotIn ∧ neg = true)) : OpR X (compareOp op) (rC X fun a b => (inD a b).map fun k => neg ^^ k) := by
  intro pins s σ H x y v u Q I rx ry h
  obtain ⟨ρ, G, T, a, b, k, w, pa, pb, e, q⟩ := h
  have e : (inD a b).map (fun k => neg ^^ k) = some k := e
  have seq : ∀ {p : Addr} {vs : List V} {ds : List D}, y = .ref p → (SqL X.K H p vs ∨ SqT X.K H p vs) → Rps X.K ρ G vs ds → (memD a ds).map (fun k => neg ^^ k) = some k → (b = .tup ds ∨ b = .lst ds) → wpAny (model X.prog X.w) X.A (compareOp op v u) (EP X pins σ Q) X.xe s := fun {p vs ds} ey hq r e hb => by
    unfold memD at e
    split at e
    · rename_i hf
      rw [Bool.and_eq_true] at hf
      have ra : Rp X.K ρ G x a := by
        rcases pa with pa | ⟨_, _, _, _, e1, _⟩
        · exact pa
        · rw [e1] at hf; cases hf.2
      have e2 : (neg ^^ ds.any fun y => y.eqv a) = k := by simpa using e
      have ei := inV_any ra hf.2 r hf.1
      rcases hop with ⟨rfl, rfl⟩ | ⟨rfl, rfl⟩
      · refine op_in_seq pins s σ H x y v u Q I rx ry ⟨p, vs, ey, hq, flat_V ra hf.2, flats_V r hf.1, ?_⟩
        rw [if_neg Bool.false_ne_true, ei]
        rw [Bool.false_xor] at e2
        rw [e2]
        exact q
      · refine op_notIn_seq pins s σ H x y v u Q I rx ry ⟨p, vs, ey, hq, flat_V ra hf.2, flats_V r hf.1, ?_⟩
        rw [if_pos rfl, ei]
        rw [Bool.true_xor] at e2
        rw [e2]
        exact q
    · split at e
      · rename_i hf
        simp only [Bool.and_eq_true, decide_eq_true_eq] at hf
        obtain ⟨⟨f1, f2⟩, f3⟩ := hf
        have e2 : (neg ^^ ds.any fun y => y.eqv a) = k := by simpa using e
        have hpl : b.plain = true := by rcases hb with rfl | rfl <;> exact f1
        obtain ⟨as, r1⟩ := Dp.reads I _ _ _ (pa.dp w.sub f2) rx
        obtain ⟨bs, r2⟩ := Dp.reads I _ _ _ (pb.dp w.sub hpl) ry
        have z := plain_lays ds f1
        have z2 := plain_deep a f2
        have hd : X.A.units + 1 + min (PyData.depthAll (D.pys ds)) a.py.depth < cLine := by
          rw [z2]
          omega
        rcases hop with ⟨rfl, rfl⟩ | ⟨rfl, rfl⟩
        · rw [Bool.false_xor] at e2
          have q' : EP X pins σ Q (.bool ((D.pys ds).any fun y => PyData.eqv y a.py)) s := ⟨.bl k, H, I, by rw [pys_any, e2]; rfl, q⟩
          rcases hb with rfl | rfl
          · exact SeqAt.in_tuple_reads r2 r1 z (plain_lay a f2) hd q'
          · exact SeqAt.in_list_reads r2 r1 z (plain_lay a f2) hd q'
        · rw [Bool.true_xor] at e2
          have q' : EP X pins σ Q (.bool (!(D.pys ds).any fun y => PyData.eqv y a.py)) s := ⟨.bl k, H, I, by rw [pys_any, e2]; rfl, q⟩
          rcases hb with rfl | rfl
          · exact SeqAt.notIn_tuple_reads r2 r1 z (plain_lay a f2) hd q'
          · exact SeqAt.notIn_list_reads r2 r1 z (plain_lay a f2) hd q'
      · cases e
  cases b with
  | tup ds =>
    obtain ⟨p, vs, rfl, h1, r⟩ := pb.t
    exact seq rfl (.inr (SqT.sub w.sub h1)) r e (.inl rfl)
  | lst ds =>
    obtain ⟨p, vs, rfl, h1, r⟩ := pb.l w.sub
    exact seq rfl (.inl (SqL.of h1)) r e (.inr rfl)
  | str z =>
    cases pb.s
    cases a with
    | str c =>
      cases pa.s
      have e' : ((match c.cps.toList with
        | [c] => some (decide (c ∈ z.cps.toList))
        | _ => none).map fun k => neg ^^ k) = some k := e
      split at e'
      · rename_i c0 hc
        have ec := str1 hc
        subst ec
        have e2 : (neg ^^ decide (c0 ∈ z.cps.toList)) = k := by simpa using e'
        rcases hop with ⟨rfl, rfl⟩ | ⟨rfl, rfl⟩
        · exact op_in_sign pins s σ H _ _ v u Q I rx ry ⟨_, _, rfl, rfl, by rw [Bool.false_xor] at e2; rw [e2]; exact q⟩
        · exact op_notIn_sign pins s σ H _ _ v u Q I rx ry ⟨_, _, rfl, rfl, by rw [Bool.true_xor] at e2; rw [e2]; exact q⟩
      · cases e'
    | _ => cases e
  | _ => cases e
theorem opIs (op : CmpOp) (neg : Bool) (hop : (op = .Is ∧ neg = false) ∨ (op = .IsNot ∧ neg = true)) : OpR X (compareOp op) (rC X fun a b => (isD a b).map fun k => neg ^^ k) := by
  intro pins s σ H x y v u Q I rx ry h
  obtain ⟨ρ, G, T, a, b, k, w, pa, pb, e, q⟩ := h
  have e : (isD a b).map (fun k => neg ^^ k) = some k := e
  have none_ : b = .non → wpAny (model X.prog X.w) X.A (compareOp op v u) (EP X pins σ Q) X.xe s := fun hb => by
    subst hb
    cases pb.n
    have e2 : (neg ^^ decide (x = V.non)) = k := by
      rcases pa with pa | ⟨p, vs, ds, rfl, rfl, _⟩
      · cases pa <;> simpa [isD] using e
      · simpa [isD] using e
    rcases hop with ⟨rfl, rfl⟩ | ⟨rfl, rfl⟩
    · exact op_isN pins s σ H _ _ v u Q I rx ry ⟨rfl, by rw [Bool.false_xor] at e2; rw [e2]; exact q⟩
    · exact op_notN pins s σ H _ _ v u Q I rx ry ⟨rfl, by rw [Bool.true_xor] at e2; rw [e2]; exact q⟩
  cases b with
  | non => exact none_ rfl
  | bl b =>
    cases a with
    | bl a =>
      cases pa.b; cases pb.b
      have e2 : (neg ^^ decide (a = b)) = k := by simpa [isD] using e
      rcases hop with ⟨rfl, rfl⟩ | ⟨rfl, rfl⟩
      · exact op_is_bl pins s σ H _ _ v u Q I rx ry ⟨_, _, rfl, rfl, by rw [Bool.false_xor] at e2; rw [e2]; exact q⟩
      · exact op_isnot_bl pins s σ H _ _ v u Q I rx ry ⟨_, _, rfl, rfl, by rw [Bool.true_xor] at e2; rw [e2]; exact q⟩
    | _ => simp [isD] at e
  | _ => cases a <;> simp [isD] at e
theorem map_id_xor {o : Option Bool} : o.map (fun k => false ^^ k) = o := by cases o <;> simp
theorem map_not_xor {o : Option Bool} : o.map (fun k => true ^^ k) = o.map (!·) := by cases o <;> simp
theorem opFeq {f : Value → Value → Sem Value} {g g' : D → D → Option Bool} (h : OpR X f (rC X g)) (e : ∀ a b, g' a b = g a b) : OpR X f (rC X g') := by
  intro pins s σ H x y v u Q I rx ry hq
  obtain ⟨ρ, G, T, a, b, k, w, pa, pb, e1, q⟩ := hq
  exact h pins s σ H x y v u Q I rx ry ⟨ρ, G, T, a, b, k, w, pa, pb, by rw [← e]; exact e1, q⟩
theorem opCmp (hu : X.A.units + 200 < cLine) (op : CmpOp) : OpR X (compareOp op) (rC X (cmpD op)) := by
  cases op with
  | Eq => exact opFeq (opEqs hu .Eq false (.inl ⟨rfl, rfl⟩)) fun a b => map_id_xor.symm
  | NotEq => exact opFeq (opEqs hu .NotEq true (.inr ⟨rfl, rfl⟩)) fun a b => map_not_xor.symm
  | Lt => exact opOrd hu .Lt .lt (.inl ⟨rfl, rfl⟩)
  | LtE => exact opOrd hu .LtE .le (.inr (.inl ⟨rfl, rfl⟩))
  | Gt => exact opOrd hu .Gt .gt (.inr (.inr (.inl ⟨rfl, rfl⟩)))
  | GtE => exact opOrd hu .GtE .ge (.inr (.inr (.inr ⟨rfl, rfl⟩)))
  | Is => exact opFeq (opIs .Is false (.inl ⟨rfl, rfl⟩)) fun a b => map_id_xor.symm
  | IsNot => exact opFeq (opIs .IsNot true (.inr ⟨rfl, rfl⟩)) fun a b => map_not_xor.symm
  | In => exact opFeq (opMem hu .In false (.inl ⟨rfl, rfl⟩)) fun a b => map_id_xor.symm
  | NotIn => exact opFeq (opMem hu .NotIn true (.inr ⟨rfl, rfl⟩)) fun a b => map_not_xor.symm
end
end Mi


set_option Elab.async false
set_option linter.all false
set_option maxRecDepth 100000
/-! MiE: readings of the interpreter; expressions without comprehensions. -/
namespace Mi
open PySem PySem.Spec PyProof.Rows L2

/-- no exception is taken in where none comes -/
theorem takesN0 {X : Cx} : L2N.Takes X (fun _ _ _ _ => False) := fun u s' ⟨_, _, _, _, _, _, _, _, _, _, _, _, _, _, _, _, z⟩ => z.elim
/-! ### what an evaluation is to reach -/
abbrev FldR (K : PySem.W.Frag) (ρ : List Addr) (G : Hp) : List (Str × V) → List (Str × D) → Prop := Paired fun p q => p.1 = q.1 ∧ Rp K ρ G p.2 q.2
/-- an exception: its class, its fields -/
def XR (K : PySem.W.Frag) (ρ : List Addr) (G H : Hp) (x : Xn) (cls : Value) (d : Option Addr) : Prop :=
  cls = .ref (He.ga K x.cls) ∧ match x.flds with
    | none => d = none
    | some fs => ∃ dx vfs, d = some dx ∧ H dx = some (.xd vfs) ∧ FldR K ρ G vfs fs
def Post {α β : Type} (K : PySem.W.Frag) (W : WX) (k : Kd β α) (ρ : List Addr) (G H : Hp) (σv : L2.St) (Q : β → Hp → Prop) : Res α → Prop
  | .ok a T' => ∀ b ρ' G' H', Tr ρ G H ρ' G' H' → Wd K ρ' G' H' T' → k ρ' G' H H' b a → Q b H'
  | .ex x T' => ∀ cls d ρ' G' H', Tr ρ G H ρ' G' H' → Wd K ρ' G' H' T' → XR K ρ' G' H' x cls d → W cls d σv H'
  | .bad => False
def RG {α β : Type} (K : PySem.W.Frag) (W : WX) (k : Kd β α) (m : EM α) : L2.St → Hp → (β → Hp → Prop) → Prop := fun σv H Q =>
  ∃ ρ G T σ, Wd K ρ G H T ∧ EnvR K ρ G H σ σv ∧ Post K W k ρ G H σv Q (m σ T)
def kB : Kd Bool Bool := fun _ _ _ _ b c => b = c
def kA (K : PySem.W.Frag) : Kd (List V) (List D) := fun ρ G _ _ vs ds => Rps K ρ G vs ds
/-- the kind does not lean on where one began -/
structure KSh {α β : Type} (k : Kd β α) : Prop where
  sh : ∀ {ρ0 : List Addr} {G0 H0 : Hp} {ρ1 : List Addr} {G1 H1 : Hp} {ρ' : List Addr} {G' H' : Hp} {b : β} {a : α}, Tr ρ0 G0 H0 ρ1 G1 H1 → Pre ρ1 ρ' → k ρ' G' H1 H' b a → k ρ' G' H0 H' b a
theorem kF_sh {K : PySem.W.Frag} : KSh (kF K) := ⟨fun _ _ h => h⟩
theorem kP_sh {K : PySem.W.Frag} : KSh (kP K) := ⟨fun _ _ h => h⟩
theorem kB_sh : KSh kB := ⟨fun _ _ h => h⟩
theorem kA_sh {K : PySem.W.Frag} : KSh (kA K) := ⟨fun _ _ h => h⟩
theorem kV_sh {K : PySem.W.Frag} : KSh (kV K) := ⟨fun {ρ0 G0 H0 ρ1 G1 H1 ρ' G' H' b a} t p h => by
  unfold kV at h ⊢
  split
  · rename_i e
    rw [if_pos e] at h
    obtain ⟨a', vs, ds, e1, e2, h1, r, n, g, f⟩ := h
    refine ⟨a', vs, ds, e1, e2, h1, r, n, g, ?_⟩
    rcases t.back f with z | z
    · exact absurd (p.mem (t.pre.mem z)) n
    · exact z
  · rename_i e
    rw [if_neg e] at h
    exact h⟩
section
variable {α β γ δ : Type} {K : PySem.W.Frag} {W : WX} {k : Kd β α} {ρ ρ1 : List Addr} {G G1 H H1 : Hp} {σv : L2.St} {σ : Env} {T T1 : Sto}
theorem Post.mono {Q Q' : β → Hp → Prop} {r : Res α} (h : Post K W k ρ G H σv Q r) (hq : ∀ b H', Q b H' → Q' b H') : Post K W k ρ G H σv Q' r := by
  cases r with
  | ok a T' => exact fun b ρ' G' H' t w z => hq _ _ (h b ρ' G' H' t w z)
  | ex x T' => exact h
  | bad => exact h
/-- from a later point on -/
theorem Post.shift {Q : β → Hp → Prop} {r : Res α} (sh : KSh k) (h : Post K W k ρ G H σv Q r) (t : Tr ρ G H ρ1 G1 H1) (w1 : Wd K ρ1 G1 H1 T1) : Post K W k ρ1 G1 H1 σv Q r := by
  cases r with
  | ok a T' => exact fun b ρ' G' H' u w z => h b ρ' G' H' (t.trans w1 u w) w (sh.sh t u.pre z)
  | ex x T' => exact fun cls d ρ' G' H' u w z => h cls d ρ' G' H' (t.trans w1 u w) w z
  | bad => exact h
/-- behind the first of two: where one stands, and what is still to be reached -/
def Mid (K : PySem.W.Frag) (W : WX) (k : Kd β α) (k2 : Kd δ γ) (ρ : List Addr) (G H : Hp) (σ : Env) (σv : L2.St) (Q : δ → Hp → Prop) (f : α → EM γ) (b : β) (H1 : Hp) : Prop :=
  ∃ ρ1 G1 T1 a, k ρ1 G1 H H1 b a ∧ Tr ρ G H ρ1 G1 H1 ∧ Wd K ρ1 G1 H1 T1 ∧ EnvR K ρ1 G1 H1 σ σv ∧ Post K W k2 ρ1 G1 H1 σv Q (f a σ T1)
theorem Post.bind {k2 : Kd δ γ} {Q : δ → Hp → Prop} {m : EM α} {f : α → EM γ} (sh : KSh k2) (er : EnvR K ρ G H σ σv) (h : Post K W k2 ρ G H σv Q (EM.bind m f σ T)) :
    Post K W k ρ G H σv (Mid K W k k2 ρ G H σ σv Q f) (m σ T) := by
  unfold EM.bind at h
  cases e : m σ T with
  | ok a T1 =>
    rw [e] at h
    intro b ρ1 G1 H1 t w z
    exact ⟨ρ1, G1, T1, a, z, t, w, er.tr t, Post.shift sh h t w⟩
  | ex x T1 =>
    rw [e] at h
    exact h
  | bad =>
    rw [e] at h
    exact h
end
theorem _root_.L2.PE.imp {X : Cx} {e : Expr} {t t' : TE} (h : PE X e t) (i : ∀ σ H Q, t' σ H Q → t σ H Q) : PE X e t' := ⟨fun pins s σ H Q I hw => h.run pins s σ H Q I (i σ H Q hw)⟩
theorem _root_.L2.PT.imp {X : Cx} {e : Expr} {t t' : TT} (h : PT X e t) (i : ∀ σ H Q, t' σ H Q → t σ H Q) : PT X e t' := ⟨fun pins s σ H Q I hw => h.run pins s σ H Q I (i σ H Q hw)⟩
theorem _root_.L2.PW.imp {X : Cx} {e : Expr} {t t' : TT} (h : PW X e t) (i : ∀ σ H Q, t' σ H Q → t σ H Q) : PW X e t' := ⟨fun wh pins s σ H Q I hw => h.run wh pins s σ H Q I (i σ H Q hw)⟩
theorem _root_.L2.PA.imp {X : Cx} {es : List Expr} {t t' : TA} (h : PA X es t) (i : ∀ σ H Q, t' σ H Q → t σ H Q) : PA X es t' := ⟨fun pos pins s σ H Q I hw => h.run pos pins s σ H Q I (i σ H Q hw)⟩
/-- where nothing is reached nothing is to be shown -/
theorem PE.bad {X : Cx} {e : Expr} {W : WX} {k : Kd V α} {m : EM α} (h : ∀ σ T, m σ T = .bad) : PE X e (RG X.K W k m) := ⟨fun pins s σ H Q I hw => by
  obtain ⟨ρ, G, T, σ', _, _, p⟩ := hw
  rw [h] at p
  exact p.elim⟩
theorem PT.bad {X : Cx} {e : Expr} {W : WX} {k : Kd Bool α} {m : EM α} (h : ∀ σ T, m σ T = .bad) : PT X e (RG X.K W k m) := ⟨fun pins s σ H Q I hw => by
  obtain ⟨ρ, G, T, σ', _, _, p⟩ := hw
  rw [h] at p
  exact p.elim⟩

/-! ### a frame and its module -/
structure Fit (X : Cx) (F : Fi) : Prop where
  N : X.N = F.N
  sc : X.env.scope = F.sc
  fn : X.fn = F.fn
  calm : X.calm = true
  nd : X.N.Nodup
def bltNames : List Str := ["len", "isinstance", "abs", "int", "str", "bool", "tuple", "list", "all", "any", "sum", "range", "enumerate", "reversed", "max", "min", "sorted", "repr", "divmod", "zip", "super"]
def spC (K : PySem.W.Frag) (C : CallT) (f : Str) : Sp := fun vs H Q E => ∃ ρ G T ds, Wd K ρ G H T ∧ Rps K ρ G vs ds ∧ Post K (fun cls d _ H' => E cls d H') (kV K) ρ G H [] Q (C f ds T)
structure Gx (X : Cx) (G : Gi) (C : CallT) : Prop where
  fn : ∀ f ∈ G.fn, ∃ k fa fd ps, FnOk X.prog X.w X.K X.mg X.base (L2N.CX X.prog X.w) k fa fd ps (spC X.K C f) ∧ Room k X.A ∧ X.mg f = some (.ref fa) ∧ PySem.W.keepIn X.K (.ref fa) = true ∧ Binds X.K fd ps []
  blt : ∀ x ∈ bltNames, X.mg x = none
  cst : ∀ x d, G.cst.lookup x = some d → ∃ u v, X.mg x = some u ∧ RelV v u ∧ ∀ ρ (Gh : Hp), Rp X.K ρ Gh v d
  un : X.A.units + 200 < cLine

section
variable {X : Cx} {F : Fi} {G : Gi} {C : CallT}
theorem ixOf_get : ∀ {N : List Str} {x : Str} {i : Nat}, ixOf x N = some i → N[i]? = some x
  | [], _, _, h => by cases h
  | y :: ys, x, i, h => by
    unfold ixOf at h
    split at h
    · rename_i e
      cases h
      simp [e]
    · cases e : ixOf x ys with
      | none => rw [e] at h; cases h
      | some j =>
        rw [e] at h
        have : j + 1 = i := by simpa using h
        subst this
        have q := ixOf_get e
        simpa using q
theorem visB_iff {sc : Scope} {x : Str} (h : visB sc x = true) : Vis sc x := by
  unfold visB at h
  split at h <;> first | exact .inl (by assumption) | exact .inr (.inl (by assumption)) | exact .inr (.inr (by assumption)) | cases h
theorem locB_iff {sc : Scope} {x : Str} (h : locB sc x = true) : Loc sc x := by
  unfold locB at h
  split at h <;> first | exact .inl (by assumption) | exact .inr (by assumption) | cases h
theorem slot_ok (fit : Fit X F) {x : Str} {i : Nat} (h : slot F x = some i) : X.N[i]? = some x ∧ Vis X.env.scope x := by
  unfold slot at h
  split at h
  · rename_i hv
    rw [fit.N, fit.sc]
    exact ⟨ixOf_get h, visB_iff hv⟩
  · cases h
theorem isDbg_ok {x : Str} (h : isDbg x = false) : (x == ("__debug__" : Str)) = false ∧ (x == ("__classdict__" : Str)) = false ∧ x ≠ "__name__" := by
  unfold isDbg at h
  simp only [Bool.or_eq_false_iff, decide_eq_false_iff_not] at h
  exact ⟨beq_eq_false_iff_ne.mpr h.1.1, beq_eq_false_iff_ne.mpr h.1.2, h.2⟩
theorem isGl_ok (fit : Fit X F) {x : Str} (h : isGl F.sc x = true) : Gl X x := by
  unfold isGl at h
  split at h
  · rename_i e
    show X.env.scope.names.lookup x = _
    rw [fit.sc]
    exact e
  · cases h

/-- values to look at from values frozen -/
theorem kF_kP {K : PySem.W.Frag} {ρ : List Addr} {G H0 H : Hp} {v : V} {d : D} (h : kF K ρ G H0 H v d) : kP K ρ G H0 H v d := .inl h
/-- a new list is only looked at -/
theorem Fresh.p {K : PySem.W.Frag} {ρ : List Addr} {G H0 H : Hp} {v : V} {d : D} (h : Fresh K ρ G H0 H v d) : PRel K ρ G H v d := by
  obtain ⟨a, vs, ds, e1, e2, h1, r, n, _, _⟩ := h
  exact .inr ⟨a, vs, ds, e1, e2, h1, r, n⟩
theorem kV.p {K : PySem.W.Frag} {ρ : List Addr} {G H0 H : Hp} {v : V} {r : D × Bool} (h : kV K ρ G H0 H v r) : PRel K ρ G H v r.1 := by
  unfold kV at h
  split at h
  · exact Fresh.p h
  · exact .inl h
/-- a value by its flag, frozen -/
theorem Post.froz {K : PySem.W.Frag} {W : WX} {ρ : List Addr} {Gh H : Hp} {σv : L2.St} {Q : VK} {m : EM (D × Bool)} {σ : Env} {T : Sto} (h : Post K W (kF K) ρ Gh H σv Q ((EM.bind m fun d => EM.pure d.1) σ T)) : Post K W (kV K) ρ Gh H σv Q (m σ T) := by
  unfold EM.bind at h
  cases e : m σ T with
  | ok r T1 =>
    rw [e] at h
    intro v ρ' G' H' t w z
    unfold kV at z
    split at z
    · obtain ⟨a, vs, ds, rfl, e2, h1, rr, n, g, f⟩ := z
      have w2 := w.frz h1 n g
      refine h _ ρ' (upd G' a (.lst vs)) H' (t.frz _ g f) w2 ?_
      show Rp K ρ' _ _ r.1
      rw [e2]
      exact .lst upd_same (Rps.mono (sub_frz _ g) (fun _ _ e => e) _ _ rr)
    · exact h _ ρ' G' H' t w z
  | ex x T1 => rw [e] at h; exact h
  | bad => rw [e] at h; exact h
/-- .. only looked at -/
theorem Post.look {K : PySem.W.Frag} {W : WX} {ρ : List Addr} {Gh H : Hp} {σv : L2.St} {Q : VK} {m : EM (D × Bool)} {σ : Env} {T : Sto} (h : Post K W (kP K) ρ Gh H σv Q ((EM.bind m fun d => EM.pure d.1) σ T)) : Post K W (kV K) ρ Gh H σv Q (m σ T) := by
  unfold EM.bind at h
  cases e : m σ T with
  | ok r T1 =>
    rw [e] at h
    exact fun v ρ' G' H' t w z => h _ ρ' G' H' t w z.p
  | ex x T1 => rw [e] at h; exact h
  | bad => rw [e] at h; exact h
end

/-- what is shown of the parts -/
structure Snd (G : Gi) (C : CallT) (R : Dn) : Prop where
  val : ∀ (X : Cx) (W : WX) (F : Fi) (e : Expr), Gx X G C → Fit X F → L2N.Takes X W → PE X e (RG X.K W (kV X.K) (R.val F e))
  tst : ∀ (X : Cx) (W : WX) (F : Fi) (e : Expr), Gx X G C → Fit X F → L2N.Takes X W → PT X e (RG X.K W kB (R.tst F e))
section
variable {X : Cx} {W : WX} {F : Fi} {G : Gi} {C : CallT} {R : Dn}
theorem pe_vE (S : Snd G C R) (g : Gx X G C) (fit : Fit X F) (tk : L2N.Takes X W) (e : Expr) : PE X e (RG X.K W (kF X.K) (vE R F e)) :=
  (S.val X W F e g fit tk).imp fun σv H Q ⟨ρ, Gh, T, σ, w, er, p⟩ => ⟨ρ, Gh, T, σ, w, er, p.froz⟩
theorem pe_vE' (S : Snd G C R) (g : Gx X G C) (fit : Fit X F) (tk : L2N.Takes X W) (e : Expr) : PE X e (RG X.K W (kP X.K) (vE R F e)) :=
  (S.val X W F e g fit tk).imp fun σv H Q ⟨ρ, Gh, T, σ, w, er, p⟩ => ⟨ρ, Gh, T, σ, w, er, p.look⟩
theorem pe_pVar (fit : Fit X F) {x : Str} {pos : Pos} {i : Nat} (hd : isDbg x = false) (hs : slot F x = some i) : PE X (.Name x pos) (RG X.K W (kP X.K) (pVar i)) := by
  obtain ⟨hN, hv⟩ := slot_ok fit hs
  obtain ⟨h1, h2, _⟩ := isDbg_ok hd
  refine (pe_var hN hv h1 h2).imp fun σv H Q ⟨ρ, Gh, T, σ, w, er, p⟩ => ?_
  unfold pVar at p
  split at p
  · rename_i d e
    obtain ⟨v, e2, r⟩ := er.fz e
    exact ⟨v, e2, p v ρ Gh H .refl w (.inl r)⟩
  · rename_i d e
    obtain ⟨v, e2, a, vs, ds, rfl, e3, h3, r, n, _⟩ := er.look e
    exact ⟨_, e2, p _ ρ Gh H .refl w (.inr ⟨a, vs, ds, rfl, e3, h3, r, n⟩)⟩
  · exact p.elim
theorem pe_vVar (fit : Fit X F) {x : Str} {pos : Pos} {i : Nat} (hd : isDbg x = false) (hs : slot F x = some i) : PE X (.Name x pos) (RG X.K W (kV X.K) (vVar i)) := by
  obtain ⟨hN, hv⟩ := slot_ok fit hs
  obtain ⟨h1, h2, _⟩ := isDbg_ok hd
  refine (pe_var hN hv h1 h2).imp fun σv H Q ⟨ρ, Gh, T, σ, w, er, p⟩ => ?_
  unfold vVar at p
  split at p
  · rename_i d e
    obtain ⟨v, e2, r⟩ := er.fz e
    exact ⟨v, e2, p v ρ Gh H .refl w r⟩
  · exact p.elim
theorem pe_pE (S : Snd G C R) (g : Gx X G C) (fit : Fit X F) (tk : L2N.Takes X W) (e : Expr) : PE X e (RG X.K W (kP X.K) (pE R F e)) := by
  cases e
  case Name x pos =>
    have e0 : pE R F (.Name x pos) = if isDbg x then EM.bad else match slot F x with
      | some i => pVar i
      | none => vE R F (.Name x pos) := rfl
    rw [e0]
    cases hd : isDbg x with
    | true => exact PE.bad fun _ _ => rfl
    | false =>
      rw [if_neg Bool.false_ne_true]
      cases hs : slot F x with
      | some i => exact pe_pVar fit hd hs
      | none => exact pe_vE' S g fit tk _
  all_goals exact pe_vE' S g fit tk _
theorem star_of {e : Expr} (h : notStar e = true) (es : List Expr) (env : PySem.Env) : starEach (e :: es) env = (false, eval e env) :: starEach es env := by
  cases e <;> first | rfl | cases h
theorem pa_aL (S : Snd G C R) (g : Gx X G C) (fit : Fit X F) (tk : L2N.Takes X W) : ∀ es : List Expr, es.all notStar = true → PA X es (RG X.K W (kA X.K) (aL R F es))
  | [], _ => pa_nil.imp fun σv H Q ⟨ρ, Gh, T, σ, w, er, p⟩ => p [] ρ Gh H .refl w .nil
  | e :: es, hn => by
    rw [List.all_cons, Bool.and_eq_true] at hn
    unfold aL
    refine (pa_cons (pe_vE S g fit tk e) (pa_aL S g fit tk es hn.2) (star_of hn.1 es X.env)).imp fun σv H Q ⟨ρ, Gh, T, σ, w, er, p⟩ => ?_
    refine ⟨ρ, Gh, T, σ, w, er, (Post.bind kA_sh er p).mono ?_⟩
    rintro v H1 ⟨ρ1, G1, T1, d, kd, t1, w1, er1, p1⟩
    refine ⟨ρ1, G1, T1, σ, w1, er1, (Post.bind kA_sh er1 p1).mono ?_⟩
    rintro vs H2 ⟨ρ2, G2, T2, ds, kds, t2, w2, er2, p2⟩
    exact p2 _ ρ2 G2 H2 .refl w2 (.cons (Rp.tr t2 kd) kds)
theorem pa_aE (S : Snd G C R) (g : Gx X G C) (fit : Fit X F) (tk : L2N.Takes X W) (es : List Expr) : PA X es (RG X.K W (kA X.K) (aE R F es)) := by
  unfold aE
  cases hs : es.all notStar with
  | false => exact ⟨fun pos pins s σ H Q I hw => by
      obtain ⟨ρ, Gh, T, σ', _, _, p⟩ := hw
      exact p.elim⟩
  | true => exact pa_aL S g fit tk es hs
theorem star_back : ∀ {es : List Expr}, es.all notStar = true → ∀ env pos, (backTo pos (starEach es env)).any (·.1) = false
  | [], _, _, _ => rfl
  | e :: es, h, env, pos => by
    rw [List.all_cons, Bool.and_eq_true] at h
    rw [star_of h.1]
    show (false || (backTo pos (starEach es env)).any (·.1)) = false
    rw [Bool.false_or]
    exact star_back h.2 env pos
end
end Mi


set_option Elab.async false
set_option linter.all false
set_option maxRecDepth 100000
/-! MiF: items, slices, lengths, types, built-ins on data. -/
namespace Mi
open PySem PySem.Spec PyProof.Rows L2
section
variable {K : PySem.W.Frag} {ρ : List Addr} {G H : Hp}
theorem atI_of {vs : List V} {ds : List D} {i : Int} {j : Nat} {d : D} (r : Rps K ρ G vs ds) (h1 : ixD ds.length i = some j) (h2 : ds[j]? = some d) : ∃ v, atI vs i = some v ∧ Rp K ρ G v d := by
  obtain ⟨v, e, q⟩ := r.get h2
  refine ⟨v, ?_, q⟩
  unfold atI
  rw [r.length]
  have : ixN ds.length i = some j := h1
  rw [this]
  exact e
theorem getE_str {l : List Nat} {i : Int} {j c : Nat} (h1 : ixD l.length i = some j) (h2 : l[j]? = some c) : atI l i = some c := by
  unfold atI
  have : ixN l.length i = some j := h1
  rw [this]
  exact h2
end
section
variable {X : Cx}
/-- the store object at n that is a list to read -/
theorem Wd.seq {K : PySem.W.Frag} {ρ : List Addr} {G H : Hp} {T : Sto} (w : Wd K ρ G H T) {n : Nat} {a : Addr} {ds : List D} (hr : ρ[n]? = some a) (hT : T[n]? = some (.lst ds) ∨ T[n]? = some (.frz ds)) : ∃ vs, SqL K H a vs ∧ Rps K ρ G vs ds := by
  rcases hT with hT | hT
  · obtain ⟨b, e, vs, h1, r⟩ := w.sto n _ hT
    rw [hr] at e
    cases e
    exact ⟨vs, SqL.of h1, r⟩
  · obtain ⟨b, e, o, vs, h1, r⟩ := w.sto n _ hT
    rw [hr] at e
    cases e
    exact ⟨vs, .inl (.inr ⟨o, h1⟩), r⟩
def rIxM (X : Cx) : R2 := fun x y H Q => ∃ ρ G T a b d, Wd X.K ρ G H T ∧ PRel X.K ρ G H x a ∧ PRel X.K ρ G H y b ∧ itemM a b [] T = .ok d T ∧ ∀ v, Rp X.K ρ G v d → Q v H
theorem ixM : IxR X (rIxM X) := by
  intro value slice pins s σ H x y v u Q I rx ry h hs
  obtain ⟨ρ, G, T, a, b, d, w, pa, pb, e, q⟩ := h
  have lists : ∀ {p : Addr} {vs : List V} {ds : List D}, x = .ref p → SqL X.K H p vs → Rps X.K ρ G vs ds → itemD (.lst ds) b = some d → wpAny (model X.prog X.w) X.A (subscriptTail value slice v u) (EP X pins σ Q) X.xe s := fun {p vs ds} ex hq r e => by
    cases b with
    | int i =>
      cases pb.i
      have e' : ((ixD ds.length i).bind fun j => ds[j]?) = some d := e
      cases e1 : ixD ds.length i with
      | none => rw [e1] at e'; cases e'
      | some j =>
        rw [e1] at e'
        obtain ⟨w1, h1, r1⟩ := atI_of r e1 e'
        exact ix_list value slice pins s σ H x _ v u Q I rx ry ⟨p, vs, i, w1, ex, rfl, hq, h1, q w1 r1⟩ hs
    | _ => cases e
  unfold itemM at e
  split at e
  · rename_i n
    obtain ⟨p, rfl, hr⟩ := pa.o
    split at e
    · rename_i ds hT
      split at e
      · rename_i d' e2
        cases e
        obtain ⟨vs, hq, r⟩ := w.seq hr (.inl hT)
        exact lists rfl hq r e2
      · cases e
    · cases e
  · split at e
    · rename_i d' e2
      cases e
      cases a with
      | lst ds =>
        obtain ⟨p, vs, rfl, h1, r⟩ := pa.l w.sub
        exact lists rfl (SqL.of h1) r e2
      | tup ds =>
        obtain ⟨p, vs, rfl, h1, r⟩ := pa.t
        cases b with
        | int i =>
          cases pb.i
          have e' : ((ixD ds.length i).bind fun j => ds[j]?) = some d := e2
          cases e1 : ixD ds.length i with
          | none => rw [e1] at e'; cases e'
          | some j =>
            rw [e1] at e'
            obtain ⟨w1, h2, r1⟩ := atI_of r e1 e'
            exact ix_tup value slice pins s σ H _ _ v u Q I rx ry ⟨p, vs, i, w1, rfl, rfl, SqT.sub w.sub h1, h2, q w1 r1⟩ hs
        | _ => cases e2
      | str z =>
        cases pa.s
        cases b with
        | int i =>
          cases pb.i
          have e' : (if fits z.length = true then (ixD z.length i).bind fun j => z.cps.toList[j]?.map fun c => D.str ⟨#[c]⟩ else none) = some d := e2
          split at e'
          · rename_i hf
            have hl : z.length = z.cps.toList.length := by simp [Str.length]
            cases e1 : ixD z.length i with
            | none => rw [e1] at e'; cases e'
            | some j =>
              rw [e1] at e'
              have e3 : z.cps.toList[j]?.map (fun c => D.str ⟨#[c]⟩) = some d := e'
              cases e4 : z.cps.toList[j]? with
              | none => rw [e4] at e3; cases e3
              | some c =>
                rw [e4] at e3
                have e5 : D.str ⟨#[c]⟩ = d := by simpa using e3
                subst e5
                rw [hl] at e1
                exact ix_str value slice pins s σ H _ _ v u Q I rx ry ⟨z, i, c, rfl, rfl, fits_iff.mp hf, getE_str e1 e4, q _ (.str _)⟩ hs
          · cases e'
        | _ => cases e2
      | _ => cases b <;> cases e2
    · cases e

def rSlM (X : Cx) : V → Option Int → Option Int → Hp → VK → Prop := fun x lo hi H Q => ∃ ρ G T a d, Wd X.K ρ G H T ∧ PRel X.K ρ G H x a ∧ sliceD a lo hi = some d ∧ Done X.K ρ G H T Q (d, isLst d)
theorem cutL_whole {α : Type} {xs : List α} {lo hi : Option Int} (h : HT.sIx xs.length 0 lo = 0 ∧ HT.sIx xs.length xs.length hi = xs.length) : cutL xs lo hi = xs := by
  unfold cutL
  rw [h.1, h.2, List.drop_zero, Nat.sub_zero, List.take_length]
theorem slM : SlR X (rSlM X) := by
  intro pins s σ H x v vl vu lo hi sl Q I rx hs pl pu h
  obtain ⟨ρ, G, T, a, d, w, pa, e, q⟩ := h
  cases a with
  | tup ds =>
    cases e
    obtain ⟨p, vs, rfl, h1, r⟩ := pa.t
    refine sl_tupA pins s σ H _ v vl vu lo hi sl Q I rx hs pl pu ⟨p, vs, rfl, SqT.sub w.sub h1, fun z => ?_, fun z p' hp => Done.tup q w (r.cut lo hi) hp⟩
    refine q.frozen w (.tup h1 ?_)
    rw [r.length] at z
    rw [cutL_whole z]
    exact r
  | lst ds =>
    cases e
    obtain ⟨p, vs, rfl, h1, r⟩ := pa.l w.sub
    exact sl_list pins s σ H _ v vl vu lo hi sl Q I rx hs pl pu ⟨p, vs, rfl, SqL.of h1, fun p' hp => Done.lst q w (r.cut lo hi) hp⟩
  | str z =>
    cases pa.s
    have e' : (if fits z.length = true then some (D.str ⟨(cutL z.cps.toList lo hi).toArray⟩) else none) = some d := e
    split at e'
    · rename_i hf
      have e5 : D.str ⟨(cutL z.cps.toList lo hi).toArray⟩ = d := by simpa using e'
      subst e5
      refine sl_str pins s σ H _ v vl vu lo hi sl Q I rx hs pl pu ⟨z, rfl, fits_iff.mp hf, ?_⟩
      have ec : cutS z lo hi = ⟨(cutL z.cps.toList lo hi).toArray⟩ := by
        unfold cutS cutL
        have hl : z.length = z.cps.toList.length := by simp [Str.length]
        rw [hl]
      rw [ec]
      exact q.frozen w (.str _)
    · cases e'
  | _ => cases e

/-! ### len -/
theorem lenR : CallR X (.builtin "len") (fun xs H Q => ∃ x ρ G T a d, xs = [x] ∧ Wd X.K ρ G H T ∧ PRel X.K ρ G H x a ∧ lenM a [] T = .ok d T ∧ ∀ v, Rp X.K ρ G v d → Q v H) := by
  intro pins s σ H xs us Q I r h
  obtain ⟨x, ρ, G, T, a, d, rfl, w, pa, e, q⟩ := h
  unfold lenM at e
  split at e
  · rename_i n
    obtain ⟨p, rfl, hr⟩ := pa.o
    split at e
    · rename_i ds hT
      cases e
      obtain ⟨vs, hq, rr⟩ := w.seq hr (.inl hT)
      refine call_len_seq pins s σ H _ us Q I r ⟨p, vs, rfl, .inl hq, ?_⟩
      rw [rr.length]
      exact q _ (.int _)
    · cases e
  · split at e
    · rename_i k e2
      cases e
      cases a with
      | lst ds =>
        obtain ⟨p, vs, rfl, h1, rr⟩ := pa.l w.sub
        cases e2
        refine call_len_seq pins s σ H _ us Q I r ⟨p, vs, rfl, .inl (SqL.of h1), ?_⟩
        rw [rr.length]
        exact q _ (.int _)
      | tup ds =>
        obtain ⟨p, vs, rfl, h1, rr⟩ := pa.t
        cases e2
        refine call_len_seq pins s σ H _ us Q I r ⟨p, vs, rfl, .inr (SqT.sub w.sub h1), ?_⟩
        rw [rr.length]
        exact q _ (.int _)
      | str z =>
        cases pa.s
        have e' : (if fits z.length = true then some z.length else none) = some k := e2
        split at e'
        · rename_i hf
          have e5 : z.length = k := by simpa using e'
          subst e5
          exact call_len_str pins s σ H _ us Q I r ⟨z, rfl, fits_iff.mp hf, q _ (.int _)⟩
        · cases e'
      | _ => cases e2
    · cases e

/-! ### isinstance -/
def tyS : D → String
  | .non => "NoneType"
  | .bl _ => "bool"
  | .int _ => "int"
  | .str _ => "str"
  | .tup _ => "tuple"
  | .lst _ => "list"
  | _ => ""
theorem tyD {K : PySem.W.Frag} {ρ : List Addr} {G H : Hp} {v : V} {d : D} (s : Sub G H) (h : PRel K ρ G H v d) (n : noObj d = true) :
    ∃ t, TyX K H v (.type t) ∧ t = tyS d ∧ (∀ kvs, d ≠ .dct kvs) := by
  cases d with
  | non => cases h.n; exact ⟨_, .base .non, rfl, fun _ z => nomatch z⟩
  | bl b => cases h.b; exact ⟨_, .base (.bl _), rfl, fun _ z => nomatch z⟩
  | int i => cases h.i; exact ⟨_, .base (.int _), rfl, fun _ z => nomatch z⟩
  | str z => cases h.s; exact ⟨_, .base (.str _), rfl, fun _ z => nomatch z⟩
  | tup ds =>
    obtain ⟨a, vs, rfl, h1, r⟩ := h.t
    refine ⟨_, ?_, rfl, fun _ z => nomatch z⟩
    rcases SqT.sub s h1 with (h2 | ⟨o, h2⟩) | ⟨o, its, n', hk, hc, _⟩
    · exact .base (.tup h2)
    · exact .fTuple h2
    · exact .kTuple hk hc
  | lst ds =>
    obtain ⟨a, vs, rfl, h1, r⟩ := h.l s
    exact ⟨_, .base (.lst h1), rfl, fun _ z => nomatch z⟩
  | dct kvs => exact (h.d).elim
  | obj m => cases n
/-- the class's name -/
def tyN (T : Str) : String := if T = ("int" : Str) then "int" else if T = ("bool" : Str) then "bool" else if T = ("str" : Str) then "str" else if T = ("tuple" : Str) then "tuple" else "list"
theorem isi_kit {T : Str} {d : D} {b : Bool} {t : String} (n : noObj d = true) (e : isiD T d = some b) (nd : ∀ kvs, d ≠ .dct kvs)
    (et : t = tyS d) : kitB t (tyN T) = some b := by
  subst et
  unfold isiD at e
  unfold tyN
  split at e
  · rename_i h; subst h
    cases d <;> first | (exact absurd rfl (nd _)) | (cases n; done) | (cases e; kernel_rfl)
  · split at e
    · rename_i h0 h; subst h
      cases d <;> first | (exact absurd rfl (nd _)) | (cases n; done) | (cases e; kernel_rfl)
    · split at e
      · rename_i h0 h1 h; subst h
        cases d <;> first | (exact absurd rfl (nd _)) | (cases n; done) | (cases e; kernel_rfl)
      · split at e
        · rename_i h0 h1 h2 h; subst h
          cases d <;> first | (exact absurd rfl (nd _)) | (cases n; done) | (cases e; kernel_rfl)
        · split at e
          · rename_i h0 h1 h2 h3 h; subst h
            cases d <;> first | (exact absurd rfl (nd _)) | (cases n; done) | (cases e; kernel_rfl)
          · cases e
theorem isi_boot {T : Str} {d : D} {b : Bool} (e : isiD T d = some b) : bootBuiltins T = some (.type (tyN T)) ∧ T ∈ bltNames := by
  unfold isiD at e
  unfold tyN
  split at e
  · rename_i h; subst h; exact ⟨by decide +kernel, by decide +kernel⟩
  · split at e
    · rename_i h0 h; subst h; exact ⟨by decide +kernel, by decide +kernel⟩
    · split at e
      · rename_i h0 h1 h; subst h; exact ⟨by decide +kernel, by decide +kernel⟩
      · split at e
        · rename_i h0 h1 h2 h; subst h; exact ⟨by decide +kernel, by decide +kernel⟩
        · split at e
          · rename_i h0 h1 h2 h3 h; subst h; exact ⟨by decide +kernel, by decide +kernel⟩
          · cases e
end
end Mi


set_option Elab.async false
set_option linter.all false
set_option maxRecDepth 100000
/-! MiG: the steps of expressions (comprehensions apart). -/
namespace Mi
open PySem PySem.Spec PyProof.Rows L2
section
variable {X : Cx}
/-- a one-argument built-in by values -/
def rBlt (X : Cx) (f : Str) : List V → Hp → VK → Prop := fun xs H Q => ∃ x ρ G T d r, xs = [x] ∧ Wd X.K ρ G H T ∧ PRel X.K ρ G H x d ∧ bltD f [d] = some r ∧ Done X.K ρ G H T Q r
theorem cr_of {f g : Value} {r r' : List V → Hp → VK → Prop} (h : CallR X f r) (i : ∀ xs H Q, r' xs H Q → r xs H Q) : CallR X f r' := fun pins s σ H xs us Q I rv hq => h pins s σ H xs us Q I rv (i xs H Q hq)
theorem bltR_abs : CallR X (.builtin "abs") (rBlt X "abs") := cr_of (g := .none) call_abs fun xs H Q ⟨x, ρ, G, T, d, r, ex, w, p, e, q⟩ => by
  subst ex
  cases d <;> first | (cases e; done) | skip
  cases p.i
  cases e
  exact ⟨_, rfl, q.frozen w (.int _)⟩
theorem bltR_int : CallR X (.type "int") (rBlt X "int") := cr_of (g := .none) call_int1 fun xs H Q ⟨x, ρ, G, T, d, r, ex, w, p, e, q⟩ => by
  subst ex
  cases d <;> first | (cases e; done) | skip
  · cases p.b
    cases e
    exact .inr ⟨_, rfl, q.frozen w (.int _)⟩
  · cases p.i
    cases e
    exact .inl ⟨_, rfl, q.frozen w (.int _)⟩
theorem bltR_bool : CallR X (.type "bool") (rBlt X "bool") := cr_of (g := .none) call_bool1 fun xs H Q ⟨x, ρ, G, T, d, r, ex, w, p, e, q⟩ => by
  subst ex
  cases d <;> first | (cases e; done) | skip
  · cases p.b
    cases e
    exact .inr ⟨_, rfl, q.frozen w (.bl _)⟩
  · cases p.i
    cases e
    exact .inl ⟨_, rfl, q.frozen w (.bl _)⟩
theorem bltR_tuple : CallR X (.type "tuple") (rBlt X "tuple") := cr_of (g := .none) call_tuple_of fun xs H Q ⟨x, ρ, G, T, d, r, ex, w, p, e, q⟩ => by
  subst ex
  cases d <;> first | (cases e; done) | skip
  · obtain ⟨a, vs, rfl, h1, rr⟩ := p.t
    cases e
    exact ⟨a, vs, rfl, .inr ⟨SqT.sub w.sub h1, q.frozen w (.tup h1 rr)⟩⟩
  · obtain ⟨a, vs, rfl, h1, rr⟩ := p.l w.sub
    cases e
    exact ⟨a, vs, rfl, .inl ⟨SqL.of h1, fun l hl => Done.tup q w rr hl⟩⟩
theorem bltR_all (hc : X.calm = true) : CallR X (.builtin "all") (rBlt X "all") := cr_of (g := .none) (cr_all hc) fun xs H Q ⟨x, ρ, G, T, d, r, ex, w, p, e, q⟩ => by
  subst ex
  cases d <;> first | (cases e; done) | skip
  rename_i ds
  obtain ⟨a, vs, rfl, h1, rr⟩ := p.l w.sub
  have e' : (boolsOf ds).map (fun bs => (D.bl (bs.all id), false)) = some r := e
  cases eb : boolsOf ds with
  | none => rw [eb] at e'; cases e'
  | some bs =>
    rw [eb] at e'
    have e2 : (D.bl (bs.all id), false) = r := by simpa using e'
    subst e2
    refine ⟨a, bs, rfl, SqL.of (by rw [h1, rr.of_bools eb]), q.frozen w (.bl _)⟩
theorem bltR_any (hc : X.calm = true) : CallR X (.builtin "any") (rBlt X "any") := cr_of (g := .none) (cr_any hc) fun xs H Q ⟨x, ρ, G, T, d, r, ex, w, p, e, q⟩ => by
  subst ex
  cases d <;> first | (cases e; done) | skip
  rename_i ds
  obtain ⟨a, vs, rfl, h1, rr⟩ := p.l w.sub
  have e' : (boolsOf ds).map (fun bs => (D.bl (bs.any id), false)) = some r := e
  cases eb : boolsOf ds with
  | none => rw [eb] at e'; cases e'
  | some bs =>
    rw [eb] at e'
    have e2 : (D.bl (bs.any id), false) = r := by simpa using e'
    subst e2
    refine ⟨a, bs, rfl, SqL.of (by rw [h1, rr.of_bools eb]), q.frozen w (.bl _)⟩
theorem bltR_sum (hc : X.calm = true) : CallR X (.builtin "sum") (rBlt X "sum") := cr_of (g := .none) (cr_sum hc) fun xs H Q ⟨x, ρ, G, T, d, r, ex, w, p, e, q⟩ => by
  subst ex
  cases d <;> first | (cases e; done) | skip
  rename_i ds
  obtain ⟨a, vs, rfl, h1, rr⟩ := p.l w.sub
  have e' : (intsOf ds).map (fun ns => (D.int ns.sum, false)) = some r := e
  cases eb : intsOf ds with
  | none => rw [eb] at e'; cases e'
  | some ns =>
    rw [eb] at e'
    have e2 : (D.int ns.sum, false) = r := by simpa using e'
    subst e2
    refine ⟨a, ns, rfl, SqL.of (by rw [h1, rr.of_ints eb]), q.frozen w (.int _)⟩
theorem Rps.pairs : ∀ {K : PySem.W.Frag} {ρ : List Addr} {G : Hp} {vs : List V} {ds : List D}, Rps K ρ G vs ds → ∃ bs : List (V × D), bs.map (·.1) = vs ∧ bs.map (·.2) = ds ∧ ∀ b ∈ bs, Rp K ρ G b.1 b.2
  | _, _, _, [], _, h => by cases h; exact ⟨[], rfl, rfl, fun b hb => by cases hb⟩
  | _, _, _, v :: vs, _, h => by
    cases h with
    | cons h1 h2 =>
      obtain ⟨bs, e1, e2, e3⟩ := Rps.pairs h2
      refine ⟨(v, _) :: bs, by rw [List.map_cons, e1], by rw [List.map_cons, e2], fun b hb => ?_⟩
      rcases List.mem_cons.mp hb with rfl | hb
      · exact h1
      · exact e3 b hb
theorem Rps.ofPairs {K : PySem.W.Frag} {ρ : List Addr} {G : Hp} : ∀ (bs : List (V × D)), (∀ b ∈ bs, Rp K ρ G b.1 b.2) → Rps K ρ G (bs.map (·.1)) (bs.map (·.2))
  | [], _ => .nil
  | b :: bs, h => .cons (h b List.mem_cons_self) (Rps.ofPairs bs fun c hc => h c (List.mem_cons_of_mem _ hc))
theorem plains_mem : ∀ {ds : List D}, D.plains ds = true → ∀ d ∈ ds, d.plain = true
  | [], _, _, h => by cases h
  | d :: ds, h, e, he => by
    have h' : (d.plain && D.plains ds) = true := h
    rw [Bool.and_eq_true] at h'
    rcases List.mem_cons.mp he with rfl | he
    · exact h'.1
    · exact plains_mem h'.2 e he
theorem deeps_mem : ∀ {ds : List D} {n : Nat}, D.deeps ds ≤ n → ∀ d ∈ ds, d.deep ≤ n
  | [], _, _, _, h => by cases h
  | d :: ds, n, h, e, he => by
    have h' : max d.deep (D.deeps ds) ≤ n := h
    rcases List.mem_cons.mp he with rfl | he
    · omega
    · exact deeps_mem (by omega) e he
theorem bltR_sorted (hu : X.A.units + 200 < cLine) : CallR X (.builtin "sorted") (rBlt X "sorted") := cr_of (g := .none) (cr_sortedD D.py) fun xs H Q ⟨x, ρ, G, T, d, r, ex, w, p, e, q⟩ => by
  subst ex
  cases d <;> first | (cases e; done) | skip
  rename_i ds
  obtain ⟨a, vs, rfl, h1, rr⟩ := p.l w.sub
  have e' : (sortD ds).map (fun ys => (D.lst ys, true)) = some r := e
  unfold sortD at e'
  split at e'
  · rename_i hf
    simp only [Bool.and_eq_true, decide_eq_true_eq] at hf
    obtain ⟨⟨⟨⟨f1, f2⟩, f3⟩, f4⟩, f5⟩ := hf
    have er : (D.lst (ds.mergeSort (PySem.W.dataLe false D.py)), true) = r := by simpa using e'
    subst er
    obtain ⟨bs, b1, b2, b3⟩ := rr.pairs
    have hm : ∀ b ∈ bs, b.2 ∈ ds := fun b hb => by rw [← b2]; exact List.mem_map_of_mem hb
    have hm2 : ∀ z ∈ (bs.map fun b => D.py b.2), ∃ d ∈ ds, z = d.py := fun z hz => by
      obtain ⟨b, hb, rfl⟩ := List.mem_map.mp hz
      exact ⟨_, hm b hb, rfl⟩
    refine ⟨a, bs, rfl, SqL.of (by rw [b1]; exact h1), fun b hb => (b3 b hb).dp w.sub _ _ (plains_mem f1 _ (hm b hb)), ?_, ?_, fun b hb => ?_, fun l hl => ?_⟩
    · intro z hz z' hz'
      obtain ⟨d, hd, rfl⟩ := hm2 z hz
      obtain ⟨d', hd', rfl⟩ := hm2 z' hz'
      exact List.all_eq_true.mp (List.all_eq_true.mp f5 d hd) d' hd'
    · refine .inl fun z hz => ?_
      obtain ⟨d, hd, rfl⟩ := hm2 z hz
      have := List.all_eq_true.mp f4 d hd
      cases d <;> first | (cases this; done) | skip
      rename_i ts
      cases ts with
      | nil => cases this
      | cons t ts => exact ⟨_, _, rfl⟩
    · rw [plain_deep _ (plains_mem f1 _ (hm b hb))]
      have := deeps_mem f3 _ (hm b hb)
      omega
    · have es : (bs.mergeSort (PySem.W.dataLe false fun b => D.py b.2)).map (·.2) = ds.mergeSort (PySem.W.dataLe false D.py) := by
        rw [← b2]
        exact List.map_mergeSort fun a _ b _ => rfl
      rw [← es] at q
      exact Done.lst q w (Rps.ofPairs _ fun b hb => b3 b (List.mem_mergeSort.mp hb)) hl
  · cases e'
theorem listR : CallR X (.type "list") (fun xs H Q => ∃ x ρ G T d r, xs = [x] ∧ Wd X.K ρ G H T ∧ PRel X.K ρ G H x d ∧ listM d [] T = .ok r T ∧ Done X.K ρ G H T Q r) := cr_of (g := .none) call_list_of fun xs H Q ⟨x, ρ, G, T, d, r, ex, w, p, e, q⟩ => by
  subst ex
  cases d <;> first | (cases e; done) | skip
  · obtain ⟨a, vs, rfl, h1, rr⟩ := p.t
    cases e
    exact ⟨a, vs, rfl, .inr (SqT.sub w.sub h1), fun l hl => Done.lst q w rr hl⟩
  · obtain ⟨a, vs, rfl, h1, rr⟩ := p.l w.sub
    cases e
    exact ⟨a, vs, rfl, .inl (SqL.of h1), fun l hl => Done.lst q w rr hl⟩
  · rename_i n
    obtain ⟨a, rfl, hr⟩ := p.o
    unfold listM at e
    simp only at e
    split at e
    · rename_i ds hT
      cases e
      obtain ⟨vs, hq, rr⟩ := w.seq hr (.inr hT)
      exact ⟨a, vs, rfl, .inl hq, fun l hl => Done.lst q w rr hl⟩
    · cases e
end

section
variable {X : Cx} {W : WX} {F : Fi} {G : Gi} {C : CallT} {R : Dn}
theorem ok_pure {α β : Type} {K : PySem.W.Frag} {k : Kd β α} {ρ : List Addr} {Gh H : Hp} {σv : L2.St} {σ : Env} {T : Sto} {Q : β → Hp → Prop} {a : α} {b : β} (h : Post K W k ρ Gh H σv Q ((EM.pure a : EM α) σ T)) (w : Wd K ρ Gh H T) (z : k ρ Gh H H b a) : Q b H :=
  h b ρ Gh H .refl w z
theorem ok_lift {α β γ : Type} {K : PySem.W.Frag} {k : Kd β α} {ρ : List Addr} {Gh H : Hp} {σv : L2.St} {σ : Env} {T : Sto} {Q : β → Hp → Prop} {o : Option γ} {f : γ → EM α} (h : Post K W k ρ Gh H σv Q (EM.bind (EM.lift o) f σ T)) : ∃ c, o = some c ∧ Post K W k ρ Gh H σv Q (f c σ T) := by
  cases o with
  | none => exact (show False from h).elim
  | some c => exact ⟨c, rfl, h⟩
theorem ok_lift1 {α β : Type} {K : PySem.W.Frag} {k : Kd β α} {ρ : List Addr} {Gh H : Hp} {σv : L2.St} {σ : Env} {T : Sto} {Q : β → Hp → Prop} {o : Option α} (h : Post K W k ρ Gh H σv Q (EM.lift o σ T)) : ∃ c, o = some c ∧ Post K W k ρ Gh H σv Q (.ok c T) := by
  cases o with
  | none => exact (show False from h).elim
  | some c => exact ⟨c, rfl, h⟩
theorem ok_done {ρ : List Addr} {Gh H : Hp} {σv : L2.St} {σ : Env} {T : Sto} {Q : VK} {r : D × Bool} (h : Post X.K W (kV X.K) ρ Gh H σv Q ((EM.pure r : EM (D × Bool)) σ T)) : Done X.K ρ Gh H T Q r :=
  fun v ρ' G' H' t w z => h v ρ' G' H' t w z
theorem st_const (c : Const) {j pos} : PE X (.Constant c j pos) (RG X.K W (kV X.K) (EM.bind (EM.lift (constD c)) fun d => EM.pure (d, false))) := by
  cases c
  case none => exact pe_non.imp fun σv H Q ⟨ρ, Gh, T, σ, w, er, p⟩ => p .non ρ Gh H .refl w .non
  case bool b => exact pe_bl.imp fun σv H Q ⟨ρ, Gh, T, σ, w, er, p⟩ => p (.bl b) ρ Gh H .refl w (.bl b)
  case int i => exact pe_int.imp fun σv H Q ⟨ρ, Gh, T, σ, w, er, p⟩ => p (.int i) ρ Gh H .refl w (.int i)
  case str s => exact pe_str.imp fun σv H Q ⟨ρ, Gh, T, σ, w, er, p⟩ => p (.str s) ρ Gh H .refl w (.str s)
  all_goals exact PE.bad fun _ _ => rfl
theorem st_name (g : Gx X G C) (fit : Fit X F) (x : Str) (pos : Pos) : PE X (.Name x pos) (RG X.K W (kV X.K) (if isDbg x then EM.bad else (match slot F x with
    | some i => vVar i
    | none => if isGl F.sc x then EM.bind (EM.lift (G.cst.lookup x)) fun d => EM.pure (d, false) else EM.bad))) := by
  cases hd : isDbg x with
  | true => exact PE.bad fun _ _ => rfl
  | false =>
    rw [if_neg Bool.false_ne_true]
    cases hs : slot F x with
    | some i => exact pe_vVar fit hd hs
    | none =>
      show PE X _ (RG X.K W (kV X.K) (if isGl F.sc x then EM.bind (EM.lift (G.cst.lookup x)) fun d => EM.pure (d, false) else EM.bad))
      cases hg : isGl F.sc x with
      | false => exact PE.bad fun _ _ => rfl
      | true =>
        rw [if_pos rfl]
        cases hc : G.cst.lookup x with
        | none => exact PE.bad fun _ _ => rfl
        | some d =>
          obtain ⟨u, v, hm, r, hr⟩ := g.cst x d hc
          exact (pe_glob (isGl_ok fit hg) hm r (isDbg_ok hd).1).imp fun σv H Q ⟨ρ, Gh, T, σ, w, er, p⟩ => p v ρ Gh H .refl w (hr ρ Gh)
theorem st_bin (S : Snd G C R) (g : Gx X G C) (fit : Fit X F) (tk : L2N.Takes X W) (a : Expr) (op : Operator) (b : Expr) (pos : Pos) :
    PE X (.BinOp a op b pos) (RG X.K W (kV X.K) (EM.bind (pE R F a) fun x => EM.bind (pE R F b) fun y => EM.bind (EM.lift (binD op x y)) fun d => EM.pure (d, isLst d))) := by
  refine (pe_op (opBin op) (pe_pE S g fit tk a) (pe_pE S g fit tk b)).imp fun σv H Q ⟨ρ, Gh, T, σ, w, er, p⟩ => ?_
  refine ⟨ρ, Gh, T, σ, w, er, (Post.bind kV_sh er p).mono ?_⟩
  rintro x H1 ⟨ρ1, G1, T1, d1, k1, t1, w1, er1, p1⟩
  refine ⟨ρ1, G1, T1, σ, w1, er1, (Post.bind kV_sh er1 p1).mono ?_⟩
  rintro y H2 ⟨ρ2, G2, T2, d2, k2, t2, w2, er2, p2⟩
  obtain ⟨d, e, p3⟩ := ok_lift p2
  exact ⟨ρ2, G2, T2, d1, d2, d, w2, PRel.tr t2 k1, k2, e, ok_done p3⟩
theorem st_neg (S : Snd G C R) (g : Gx X G C) (fit : Fit X F) (tk : L2N.Takes X W) (a : Expr) (pos : Pos) :
    PE X (.UnaryOp .USub a pos) (RG X.K W (kV X.K) (EM.bind (vE R F a) fun x => match x with
    | .int i => EM.pure (.int (-i), false)
    | _ => EM.bad)) := by
  refine (pe_un un_neg (pe_vE S g fit tk a)).imp fun σv H Q ⟨ρ, Gh, T, σ, w, er, p⟩ => ?_
  refine ⟨ρ, Gh, T, σ, w, er, (Post.bind kV_sh er p).mono ?_⟩
  rintro x H1 ⟨ρ1, G1, T1, d1, k1, t1, w1, er1, p1⟩
  cases d1 <;> first | exact (show False from p1).elim | skip
  cases Rp.i k1
  exact ⟨_, rfl, ok_pure p1 w1 (.int _)⟩
theorem st_not (S : Snd G C R) (g : Gx X G C) (fit : Fit X F) (tk : L2N.Takes X W) (a : Expr) (pos : Pos) :
    PE X (.UnaryOp .Not a pos) (RG X.K W (kV X.K) (EM.bind (pE R F a) fun x => EM.bind (EM.lift (truD x)) fun b => EM.pure (.bl (!b), false))) := by
  refine (pe_notT (pe_pE S g fit tk a)).imp fun σv H Q ⟨ρ, Gh, T, σ, w, er, p⟩ => ?_
  refine ⟨ρ, Gh, T, σ, w, er, (Post.bind kV_sh er p).mono ?_⟩
  rintro x H1 ⟨ρ1, G1, T1, d1, k1, t1, w1, er1, p1⟩
  obtain ⟨b, e, p2⟩ := ok_lift p1
  exact ⟨b, truV w1.sub k1 e, ok_pure p2 w1 (.bl _)⟩
theorem st_and (S : Snd G C R) (g : Gx X G C) (fit : Fit X F) (tk : L2N.Takes X W) (pos : Pos) : ∀ es : List Expr, PE X (.BoolOp .And es pos) (RG X.K W (kV X.K) (vAnd R F es))
  | [] => PE.bad fun _ _ => rfl
  | [e] => (pe_one (pe_vE S g fit tk e)).imp fun σv H Q ⟨ρ, Gh, T, σ, w, er, p⟩ => by
    refine ⟨ρ, Gh, T, σ, w, er, (Post.bind kV_sh er p).mono ?_⟩
    rintro x H1 ⟨ρ1, G1, T1, d1, k1, t1, w1, er1, p1⟩
    exact ok_pure p1 w1 k1
  | e :: e2 :: es => by
    refine (pe_andT (pe_vE S g fit tk e) (st_and S g fit tk pos (e2 :: es))).imp fun σv H Q ⟨ρ, Gh, T, σ, w, er, p⟩ => ?_
    refine ⟨ρ, Gh, T, σ, w, er, (Post.bind kV_sh er p).mono ?_⟩
    rintro x H1 ⟨ρ1, G1, T1, d1, k1, t1, w1, er1, p1⟩
    obtain ⟨b, e, p2⟩ := ok_lift p1
    refine ⟨b, truV w1.sub (.inl k1) e, ?_⟩
    cases b with
    | true => exact ⟨ρ1, G1, T1, σ, w1, er1, p2⟩
    | false => exact ok_pure (σ := σ) p2 w1 k1
theorem st_or (S : Snd G C R) (g : Gx X G C) (fit : Fit X F) (tk : L2N.Takes X W) (pos : Pos) : ∀ es : List Expr, PE X (.BoolOp .Or es pos) (RG X.K W (kV X.K) (vOr R F es))
  | [] => PE.bad fun _ _ => rfl
  | [e] => (pe_one (pe_vE S g fit tk e)).imp fun σv H Q ⟨ρ, Gh, T, σ, w, er, p⟩ => by
    refine ⟨ρ, Gh, T, σ, w, er, (Post.bind kV_sh er p).mono ?_⟩
    rintro x H1 ⟨ρ1, G1, T1, d1, k1, t1, w1, er1, p1⟩
    exact ok_pure p1 w1 k1
  | e :: e2 :: es => by
    refine (pe_orT (pe_vE S g fit tk e) (st_or S g fit tk pos (e2 :: es))).imp fun σv H Q ⟨ρ, Gh, T, σ, w, er, p⟩ => ?_
    refine ⟨ρ, Gh, T, σ, w, er, (Post.bind kV_sh er p).mono ?_⟩
    rintro x H1 ⟨ρ1, G1, T1, d1, k1, t1, w1, er1, p1⟩
    obtain ⟨b, e, p2⟩ := ok_lift p1
    refine ⟨b, truV w1.sub (.inl k1) e, ?_⟩
    cases b with
    | true => exact ok_pure (σ := σ) p2 w1 k1
    | false => exact ⟨ρ1, G1, T1, σ, w1, er1, p2⟩
theorem noMark {b : Expr} (h : notSet b = true) (op : CmpOp) : behindInMarks op b = false := by
  cases b <;> first | rfl | cases h
/-- a comparison reaches its truth -/
theorem rd_cmp (S : Snd G C R) (g : Gx X G C) (fit : Fit X F) (tk : L2N.Takes X W) (a : Expr) (op : CmpOp) (b : Expr) {σv : L2.St} {H : Hp} {Q : Bool → Hp → Prop} (h : RG X.K W kB (cM R F op a b) σv H Q) :
    tOp (rC X (cmpD op)) (RG X.K W (kP X.K) (pE R F a)) (RG X.K W (kP X.K) (pE R F b)) σv H (fun v H' => ∃ k, v = .bl k ∧ Q k H') := by
  obtain ⟨ρ, Gh, T, σ, w, er, p⟩ := h
  refine ⟨ρ, Gh, T, σ, w, er, (Post.bind kB_sh er p).mono ?_⟩
  rintro x H1 ⟨ρ1, G1, T1, d1, k1, t1, w1, er1, p1⟩
  refine ⟨ρ1, G1, T1, σ, w1, er1, (Post.bind kB_sh er1 p1).mono ?_⟩
  rintro y H2 ⟨ρ2, G2, T2, d2, k2, t2, w2, er2, p2⟩
  obtain ⟨k, e, p3⟩ := ok_lift1 p2
  exact ⟨ρ2, G2, T2, d1, d2, k, w2, PRel.tr t2 k1, k2, e, k, rfl, p3 k ρ2 G2 H2 .refl w2 rfl⟩
theorem st_cmpT (S : Snd G C R) (g : Gx X G C) (fit : Fit X F) (tk : L2N.Takes X W) (a : Expr) (op : CmpOp) (b : Expr) (pos : Pos) (hs : notSet b = true) : PT X (.Compare a [op] [b] pos) (RG X.K W kB (cM R F op a b)) :=
  (pt_cmpR (opCmp g.un op) (pe_pE S g fit tk a) (pe_pE S g fit tk b) (noMark hs op)).imp fun σv H Q h => rd_cmp S g fit tk a op b h
/-- a Bool's run as a value's -/
theorem RG.bl {m : EM Bool} {σv : L2.St} {H : Hp} {Q : VK} (h : RG X.K W (kV X.K) (EM.bind m fun k => EM.pure (.bl k, false)) σv H Q) : RG X.K W kB m σv H (fun k H' => Q (.bl k) H') := by
  obtain ⟨ρ, Gh, T, σ, w, er, p⟩ := h
  refine ⟨ρ, Gh, T, σ, w, er, (Post.bind kV_sh er p).mono ?_⟩
  rintro k H1 ⟨ρ1, G1, T1, d1, k1, t1, w1, er1, p1⟩
  cases (show k = d1 from k1)
  exact ok_pure p1 w1 (.bl _)
theorem tOp_mono {r : R2} {ta tb : TE} {σv : L2.St} {H : Hp} {Q Q' : VK} (hr : ∀ x y H, r x y H Q → r x y H Q') (ha : ∀ (P P' : VK), (∀ v H, P v H → P' v H) → ∀ H, ta σv H P → ta σv H P') (hb : ∀ (P P' : VK), (∀ v H, P v H → P' v H) → ∀ H, tb σv H P → tb σv H P') (h : tOp r ta tb σv H Q) : tOp r ta tb σv H Q' :=
  ha _ _ (fun x H1 z => hb _ _ (fun y H2 z2 => hr x y H2 z2) H1 z) H h
theorem RG.mono {α β : Type} {K : PySem.W.Frag} {k : Kd β α} {m : EM α} {σv : L2.St} {H : Hp} {Q Q' : β → Hp → Prop} (hq : ∀ v H, Q v H → Q' v H) (h : RG K W k m σv H Q) : RG K W k m σv H Q' := by
  obtain ⟨ρ, Gh, T, σ, w, er, p⟩ := h
  exact ⟨ρ, Gh, T, σ, w, er, p.mono hq⟩
theorem st_cmpV (S : Snd G C R) (g : Gx X G C) (fit : Fit X F) (tk : L2N.Takes X W) (a : Expr) (op : CmpOp) (b : Expr) (pos : Pos) (hs : notSet b = true) : PE X (.Compare a [op] [b] pos) (RG X.K W (kV X.K) (EM.bind (cM R F op a b) fun k => EM.pure (.bl k, false))) := by
  refine (pe_cmpR (opCmp g.un op) (pe_pE S g fit tk a) (pe_pE S g fit tk b) (noMark hs op)).imp fun σv H Q h => ?_
  refine tOp_mono (Q := fun v H' => ∃ k, v = .bl k ∧ Q (.bl k) H') (fun x y H' z => ?_) (fun P P' i H z => RG.mono i z) (fun P P' i H z => RG.mono i z) (rd_cmp S g fit tk a op b (RG.bl h))
  obtain ⟨ρ, G', T, a', b', k, w, pa, pb, e, k2, e2, q⟩ := z
  cases e2
  exact ⟨ρ, G', T, a', b', k, w, pa, pb, e, q⟩
end
end Mi


set_option Elab.async false
set_option linter.all false
set_option maxRecDepth 100000
/-! MiH: the steps of expressions, further. -/
namespace Mi
open PySem PySem.Spec PyProof.Rows L2
section
variable {X : Cx} {W : WX} {F : Fi} {G : Gi} {C : CallT} {R : Dn}
theorem lastM {op op2 : CmpOp} {b c : Expr} (h : notSet c = true) : lastMarks [op, op2] [b, c] = false := by
  show behindInMarks op2 c = false
  exact noMark h op2
/-- a chain reaches its truth -/
theorem rd_chain (S : Snd G C R) (g : Gx X G C) (fit : Fit X F) (tk : L2N.Takes X W) (a : Expr) (op op2 : CmpOp) (b c : Expr) {σv : L2.St} {H : Hp} {Q : Bool → Hp → Prop} (h : RG X.K W kB (c2M R F op op2 a b c) σv H Q) :
    tChain (rC X (cmpD op)) (rC X (cmpD op2)) (RG X.K W (kP X.K) (pE R F a)) (RG X.K W (kP X.K) (pE R F b)) (RG X.K W (kP X.K) (pE R F c)) σv H (fun v H' => ∃ k, v = .bl k ∧ Q k H') := by
  obtain ⟨ρ, Gh, T, σ, w, er, p⟩ := h
  refine ⟨ρ, Gh, T, σ, w, er, (Post.bind kB_sh er p).mono ?_⟩
  rintro x H1 ⟨ρ1, G1, T1, d1, k1, t1, w1, er1, p1⟩
  refine ⟨ρ1, G1, T1, σ, w1, er1, (Post.bind kB_sh er1 p1).mono ?_⟩
  rintro y H2 ⟨ρ2, G2, T2, d2, k2, t2, w2, er2, p2⟩
  obtain ⟨k, e, p3⟩ := ok_lift p2
  refine ⟨ρ2, G2, T2, d1, d2, k, w2, PRel.tr t2 k1, k2, e, k, rfl, ?_⟩
  cases k with
  | false => exact ⟨false, rfl, ok_pure (σ := σ) p3 w2 rfl⟩
  | true =>
    refine ⟨ρ2, G2, T2, σ, w2, er2, (Post.bind kB_sh er2 p3).mono ?_⟩
    rintro z H3 ⟨ρ3, G3, T3, d3, k3, t3, w3, er3, p4⟩
    obtain ⟨k', e', p5⟩ := ok_lift1 p4
    exact ⟨ρ3, G3, T3, d2, d3, k', w3, PRel.tr t3 k2, k3, e', k', rfl, p5 k' ρ3 G3 H3 .refl w3 rfl⟩
theorem st_chainT (S : Snd G C R) (g : Gx X G C) (fit : Fit X F) (tk : L2N.Takes X W) (a : Expr) (op op2 : CmpOp) (b c : Expr) (pos : Pos) (hs : notSet c = true) : PT X (.Compare a [op, op2] [b, c] pos) (RG X.K W kB (c2M R F op op2 a b c)) :=
  (pt_chain (opCmp g.un op) (opCmp g.un op2) (pe_pE S g fit tk a) (pe_pE S g fit tk b) (pe_pE S g fit tk c) (lastM hs)).imp fun σv H Q h => rd_chain S g fit tk a op op2 b c h
theorem rC_mono {f : D → D → Option Bool} {x y : V} {H : Hp} {Q : VK} (h : rC X f x y H (fun v H' => ∃ k, v = .bl k ∧ Q (.bl k) H')) : rC X f x y H Q := by
  obtain ⟨ρ, G', T, a', b', k, w, pa, pb, e, k2, e2, q⟩ := h
  cases e2
  exact ⟨ρ, G', T, a', b', k, w, pa, pb, e, q⟩
theorem st_chainV (S : Snd G C R) (g : Gx X G C) (fit : Fit X F) (tk : L2N.Takes X W) (a : Expr) (op op2 : CmpOp) (b c : Expr) (pos : Pos) (hs : notSet c = true) : PE X (.Compare a [op, op2] [b, c] pos) (RG X.K W (kV X.K) (EM.bind (c2M R F op op2 a b c) fun k => EM.pure (.bl k, false))) := by
  refine (pe_chain (opCmp g.un op) (opCmp g.un op2) (pe_pE S g fit tk a) (pe_pE S g fit tk b) (pe_pE S g fit tk c) (lastM hs)).imp fun σv H Q h => ?_
  have z := rd_chain S g fit tk a op op2 b c (RG.bl h)
  unfold tChain at z ⊢
  refine RG.mono (fun x H1 z1 => RG.mono (fun y H2 z2 => ?_) z1) z
  obtain ⟨ρ, G', T, a', b', k, w, pa, pb, e, k2, e2, z3⟩ := z2
  cases e2
  refine ⟨ρ, G', T, a', b', k, w, pa, pb, e, k, rfl, ?_⟩
  cases k with
  | false =>
    obtain ⟨k', e', q⟩ := z3
    cases e'
    exact q
  | true => exact RG.mono (fun y' H4 z4 => rC_mono z4) z3
theorem st_ifx (S : Snd G C R) (g : Gx X G C) (fit : Fit X F) (tk : L2N.Takes X W) (c a b : Expr) (pos : Pos) : PE X (.IfExp c a b pos) (RG X.K W (kV X.K) (EM.bind (R.tst F c) fun t => if t then R.val F a else R.val F b)) := by
  refine (pe_ifExp (S.tst X W F c g fit tk) (S.val X W F a g fit tk) (S.val X W F b g fit tk)).imp fun σv H Q ⟨ρ, Gh, T, σ, w, er, p⟩ => ?_
  refine ⟨ρ, Gh, T, σ, w, er, (Post.bind kV_sh er p).mono ?_⟩
  rintro k H1 ⟨ρ1, G1, T1, d1, k1, t1, w1, er1, p1⟩
  cases (show k = d1 from k1)
  cases k with
  | true => exact ⟨ρ1, G1, T1, σ, w1, er1, p1⟩
  | false => exact ⟨ρ1, G1, T1, σ, w1, er1, p1⟩
theorem st_tup (S : Snd G C R) (g : Gx X G C) (fit : Fit X F) (tk : L2N.Takes X W) (es : List Expr) (j : Nat) (pos : Pos) : PE X (.Tuple es j pos) (RG X.K W (kV X.K) (EM.bind (aE R F es) fun ds => if fits ds.length then EM.pure (.tup ds, false) else EM.bad)) := by
  refine (pe_tup (pa_aE S g fit tk es)).imp fun σv H Q ⟨ρ, Gh, T, σ, w, er, p⟩ => ?_
  refine ⟨ρ, Gh, T, σ, w, er, (Post.bind kV_sh er p).mono ?_⟩
  rintro vs H1 ⟨ρ1, G1, T1, ds, k1, t1, w1, er1, p1⟩
  try dsimp only at p1
  cases hf : fits ds.length with
  | false => rw [hf] at p1; exact (show False from p1).elim
  | true =>
    rw [hf, if_pos rfl] at p1
    exact ⟨by rw [Rps.length k1]; exact fits_iff.mp hf, fun q hq => Done.tup (ok_done p1) w1 k1 hq⟩
theorem st_lst (S : Snd G C R) (g : Gx X G C) (fit : Fit X F) (tk : L2N.Takes X W) (es : List Expr) (pos : Pos) : PE X (.List es pos) (RG X.K W (kV X.K) (EM.bind (aE R F es) fun ds => if fits ds.length then EM.pure (.lst ds, true) else EM.bad)) := by
  refine (pe_lst (pa_aE S g fit tk es)).imp fun σv H Q ⟨ρ, Gh, T, σ, w, er, p⟩ => ?_
  refine ⟨ρ, Gh, T, σ, w, er, (Post.bind kV_sh er p).mono ?_⟩
  rintro vs H1 ⟨ρ1, G1, T1, ds, k1, t1, w1, er1, p1⟩
  try dsimp only at p1
  cases hf : fits ds.length with
  | false => rw [hf] at p1; exact (show False from p1).elim
  | true =>
    rw [hf, if_pos rfl] at p1
    exact ⟨by rw [Rps.length k1]; exact fits_iff.mp hf, fun q hq => Done.lst (ok_done p1) w1 k1 hq⟩
def kO : Kd (Option Int) (Option Int) := fun _ _ _ _ b c => b = c
theorem kO_sh : KSh kO := ⟨fun _ _ h => h⟩
theorem po_oE (S : Snd G C R) (g : Gx X G C) (fit : Fit X F) (tk : L2N.Takes X W) : ∀ o : Option Expr, PO X o (RG X.K W kO (oE R F o))
  | none => ⟨fun pins s σ H Q I h => po_none.run pins s σ H Q I (by
      obtain ⟨ρ, Gh, T, σ', w, er, p⟩ := h
      exact p none ρ Gh H .refl w rfl)⟩
  | some e => ⟨fun pins s σ H Q I h => (po_some (pe_vE S g fit tk e)).run pins s σ H Q I (by
      obtain ⟨ρ, Gh, T, σ', w, er, p⟩ := h
      refine ⟨ρ, Gh, T, σ', w, er, (Post.bind kO_sh er p).mono ?_⟩
      rintro v H1 ⟨ρ1, G1, T1, d, k1, t1, w1, er1, p1⟩
      cases d <;> first | exact (show False from p1).elim | skip
      cases Rp.i k1
      exact ⟨_, rfl, ok_pure (σ := σ') p1 w1 rfl⟩)⟩
theorem st_slice (S : Snd G C R) (g : Gx X G C) (fit : Fit X F) (tk : L2N.Takes X W) (a : Expr) (lo hi : Option Expr) (p2 pos : Pos) :
    PE X (.Subscript a (.Slice lo hi none p2) pos) (RG X.K W (kV X.K) (EM.bind (pE R F a) fun x => EM.bind (oE R F lo) fun l => EM.bind (oE R F hi) fun h => EM.bind (EM.lift (sliceD x l h)) fun d => EM.pure (d, isLst d))) := by
  refine (pe_slice slM (pe_pE S g fit tk a) (po_oE S g fit tk lo) (po_oE S g fit tk hi)).imp fun σv H Q ⟨ρ, Gh, T, σ, w, er, p⟩ => ?_
  refine ⟨ρ, Gh, T, σ, w, er, (Post.bind kV_sh er p).mono ?_⟩
  rintro x H1 ⟨ρ1, G1, T1, d1, k1, t1, w1, er1, p1⟩
  refine ⟨ρ1, G1, T1, σ, w1, er1, (Post.bind kV_sh er1 p1).mono ?_⟩
  rintro l H2 ⟨ρ2, G2, T2, l', k2, t2, w2, er2, p2⟩
  cases (show l = l' from k2)
  refine ⟨ρ2, G2, T2, σ, w2, er2, (Post.bind kV_sh er2 p2).mono ?_⟩
  rintro h H3 ⟨ρ3, G3, T3, h', k3, t3, w3, er3, p3⟩
  cases (show h = h' from k3)
  obtain ⟨d, e, p4⟩ := ok_lift p3
  exact ⟨ρ3, G3, T3, d1, d, w3, PRel.tr t3 (PRel.tr t2 k1), e, ok_done p4⟩
theorem st_rev (S : Snd G C R) (g : Gx X G C) (fit : Fit X F) (tk : L2N.Takes X W) (a : Expr) (j : Nat) (p1 p2 p3 pos : Pos) :
    PE X (.Subscript a (.Slice none none (some (.UnaryOp .USub (.Constant (.int 1) j p1) p2)) p3) pos) (RG X.K W (kV X.K) (EM.bind (pE R F a) fun x => EM.bind (EM.lift (backD x)) fun d => EM.pure (d, isLst d))) := by
  refine (pe_revA (pe_pE S g fit tk a)).imp fun σv H Q ⟨ρ, Gh, T, σ, w, er, p⟩ => ?_
  refine ⟨ρ, Gh, T, σ, w, er, (Post.bind kV_sh er p).mono ?_⟩
  rintro x H1 ⟨ρ1, G1, T1, d1, k1, t1, w1, er1, p1⟩
  obtain ⟨d, e, p2⟩ := ok_lift p1
  have q := ok_done p2
  cases d1 <;> first | (cases e; done) | skip
  · cases e
    obtain ⟨a, vs, rfl, h1, r1⟩ := PRel.t k1
    exact ⟨a, vs, rfl, .inr ⟨SqT.sub w1.sub h1, fun p hp => Done.tup q w1 (Rps.rev r1) hp⟩⟩
  · cases e
    obtain ⟨a, vs, rfl, h1, r1⟩ := PRel.l w1.sub k1
    exact ⟨a, vs, rfl, .inl ⟨SqL.of h1, fun p hp => Done.lst q w1 (Rps.rev r1) hp⟩⟩
theorem plainIx {i : Expr} (h : notSlice i = true) : PlainIx i := by
  cases i <;> first | exact fun _ _ => rfl | cases h
theorem itemM_any {x i : D} {σ σ' : Env} {T : Sto} : itemM x i σ T = itemM x i σ' T := rfl
theorem itemM_T {x i : D} {σ : Env} {T T' : Sto} {d : D} (h : itemM x i σ T = .ok d T') : T' = T ∧ itemM x i [] T = .ok d T := by
  unfold itemM at h
  split at h
  · split at h
    · rename_i n ds hT
      split at h
      · rename_i d' e
        cases h
        refine ⟨rfl, ?_⟩
        unfold itemM
        simp only [hT, e]
      · cases h
    · cases h
  · rename_i hno
    split at h
    · rename_i d' e
      cases h
      refine ⟨rfl, ?_⟩
      unfold itemM
      cases x <;> first | (exact absurd rfl (hno _)) | simp only [e]
    · cases h
theorem itemM_ex {x i : D} {σ : Env} {T T' : Sto} {e : Xn} : itemM x i σ T ≠ .ex e T' := by
  unfold itemM
  intro h
  split at h
  · split at h
    · split at h <;> cases h
    · cases h
  · split at h <;> cases h
theorem st_item (S : Snd G C R) (g : Gx X G C) (fit : Fit X F) (tk : L2N.Takes X W) (a i : Expr) (pos : Pos) (hs : notSlice i = true) :
    PE X (.Subscript a i pos) (RG X.K W (kV X.K) (EM.bind (pE R F a) fun x => EM.bind (vE R F i) fun j => EM.bind (itemM x j) fun d => EM.pure (d, false))) := by
  refine (pe_ix ixM (pe_pE S g fit tk a) (pe_vE S g fit tk i) (plainIx hs)).imp fun σv H Q ⟨ρ, Gh, T, σ, w, er, p⟩ => ?_
  refine ⟨ρ, Gh, T, σ, w, er, (Post.bind kV_sh er p).mono ?_⟩
  rintro x H1 ⟨ρ1, G1, T1, d1, k1, t1, w1, er1, p1⟩
  refine ⟨ρ1, G1, T1, σ, w1, er1, (Post.bind kV_sh er1 p1).mono ?_⟩
  rintro y H2 ⟨ρ2, G2, T2, d2, k2, t2, w2, er2, p2⟩
  try dsimp only at p2
  unfold EM.bind at p2
  cases e : itemM d1 d2 σ T2 with
  | ok d T3 =>
    obtain ⟨rfl, e2⟩ := itemM_T e
    rw [e] at p2
    exact ⟨ρ2, G2, T3, d1, d2, d, w2, PRel.tr t2 k1, .inl k2, e2, fun v hv => p2 v ρ2 G2 H2 .refl w2 hv⟩
  | ex x' T3 => exact absurd e itemM_ex
  | bad => rw [e] at p2; exact (show False from p2).elim

/-! ### calls -/
theorem gl_blt (g : Gx X G C) {x : Str} (h : x ∈ bltNames) : X.mg x = none := g.blt x h
theorem lenM_T {x : D} {σ : Env} {T T' : Sto} {d : D} (h : lenM x σ T = .ok d T') : T' = T ∧ lenM x [] T = .ok d T := by
  unfold lenM at h
  split at h
  · split at h
    · rename_i n ds hT
      cases h
      refine ⟨rfl, ?_⟩
      unfold lenM
      simp only [hT]
    · cases h
  · rename_i hno
    split at h
    · rename_i d' e
      cases h
      refine ⟨rfl, ?_⟩
      unfold lenM
      cases x <;> first | (exact absurd rfl (hno _)) | simp only [e]
    · cases h
theorem lenM_ex {x : D} {σ : Env} {T T' : Sto} {e : Xn} : lenM x σ T ≠ .ex e T' := by
  unfold lenM
  intro h
  split at h
  · split at h <;> cases h
  · split at h <;> cases h
theorem listM_T {x : D} {σ : Env} {T T' : Sto} {d : D × Bool} (h : listM x σ T = .ok d T') : T' = T ∧ listM x [] T = .ok d T := by
  unfold listM at h
  split at h
  · cases h; exact ⟨rfl, rfl⟩
  · cases h; exact ⟨rfl, rfl⟩
  · split at h
    · rename_i n ds hT
      cases h
      refine ⟨rfl, ?_⟩
      unfold listM
      simp only [hT]
    · cases h
  · cases h
theorem listM_ex {x : D} {σ : Env} {T T' : Sto} {e : Xn} : listM x σ T ≠ .ex e T' := by
  unfold listM
  intro h
  split at h
  · cases h
  · cases h
  · split at h <;> cases h
  · cases h
theorem pa1 (S : Snd G C R) (g : Gx X G C) (fit : Fit X F) (tk : L2N.Takes X W) {e : Expr} (hn : notStar e = true) : PA X [e] (tCons (RG X.K W (kP X.K) (pE R F e)) tNil) :=
  pa_cons (pe_pE S g fit tk e) pa_nil (star_of hn [] X.env)
/-- a one-argument built-in -/
theorem st_blt (S : Snd G C R) (g : Gx X G C) (fit : Fit X F) (tk : L2N.Takes X W) {f : Str} {e : Expr} {p pos : Pos} (hg : Gl X f) (hd : isDbg f = false) (hn : notStar e = true) (hm : X.mg f = none)
    (hv : (∃ id, bootBuiltins f = some (.builtin id) ∧ CallR X (.builtin id) (rBlt X f)) ∨ ∃ T, bootBuiltins f = some (.type T) ∧ CallR X (.type T) (rBlt X f)) :
    PE X (.Call (.Name f p) [e] [] pos) (RG X.K W (kV X.K) (EM.bind (pE R F e) fun d => EM.lift (bltD f [d]))) := by
  have rd : ∀ (σv : L2.St) (H : Hp) (Q : VK), RG X.K W (kV X.K) (EM.bind (pE R F e) fun d => EM.lift (bltD f [d])) σv H Q → tCB (rBlt X f) (tCons (RG X.K W (kP X.K) (pE R F e)) tNil) σv H Q := fun σv H Q ⟨ρ, Gh, T, σ, w, er, p⟩ => by
    refine ⟨ρ, Gh, T, σ, w, er, (Post.bind kV_sh er p).mono ?_⟩
    rintro x H1 ⟨ρ1, G1, T1, d1, k1, t1, w1, er1, p1⟩
    obtain ⟨r, e1, p2⟩ := ok_lift1 p1
    exact ⟨x, ρ1, G1, T1, d1, r, rfl, w1, k1, e1, fun v ρ' G' H' t w z => p2 v ρ' G' H' t w z⟩
  obtain ⟨h1, _, h3⟩ := isDbg_ok hd
  rcases hv with ⟨id, hb, hc⟩ | ⟨T, hb, hc⟩
  · exact (pe_callB hc hg hm hb (pa1 S g fit tk hn) h3 h1 (star_of hn [] X.env) rfl).imp rd
  · exact (pe_callTy hc hg hm hb (pa1 S g fit tk hn) h3 h1 (star_of hn [] X.env) rfl).imp rd
theorem st_len (S : Snd G C R) (g : Gx X G C) (fit : Fit X F) (tk : L2N.Takes X W) {e : Expr} {p pos : Pos} (hg : Gl X "len") (hn : notStar e = true) :
    PE X (.Call (.Name "len" p) [e] [] pos) (RG X.K W (kV X.K) (EM.bind (pE R F e) fun d => EM.bind (lenM d) fun k => EM.pure (k, false))) := by
  refine (pe_callB lenR hg (g.blt _ (by decide +kernel)) boot_len (pa1 S g fit tk hn) (by decide +kernel) (by decide +kernel) (star_of hn [] X.env) rfl).imp fun σv H Q ⟨ρ, Gh, T, σ, w, er, p⟩ => ?_
  refine ⟨ρ, Gh, T, σ, w, er, (Post.bind kV_sh er p).mono ?_⟩
  rintro x H1 ⟨ρ1, G1, T1, d1, k1, t1, w1, er1, p1⟩
  try dsimp only at p1
  unfold EM.bind at p1
  cases e : lenM d1 σ T1 with
  | ok d T3 =>
    obtain ⟨rfl, e2⟩ := lenM_T e
    rw [e] at p1
    exact ⟨x, ρ1, G1, T3, d1, d, rfl, w1, k1, e2, fun v hv => p1 v ρ1 G1 H1 .refl w1 hv⟩
  | ex x' T3 => exact absurd e lenM_ex
  | bad => rw [e] at p1; exact (show False from p1).elim
theorem st_list (S : Snd G C R) (g : Gx X G C) (fit : Fit X F) (tk : L2N.Takes X W) {e : Expr} {p pos : Pos} (hg : Gl X "list") (hn : notStar e = true) :
    PE X (.Call (.Name "list" p) [e] [] pos) (RG X.K W (kV X.K) (EM.bind (pE R F e) fun d => listM d)) := by
  refine (pe_callTy listR hg (g.blt _ (by decide +kernel)) PyProof.Rows.boot_list (pa1 S g fit tk hn) (by decide +kernel) (by decide +kernel) (star_of hn [] X.env) rfl).imp fun σv H Q ⟨ρ, Gh, T, σ, w, er, p⟩ => ?_
  refine ⟨ρ, Gh, T, σ, w, er, (Post.bind kV_sh er p).mono ?_⟩
  rintro x H1 ⟨ρ1, G1, T1, d1, k1, t1, w1, er1, p1⟩
  try dsimp only at p1
  cases e : listM d1 σ T1 with
  | ok d T3 =>
    obtain ⟨rfl, e2⟩ := listM_T e
    rw [e] at p1
    exact ⟨x, ρ1, G1, T3, d1, d, rfl, w1, k1, e2, fun v ρ' G' H' t w z => p1 v ρ' G' H' t w z⟩
  | ex x' T3 => exact absurd e listM_ex
  | bad => rw [e] at p1; exact (show False from p1).elim
theorem rg_ints (lo : Int) (n : Nat) (K : PySem.W.Frag) (ρ : List Addr) (Gh : Hp) : Rps K ρ Gh ((List.range n).map fun i => V.int (lo + (i : Nat))) (rangeD lo n) := by
  unfold rangeD
  generalize List.range n = l
  induction l with
  | nil => exact .nil
  | cons i l ih => exact .cons (.int _) ih
theorem st_listRg (S : Snd G C R) (g : Gx X G C) (fit : Fit X F) (tk : L2N.Takes X W) {a : Expr} {p p2 q pos : Pos} (hg : Gl X "list") (hg2 : Gl X "range") (hn : notStar a = true) :
    PE X (.Call (.Name "list" p) [.Call (.Name "range" p2) [a] [] q] [] pos) (RG X.K W (kV X.K) (EM.bind (vE R F a) fun d => match d with
      | .int j => if small62 j && decide (j ≤ 16777216) then EM.pure (.lst (rangeD 0 j.toNat), true) else EM.bad
      | _ => EM.bad)) := by
  refine (pe_listRg fit.calm hg (g.blt _ (by decide +kernel)) (prg_1 hg2 (g.blt _ (by decide +kernel)) (pe_vE S g fit tk a) (star_of hn [] X.env)) rfl).imp fun σv H Q ⟨ρ, Gh, T, σ, w, er, p⟩ => ?_
  refine ⟨ρ, Gh, T, σ, w, er, (Post.bind kV_sh er p).mono ?_⟩
  rintro x H1 ⟨ρ1, G1, T1, d1, k1, t1, w1, er1, p1⟩
  cases d1 <;> first | exact (show False from p1).elim | skip
  rename_i j
  cases Rp.i k1
  have p1' : Post X.K W (kV X.K) ρ1 G1 H1 σv Q ((if (small62 j && decide (j ≤ 16777216)) = true then EM.pure (.lst (rangeD 0 j.toNat), true) else EM.bad) σ T1) := p1
  cases hb : small62 j && decide (j ≤ 16777216) with
  | false => rw [hb] at p1'; exact (show False from p1').elim
  | true =>
    rw [hb, if_pos rfl] at p1'
    unfold small62 at hb
    simp only [Bool.and_eq_true, decide_eq_true_eq] at hb
    obtain ⟨⟨h1, h2⟩, h3⟩ := hb
    refine ⟨j, rfl, ⟨by decide, by decide, h1, h2, by omega⟩, fun q hq => ?_⟩
    have r := rg_ints 0 j.toNat X.K ρ1 G1
    have e0 : rgV 0 j = (List.range j.toNat).map fun i => V.int (0 + (i : Nat)) := by
      unfold rgV
      rw [Int.sub_zero]
    rw [e0]
    exact Done.lst (ok_done p1') w1 r hq
theorem st_isi (S : Snd G C R) (g : Gx X G C) (fit : Fit X F) (tk : L2N.Takes X W) {x : Expr} {t : Str} {p p2 pos : Pos} (hg : Gl X "isinstance") (hg2 : Gl X t) (hd : isDbg t = false) (ht : t ∈ isiNames) (hn : notStar x = true) :
    PE X (.Call (.Name "isinstance" p) [x, .Name t p2] [] pos) (RG X.K W (kV X.K) (EM.bind (pE R F x) fun d => if noObj d then EM.bind (EM.lift (isiD t d)) fun b => EM.pure (.bl b, false) else EM.bad)) := by
  obtain ⟨h1, _, h3⟩ := isDbg_ok hd
  have bt : bootBuiltins t = some (.type (tyN t)) ∧ t ∈ bltNames := by
    unfold isiNames at ht
    simp only [List.mem_cons, List.not_mem_nil, or_false] at ht
    rcases ht with rfl | rfl | rfl | rfl | rfl <;> exact ⟨by decide +kernel, by decide +kernel⟩
  refine (pe_callB call_isi hg (g.blt _ (by decide +kernel)) (by decide +kernel) (pa_cons (pe_pE S g fit tk x) (pa_cons (pe_bltn hg2 (g.blt t bt.2) bt.1 (v := .ty (tyN t)) rfl h3 h1) pa_nil) (star_of hn _ X.env)) (by decide +kernel) (by decide +kernel) (star_of hn _ X.env) rfl).imp fun σv H Q ⟨ρ, Gh, T, σ, w, er, p⟩ => ?_
  refine ⟨ρ, Gh, T, σ, w, er, (Post.bind kV_sh er p).mono ?_⟩
  rintro v H1 ⟨ρ1, G1, T1, d1, k1, t1, w1, er1, p1⟩
  try dsimp only at p1
  cases hno : noObj d1 with
  | false => rw [hno] at p1; exact (show False from p1).elim
  | true =>
    rw [hno, if_pos rfl] at p1
    obtain ⟨b, e, p2⟩ := ok_lift p1
    obtain ⟨ts, hty, et, nd⟩ := tyD w1.sub k1 hno
    exact ⟨v, .ty (tyN t), .type ts, .type (tyN t), b, rfl, .ty _, hty, kit_ty (isi_kit hno e nd et), ok_pure p2 w1 (.bl _)⟩
theorem st_two (S : Snd G C R) (g : Gx X G C) (fit : Fit X F) (tk : L2N.Takes X W) {f : Str} {x y : Expr} {p pos : Pos} (hg : Gl X f) (hd : isDbg f = false) (ht : f ∈ twoArg) :
    PE X (.Call (.Name f p) [x, y] [] pos) (RG X.K W (kV X.K) (EM.bind (aE R F [x, y]) fun ds => EM.bind (EM.lift (blt2 f ds)) fun d => EM.pure (d, false))) := by
  cases hs : [x, y].all notStar with
  | false =>
    refine PE.bad fun σ T => ?_
    unfold EM.bind aE
    rw [hs]
    rfl
  | true =>
    have hs' := hs
    rw [List.all_cons, Bool.and_eq_true] at hs'
    obtain ⟨h1, _, h3⟩ := isDbg_ok hd
    have hv : f ∈ bltNames ∧ ∃ id, bootBuiltins f = some (.builtin id) ∧ CallR X (.builtin id) (fun xs H Q => ∃ i j : Int, xs = [.int i, .int j] ∧ ∀ d, blt2 f [.int i, .int j] = some d → ∃ k, d = .int k ∧ Q (.int k) H) := by
      unfold twoArg at ht
      simp only [List.mem_cons, List.not_mem_nil, or_false] at ht
      rcases ht with rfl | rfl
      · exact ⟨by decide +kernel, "min", by decide +kernel, cr_of (g := .none) (call_min2 fit.calm) fun xs H Q ⟨i, j, e, q⟩ => ⟨i, j, e, by obtain ⟨k, e2, q2⟩ := q _ rfl; cases e2; exact q2⟩⟩
      · exact ⟨by decide +kernel, "max", by decide +kernel, cr_of (g := .none) (call_max2 fit.calm) fun xs H Q ⟨i, j, e, q⟩ => ⟨i, j, e, by obtain ⟨k, e2, q2⟩ := q _ rfl; cases e2; exact q2⟩⟩
    obtain ⟨hb, id, hid, hc⟩ := hv
    refine (pe_callB hc hg (g.blt f hb) hid (pa_aE S g fit tk [x, y]) h3 h1 (star_of hs'.1 [y] X.env) (star_back hs'.2 X.env pos)).imp fun σv H Q ⟨ρ, Gh, T, σ, w, er, p⟩ => ?_
    refine ⟨ρ, Gh, T, σ, w, er, (Post.bind kV_sh er p).mono ?_⟩
    rintro vs H1 ⟨ρ1, G1, T1, ds, k1, t1, w1, er1, p1⟩
    obtain ⟨d, e, p2⟩ := ok_lift p1
    have hds : ∃ i j : Int, ds = [.int i, .int j] := by
      unfold blt2 at e
      split at e
      · split at e
        · exact ⟨_, _, rfl⟩
        · cases e
      · split at e
        · split at e
          · exact ⟨_, _, rfl⟩
          · cases e
        · cases e
    obtain ⟨i, j, rfl⟩ := hds
    cases k1 with
    | cons r1 rs =>
      cases rs with
      | cons r2 rs =>
        cases rs
        cases Rp.i r1
        cases Rp.i r2
        refine ⟨i, j, rfl, fun d' e' => ?_⟩
        rw [e] at e'
        cases e'
        have hk : ∃ k, d = .int k := by
          unfold blt2 at e
          split at e
          · exact ⟨_, by cases e; rfl⟩
          · split at e
            · exact ⟨_, by cases e; rfl⟩
            · cases e
        obtain ⟨k, rfl⟩ := hk
        exact ⟨k, rfl, ok_pure p2 w1 (.int _)⟩
theorem st_fn (S : Snd G C R) (g : Gx X G C) (fit : Fit X F) (tk : L2N.Takes X W) {f : Str} {e : Expr} {es : List Expr} {p pos : Pos} (hg : Gl X f) (hd : isDbg f = false) (hf : f ∈ G.fn) :
    PE X (.Call (.Name f p) (e :: es) [] pos) (RG X.K W (kV X.K) (EM.bind (aE R F (e :: es)) fun ds _ T => C f ds T)) := by
  cases hs : (e :: es).all notStar with
  | false =>
    refine PE.bad fun σ T => ?_
    unfold EM.bind aE
    rw [hs]
    rfl
  | true =>
    obtain ⟨k, fa, fd, ps, ok, hr, hm, kp, hb⟩ := g.fn f hf
    have hs' := hs
    rw [List.all_cons, Bool.and_eq_true] at hs'
    refine (pe_callS ok hr hg hm kp hb (fun σ => L2N.passAt tk σ) (pa_aE S g fit tk (e :: es)) (isDbg_ok hd).1 (star_of hs'.1 es X.env) (star_back hs'.2 X.env pos)).imp fun σv H Q ⟨ρ, Gh, T, σ, w, er, p⟩ => ?_
    refine ⟨ρ, Gh, T, σ, w, er, (Post.bind kV_sh er p).mono ?_⟩
    rintro vs H1 ⟨ρ1, G1, T1, ds, k1, t1, w1, er1, p1⟩
    refine ⟨ρ1, G1, T1, ds, w1, k1, ?_⟩
    have p1' : Post X.K W (kV X.K) ρ1 G1 H1 σv Q (C f ds T1) := p1
    cases hc : C f ds T1 with
    | ok r T' => rw [hc] at p1'; exact p1'
    | ex x T' => rw [hc] at p1'; exact p1'
    | bad => rw [hc] at p1'; exact (show False from p1').elim
theorem st_call (S : Snd G C R) (g : Gx X G C) (fit : Fit X F) (tk : L2N.Takes X W) (f : Str) (args : List Expr) (p pos : Pos) : PE X (.Call (.Name f p) args [] pos) (RG X.K W (kV X.K) (callE G C R F f args)) := by
  unfold callE
  cases hgd : isGl F.sc f && !isDbg f with
  | false => exact PE.bad fun _ _ => rfl
  | true =>
    rw [if_pos rfl]
    rw [Bool.and_eq_true] at hgd
    obtain ⟨h1, h2⟩ := hgd
    have hg := isGl_ok fit h1
    have hd : isDbg f = false := by simpa using h2
    split
    · rename_i hf
      split
      · exact PE.bad fun _ _ => rfl
      · cases args with
        | nil => rename_i z; exact absurd rfl z
        | cons e es => exact st_fn S g fit tk hg hd hf
    · split
      · rename_i e; subst e
        split
        · rename_i x t p2
          split
          · rename_i hb
            simp only [Bool.and_eq_true, decide_eq_true_eq, Bool.not_eq_true'] at hb
            obtain ⟨⟨⟨b1, b2⟩, b3⟩, b4⟩ := hb
            exact st_isi S g fit tk hg (isGl_ok fit b1) b2 b3 b4
          · exact PE.bad fun _ _ => rfl
        · exact PE.bad fun _ _ => rfl
      · split
        · rename_i e; subst e
          split
          · split
            · rename_i hn
              exact st_len S g fit tk hg hn
            · exact PE.bad fun _ _ => rfl
          · exact PE.bad fun _ _ => rfl
        · split
          · rename_i e; subst e
            split
            · rename_i r p2 a q
              split
              · rename_i hb
                simp only [Bool.and_eq_true, decide_eq_true_eq] at hb
                obtain ⟨⟨b1, b2⟩, b3⟩ := hb
                subst b1
                exact st_listRg S g fit tk hg (isGl_ok fit b2) b3
              · exact PE.bad fun _ _ => rfl
            · split
              · rename_i hn
                exact st_list S g fit tk hg hn
              · exact PE.bad fun _ _ => rfl
            · exact PE.bad fun _ _ => rfl
          · split
            · rename_i hone
              split
              · split
                · rename_i hn
                  have hv : (∃ id, bootBuiltins f = some (.builtin id) ∧ CallR X (.builtin id) (rBlt X f)) ∨ ∃ T, bootBuiltins f = some (.type T) ∧ CallR X (.type T) (rBlt X f) := by
                    unfold oneArg at hone
                    simp only [List.mem_cons, List.not_mem_nil, or_false] at hone
                    rcases hone with rfl | rfl | rfl | rfl | rfl | rfl | rfl | rfl
                    · exact .inl ⟨"abs", by decide +kernel, bltR_abs⟩
                    · exact .inr ⟨"int", by decide +kernel, bltR_int⟩
                    · exact .inr ⟨"bool", by decide +kernel, bltR_bool⟩
                    · exact .inr ⟨"tuple", by decide +kernel, bltR_tuple⟩
                    · exact .inl ⟨"all", by decide +kernel, bltR_all fit.calm⟩
                    · exact .inl ⟨"any", by decide +kernel, bltR_any fit.calm⟩
                    · exact .inl ⟨"sum", by decide +kernel, bltR_sum fit.calm⟩
                    · exact .inl ⟨"sorted", by decide +kernel, bltR_sorted g.un⟩
                  have hm : f ∈ bltNames := by
                    unfold oneArg at hone
                    simp only [List.mem_cons, List.not_mem_nil, or_false] at hone
                    rcases hone with rfl | rfl | rfl | rfl | rfl | rfl | rfl | rfl <;> decide +kernel
                  exact st_blt S g fit tk hg hd hn (g.blt f hm) hv
                · exact PE.bad fun _ _ => rfl
              · exact PE.bad fun _ _ => rfl
            · split
              · rename_i htwo
                split
                · rename_i x y
                  exact st_two S g fit tk hg hd htwo
                · exact PE.bad fun _ _ => rfl
              · exact PE.bad fun _ _ => rfl
end
end Mi


set_option Elab.async false
set_option linter.all false
set_option maxRecDepth 100000
/-! MiI: what is walked; comprehensions. -/
namespace Mi
open PySem PySem.Spec PyProof.Rows L2
/-- between two turns of a loop: statements may have run -/
structure TrW (ρ : List Addr) (G H : Hp) (ρ' : List Addr) (G' H' : Hp) : Prop where
  pre : Pre ρ ρ'
  gsub : Sub G G'
  kfrz : ∀ a o, H a = some o → isFrz o → H' a = some o
def TrB (wk : Bool) (ρ : List Addr) (G H : Hp) (ρ' : List Addr) (G' H' : Hp) : Prop := if wk = true then TrW ρ G H ρ' G' H' else Tr ρ G H ρ' G' H'
theorem Tr.w {ρ ρ' : List Addr} {G H G' H' : Hp} (t : Tr ρ G H ρ' G' H') : TrW ρ G H ρ' G' H' := ⟨t.pre, t.gsub, fun a o e f => t.keep a o e (.inr f)⟩
theorem TrB.w {wk : Bool} {ρ ρ' : List Addr} {G H G' H' : Hp} (t : TrB wk ρ G H ρ' G' H') : TrW ρ G H ρ' G' H' := by
  unfold TrB at t
  split at t
  · exact t
  · exact t.w
theorem TrW.refl {ρ : List Addr} {G H : Hp} : TrW ρ G H ρ G H := ⟨fun _ _ e => e, fun _ _ e => e, fun _ _ e _ => e⟩
theorem TrW.trans {ρ ρ1 ρ2 : List Addr} {G H G1 H1 G2 H2 : Hp} (t : TrW ρ G H ρ1 G1 H1) (u : TrW ρ1 G1 H1 ρ2 G2 H2) : TrW ρ G H ρ2 G2 H2 :=
  ⟨fun n a e => u.pre n a (t.pre n a e), fun a o e => u.gsub a o (t.gsub a o e), fun a o e f => u.kfrz a o (t.kfrz a o e f) f⟩
/-- an iterator gives these items, one behind another -/
def ItOk (K : PySem.W.Frag) (wk : Bool) (ρ : List Addr) (G H : Hp) (J : It) (ds : List D) : Prop :=
  ∀ (ρ' : List Addr) (G' H' : Hp) (T' : Sto), TrB wk ρ G H ρ' G' H' → Wd K ρ' G' H' T' →
    (∀ (i : Nat) (d : D), ds[i]? = some d → J.go i H' ∧ ∀ x H3, J.yld i H' x H3 → ∃ G3, Tr ρ' G' H' ρ' G3 H3 ∧ Wd K ρ' G3 H3 T' ∧ Rp K ρ' G3 x d) ∧ J.stop ds.length H'
def kI (K : PySem.W.Frag) (wk : Bool) : Kd It (List D) := fun ρ G _ H J ds => ItOk K wk ρ G H J ds
theorem kI_sh {K : PySem.W.Frag} {wk : Bool} : KSh (kI K wk) := ⟨fun _ _ h => h⟩
section
variable {K : PySem.W.Frag} {ρ : List Addr} {G H : Hp} {wk : Bool} {ds : List D}
theorem itOk_seqL {a : Addr} (q : ∀ (ρ' : List Addr) (G' H' : Hp) (T' : Sto), TrB wk ρ G H ρ' G' H' → Wd K ρ' G' H' T' → ∃ vs, SqL K H' a vs ∧ Rps K ρ' G' vs ds) : ItOk K wk ρ G H (Itl K a) ds := fun ρ' G' H' T' t w => by
  obtain ⟨vs, h1, r⟩ := q ρ' G' H' T' t w
  refine ⟨fun i d e => ?_, ⟨vs, h1, by rw [r.length]; exact Nat.le_refl _⟩⟩
  obtain ⟨v, e1, r1⟩ := r.get e
  refine ⟨⟨vs, v, h1, e1⟩, fun x H3 hy => ?_⟩
  obtain ⟨rfl, hx⟩ := hy
  have := hx vs h1
  rw [e1] at this
  cases this
  exact ⟨G', .refl, w, r1⟩
theorem itOk_seqT {a : Addr} (q : ∀ (ρ' : List Addr) (G' H' : Hp) (T' : Sto), TrB wk ρ G H ρ' G' H' → Wd K ρ' G' H' T' → ∃ vs, SqT K H' a vs ∧ Rps K ρ' G' vs ds) : ItOk K wk ρ G H (Itt K a) ds := fun ρ' G' H' T' t w => by
  obtain ⟨vs, h1, r⟩ := q ρ' G' H' T' t w
  refine ⟨fun i d e => ?_, ⟨vs, h1, by rw [r.length]; exact Nat.le_refl _⟩⟩
  obtain ⟨v, e1, r1⟩ := r.get e
  refine ⟨⟨vs, v, h1, e1⟩, fun x H3 hy => ?_⟩
  obtain ⟨rfl, hx⟩ := hy
  have := hx vs h1
  rw [e1] at this
  cases this
  exact ⟨G', .refl, w, r1⟩
theorem itOk_rng (lo : Int) (n : Nat) : ItOk K wk ρ G H (Itr lo n) (rangeD lo n) := fun ρ' G' H' T' t w => by
  unfold rangeD
  refine ⟨fun i d e => ?_, by rw [List.length_map, List.length_range]; exact Nat.le_refl _⟩
  rw [List.getElem?_map] at e
  cases e2 : (List.range n)[i]? with
  | none => rw [e2] at e; cases e
  | some k =>
    rw [e2] at e
    have e3 : D.int (lo + (k : Int)) = d := by simpa using e
    have hlt : i < n := by
      have := (List.getElem?_eq_some_iff.mp e2).1
      rwa [List.length_range] at this
    rw [List.getElem?_range hlt] at e2
    cases e2
    refine ⟨hlt, fun x H3 hy => ?_⟩
    obtain ⟨rfl, rfl⟩ := hy
    subst e3
    exact ⟨G', .refl, w, .int _⟩
theorem itOk_str (x : Str) : ItOk K wk ρ G H (Its x) (chars x) := fun ρ' G' H' T' t w => by
  unfold chars
  refine ⟨fun i d e => ?_, by rw [List.length_map]; show x.cps.size ≤ _; simp⟩
  rw [List.getElem?_map] at e
  cases e2 : x.cps.toList[i]? with
  | none => rw [e2] at e; cases e
  | some c =>
    rw [e2] at e
    have e3 : D.str ⟨#[c]⟩ = d := by simpa using e
    have hlt : i < x.cps.size := by
      have := (List.getElem?_eq_some_iff.mp e2).1
      simpa using this
    refine ⟨hlt, fun y H3 hy => ?_⟩
    obtain ⟨rfl, c', h1, rfl⟩ := hy
    rw [Array.getElem?_toList, h1] at e2
    cases e2
    subst e3
    exact ⟨G', .refl, w, .str _⟩
/-- a list that is frozen or stands by itself is a list at each turn -/
theorem PRel.walk (w : Wd K ρ G H T) {x : V} (h : PRel K ρ G H x (.lst ds)) (hw : wk = true → Rp K ρ G x (.lst ds)) : ∃ a vs, x = .ref a ∧ SqL K H a vs ∧ Rps K ρ G vs ds ∧ ∀ (ρ' : List Addr) (G' H' : Hp) (T' : Sto), TrB wk ρ G H ρ' G' H' → Wd K ρ' G' H' T' → ∃ vs, SqL K H' a vs ∧ Rps K ρ' G' vs ds := by
  have fro : Rp K ρ G x (.lst ds) → ∃ a vs, x = .ref a ∧ SqL K H a vs ∧ Rps K ρ G vs ds ∧ ∀ (ρ' : List Addr) (G' H' : Hp) (T' : Sto), TrB wk ρ G H ρ' G' H' → Wd K ρ' G' H' T' → ∃ vs, SqL K H' a vs ∧ Rps K ρ' G' vs ds := fun h => by
    cases h with
    | @lst a vs _ q r => exact ⟨a, vs, rfl, SqL.of (w.sub _ _ q), r, fun ρ' G' H' T' t w' => ⟨vs, SqL.of (w'.sub _ _ (t.w.gsub _ _ q)), Rps.mono t.w.gsub t.w.pre _ _ r⟩⟩
  cases wk with
  | true => exact fro (hw rfl)
  | false =>
    rcases h with h | ⟨a, vs, ds', rfl, e, h1, r, n⟩
    · exact fro h
    · cases e
      refine ⟨a, vs, rfl, SqL.of h1, r, fun ρ' G' H' T' t w' => ?_⟩
      have t' : Tr ρ G H ρ' G' H' := t
      exact ⟨vs, SqL.of (t'.keep _ _ h1 (.inl n)), r.tr t'⟩
end
theorem _root_.L2.PI.imp {X : Cx} {tg e : Expr} {t t' : TI} (h : PI X tg e t) (i : ∀ σ H R, t' σ H R → t σ H R) : PI X tg e t' := ⟨fun pins s σ H R I hw => h.run pins s σ H R I (i σ H R hw)⟩
section
variable {X : Cx} {W : WX} {F : Fi} {G : Gi} {C : CallT} {R : Dn} {wk : Bool} {P : Fi → Expr → EM D} {tg : Expr}
/-- how the walked value is come by: frozen for a loop, only looked at for a comprehension -/
def HowP (X : Cx) (W : WX) (F : Fi) (wk : Bool) (P : Fi → Expr → EM D) : Prop := ∀ e, PE X e (RG X.K W (fun ρ G H0 H v d => PRel X.K ρ G H v d ∧ (wk = true → Rp X.K ρ G v d)) (P F e))
theorem kW_sh {K : PySem.W.Frag} : KSh (β := V) (α := D) (fun ρ G _ H v d => PRel K ρ G H v d ∧ (wk = true → Rp K ρ G v d)) := ⟨fun _ _ h => h⟩
theorem how_vE (S : Snd G C R) (g : Gx X G C) (fit : Fit X F) (tk : L2N.Takes X W) : HowP X W F true (vE R) := fun e =>
  (pe_vE S g fit tk e).imp fun σv H Q ⟨ρ, Gh, T, σ, w, er, p⟩ => ⟨ρ, Gh, T, σ, w, er, by
    cases e1 : vE R F e σ T with
    | ok d T1 => rw [e1] at p; exact fun v ρ' G' H' t w' z => p v ρ' G' H' t w' ⟨.inl z, fun _ => z⟩
    | ex x T1 => rw [e1] at p; exact p
    | bad => rw [e1] at p; exact p⟩
theorem how_pE (S : Snd G C R) (g : Gx X G C) (fit : Fit X F) (tk : L2N.Takes X W) : HowP X W F false (pE R) := fun e =>
  (pe_pE S g fit tk e).imp fun σv H Q ⟨ρ, Gh, T, σ, w, er, p⟩ => ⟨ρ, Gh, T, σ, w, er, by
    cases e1 : pE R F e σ T with
    | ok d T1 => rw [e1] at p; exact fun v ρ' G' H' t w' z => p v ρ' G' H' t w' ⟨z, fun e => nomatch e⟩
    | ex x T1 => rw [e1] at p; exact p
    | bad => rw [e1] at p; exact p⟩
theorem pi_items (hP : HowP X W F wk P) (e : Expr) : PI X tg e (RG X.K W (kI X.K wk) (EM.bind (P F e) fun d => itemsM d)) := by
  refine ⟨fun pins s σv H Rr I h => ?_⟩
  obtain ⟨ρ, Gh, T, σ, w, er, p⟩ := h
  have go : ∀ {t : TI}, PI X tg e t → t σv H Rr → wpAny (model X.prog X.w) X.A (eval e X.env) (fun v s1 => wpAny (model X.prog X.w) X.A (pyIter v) (PIE X pins σv tg Rr) X.xe s1) X.xe s := fun hp ht => hp.run pins s σv H Rr I ht
  unfold EM.bind at p
  cases e1 : P F e σ T with
  | bad => rw [e1] at p; exact (show False from p).elim
  | ex x T1 =>
    rw [e1] at p
    refine go (pi_list (hP e)) ⟨ρ, Gh, T, σ, w, er, ?_⟩
    rw [e1]
    exact p
  | ok d T1 =>
    rw [e1] at p
    have p : Post X.K W (kI X.K wk) ρ Gh H σv Rr (itemsM d σ T1) := p
    cases d with
    | lst ds =>
      refine go (pi_list (hP e)) ⟨ρ, Gh, T, σ, w, er, ?_⟩
      rw [e1]
      intro v ρ1 G1 H1 t1 w1 k1
      obtain ⟨a, vs, rfl, h1, r, q⟩ := PRel.walk w1 k1.1 k1.2
      exact ⟨a, rfl, ⟨vs, h1⟩, p _ ρ1 G1 H1 t1 w1 (itOk_seqL q)⟩
    | tup ds =>
      refine go (pi_tup (hP e)) ⟨ρ, Gh, T, σ, w, er, ?_⟩
      rw [e1]
      intro v ρ1 G1 H1 t1 w1 k1
      obtain ⟨a, vs, rfl, h1, r⟩ := k1.1.t
      exact ⟨a, rfl, ⟨vs, SqT.sub w1.sub h1⟩, p _ ρ1 G1 H1 t1 w1 (itOk_seqT fun ρ' G' H' T' t w' => ⟨vs, SqT.sub w'.sub (SqT.sub t.w.gsub h1), Rps.mono t.w.gsub t.w.pre _ _ r⟩)⟩
    | str z =>
      refine go (pi_str (hP e)) ⟨ρ, Gh, T, σ, w, er, ?_⟩
      rw [e1]
      intro v ρ1 G1 H1 t1 w1 k1
      cases k1.1.s
      refine ⟨z, rfl, ?_⟩
      unfold itemsM itemsD at p
      simp only at p
      cases hf : fits z.length with
      | false => rw [hf] at p; exact (show False from p).elim
      | true =>
        rw [hf, if_pos rfl] at p
        exact p _ ρ1 G1 H1 t1 w1 (itOk_str z)
    | obj n =>
      unfold itemsM at p
      simp only at p
      split at p
      · rename_i ds hT
        refine go (pi_list (hP e)) ⟨ρ, Gh, T, σ, w, er, ?_⟩
        rw [e1]
        intro v ρ1 G1 H1 t1 w1 k1
        obtain ⟨a, rfl, hr⟩ := k1.1.o
        obtain ⟨b, e2, o, vs, h1, r⟩ := w1.sto n _ hT
        rw [hr] at e2
        cases e2
        refine ⟨a, rfl, ⟨vs, .inl (.inr ⟨o, h1⟩)⟩, p _ ρ1 G1 H1 t1 w1 (itOk_seqL fun ρ' G' H' T' t w' => ⟨vs, .inl (.inr ⟨o, t.w.kfrz _ _ h1 trivial⟩), Rps.mono t.w.gsub t.w.pre _ _ r⟩)⟩
      · exact (show False from p).elim
    | _ => exact (show False from p).elim
theorem star1 {a : Expr} (h : notStar a = true) : starEach [a] X.env = [(false, eval a X.env)] := star_of h [] X.env
theorem pi_itM (S : Snd G C R) (g : Gx X G C) (fit : Fit X F) (tk : L2N.Takes X W) (hP : HowP X W F wk P) (e : Expr) : PI X tg e (RG X.K W (kI X.K wk) (itM P R F tg e)) := by
  unfold itM
  split
  · rename_i f p2 a pos
    split
    · rename_i hb
      simp only [Bool.and_eq_true, decide_eq_true_eq] at hb
      obtain ⟨⟨b1, b2⟩, rfl⟩ := hb
      refine (pi_range1 (isGl_ok fit b1) (g.blt _ (by decide +kernel)) (pa_cons (pe_vE S g fit tk a) pa_nil (star_of b2 [] X.env)) (star1 b2)).imp fun σv H Rr ⟨ρ, Gh, T, σ, w, er, p⟩ => ?_
      refine ⟨ρ, Gh, T, σ, w, er, (Post.bind kI_sh er p).mono ?_⟩
      rintro v H1 ⟨ρ1, G1, T1, d, k1, t1, w1, er1, p1⟩
      cases d <;> first | exact (show False from p1).elim | skip
      rename_i j
      cases Rp.i k1
      have p1' : Post X.K W (kI X.K wk) ρ1 G1 H1 σv Rr ((if small62 j = true then EM.pure (rangeD 0 j.toNat) else EM.bad) σ T1) := p1
      cases hs : small62 j with
      | false => rw [hs] at p1'; exact (show False from p1').elim
      | true =>
        rw [hs, if_pos rfl] at p1'
        unfold small62 at hs
        simp only [Bool.and_eq_true, decide_eq_true_eq] at hs
        exact ⟨j, rfl, hs.1, hs.2, p1' _ ρ1 G1 H1 .refl w1 (itOk_rng 0 _)⟩
    · split
      · rename_i hb
        simp only [Bool.and_eq_true, decide_eq_true_eq] at hb
        obtain ⟨⟨b1, b2⟩, rfl⟩ := hb
        split
        · rename_i ht
          cases tg <;> first | (cases ht; done) | skip
          rename_i elts kk tpos
          refine (pi_enum (isGl_ok fit b1) (g.blt _ (by decide +kernel)) (pa_cons (hP a) pa_nil (star_of b2 [] X.env)) (star1 b2)).imp fun σv H Rr ⟨ρ, Gh, T, σ, w, er, p⟩ => ?_
          refine ⟨ρ, Gh, T, σ, w, er, (Post.bind kI_sh er p).mono ?_⟩
          rintro v H1 ⟨ρ1, G1, T1, d, k1, t1, w1, er1, p1⟩
          cases d <;> first | exact (show False from p1).elim | skip
          rename_i ds
          obtain ⟨a', vs, rfl, h1, r, q⟩ := PRel.walk w1 k1.1 k1.2
          refine ⟨a', vs, rfl, h1, (show Post X.K W (kI X.K wk) ρ1 G1 H1 σv Rr (.ok (enumFrom 0 ds) T1) from p1) _ ρ1 G1 H1 .refl w1 ?_⟩
          intro ρ' G' H' T' t w'
          obtain ⟨vs', h1', r'⟩ := q ρ' G' H' T' t w'
          have enl : ∀ (k : Nat) (l : List D), (enumFrom k l).length = l.length := fun k l => by
            induction l generalizing k with
            | nil => rfl
            | cons d l ih => show (enumFrom (k + 1) l).length + 1 = l.length + 1; rw [ih]
          have eng : ∀ (k i : Nat) (l : List D) (d : D), (enumFrom k l)[i]? = some d → ∃ e, l[i]? = some e ∧ d = .tup [.int ((k + i : Nat) : Int), e] := fun k i l d h => by
            induction l generalizing k i with
            | nil => simp [enumFrom] at h
            | cons e l ih =>
              cases i with
              | zero => simp [enumFrom] at h; exact ⟨e, rfl, by simp [h]⟩
              | succ i =>
                obtain ⟨e', h1, h2⟩ := ih (k + 1) i (by simpa [enumFrom] using h)
                exact ⟨e', by simpa using h1, by rw [h2]; congr 4; omega⟩
          refine ⟨fun i d e => ?_, ⟨vs', h1', by rw [enl, r'.length]; exact Nat.le_refl _⟩⟩
          obtain ⟨e', h2, rfl⟩ := eng 0 i ds d e
          obtain ⟨u, h3, r3⟩ := r'.get h2
          refine ⟨⟨vs', u, h1', h3⟩, fun x H3 hy => ?_⟩
          obtain ⟨Ta, x0, rfl, hn, rfl, hx⟩ := hy
          have := hx vs' h1'
          rw [h3] at this
          cases this
          have g0 := w'.gfree hn
          refine ⟨upd G' Ta (.tup [.int (i : Nat), u]), (Tr.refl.new w' hn _).frz _ g0 hn, (w'.new hn _).frz upd_same (w'.rfree hn) g0, ?_⟩
          refine .tup (.inl (.inl upd_same)) (.cons ?_ (.cons (Rp.mono (sub_frz _ g0) (fun _ _ e => e) _ _ r3) .nil))
          rw [Nat.zero_add]
          exact .int _
        · exact ⟨fun pins s σ H Rr I ⟨ρ, Gh, T, σ', _, _, p⟩ => (show False from p).elim⟩
      · split
        · rename_i hb
          simp only [Bool.and_eq_true, decide_eq_true_eq] at hb
          obtain ⟨⟨b1, b2⟩, rfl⟩ := hb
          refine (RT.pi_revA (isGl_ok fit b1) (g.blt _ (by decide +kernel)) (hP a) (star_of b2 [] X.env)).imp fun σv H Rr ⟨ρ, Gh, T, σ, w, er, p⟩ => ?_
          refine ⟨ρ, Gh, T, σ, w, er, (Post.bind kI_sh er p).mono ?_⟩
          rintro v H1 ⟨ρ1, G1, T1, d, k1, t1, w1, er1, p1⟩
          cases d <;> first | exact (show False from p1).elim | skip
          · rename_i ds
            obtain ⟨a', vs, rfl, h1, r⟩ := k1.1.t
            have q : ∀ (ρ' : List Addr) (G' H' : Hp) (T' : Sto), TrB wk ρ1 G1 H1 ρ' G' H' → Wd X.K ρ' G' H' T' → ∃ vs, SqT X.K H' a' vs ∧ Rps X.K ρ' G' vs ds := fun ρ' G' H' T' t w' => ⟨vs, SqT.sub w'.sub (SqT.sub t.w.gsub h1), Rps.mono t.w.gsub t.w.pre _ _ r⟩
            refine ⟨a', vs, rfl, .inr ⟨SqT.sub w1.sub h1, (show Post X.K W (kI X.K wk) ρ1 G1 H1 σv Rr (.ok ds.reverse T1) from p1) _ ρ1 G1 H1 .refl w1 ?_⟩⟩
            intro ρ' G' H' T' t w'
            obtain ⟨vs', h1', r'⟩ := q ρ' G' H' T' t w'
            have hl : vs.length = ds.length := r.length
            refine ⟨fun i d e => ?_, by rw [List.length_reverse, ← hl]; exact Nat.le_refl _⟩
            have hi : i < ds.length := by
              have := (List.getElem?_eq_some_iff.mp e).1
              rwa [List.length_reverse] at this
            rw [List.getElem?_reverse hi] at e
            obtain ⟨u, h3, r3⟩ := r'.get e
            rw [← hl] at h3
            refine ⟨⟨by rw [hl]; exact hi, vs', u, h1', h3⟩, fun x H3 hy => ?_⟩
            obtain ⟨rfl, hx⟩ := hy
            have := hx vs' h1'
            rw [h3] at this
            cases this
            exact ⟨G', .refl, w', r3⟩
          · rename_i ds
            obtain ⟨a', vs, rfl, h1, r, q⟩ := PRel.walk w1 k1.1 k1.2
            refine ⟨a', vs, rfl, .inl ⟨h1, (show Post X.K W (kI X.K wk) ρ1 G1 H1 σv Rr (.ok ds.reverse T1) from p1) _ ρ1 G1 H1 .refl w1 ?_⟩⟩
            intro ρ' G' H' T' t w'
            obtain ⟨vs', h1', r'⟩ := q ρ' G' H' T' t w'
            have hl : vs.length = ds.length := r.length
            refine ⟨fun i d e => ?_, by rw [List.length_reverse, ← hl]; exact Nat.le_refl _⟩
            have hi : i < ds.length := by
              have := (List.getElem?_eq_some_iff.mp e).1
              rwa [List.length_reverse] at this
            rw [List.getElem?_reverse hi] at e
            obtain ⟨u, h3, r3⟩ := r'.get e
            rw [← hl] at h3
            refine ⟨⟨by rw [hl]; exact hi, vs', u, h1', h3⟩, fun x H3 hy => ?_⟩
            obtain ⟨rfl, hx⟩ := hy
            have := hx vs' h1'
            rw [h3] at this
            cases this
            exact ⟨G', .refl, w', r3⟩
        · exact pi_items hP _
  · rename_i f p2 a b pos
    split
    · rename_i hb
      simp only [Bool.and_eq_true, decide_eq_true_eq] at hb
      obtain ⟨⟨⟨b1, b2⟩, b3⟩, rfl⟩ := hb
      refine (pi_range2 (isGl_ok fit b1) (g.blt _ (by decide +kernel)) (pa_cons (pe_vE S g fit tk a) (pa_cons (pe_vE S g fit tk b) pa_nil (star_of b3 [] X.env)) (star_of b2 _ X.env)) (by rw [star_of b2, star1 b3]) (star1 b3)).imp fun σv H Rr ⟨ρ, Gh, T, σ, w, er, p⟩ => ?_
      refine ⟨ρ, Gh, T, σ, w, er, (Post.bind kI_sh er p).mono ?_⟩
      rintro v H1 ⟨ρ1, G1, T1, d, k1, t1, w1, er1, p1⟩
      refine ⟨ρ1, G1, T1, σ, w1, er1, (Post.bind kI_sh er1 p1).mono ?_⟩
      rintro v2 H2 ⟨ρ2, G2, T2, d2, k2, t2, w2, er2, p2⟩
      cases d <;> first | exact (show False from p2).elim | skip
      cases d2 <;> first | exact (show False from p2).elim | skip
      rename_i i j
      cases Rp.i k1
      cases Rp.i k2
      have p2' : Post X.K W (kI X.K wk) ρ2 G2 H2 σv Rr ((if (small62 i && small62 j) = true then EM.pure (rangeD i (j - i).toNat) else EM.bad) σ T2) := p2
      cases hs : small62 i && small62 j with
      | false => rw [hs] at p2'; exact (show False from p2').elim
      | true =>
        rw [hs, if_pos rfl] at p2'
        unfold small62 at hs
        simp only [Bool.and_eq_true, decide_eq_true_eq] at hs
        exact ⟨i, j, rfl, ⟨hs.1.1, hs.1.2, hs.2.1, hs.2.2⟩, p2' _ ρ2 G2 H2 .refl w2 (itOk_rng i _)⟩
    · exact pi_items hP _
  · exact pi_items hP _
end
end Mi


set_option Elab.async false
set_option linter.all false
set_option maxRecDepth 100000
/-! MiJ: targets; comprehensions. -/
namespace Mi
open PySem PySem.Spec PyProof.Rows L2
/-! ### targets -/
def SameAt (is : List Nat) (σ σ' : L2.St) : Prop := σ'.length = σ.length ∧ ∀ j, j ∉ is → σ'[j]? = σ[j]?
theorem SameAt.refl {is : List Nat} {σ : L2.St} : SameAt is σ σ := ⟨rfl, fun _ _ => rfl⟩
theorem SameAt.set {is : List Nat} {σ : L2.St} {i : Nat} {v : Option V} (h : i ∈ is) : SameAt is σ (σ.set i v) := ⟨by rw [List.length_set], fun j hj => by rw [List.getElem?_set_ne]; rintro rfl; exact hj h⟩
theorem SameAt.trans {is : List Nat} {σ σ1 σ2 : L2.St} (a : SameAt is σ σ1) (b : SameAt is σ1 σ2) : SameAt is σ σ2 := ⟨b.1.trans a.1, fun j hj => (b.2 j hj).trans (a.2 j hj)⟩
theorem SameAt.mono {is js : List Nat} {σ σ1 : L2.St} (a : SameAt is σ σ1) (h : ∀ i ∈ is, i ∈ js) : SameAt js σ σ1 := ⟨a.1, fun j hj => a.2 j fun z => hj (h j z)⟩
theorem wipe_get (σ : L2.St) : ∀ (vs : List Nat) (j : Nat), (wipe σ vs)[j]? = if j ∈ vs then (if j < σ.length then some none else none) else σ[j]?
  | [], j => by simp [wipe]
  | v :: vs, j => by
    unfold wipe
    by_cases h : v = j
    · subst h
      simp only [List.mem_cons, true_or, if_true]
      rw [List.getElem?_set]
      simp [wipe_length]
    · rw [List.getElem?_set_ne h, wipe_get σ vs j]
      have h' : ¬ j = v := fun e => h e.symm
      simp only [List.mem_cons, h', false_or]
theorem SameAt.wipe {is vs : List Nat} {σ σ1 : L2.St} (a : SameAt is σ σ1) (h : ∀ i ∈ is, i ∈ vs) : L2.wipe σ1 vs = L2.wipe σ vs := by
  apply List.ext_getElem?
  intro j
  rw [wipe_get, wipe_get, a.1]
  split
  · rfl
  · rename_i hj
    exact a.2 j fun z => hj (h j z)
section
variable {K : PySem.W.Frag} {ρ : List Addr} {G H : Hp} {σ : Env} {σv : L2.St}
theorem EnvR.set (h : EnvR K ρ G H σ σv) {v : V} {d : D} (r : Rp K ρ G v d) (i : Nat) : EnvR K ρ G H (σ.set i (.fz d)) (σv.set i (some v)) := by
  refine ⟨by rw [List.length_set, List.length_set, h.len], fun j s u e1 e2 => ?_, fun j k d1 d2 a e1 e2 e3 e4 => ?_⟩
  · by_cases hj : i = j
    · subst hj
      rw [List.getElem?_set] at e1 e2
      simp only [if_true] at e1 e2
      split at e1
      · split at e2
        · cases e1; cases e2
          exact ⟨v, rfl, r⟩
        · cases e2
      · cases e1
    · rw [List.getElem?_set_ne hj] at e1 e2
      exact h.at_ j s u e1 e2
  · have nj : i ≠ j := by
      rintro rfl
      rw [List.getElem?_set] at e1
      simp only [if_true] at e1
      split at e1 <;> cases e1
    have nk : i ≠ k := by
      rintro rfl
      rw [List.getElem?_set] at e2
      simp only [if_true] at e2
      split at e2 <;> cases e2
    rw [List.getElem?_set_ne nj] at e1 e3
    rw [List.getElem?_set_ne nk] at e2 e4
    exact h.dist j k d1 d2 a e1 e2 e3 e4
theorem wipeE_get (σ : Env) : ∀ (vs : List Nat) (j : Nat) (s : Sl), (wipeE σ vs)[j]? = some s → (j ∈ vs ∧ s = .no) ∨ (j ∉ vs ∧ σ[j]? = some s)
  | [], j, s, e => .inr ⟨by simp, e⟩
  | v :: vs, j, s, e => by
    unfold wipeE at e
    by_cases h : v = j
    · subst h
      rw [List.getElem?_set] at e
      simp only [if_true] at e
      split at e
      · cases e; exact .inl ⟨by simp, rfl⟩
      · cases e
    · rw [List.getElem?_set_ne h] at e
      have h' : ¬ j = v := fun z => h z.symm
      rcases wipeE_get σ vs j s e with ⟨a, b⟩ | ⟨a, b⟩
      · exact .inl ⟨by simp [a], b⟩
      · exact .inr ⟨by simp [h', a], b⟩
theorem wipeE_len (σ : Env) : ∀ vs : List Nat, (wipeE σ vs).length = σ.length
  | [] => rfl
  | v :: vs => by unfold wipeE; rw [List.length_set, wipeE_len σ vs]
theorem EnvR.wipe (h : EnvR K ρ G H σ σv) (vs : List Nat) : EnvR K ρ G H (wipeE σ vs) (L2.wipe σv vs) := by
  refine ⟨by rw [wipeE_len, wipe_length, h.len], fun j s u e1 e2 => ?_, fun j k d1 d2 a e1 e2 e3 e4 => ?_⟩
  · rcases wipeE_get σ vs j s e1 with ⟨_, rfl⟩ | ⟨n, e⟩
    · trivial
    · rw [wipe_get, if_neg n] at e2
      exact h.at_ j s u e e2
  · rcases wipeE_get σ vs j _ e1 with ⟨_, z⟩ | ⟨n, e⟩
    · cases z
    · rcases wipeE_get σ vs k _ e2 with ⟨_, z⟩ | ⟨n2, e'⟩
      · cases z
      · rw [wipe_get, if_neg n] at e3
        rw [wipe_get, if_neg n2] at e4
        exact h.dist j k d1 d2 a e e' e3 e4
end
theorem _root_.L2.PG.imp {X : Cx} {e : Expr} {t t' : TG} (h : PG X e t) (i : ∀ v σ H Q, t' v σ H Q → t v σ H Q) : PG X e t' := ⟨fun pins s σ H v u Q I r hw => h.run pins s σ H v u Q I r (i v σ H Q hw)⟩
theorem _root_.L2.PGs.imp {X : Cx} {es : List Expr} {t t' : TGs} (h : PGs X es t) (i : ∀ v σ H Q, t' v σ H Q → t v σ H Q) : PGs X es t' := ⟨fun pins s σ H v u Q I r hw => h.run pins s σ H v u Q I r (i v σ H Q hw)⟩
/-- what targets are to reach -/
def gR (K : PySem.W.Frag) (is : List Nat) (f : D → Env → Option Env) : TG := fun v σv H Q => ∃ ρ G T σ d σ1, Wd K ρ G H T ∧ EnvR K ρ G H σ σv ∧ Rp K ρ G v d ∧ f d σ = some σ1 ∧ ∀ σv1, EnvR K ρ G H σ1 σv1 → SameAt is σv σv1 → Q σv1 H
def gRs (K : PySem.W.Frag) (is : List Nat) (f : List D → Env → Option Env) : TGs := fun vs σv H Q => ∃ ρ G σ ds σ1, EnvR K ρ G H σ σv ∧ Rps K ρ G vs ds ∧ f ds σ = some σ1 ∧ ∀ σv1, EnvR K ρ G H σ1 σv1 → SameAt is σv σv1 → Q σv1 H
section
variable {X : Cx} {F : Fi}
theorem slotL_ok (fit : Fit X F) {x : Str} {i : Nat} (h : slotL F x = some i) : X.N[i]? = some x ∧ Loc X.env.scope x ∧ (X.fn x = true ∨ X.env.scope.names.lookup x = some .local) := by
  unfold slotL at h
  split at h
  · rename_i hv
    simp only [Bool.and_eq_true, Bool.or_eq_true, decide_eq_true_eq] at hv
    rw [fit.N, fit.sc, fit.fn]
    exact ⟨ixOf_get h, locB_iff hv.1, hv.2⟩
  · cases h
theorem pg_nm (fit : Fit X F) {x : Str} {pos : Pos} {i : Nat} (h : slotL F x = some i) : PG X (.Name x pos) (gName i) := by
  obtain ⟨h1, h2, h3⟩ := slotL_ok fit h
  exact pg_name fit.nd h1 h2 h3
def isName : Expr → Bool
  | .Name _ _ => true
  | _ => false
theorem each_name {e : Expr} (h : isName e = true) (es : List Expr) (env : PySem.Env) : assignEach (e :: es) env = (false, assign e env) :: assignEach es env := by
  cases e <;> first | rfl | cases h
theorem each_len : ∀ {es : List Expr}, es.all isName = true → ∀ env, (assignEach es env).length = es.length ∧ (assignEach es env).findIdx? (·.1) = none
  | [], _, env => ⟨rfl, rfl⟩
  | e :: es, h, env => by
    rw [List.all_cons, Bool.and_eq_true] at h
    rw [each_name h.1]
    obtain ⟨a, b⟩ := each_len h.2 env
    refine ⟨by rw [List.length_cons, List.length_cons, a], ?_⟩
    rw [List.findIdx?_cons, b]
    rfl
theorem bindNs_names : ∀ {es : List Expr} {ds : List D} {σ σ1 : Env}, bindNs F es ds σ = some σ1 → es.all isName = true ∧ es.length = ds.length
  | [], [], _, _, _ => ⟨rfl, rfl⟩
  | [], _ :: _, _, _, h => by cases h
  | e :: es, ds, σ, σ1, h => by
    cases e <;> first | (cases h; done) | skip
    cases ds with
    | nil => cases h
    | cons d ds =>
      rename_i x pos
      have h' : ((slotL F x).bind fun i => bindNs F es ds (σ.set i (.fz d))) = some σ1 := h
      cases e1 : slotL F x with
      | none => rw [e1] at h'; cases h'
      | some i =>
        rw [e1] at h'
        obtain ⟨a, b⟩ := bindNs_names (es := es) (ds := ds) h'
        exact ⟨by rw [List.all_cons, a]; rfl, by rw [List.length_cons, List.length_cons, b]⟩
theorem pgs_bad {es : List Expr} {is : List Nat} {f : List D → Env → Option Env} (h : ∀ ds σ, f ds σ = none) : PGs X es (gRs X.K is f) := ⟨fun pins s σ H vs us Q I r hw => by
  obtain ⟨ρ, G, σ', ds, σ1, _, _, e, _⟩ := hw
  rw [h] at e
  cases e⟩
theorem pgs_bind (fit : Fit X F) : ∀ es : List Expr, PGs X es (gRs X.K (slotsNs F es) (bindNs F es))
  | [] => pgs_nil.imp fun vs σv H Q ⟨ρ, G, σ, ds, σ1, er, r, e, q⟩ => by
    cases ds with
    | cons d ds => cases e
    | nil =>
      cases e
      cases r
      exact ⟨rfl, q _ er .refl⟩
  | e :: es => by
    cases e
    case Name x pos =>
      cases e1 : slotL F x with
      | none =>
        refine pgs_bad fun ds σ => ?_
        cases ds with
        | nil => rfl
        | cons d ds =>
          show ((slotL F x).bind fun i => bindNs F es ds (σ.set i (.fz d))) = none
          rw [e1]
          rfl
      | some i =>
        refine (pgs_cons (pg_nm fit e1) (pgs_bind fit es)).imp fun vs σv H Q ⟨ρ, G, σ, ds, σ1, er, r, e, q⟩ => ?_
        cases ds with
        | nil => cases e
        | cons d ds =>
          have e : ((slotL F x).bind fun i => bindNs F es ds (σ.set i (.fz d))) = some σ1 := e
          rw [e1] at e
          cases r with
          | @cons v vs _ _ r rs =>
            refine ⟨v, vs, rfl, ρ, G, σ.set i (.fz d), ds, σ1, er.set r i, rs, e, fun σv1 er1 sm => q σv1 er1 ?_⟩
            have es' : slotsNs F (.Name x pos :: es) = i :: slotsNs F es := by
              show (match slotL F x with | some i => [i] | none => []) ++ slotsNs F es = _
              rw [e1]
              rfl
            rw [es']
            exact (SameAt.set (by simp)).trans (sm.mono fun j hj => by simp [hj])
    all_goals exact pgs_bad fun ds σ => by cases ds <;> rfl
theorem pg_bind (fit : Fit X F) (tg : Expr) : PG X tg (gR X.K (slotsT F tg) (bindT F tg)) := by
  refine ⟨fun pins s σv H v u Q I r h => ?_⟩
  obtain ⟨ρ, G, T, σ, d, σ1, w, er, rp, e, q⟩ := h
  cases tg
  case Name x pos =>
    have e : (slotL F x).map (fun i => σ.set i (.fz d)) = some σ1 := e
    cases e1 : slotL F x with
    | none => rw [e1] at e; cases e
    | some i =>
      rw [e1] at e
      have e2 : σ.set i (.fz d) = σ1 := by simpa using e
      subst e2
      have es' : slotsT F (.Name x pos) = [i] := by
        show (match slotL F x with | some i => [i] | none => []) = _
        rw [e1]
      exact (pg_nm fit e1).run pins s σv H v u Q I r (q _ (er.set rp i) (by rw [es']; exact SameAt.set (by simp)))
  case Tuple es k pos =>
    cases d <;> first | (cases e; done) | skip
    case tup ds =>
      have e : bindNs F es ds σ = some σ1 := e
      obtain ⟨hn, hl⟩ := bindNs_names e
      obtain ⟨l1, l2⟩ := each_len hn X.env
      cases rp with
      | @tup a vs _ hq rs => exact (pg_tup fit.calm (pgs_bind fit es) l1 l2).run pins s σv H _ u Q I r ⟨a, vs, rfl, SqT.sub w.sub hq, by rw [rs.length, hl], ρ, G, σ, ds, σ1, er, rs, e, q⟩
    case lst ds =>
      have e : bindNs F es ds σ = some σ1 := e
      obtain ⟨hn, hl⟩ := bindNs_names e
      obtain ⟨l1, l2⟩ := each_len hn X.env
      cases rp with
      | @lst a vs _ hq rs => exact (pg_lst fit.calm (pgs_bind fit es) l1 l2).run pins s σv H _ u Q I r ⟨a, vs, rfl, SqL.of (w.sub _ _ hq), by rw [rs.length, hl], ρ, G, σ, ds, σ1, er, rs, e, q⟩
  all_goals (cases d <;> cases e)
end

/-! ### comprehensions -/
theorem Wd.own {K : PySem.W.Frag} {ρ : List Addr} {G H : Hp} {T : Sto} (w : Wd K ρ G H T) {p : Addr} (hp : p ∉ ρ) (hg : G p = none) (o : HO) : Wd K ρ G (upd H p o) T := by
  refine ⟨fun a u e => ?_, w.len, fun n ob e => ?_, w.nd, w.dj⟩
  · have : a ≠ p := fun z => by rw [z, hg] at e; cases e
    rw [upd_ne this]
    exact w.sub a u e
  · obtain ⟨a, ha, r⟩ := w.sto n ob e
    refine ⟨a, ha, ?_⟩
    have : a ≠ p := fun z => hp (z ▸ List.mem_of_getElem? ha)
    rw [upd_ne this]
    exact r
theorem Tr.own {ρ ρ1 : List Addr} {G G1 H H1 : Hp} (t : Tr ρ G H ρ1 G1 H1) {p : Addr} (hp : H p = none) (o : HO) : Tr ρ G H ρ1 G1 (upd H1 p o) := by
  refine ⟨t.pre, t.rnew, t.gsub, t.gnew, fun a o' e h => ?_⟩
  rw [upd_ne (ne_of_none e hp)]
  exact t.keep a o' e h
abbrev W0 : WX := fun _ _ _ _ => False
section
variable {X : Cx} {W : WX} {F : Fi} {G : Gi} {C : CallT} {R : Dn}
theorem pts_ifs (S : Snd G C R) (g : Gx X G C) (fit : Fit X F) (tk : L2N.Takes X W) (ifs : List Expr) : PTs X ifs (RG X.K W kB (ifsE R F ifs)) := by
  match ifs with
  | [] => exact ⟨fun pins s σv H Q I ⟨ρ, Gh, T, σ, w, er, p⟩ => pts_nil.run pins s σv H Q I (p true ρ Gh H .refl w rfl)⟩
  | [c] => exact pts_one (S.tst X W F c g fit tk)
  | c :: c2 :: r => exact ⟨fun pins s σv H Q I ⟨ρ, Gh, T, σ, w, er, p⟩ => p.elim⟩
theorem ps_noex {α β : Type} {K : PySem.W.Frag} {k : Kd β α} {ρ ρ1 : List Addr} {G G1 H H1 : Hp} {σv : L2.St} {Q : β → Hp → Prop} {r : Res α} {f : α → Sto → Res (List D)} {Wf : WX} {kk : Kd V (D × Bool)} {Qf : VK} {σw : L2.St}
    (h : Post K Wf kk ρ1 G1 H1 σw Qf ((r.noex.bind f).bind fun ds T1 => .ok (.lst ds, true) T1))
    (q : ∀ a T' b ρ' G' H', r = .ok a T' → Tr ρ G H ρ' G' H' → Wd K ρ' G' H' T' → k ρ' G' H H' b a → Q b H') : Post K W0 k ρ G H σv Q r := by
  cases r with
  | ok a T' => exact fun b ρ' G' H' t w z => q a T' b ρ' G' H' rfl t w z
  | ex x T' => exact (show False from h).elim
  | bad => exact (show False from h).elim
abbrev lcF (F : Fi) (scope : Scope) : Fi := ⟨F.N, L2.relS scope F.sc, fun x => scope.names.lookup x == some .cell⟩
/-- what a comprehension needs, and what its reading comes to -/
structure LcS (X : Cx) (W : WX) (R : Dn) (F : Fi) (elt tg iter : Expr) (ifs : List Expr) (scope : Scope) : Prop where
  ok : BlkOk X.N X.env.scope scope (ownOf F.N scope)
  hi : PI X tg iter (RG X.K W (kI X.K false) (itM (pE R) R F tg iter))
  hg : ∀ (s : Shared) (H : Hp) (Ca : Addr) (cl : List (Str × Addr)) (fp : List Addr), PG (X.blk s H scope (compEnvC scope cl Ca X.env) fp) tg (gR X.K (slotsT (lcF F scope) tg) (bindT (lcF F scope) tg))
  ht : ∀ (s : Shared) (H : Hp) (Ca : Addr) (cl : List (Str × Addr)) (fp : List Addr), PTs (X.blk s H scope (compEnvC scope cl Ca X.env) fp) ifs (RG X.K W0 kB (ifsE R (lcF F scope) ifs))
  he : ∀ (s : Shared) (H : Hp) (Ca : Addr) (cl : List (Str × Addr)) (fp : List Addr), PE (X.blk s H scope (compEnvC scope cl Ca X.env) fp) elt (RG X.K W0 (kF X.K) (vE R (lcF F scope) elt))
  hs : ∀ x, foldedSetIterable iter X.env x = pure x
  im : ∀ σv H Q, RG X.K W (kV X.K) (lcE R F elt tg iter ifs scope) σv H Q → tLc (RG X.K W (kI X.K false) (itM (pE R) R F tg iter)) (gR X.K (slotsT (lcF F scope) tg) (bindT (lcF F scope) tg)) (RG X.K W0 kB (ifsE R (lcF F scope) ifs)) (RG X.K W0 (kF X.K) (vE R (lcF F scope) elt)) ((ownOf F.N scope).map (·.2)) σv H Q
theorem lc_sound (S : Snd G C R) (g : Gx X G C) (fit : Fit X F) (tk : L2N.Takes X W) (elt tg iter : Expr) (ifs : List Expr) (scope : Scope) :
    LcS X W R F elt tg iter ifs scope ∨ lcE R F elt tg iter ifs scope = EM.bad := by
  cases hc : L2.blkC F.N F.sc scope (ownOf F.N scope) && (slotsT (lcF F scope) tg).all (fun i => (ownOf F.N scope).any fun p => p.2 == i) && notSet iter with
  | false =>
    right
    unfold lcE
    rw [hc]
    rfl
  | true =>
    left
    have hb := hc
    simp only [Bool.and_eq_true, List.all_eq_true, List.any_eq_true, beq_iff_eq] at hb
    obtain ⟨⟨b1, b2⟩, b3⟩ := hb
    have okb : BlkOk X.N X.env.scope scope (ownOf F.N scope) := by
      rw [fit.N, fit.sc]
      exact blkOk_by b1
    have fit' : ∀ (s : Shared) (H : Hp) (Ca : Addr) (cl : List (Str × Addr)) (fp : List Addr), Fit (X.blk s H scope (compEnvC scope cl Ca X.env) fp) (lcF F scope) := fun s H Ca cl fp => by
      refine ⟨fit.N, ?_, rfl, fit.calm, fit.nd⟩
      show L2.relS scope X.env.scope = L2.relS scope F.sc
      rw [fit.sc]
    have g' : ∀ (s : Shared) (H : Hp) (Ca : Addr) (cl : List (Str × Addr)) (fp : List Addr), Gx (X.blk s H scope (compEnvC scope cl Ca X.env) fp) G C := fun s H Ca cl fp => ⟨g.fn, g.blt, g.cst, g.un⟩
    have sub : ∀ i ∈ slotsT (lcF F scope) tg, i ∈ (ownOf F.N scope).map (·.2) := fun i hi => by
      obtain ⟨p, hp, e⟩ := b2 i hi
      exact List.mem_map.mpr ⟨p, hp, e⟩
    have he : ∀ (s : Shared) (H : Hp) (Ca : Addr) (cl : List (Str × Addr)) (fp : List Addr), PE (X.blk s H scope (compEnvC scope cl Ca X.env) fp) elt (RG X.K W0 (kF X.K) (vE R (lcF F scope) elt)) := fun s H Ca cl fp => pe_vE (W := W0) S (g' s H Ca cl fp) (fit' s H Ca cl fp) takesN0 elt
    have ht : ∀ (s : Shared) (H : Hp) (Ca : Addr) (cl : List (Str × Addr)) (fp : List Addr), PTs (X.blk s H scope (compEnvC scope cl Ca X.env) fp) ifs (RG X.K W0 kB (ifsE R (lcF F scope) ifs)) := fun s H Ca cl fp => pts_ifs (W := W0) S (g' s H Ca cl fp) (fit' s H Ca cl fp) takesN0 ifs
    have hg : ∀ (s : Shared) (H : Hp) (Ca : Addr) (cl : List (Str × Addr)) (fp : List Addr), PG (X.blk s H scope (compEnvC scope cl Ca X.env) fp) tg (gR X.K (slotsT (lcF F scope) tg) (bindT (lcF F scope) tg)) := fun s H Ca cl fp => pg_bind (fit' s H Ca cl fp) tg
    refine ⟨okb, pi_itM (wk := false) S g fit tk (how_pE S g fit tk) iter, hg, ht, he, (fun x => by cases iter <;> first | rfl | cases b3), fun σv H Q ⟨ρ, Gh, T, σ, w, er, p⟩ => ?_⟩
    unfold lcE at p
    rw [hc, if_pos rfl] at p
    refine ⟨ρ, Gh, T, σ, w, er, (Post.bind kV_sh er p).mono ?_⟩
    rintro J H1 ⟨ρ1, G1, T1, items, kJ, t1, w1, er1, p1⟩ Da hD
    have hr1 := w1.rfree hD
    have hg1 := w1.gfree hD
    refine ⟨fun i m Hc => i ≤ items.length ∧ m = items.length - i ∧ ∃ ρ' G' T' acc vs, Tr ρ1 G1 H1 ρ' G' Hc ∧ Wd X.K ρ' G' Hc T' ∧ Hc Da = some (.lst vs) ∧ Rps X.K ρ' G' vs acc ∧ Da ∉ ρ' ∧ G' Da = none ∧
      Post X.K W (kV X.K) ρ1 G1 H1 σv Q ((lcLoop (bindT (lcF F scope) tg) (ifsE R (lcF F scope) ifs) (vE R (lcF F scope) elt) (wipeE σ ((ownOf F.N scope).map (·.2))) (items.drop i) acc T').bind fun ds T1 => .ok (.lst ds, true) T1),
      ⟨items.length, Nat.zero_le _, rfl, ρ1, G1, T1, [], [], Tr.refl.own hD _, w1.own hr1 hg1 _, upd_same, .nil, hr1, hg1, p1⟩, ?_⟩
    rintro i m Hc ⟨hi, rfl, ρ', G', T', acc, vs, t, w', hvs, racc, nr, ng, pp⟩
    obtain ⟨go, stop⟩ := kJ ρ' G' Hc T' t w'
    by_cases hlt : i < items.length
    · obtain ⟨d, hd⟩ : ∃ d, items[i]? = some d := ⟨_, List.getElem?_eq_getElem hlt⟩
      obtain ⟨go1, yl⟩ := go i d hd
      refine .inr ⟨go1, fun H' => ∃ ρ' G' T' acc vs, Tr ρ1 G1 H1 ρ' G' H' ∧ Wd X.K ρ' G' H' T' ∧ H' Da = some (.lst vs) ∧ Rps X.K ρ' G' vs acc ∧ Da ∉ ρ' ∧ G' Da = none ∧
        Post X.K W (kV X.K) ρ1 G1 H1 σv Q ((lcLoop (bindT (lcF F scope) tg) (ifsE R (lcF F scope) ifs) (vE R (lcF F scope) elt) (wipeE σ ((ownOf F.N scope).map (·.2))) (items.drop (i + 1)) acc T').bind fun ds T1 => .ok (.lst ds, true) T1),
        fun H' hn => ⟨items.length - (i + 1), by omega, by omega, rfl, hn⟩, fun x H3 hy => ?_⟩
      obtain ⟨G3, t3, w3, r3⟩ := yl x H3 hy
      rw [List.drop_eq_getElem_cons hlt] at pp
      have hde : items[i] = d := by
        rw [List.getElem?_eq_getElem hlt] at hd
        exact Option.some.inj hd
      rw [hde] at pp
      have bk : ∀ {ρa : List Addr} {Ga Ha : Hp} {Ta : Sto}, Tr ρ' G' Hc ρa Ga Ha → Wd X.K ρa Ga Ha Ta → Ha Da = some (.lst vs) ∧ Da ∉ ρa ∧ Ga Da = none := fun {ρa Ga Ha Ta} ta wa => by
        refine ⟨ta.keep _ _ hvs (.inl nr), fun z => ?_, ?_⟩
        · rcases ta.rnew _ z with z | z
          · exact nr z
          · rw [hvs] at z; cases z
        · cases q : Ga Da with
          | none => rfl
          | some o =>
            rcases ta.gnew Da (by rw [q]; exact fun z => nomatch z) with z | z
            · exact absurd ng z
            · rw [hvs] at z; cases z
      unfold lcLoop at pp
      cases etg : bindT (lcF F scope) tg d (wipeE σ ((ownOf F.N scope).map (·.2))) with
      | none => rw [etg] at pp; exact (show False from pp).elim
      | some σ1 =>
        rw [etg] at pp
        have pp : Post X.K W (kV X.K) ρ1 G1 H1 σv Q (((ifsE R (lcF F scope) ifs σ1 T').noex.bind fun b T1 => if b = true then (vE R (lcF F scope) elt σ1 T1).noex.bind fun y T2 => if decide (acc.length < 16777216) = true then lcLoop (bindT (lcF F scope) tg) (ifsE R (lcF F scope) ifs) (vE R (lcF F scope) elt) (wipeE σ ((ownOf F.N scope).map (·.2))) (items.drop (i + 1)) (acc ++ [y]) T2 else .bad else lcLoop (bindT (lcF F scope) tg) (ifsE R (lcF F scope) ifs) (vE R (lcF F scope) elt) (wipeE σ ((ownOf F.N scope).map (·.2))) (items.drop (i + 1)) acc T1).bind fun ds T1 => .ok (.lst ds, true) T1) := pp
        have t13 : Tr ρ1 G1 H1 ρ' G3 H3 := t.trans w' t3 w3
        refine ⟨ρ', G3, T', _, d, σ1, w3, (er1.tr t13).wipe _, r3, etg, fun σv1 er3 sm => ⟨?_, ?_⟩⟩
        · rw [sm.wipe sub]
          apply List.ext_getElem?
          intro j
          rw [wipe_get, wipe_get, wipe_length]
          split <;> rfl
        · refine ⟨ρ', G3, T', σ1, w3, er3, ps_noex (k := kB) pp fun b T4 b' ρ4 G4 H4 eb t4 w4 hb => ?_⟩
          have hb : b' = b := hb
          subst hb
          have t4' : Tr ρ' G' Hc ρ4 G4 H4 := t3.trans w3 t4 w4
          obtain ⟨h4D, n4, g4⟩ := bk t4' w4
          rw [eb] at pp
          cases b' with
          | false => exact ⟨ρ4, G4, T4, acc, vs, t.trans w' t4' w4, w4, h4D, racc.tr t4', n4, g4, pp⟩
          | true =>
            refine ⟨ρ4, G4, T4, σ1, w4, er3.tr t4, ps_noex (k := kF X.K) pp fun y T5 y' ρ5 G5 H5 ey t5 w5 hy5 => ?_⟩
            have t5' : Tr ρ' G' Hc ρ5 G5 H5 := t4'.trans w4 t5 w5
            obtain ⟨h5D, n5, g5⟩ := bk t5' w5
            have pp2 : Post X.K W (kV X.K) ρ1 G1 H1 σv Q (((vE R (lcF F scope) elt σ1 T4).noex.bind fun y T2 => if decide (acc.length < 16777216) then lcLoop (bindT (lcF F scope) tg) (ifsE R (lcF F scope) ifs) (vE R (lcF F scope) elt) (wipeE σ ((ownOf F.N scope).map (·.2))) (items.drop (i + 1)) (acc ++ [y]) T2 else .bad).bind fun ds T1 => .ok (.lst ds, true) T1) := pp
            rw [ey] at pp2
            by_cases hz : acc.length < 16777216
            · have pp3 : Post X.K W (kV X.K) ρ1 G1 H1 σv Q ((if decide (acc.length < 16777216) = true then lcLoop (bindT (lcF F scope) tg) (ifsE R (lcF F scope) ifs) (vE R (lcF F scope) elt) (wipeE σ ((ownOf F.N scope).map (·.2))) (items.drop (i + 1)) (acc ++ [y]) T5 else .bad).bind fun ds T1 => .ok (.lst ds, true) T1) := pp2
              rw [if_pos (decide_eq_true hz)] at pp3
              refine ⟨vs, h5D, by rw [racc.length]; exact hz, ρ5, G5, T5, acc ++ [y], vs ++ [y'], (t.trans w' t5' w5).own hD _, w5.own n5 g5 _, upd_same, (racc.tr t5').app (.one hy5), n5, g5, pp3⟩
            · have pp3 : Post X.K W (kV X.K) ρ1 G1 H1 σv Q ((if decide (acc.length < 16777216) = true then lcLoop (bindT (lcF F scope) tg) (ifsE R (lcF F scope) ifs) (vE R (lcF F scope) elt) (wipeE σ ((ownOf F.N scope).map (·.2))) (items.drop (i + 1)) (acc ++ [y]) T5 else .bad).bind fun ds T1 => .ok (.lst ds, true) T1) := pp2
              rw [if_neg (by simpa using hz)] at pp3
              exact (show False from pp3).elim
    · have hi' : i = items.length := by omega
      subst hi'
      refine .inl ⟨stop, ?_⟩
      rw [List.drop_length] at pp
      have pp : ∀ b ρ' G' H', Tr ρ1 G1 H1 ρ' G' H' → Wd X.K ρ' G' H' T' → kV X.K ρ' G' H1 H' b (D.lst acc, true) → Q b H' := pp
      exact pp _ ρ' G' Hc t w' (show Fresh X.K ρ' G' H1 Hc (.ref Da) (.lst acc) from ⟨Da, vs, acc, rfl, rfl, hvs, racc, nr, ng, hD⟩)
theorem st_lc (S : Snd G C R) (g : Gx X G C) (fit : Fit X F) (tk : L2N.Takes X W) (elt tg iter : Expr) (ifs : List Expr) (scope : Scope) (pos : Pos) :
    PE X (.ListComp elt [⟨tg, iter, ifs, 0⟩] scope pos) (RG X.K W (kV X.K) (lcE R F elt tg iter ifs scope)) := by
  rcases lc_sound S g fit tk elt tg iter ifs scope with h | h
  · exact (pe_lc fit.calm fit.nd h.hi h.ok h.hg h.ht h.he h.hs).imp h.im
  · rw [h]
    exact PE.bad fun _ _ => rfl
/-- name = [..] on one line -/
theorem st_setLc (S : Snd G C R) (g : Gx X G C) (fit : Fit X F) (tk : L2N.Takes X W) (elt tg iter : Expr) (ifs : List Expr) (scope : Scope) (pos spos py : Pos) (y : Str) (i : Nat) (hy : X.N[i]? = some y) (hyl : X.env.scope.names.lookup y = some .local)
    (hsw : swapsWith (.ListComp elt [⟨tg, iter, ifs, 0⟩] scope pos) (some (.Name y py)) spos.line X.env = pure true) :
    PS X (.Assign [.Name y py] (.ListComp elt [⟨tg, iter, ifs, 0⟩] scope pos) spos) (tAsg (RG X.K W (kV X.K) (lcE R F elt tg iter ifs scope)) (gName i)) := by
  rcases lc_sound S g fit tk elt tg iter ifs scope with h | h
  · have z := ps_setLc (py := py) (pos := pos) (spos := spos) fit.calm fit.nd hy hyl hsw h.hi h.ok h.hg h.ht h.he h.hs
    exact ⟨fun pins s σ H D I hw => z.run pins s σ H D I (h.im _ _ _ hw)⟩
  · rw [h]
    exact ⟨fun pins s σ H D I ⟨ρ, Gh, T, σ', _, _, p⟩ => (show False from p).elim⟩
end
end Mi


set_option Elab.async false
set_option linter.all false
set_option maxRecDepth 100000
/-! MiK: tests; the expressions' soundness. -/
namespace Mi
open PySem PySem.Spec PyProof.Rows L2
theorem PW.bad {X : Cx} {e : Expr} {W : WX} {α : Type} {k : Kd Bool α} {m : EM α} (h : ∀ σ T, m σ T = .bad) : PW X e (RG X.K W k m) := ⟨fun wh pins s σ H Q I hw => by
  obtain ⟨ρ, G, T, σ', _, _, p⟩ := hw
  rw [h] at p
  exact p.elim⟩
section
variable {X : Cx} {W : WX} {F : Fi} {G : Gi} {C : CallT} {R : Dn}
theorem st_tAll (S : Snd G C R) (g : Gx X G C) (fit : Fit X F) (tk : L2N.Takes X W) (pos : Pos) : ∀ es : List Expr, PW X (.BoolOp .And es pos) (RG X.K W kB (tAll R F es))
  | [] => ⟨fun wh pins s σv H Q I ⟨ρ, Gh, T, σ, w, er, p⟩ => isTrue_and_nil ⟨H, I, p true ρ Gh H .refl w rfl⟩⟩
  | [e] => (pw_and1 (S.tst X W F e g fit tk)).imp fun σv H Q ⟨ρ, Gh, T, σ, w, er, p⟩ => by
    refine ⟨ρ, Gh, T, σ, w, er, (Post.bind kB_sh er p).mono ?_⟩
    rintro k H1 ⟨ρ1, G1, T1, d1, k1, t1, w1, er1, p1⟩
    cases (show k = d1 from k1)
    cases k with
    | true => exact p1 true ρ1 G1 H1 .refl w1 rfl
    | false => exact p1 false ρ1 G1 H1 .refl w1 rfl
  | e :: e2 :: es => (pw_and (S.tst X W F e g fit tk) (st_tAll S g fit tk pos (e2 :: es))).imp fun σv H Q ⟨ρ, Gh, T, σ, w, er, p⟩ => by
    refine ⟨ρ, Gh, T, σ, w, er, (Post.bind kB_sh er p).mono ?_⟩
    rintro k H1 ⟨ρ1, G1, T1, d1, k1, t1, w1, er1, p1⟩
    cases (show k = d1 from k1)
    cases k with
    | true => exact ⟨ρ1, G1, T1, σ, w1, er1, p1⟩
    | false => exact p1 false ρ1 G1 H1 .refl w1 rfl
theorem st_tAny (S : Snd G C R) (g : Gx X G C) (fit : Fit X F) (tk : L2N.Takes X W) (pos : Pos) : ∀ es : List Expr, PW X (.BoolOp .Or es pos) (RG X.K W kB (tAny R F es))
  | [] => ⟨fun wh pins s σv H Q I ⟨ρ, Gh, T, σ, w, er, p⟩ => isTrue_or_nil ⟨H, I, p false ρ Gh H .refl w rfl⟩⟩
  | [e] => (pw_or1 (S.tst X W F e g fit tk)).imp fun σv H Q ⟨ρ, Gh, T, σ, w, er, p⟩ => by
    refine ⟨ρ, Gh, T, σ, w, er, (Post.bind kB_sh er p).mono ?_⟩
    rintro k H1 ⟨ρ1, G1, T1, d1, k1, t1, w1, er1, p1⟩
    cases (show k = d1 from k1)
    cases k with
    | true => exact p1 true ρ1 G1 H1 .refl w1 rfl
    | false => exact p1 false ρ1 G1 H1 .refl w1 rfl
  | e :: e2 :: es => (pw_or (S.tst X W F e g fit tk) (st_tAny S g fit tk pos (e2 :: es))).imp fun σv H Q ⟨ρ, Gh, T, σ, w, er, p⟩ => by
    refine ⟨ρ, Gh, T, σ, w, er, (Post.bind kB_sh er p).mono ?_⟩
    rintro k H1 ⟨ρ1, G1, T1, d1, k1, t1, w1, er1, p1⟩
    cases (show k = d1 from k1)
    cases k with
    | true => exact p1 true ρ1 G1 H1 .refl w1 rfl
    | false => exact ⟨ρ1, G1, T1, σ, w1, er1, p1⟩
theorem st_tNot (S : Snd G C R) (g : Gx X G C) (fit : Fit X F) (tk : L2N.Takes X W) (a : Expr) (pos : Pos) : PT X (.UnaryOp .Not a pos) (RG X.K W kB (EM.bind (R.tst F a) fun b => EM.pure (!b))) :=
  (pt_not (S.tst X W F a g fit tk)).imp fun σv H Q ⟨ρ, Gh, T, σ, w, er, p⟩ => by
    refine ⟨ρ, Gh, T, σ, w, er, (Post.bind kB_sh er p).mono ?_⟩
    rintro k H1 ⟨ρ1, G1, T1, d1, k1, t1, w1, er1, p1⟩
    cases (show k = d1 from k1)
    exact p1 _ ρ1 G1 H1 .refl w1 rfl
theorem st_truth (S : Snd G C R) (g : Gx X G C) (fit : Fit X F) (tk : L2N.Takes X W) {a : Expr} (he : ∀ whole, isTrue a X.env whole = (do let v ← whole; standAt a.pos; holding [v] (truthy v))) : PT X a (RG X.K W kB (EM.bind (pE R F a) fun x => EM.lift (truD x))) :=
  (pt_truth (pe_pE S g fit tk a) he).imp fun σv H Q ⟨ρ, Gh, T, σ, w, er, p⟩ => by
    refine ⟨ρ, Gh, T, σ, w, er, (Post.bind kB_sh er p).mono ?_⟩
    rintro x H1 ⟨ρ1, G1, T1, d1, k1, t1, w1, er1, p1⟩
    obtain ⟨b, e, p2⟩ := ok_lift1 p1
    exact ⟨b, truV w1.sub k1 e, p2 b ρ1 G1 H1 .refl w1 rfl⟩
theorem st_tst (S : Snd G C R) (g : Gx X G C) (fit : Fit X F) (tk : L2N.Takes X W) (e : Expr) : PT X e (RG X.K W kB (stepTst G C R F e)) := by
  unfold stepTst
  split
  · exact (st_tAll S g fit tk _ _).pt
  · exact (st_tAny S g fit tk _ _).pt
  · exact st_tNot S g fit tk _ _
  · split
    · rename_i hs
      exact st_cmpT S g fit tk _ _ _ _ hs
    · exact PT.bad fun _ _ => rfl
  · split
    · rename_i hs
      exact st_chainT S g fit tk _ _ _ _ _ _ hs
    · exact PT.bad fun _ _ => rfl
  · exact PT.bad fun _ _ => rfl
  · exact PT.bad fun _ _ => rfl
  · exact PT.bad fun _ _ => rfl
  · rename_i h1 h2 h3 h4 h5 h6 h7 h8
    refine st_truth S g fit tk fun whole => ?_
    cases e
    case BoolOp op es pos =>
      cases op
      · exact absurd rfl (h1 es pos)
      · exact absurd rfl (h2 es pos)
    case UnaryOp op x pos => exact absurd rfl (h8 op x pos)
    case Compare a b c d => exact absurd rfl (h6 a b c d)
    case IfExp a b c d => exact absurd rfl (h7 a b c d)
    all_goals rfl
theorem st_val (S : Snd G C R) (g : Gx X G C) (fit : Fit X F) (tk : L2N.Takes X W) (e : Expr) : PE X e (RG X.K W (kV X.K) (stepVal G C R F e)) := by
  unfold stepVal
  split
  · exact st_name g fit _ _
  · exact st_const _
  · exact st_bin S g fit tk _ _ _ _
  · exact st_neg S g fit tk _ _
  · exact st_not S g fit tk _ _
  · exact st_and S g fit tk _ _
  · exact st_or S g fit tk _ _
  · split
    · rename_i hs
      exact st_cmpV S g fit tk _ _ _ _ hs
    · exact PE.bad fun _ _ => rfl
  · split
    · rename_i hs
      exact st_chainV S g fit tk _ _ _ _ _ _ hs
    · exact PE.bad fun _ _ => rfl
  · exact st_ifx S g fit tk _ _ _ _
  · exact st_tup S g fit tk _ _ _
  · exact st_lst S g fit tk _ _
  · exact st_slice S g fit tk _ _ _ _ _
  · exact st_rev S g fit tk _ _ _ _ _ _
  · split
    · rename_i hs
      exact st_item S g fit tk _ _ _ hs
    · exact PE.bad fun _ _ => rfl
  · exact st_lc S g fit tk _ _ _ _ _ _
  · exact st_call S g fit tk _ _ _ _
  · exact PE.bad fun _ _ => rfl
end
theorem snd_dn (G : Gi) (C : CallT) : ∀ n : Nat, Snd G C (dn G C n)
  | 0 => ⟨fun X W F e g fit tk => PE.bad fun _ _ => rfl, fun X W F e g fit tk => PT.bad fun _ _ => rfl⟩
  | n + 1 => ⟨fun X W F e g fit tk => st_val (snd_dn G C n) g fit tk e, fun X W F e g fit tk => st_tst (snd_dn G C n) g fit tk e⟩
end Mi


set_option Elab.async false
set_option linter.all false
set_option maxRecDepth 100000
/-! MiL: statements: what is to be reached, and the lemmas under it. -/
namespace Mi
open PySem PySem.Spec PyProof.Rows L2
/-- a def's frame: owned lists are new since its entry -/
structure EnvS (K : PySem.W.Frag) (H0 : Hp) (ρ : List Addr) (G H : Hp) (σ : Env) (σv : L2.St) : Prop where
  er : EnvR K ρ G H σ σv
  ow : ∀ (i : Nat) (d : D) (a : Addr), σ[i]? = some (.ow d) → σv[i]? = some (some (V.ref a)) → H0 a = none
def PostS (K : PySem.W.Frag) (W : WX) (ρ0 : List Addr) (G0 H0 : Hp) (E : Ends) (ρ : List Addr) (G H : Hp) : RS → Prop
  | .nx σ T => ∀ ρ' G' H' σv, Tr ρ0 G0 H0 ρ' G' H' → TrW ρ G H ρ' G' H' → Wd K ρ' G' H' T → EnvS K H0 ρ' G' H' σ σv → E.nx σv H'
  | .bk σ T => ∀ ρ' G' H' σv, Tr ρ0 G0 H0 ρ' G' H' → TrW ρ G H ρ' G' H' → Wd K ρ' G' H' T → EnvS K H0 ρ' G' H' σ σv → E.bk σv H'
  | .ct σ T => ∀ ρ' G' H' σv, Tr ρ0 G0 H0 ρ' G' H' → TrW ρ G H ρ' G' H' → Wd K ρ' G' H' T → EnvS K H0 ρ' G' H' σ σv → E.ct σv H'
  | .rt d fl T => ∀ v ρ' G' H', Tr ρ0 G0 H0 ρ' G' H' → TrW ρ G H ρ' G' H' → Wd K ρ' G' H' T → kV K ρ' G' H0 H' v (d, fl) → E.rt v H'
  | .ex x σ T => ∀ cls d ρ' G' H' σv, Tr ρ0 G0 H0 ρ' G' H' → TrW ρ G H ρ' G' H' → Wd K ρ' G' H' T → EnvS K H0 ρ' G' H' σ σv → XR K ρ' G' H' x cls d → W cls d σv H'
  | .bad => False
def SR (K : PySem.W.Frag) (W : WX) (m : SM) : TS := fun E σv H => ∃ ρ0 G0 H0 ρ G T σ, Tr ρ0 G0 H0 ρ G H ∧ Wd K ρ G H T ∧ EnvS K H0 ρ G H σ σv ∧ PostS K W ρ0 G0 H0 E ρ G H (m σ T)
theorem _root_.L2.PS.imp {X : Cx} {st : Stmt} {t t' : TS} (h : PS X st t) (i : ∀ E σ H, t' E σ H → t E σ H) : PS X st t' := ⟨fun pins s σ H E I hw => h.run pins s σ H E I (i E σ H hw)⟩
theorem _root_.L2.PSs.imp {X : Cx} {st : List Stmt} {t t' : TS} (h : PSs X st t) (i : ∀ E σ H, t' E σ H → t E σ H) : PSs X st t' := ⟨fun pins s σ H E I hw => h.run pins s σ H E I (i E σ H hw)⟩
theorem PS.bad {X : Cx} {st : Stmt} {W : WX} {m : SM} (h : ∀ σ T, m σ T = .bad) : PS X st (SR X.K W m) := ⟨fun pins s σ H E I hw => by
  obtain ⟨ρ0, G0, H0, ρ, G, T, σ', _, _, _, p⟩ := hw
  rw [h] at p
  exact p.elim⟩
section
variable {K : PySem.W.Frag} {W : WX} {ρ0 ρ ρ1 : List Addr} {G0 G G1 H0 H H1 : Hp} {σv : L2.St} {σ : Env} {T T1 : Sto} {E : Ends}
theorem EnvS.tr (t : Tr ρ G H ρ1 G1 H1) (h : EnvS K H0 ρ G H σ σv) : EnvS K H0 ρ1 G1 H1 σ σv := ⟨h.er.tr t, h.ow⟩
theorem PostS.shift {r : RS} (h : PostS K W ρ0 G0 H0 E ρ G H r) (t : TrW ρ G H ρ1 G1 H1) : PostS K W ρ0 G0 H0 E ρ1 G1 H1 r := by
  cases r with
  | nx σ T => exact fun ρ' G' H' σv a b c d => h ρ' G' H' σv a (t.trans b) c d
  | bk σ T => exact fun ρ' G' H' σv a b c d => h ρ' G' H' σv a (t.trans b) c d
  | ct σ T => exact fun ρ' G' H' σv a b c d => h ρ' G' H' σv a (t.trans b) c d
  | rt d fl T => exact fun v ρ' G' H' a b c e => h v ρ' G' H' a (t.trans b) c e
  | ex x σ T => exact fun cls d ρ' G' H' σv a b c e f => h cls d ρ' G' H' σv a (t.trans b) c e f
  | bad => exact h
theorem PostS.expr {α β : Type} {k : Kd β α} {m : EM α} {f : α → Sto → RS} (t0 : Tr ρ0 G0 H0 ρ G H) (w : Wd K ρ G H T) (es : EnvS K H0 ρ G H σ σv) (p : PostS K W ρ0 G0 H0 E ρ G H ((m σ T).then_ σ f)) :
    Post K W k ρ G H σv (fun b H1 => ∃ ρ1 G1 T1 a, k ρ1 G1 H H1 b a ∧ Tr ρ G H ρ1 G1 H1 ∧ Tr ρ0 G0 H0 ρ1 G1 H1 ∧ Wd K ρ1 G1 H1 T1 ∧ EnvS K H0 ρ1 G1 H1 σ σv ∧ PostS K W ρ0 G0 H0 E ρ1 G1 H1 (f a T1)) (m σ T) := by
  cases e : m σ T with
  | ok a T1 =>
    rw [e] at p
    exact fun b ρ1 G1 H1 t w1 z => ⟨ρ1, G1, T1, a, z, t, t0.trans w t w1, w1, es.tr t, PostS.shift p t.w⟩
  | ex x T1 =>
    rw [e] at p
    exact fun cls d ρ1 G1 H1 t w1 z => p cls d ρ1 G1 H1 σv (t0.trans w t w1) t.w w1 (es.tr t) z
  | bad =>
    rw [e] at p
    exact (show False from p).elim
/-- kinds from the entry on -/
theorem kV.from (t0 : Tr ρ0 G0 H0 ρ G H) (t : Tr ρ G H ρ1 G1 H1) {v : V} {r : D × Bool} (h : kV K ρ1 G1 H H1 v r) : kV K ρ1 G1 H0 H1 v r := kV_sh.sh t0 t.pre h

/-! ### the frame's names -/
theorem get_set_cases {α : Type} {l : List α} {i j : Nat} {x y : α} (h : (l.set i x)[j]? = some y) : (i = j ∧ y = x) ∨ (i ≠ j ∧ l[j]? = some y) := by
  by_cases hj : i = j
  · subst hj
    rw [List.getElem?_set] at h
    simp only [if_true] at h
    split at h
    · cases h; exact .inl ⟨rfl, rfl⟩
    · cases h
  · rw [List.getElem?_set_ne hj] at h
    exact .inr ⟨hj, h⟩
theorem EnvS.set (h : EnvS K H0 ρ G H σ σv) {v : V} {d : D} (r : Rp K ρ G v d) (i : Nat) : EnvS K H0 ρ G H (σ.set i (.fz d)) (σv.set i (some v)) := by
  refine ⟨h.er.set r i, fun j e a e1 e2 => ?_⟩
  rcases get_set_cases e1 with ⟨_, z⟩ | ⟨n, e1⟩
  · cases z
  · rw [List.getElem?_set_ne n] at e2
    exact h.ow j e a e1 e2
/-- a new list gets a name -/
theorem EnvS.setOw (h : EnvS K H0 ρ G H σ σv) {a : Addr} {vs : List V} {ds : List D} (ha : H a = some (.lst vs)) (r : Rps K ρ G vs ds) (n : a ∉ ρ) (g : G a = none) (h0 : H0 a = none)
    (nw : ∀ (i : Nat) (d : D), σ[i]? = some (.ow d) → σv[i]? ≠ some (some (V.ref a))) (i : Nat) : EnvS K H0 ρ G H (σ.set i (.ow (.lst ds))) (σv.set i (some (V.ref a))) := by
  refine ⟨⟨by rw [List.length_set, List.length_set, h.er.len], fun j s u e1 e2 => ?_, fun j k d1 d2 b e1 e2 e3 e4 => ?_⟩, fun j e b e1 e2 => ?_⟩
  · rcases get_set_cases e1 with ⟨ej, es⟩ | ⟨nj, e1⟩
    · subst ej es
      rcases get_set_cases e2 with ⟨_, eu⟩ | ⟨nj, _⟩
      · subst eu
        exact ⟨a, vs, ds, rfl, rfl, ha, r, n, g⟩
      · exact absurd rfl nj
    · rw [List.getElem?_set_ne nj] at e2
      exact h.er.at_ j s u e1 e2
  · rcases get_set_cases e1 with ⟨ej, es⟩ | ⟨nj, e1⟩
    · rcases get_set_cases e2 with ⟨ek, es2⟩ | ⟨nk, e2⟩
      · rw [← ej, ← ek]
      · exfalso
        subst ej
        rw [List.getElem?_set_ne nk] at e4
        rcases get_set_cases e3 with ⟨_, eb⟩ | ⟨nj, _⟩
        · cases eb
          exact nw k d2 e2 e4
        · exact nj rfl
    · rw [List.getElem?_set_ne nj] at e3
      rcases get_set_cases e2 with ⟨ek, es2⟩ | ⟨nk, e2⟩
      · exfalso
        subst ek
        rcases get_set_cases e4 with ⟨_, eb⟩ | ⟨nk, _⟩
        · cases eb
          exact nw j d1 e1 e3
        · exact nk rfl
      · rw [List.getElem?_set_ne nk] at e4
        exact h.er.dist j k d1 d2 b e1 e2 e3 e4
  · rcases get_set_cases e1 with ⟨ej, es⟩ | ⟨nj, e1⟩
    · subst ej
      rcases get_set_cases e2 with ⟨_, eb⟩ | ⟨nj, _⟩
      · cases eb
        exact h0
      · exact absurd rfl nj
    · rw [List.getElem?_set_ne nj] at e2
      exact h.ow j e b e1 e2
/-- an owned list is changed -/
theorem EnvS.mut (h : EnvS K H0 ρ G H σ σv) {i : Nat} {a : Addr} {d : D} {ws : List V} {ys : List D} (e : σ[i]? = some (.ow d)) (ev : σv[i]? = some (some (V.ref a))) (r : Rps K ρ G ws ys) : EnvS K H0 ρ G (upd H a (.lst ws)) (σ.set i (.ow (.lst ys))) σv := by
  obtain ⟨b, vs, ds, eb, ed, ha, rr, n, g⟩ : SloR K ρ G H (.ow d) (some (V.ref a)) := h.er.at_ i _ _ e ev
  cases eb
  refine ⟨⟨by rw [List.length_set, h.er.len], fun j s u e1 e2 => ?_, fun j k d1 d2 b e1 e2 e3 e4 => ?_⟩, fun j d2 b e1 e2 => ?_⟩
  · rcases get_set_cases e1 with ⟨ej, es⟩ | ⟨nj, e1⟩
    · subst ej es
      rw [ev] at e2
      cases e2
      exact ⟨a, ws, ys, rfl, rfl, upd_same, r, n, g⟩
    · have q := h.er.at_ j s u e1 e2
      cases s with
      | no => trivial
      | fz d2 => exact q
      | ow d2 =>
        obtain ⟨b, vs2, ds2, eb, ed2, hb, rb, nb, gb⟩ := q
        subst eb
        have : b ≠ a := fun z => by
          subst z
          exact nj (h.er.dist i j d d2 b e e1 ev e2)
        exact ⟨b, vs2, ds2, rfl, ed2, by rw [upd_ne this]; exact hb, rb, nb, gb⟩
  · have f : ∀ {m : Nat} {d' : D}, (σ.set i (.ow (.lst ys)))[m]? = some (Sl.ow d') → ∃ d'', σ[m]? = some (Sl.ow d'') := fun {m d'} q => by
      rcases get_set_cases q with ⟨em, _⟩ | ⟨_, q⟩
      · subst em; exact ⟨_, e⟩
      · exact ⟨_, q⟩
    obtain ⟨x1, f1⟩ := f e1
    obtain ⟨x2, f2⟩ := f e2
    exact h.er.dist j k x1 x2 b f1 f2 e3 e4
  · rcases get_set_cases e1 with ⟨ej, es⟩ | ⟨nj, e1⟩
    · subst ej
      exact h.ow i d b e e2
    · exact h.ow j d2 b e1 e2
theorem TrW.own {a : Addr} {vs : List V} {o : HO} (ha : H a = some (.lst vs)) : TrW ρ G H ρ G (upd H a o) := by
  refine ⟨fun _ _ e => e, fun _ _ e => e, fun b u e f => ?_⟩
  have : b ≠ a := fun z => by
    subst z
    rw [ha] at e
    cases e
    exact f
  rw [upd_ne this]
  exact e
/-- what lies in a name's slot -/
theorem EnvS.slot (h : EnvS K H0 ρ G H σ σv) {i : Nat} {d : D} (e : σ[i]? = some (.ow d)) : ∃ a vs ds, σv[i]? = some (some (V.ref a)) ∧ d = .lst ds ∧ H a = some (.lst vs) ∧ Rps K ρ G vs ds ∧ a ∉ ρ ∧ G a = none ∧ H0 a = none := by
  obtain ⟨v, ev, a, vs, ds, eq, ed, ha, r, n, g⟩ := h.er.look e
  subst eq
  exact ⟨a, vs, ds, ev, ed, ha, r, n, g, h.ow i d a e ev⟩
/-- owned lists are frozen -/
theorem EnvS.frz1 (t0 : Tr ρ0 G0 H0 ρ G H) (w : Wd K ρ G H T) (h : EnvS K H0 ρ G H σ σv) {i : Nat} {s : Sl} (e : σ[i]? = some s) : ∃ G', Tr ρ0 G0 H0 ρ G' H ∧ TrW ρ G H ρ G' H ∧ Wd K ρ G' H T ∧ EnvS K H0 ρ G' H (σ.set i (frzS s)) σv := by
  have same : σ.set i s = σ := by
    apply List.ext_getElem?
    intro j
    rw [List.getElem?_set]
    split
    · rename_i ej
      subst ej
      rw [e]
      split
      · rfl
      · rename_i hl
        rw [List.getElem?_eq_none (by omega)] at e
        cases e
    · rfl
  cases s with
  | no => exact ⟨G, t0, .refl, w, by unfold frzS; rw [same]; exact h⟩
  | fz d => exact ⟨G, t0, .refl, w, by unfold frzS; rw [same]; exact h⟩
  | ow d =>
    obtain ⟨a, vs, ds, ev, ed, ha, r, n, g, h0⟩ := h.slot e
    subst ed
    have sb := sub_frz (HO.lst vs) g
    refine ⟨upd G a (.lst vs), t0.frz _ g h0, ⟨fun _ _ e => e, sb, fun _ _ e _ => e⟩, w.frz ha n g, ⟨⟨by rw [List.length_set, h.er.len], fun j s u e1 e2 => ?_, fun j k d1 d2 b e1 e2 e3 e4 => ?_⟩, fun j d2 b e1 e2 => ?_⟩⟩
    · rcases get_set_cases e1 with ⟨ej, es⟩ | ⟨nj, e1⟩
      · subst ej es
        rw [ev] at e2
        cases e2
        exact ⟨_, rfl, .lst upd_same (Rps.mono sb (fun _ _ e => e) _ _ r)⟩
      · have q := h.er.at_ j s u e1 e2
        cases s with
        | no => trivial
        | fz d2 => obtain ⟨x, ex, rx⟩ := q; exact ⟨x, ex, Rp.mono sb (fun _ _ e => e) _ _ rx⟩
        | ow d2 =>
          obtain ⟨b, vs2, ds2, eb, ed2, hb, rb, nb, gb⟩ := q
          subst eb
          have : b ≠ a := fun z => by
            subst z
            exact nj (h.er.dist i j _ d2 b e e1 ev e2)
          exact ⟨b, vs2, ds2, rfl, ed2, hb, Rps.mono sb (fun _ _ e => e) _ _ rb, nb, by rw [upd_ne this]; exact gb⟩
    · rcases get_set_cases e1 with ⟨_, z⟩ | ⟨nj, e1⟩
      · cases z
      · rcases get_set_cases e2 with ⟨_, z⟩ | ⟨nk, e2⟩
        · cases z
        · exact h.er.dist j k d1 d2 b e1 e2 e3 e4
    · rcases get_set_cases e1 with ⟨_, z⟩ | ⟨nj, e1⟩
      · cases z
      · exact h.ow j d2 b e1 e2
theorem EnvS.frzNs (F : Fi) : ∀ (xs : List Str) {σ : Env} {G : Hp}, Tr ρ0 G0 H0 ρ G H → Wd K ρ G H T → EnvS K H0 ρ G H σ σv → ∃ G', Tr ρ0 G0 H0 ρ G' H ∧ TrW ρ G H ρ G' H ∧ Wd K ρ G' H T ∧ EnvS K H0 ρ G' H (Mi.frzNs F xs σ) σv
  | [], σ, G, t0, w, h => ⟨G, t0, .refl, w, h⟩
  | x :: xs, σ, G, t0, w, h => by
    unfold Mi.frzNs
    split
    · rename_i i _
      split
      · rename_i s e
        obtain ⟨G1, t1, u1, w1, h1⟩ := h.frz1 t0 w e
        obtain ⟨G2, t2, u2, w2, h2⟩ := EnvS.frzNs F xs t1 w1 h1
        exact ⟨G2, t2, u1.trans u2, w2, h2⟩
      · exact EnvS.frzNs F xs t0 w h
    · exact EnvS.frzNs F xs t0 w h
theorem EnvS.frzE (Gm : Gi) (F : Fi) (l : Nat) (t0 : Tr ρ0 G0 H0 ρ G H) (w : Wd K ρ G H T) (h : EnvS K H0 ρ G H σ σv) : ∃ G', Tr ρ0 G0 H0 ρ G' H ∧ TrW ρ G H ρ G' H ∧ Wd K ρ G' H T ∧ EnvS K H0 ρ G' H (Mi.frzE Gm F l σ) σv := by
  unfold Mi.frzE
  split
  · exact EnvS.frzNs F _ t0 w h
  · exact ⟨G, t0, .refl, w, h⟩
/-- a store object more -/
theorem Wd.push (w : Wd K ρ G H T) {a : Addr} {vs : List V} {ds : List D} (ha : H a = some (.lst vs)) (r : Rps K ρ G vs ds) (n : a ∉ ρ) (g : G a = none) : Wd K (ρ ++ [a]) G H (T ++ [.lst ds]) := by
  have pre : Pre ρ (ρ ++ [a]) := fun m b e => by
    rw [List.getElem?_append_left (List.getElem?_eq_some_iff.mp e).1]
    exact e
  refine ⟨w.sub, by rw [List.length_append, List.length_append, w.len]; rfl, fun m ob e => ?_, ?_, fun b hb => ?_⟩
  · by_cases hm : m < T.length
    · rw [List.getElem?_append_left hm] at e
      obtain ⟨b, hb, ro⟩ := w.sto m ob e
      exact ⟨b, pre m b hb, ro.mono (fun _ _ e => e) pre⟩
    · have hm' : m = T.length := by
        have := (List.getElem?_eq_some_iff.mp e).1
        rw [List.length_append] at this
        have l1 : [Ob.lst ds].length = 1 := rfl
        omega
      subst hm'
      rw [List.getElem?_append_right (Nat.le_refl _), Nat.sub_self] at e
      cases e
      refine ⟨a, ?_, vs, ha, Rps.mono (fun _ _ e => e) pre _ _ r⟩
      rw [← w.len, List.getElem?_append_right (Nat.le_refl _), Nat.sub_self]
      rfl
  · rw [List.nodup_append]
    refine ⟨w.nd, by simp, fun x hx y hy => ?_⟩
    simp only [List.mem_singleton] at hy
    subst hy
    rintro rfl
    exact n hx
  · rw [List.mem_append, List.mem_singleton] at hb
    rcases hb with hb | hb
    · exact w.dj b hb
    · rw [hb]; exact g
theorem pre_app {a : Addr} : Pre ρ (ρ ++ [a]) := fun m b e => by
  rw [List.getElem?_append_left (List.getElem?_eq_some_iff.mp e).1]
  exact e
/-- a store object is changed -/
theorem Wd.sset (w : Wd K ρ G H T) {n : Nat} {a : Addr} {ws : List V} {ys : List D} (hr : ρ[n]? = some a) (r : Rps K ρ G ws ys) : Wd K ρ G (upd H a (.lst ws)) (T.set n (.lst ys)) := by
  have hga := w.dj a (List.mem_of_getElem? hr)
  refine ⟨fun b u e => ?_, by rw [List.length_set]; exact w.len, fun m ob e => ?_, w.nd, w.dj⟩
  · have : b ≠ a := fun z => by rw [z, hga] at e; cases e
    rw [upd_ne this]
    exact w.sub b u e
  · rcases get_set_cases e with ⟨em, eo⟩ | ⟨nm, e⟩
    · subst em eo
      exact ⟨a, hr, ws, upd_same, r⟩
    · obtain ⟨b, hb, ro⟩ := w.sto m ob e
      refine ⟨b, hb, ?_⟩
      have : b ≠ a := fun z => by
        subst z
        obtain ⟨i1, e1⟩ := List.getElem?_eq_some_iff.mp hb
        obtain ⟨i2, e2⟩ := List.getElem?_eq_some_iff.mp hr
        have pw := List.pairwise_iff_getElem.mp w.nd
        rcases Nat.lt_trichotomy n m with h | h | h
        · exact pw n m i2 i1 h (by rw [e1, e2])
        · exact nm h
        · exact pw m n i1 i2 h (by rw [e1, e2])
      rw [upd_ne this]
      exact ro
/-- a store object's change seen from the entry -/
theorem Tr.sset (t0 : Tr ρ0 G0 H0 ρ G H) {a : Addr} {vs : List V} (hr : a ∈ ρ) (ha : H a = some (.lst vs)) (o : HO) : Tr ρ0 G0 H0 ρ G (upd H a o) := by
  refine ⟨t0.pre, t0.rnew, t0.gsub, t0.gnew, fun b u e h => ?_⟩
  have q := t0.keep b u e h
  have : b ≠ a := fun z => by
    subst z
    rcases h with h | h
    · rcases t0.rnew b hr with z | z
      · exact h z
      · rw [e] at z; cases z
    · rw [ha] at q
      cases q
      exact h
  rw [upd_ne this]
  exact q
theorem EnvS.sset (h : EnvS K H0 ρ G H σ σv) {a : Addr} (hr : a ∈ ρ) (o : HO) : EnvS K H0 ρ G (upd H a o) σ σv := by
  refine ⟨⟨h.er.len, fun j s u e1 e2 => ?_, h.er.dist⟩, h.ow⟩
  have q := h.er.at_ j s u e1 e2
  cases s with
  | no => trivial
  | fz d => exact q
  | ow d =>
    obtain ⟨b, vs2, ds2, eb, ed2, hb, rb, nb, gb⟩ := q
    have : b ≠ a := fun z => nb (z ▸ hr)
    exact ⟨b, vs2, ds2, eb, ed2, by rw [upd_ne this]; exact hb, rb, nb, gb⟩
/-- more store addresses -/
theorem EnvS.push (h : EnvS K H0 ρ G H σ σv) {a : Addr} (nw : ∀ (i : Nat) (d : D), σ[i]? = some (.ow d) → σv[i]? ≠ some (some (V.ref a))) : EnvS K H0 (ρ ++ [a]) G H σ σv := by
  refine ⟨⟨h.er.len, fun j s u e1 e2 => ?_, h.er.dist⟩, h.ow⟩
  have q := h.er.at_ j s u e1 e2
  cases s with
  | no => trivial
  | fz d => obtain ⟨x, ex, rx⟩ := q; exact ⟨x, ex, Rp.mono (fun _ _ e => e) pre_app _ _ rx⟩
  | ow d =>
    obtain ⟨b, vs2, ds2, eb, ed2, hb, rb, nb, gb⟩ := q
    subst eb
    refine ⟨b, vs2, ds2, rfl, ed2, hb, Rps.mono (fun _ _ e => e) pre_app _ _ rb, fun z => ?_, gb⟩
    rw [List.mem_append, List.mem_singleton] at z
    rcases z with z | z
    · exact nb z
    · subst z
      exact nw j d e1 e2
end
/-- a name gets a value -/
theorem put_ok {K : PySem.W.Frag} {W : WX} {ρ0 ρ ρ1 : List Addr} {G0 G G1 H0 H H1 : Hp} {σv : L2.St} {σ : Env} {T T1 : Sto} {E : Ends} {Gm : Gi} {i : Nat} {x : Str} {v : V} {d : D} {fl : Bool}
    (es : EnvS K H0 ρ G H σ σv) (t : Tr ρ G H ρ1 G1 H1) (t0 : Tr ρ0 G0 H0 ρ G H) (w : Wd K ρ G H T) (w1 : Wd K ρ1 G1 H1 T1) (kv : kV K ρ1 G1 H H1 v (d, fl)) (p : PostS K W ρ0 G0 H0 E ρ1 G1 H1 (put Gm i x d fl σ T1)) : E.nx (σv.set i (some v)) H1 := by
  have t01 := t0.trans w t w1
  have es1 := es.tr t
  have nw : ∀ {a : Addr}, H a = none → ∀ (j : Nat) (e : D), σ[j]? = some (.ow e) → σv[j]? ≠ some (some (V.ref a)) := fun {a} ha j e ej ev => by
    obtain ⟨b, vs, ds, ev', _, hb, _⟩ := es.slot ej
    rw [ev] at ev'
    cases ev'
    rw [ha] at hb
    cases hb
  have h0 : ∀ {a : Addr}, a ∉ ρ1 → H a = none → H0 a = none := fun {a} n ha => by
    rcases t0.back ha with z | z
    · exact absurd (t.pre.mem (t0.pre.mem z)) n
    · exact z
  unfold put at p
  split at p
  · split at p
    · rename_i ds
      obtain ⟨a, vs, ds', rfl, ed, ha, r, n, g, hn⟩ : Fresh K ρ1 G1 H H1 v (.lst ds) := kv
      cases ed
      have wp := w1.push ha r n g
      refine p (ρ1 ++ [a]) G1 H1 _ ⟨fun m b e => pre_app m b (t01.pre m b e), fun b hb => ?_, t01.gsub, t01.gnew, t01.keep⟩ ⟨pre_app, fun _ _ e => e, fun _ _ e _ => e⟩ wp ((es1.push (nw hn)).set (.obj ?_) i)
      · rw [List.mem_append, List.mem_singleton] at hb
        rcases hb with hb | hb
        · exact t01.rnew b hb
        · rw [hb]; exact .inr (h0 n hn)
      · rw [← w1.len, List.getElem?_append_right (Nat.le_refl _), Nat.sub_self]
        rfl
    · exact (show False from p).elim
  · cases fl with
    | false => exact p ρ1 G1 H1 _ t01 .refl w1 (es1.set (show Rp K ρ1 G1 v d from kv) i)
    | true =>
      obtain ⟨a, vs, ds', rfl, ed, ha, r, n, g, hn⟩ : Fresh K ρ1 G1 H H1 v d := kv
      subst ed
      exact p ρ1 G1 H1 _ t01 .refl w1 (es1.setOw ha r n g (h0 n hn) (nw hn) i)
end Mi


set_option Elab.async false
set_option linter.all false
set_option maxRecDepth 100000
/-! MiM: the statements' soundness. -/
namespace Mi
open PySem PySem.Spec PyProof.Rows L2
/-- what raise X(..) is to reach -/
def mkR (K : PySem.W.Frag) (W : WX) (EI : Ei) (x : Str) (m : EM (List D)) : L2.St → Hp → XK → Prop := fun σv H Q =>
  RG K W (kA K) m σv H (fun vs H1 => ∃ ρ G T ds e, Wd K ρ G H1 T ∧ Rps K ρ G vs ds ∧ EI.mkX x ds = some e ∧ ∀ cls d ρ' G' H', Tr ρ G H1 ρ' G' H' → Wd K ρ' G' H' T → XR K ρ' G' H' e cls d → Q cls d H')
structure Sx (G : Gi) (EI : Ei) (C : CallT) (U : ExtT) (X : Cx) (W : WX) : Prop where
  po : PassesOwn (model X.prog X.w) X.A X.env X.xe
  mkx : ∀ (R : Dn) (F : Fi) (x : Str) (p : Pos) (args : List Expr) (pos : Pos), Snd G C R → Fit X F → isGl F.sc x = true → isDbg x = false → EI.has x args.length = true → L2N.PMk X (.Call (.Name x p) args [] pos) (mkR X.K W EI x (aE R F args))
  ext : ∀ (R : Dn) (F : Fi) (st : Stmt) (m : SM), Snd G C R → Fit X F → U C R F st = some m → PS X st (SR X.K W m)
/-- name = [..] in the exchanged form -/
def SndL (G : Gi) (C : CallT) (R : Dn) : Prop := ∀ (X : Cx) (W : WX) (F : Fi) (elt : Expr) (gs : List Comprehension) (scope : Scope) (pos spos py : Pos) (y : Str) (i : Nat), Gx X G C → Fit X F → L2N.Takes X W → X.N[i]? = some y → X.env.scope.names.lookup y = some .local →
  swapsWith (.ListComp elt gs scope pos) (some (.Name y py)) spos.line X.env = pure true → PS X (.Assign [.Name y py] (.ListComp elt gs scope pos) spos) (tAsg (RG X.K W (kV X.K) (R.val F (.ListComp elt gs scope pos))) (gName i))
theorem sndL_dn (G : Gi) (C : CallT) : ∀ n : Nat, SndL G C (dn G C n)
  | 0 => fun X W F elt gs scope pos spos py y i g fit tk hy hyl hsw => ⟨fun pins s σ H D I ⟨ρ, Gh, T, σ', _, _, p⟩ => (show False from p).elim⟩
  | n + 1 => fun X W F elt gs scope pos spos py y i g fit tk hy hyl hsw => by
    show PS X _ (tAsg (RG X.K W (kV X.K) (stepVal G C (dn G C n) F (.ListComp elt gs scope pos))) (gName i))
    have bad : ∀ {m : EM (D × Bool)}, (∀ σ T, m σ T = .bad) → PS X (.Assign [.Name y py] (.ListComp elt gs scope pos) spos) (tAsg (RG X.K W (kV X.K) m) (gName i)) := fun {m} hm => ⟨fun pins s σ H D I ⟨ρ, Gh, T, σ', _, _, p⟩ => by
      rw [hm] at p
      exact (show False from p).elim⟩
    cases gs with
    | nil => exact bad fun _ _ => rfl
    | cons c cs =>
      obtain ⟨tg, iter, ifs, na⟩ := c
      cases cs with
      | cons c2 cs =>
        cases na with
        | ofNat n => cases n <;> exact bad fun _ _ => rfl
        | negSucc n => exact bad fun _ _ => rfl
      | nil =>
        cases na with
        | ofNat n =>
          cases n with
          | zero => exact st_setLc (snd_dn G C _) g fit tk elt tg iter ifs scope pos spos py y i hy hyl hsw
          | succ n => exact bad fun _ _ => rfl
        | negSucc n => exact bad fun _ _ => rfl

section
variable {X : Cx} {W : WX} {F : Fi} {G : Gi} {EI : Ei} {C : CallT} {U : ExtT} {R : Dn}
theorem sm_pass {pos : Pos} : PS X (.Pass pos) (SR X.K W fun σ T => .nx σ T) := ps_pass.imp fun E σv H ⟨ρ0, G0, H0, ρ, Gh, T, σ, t0, w, es, p⟩ => p ρ Gh H σv t0 .refl w es
theorem sm_break {pos : Pos} : PS X (.Break pos) (SR X.K W fun σ T => .bk σ T) := ps_break.imp fun E σv H ⟨ρ0, G0, H0, ρ, Gh, T, σ, t0, w, es, p⟩ => p ρ Gh H σv t0 .refl w es
theorem sm_cont {pos : Pos} : PS X (.Continue pos) (SR X.K W fun σ T => .ct σ T) := ps_continue.imp fun E σv H ⟨ρ0, G0, H0, ρ, Gh, T, σ, t0, w, es, p⟩ => p ρ Gh H σv t0 .refl w es
theorem sm_retN {pos : Pos} : PS X (.Return none pos) (SR X.K W fun _ T => .rt .non false T) := ps_retN.imp fun E σv H ⟨ρ0, G0, H0, ρ, Gh, T, σ, t0, w, es, p⟩ => p .non ρ Gh H t0 .refl w .non
theorem sm_retVar (fit : Fit X F) {x : Str} {p pos : Pos} {i : Nat} (hd : isDbg x = false) (hs : slot F x = some i) : PS X (.Return (some (.Name x p)) pos) (SR X.K W fun σ T => (match σ[i]? with
      | some (.fz d) => .rt d false T
      | some (.ow d) => .rt d true T
      | _ => .bad)) := by
  obtain ⟨hN, hv⟩ := slot_ok fit hs
  obtain ⟨h1, h2, _⟩ := isDbg_ok hd
  refine (ps_ret (pe_var hN hv h1 h2)).imp fun E σv H ⟨ρ0, G0, H0, ρ, Gh, T, σ, t0, w, es, p⟩ => ?_
  simp only at p
  split at p
  · rename_i d e
    obtain ⟨v, e2, r⟩ := es.er.fz e
    exact ⟨v, e2, p v ρ Gh H t0 .refl w r⟩
  · rename_i d e
    obtain ⟨a, vs, ds, ev, ed, ha, r, n, g, h0⟩ := es.slot e
    exact ⟨_, ev, p _ ρ Gh H t0 .refl w (show Fresh X.K ρ Gh H0 H (.ref a) d from ⟨a, vs, ds, rfl, ed, ha, r, n, g, h0⟩)⟩
  · exact (show False from p).elim
theorem sm_ret (S : Snd G C R) (g : Gx X G C) (fit : Fit X F) (tk : L2N.Takes X W) (e : Expr) (pos : Pos) : PS X (.Return (some e) pos) (SR X.K W fun σ T => (R.val F e σ T).then_ σ fun d T1 => .rt d.1 d.2 T1) := by
  refine (ps_ret (S.val X W F e g fit tk)).imp fun E σv H ⟨ρ0, G0, H0, ρ, Gh, T, σ, t0, w, es, p⟩ => ?_
  refine ⟨ρ, Gh, T, σ, w, es.er, (PostS.expr t0 w es p).mono ?_⟩
  rintro v H1 ⟨ρ1, G1, T1, d, kv, t, t01, w1, es1, p1⟩
  exact p1 v ρ1 G1 H1 t01 .refl w1 (kV.from t0 t kv)
theorem sw_notLc {e : Expr} (h : notLc e = true) (t : Option Expr) (l : Nat) (env : PySem.Env) : swapsWith e t l env = pure false := by
  cases e <;> first | rfl | cases h
theorem sm_set (S : Snd G C R) (g : Gx X G C) (fit : Fit X F) (tk : L2N.Takes X W) (x : Str) (py : Pos) (e : Expr) (pos : Pos) (i : Nat) (hs : slotL F x = some i) (hsw : swapsWith e (some (.Name x py)) pos.line X.env = pure false) :
    PS X (.Assign [.Name x py] e pos) (SR X.K W fun σ T => (R.val F e σ T).then_ σ fun d T1 => put G i x d.1 d.2 σ T1) := by
  obtain ⟨h1, h2, h3⟩ := slotL_ok fit hs
  refine (ps_set fit.nd h1 h2 (S.val X W F e g fit tk) hsw h3).imp fun E σv H ⟨ρ0, G0, H0, ρ, Gh, T, σ, t0, w, es, p⟩ => ?_
  refine ⟨ρ, Gh, T, σ, w, es.er, (PostS.expr t0 w es p).mono ?_⟩
  rintro v H1 ⟨ρ1, G1, T1, d, kv, t, t01, w1, es1, p1⟩
  exact put_ok es t t0 w w1 kv p1
theorem sm_setLc (S : Snd G C R) (SL : SndL G C R) (g : Gx X G C) (fit : Fit X F) (tk : L2N.Takes X W) (x : Str) (py : Pos) (elt : Expr) (gs : List Comprehension) (scope : Scope) (p pos : Pos) (i : Nat) (hs : slotL F x = some i) :
    PS X (.Assign [.Name x py] (.ListComp elt gs scope p) pos) (SR X.K W fun σ T => (R.val F (.ListComp elt gs scope p) σ T).then_ σ fun d T1 => put G i x d.1 d.2 σ T1) := by
  have e : swapsWith (.ListComp elt gs scope p) (some (.Name x py)) pos.line X.env = pure (X.env.blockKind == .function && X.env.kindOf x == some .local && py.line == p.line && !(scope.names.any fun (n, k) => n == x && (k == .local || k == .cell))) := rfl
  cases hb : (X.env.blockKind == .function && X.env.kindOf x == some .local && py.line == p.line && !(scope.names.any fun (n, k) => n == x && (k == .local || k == .cell))) with
  | false =>
    rw [hb] at e
    exact sm_set S g fit tk x py _ pos i hs e
  | true =>
    rw [hb] at e
    obtain ⟨h1, h2, h3⟩ := slotL_ok fit hs
    have hl : X.env.scope.names.lookup x = some .local := by
      simp only [Bool.and_eq_true] at hb
      have q : X.env.kindOf x = some .local := by simpa using hb.1.1.2
      exact q
    refine (SL X W F elt gs scope p pos py x i g fit tk h1 hl e).imp fun E σv H ⟨ρ0, G0, H0, ρ, Gh, T, σ, t0, w, es, p⟩ => ?_
    refine ⟨ρ, Gh, T, σ, w, es.er, (PostS.expr t0 w es p).mono ?_⟩
    rintro v H1 ⟨ρ1, G1, T1, d, kv, t, t01, w1, es1, p1⟩
    exact put_ok es t t0 w w1 kv p1

/-! ### owned lists changed by methods -/
theorem mutD_append {xs ds ys : List D} {r : D} (h : mutD "append" xs ds = some (ys, r)) : ∃ d, ds = [d] ∧ xs.length < 16777216 ∧ ys = xs ++ [d] ∧ r = .non := by
  match ds, h with
  | [d], h =>
    have h : (if decide (xs.length < 16777216) = true then some (xs ++ [d], D.non) else none) = some (ys, r) := h
    split at h
    · rename_i hl
      cases h
      exact ⟨d, rfl, of_decide_eq_true hl, rfl, rfl⟩
    · cases h
  | [], h => cases h
  | _ :: _ :: _, h => cases h
theorem mutD_extend {xs ys : List D} {d r : D} (h : mutD "extend" xs [d] = some (ys, r)) : ∃ zs, d = .lst zs ∧ fits (xs.length + zs.length) = true ∧ ys = xs ++ zs ∧ r = .non := by
  cases d
  case lst zs =>
    have h : (if fits (xs.length + zs.length) = true then some (xs ++ zs, D.non) else none) = some (ys, r) := h
    split at h
    · rename_i hl
      cases h
      exact ⟨zs, rfl, hl, rfl, rfl⟩
    · cases h
  all_goals cases h
theorem mutD_pop {xs ds ys : List D} {r : D} (h : mutD "pop" xs ds = some (ys, r)) : (ds = [] ∧ xs[xs.length - 1]? = some r ∧ ys = xs.dropLast) ∨ ∃ i k, ds = [.int i] ∧ small62 i = true ∧ ixD xs.length i = some k ∧ xs[k]? = some r ∧ ys = xs.eraseIdx k := by
  cases ds with
  | nil =>
    have h : (match xs.getLast? with
      | some d => some (xs.dropLast, d)
      | none => none) = some (ys, r) := h
    split at h
    · rename_i d hd
      cases h
      exact .inl ⟨rfl, by rw [← List.getLast?_eq_getElem?]; exact hd, rfl⟩
    · cases h
  | cons d ds =>
    cases ds with
    | cons d2 ds => cases d <;> cases h
    | nil =>
      cases d
      case int i =>
        have h : (if small62 i = true then (ixD xs.length i).bind fun k => (xs[k]?).map fun d => (xs.eraseIdx k, d) else none) = some (ys, r) := h
        split at h
        · rename_i hs
          cases e1 : ixD xs.length i with
          | none => rw [e1] at h; cases h
          | some k =>
            rw [e1] at h
            have h : (xs[k]?).map (fun d => (xs.eraseIdx k, d)) = some (ys, r) := h
            cases e2 : xs[k]? with
            | none => rw [e2] at h; cases h
            | some d =>
              rw [e2] at h
              have h : (xs.eraseIdx k, d) = (ys, r) := by simpa using h
              cases h
              exact .inr ⟨i, k, rfl, hs, e1, e2, rfl⟩
        · cases h
      all_goals cases h
theorem mutD_other {m : Str} {xs ds : List D} (h1 : m ≠ ("append" : Str)) (h2 : m ≠ ("extend" : Str)) (h3 : m ≠ ("pop" : Str)) : mutD m xs ds = none := by
  unfold mutD
  rw [if_neg h1, if_neg h2, if_neg h3]
theorem mt_pops {X : Cx} : MtR X "list.pop" (fun x xs H Q => rPop x xs H Q ∨ rPopAt x xs H Q) := fun pins s σ H x xs v us Q I rx rv h => by
  rcases h with h | h
  · exact mt_pop pins s σ H x xs v us Q I rx rv h
  · exact mt_popAt pins s σ H x xs v us Q I rx rv h
def MR (K : PySem.W.Frag) (W : WX) (mm : (D → SM) → SM) : TE := fun σv H Q => ∃ ρ0 G0 H0 E ρ G T σ k, Tr ρ0 G0 H0 ρ G H ∧ Wd K ρ G H T ∧ EnvS K H0 ρ G H σ σv ∧ PostS K W ρ0 G0 H0 E ρ G H (mm k σ T) ∧
  ∀ v ρ' G' H' σ' T' r, Tr ρ0 G0 H0 ρ' G' H' → TrW ρ G H ρ' G' H' → Wd K ρ' G' H' T' → EnvS K H0 ρ' G' H' σ' σv → Rp K ρ' G' v r → PostS K W ρ0 G0 H0 E ρ' G' H' (k r σ' T') → Q v H'
theorem mutV_close {K : PySem.W.Frag} {ρ0 ρ ρ1 : List Addr} {G0 Gh G1 H0 H H1 : Hp} {σv : L2.St} {σ : Env} {T1 : Sto} {E : Ends} {y m : Str} {ds : List D} {k : D → SM} {i : Nat} {Q : VK}
    (t0 : Tr ρ0 G0 H0 ρ1 G1 H1) (u : TrW ρ Gh H ρ1 G1 H1) (w : Wd K ρ1 G1 H1 T1) (es : EnvS K H0 ρ1 G1 H1 σ σv) (hs : slot F y = some i) (p : PostS K W ρ0 G0 H0 E ρ1 G1 H1 (mutV F y m ds k σ T1))
    (fin : ∀ v ρ' G' H' σ' T' r, Tr ρ0 G0 H0 ρ' G' H' → TrW ρ Gh H ρ' G' H' → Wd K ρ' G' H' T' → EnvS K H0 ρ' G' H' σ' σv → Rp K ρ' G' v r → PostS K W ρ0 G0 H0 E ρ' G' H' (k r σ' T') → Q v H') :
    ∃ a vs xs ys r, σv[i]? = some (some (V.ref a)) ∧ H1 a = some (.lst vs) ∧ Rps K ρ1 G1 vs xs ∧ mutD m xs ds = some (ys, r) ∧ ∀ ws v, Rps K ρ1 G1 ws ys → Rp K ρ1 G1 v r → Q v (upd H1 a (.lst ws)) := by
  unfold mutV at p
  rw [hs] at p
  simp only at p
  split at p
  · rename_i xs e
    obtain ⟨a, vs, ds', ev, ed, ha, r, n, gn, h0⟩ := es.slot e
    cases ed
    split at p
    · rename_i ys r' em
      refine ⟨a, vs, xs, ys, r', ev, ha, r, em, fun ws v rw rv => ?_⟩
      refine fin v ρ1 G1 _ _ T1 r' (t0.own h0 _) (u.trans (TrW.own ha)) (w.own n gn _) (es.mut e ev rw) rv (PostS.shift p (TrW.own ha))
    · exact (show False from p).elim
  · exact (show False from p).elim
theorem isOw_ok {K : PySem.W.Frag} {ρ : List Addr} {Gh H H0 : Hp} {σ : Env} {σv : L2.St} {y : Str} (es : EnvS K H0 ρ Gh H σ σv) (h : isOw F y σ = true) : ∃ i a vs, slot F y = some i ∧ σv[i]? = some (some (V.ref a)) ∧ H a = some (.lst vs) := by
  unfold isOw at h
  split at h
  · cases h
  · rename_i i hs
    split at h
    · rename_i xs e
      obtain ⟨a, vs, ds', ev, ed, ha, _⟩ := es.slot e
      exact ⟨i, a, vs, hs, ev, ha⟩
    · cases h
theorem star_all {es : List Expr} (h : es.all notStar = true) (env : PySem.Env) (pos : Pos) : (backTo pos (starEach es env)).all (fun x => !x.1) = true := by
  have q := star_back h env pos
  rw [List.any_eq_false] at q
  rw [List.all_eq_true]
  intro x hx
  have := q x hx
  simpa using this
theorem pa_one {e : Expr} {α : Type} {k : Kd V α} {m : EM α} {W : WX} (h : PE X e (RG X.K W k m)) (hn : notStar e = true) : PA X [e] (fun σv H Q => RG X.K W k m σv H (fun v H1 => Q [v] H1)) := (pa_cons h pa_nil (star_of hn [] X.env)).imp fun σv H Q hq => hq
theorem pe_mutMR (S : Snd G C R) (g : Gx X G C) (fit : Fit X F) (tk : L2N.Takes X W) (y m : Str) (p1 ap cp : Pos) (args : List Expr) (ok : mutOk y m args ap cp = true) : PE X (.Call (.Attribute (.Name y p1) m ap) args [] cp) (MR X.K W (mutM R F y m args)) := by
  unfold mutOk at ok
  simp only [Bool.and_eq_true, Bool.not_eq_true', decide_eq_true_eq] at ok
  obtain ⟨⟨⟨⟨o1, o2⟩, o3⟩, o4⟩, o5⟩ := ok
  obtain ⟨d1, d2, _⟩ := isDbg_ok o2
  cases hs : slot F y with
  | none =>
    refine ⟨fun pins s σv H Q I ⟨ρ0, G0, H0, E, ρ, Gh, T, σ, k, t0, w, es, p, fin⟩ => ?_⟩
    unfold mutM isOw at p
    rw [hs] at p
    exact (show False from p).elim
  | some i =>
    obtain ⟨hN, hv⟩ := slot_ok fit hs
    have var : PE X (.Name y p1) (tVar i) := pe_var hN hv d1 d2
    cases args with
    | nil =>
      -- pop()
      by_cases em : m = ("pop" : Str)
      · subst em
        refine (pe_bm0 PySem.F.plainAttrs_list PySem.F.slot_list_pop PySem.F.type_list_pop mt_pop var rfl o3).imp fun σv H Q ⟨ρ0, G0, H0, E, ρ, Gh, T, σ, k, t0, w, es, p, fin⟩ => ?_
        unfold mutM at p
        split at p
        · rename_i how
          obtain ⟨i', a, vs, hs', ev, ha⟩ := isOw_ok es how
          rw [hs] at hs'
          cases hs'
          refine ⟨_, ev, .inl ⟨rfl, vs, SqL.of ha⟩, ?_⟩
          have p' : PostS X.K W ρ0 G0 H0 E ρ Gh H (mutV F y "pop" [] k σ T) := p
          obtain ⟨a', vs', xs, ys, r, ev', ha', rr, em, cl⟩ := mutV_close t0 .refl w es hs p' fin
          rw [ev] at ev'
          cases ev'
          rw [ha] at ha'
          cases ha'
          rcases mutD_pop em with ⟨_, hd', rfl⟩ | ⟨_, _, hd, _⟩
          · obtain ⟨v, e1, r1⟩ := rr.get hd'
            exact ⟨a, vs, v, rfl, rfl, ha, by rw [rr.length]; exact e1, cl _ _ rr.dropLast r1⟩
          · cases hd
        · exact (show False from p).elim
      · refine ⟨fun pins s σv H Q I ⟨ρ0, G0, H0, E, ρ, Gh, T, σ, k, t0, w, es, p, fin⟩ => ?_⟩
        exfalso
        unfold mutM at p
        split at p
        · by_cases ex : m = ("extend" : Str)
          · rw [if_pos ex] at p
            exact p
          · rw [if_neg ex] at p
            have p' : PostS X.K W ρ0 G0 H0 E ρ Gh H (mutV F y m [] k σ T) := p
            obtain ⟨_, _, xs, _, _, _, _, _, em', _⟩ := mutV_close t0 .refl w es hs p' fin
            by_cases ea : m = ("append" : Str)
            · subst ea
              obtain ⟨_, z, _⟩ := mutD_append em'
              cases z
            · rw [mutD_other ea ex em] at em'
              cases em'
        · exact p
    | cons e0 es0 =>
      have o4' := o4
      rw [List.all_cons, Bool.and_eq_true] at o4'
      have few : ((backTo cp (starEach (e0 :: es0) X.env)).all (fun x => !x.1) && (backToKw cp (keywordEach [] X.env)).all (fun x => x.1.isSome)
        && decide ((e0 :: es0).length + ([] : List Keyword).length + (if ([] : List Keyword).isEmpty then 0 else 1) < 30)) = true := by
        rw [star_all o4]
        simp only [Bool.true_and, Bool.and_eq_true, decide_eq_true_eq]
        exact ⟨rfl, o5⟩
      by_cases e1 : m = ("extend" : Str)
      · subst e1
        cases es0 with
        | cons e2 es2 =>
          refine ⟨fun pins s σv H Q I ⟨ρ0, G0, H0, E, ρ, Gh, T, σ, k, t0, w, es, p, fin⟩ => ?_⟩
          exfalso
          unfold mutM at p
          split at p
          · exact p
          · exact p
        | nil =>
          refine (pe_bm PySem.F.plainAttrs_list PySem.F.slot_list_extend PySem.F.type_list_extend mt_extend var (pa_one (pe_pE S g fit tk e0) o4'.1) rfl few o3 (star_of o4'.1 [] X.env) rfl).imp fun σv H Q ⟨ρ0, G0, H0, E, ρ, Gh, T, σ, k, t0, w, es, p, fin⟩ => ?_
          unfold mutM at p
          split at p
          · rename_i how
            obtain ⟨i', a, vs, hs', ev, ha⟩ := isOw_ok es how
            rw [hs] at hs'
            cases hs'
            have p : PostS X.K W ρ0 G0 H0 E ρ Gh H ((pE R F e0 σ T).then_ σ fun d T1 => mutV F y "extend" [d] k σ T1) := p
            refine ⟨_, ev, .inl ⟨rfl, vs, SqL.of ha⟩, ρ, Gh, T, σ, w, es.er, (PostS.expr t0 w es p).mono ?_⟩
            rintro v H1 ⟨ρ1, G1, T1, d, kv, t, t01, w1, es1, p1⟩
            obtain ⟨a', vs', xs, ys, r, ev', ha', rr, em, cl⟩ := mutV_close t01 t.w w1 es1 hs p1 fin
            rw [ev] at ev'
            cases ev'
            obtain ⟨zs, rfl, hf, rfl, rfl⟩ := mutD_extend em
            obtain ⟨b, zv, rfl, hb, rz⟩ := PRel.l w1.sub kv
            exact ⟨a, b, vs', zv, rfl, rfl, ha', hb, by rw [rr.length, rz.length]; exact fits_iff.mp hf, cl _ _ (rr.app rz) .non⟩
          · exact (show False from p).elim
      · have arg := pa_aE S g fit tk (e0 :: es0)
        have pe_ : ∀ {T : String} {id : String} {r : V → List V → Hp → VK → Prop} (pa : PlainAttrs T) (sl : Slot T m id) (hty : typeOf (.builtin id) = pure (.type "method_descriptor")) (hm : MtR X id r), PE X (.Call (.Attribute (.Name y p1) m ap) (e0 :: es0) [] cp) (tBM X.K T r (tVar i) (RG X.K W (kA X.K) (aE R F (e0 :: es0)))) := fun pa sl hty hm =>
          pe_bm pa sl hty hm var arg rfl few o3 (star_of o4'.1 es0 X.env) (star_back o4'.2 X.env cp)
        have go : ∀ {r0 : V → List V → Hp → VK → Prop} {σv : L2.St} {H : Hp} {Q : VK},
            (∀ {ρ0 : List Addr} {G0 H0 : Hp} {E : Ends} {ρ : List Addr} {Gh : Hp} {k : D → SM} {a : Addr} {ρ1 : List Addr} {G1 : Hp} {T1 : Sto} {ds : List D} {vs us : List V} {xs ys : List D} {r : D} {H1 : Hp}, Wd X.K ρ1 G1 H1 T1 → H1 a = some (.lst us) → Rps X.K ρ1 G1 us xs → Rps X.K ρ1 G1 vs ds → mutD m xs ds = some (ys, r) →
              (∀ ws v, Rps X.K ρ1 G1 ws ys → Rp X.K ρ1 G1 v r → Q v (upd H1 a (.lst ws))) → r0 (.ref a) vs H1 Q) →
            MR X.K W (mutM R F y m (e0 :: es0)) σv H Q → tBM X.K "list" r0 (tVar i) (RG X.K W (kA X.K) (aE R F (e0 :: es0))) σv H Q := fun {r0 σv H Q} hr ⟨ρ0, G0, H0, E, ρ, Gh, T, σ, k, t0, w, es, p, fin⟩ => by
          unfold mutM at p
          split at p
          · rename_i how
            obtain ⟨i', a, vs, hs', ev, ha⟩ := isOw_ok es how
            rw [hs] at hs'
            cases hs'
            try rw [if_neg e1] at p
            refine ⟨_, ev, .inl ⟨rfl, vs, SqL.of ha⟩, ρ, Gh, T, σ, w, es.er, (PostS.expr t0 w es p).mono ?_⟩
            rintro us H1 ⟨ρ1, G1, T1, ds, kv, t, t01, w1, es1, p1⟩
            obtain ⟨a', vs', xs, ys, r, ev', ha', rr, em, cl⟩ := mutV_close t01 t.w w1 es1 hs p1 fin
            rw [ev] at ev'
            cases ev'
            exact hr (ρ0 := ρ0) (G0 := G0) (H0 := H0) (E := E) (ρ := ρ) (Gh := Gh) (k := k) w1 ha' rr kv em cl
          · exact (show False from p).elim
        by_cases e2 : m = ("append" : Str)
        · subst e2
          refine (pe_ PySem.F.plainAttrs_list PySem.F.slot_list_append PySem.F.type_list_append mt_append).imp fun σv H Q hq => go (fun {ρ0 G0 H0 E ρ Gh k a ρ1 G1 T1 ds vs us xs ys r H1} w1 ha rr kv em cl => ?_) hq
          obtain ⟨d, rfl, hlt, rfl, rfl⟩ := mutD_append em
          cases kv with
          | @cons v0 _ _ _ rv rest =>
            cases rest
            exact ⟨a, us, v0, rfl, rfl, ha, by rw [rr.length]; exact hlt, cl _ _ (rr.app (.one rv)) .non⟩
        · by_cases e3 : m = ("pop" : Str)
          · subst e3
            refine (pe_ PySem.F.plainAttrs_list PySem.F.slot_list_pop PySem.F.type_list_pop mt_pops).imp fun σv H Q hq => go (fun {ρ0 G0 H0 E ρ Gh k a ρ1 G1 T1 ds vs us xs ys r H1} w1 ha rr kv em cl => ?_) hq
            rcases mutD_pop em with ⟨rfl, hd', rfl⟩ | ⟨j, q, rfl, hsm, e5, e6, rfl⟩
            · cases kv
              obtain ⟨v, e1, r1⟩ := rr.get hd'
              exact .inl ⟨a, us, v, rfl, rfl, ha, by rw [rr.length]; exact e1, cl _ _ rr.dropLast r1⟩
            · cases kv with
              | @cons v0 _ _ _ rv rest =>
                cases rest
                cases Rp.i rv
                obtain ⟨u0, e7, r7⟩ := rr.get e6
                unfold small62 at hsm
                simp only [Bool.and_eq_true, decide_eq_true_eq] at hsm
                refine .inr ⟨a, us, j, q, u0, rfl, rfl, ha, by omega, by omega, ?_, e7, cl _ _ (rr.erase q) r7⟩
                rw [rr.length]
                exact (ixN_seq (show ixN xs.length j = some q from e5)).1
          · refine ⟨fun pins s σv H Q I hq => ?_⟩
            exfalso
            unfold isMut at o1
            simp [e1, e2, e3] at o1
end
end Mi


set_option Elab.async false
set_option linter.all false
set_option maxRecDepth 100000
/-! MiN: the statements' soundness, second part. -/
namespace Mi
open PySem PySem.Spec PyProof.Rows L2
section
variable {X : Cx} {W : WX} {F : Fi} {G : Gi} {EI : Ei} {C : CallT} {U : ExtT} {R : Dn}
theorem sw_call {f : Expr} {a : List Expr} {k : List Keyword} {p : Pos} (t : Option Expr) (l : Nat) (env : PySem.Env) : swapsWith (.Call f a k p) t l env = pure false := rfl
theorem sole_notLc {e : Expr} (h : notLc e = true) (t : Expr) (l : Nat) (env : PySem.Env) : swapsWithSole [t] e l env = pure false := sw_notLc h (some t) l env
/-- y.m(..) as a statement -/
theorem sm_mut (S : Snd G C R) (g : Gx X G C) (fit : Fit X F) (tk : L2N.Takes X W) (y m : Str) (p1 ap cp pos : Pos) (args : List Expr) (ok : mutOk y m args ap cp = true) : PS X (.Expr (.Call (.Attribute (.Name y p1) m ap) args [] cp) pos) (SR X.K W (mutM R F y m args fun _ σ T => .nx σ T)) :=
  (ps_expr (pe_mutMR S g fit tk y m p1 ap cp args ok) rfl).imp fun E σv H ⟨ρ0, G0, H0, ρ, Gh, T, σ, t0, w, es, p⟩ =>
    ⟨ρ0, G0, H0, E, ρ, Gh, T, σ, _, t0, w, es, p, fun v ρ' G' H' σ' T' r t0' u w' es' rv p' => p' ρ' G' H' σv t0' .refl w' es'⟩
/-- x = y.m(..) -/
theorem sm_setMut (S : Snd G C R) (g : Gx X G C) (fit : Fit X F) (tk : L2N.Takes X W) (x y m : Str) (py p1 ap cp pos : Pos) (args : List Expr) (ok : mutOk y m args ap cp = true) (i : Nat) (hs : slotL F x = some i) :
    PS X (.Assign [.Name x py] (.Call (.Attribute (.Name y p1) m ap) args [] cp) pos) (SR X.K W (mutM R F y m args fun r σ T => put G i x r false σ T)) := by
  obtain ⟨h1, h2, h3⟩ := slotL_ok fit hs
  exact (ps_set fit.nd h1 h2 (pe_mutMR S g fit tk y m p1 ap cp args ok) rfl h3).imp fun E σv H ⟨ρ0, G0, H0, ρ, Gh, T, σ, t0, w, es, p⟩ =>
    ⟨ρ0, G0, H0, E, ρ, Gh, T, σ, _, t0, w, es, p, fun v ρ' G' H' σ' T' r t0' u w' es' rv p' => put_ok es' .refl t0' w' w' (fl := false) rv p'⟩
/-- a target's stores in a def's frame -/
theorem bindNs_ow : ∀ {es : List Expr} {ds : List D} {σ σ1 : Env} {j : Nat} {x : D}, bindNs F es ds σ = some σ1 → σ1[j]? = some (.ow x) → σ[j]? = some (.ow x) ∧ j ∉ slotsNs F es
  | [], [], _, _, _, _, h, e => by cases h; exact ⟨e, by simp [slotsNs]⟩
  | [], _ :: _, _, _, _, _, h, _ => by cases h
  | e0 :: es, ds, σ, σ1, j, x, h, e => by
    cases e0 <;> first | (cases h; done) | skip
    cases ds with
    | nil => cases h
    | cons d ds =>
      rename_i nm pos
      have h' : ((slotL F nm).bind fun i => bindNs F es ds (σ.set i (.fz d))) = some σ1 := h
      cases e1 : slotL F nm with
      | none => rw [e1] at h'; cases h'
      | some i =>
        rw [e1] at h'
        obtain ⟨a, b⟩ := bindNs_ow (es := es) (ds := ds) h' e
        have sl : slotsNs F (.Name nm pos :: es) = i :: slotsNs F es := by
          show (match slotL F nm with | some i => [i] | none => []) ++ slotsNs F es = _
          rw [e1]
          rfl
        rw [sl]
        rcases get_set_cases a with ⟨_, z⟩ | ⟨n, a⟩
        · cases z
        · exact ⟨a, by simp only [List.mem_cons, not_or]; exact ⟨fun z => n z.symm, b⟩⟩
theorem bindT_ow {tg : Expr} {d : D} {σ σ1 : Env} {j : Nat} {x : D} (h : bindT F tg d σ = some σ1) (e : σ1[j]? = some (.ow x)) : σ[j]? = some (.ow x) ∧ j ∉ slotsT F tg := by
  cases tg
  case Name nm pos =>
    have h' : (slotL F nm).map (fun i => σ.set i (.fz d)) = some σ1 := h
    cases e1 : slotL F nm with
    | none => rw [e1] at h'; cases h'
    | some i =>
      rw [e1] at h'
      have h2 : σ.set i (.fz d) = σ1 := by simpa using h'
      subst h2
      have sl : slotsT F (.Name nm pos) = [i] := by
        show (match slotL F nm with | some i => [i] | none => []) = _
        rw [e1]
      rw [sl]
      rcases get_set_cases e with ⟨_, z⟩ | ⟨n, a⟩
      · cases z
      · exact ⟨a, by simp only [List.mem_singleton]; exact fun z => n z.symm⟩
  case Tuple es k pos =>
    cases d <;> first | (cases h; done) | skip
    case tup ds => exact bindNs_ow (es := es) (ds := ds) h e
    case lst ds => exact bindNs_ow (es := es) (ds := ds) h e
  all_goals (cases d <;> cases h)
/-- the reading of a target from the frame -/
theorem gR_of {K : PySem.W.Frag} {W : WX} {ρ0 ρ : List Addr} {G0 Gh H0 H : Hp} {σv : L2.St} {σ : Env} {T : Sto} {E : Ends} {tg : Expr} {v : V} {d : D} (t0 : Tr ρ0 G0 H0 ρ Gh H) (w : Wd K ρ Gh H T) (es : EnvS K H0 ρ Gh H σ σv) (r : Rp K ρ Gh v d)
    {Q : L2.St → Hp → Prop} (h : ∃ σ1, bindT F tg d σ = some σ1 ∧ ∀ σv1, EnvS K H0 ρ Gh H σ1 σv1 → Q σv1 H) : gR K (slotsT F tg) (bindT F tg) v σv H Q := by
  obtain ⟨σ1, e, q⟩ := h
  refine ⟨ρ, Gh, T, σ, d, σ1, w, es.er, r, e, fun σv1 er1 sm => q σv1 ⟨er1, fun j x a e1 e2 => ?_⟩⟩
  obtain ⟨h1, h2⟩ := bindT_ow e e1
  rw [sm.2 j h2] at e2
  exact es.ow j x a h1 e2
theorem bindM_of {K : PySem.W.Frag} {W : WX} {ρ0 ρ : List Addr} {G0 Gh H0 H : Hp} {σ : Env} {T : Sto} {E : Ends} {tg : Expr} {d : D} (t0 : Tr ρ0 G0 H0 ρ Gh H) (w : Wd K ρ Gh H T) (p : PostS K W ρ0 G0 H0 E ρ Gh H (bindM F tg d σ T)) :
    ∃ σ1, bindT F tg d σ = some σ1 ∧ ∀ σv1, EnvS K H0 ρ Gh H σ1 σv1 → E.nx σv1 H := by
  unfold bindM at p
  split at p
  · rename_i σ1 e
    exact ⟨σ1, e, fun σv1 es1 => p ρ Gh H σv1 t0 .refl w es1⟩
  · exact (show False from p).elim
theorem sm_tup (S : Snd G C R) (g : Gx X G C) (fit : Fit X F) (tk : L2N.Takes X W) (ts : List Expr) (k : Nat) (p0 : Pos) (e : Expr) (pos : Pos) (h1 : notLc e = true) (h2 : notTup e = true) :
    PS X (.Assign [.Tuple ts k p0] e pos) (SR X.K W fun σ T => (vE R F e σ T).then_ σ fun d T1 => bindM F (.Tuple ts k p0) d σ T1) := by
  refine (ps_asg (pe_vE S g fit tk e) (pg_bind fit (.Tuple ts k p0)) (sole_notLc h1 _ _ _) (by cases e <;> first | rfl | cases h2) rfl).imp fun E σv H ⟨ρ0, G0, H0, ρ, Gh, T, σ, t0, w, es, p⟩ => ?_
  refine ⟨ρ, Gh, T, σ, w, es.er, (PostS.expr t0 w es p).mono ?_⟩
  rintro v H1 ⟨ρ1, G1, T1, d, kv, t, t01, w1, es1, p1⟩
  exact gR_of (W := W) (E := E) t01 w1 es1 kv (bindM_of t01 w1 p1)
theorem sm_tupMut (S : Snd G C R) (g : Gx X G C) (fit : Fit X F) (tk : L2N.Takes X W) (ts : List Expr) (k : Nat) (p0 : Pos) (y m : Str) (p1 ap cp pos : Pos) (args : List Expr) (ok : mutOk y m args ap cp = true) :
    PS X (.Assign [.Tuple ts k p0] (.Call (.Attribute (.Name y p1) m ap) args [] cp) pos) (SR X.K W (mutM R F y m args fun r σ T => bindM F (.Tuple ts k p0) r σ T)) :=
  (ps_asg (pe_mutMR S g fit tk y m p1 ap cp args ok) (pg_bind fit (.Tuple ts k p0)) rfl rfl rfl).imp fun E σv H ⟨ρ0, G0, H0, ρ, Gh, T, σ, t0, w, es, p⟩ =>
    ⟨ρ0, G0, H0, E, ρ, Gh, T, σ, _, t0, w, es, p, fun v ρ' G' H' σ' T' r t0' u w' es' rv p' => gR_of (W := W) (E := E) t0' w' es' rv (bindM_of t0' w' p')⟩
/-- y.append(z.pop(..)) -/
theorem sm_mut2 (S : Snd G C R) (g : Gx X G C) (fit : Fit X F) (tk : L2N.Takes X W) (y z m m2 : Str) (p1 p2 ap ap2 cp cp2 pos : Pos) (args : List Expr) (ok2 : mutOk z m2 args ap2 cp2 = true) (ok1 : mutOk y m [] ap cp = true) (hm : m = ("append" : Str)) :
    PS X (.Expr (.Call (.Attribute (.Name y p1) m ap) [.Call (.Attribute (.Name z p2) m2 ap2) args [] cp2] [] cp) pos) (SR X.K W (fun σ T => if isOw F y σ then mutM R F z m2 args (fun r σ1 T1 => mutV F y m [r] (fun _ σ T => .nx σ T) σ1 T1) σ T else .bad)) := by
  subst hm
  unfold mutOk at ok1
  simp only [Bool.and_eq_true, Bool.not_eq_true', decide_eq_true_eq] at ok1
  obtain ⟨⟨⟨⟨o1, o2⟩, o3⟩, o4⟩, o5⟩ := ok1
  obtain ⟨d1, d2, _⟩ := isDbg_ok o2
  cases hs : slot F y with
  | none => exact PS.bad fun σ T => by unfold isOw; rw [hs]; rfl
  | some i =>
    obtain ⟨hN, hv⟩ := slot_ok fit hs
    have inner := pe_mutMR S g fit tk z m2 p2 ap2 cp2 args ok2
    have arg : PA X [.Call (.Attribute (.Name z p2) m2 ap2) args [] cp2] (fun σv H Q => MR X.K W (mutM R F z m2 args) σv H (fun v H1 => Q [v] H1)) := (pa_cons inner pa_nil rfl).imp fun σv H Q hq => hq
    refine (ps_expr (pe_bm PySem.F.plainAttrs_list PySem.F.slot_list_append PySem.F.type_list_append mt_append (pe_var hN hv d1 d2) arg rfl rfl o3 rfl rfl) rfl).imp fun E σv H ⟨ρ0, G0, H0, ρ, Gh, T, σ, t0, w, es, p⟩ => ?_
    simp only at p
    split at p
    · rename_i how
      obtain ⟨i', a, vs, hs', ev, ha⟩ := isOw_ok es how
      rw [hs] at hs'
      cases hs'
      refine ⟨_, ev, .inl ⟨rfl, vs, SqL.of ha⟩, ρ0, G0, H0, E, ρ, Gh, T, σ, _, t0, w, es, p, fun v ρ' G' H' σ' T' r t0' u w' es' rv p' => ?_⟩
      obtain ⟨a', vs', xs, ys, r', ev', ha', rr, em, cl⟩ := mutV_close (Q := fun v' H2 => E.nx σv H2) t0' u w' es' hs p' (fun v2 ρ2 G2 H2 σ2 T2 r2 t2 u2 w2 es2 rv2 p2 => p2 ρ2 G2 H2 σv t2 .refl w2 es2)
      rw [ev] at ev'
      cases ev'
      obtain ⟨d, hd, hlt, rfl, rfl⟩ := mutD_append em
      cases hd
      exact ⟨a, vs', v, rfl, rfl, ha', by rw [rr.length]; exact hlt, cl _ .non (rr.app (.one rv)) .non⟩
    · exact (show False from p).elim
/-- x[i] = d -/
theorem sm_sub (S : Snd G C R) (g : Gx X G C) (fit : Fit X F) (tk : L2N.Takes X W) (x : Str) (px : Pos) (ix e : Expr) (ps pos : Pos) (h1 : notLc e = true) (h2 : notTup e = true) (h3 : notSlice ix = true) (hd : isDbg x = false) (k : Nat) (hs : slot F x = some k) :
    PS X (.Assign [.Subscript (.Name x px) ix ps] e pos) (SR X.K W fun σ T => if isHere k σ then (vE R F e σ T).then_ σ fun d T1 => (vE R F ix σ T1).then_ σ fun j T2 => setM k j d σ T2 else .bad) := by
  obtain ⟨hN, hv⟩ := slot_ok fit hs
  obtain ⟨d1, d2, _⟩ := isDbg_ok hd
  refine (ps_asg (pe_vE S g fit tk e) (pg_sub (pe_var hN hv d1 d2) (pe_vE S g fit tk ix) set_list (fun v => by cases ix <;> first | rfl | cases h3)) (sole_notLc h1 _ _ _) (by cases e <;> first | rfl | cases h2) rfl).imp fun E σv H ⟨ρ0, G0, H0, ρ, Gh, T, σ, t0, w, es, p⟩ => ?_
  simp only at p
  split at p
  · rename_i here
    refine ⟨ρ, Gh, T, σ, w, es.er, (PostS.expr t0 w es p).mono ?_⟩
    rintro v H1 ⟨ρ1, G1, T1, d, kv, t, t01, w1, es1, p1⟩
    obtain ⟨u, hu⟩ : ∃ u, σv[k]? = some (some u) := by
      unfold isHere at here
      split at here
      · rename_i d e
        obtain ⟨a, vs, ds, ev, _⟩ := es.slot e
        exact ⟨_, ev⟩
      · rename_i d e
        obtain ⟨u, hu, _⟩ := es.er.fz e
        exact ⟨u, hu⟩
      · cases here
    refine ⟨u, hu, ρ1, G1, T1, σ, w1, es1.er, (PostS.expr t01 w1 es1 p1).mono ?_⟩
    rintro iv H2 ⟨ρ2, G2, T2, j, kj, t2, t02, w2, es2, p2⟩
    have kd : Rp X.K ρ2 G2 v d := Rp.tr t2 kv
    replace kj : Rp X.K ρ2 G2 iv j := kj
    unfold setM at p2
    split at p2
    · rename_i xs es_
      obtain ⟨a, vs, ds, ev, ed, ha, r, n, gn, h0⟩ := es2.slot es_
      cases ed
      rw [hu] at ev
      cases ev
      split at p2
      · rename_i i
        cases kj.i
        split at p2
        · rename_i q hq
          refine ⟨a, vs, i, q, rfl, rfl, ha, by rw [r.length]; exact hq, ?_⟩
          exact p2 ρ2 G2 _ σv (t02.own h0 _) (TrW.own ha) (w2.own n gn _) (es2.mut es_ hu (Rps.set kd q r))
        · exact (show False from p2).elim
      · exact (show False from p2).elim
    · rename_i n es_
      obtain ⟨u', hu', ru⟩ := es2.er.fz es_
      rw [hu] at hu'
      cases hu'
      cases ru with
      | @obj a _ hr =>
        split at p2
        · rename_i xs i hT
          cases kj.i
          obtain ⟨b, hb, vs, ha, r⟩ := w2.sto n _ hT
          rw [hr] at hb
          cases hb
          split at p2
          · rename_i q hq
            refine ⟨a, vs, i, q, rfl, rfl, ha, by rw [r.length]; exact hq, ?_⟩
            exact p2 ρ2 G2 _ σv (t02.sset (List.mem_of_getElem? hr) ha _) (TrW.own ha) (w2.sset hr (Rps.set kd q r)) (es2.sset (List.mem_of_getElem? hr) _)
          · exact (show False from p2).elim
        · exact (show False from p2).elim
    · exact (show False from p2).elim
  · exact (show False from p).elim
/-- x op= e -/
def ipR (X : Cx) (op : Operator) : TIp := fun x y H Q => ∃ ρ G T a b d, Wd X.K ρ G H T ∧ Rp X.K ρ G x a ∧ Rp X.K ρ G y b ∧ augD op a b = some d ∧ ∀ v, Rp X.K ρ G v d → Q v H
theorem iopAug (op : Operator) : PIp X op (ipR X op) := by
  intro pins s σ H x y v u Q I rx ry h
  obtain ⟨ρ, G, T, a, b, d, w, pa, pb, e, q⟩ := h
  unfold augD at e
  split at e
  · cases e
    cases pa.i; cases pb.i
    exact iop_add pins s σ H _ _ v u Q I rx ry ⟨_, _, rfl, rfl, q _ (.int _)⟩
  · split at e
    · rename_i hf
      cases e
      cases pa.s; cases pb.s
      exact iop_add_str pins s σ H _ _ v u Q I rx ry ⟨_, _, rfl, rfl, fits_iff.mp hf, q _ (.str _)⟩
    · cases e
  · cases e
    cases pa.i; cases pb.i
    exact iop_sub pins s σ H _ _ v u Q I rx ry ⟨_, _, rfl, rfl, q _ (.int _)⟩
  · split at e
    · rename_i hf
      cases e
      cases pa.i; cases pb.i
      simp only [Bool.and_eq_true, decide_eq_true_eq] at hf
      exact iop_mul pins s σ H _ _ v u Q I rx ry ⟨_, _, rfl, rfl, .inr ⟨hf.1, hf.2⟩, q _ (.int _)⟩
    · cases e
  · cases e
theorem sm_aug (S : Snd G C R) (g : Gx X G C) (fit : Fit X F) (tk : L2N.Takes X W) (x : Str) (px : Pos) (op : Operator) (e : Expr) (pos : Pos) (hd : isDbg x = false) (i : Nat) (hs : slotL F x = some i) :
    PS X (.AugAssign (.Name x px) op e pos) (SR X.K W fun σ T => (match σ[i]? with
      | some (.fz d) => (vE R F e σ T).then_ σ fun y T1 => (match augD op d y with
        | some z => .nx (σ.set i (.fz z)) T1
        | none => .bad)
      | _ => .bad)) := by
  obtain ⟨h1, h2, h3⟩ := slotL_ok fit hs
  refine (ps_aug fit.nd h1 h2 (pe_vE S g fit tk e) (iopAug op) h3).imp fun E σv H ⟨ρ0, G0, H0, ρ, Gh, T, σ, t0, w, es, p⟩ => ?_
  simp only at p
  split at p
  · rename_i d ed
    obtain ⟨u, hu, ru⟩ := es.er.fz ed
    refine ⟨u, hu, ρ, Gh, T, σ, w, es.er, (PostS.expr t0 w es p).mono ?_⟩
    rintro v H1 ⟨ρ1, G1, T1, y, kv, t, t01, w1, es1, p1⟩
    split at p1
    · rename_i z ez
      refine ⟨ρ1, G1, T1, d, y, z, w1, Rp.tr t ru, kv, ez, fun v' rv => ?_⟩
      exact p1 ρ1 G1 H1 _ t01 .refl w1 (es1.set rv i)
    · exact (show False from p1).elim
  · exact (show False from p).elim
theorem sm_expr (S : Snd G C R) (g : Gx X G C) (fit : Fit X F) (tk : L2N.Takes X W) (e : Expr) (pos : Pos) (hs : swapsWith e none pos.line X.env = pure false) : PS X (.Expr e pos) (SR X.K W fun σ T => (R.val F e σ T).then_ σ fun _ T1 => .nx σ T1) := by
  refine (ps_expr (S.val X W F e g fit tk) hs).imp fun E σv H ⟨ρ0, G0, H0, ρ, Gh, T, σ, t0, w, es, p⟩ => ?_
  refine ⟨ρ, Gh, T, σ, w, es.er, (PostS.expr t0 w es p).mono ?_⟩
  rintro v H1 ⟨ρ1, G1, T1, d, kv, t, t01, w1, es1, p1⟩
  exact p1 ρ1 G1 H1 σv t01 .refl w1 es1
theorem sm_doc {s : Str} {j : Nat} {p1 pos : Pos} : PS X (.Expr (.Constant (.str s) j p1) pos) (SR X.K W fun σ T => .nx σ T) := ps_doc.imp fun E σv H ⟨ρ0, G0, H0, ρ, Gh, T, σ, t0, w, es, p⟩ => p ρ Gh H σv t0 .refl w es
theorem sm_raise (S : Snd G C R) (g : Gx X G C) (fit : Fit X F) (tk : L2N.Takes X W) (sx : Sx G EI C U X W) (x : Str) (p0 p1 pos : Pos) (args : List Expr) (h1 : isGl F.sc x = true) (h2 : isDbg x = false) (h3 : EI.has x args.length = true) :
    PS X (.Raise (some (.Call (.Name x p0) args [] p1)) none pos) (SR X.K W fun σ T => (aE R F args σ T).then_ σ fun ds T1 => (match EI.mkX x ds with
      | some e => .ex e σ T1
      | none => .bad)) := by
  refine (L2N.ps_raise fit.calm tk (sx.mkx R F x p0 args p1 S fit h1 h2 h3)).imp fun E σv H ⟨ρ0, G0, H0, ρ, Gh, T, σ, t0, w, es, p⟩ => ?_
  refine ⟨ρ, Gh, T, σ, w, es.er, (PostS.expr t0 w es p).mono ?_⟩
  rintro vs H1 ⟨ρ1, G1, T1, ds, kv, t, t01, w1, es1, p1⟩
  split at p1
  · rename_i e ee
    exact ⟨ρ1, G1, T1, ds, e, w1, kv, ee, fun cls d ρ' G' H' t' w' xr => p1 cls d ρ' G' H' σv (t01.trans w1 t' w') t'.w w' (es1.tr t') xr⟩
  · exact (show False from p1).elim

/-! ### what holds statements -/
theorem sm_seq {S1 : Fi → Stmt → SM} (h : ∀ st, PS X st (SR X.K W (S1 F st))) : ∀ sts : List Stmt, PSs X sts (SR X.K W (stmsBy S1 sts F))
  | [] => pss_nil.imp fun E σv H ⟨ρ0, G0, H0, ρ, Gh, T, σ, t0, w, es, p⟩ => p ρ Gh H σv t0 .refl w es
  | st :: r => (pss_cons (h st) (sm_seq h r)).imp fun E σv H ⟨ρ0, G0, H0, ρ, Gh, T, σ, t0, w, es, p⟩ => by
    refine ⟨ρ0, G0, H0, ρ, Gh, T, σ, t0, w, es, ?_⟩
    have p : PostS X.K W ρ0 G0 H0 E ρ Gh H ((S1 F st σ T).seq (stmsBy S1 r F)) := p
    cases e : S1 F st σ T with
    | nx σ1 T1 =>
      rw [e] at p
      exact fun ρ' G' H' σv' t u w' es' => ⟨ρ0, G0, H0, ρ', G', T1, σ1, t, w', es', PostS.shift p u⟩
    | bk σ1 T1 => rw [e] at p; exact p
    | ct σ1 T1 => rw [e] at p; exact p
    | rt d b T1 => rw [e] at p; exact p
    | ex x σ1 T1 => rw [e] at p; exact p
    | bad => rw [e] at p; exact p
theorem sm_if (S : Snd G C R) (g : Gx X G C) (fit : Fit X F) (tk : L2N.Takes X W) {Y : List Stmt → Fi → SM} (hY : ∀ sts, PSs X sts (SR X.K W (Y sts F))) (c : Expr) (a b : List Stmt) (pos : Pos) :
    PS X (.If c a b pos) (SR X.K W fun σ T => (R.tst F c σ T).then_ σ fun k T1 => if k then Y a F σ T1 else Y b F σ T1) := by
  refine (ps_if (S.tst X W F c g fit tk) (hY a) (hY b)).imp fun E σv H ⟨ρ0, G0, H0, ρ, Gh, T, σ, t0, w, es, p⟩ => ?_
  refine ⟨ρ, Gh, T, σ, w, es.er, (PostS.expr t0 w es p).mono ?_⟩
  rintro k H1 ⟨ρ1, G1, T1, d, kv, t, t01, w1, es1, p1⟩
  cases (show k = d from kv)
  cases k with
  | true => exact ⟨ρ0, G0, H0, ρ1, G1, T1, σ, t01, w1, es1, p1⟩
  | false => exact ⟨ρ0, G0, H0, ρ1, G1, T1, σ, t01, w1, es1, p1⟩
theorem sm_while (S : Snd G C R) (g : Gx X G C) (fit : Fit X F) (tk : L2N.Takes X W) (po : PassesOwn (model X.prog X.w) X.A X.env X.xe) {Y : List Stmt → Fi → SM} (hY : ∀ sts, PSs X sts (SR X.K W (Y sts F))) (c : Expr) (body : List Stmt) (pos : Pos) (n : Nat) :
    PS X (.While c body [] pos) (SR X.K W (whileLoop (R.tst F c) (Y body F) n)) := by
  refine (ps_while po (S.tst X W F c g fit tk) (hY body)).imp fun E σv H ⟨ρ0, G0, H0, ρ, Gh, T, σ, t0, w, es, p⟩ => ?_
  refine ⟨fun m σv' H' => ∃ ρ' G' T' σ', Tr ρ0 G0 H0 ρ' G' H' ∧ TrW ρ Gh H ρ' G' H' ∧ Wd X.K ρ' G' H' T' ∧ EnvS X.K H0 ρ' G' H' σ' σv' ∧ PostS X.K W ρ0 G0 H0 E ρ' G' H' (whileLoop (R.tst F c) (Y body F) m σ' T'),
    ⟨n, ρ, Gh, T, σ, t0, .refl, w, es, p⟩, ?_⟩
  rintro m σv' H' ⟨ρ', G', T', σ', t0', u', w', es', p'⟩
  cases m with
  | zero => exact (show False from p').elim
  | succ m =>
    have p' : PostS X.K W ρ0 G0 H0 E ρ' G' H' ((R.tst F c σ' T').then_ σ' fun b T1 => if b then (match Y body F σ' T1 with
      | .nx σ2 T2 => whileLoop (R.tst F c) (Y body F) m σ2 T2
      | .ct σ2 T2 => whileLoop (R.tst F c) (Y body F) m σ2 T2
      | .bk σ2 T2 => .nx σ2 T2
      | .rt d b T2 => .rt d b T2
      | .ex x σ2 T2 => .ex x σ2 T2
      | .bad => .bad) else .nx σ' T1) := p'
    refine ⟨ρ', G', T', σ', w', es'.er, (PostS.expr t0' w' es' p').mono ?_⟩
    rintro k H1 ⟨ρ1, G1, T1, d, kv, t, t01, w1, es1, p1⟩
    cases (show k = d from kv)
    cases k with
    | false => exact p1 ρ1 G1 H1 σv' t01 .refl w1 es1
    | true =>
      refine ⟨fun σv2 H2 => ∃ ρ2 G2 T2 σ2, Tr ρ0 G0 H0 ρ2 G2 H2 ∧ TrW ρ Gh H ρ2 G2 H2 ∧ Wd X.K ρ2 G2 H2 T2 ∧ EnvS X.K H0 ρ2 G2 H2 σ2 σv2 ∧ PostS X.K W ρ0 G0 H0 E ρ2 G2 H2 (whileLoop (R.tst F c) (Y body F) m σ2 T2),
        fun σv2 H2 z => ⟨m, Nat.lt_succ_self _, z⟩, ρ0, G0, H0, ρ1, G1, T1, σ', t01, w1, es1, ?_⟩
      simp only [if_true] at p1
      have u1 : TrW ρ Gh H ρ1 G1 H1 := u'.trans t.w
      cases eb : Y body F σ' T1 with
      | nx σ2 T2 =>
        rw [eb] at p1
        exact fun ρ2 G2 H2 σv2 a b c d => ⟨ρ2, G2, T2, σ2, a, u1.trans b, c, d, PostS.shift p1 b⟩
      | ct σ2 T2 =>
        rw [eb] at p1
        exact fun ρ2 G2 H2 σv2 a b c d => ⟨ρ2, G2, T2, σ2, a, u1.trans b, c, d, PostS.shift p1 b⟩
      | bk σ2 T2 => rw [eb] at p1; exact p1
      | rt d b T2 => rw [eb] at p1; exact p1
      | ex x σ2 T2 => rw [eb] at p1; exact p1
      | bad => rw [eb] at p1; exact p1
theorem sm_for (S : Snd G C R) (g : Gx X G C) (fit : Fit X F) (tk : L2N.Takes X W) (po : PassesOwn (model X.prog X.w) X.A X.env X.xe) {Y : List Stmt → Fi → SM} (hY : ∀ sts, PSs X sts (SR X.K W (Y sts F))) (tg iter : Expr) (body : List Stmt) (pos : Pos) (hn : notSet iter = true) :
    PS X (.For tg iter body [] pos) (SR X.K W fun σ T => (itM (vE R) R F tg iter σ T).then_ σ fun ds T1 => forLoop (bindT F tg) (Y body F) ds σ T1) := by
  refine (ps_for po fit.calm (pi_itM (wk := true) S g fit tk (how_vE S g fit tk) iter) (pg_bind fit tg) (hY body) (fun x => by cases iter <;> first | rfl | cases hn)).imp fun E σv H ⟨ρ0, G0, H0, ρ, Gh, T, σ, t0, w, es, p⟩ => ?_
  refine ⟨ρ, Gh, T, σ, w, es.er, (PostS.expr t0 w es p).mono ?_⟩
  rintro J H1 ⟨ρ1, G1, T1, items, kJ, t, t01, w1, es1, p1⟩
  refine ⟨fun i m σv' H' => i ≤ items.length ∧ m = items.length - i ∧ ∃ ρ' G' T' σ', Tr ρ0 G0 H0 ρ' G' H' ∧ TrW ρ1 G1 H1 ρ' G' H' ∧ Wd X.K ρ' G' H' T' ∧ EnvS X.K H0 ρ' G' H' σ' σv' ∧ PostS X.K W ρ0 G0 H0 E ρ' G' H' (forLoop (bindT F tg) (Y body F) (items.drop i) σ' T'),
    ⟨items.length, Nat.zero_le _, rfl, ρ1, G1, T1, σ, t01, .refl, w1, es1, p1⟩, ?_⟩
  rintro i m σv' H' ⟨hi, rfl, ρ', G', T', σ', t0', u', w', es', p'⟩
  obtain ⟨go, stop⟩ := kJ ρ' G' H' T' u' w'
  by_cases hlt : i < items.length
  · obtain ⟨d, hd⟩ : ∃ d, items[i]? = some d := ⟨_, List.getElem?_eq_getElem hlt⟩
    obtain ⟨go1, yl⟩ := go i d hd
    refine .inr ⟨go1, fun σv2 H2 => ∃ ρ2 G2 T2 σ2, Tr ρ0 G0 H0 ρ2 G2 H2 ∧ TrW ρ1 G1 H1 ρ2 G2 H2 ∧ Wd X.K ρ2 G2 H2 T2 ∧ EnvS X.K H0 ρ2 G2 H2 σ2 σv2 ∧ PostS X.K W ρ0 G0 H0 E ρ2 G2 H2 (forLoop (bindT F tg) (Y body F) (items.drop (i + 1)) σ2 T2),
      fun σv2 H2 z => ⟨items.length - (i + 1), by omega, by omega, rfl, z⟩, fun x H3 hy => ?_⟩
    obtain ⟨G3, t3, w3, r3⟩ := yl x H3 hy
    rw [List.drop_eq_getElem_cons hlt] at p'
    have hde : items[i] = d := by
      rw [List.getElem?_eq_getElem hlt] at hd
      exact Option.some.inj hd
    rw [hde] at p'
    have p' : PostS X.K W ρ0 G0 H0 E ρ' G' H' (match bindT F tg d σ' with
      | none => .bad
      | some σ1 => (match Y body F σ1 T' with
        | .nx σ2 T2 => forLoop (bindT F tg) (Y body F) (items.drop (i + 1)) σ2 T2
        | .ct σ2 T2 => forLoop (bindT F tg) (Y body F) (items.drop (i + 1)) σ2 T2
        | .bk σ2 T2 => .nx σ2 T2
        | .rt d b T2 => .rt d b T2
        | .ex x σ2 T2 => .ex x σ2 T2
        | .bad => .bad)) := p'
    have t03 := t0'.trans w' t3 w3
    have u3 : TrW ρ1 G1 H1 ρ' G3 H3 := u'.trans t3.w
    refine gR_of (W := W) (E := E) t03 w3 (es'.tr t3) r3 ?_
    cases eb : bindT F tg d σ' with
    | none => rw [eb] at p'; exact (show False from p').elim
    | some σ1 =>
      rw [eb] at p'
      refine ⟨σ1, rfl, fun σv1 es3 => ⟨ρ0, G0, H0, ρ', G3, T', σ1, t03, w3, es3, ?_⟩⟩
      have p' := PostS.shift p' t3.w
      cases ey : Y body F σ1 T' with
      | nx σ2 T2 =>
        simp only [ey] at p'
        exact fun ρ2 G2 H2 σv2 a b c d => ⟨ρ2, G2, T2, σ2, a, u3.trans b, c, d, PostS.shift p' b⟩
      | ct σ2 T2 =>
        simp only [ey] at p'
        exact fun ρ2 G2 H2 σv2 a b c d => ⟨ρ2, G2, T2, σ2, a, u3.trans b, c, d, PostS.shift p' b⟩
      | bk σ2 T2 => simp only [ey] at p'; exact p'
      | rt d b T2 => simp only [ey] at p'; exact p'
      | ex x σ2 T2 => simp only [ey] at p'; exact p'
      | bad => simp only [ey] at p'; exact p'
  · have hi' : i = items.length := by omega
    subst hi'
    refine .inl ⟨stop, ?_⟩
    rw [List.drop_length] at p'
    exact p' ρ' G' H' σv' t0' .refl w' es'
end
end Mi


set_option Elab.async false
set_option linter.all false
set_option maxRecDepth 100000
/-! MiO: all statements; defs; the module. -/
namespace Mi
open PySem PySem.Spec PyProof.Rows L2
section
variable {X : Cx} {W : WX} {F : Fi} {G : Gi} {EI : Ei} {C : CallT} {U : ExtT} {R : Dn}
theorem bad_withL {st : Stmt} {x : Str} {f : Nat → SM} (h : ∀ i, slotL F x = some i → PS X st (SR X.K W (f i))) : PS X st (SR X.K W (withL F x f)) := by
  unfold withL
  cases e : slotL F x with
  | some i => exact h i e
  | none => exact PS.bad fun _ _ => rfl
theorem bad_withS {st : Stmt} {x : Str} {f : Nat → SM} (h : ∀ i, slot F x = some i → PS X st (SR X.K W (f i))) : PS X st (SR X.K W (withS F x f)) := by
  unfold withS
  cases e : slot F x with
  | some i => exact h i e
  | none => exact PS.bad fun _ _ => rfl
theorem sm_step (S : Snd G C R) (SL : SndL G C R) (g : Gx X G C) (fit : Fit X F) (tk : L2N.Takes X W) (sx : Sx G EI C U X W) {Y : List Stmt → Fi → SM} (hY : ∀ sts, PSs X sts (SR X.K W (Y sts F))) (st : Stmt) : PS X st (SR X.K W (stepStm G EI C R Y F st)) := by
  unfold stepStm
  split
  · exact sm_pass
  · exact sm_break
  · exact sm_cont
  · exact sm_retN
  · split
    · exact PS.bad fun _ _ => rfl
    · rename_i hd
      rw [Bool.not_eq_true] at hd
      split
      · rename_i i hs
        exact sm_retVar fit hd hs
      · exact sm_ret S g fit tk _ _
  · exact sm_ret S g fit tk _ _
  · exact bad_withL fun i hs => sm_setLc S SL g fit tk _ _ _ _ _ _ _ i hs
  · split
    · rename_i ok
      exact bad_withL fun i hs => sm_setMut S g fit tk _ _ _ _ _ _ _ _ _ ok i hs
    · exact PS.bad fun _ _ => rfl
  · split
    · rename_i h1
      exact bad_withL fun i hs => sm_set S g fit tk _ _ _ _ i hs (sw_notLc h1 _ _ _)
    · exact PS.bad fun _ _ => rfl
  · split
    · rename_i ok
      exact sm_tupMut S g fit tk _ _ _ _ _ _ _ _ _ _ ok
    · exact PS.bad fun _ _ => rfl
  · split
    · rename_i hb
      simp only [Bool.and_eq_true] at hb
      exact sm_tup S g fit tk _ _ _ _ _ hb.1 hb.2
    · exact PS.bad fun _ _ => rfl
  · split
    · rename_i hb
      simp only [Bool.and_eq_true, Bool.not_eq_true'] at hb
      exact bad_withS fun k hs => sm_sub S g fit tk _ _ _ _ _ _ hb.1.1.1 hb.1.1.2 hb.1.2 hb.2 k hs
    · exact PS.bad fun _ _ => rfl
  · split
    · exact PS.bad fun _ _ => rfl
    · rename_i hd
      rw [Bool.not_eq_true] at hd
      split
      · rename_i i hs
        exact sm_aug S g fit tk _ _ _ _ _ hd i hs
      · exact PS.bad fun _ _ => rfl
  · exact sm_doc
  · split
    · rename_i hb
      simp only [Bool.and_eq_true, decide_eq_true_eq] at hb
      exact sm_mut2 S g fit tk _ _ _ _ _ _ _ _ _ _ _ _ hb.1.1 hb.1.2 hb.2
    · exact PS.bad fun _ _ => rfl
  · split
    · rename_i ok
      exact sm_mut S g fit tk _ _ _ _ _ _ _ ok
    · exact PS.bad fun _ _ => rfl
  · exact sm_expr S g fit tk _ _ rfl
  · exact sm_if S g fit tk hY _ _ _ _
  · exact sm_while S g fit tk sx.po hY _ _ _ _
  · split
    · rename_i hn
      exact sm_for S g fit tk sx.po hY _ _ _ _ hn
    · exact PS.bad fun _ _ => rfl
  · split
    · rename_i hb
      simp only [Bool.and_eq_true, Bool.not_eq_true'] at hb
      exact sm_raise S g fit tk sx _ _ _ _ _ hb.1.1 hb.1.2 hb.2
    · exact PS.bad fun _ _ => rfl
  · exact PS.bad fun _ _ => rfl
theorem sm_sn (g : Gx X G C) (fit : Fit X F) (tk : L2N.Takes X W) (sx : Sx G EI C U X W) (M : Nat) : ∀ (n : Nat) (st : Stmt), PS X st (SR X.K W (sn G EI U C M n F st))
  | 0, st => PS.bad fun _ _ => rfl
  | n + 1, st => by
    have main : PS X st (SR X.K W (match U C (dn G C M) F st with
      | some m => m
      | none => stepStm G EI C (dn G C M) (stmsBy (sn G EI U C M n)) F st)) := by
      split
      · rename_i m hm
        exact sx.ext _ F st m (snd_dn G C M) fit hm
      · exact sm_step (snd_dn G C M) (sndL_dn G C M) g fit tk sx (fun sts => sm_seq (fun st => sm_sn g fit tk sx M n st) sts) st
    refine main.imp fun E σv H ⟨ρ0, G0, H0, ρ, Gh, T, σ, t0, w, es, p⟩ => ?_
    obtain ⟨G', t0', u, w', es'⟩ := EnvS.frzE G F st.pos.line t0 w es
    exact ⟨ρ0, G0, H0, ρ, G', T, _, t0', w', es', PostS.shift p u⟩
end

/-! ### a def -/
theorem start_get {N : List Str} {d : Df} {K : PySem.W.Frag} {ρ : List Addr} {G H : Hp} {vs : List V} {ds : List D} (hN : d.N = N) (hl : ds.length ≤ N.length) (r : Rps K ρ G vs ds) : EnvS K H ρ G H (startE d ds) (L2.start N vs) := by
  subst hN
  have hv := r.length
  have get : ∀ (i : Nat) (s : Sl), (startE d ds)[i]? = some s → (i < ds.length ∧ ∃ x, ds[i]? = some x ∧ s = .fz x) ∨ s = .no := fun i s e => by
    unfold startE at e
    by_cases h : i < ds.length
    · left
      rw [List.getElem?_append_left (by rw [List.length_map]; exact h), List.getElem?_map, List.getElem?_eq_getElem h] at e
      exact ⟨h, ds[i], List.getElem?_eq_getElem h, by simpa using e.symm⟩
    · right
      rw [List.getElem?_append_right (by rw [List.length_map]; omega)] at e
      have := List.mem_of_getElem? e
      exact (List.mem_replicate.mp this).2
  refine ⟨⟨?_, fun i s v e1 e2 => ?_, fun i j a b c e1 e2 e3 e4 => ?_⟩, fun i a b e1 e2 => ?_⟩
  · unfold startE L2.start
    rw [List.length_append, List.length_append, List.length_map, List.length_map, List.length_replicate, List.length_replicate, hv]
  · rcases get i s e1 with ⟨h, x, ex, rfl⟩ | rfl
    · obtain ⟨y, ey, ry⟩ := r.get ex
      unfold L2.start at e2
      rw [List.getElem?_append_left (by rw [List.length_map, hv]; exact h), List.getElem?_map, ey] at e2
      have e2 : some y = v := by simpa using e2
      exact ⟨y, e2.symm, ry⟩
    · trivial
  · rcases get i _ e1 with ⟨h, x, ex, z⟩ | z <;> cases z
  · rcases get i _ e1 with ⟨h, x, ex, z⟩ | z <;> cases z
theorem Post.ofRun {K : PySem.W.Frag} {ρ : List Addr} {Gh H : Hp} {Q : VK} {E : XK} {r : RS} (p : Post K (fun cls d _ H' => E cls d H') (kV K) ρ Gh H [] Q (match r with
    | .nx _ T => .ok (.non, false) T
    | .rt d b T => .ok (d, b) T
    | .ex x _ T => .ex x T
    | _ => .bad)) : PostS K (fun cls d _ H' => E cls d H') ρ Gh H { nx := fun _ H' => Q .non H', rt := Q } ρ Gh H r := by
  cases r with
  | nx σ T => exact fun ρ' G' H' σv t _ w _ => p .non ρ' G' H' t w .non
  | rt d b T => exact fun v ρ' G' H' t _ w kv => p v ρ' G' H' t w kv
  | ex x σ T => exact fun cls d ρ' G' H' σv t _ w _ xr => p cls d ρ' G' H' t w xr
  | bk σ T => exact (show False from p).elim
  | ct σ T => exact (show False from p).elim
  | bad => exact (show False from p).elim
/-- the contexts of a module's defs -/
structure OfM (P : Program) (w : World) (K : PySem.W.Frag) (mg : Str → Option Value) (base : Heap) (X : Cx) : Prop where
  prog : X.prog = P
  w : X.w = w
  K : X.K = K
  mg : X.mg = mg
  base : X.base = base
theorem ok_def {P : Program} {w : World} {K : PySem.W.Frag} {mg : Str → Option Value} {base : Heap} {G : Gi} {EI : Ei} {U : ExtT} {C : CallT} {M L k : Nat} {d : Df} {x qual : Str} {params : Arguments} {ps : List Str} {f : Addr} {fd : FuncData}
    (Fd : FunD K x qual params d.body d.sc [] [] f fd) (Sc : FnScope d.N ps d.sc) (hps : ps.length = d.np)
    (gx : ∀ (cdv : Value) (A : Around) (outer : List PySem.Env) (s : Shared) (H : Hp) (E : XK), Room k (A.deeper (envOfC qual d.sc s.heap.objs.size f cdv)) → Gx (cxOf (L2N.CX P w) P w K mg base d.N qual d.sc f cdv A outer s H E) G C)
    (sx : ∀ (cdv : Value) (A : Around) (outer : List PySem.Env) (s : Shared) (H : Hp) (E : XK), Room k (A.deeper (envOfC qual d.sc s.heap.objs.size f cdv)) → Sx G EI C U (cxOf (L2N.CX P w) P w K mg base d.N qual d.sc f cdv A outer s H E) (fun cls d _ H' => E cls d H')) :
    FnOk P w K mg base (L2N.CX P w) (k + 1) f fd ps (fun vs H Q E => ∃ ρ Gh T ds, Wd K ρ Gh H T ∧ Rps K ρ Gh vs ds ∧ Post K (fun cls d _ H' => E cls d H') (kV K) ρ Gh H [] Q (runDf G EI U C M L d ds T)) := by
  have hN : ps.length ≤ d.N.length := by
    have := congrArg List.length Sc.pre
    rw [List.length_take] at this
    omega
  refine Fd.ok Sc (fun vs H Q E h => ?_) (fun cdv A outer s H vs Q E hr h => ?_)
  · obtain ⟨ρ, Gh, T, ds, _, r, p⟩ := h
    unfold runDf at p
    split at p
    · rename_i hl
      rw [r.length, hl, hps]
    · exact (show False from p).elim
  · obtain ⟨ρ, Gh, T, ds, wd, r, p⟩ := h
    unfold runDf at p
    split at p
    · rename_i hl
      let X := cxOf (L2N.CX P w) P w K mg base d.N qual d.sc f cdv A outer s H E
      let F : Fi := ⟨d.N, d.sc, fun _ => true⟩
      have fit : Fit X F := ⟨rfl, rfl, rfl, rfl, Sc.nd⟩
      have tk : L2N.Takes X (fun cls d _ H' => E cls d H') := L2N.takes_of (X := X) rfl rfl rfl rfl
      refine ⟨SR K (fun cls d _ H' => E cls d H') (stmsBy (sn G EI U C M L) d.body F), sm_seq (X := X) (F := F) (fun st => sm_sn (gx cdv A outer s H E hr) fit tk (sx cdv A outer s H E hr) M L st) d.body, ρ, Gh, H, ρ, Gh, T, startE d ds, .refl, wd, start_get rfl (by omega) r, ?_⟩
      exact Post.ofRun p
    · exact (show False from p).elim
/-- what the module's head tells -/
structure ModH (P : Program) (w : World) (K : PySem.W.Frag) (mg : Str → Option Value) (base : Heap) (G : Gi) (tab : List (Str × Df)) : Prop where
  fn : ∀ f d, tab.lookup f = some d → ∃ (fa : Addr) (fd : FuncData) (ps : List Str) (x qual : Str) (params : Arguments), FunD K x qual params d.body d.sc [] [] fa fd ∧ FnScope d.N ps d.sc ∧ ps.length = d.np ∧ mg f = some (.ref fa) ∧ Binds K fd ps []
  dom : ∀ f ∈ G.fn, ∃ d, tab.lookup f = some d
  blt : ∀ x ∈ bltNames, mg x = none
  cst : ∀ x d, G.cst.lookup x = some d → ∃ u v, mg x = some u ∧ RelV v u ∧ ∀ ρ (Gh : Hp), Rp K ρ Gh v d
/-- exceptions and a law's own statements, over any promise of the calls -/
def ModX (P : Program) (w : World) (K : PySem.W.Frag) (mg : Str → Option Value) (base : Heap) (G : Gi) (EI : Ei) (U : ExtT) : Prop :=
  ∀ (C : CallT) (N : List Str) (qual : Str) (sc : Scope) (f : Addr) (cdv : Value) (A : Around) (outer : List PySem.Env) (s : Shared) (H : Hp) (E : XK) (k : Nat), Room (k + 4) (A.deeper (envOfC qual sc s.heap.objs.size f cdv)) → N.Nodup →
    Gx (cxOf (L2N.CX P w) P w K mg base N qual sc f cdv A outer s H E) G C → Sx G EI C U (cxOf (L2N.CX P w) P w K mg base N qual sc f cdv A outer s H E) (fun cls d _ H' => E cls d H')
theorem fn_all {P : Program} {w : World} {K : PySem.W.Frag} {mg : Str → Option Value} {base : Heap} {G : Gi} {tab : List (Str × Df)} {EI : Ei} {U : ExtT} {M L : Nat} (mh : ModH P w K mg base G tab) (mx : ModX P w K mg base G EI U) :
    ∀ (n : Nat) (f : Str) (d : Df), tab.lookup f = some d → ∃ fa fd ps, FnOk P w K mg base (L2N.CX P w) (n + 4) fa fd ps (spC K (callN G EI U M L tab n) f) ∧ mg f = some (.ref fa) ∧ PySem.W.keepIn K (.ref fa) = true ∧ Binds K fd ps [] ∧ ps.length = d.np
  | 0, f, d, hd => by
    obtain ⟨fa, fd, ps, x, qual, params, Fd, Sc, hps, hm, hb⟩ := mh.fn f d hd
    exact ⟨fa, fd, ps, ⟨fun vs H Q E ⟨ρ, Gh, T, ds, _, _, p⟩ => (show False from p).elim, fun A outer s H args us vs Q E hr he hb hv ⟨ρ, Gh, T, ds, _, _, p⟩ => (show False from p).elim⟩, hm, Fd.kp, hb, hps⟩
  | n + 1, f, d, hd => by
    obtain ⟨fa, fd, ps, x, qual, params, Fd, Sc, hps, hm, hb⟩ := mh.fn f d hd
    have gx : ∀ (cdv : Value) (A : Around) (outer : List PySem.Env) (s : Shared) (H : Hp) (E : XK), Room (n + 4) (A.deeper (envOfC qual d.sc s.heap.objs.size fa cdv)) → Gx (cxOf (L2N.CX P w) P w K mg base d.N qual d.sc fa cdv A outer s H E) G (callN G EI U M L tab n) := fun cdv A outer s H E hr => by
      refine ⟨fun f' hf' => ?_, mh.blt, mh.cst, ?_⟩
      · obtain ⟨d', hd'⟩ := mh.dom f' hf'
        obtain ⟨fa', fd', ps', ok', hm', kp', hb', _⟩ := fn_all mh mx n f' d' hd'
        exact ⟨n + 4, fa', fd', ps', ok', hr, hm', kp', hb'⟩
      · have := hr.un
        show (A.deeper (envOfC qual d.sc s.heap.objs.size fa cdv)).units + 200 < cLine
        omega
    refine ⟨fa, fd, ps, (ok_def (M := M) (L := L) Fd Sc hps gx fun cdv A outer s H E hr => mx _ _ _ _ _ _ _ _ _ _ _ n hr Sc.nd (gx cdv A outer s H E hr)).imp fun vs H Q E h => ?_, hm, Fd.kp, hb, hps⟩
    obtain ⟨ρ, Gh, T, ds, wd, r, p⟩ := h
    refine ⟨ρ, Gh, T, ds, wd, r, ?_⟩
    have e : callN G EI U M L tab (n + 1) f ds T = runDf G EI U (callN G EI U M L tab n) M L d ds T := by
      show (match tab.lookup f with
        | some d => runDf G EI U (callN G EI U M L tab n) M L d ds T
        | none => .bad) = _
      rw [hd]
    rw [← e]
    exact p
end Mi


set_option Elab.async false
set_option linter.all false
set_option maxRecDepth 100000
/-! MiP: an own exception over ValueError whose __init__ says super().__init__(..) and keeps one field. -/
namespace PySem
namespace MiX
open PySem.W PySem.Calls PyProof.Rows PySem.HandSPX
/-- what the head tells of the class C, of its __init__ at fI (cell cc, code object cda) -/
structure OwnT (prog : Program) (K : Frag) (f : Str) (C fI cc cda : Addr) (q pn : Str) (params : Arguments) (body : List Stmt) (sc : Scope) : Prop where
  cls : ∃ nm qn N bs bm sn sub ab col dd k0 k1 k2 k3 k5, K.lookup C = some (excClassObj nm qn C N bs bm true sn sub ab col dd k0 k1 k2 k3 k5 "ValueError.__new__") ∧ refsVE bm = true
  sa : findIn K (.ref C) "__setattr__" = some (some (.builtin "object.__setattr__"))
  noF : findIn K (.ref C) f = some none
  iC : findIn K (.ref C) "__init__" = some (some (.ref fI))
  tC : typeIn K (.ref fI) = some (.type "function")
  kC : keepIn K (.ref C) = true
  exC : subIn K (.ref C) (.type "BaseException") = some true
  tyC : typeIn K (.ref C) = some (.type "type")
  fn : ∃ (oc : Value) (od : Option Addr) (doc pm : Value) (an : Option Addr) (ct : Value) (osl : Array (Option Value)),
    K.lookup fI = some ⟨oc, od, .func (ksFn "__init__" q params body sc .none .none doc pm an (.ref cda) ct cc), osl⟩
  hcd : codeIn K (.ref cda) q = true
  code : ∃ ccl cdd vs ccs file tf, K.lookup cda = some ⟨ccl, cdd, .fields vs, ccs⟩ ∧ vs[2]? = some (.str file tf) ∧ ((prog.main.file : Str) == file) = true
  cell : ∃ cl cld csl, K.lookup cc = some ⟨cl, cld, .cell (some (.ref C)), csl⟩
  selfC : mroIn K C (.ref C) = some true
  veC : mroIn K C (.type "ValueError") = some true
  sup : ks_superIn K C C "__init__" = some (some (.builtin "ValueError.__init__"))
  opq : nsIn K cStatics "thirdparty.any" = some none
/-- what the text of __init__ is -/
structure OwnB (prog : Program) (f q pn : Str) (params : Arguments) (body : List Stmt) (sc : Scope) (e0 : Expr) : Prop where
  bind : ∀ (doc pm : Value) (an : Option Addr) (cda : Addr) (ct : Value) (cc : Addr) (u v : Value), bindArgs (ksFn "__init__" q params body sc .none .none doc pm an (.ref cda) ct cc) ⟨[u, v], []⟩ = pure [(("self" : Str), u), (pn, v)]
  body_ : ∃ p0 p1 p2 p3 p4 q1 q2 q3 q4, body = [.Expr (.Call (.Attribute (.Call (.Name "super" p0) [] [] p1) "__init__" p2) [e0] [] p3) p4, .Assign [.Attribute (.Name "self" q1) f q2] (.Name pn q3) q4] ∧
    ∀ env : Env, ∃ pl : Sem Bool, eval (.Call (.Attribute (.Call (.Name "super" p0) [] [] p1) "__init__" p2) [e0] [] p3) env = (do
      let ov ← attributeBase (.Call (.Name "super" p0) [] [] p1) "__init__" env (eval (.Call (.Name "super" p0) [] [] p1) env)
      standAt p2.atName
      let (f, first) ← holding [ov] (getMethod ov "__init__" pl)
      callWith p3 f first (backTo p3 (starEach [e0] env)) [])
  star : ∀ env : Env, starEach [e0] env = [(false, eval e0 env)]
  nocell : ∀ x ∈ sc.names, x.2 ≠ .cell
  ks : sc.names.lookup ("super" : Str) = some .globalImplicit
  kc : sc.names.lookup ("__class__" : Str) = some .free
  kself : sc.names.lookup ("self" : Str) = some .local
  kpn : sc.names.lookup pn = some .local
  ne : pn ≠ ("self" : Str)
  dbg : (pn == ("__debug__" : Str)) = false
  kind : sc.kind = .function
  co : sc.isCoroutine = false
  gen : sc.isGenerator = false
  par : ∃ ar : Arg, (params.posonlyargs ++ params.args).head? = some ar ∧ ar.arg = ("self" : Str)
  top : (prog.main.scope.names.lookup ("super" : Str)).isSome = false
/-- what __init__ leaves of a fresh exception at x -/
structure IEnd (f : Str) (h h' : Heap) (x C dx t1 : Addr) (v : Value) : Prop where
  keep : ∀ b o, b ≠ x → h.get? b = some o → h'.get? b = some o
  obj : h'.get? x = some { cls := .ref C, dict := some dx, data := .fields #[.ref t1, .none, .none, .none, .bool false, .none] }
  dbig : h.objs.size ≤ dx
  dne : dx ≠ x
  ns : h'.Ns1 dx (fun y => if y = f then some v else none)
theorem In.but {K : Frag} {h h' : Heap} {x : Addr} (X : K.In h) (hx : K.lookup x = none) (k : ∀ b o, b ≠ x → h.get? b = some o → h'.get? b = some o) : K.In h' := fun a o e => by
  refine k a o (fun z => ?_) (X a o e)
  rw [z, hx] at e
  cases e
section
variable {prog : Program} {w : World} {A : Around} {E : Value → Shared → Prop} {R : Result → Shared → Prop} {K : Frag}
/-- the built-in __init__, bound to the exception, called -/
theorem call_mw {h : Heap} {g : Array GenState} {d : Drawn} {t : Nat} {os : OsState} {C u e t0 : Addr} {a : Value} {Q : Value → Shared → Prop} (hc : ∃ nm qn N bs bm sn sub ab col dd k0 k1 k2 k3 k5, h.get? C = some (excClassObj nm qn C N bs bm true sn sub ab col dd k0 k1 k2 k3 k5 "ValueError.__new__"))
    (he : h.get? e = some (HandSPX.excO C t0)) (hu : h.get? u = some (kxs_mw "ValueError.__init__" e)) (hq : ∀ h' t1, (∀ b o, b ≠ e → h.get? b = some o → h'.get? b = some o) → h'.get? e = some (HandSPX.excO C t1) → Q .none ⟨h', g, d, t, os⟩) :
    wpAny (model prog w) A (call (.ref u) [a]) Q E ⟨h, g, d, t, os⟩ := by
  obtain ⟨nm, qn, N, bs, bm, sn, sub, ab, col, dd, k0, k1, k2, k3, k5, hC⟩ := hc
  refine wpAny_call (codeAny_of_tree ?_)
  show wpAny _ A.in1 (callAny (.ref u) ⟨[a], []⟩) _ _ _
  simp only [callAny]
  refine wpAny_bind (wpAny_load hu ?_)
  have m1 : (Value.type "method-wrapper" == Value.type "method" || Value.type "method-wrapper" == Value.type "builtin_function_or_method" || Value.type "method-wrapper" == Value.type "method-wrapper") = true := by decide
  simp only [kxs_mw, m1, if_true]
  refine W.KFB.if_so (by decide) ?_
  refine wpAny_bind (W.check_bound_init F.excBase_ValueError.toExcCallFacts hC he rfl ?_)
  refine wpAny_bind (wpAny_pure (wpAny_pure ?_))
  refine ⟨plainId_quiet F.excBase_ValueError.init.plain _, codeAny_builtin F.excBase_ValueError.initEntry ?_⟩
  exact W.exc_init_tree (cls := .ref C) (t0 := t0) (dv := none) (c2 := .none) (c3 := .none) (b4 := .bool false) he (by show 1 ≤ sizeLine; decide) fun h' k e' _ => hq h' _ k e'
theorem own_init {f q pn : Str} {C fI cc cda : Addr} {params : Arguments} {body : List Stmt} {sc : Scope} {e0 : Expr} (T : OwnT prog K f C fI cc cda q pn params body sc) (B : OwnB prog f q pn params body sc e0)
    {x t0 : Addr} {v : Value} {s : Shared} {mg mb : Str → Option Value} (X : K.In s.heap) (hlim : s.heap.NoLimit) (hx : s.heap.get? x = some (HandSPX.excO C t0)) (hnx : K.lookup x = none) (hroom : A.depth < recursionLimit)
    (hG : s.heap.Ns mainGlobals mg) (hgs : mg "super" = none) (hB : s.heap.Ns builtinsNs mb) (hbs : mb "super" = some (.type "super"))
    (he0 : ∀ (env : Env) (s1 : Shared) (E1 : Value → Shared → Prop) (A1 : Around) (Q1 : Value → Shared → Prop), env.scope.kind = .function → env.kindOf pn = some .local → s1.heap.Ns env.locals (fun y => ([(pn, v), (("self" : Str), Value.ref x)] : List (Str × Value)).lookup y) → (∀ u tk, Q1 u { s1 with toks := tk }) → wpAny (model prog w) A1 (eval e0 env) Q1 E1 s1)
    (hq : ∀ h' tk dx t1, IEnd f s.heap h' x C dx t1 v → R (.ok (.ret .none)) { s with heap := h', toks := tk }) :
    codeAny (model prog w) A (.call (.ref fI) ⟨[.ref x, v], []⟩) R s := by
  obtain ⟨hp0, g0, d0, tk0, os0⟩ := s
  obtain ⟨oc, od, doc, pm, an, ct, osl, ho⟩ := T.fn
  obtain ⟨nm, qn, N, bs, bm, sn, sub, ab, col, dd, k0, k1', k2', k3, k5, hC, hbm⟩ := T.cls
  obtain ⟨p0, p1, p2, p3, p4, q1, q2, q3, q4, rfl, hev⟩ := B.body_
  obtain ⟨ar, har, hra⟩ := B.par
  obtain ⟨ccl, cdd, vs, ccs, file, tf, hcode, hvs, hfile⟩ := T.code
  obtain ⟨cl, cld, csl, hcell⟩ := T.cell
  have hcl : clsIn K C = some { name := nm, bases := bs, mro := .ref C :: bm, ns := N, qualname := qn, hasDict := true, slotNames := sn, subclasses := sub, abstract := ab, collection := col, hasDel := false } := by
    unfold clsIn
    rw [hC] <;> rfl
  have hpl : (backTo p3 (starEach [e0] (callEnv (ksFn "__init__" q params [.Expr (.Call (.Attribute (.Call (.Name "super" p0) [] [] p1) "__init__" p2) [e0] [] p3) p4, .Assign [.Attribute (.Name "self" q1) f q2] (.Name pn q3) q4] sc .none .none doc pm an (.ref cda) ct cc) hp0.objs.size fI))).any (·.1) = false := by
    rw [B.star]
    rfl
  refine ks_codeAny_call_defAt (binds := [(("self" : Str), .ref x), (pn, v)]) hroom (X _ _ ho) rfl hlim (codeRec_of X T.hcd) rfl (BindsTo.of_eq (B.bind doc pm an cda ct cc (.ref x) v)) B.nocell ?_ (fun h₀ hns k => ?_) B.co B.gen B.kind
  · intro y hy
    rcases List.mem_cons.mp hy with rfl | hy
    · exact B.kself
    · rcases List.mem_cons.mp hy with rfl | hy
      · exact B.kpn
      · cases hy
  have X₀ : K.In h₀ := Frag.In.keeps X k
  have hx₀ := k _ _ hx
  have hns' : h₀.Ns hp0.objs.size (fun y => ([(pn, v), (("self" : Str), Value.ref x)] : List (Str × Value)).lookup y) := hns
  have hself : ([(pn, v), (("self" : Str), Value.ref x)] : List (Str × Value)).lookup ("self" : Str) = some (.ref x) := by
    have : (("self" : Str) == pn) = false := by simpa using fun z => B.ne z.symm
    simp [List.lookup, this]
  have hpv : ([(pn, v), (("self" : Str), Value.ref x)] : List (Str × Value)).lookup pn = some v := by simp [List.lookup]
  have hin : interactive (callEnv (ksFn "__init__" q params [.Expr (.Call (.Attribute (.Call (.Name "super" p0) [] [] p1) "__init__" p2) [e0] [] p3) p4, .Assign [.Attribute (.Name "self" q1) f q2] (.Name pn q3) q4] sc .none .none doc pm an (.ref cda) ct cc) hp0.objs.size fI) = false := by
    unfold interactive
    simp [callEnv, newEnv, B.kind]
  refine ks_wpAt_execs_cons (ks_wpAt_Expr_any ?_ hin rfl)
  obtain ⟨pl, hev⟩ := hev (callEnv (ksFn "__init__" q params [.Expr (.Call (.Attribute (.Call (.Name "super" p0) [] [] p1) "__init__" p2) [e0] [] p3) p4, .Assign [.Attribute (.Name "self" q1) f q2] (.Name pn q3) q4] sc .none .none doc pm an (.ref cda) ct cc) hp0.objs.size fI)
  refine ks_wpAt_MethodCall (pl := pl) ?_ hev
  refine ks_wpAt_super_base (vs := vs) (file := file) (tf := tf) (f := fI) (cc := cda) (ar := ar) B.ks B.kc (by decide +kernel) rfl (X₀ _ _ ho) rfl har rfl (X₀ _ _ hcode) rfl hvs hfile B.top ?_
  have hDC : ∃ oD, h₀.get? C = some oD ∧ oD.data = .cls { name := nm, bases := bs, mro := .ref C :: bm, ns := N, qualname := qn, hasDict := true, slotNames := sn, subclasses := sub, abstract := ab, collection := col, hasDel := false } := ⟨_, X₀ _ _ hC, rfl⟩
  obtain ⟨oD, hD1, hD2⟩ := hDC
  have mrl : ∀ {h : Heap}, K.In h → Looks (model prog w) h (mroOf (.ref C)) (.ref C :: bm) := fun {h} Y => (W.looks_clsIn Y hcl).andThen .now
  refine ks_loadName_global B.kind B.ks (loadGlobal_builtin (env := callEnv _ _ _) (hG.keeps k) hgs (hB.keeps k) hbs ⟨rfl, ?_⟩)
  refine wpAny_loadName_free B.kind B.kc rfl ⟨_, X₀ _ _ hcell, rfl⟩ ?_
  rw [hra]
  refine wpAny_loadName_local B.kind B.kself hns' hself ?_
  refine ks_wpAny_isType_cls hD1 hD2 ⟨rfl, ?_⟩
  refine ks_wpAny_call_super (C := C) hD1 hD2 hx₀ rfl (fun c e => by cases e) (looks_mroIn X₀ T.selfC) (fun h1 e1 k1 => ?_)
  have X₁ : K.In h1 := Frag.In.keeps X₀ k1
  have hx₁ := k1 _ _ hx₀
  have I₁ : InstAt h1 x (HandSPX.excO C t0) C none := ⟨hx₁, rfl, rfl, trivial⟩
  have hns₁ : h1.Ns hp0.objs.size (fun y => ([(pn, v), (("self" : Str), Value.ref x)] : List (Str × Value)).lookup y) := hns'.keeps k1
  refine kxs_getMethod kxs_ValueError (l₀ := .ref C :: bm) e1 (looks_opaque X₁ T.opq) (mrl X₁) rfl X₁ ?_ (I₁.type.andThen (looks_mroIn X₁ T.veC)) (ks_ne X₁ I₁ hcl) (by decide +kernel) ?_
  · have q := T.sup
    unfold ks_superIn at q
    rw [hcl] at q
    exact q
  have k2 : ∀ b o, h1.get? b = some o → (h1.push (kxs_mw "ValueError.__init__" x)).get? b = some o := fun b o e => Heap.get?_push_of_some _ e
  have hmw : (h1.push (kxs_mw "ValueError.__init__" x)).get? h1.objs.size = some (kxs_mw "ValueError.__init__" x) := Heap.get?_push_at rfl rfl
  refine kxs_callWith (i := "ValueError.__init__") (x := x) hpl ?_
  rw [B.star]
  refine evalArgs_plain (Calls.spliced_cons ?_)
  refine he0 _ _ _ _ _ B.kind B.kpn (hns₁.keeps k2) fun u tk => Calls.spliced_nil ⟨hmw, ?_⟩
  refine call_mw (C := C) (t0 := t0) ⟨nm, qn, N, bs, bm, sn, sub, ab, col, dd, k0, k1', k2', k3, k5, k2 _ _ (X₁ _ _ hC)⟩ (k2 _ _ hx₁) hmw fun h3 t1 k3' hx3 => ?_
  have X₃ : K.In h3 := In.but (Frag.In.keeps X₁ k2) hnx k3'
  have hLx : hp0.objs.size ≠ x := Nat.ne_of_gt (Heap.lt_size hx)
  have hns₃ : h3.Ns hp0.objs.size (fun y => ([(pn, v), (("self" : Str), Value.ref x)] : List (Str × Value)).lookup y) := (hns₁.keeps k2).at fun o q => k3' _ _ hLx q
  refine ks_wpAt_execs_cons (ks_wpAt_Assign_Attr ?_ rfl)
  refine wpAt_of_wpAny (wpAny_Name ?_ B.dbg)
  refine wpAny_loadName_local B.kind B.kpn hns₃ hpv ?_
  refine wpAny_Name ?_ (by decide +kernel)
  refine wpAny_loadName_local B.kind B.kself hns₃ hself ?_
  refine set_plain X₃ (ox := HandSPX.excO C t1) (od := none) ⟨hx3, rfl, rfl, trivial⟩ T.sa ?_
  refine HandSPX.exc_osa X₃ hx3 hcl (show refsVE (.ref C :: bm) = true from hbm) rfl T.noF (fun h4 tk4 dx k4 dn dne hx4 hn4 => ?_)
  refine wpAt_of_wpAny (wpAny_execs_nil ?_)
  have lt : hp0.objs.size < h3.objs.size := hns₃.lt
  exact hq h4 tk4 dx t1 ⟨fun b o hb e => k4 b o hb (k3' b o hb (k2 b o (k1 b o (k b o e)))), hx4, Nat.le_of_lt (Nat.lt_of_lt_of_le lt dn), dne, hn4⟩
/-- a made exception -/
structure OMade (f : Str) (h h' : Heap) (e C d : Addr) (v : Value) : Prop where
  keep : ∀ b o, h.get? b = some o → h'.get? b = some o
  new : h.objs.size ≤ e
  obj : ∃ oe vs, h'.get? e = some oe ∧ oe.cls = .ref C ∧ oe.dict = some d ∧ oe.data = .fields vs ∧ vs[1]? = some .none ∧ vs[2]? = some .none
  dbig : h.objs.size ≤ d
  dne : d ≠ e
  ns : h'.Ns1 d (fun y => if y = f then some v else none)
theorem own_made {f q pn : Str} {C fI cc cda : Addr} {params : Arguments} {body : List Stmt} {sc : Scope} {e0 : Expr} (T : OwnT prog K f C fI cc cda q pn params body sc) (B : OwnB prog f q pn params body sc e0)
    {v : Value} {s : Shared} {mg mb : Str → Option Value} (X : K.In s.heap) (hlim : s.heap.NoLimit) (hroom : A.depth + 1 < recursionLimit)
    (hG : s.heap.Ns mainGlobals mg) (hgs : mg "super" = none) (hB : s.heap.Ns builtinsNs mb) (hbs : mb "super" = some (.type "super"))
    (he0 : ∀ (x : Addr) (env : Env) (s1 : Shared) (E1 : Value → Shared → Prop) (A1 : Around) (Q1 : Value → Shared → Prop), env.scope.kind = .function → env.kindOf pn = some .local → s1.heap.Ns env.locals (fun y => ([(pn, v), (("self" : Str), Value.ref x)] : List (Str × Value)).lookup y) → (∀ u tk, Q1 u { s1 with toks := tk }) → wpAny (model prog w) A1 (eval e0 env) Q1 E1 s1)
    (hq : ∀ h' tk e d, OMade f s.heap h' e C d v → R (.ok (.ret (.ref e))) { s with heap := h', toks := tk }) :
    codeAny (model prog w) A (.call (.ref C) ⟨[v], []⟩) R s := by
  obtain ⟨nm, qn, N, bs, bm, sn, sub, ab, col, dd, k0, k1, k2, k3, k5, hC, hbm⟩ := T.cls
  obtain ⟨hp, g, dr, tk, os⟩ := s
  have k : ∀ b o, hp.get? b = some o → ((hp.push (kdv_tup [v])).push (HandSPX.excO C hp.objs.size)).get? b = some o := fun b o e => Heap.get?_push_of_some _ (Heap.get?_push_of_some _ e)
  have hget : ((hp.push (kdv_tup [v])).push (HandSPX.excO C hp.objs.size)).get? (hp.objs.size + 1) = some (HandSPX.excO C hp.objs.size) := by heap_get
  have hnx : K.lookup (hp.objs.size + 1) = none := by
    cases e : K.lookup (hp.objs.size + 1) with
    | none => rfl
    | some o =>
      have z : hp.get? (hp.objs.size + 1) = some o := X _ _ e
      exact absurd (Nat.lt_of_succ_lt (Heap.lt_size z)) (Nat.lt_irrefl _)
  have one : [v].length ≤ sizeLine := by show 1 ≤ sizeLine; decide
  refine HandSPX.call_own F.excBase_ValueError (fun X => HandSPX.refsVE_contains X bm hbm) (X _ _ hC) (looks_findIn X T.iC) (fun self => bind_fn X self T.tC) one ?_
  refine own_init (s := ⟨(hp.push (kdv_tup [v])).push (HandSPX.excO C hp.objs.size), g, dr, tk, os⟩) T B (Frag.In.keeps X k) (hlim.keeps k) hget hnx hroom (hG.keeps k) hgs (hB.keeps k) hbs (he0 _) ?_
  intro h' tk' dx t1 ⟨k', hx, dn, dne, hns⟩
  have old : ∀ b o, hp.get? b = some o → h'.get? b = some o := fun b o e => k' b o (Nat.ne_of_lt (Nat.lt_succ_of_lt (Heap.lt_size e))) (k b o e)
  have z : hp.objs.size + 1 + 1 ≤ dx := by
    first
      | exact dn
      | (have q := dn; rw [Heap.size_push, Heap.size_push] at q; exact q)
  exact ⟨rfl, hq h' tk' (hp.objs.size + 1) dx ⟨old, Nat.le_succ _, ⟨_, _, hx, rfl, rfl, rfl, rfl, rfl⟩, Nat.le_trans (Nat.le_trans (Nat.le_succ _) (Nat.le_succ _)) z, dne, hns⟩⟩
end
end MiX
end PySem
namespace Mi
open PySem PySem.Spec PyProof.Rows L2
theorem relO_one {f : Str} {v : V} {v' : Value} (r : RelV v v') (y : Str) : RelO (List.lookup y [(f, v)]) (if y = f then some v' else none) := by
  by_cases hw : y = f
  · subst hw
    rw [if_pos rfl, show List.lookup y [(y, v)] = some v by simp [List.lookup]]
    exact r
  · have hb : (y == f) = false := by simpa using hw
    rw [if_neg hw, show List.lookup y [(f, v)] = none by simp [List.lookup, hb]]
    trivial
/-- C(e), C an own exception with one field -/
theorem pmk_one {X : Cx} {a : Expr} {ta : TA} {p pos : Pos} {k : Nat} {x f q pn : Str} {C fI cc cda : Addr} {params : Arguments} {body : List Stmt} {sc : Scope} {e0 : Expr} (T : PySem.MiX.OwnT X.prog X.K f C fI cc cda q pn params body sc) (B : PySem.MiX.OwnB X.prog f q pn params body sc e0)
    (gC : X.mg x = some (.ref C)) (gS : X.mg "super" = none) (hr : Room k X.A) (ha : PA X [a] ta) (hg : Gl X x) (hdb : (x == ("__debug__" : Str)) = false) (hn : notStar a = true) {P : V → Prop}
    (he0 : ∀ (v : V) (u : Value), P v → RelV v u → ∀ (xa : Addr) (env : PySem.Env) (s1 : Shared) (E1 : Value → Shared → Prop) (A1 : Around) (Q1 : Value → Shared → Prop), env.scope.kind = .function → env.kindOf pn = some .local → s1.heap.Ns env.locals (fun y => ([(pn, u), (("self" : Str), Value.ref xa)] : List (Str × Value)).lookup y) → (∀ u tk, Q1 u { s1 with toks := tk }) → wpAny (model X.prog X.w) A1 (eval e0 env) Q1 E1 s1) :
    L2N.PMk X (.Call (.Name x p) [a] [] pos) (fun σ H Q => ta σ H fun vs H1 => ∃ v, vs = [v] ∧ P v ∧ ∀ d, H1 d = none → Q (.ref C) (some d) (upd H1 d (.xd [(f, v)]))) := by
  intro pins s σ H Q I h
  refine wpAny_Call_Name_kw (ld_glob I hg gC ?_ hdb)
  refine PySem.W.callWith_K (h₀ := X.base) I.ok.mod.kin T.kC (thn (ha.run pos pins s σ H _ I h) fun us s1 hh => ?_) (star_of hn [] X.env) rfl
  obtain ⟨vs, H1, I1, r1, v, ev, pv, q1⟩ := hh
  subst ev
  refine ⟨I1.kIn, ?_⟩
  cases r1 with
  | cons rv rn =>
    rename_i v' us'
    cases rn
    show wpAny _ _ (call (.ref C) [v']) _ _ _
    have hlim := I1.nolimit
    have hG : s1.heap.Ns mainGlobals X.mg := I1.mod.glob.keeps I1.bk
    obtain ⟨mb, hb1, hb2⟩ := I1.mod.blt
    have hB : s1.heap.Ns builtinsNs mb := hb1.keeps I1.bk
    obtain ⟨hp, g, dr, tk, os⟩ := s1
    refine wpAny_call (PySem.MiX.own_made T B I1.kIn hlim (by have := hr.dp; omega) hG gS hB ((hb2 _ (by decide)).trans (by decide +kernel)) (he0 v v' pv rv) fun h' tk' e d M => ?_)
    show L2N.MkP X pins σ Q (.ref e) ⟨h', g, dr, tk', os⟩
    obtain ⟨oe, fv, hoe, hc, hd, hdat, h1, h2⟩ := M.obj
    have hns := M.ns
    obtain ⟨G', g1, g2⟩ := restrict h' fun b => decide (b ≠ e)
    have gk : ∀ b, b ≠ e → G'.get? b = h'.get? b := fun b hb => g1 b (decide_eq_true hb)
    have ge : G'.get? e = none := g2 e (by simp)
    have old : ∀ b o, hp.get? b = some o → G'.get? b = some o := fun b o q => (gk b (Nat.ne_of_lt (Nat.lt_of_lt_of_le (Heap.lt_size q) M.new))).trans (M.keep b o q)
    have ob : ObjOk X.prog X.w (upd H1 d (.xd [(f, v)])) G' d (.xd [(f, v)]) := ⟨_, hns.at (fun o q => (gk d M.dne).trans q), fun y => relO_one rv y⟩
    have J : Inv X pins σ (upd H1 d (.xd [(f, v)])) ⟨G', g, dr, tk', os⟩ := I1.laid (t' := tk') old M.dbig ob
    refine ⟨e, oe, fv, ⟨G', g, dr, tk', os⟩, _, .ref C, some d, rfl, J, fun b o q => ?_, ge, hoe, ⟨hc, hd, fun vs hv => by rw [hdat] at hv; cases hv; exact h2⟩, hdat, h1, ?_, rfl, I1.bare, raises_own T.exC T.tyC, q1 d (I1.hok.fresh M.dbig)⟩
    · by_cases hb : b = e
      · have q' : G'.get? b = some o := q
        rw [hb, ge] at q'
        cases q'
      · exact (gk b hb).symm.trans q
    · rw [upd_ne (Ne.symm M.dne)]
      exact I1.hok.fresh M.new
end Mi


set_option Elab.async false
set_option linter.all false
set_option maxRecDepth 100000
/-! MiQ: the interpreter's steps without the text: combinators that a tool prints, one def each. -/
namespace Mi
open PySem
def V (m : EM (D × Bool)) : EM D := EM.bind m fun d => EM.pure d.1
def kE (d : D) : EM (D × Bool) := fun _ T => .ok (d, false) T
def seqL : List (EM D) → EM (List D)
  | [] => EM.pure []
  | m :: ms => EM.bind m fun d => EM.bind (seqL ms) fun ds => EM.pure (d :: ds)
def binE (op : Operator) (a b : EM D) : EM (D × Bool) := EM.bind a fun x => EM.bind b fun y => EM.bind (EM.lift (binD op x y)) fun d => EM.pure (d, isLst d)
def negE (a : EM D) : EM (D × Bool) := EM.bind a fun x => match x with
  | .int i => EM.pure (.int (-i), false)
  | _ => EM.bad
def notE (a : EM D) : EM (D × Bool) := EM.bind a fun x => EM.bind (EM.lift (truD x)) fun b => EM.pure (.bl (!b), false)
def andE : List (EM D) → EM (D × Bool)
  | [] => EM.bad
  | [m] => EM.bind m fun d => EM.pure (d, false)
  | m :: ms => EM.bind m fun d => EM.bind (EM.lift (truD d)) fun b => if b then andE ms else EM.pure (d, false)
def orE : List (EM D) → EM (D × Bool)
  | [] => EM.bad
  | [m] => EM.bind m fun d => EM.pure (d, false)
  | m :: ms => EM.bind m fun d => EM.bind (EM.lift (truD d)) fun b => if b then EM.pure (d, false) else orE ms
def cmpE (op : CmpOp) (a b : EM D) : EM Bool := EM.bind a fun x => EM.bind b fun y => EM.lift (cmpD op x y)
def chE (op op2 : CmpOp) (a b c : EM D) : EM Bool := EM.bind a fun x => EM.bind b fun y => EM.bind (EM.lift (cmpD op x y)) fun k =>
  if k then EM.bind c fun z => EM.lift (cmpD op2 y z) else EM.pure false
def blE (m : EM Bool) : EM (D × Bool) := EM.bind m fun k => EM.pure (.bl k, false)
def ifE (t : EM Bool) (a b : EM (D × Bool)) : EM (D × Bool) := EM.bind t fun t => if t then a else b
def tupE (ms : List (EM D)) : EM (D × Bool) := EM.bind (seqL ms) fun ds => if fits ds.length then EM.pure (.tup ds, false) else EM.bad
def lstE (ms : List (EM D)) : EM (D × Bool) := EM.bind (seqL ms) fun ds => if fits ds.length then EM.pure (.lst ds, true) else EM.bad
def oN : EM (Option Int) := EM.pure none
def oS (m : EM D) : EM (Option Int) := EM.bind m fun d => match d with
  | .int i => EM.pure (some i)
  | _ => EM.bad
def slE (a : EM D) (l h : EM (Option Int)) : EM (D × Bool) := EM.bind a fun x => EM.bind l fun l => EM.bind h fun h => EM.bind (EM.lift (sliceD x l h)) fun d => EM.pure (d, isLst d)
def ixE (a i : EM D) : EM (D × Bool) := EM.bind a fun x => EM.bind i fun j => EM.bind (itemM x j) fun d => EM.pure (d, false)
def callC (C : CallT) (f : Str) (ms : List (EM D)) : EM (D × Bool) := EM.bind (seqL ms) fun ds _ T => C f ds T
def isiE (t : Str) (a : EM D) : EM (D × Bool) := EM.bind a fun d => if noObj d then EM.bind (EM.lift (isiD t d)) fun b => EM.pure (.bl b, false) else EM.bad
def lenE (a : EM D) : EM (D × Bool) := EM.bind a fun d => EM.bind (lenM d) fun k => EM.pure (k, false)
def listE (a : EM D) : EM (D × Bool) := EM.bind a fun d => listM d
def listRgE (a : EM D) : EM (D × Bool) := EM.bind a fun d => match d with
  | .int j => if small62 j && decide (j ≤ 16777216) then EM.pure (.lst (rangeD 0 j.toNat), true) else EM.bad
  | _ => EM.bad
def bltE (f : Str) (a : EM D) : EM (D × Bool) := EM.bind a fun d => EM.lift (bltD f [d])
def twoE (f : Str) (ms : List (EM D)) : EM (D × Bool) := EM.bind (seqL ms) fun ds => EM.bind (EM.lift (blt2 f ds)) fun d => EM.pure (d, false)
def revE (a : EM D) : EM (D × Bool) := EM.bind a fun x => EM.bind (EM.lift (backD x)) fun d => EM.pure (d, isLst d)
/-! ### what is walked, targets -/
def itR1 (a : EM D) : EM (List D) := EM.bind a fun d => match d with
  | .int j => if small62 j then EM.pure (rangeD 0 j.toNat) else EM.bad
  | _ => EM.bad
def itR2 (a b : EM D) : EM (List D) := EM.bind a fun d => EM.bind b fun d2 => match d, d2 with
  | .int i, .int j => if small62 i && small62 j then EM.pure (rangeD i (j - i).toNat) else EM.bad
  | _, _ => EM.bad
def itEn (a : EM D) : EM (List D) := EM.bind a fun d => match d with
  | .lst ds => EM.pure (enumFrom 0 ds)
  | _ => EM.bad
def itRv (a : EM D) : EM (List D) := EM.bind a fun d => match d with
  | .lst ds => EM.pure ds.reverse
  | .tup ds => EM.pure ds.reverse
  | _ => EM.bad
def itX (a : EM D) : EM (List D) := EM.bind a fun d => itemsM d
def bindIs : List Nat → List D → Env → Option Env
  | [], [], σ => some σ
  | i :: is, d :: ds, σ => bindIs is ds (σ.set i (.fz d))
  | _, _, _ => none
def tgN (i : Nat) : D → Env → Option Env := fun d σ => some (σ.set i (.fz d))
def tgT (is : List Nat) : D → Env → Option Env := fun d σ => match d with
  | .tup ds => bindIs is ds σ
  | .lst ds => bindIs is ds σ
  | _ => none
def lcM (tg : D → Env → Option Env) (tst : EM Bool) (el : EM D) (own : List Nat) (it : EM (List D)) : EM (D × Bool) :=
  EM.bind it fun items σ T => (lcLoop tg tst el (wipeE σ own) items [] T).bind fun ds T1 => .ok (.lst ds, true) T1
/-! ### tests -/
def tAllE : List (EM Bool) → EM Bool
  | [] => EM.pure true
  | m :: ms => EM.bind m fun b => if b then tAllE ms else EM.pure false
def tAnyE : List (EM Bool) → EM Bool
  | [] => EM.pure false
  | m :: ms => EM.bind m fun b => if b then EM.pure true else tAnyE ms
def tNotE (m : EM Bool) : EM Bool := EM.bind m fun b => EM.pure (!b)
def truE (a : EM D) : EM Bool := EM.bind a fun x => EM.lift (truD x)
def yesE : EM Bool := EM.pure true
/-! ### statements -/
def sNx : SM := fun σ T => .nx σ T
def sSeq : List SM → SM
  | [] => fun σ T => .nx σ T
  | m :: ms => fun σ T => (m σ T).seq (sSeq ms)
def sRetN : SM := fun _ T => .rt .non false T
def sRetV (i : Nat) : SM := fun σ T => match σ[i]? with
  | some (.fz d) => .rt d false T
  | some (.ow d) => .rt d true T
  | _ => .bad
def sRet (m : EM (D × Bool)) : SM := fun σ T => (m σ T).then_ σ fun d T1 => .rt d.1 d.2 T1
def putI (i : Nat) (d : D) (fl : Bool) : SM := fun σ T => .nx (σ.set i (if fl then .ow d else .fz d)) T
def putR (i : Nat) (d : D) (fl : Bool) : SM := fun σ T => match d, fl with
  | .lst ds, true => .nx (σ.set i (.fz (.obj T.length))) (T ++ [.lst ds])
  | _, _ => .bad
def sSet (i : Nat) (m : EM (D × Bool)) : SM := fun σ T => (m σ T).then_ σ fun d T1 => putI i d.1 d.2 σ T1
def sSetR (i : Nat) (m : EM (D × Bool)) : SM := fun σ T => (m σ T).then_ σ fun d T1 => putR i d.1 d.2 σ T1
def isOwI (i : Nat) (σ : Env) : Bool := match σ[i]? with
  | some (.ow (.lst _)) => true
  | _ => false
def mutI (i : Nat) (m : Str) (ds : List D) (k : D → SM) : SM := fun σ T => match σ[i]? with
  | some (.ow (.lst xs)) => (match mutD m xs ds with
    | some (ys, r) => k r (σ.set i (.ow (.lst ys))) T
    | none => .bad)
  | _ => .bad
def sMut (i : Nat) (m : Str) (as : List (EM D)) (k : D → SM) : SM := fun σ T => if isOwI i σ then (seqL as σ T).then_ σ fun ds T1 => mutI i m ds k σ T1 else .bad
def sExt (i : Nat) (a : EM D) (k : D → SM) : SM := fun σ T => if isOwI i σ then (a σ T).then_ σ fun d T1 => mutI i "extend" [d] k σ T1 else .bad
def sMut2 (i j : Nat) (m2 : Str) (as : List (EM D)) : SM := fun σ T => if isOwI i σ then sMut j m2 as (fun r σ1 T1 => mutI i "append" [r] (fun _ σ T => .nx σ T) σ1 T1) σ T else .bad
def sTg (tg : D → Env → Option Env) (m : EM D) : SM := fun σ T => (m σ T).then_ σ fun d T1 => (match tg d σ with
  | some σ1 => .nx σ1 T1
  | none => .bad)
def sSub (k : Nat) (ix e : EM D) : SM := fun σ T => if isHere k σ then (e σ T).then_ σ fun d T1 => (ix σ T1).then_ σ fun j T2 => setM k j d σ T2 else .bad
def sAug (i : Nat) (op : Operator) (e : EM D) : SM := fun σ T => match σ[i]? with
  | some (.fz d) => (e σ T).then_ σ fun y T1 => (match augD op d y with
    | some z => .nx (σ.set i (.fz z)) T1
    | none => .bad)
  | _ => .bad
def sExp (m : EM (D × Bool)) : SM := fun σ T => (m σ T).then_ σ fun _ T1 => .nx σ T1
def sIf (t : EM Bool) (a b : SM) : SM := fun σ T => (t σ T).then_ σ fun k T1 => if k then a σ T1 else b σ T1
def sFor (tg : D → Env → Option Env) (it : EM (List D)) (body : SM) : SM := fun σ T => (it σ T).then_ σ fun ds T1 => forLoop tg body ds σ T1
def sWh (t : EM Bool) (body : SM) : SM := whileLoop t body loopFuel
def sRaise (EI : Ei) (x : Str) (as : List (EM D)) : SM := fun σ T => (seqL as σ T).then_ σ fun ds T1 => (match EI.mkX x ds with
  | some e => .ex e σ T1
  | none => .bad)
def sFrz (is : List Nat) (m : SM) : SM := fun σ T => m (is.foldl (fun σ i => match σ[i]? with
  | some s => σ.set i (frzS s)
  | none => σ) σ) T
end Mi


set_option Elab.async false
set_option linter.all false
set_option maxRecDepth 100000
/-! MiR: the shallow interpreter evaluated by simp; loops by invariants. -/
namespace Mi
open PySem
section
variable {α β γ : Type}
@[simp] theorem bind_ok (a : α) (T : Sto) (f : α → Sto → Res β) : Res.bind (.ok a T) f = f a T := (rfl)
@[simp] theorem bind_ex (x : Xn) (T : Sto) (f : α → Sto → Res β) : Res.bind (.ex x T) f = .ex x T := (rfl)
@[simp] theorem then_ok (a : α) (T : Sto) (σ : Env) (f : α → Sto → RS) : Res.then_ (.ok a T) σ f = f a T := (rfl)
@[simp] theorem then_ex (x : Xn) (T : Sto) (σ : Env) (f : α → Sto → RS) : Res.then_ (.ex x T) σ f = .ex x σ T := (rfl)
@[simp] theorem seq_nx (σ : Env) (T : Sto) (f : Env → Sto → RS) : RS.seq (.nx σ T) f = f σ T := (rfl)
@[simp] theorem seq_rt (d : D) (b : Bool) (T : Sto) (f : Env → Sto → RS) : RS.seq (.rt d b T) f = .rt d b T := (rfl)
@[simp] theorem seq_ex (x : Xn) (σ : Env) (T : Sto) (f : Env → Sto → RS) : RS.seq (.ex x σ T) f = .ex x σ T := (rfl)
def kap (f : α → EM β) (σ : Env) : α → Sto → Res β := fun a T => f a σ T
@[simp] theorem ev_kap (f : α → EM β) (σ : Env) (a : α) (T : Sto) : kap f σ a T = f a σ T := (rfl)
@[simp] theorem ev_bind (m : EM α) (f : α → EM β) (σ : Env) (T : Sto) : EM.bind m f σ T = Res.bind (m σ T) (kap f σ) := (rfl)
def kas (f : α → SM) (σ : Env) : α → Sto → RS := fun a T => f a σ T
@[simp] theorem ev_kas (f : α → SM) (σ : Env) (a : α) (T : Sto) : kas f σ a T = f a σ T := (rfl)
def thenS (m : EM α) (f : α → SM) : SM := fun σ T => (m σ T).then_ σ fun a T1 => f a σ T1
@[simp] theorem ev_thenS (m : EM α) (f : α → SM) (σ : Env) (T : Sto) : thenS m f σ T = Res.then_ (m σ T) σ (kas f σ) := (rfl)
@[simp] theorem ev_pure (a : α) (σ : Env) (T : Sto) : EM.pure a σ T = .ok a T := (rfl)
@[simp] theorem ev_lift (a : α) (σ : Env) (T : Sto) : EM.lift (some a) σ T = .ok a T := (rfl)
@[simp] theorem ev_V (m : EM (D × Bool)) (σ : Env) (T : Sto) : V m σ T = EM.bind m (fun d => EM.pure d.1) σ T := (rfl)
@[simp] theorem ev_kE (d : D) (σ : Env) (T : Sto) : kE d σ T = .ok (d, false) T := (rfl)
def vGet : Option Sl → Sto → Res (D × Bool)
  | some (.fz d), T => .ok (d, false) T
  | _, _ => .bad
def pGet : Option Sl → Sto → Res D
  | some (.fz d), T => .ok d T
  | some (.ow d), T => .ok d T
  | _, _ => .bad
@[simp] theorem ev_vVar (i : Nat) (σ : Env) (T : Sto) : vVar i σ T = vGet σ[i]? T := by
  unfold vVar vGet
  split <;> simp_all
@[simp] theorem ev_pVar (i : Nat) (σ : Env) (T : Sto) : pVar i σ T = pGet σ[i]? T := by
  unfold pVar pGet
  split <;> simp_all

end
/-! ### expressions -/
section
variable {α β γ : Type} {σ : Env} {T : Sto}
def iteM {α : Type} (k : Bool) (a b : EM α) : EM α := if k then a else b
@[simp] theorem iteM_t (a b : EM α) : iteM true a b = a := (rfl)
@[simp] theorem iteM_f (a b : EM α) : iteM false a b = b := (rfl)
def lcK (tg : D → Env → Option Env) (tst : EM Bool) (el : EM D) (σ : Env) : List D → Sto → Res (D × Bool) := fun items T => (lcLoop tg tst el σ items [] T).bind fun ds T1 => .ok (.lst ds, true) T1
theorem lcK_ok {tg : D → Env → Option Env} {tst : EM Bool} {el : EM D} {items ds : List D} {T1 : Sto} (h : lcLoop tg tst el σ items [] T = .ok ds T1) : lcK tg tst el σ items T = .ok (.lst ds, true) T1 := by
  unfold lcK
  rw [h]
  rfl
@[simp] theorem ev_seqN : seqL [] σ T = .ok [] T := (rfl)
@[simp] theorem ev_seqC (m : EM D) (ms : List (EM D)) : seqL (m :: ms) σ T = EM.bind m (fun d => EM.bind (seqL ms) fun ds => EM.pure (d :: ds)) σ T := (rfl)
@[simp] theorem ev_binE (op : Operator) (a b : EM D) : binE op a b σ T = EM.bind a (fun x => EM.bind b fun y => EM.bind (EM.lift (binD op x y)) fun d => EM.pure (d, isLst d)) σ T := (rfl)
def negM (x : D) : EM (D × Bool) := match x with
  | .int i => EM.pure (.int (-i), false)
  | _ => EM.bad
@[simp] theorem ev_negE (a : EM D) : negE a σ T = EM.bind a negM σ T := (rfl)
@[simp] theorem ev_negM (i : Int) : negM (.int i) σ T = .ok (.int (-i), false) T := (rfl)
@[simp] theorem ev_notE (a : EM D) : notE a σ T = EM.bind a (fun x => EM.bind (EM.lift (truD x)) fun b => EM.pure (.bl (!b), false)) σ T := (rfl)
@[simp] theorem ev_and1 (m : EM D) : andE [m] σ T = EM.bind m (fun d => EM.pure (d, false)) σ T := (rfl)
@[simp] theorem ev_and2 (m m2 : EM D) (ms : List (EM D)) : andE (m :: m2 :: ms) σ T = EM.bind m (fun d => EM.bind (EM.lift (truD d)) fun b => iteM b (andE (m2 :: ms)) (EM.pure (d, false))) σ T := (rfl)
@[simp] theorem ev_cmpE (op : CmpOp) (a b : EM D) : cmpE op a b σ T = EM.bind a (fun x => EM.bind b fun y => EM.lift (cmpD op x y)) σ T := (rfl)
@[simp] theorem ev_chE (op op2 : CmpOp) (a b c : EM D) : chE op op2 a b c σ T = EM.bind a (fun x => EM.bind b fun y => EM.bind (EM.lift (cmpD op x y)) fun k => iteM k (EM.bind c fun z => EM.lift (cmpD op2 y z)) (EM.pure false)) σ T := (rfl)
@[simp] theorem ev_blE (m : EM Bool) : blE m σ T = EM.bind m (fun k => EM.pure (.bl k, false)) σ T := (rfl)
@[simp] theorem ev_ifE (t : EM Bool) (a b : EM (D × Bool)) : ifE t a b σ T = EM.bind t (fun k => iteM k a b) σ T := (rfl)
def tupM (ds : List D) : EM (D × Bool) := if fits ds.length then EM.pure (.tup ds, false) else EM.bad
def lstM (ds : List D) : EM (D × Bool) := if fits ds.length then EM.pure (.lst ds, true) else EM.bad
@[simp] theorem ev_tupE (ms : List (EM D)) : tupE ms σ T = EM.bind (seqL ms) tupM σ T := (rfl)
@[simp] theorem ev_lstE (ms : List (EM D)) : lstE ms σ T = EM.bind (seqL ms) lstM σ T := (rfl)
@[simp] theorem ev_tupM {ds : List D} (h : ds.length ≤ 16777216) : tupM ds σ T = .ok (.tup ds, false) T := by
  unfold tupM fits
  rw [if_pos (decide_eq_true h)]
  rfl
@[simp] theorem ev_lstM {ds : List D} (h : ds.length ≤ 16777216) : lstM ds σ T = .ok (.lst ds, true) T := by
  unfold lstM fits
  rw [if_pos (decide_eq_true h)]
  rfl
@[simp] theorem ev_oN : oN σ T = .ok none T := (rfl)
def oSM (d : D) : EM (Option Int) := match d with
  | .int i => EM.pure (some i)
  | _ => EM.bad
@[simp] theorem ev_oS (m : EM D) : oS m σ T = EM.bind m oSM σ T := (rfl)
@[simp] theorem ev_oSM (i : Int) : oSM (.int i) σ T = .ok (some i) T := (rfl)
@[simp] theorem ev_slE (a : EM D) (l h : EM (Option Int)) : slE a l h σ T = EM.bind a (fun x => EM.bind l fun l => EM.bind h fun h => EM.bind (EM.lift (sliceD x l h)) fun d => EM.pure (d, isLst d)) σ T := (rfl)
@[simp] theorem ev_ixE (a i : EM D) : ixE a i σ T = EM.bind a (fun x => EM.bind i fun j => EM.bind (itemM x j) fun d => EM.pure (d, false)) σ T := (rfl)
@[simp] theorem ev_callC (C : CallT) (f : Str) (ms : List (EM D)) : callC C f ms σ T = Res.bind (seqL ms σ T) (C f) := (rfl)
def isiM (t : Str) (d : D) : EM (D × Bool) := if noObj d then EM.bind (EM.lift (isiD t d)) fun b => EM.pure (.bl b, false) else EM.bad
@[simp] theorem ev_isiE (t : Str) (a : EM D) : isiE t a σ T = EM.bind a (isiM t) σ T := (rfl)
def D.isTup : D → Bool
  | .tup _ => true
  | _ => false
def D.isInt : D → Bool
  | .int _ => true
  | .bl _ => true
  | _ => false
def D.isBl : D → Bool
  | .bl _ => true
  | _ => false
theorem isi_of {t : Str} {d : D} {b : Bool} (hn : noObj d = true) (h : isiD t d = some b) : isiM t d σ T = .ok (.bl b, false) T := by
  unfold isiM
  rw [if_pos hn, h]
  rfl
@[simp] theorem ev_isiTup (d : D) (hn : noObj d = true) : isiM "tuple" d σ T = .ok (.bl d.isTup, false) T := isi_of hn (by cases d <;> rfl)
@[simp] theorem ev_isiInt (d : D) (hn : noObj d = true) : isiM "int" d σ T = .ok (.bl d.isInt, false) T := isi_of hn (by cases d <;> rfl)
@[simp] theorem ev_isiBl (d : D) (hn : noObj d = true) : isiM "bool" d σ T = .ok (.bl d.isBl, false) T := isi_of hn (by cases d <;> rfl)
@[simp] theorem ev_lenE (a : EM D) : lenE a σ T = EM.bind a (fun d => EM.bind (lenM d) fun k => EM.pure (k, false)) σ T := (rfl)
@[simp] theorem ev_lenT (ds : List D) : lenM (.tup ds) σ T = .ok (.int ds.length) T := (rfl)
@[simp] theorem ev_lenL (ds : List D) : lenM (.lst ds) σ T = .ok (.int ds.length) T := (rfl)
@[simp] theorem ev_listE (a : EM D) : listE a σ T = EM.bind a listM σ T := (rfl)
@[simp] theorem ev_listL (ds : List D) : listM (.lst ds) σ T = .ok (.lst ds, true) T := (rfl)
@[simp] theorem ev_listT (ds : List D) : listM (.tup ds) σ T = .ok (.lst ds, true) T := (rfl)
def lrgM (d : D) : EM (D × Bool) := match d with
  | .int j => if small62 j && decide (j ≤ 16777216) then EM.pure (.lst (rangeD 0 j.toNat), true) else EM.bad
  | _ => EM.bad
@[simp] theorem ev_listRgE (a : EM D) : listRgE a σ T = EM.bind a lrgM σ T := (rfl)
@[simp] theorem ev_lrgM (n : Nat) (h : n ≤ 16777216) : lrgM (.int n) σ T = .ok (.lst (rangeD 0 n), true) T := by
  unfold lrgM
  have e : (small62 (n : Int) && decide ((n : Int) ≤ 16777216)) = true := by
    unfold small62
    simp
    omega
  simp only [e, if_true, Int.toNat_natCast]
  rfl
theorem ev_lrgI {i : Int} (h0 : 0 ≤ i) (h : i ≤ 16777216) : lrgM (.int i) σ T = .ok (.lst (rangeD 0 i.toNat), true) T := by
  obtain ⟨n, rfl⟩ := Int.eq_ofNat_of_zero_le h0
  exact ev_lrgM n (by omega)
@[simp] theorem ev_bltE (f : Str) (a : EM D) : bltE f a σ T = EM.bind a (fun d => EM.lift (bltD f [d])) σ T := (rfl)
@[simp] theorem blt_abs (i : Int) : bltD "abs" [.int i] = some (.int (if i < 0 then -i else i), false) := (rfl)
@[simp] theorem blt_int (i : Int) : bltD "int" [.int i] = some (.int i, false) := (rfl)
@[simp] theorem blt_tupL (ds : List D) : bltD "tuple" [.lst ds] = some (.tup ds, false) := (rfl)
@[simp] theorem blt_tupT (ds : List D) : bltD "tuple" [.tup ds] = some (.tup ds, false) := (rfl)
theorem boolsOf_map : ∀ bs : List Bool, boolsOf (bs.map .bl) = some bs
  | [] => rfl
  | b :: bs => by
    show (boolsOf (bs.map .bl)).map (b :: ·) = _
    rw [boolsOf_map bs]
    rfl
@[simp] theorem blt_all (bs : List Bool) : bltD "all" [.lst (bs.map .bl)] = some (.bl (bs.all id), false) := by
  show (boolsOf (bs.map .bl)).map _ = _
  rw [boolsOf_map]
  rfl
@[simp] theorem blt_any (bs : List Bool) : bltD "any" [.lst (bs.map .bl)] = some (.bl (bs.any id), false) := by
  show (boolsOf (bs.map .bl)).map _ = _
  rw [boolsOf_map]
  rfl
/-! what is walked -/
def r1M (d : D) : EM (List D) := match d with
  | .int j => if small62 j then EM.pure (rangeD 0 j.toNat) else EM.bad
  | _ => EM.bad
@[simp] theorem ev_itR1 (a : EM D) : itR1 a σ T = EM.bind a r1M σ T := (rfl)
@[simp] theorem ev_r1M (n : Nat) (h : n ≤ 16777216) : r1M (.int n) σ T = .ok (rangeD 0 n) T := by
  unfold r1M
  have e : small62 (n : Int) = true := by
    unfold small62
    simp
    omega
  simp only [e, if_true, Int.toNat_natCast]
  rfl
theorem ev_r1I {i : Int} (h0 : 0 ≤ i) (h : i ≤ 16777216) : r1M (.int i) σ T = .ok (rangeD 0 i.toNat) T := by
  obtain ⟨n, rfl⟩ := Int.eq_ofNat_of_zero_le h0
  exact ev_r1M n (by omega)
@[simp] theorem ev_itX (a : EM D) : itX a σ T = EM.bind a itemsM σ T := (rfl)
@[simp] theorem ev_itemsT (ds : List D) : itemsM (.tup ds) σ T = .ok ds T := (rfl)
@[simp] theorem ev_itemsL (ds : List D) : itemsM (.lst ds) σ T = .ok ds T := (rfl)
@[simp] theorem ev_lcM (tg : D → Env → Option Env) (tst : EM Bool) (el : EM D) (own : List Nat) (it : EM (List D)) : lcM tg tst el own it σ T = Res.bind (it σ T) (lcK tg tst el (wipeE σ own)) := (rfl)
/-! tests -/
@[simp] theorem ev_tAllN : tAllE [] σ T = .ok true T := (rfl)
@[simp] theorem ev_tAllC (m : EM Bool) (ms : List (EM Bool)) : tAllE (m :: ms) σ T = EM.bind m (fun b => iteM b (tAllE ms) (EM.pure false)) σ T := (rfl)
@[simp] theorem ev_tAnyN : tAnyE [] σ T = .ok false T := (rfl)
@[simp] theorem ev_tAnyC (m : EM Bool) (ms : List (EM Bool)) : tAnyE (m :: ms) σ T = EM.bind m (fun b => iteM b (EM.pure true) (tAnyE ms)) σ T := (rfl)
@[simp] theorem ev_tNotE (m : EM Bool) : tNotE m σ T = EM.bind m (fun b => EM.pure (!b)) σ T := (rfl)
@[simp] theorem ev_truE (a : EM D) : truE a σ T = EM.bind a (fun x => EM.lift (truD x)) σ T := (rfl)
@[simp] theorem ev_yesE : yesE σ T = .ok true T := (rfl)
@[simp] theorem tru_bl (b : Bool) : truD (.bl b) = some b := (rfl)
@[simp] theorem tru_int (i : Int) : truD (.int i) = some (i != 0) := (rfl)
@[simp] theorem tru_tup (ds : List D) : truD (.tup ds) = some (!ds.isEmpty) := (rfl)
@[simp] theorem tru_lst (ds : List D) : truD (.lst ds) = some (!ds.isEmpty) := (rfl)
@[simp] theorem cmp_eqI (i j : Int) : cmpD .Eq (.int i) (.int j) = some (decide (i = j)) := (rfl)
@[simp] theorem cmp_neI (i j : Int) : cmpD .NotEq (.int i) (.int j) = some (!decide (i = j)) := (rfl)
@[simp] theorem cmp_ltI (i j : Int) : cmpD .Lt (.int i) (.int j) = some (decide (i < j)) := (rfl)
@[simp] theorem cmp_leI (i j : Int) : cmpD .LtE (.int i) (.int j) = some (decide (i ≤ j)) := (rfl)
@[simp] theorem cmp_gtI (i j : Int) : cmpD .Gt (.int i) (.int j) = some (decide (j < i)) := (rfl)
@[simp] theorem cmp_geI (i j : Int) : cmpD .GtE (.int i) (.int j) = some (decide (j ≤ i)) := (rfl)
@[simp] theorem cmp_isN (d : D) : cmpD .Is d .non = some (match d with | .non => true | _ => false) := by cases d <;> rfl
@[simp] theorem cmp_isntB (a b : Bool) : cmpD .IsNot (.bl a) (.bl b) = some (!decide (a = b)) := (rfl)
@[simp] theorem bin_addI (i j : Int) : binD .Add (.int i) (.int j) = some (.int (i + j)) := (rfl)
@[simp] theorem bin_subI (i j : Int) : binD .Sub (.int i) (.int j) = some (.int (i - j)) := (rfl)
@[simp] theorem bin_modI (i j : Int) (h : 0 < j) : binD .Mod (.int i) (.int j) = some (.int (i % j)) := by
  show (if decide (0 < j) then _ else _) = _
  rw [if_pos (decide_eq_true h)]
theorem log2_lt {n k : Nat} (h : n < 2 ^ k) (hk : 0 < k) : n.log2 < k := by
  by_cases h0 : n = 0
  · subst h0
    simpa using hk
  · exact (Nat.log2_lt h0).mpr h
theorem small_log {i : Int} (h : i.natAbs < 2 ^ 100) : i.natAbs.log2 < 100 := log2_lt h (by decide)
@[simp] theorem bin_divI (i j : Int) (h : 0 < j) (h2 : j < 1267650600228229401496703205376) : binD .FloorDiv (.int i) (.int j) = some (.int (i / j)) := by
  show (if decide (0 < j) && decide (j.natAbs.log2 < 9000) then _ else _) = _
  have e : j.natAbs.log2 < 9000 := Nat.lt_trans (small_log (i := j) (by omega)) (by decide)
  simp only [h, e, decide_true, Bool.and_self, if_true]
@[simp] theorem bin_mulI (i j : Int) (h0 : 0 ≤ i) (h : i < 1267650600228229401496703205376) (h2 : 0 ≤ j) (h3 : j < 1267650600228229401496703205376) : binD .Mult (.int i) (.int j) = some (.int (i * j)) := by
  show (if decide (i.natAbs.log2 + j.natAbs.log2 < 1000000) then _ else _) = _
  have e1 := small_log (i := i) (by omega)
  have e2 := small_log (i := j) (by omega)
  rw [if_pos (decide_eq_true (by omega))]
@[simp] theorem isLst_int (i : Int) : isLst (.int i) = false := (rfl)
@[simp] theorem isLst_tup (ds : List D) : isLst (.tup ds) = false := (rfl)
@[simp] theorem isLst_lst (ds : List D) : isLst (.lst ds) = true := (rfl)
@[simp] theorem noObj_int (i : Int) : noObj (.int i) = true := (rfl)
@[simp] theorem noObj_tup (ds : List D) : noObj (.tup ds) = true := (rfl)
@[simp] theorem noObj_lst (ds : List D) : noObj (.lst ds) = true := (rfl)
@[simp] theorem noObj_bl (b : Bool) : noObj (.bl b) = true := (rfl)
@[simp] theorem noObj_non : noObj .non = true := (rfl)
@[simp] theorem noObj_str (s : Str) : noObj (.str s) = true := (rfl)
@[simp] theorem isTup_tup (ds : List D) : (D.tup ds).isTup = true := (rfl)
@[simp] theorem isInt_int (i : Int) : (D.int i).isInt = true := (rfl)
@[simp] theorem isBl_int (i : Int) : (D.int i).isBl = false := (rfl)
@[simp] theorem isBl_bl (b : Bool) : (D.bl b).isBl = true := (rfl)
/-! items -/
theorem ixD_nat {n i : Nat} (h : i < n) : ixD n (i : Int) = some i := by
  unfold ixD
  rw [if_pos (by omega), if_pos (by omega)]
  simp
theorem itemT {ds : List D} {i : Nat} {d : D} (h : ds[i]? = some d) : itemM (.tup ds) (.int (i : Int)) σ T = .ok d T := by
  have hl : i < ds.length := (List.getElem?_eq_some_iff.mp h).1
  show (match (ixD ds.length (i : Int)).bind (fun j => ds[j]?) with
    | some d => Res.ok d T
    | none => .bad) = _
  rw [ixD_nat hl]
  show (match ds[i]? with
    | some d => Res.ok d T
    | none => .bad) = _
  rw [h]
theorem itemL {ds : List D} {i : Nat} {d : D} (h : ds[i]? = some d) : itemM (.lst ds) (.int (i : Int)) σ T = .ok d T := by
  have hl : i < ds.length := (List.getElem?_eq_some_iff.mp h).1
  show (match (ixD ds.length (i : Int)).bind (fun j => ds[j]?) with
    | some d => Res.ok d T
    | none => .bad) = _
  rw [ixD_nat hl]
  show (match ds[i]? with
    | some d => Res.ok d T
    | none => .bad) = _
  rw [h]
theorem itemTI {ds : List D} {i : Int} {d : D} (h0 : 0 ≤ i) (h : ds[i.toNat]? = some d) : itemM (.tup ds) (.int i) σ T = .ok d T := by
  obtain ⟨n, rfl⟩ := Int.eq_ofNat_of_zero_le h0
  exact itemT (by simpa using h)
theorem itemLI {ds : List D} {i : Int} {d : D} (h0 : 0 ≤ i) (h : ds[i.toNat]? = some d) : itemM (.lst ds) (.int i) σ T = .ok d T := by
  obtain ⟨n, rfl⟩ := Int.eq_ofNat_of_zero_le h0
  exact itemL (by simpa using h)
@[simp] theorem itemT0 (a : D) (ds : List D) : itemM (.tup (a :: ds)) (.int 0) σ T = .ok a T := itemT (i := 0) rfl
@[simp] theorem itemT1 (a b : D) (ds : List D) : itemM (.tup (a :: b :: ds)) (.int 1) σ T = .ok b T := itemT (i := 1) rfl
@[simp] theorem itemL0 (a : D) (ds : List D) : itemM (.lst (a :: ds)) (.int 0) σ T = .ok a T := itemL (i := 0) rfl
@[simp] theorem itemL1 (a b : D) (ds : List D) : itemM (.lst (a :: b :: ds)) (.int 1) σ T = .ok b T := itemL (i := 1) rfl
def itemO (o : Option Ob) (i : D) : EM D := fun _ T => match o with
  | some (.lst ds) => (match itemD (.lst ds) i with
      | some d => .ok d T
      | none => .bad)
  | _ => .bad
@[simp] theorem ev_itemO (n : Nat) (i : D) : itemM (.obj n) i σ T = itemO T[n]? i σ T := (rfl)
@[simp] theorem ev_itemOL (ds : List D) (i : D) : itemO (some (.lst ds)) i σ T = itemM (.lst ds) i σ T := by
  unfold itemO itemM
  rfl
end
/-! ### statements -/
section
variable {σ : Env} {T : Sto}
def iteS (k : Bool) (a b : SM) : SM := if k then a else b
@[simp] theorem iteS_t (a b : SM) : iteS true a b = a := (rfl)
@[simp] theorem iteS_f (a b : SM) : iteS false a b = b := (rfl)
def badS : SM := fun _ _ => .bad
theorem iteS_app (k : Bool) (a b : SM) : iteS k a b σ T = if k = true then a σ T else b σ T := by cases k <;> rfl
def raiseK (o : Option Xn) : SM := fun σ T => match o with
  | some e => .ex e σ T
  | none => .bad
@[simp] theorem raiseK_some (e : Xn) : raiseK (some e) σ T = .ex e σ T := (rfl)
@[simp] theorem ev_sN : sSeq [] σ T = .nx σ T := (rfl)
@[simp] theorem ev_sC (m : SM) (ms : List SM) : sSeq (m :: ms) σ T = (m σ T).seq (sSeq ms) := (rfl)
@[simp] theorem ev_sNx : sNx σ T = .nx σ T := (rfl)
@[simp] theorem ev_sRetN : sRetN σ T = .rt .non false T := (rfl)
def rvG : Option Sl → Sto → RS
  | some (.fz d), T => .rt d false T
  | some (.ow d), T => .rt d true T
  | _, _ => .bad
@[simp] theorem ev_sRetV (i : Nat) : sRetV i σ T = rvG σ[i]? T := by
  unfold sRetV rvG
  split <;> simp_all
@[simp] theorem rvG_fz (d : D) : rvG (some (.fz d)) T = .rt d false T := (rfl)
@[simp] theorem rvG_ow (d : D) : rvG (some (.ow d)) T = .rt d true T := (rfl)
@[simp] theorem vGet_fz (d : D) : vGet (some (.fz d)) T = .ok (d, false) T := (rfl)
@[simp] theorem pGet_fz (d : D) : pGet (some (.fz d)) T = .ok d T := (rfl)
@[simp] theorem pGet_ow (d : D) : pGet (some (.ow d)) T = .ok d T := (rfl)
@[simp] theorem ev_sRet (m : EM (D × Bool)) : sRet m σ T = thenS m (fun d _ T => .rt d.1 d.2 T) σ T := (rfl)
@[simp] theorem ev_putF (i : Nat) (d : D) : putI i d false σ T = .nx (σ.set i (.fz d)) T := (rfl)
@[simp] theorem ev_putO (i : Nat) (d : D) : putI i d true σ T = .nx (σ.set i (.ow d)) T := (rfl)
@[simp] theorem ev_putR (i : Nat) (ds : List D) : putR i (.lst ds) true σ T = .nx (σ.set i (.fz (.obj T.length))) (T ++ [.lst ds]) := (rfl)
@[simp] theorem ev_sSet (i : Nat) (m : EM (D × Bool)) : sSet i m σ T = thenS m (fun d => putI i d.1 d.2) σ T := (rfl)
@[simp] theorem ev_sSetR (i : Nat) (m : EM (D × Bool)) : sSetR i m σ T = thenS m (fun d => putR i d.1 d.2) σ T := (rfl)
def owB : Option Sl → Bool
  | some (.ow (.lst _)) => true
  | _ => false
theorem isOwI_ev (i : Nat) : isOwI i σ = owB σ[i]? := by
  unfold isOwI owB
  rfl
def mutG (o : Option Sl) (i : Nat) (m : Str) (ds : List D) (k : D → SM) : SM := fun σ T => match o with
  | some (.ow (.lst xs)) => (match mutD m xs ds with
    | some (ys, r) => k r (σ.set i (.ow (.lst ys))) T
    | none => .bad)
  | _ => .bad
@[simp] theorem ev_mutI (i : Nat) (m : Str) (ds : List D) (k : D → SM) : mutI i m ds k σ T = mutG σ[i]? i m ds k σ T := (rfl)
theorem mut_app {xs : List D} (h : xs.length < 16777216) (d : D) : mutD "append" xs [d] = some (xs ++ [d], .non) := by
  have e : ∀ r, mutD "append" xs [d] = r → (if decide (xs.length < 16777216) = true then some (xs ++ [d], D.non) else none) = r := fun r h => h
  have e := e _ rfl
  rw [if_pos (decide_eq_true h)] at e
  exact e.symm
@[simp] theorem mutG_app (xs : List D) (h : xs.length < 16777216) (i : Nat) (d : D) (k : D → SM) : mutG (some (.ow (.lst xs))) i "append" [d] k σ T = k .non (σ.set i (.ow (.lst (xs ++ [d])))) T := by
  unfold mutG
  simp only [mut_app h]
theorem mut_pop {xs : List D} {n : Nat} {d : D} (hs : n < 4611686018427387904) (h : xs[n]? = some d) : mutD "pop" xs [.int (n : Int)] = some (xs.eraseIdx n, d) := by
  have hl : n < xs.length := (List.getElem?_eq_some_iff.mp h).1
  have e2 : small62 (n : Int) = true := by
    unfold small62
    simp
    omega
  unfold mutD
  rw [if_neg (by decide), if_neg (by decide), if_pos rfl]
  simp only [e2, if_true, ixD_nat hl, Option.bind, h, Option.map]
def mutG2 (i : Nat) (k : D → SM) (o : Option (List D × D)) : SM := fun σ T => match o with
    | some (ys, r) => k r (σ.set i (.ow (.lst ys))) T
    | none => .bad
theorem mutG_eq (xs : List D) (i : Nat) (m : Str) (ds : List D) (k : D → SM) : mutG (some (.ow (.lst xs))) i m ds k σ T = mutG2 i k (mutD m xs ds) σ T := rfl
theorem mutG_popN {xs : List D} {n : Nat} {d : D} (hs : n < 4611686018427387904) (h : xs[n]? = some d) (i : Nat) (k : D → SM) : mutG (some (.ow (.lst xs))) i "pop" [.int (n : Int)] k σ T = k d (σ.set i (.ow (.lst (xs.eraseIdx n)))) T := by
  rw [mutG_eq, mut_pop hs h]
  rfl
@[simp] theorem ev_sMut (i : Nat) (m : Str) (as : List (EM D)) (k : D → SM) : sMut i m as k σ T = iteS (owB σ[i]?) (thenS (seqL as) fun ds => mutI i m ds k) badS σ T := by
  rw [iteS_app, ← isOwI_ev]
  rfl
@[simp] theorem ev_sMut2 (i j : Nat) (m2 : Str) (as : List (EM D)) : sMut2 i j m2 as σ T = iteS (owB σ[i]?) (sMut j m2 as fun r => mutI i "append" [r] fun _ => sNx) badS σ T := by
  rw [iteS_app, ← isOwI_ev]
  rfl
@[simp] theorem owB_lst (xs : List D) : owB (some (.ow (.lst xs))) = true := (rfl)
def hereB : Option Sl → Bool
  | some (.ow _) => true
  | some (.fz _) => true
  | _ => false
@[simp] theorem hereB_ow (d : D) : hereB (some (.ow d)) = true := (rfl)
@[simp] theorem hereB_fz (d : D) : hereB (some (.fz d)) = true := (rfl)
@[simp] theorem ev_sSub (k : Nat) (ix e : EM D) : sSub k ix e σ T = iteS (hereB σ[k]?) (thenS e fun d => thenS ix fun j => setM k j d) badS σ T := by
  rw [iteS_app]
  rfl
def setG (o : Option Sl) (k : Nat) (i d : D) : SM := fun σ T => match o with
    | some (.ow (.lst xs)) => (match i with
      | .int j => (match ixD xs.length j with
        | some p => .nx (σ.set k (.ow (.lst (xs.set p d)))) T
        | none => .bad)
      | _ => .bad)
    | some (.fz (.obj n)) => (match T[n]?, i with
      | some (.lst xs), .int j => (match ixD xs.length j with
        | some p => .nx σ (T.set n (.lst (xs.set p d)))
        | none => .bad)
      | _, _ => .bad)
    | _ => .bad
@[simp] theorem ev_setM (k : Nat) (i d : D) : setM k i d σ T = setG σ[k]? k i d σ T := (rfl)
theorem setG_ow {xs : List D} {k : Nat} {j : Int} {d : D} (h0 : 0 ≤ j) (h : j < xs.length) : setG (some (.ow (.lst xs))) k (.int j) d σ T = .nx (σ.set k (.ow (.lst (xs.set j.toNat d)))) T := by
  obtain ⟨n, rfl⟩ := Int.eq_ofNat_of_zero_le h0
  show (match ixD xs.length (n : Int) with
        | some p => RS.nx (σ.set k (.ow (.lst (xs.set p d)))) T
        | none => .bad) = _
  rw [ixD_nat (by omega)]
  simp
theorem setG_obj {xs : List D} {k n : Nat} {j : Int} {d : D} (hT : T[n]? = some (.lst xs)) (h0 : 0 ≤ j) (h : j < xs.length) : setG (some (.fz (.obj n))) k (.int j) d σ T = .nx σ (T.set n (.lst (xs.set j.toNat d))) := by
  obtain ⟨m, rfl⟩ := Int.eq_ofNat_of_zero_le h0
  show (match T[n]?, D.int (m : Int) with
      | some (.lst xs), .int j => (match ixD xs.length j with
        | some p => RS.nx σ (T.set n (.lst (xs.set p d)))
        | none => .bad)
      | _, _ => .bad) = _
  rw [hT]
  show (match ixD xs.length (m : Int) with
        | some p => RS.nx σ (T.set n (.lst (xs.set p d)))
        | none => .bad) = _
  rw [ixD_nat (by omega)]
  simp
@[simp] theorem ev_sExp (m : EM (D × Bool)) : sExp m σ T = thenS m (fun _ => sNx) σ T := (rfl)
@[simp] theorem ev_sIf (t : EM Bool) (a b : SM) : sIf t a b σ T = thenS t (fun k => iteS k a b) σ T := by
  show (t σ T).then_ σ _ = (t σ T).then_ σ _
  congr 1
  funext k T1
  cases k <;> rfl
@[simp] theorem ev_sFor (tg : D → Env → Option Env) (it : EM (List D)) (body : SM) : sFor tg it body σ T = thenS it (forLoop tg body) σ T := (rfl)
@[simp] theorem ev_sRaise (EI : Ei) (x : Str) (as : List (EM D)) : sRaise EI x as σ T = thenS (seqL as) (fun ds => raiseK (EI.mkX x ds)) σ T := (rfl)
@[simp] theorem ev_tgN (i : Nat) (d : D) : tgN i d σ = some (σ.set i (.fz d)) := (rfl)
def tgK (tg : D → Env → Option Env) (d : D) : SM := fun σ T => match tg d σ with
  | some σ1 => .nx σ1 T
  | none => .bad
@[simp] theorem ev_sTg (tg : D → Env → Option Env) (m : EM D) : sTg tg m σ T = thenS m (tgK tg) σ T := (rfl)
theorem tgK_some {tg : D → Env → Option Env} {d : D} {σ1 : Env} (h : tg d σ = some σ1) : tgK tg d σ T = .nx σ1 T := by
  unfold tgK
  rw [h]
@[simp] theorem tg2_tup (i j : Nat) (a b : D) : tgT [i, j] (.tup [a, b]) σ = some ((σ.set i (.fz a)).set j (.fz b)) := (rfl)
@[simp] theorem tgK2_tup (i j : Nat) (a b : D) : tgK (tgT [i, j]) (.tup [a, b]) σ T = .nx ((σ.set i (.fz a)).set j (.fz b)) T := (rfl)
end
/-! ### loops -/
section
/-- a for loop that ends, by an invariant -/
theorem for_inv {tg : D → Env → Option Env} {body : SM} (I : List D → Env → Sto → Prop) (step : ∀ d ds σ T, I (d :: ds) σ T → ∃ σ1 σ2 T2, tg d σ = some σ1 ∧ body σ1 T = .nx σ2 T2 ∧ I ds σ2 T2) :
    ∀ ds σ T, I ds σ T → ∃ σ2 T2, forLoop tg body ds σ T = .nx σ2 T2 ∧ I [] σ2 T2
  | [], σ, T, h => ⟨σ, T, rfl, h⟩
  | d :: ds, σ, T, h => by
    obtain ⟨σ1, σ2, T2, e1, e2, h2⟩ := step d ds σ T h
    obtain ⟨σ3, T3, e3, h3⟩ := for_inv I step ds σ2 T2 h2
    refine ⟨σ3, T3, ?_, h3⟩
    unfold forLoop
    rw [e1]
    simp only [e2]
    exact e3
theorem for_then {tg : D → Env → Option Env} {body : SM} {ds : List D} {σ : Env} {T : Sto} {f : Env → Sto → RS} {P : RS → Prop} (I : List D → Env → Sto → Prop) (step : ∀ d ds σ T, I (d :: ds) σ T → ∃ σ1 σ2 T2, tg d σ = some σ1 ∧ body σ1 T = .nx σ2 T2 ∧ I ds σ2 T2)
    (h : I ds σ T) (k : ∀ σ2 T2, I [] σ2 T2 → P (f σ2 T2)) : P ((forLoop tg body ds σ T).seq f) := by
  obtain ⟨σ2, T2, e, h2⟩ := for_inv I step ds σ T h
  rw [e]
  exact k σ2 T2 h2
/-- a for loop that may return -/
theorem for_ret {tg : D → Env → Option Env} {body : SM} (I : List D → Env → Sto → Prop) (P : RS → Prop) (step : ∀ d ds σ T, I (d :: ds) σ T → ∃ σ1, tg d σ = some σ1 ∧ ((∃ σ2 T2, body σ1 T = .nx σ2 T2 ∧ I ds σ2 T2) ∨ (∃ d b T2, body σ1 T = .rt d b T2 ∧ P (.rt d b T2))))
    (fin : ∀ σ T, I [] σ T → P (.nx σ T)) : ∀ ds σ T, I ds σ T → P (forLoop tg body ds σ T)
  | [], σ, T, h => fin σ T h
  | d :: ds, σ, T, h => by
    obtain ⟨σ1, e1, q⟩ := step d ds σ T h
    unfold forLoop
    rw [e1]
    rcases q with ⟨σ2, T2, e2, h2⟩ | ⟨d', b, T2, e2, h2⟩
    · simp only [e2]
      exact for_ret I P step fin ds σ2 T2 h2
    · simp only [e2]
      exact h2
/-- a comprehension whose turns are told: a filter and a map -/
theorem lc_map {tg : D → Env → Option Env} {tst : EM Bool} {el : EM D} {σ : Env} {T : Sto} (p : D → Bool) (f : D → D) :
    ∀ (ds acc : List D), acc.length + ds.length < 16777216 → (∀ d ∈ ds, ∃ σ1, tg d σ = some σ1 ∧ tst σ1 T = .ok (p d) T ∧ (p d = true → el σ1 T = .ok (f d) T)) → lcLoop tg tst el σ ds acc T = .ok (acc ++ (ds.filter p).map f) T
  | [], acc, _, _ => by
    unfold lcLoop
    simp
  | d :: ds, acc, hl, h => by
    obtain ⟨σ1, e1, e2, e3⟩ := h d List.mem_cons_self
    simp only [List.length_cons] at hl
    unfold lcLoop
    rw [e1]
    simp only [e2, Res.noex]
    show (if p d = true then _ else _) = _
    cases hp : p d with
    | true =>
      rw [if_pos rfl]
      simp only [e3 hp]
      show (if decide (acc.length < 16777216) then lcLoop tg tst el σ ds (acc ++ [f d]) T else .bad) = _
      rw [if_pos (decide_eq_true (by omega)), lc_map p f ds (acc ++ [f d]) (by simp; omega) fun d' hd => h d' (List.mem_cons_of_mem _ hd)]
      simp [hp]
    | false =>
      rw [if_neg (by decide), lc_map p f ds acc (by omega) fun d' hd => h d' (List.mem_cons_of_mem _ hd)]
      simp [hp]
theorem lc_mapY {tg : D → Env → Option Env} {el : EM D} {σ : Env} {T : Sto} (f : D → D) (ds : List D) (hl : ds.length < 16777216) (h : ∀ d ∈ ds, ∃ σ1, tg d σ = some σ1 ∧ el σ1 T = .ok (f d) T) : lcLoop tg yesE el σ ds [] T = .ok (ds.map f) T := by
  rw [lc_map (fun _ => true) f ds [] (by simpa using hl) fun d hd => by
    obtain ⟨σ1, e1, e2⟩ := h d hd
    exact ⟨σ1, e1, rfl, fun _ => e2⟩]
  rw [List.filter_eq_self.mpr fun _ _ => rfl]
  rfl
/-- a comprehension with an invariant of the store -/
theorem lc_inv {tg : D → Env → Option Env} {el : EM D} {σ : Env} (I : Sto → Prop) (Y : D → Prop) : ∀ (ds acc : List D) (T : Sto), acc.length + ds.length < 16777216 → I T → (∀ d ∈ ds, ∀ T, I T → ∃ σ1 y T1, tg d σ = some σ1 ∧ el σ1 T = .ok y T1 ∧ Y y ∧ I T1) →
    ∃ ys T1, lcLoop tg yesE el σ ds acc T = .ok (acc ++ ys) T1 ∧ ys.length = ds.length ∧ (∀ y ∈ ys, Y y) ∧ I T1
  | [], acc, T, _, hI, _ => ⟨[], T, by unfold lcLoop; simp, rfl, by simp, hI⟩
  | d :: ds, acc, T, hl, hI, h => by
    obtain ⟨σ1, y, T1, e1, e2, hy, hI1⟩ := h d List.mem_cons_self T hI
    simp only [List.length_cons] at hl
    obtain ⟨ys, T2, e3, hl2, hY, hI2⟩ := lc_inv I Y ds (acc ++ [y]) T1 (by simp; omega) hI1 fun d' hd => h d' (List.mem_cons_of_mem _ hd)
    refine ⟨y :: ys, T2, ?_, by simp [hl2], fun z hz => ?_, hI2⟩
    · unfold lcLoop
      rw [e1]
      simp only [ev_yesE, Res.noex]
      show (el σ1 T).noex.bind _ = _
      rw [e2]
      show (if decide (acc.length < 16777216) then lcLoop tg yesE el σ ds (acc ++ [y]) T1 else .bad) = _
      rw [if_pos (decide_eq_true (by omega)), e3]
      simp
    · rcases List.mem_cons.mp hz with rfl | hz
      · exact hy
      · exact hY z hz
end
/-! ### slices -/
theorem cut_from {α : Type} (xs : List α) (k : Nat) : cutL xs (some (k : Int)) none = xs.drop k := by
  unfold cutL
  rw [HT.sIx_nat, HT.sIx_none]
  by_cases h : k ≤ xs.length
  · rw [Nat.min_eq_left h]
    exact List.take_of_length_le (by rw [List.length_drop]; exact Nat.le_refl _)
  · rw [Nat.min_eq_right (by omega), List.drop_eq_nil_of_le (Nat.le_refl _), List.drop_eq_nil_of_le (by omega)]
    simp
theorem cut_to {α : Type} (xs : List α) (k : Nat) : cutL xs none (some (k : Int)) = xs.take k := by
  unfold cutL
  rw [HT.sIx_nat, HT.sIx_none]
  by_cases h : k ≤ xs.length
  · rw [Nat.min_eq_left h]
    simp
  · rw [Nat.min_eq_right (by omega)]
    simp [List.take_of_length_le (show xs.length ≤ k by omega)]
theorem cut_fromI {α : Type} (xs : List α) {i : Int} (h : 0 ≤ i) : cutL xs (some i) none = xs.drop i.toNat := by
  obtain ⟨k, rfl⟩ := Int.eq_ofNat_of_zero_le h
  rw [cut_from]
  rfl
theorem cut_toI {α : Type} (xs : List α) {i : Int} (h : 0 ≤ i) : cutL xs none (some i) = xs.take i.toNat := by
  obtain ⟨k, rfl⟩ := Int.eq_ofNat_of_zero_le h
  rw [cut_to]
  rfl
@[simp] theorem sl_tup (xs : List D) (lo hi : Option Int) : sliceD (.tup xs) lo hi = some (.tup (cutL xs lo hi)) := (rfl)
@[simp] theorem sl_lst (xs : List D) (lo hi : Option Int) : sliceD (.lst xs) lo hi = some (.lst (cutL xs lo hi)) := (rfl)
@[simp] theorem wipe_n (σ : Env) : wipeE σ [] = σ := (rfl)
@[simp] theorem wipe_c (σ : Env) (v : Nat) (vs : List Nat) : wipeE σ (v :: vs) = (wipeE σ vs).set v .no := (rfl)
def frz1 (o : Option Sl) (i : Nat) (σ : Env) : Env := match o with
  | some s => σ.set i (frzS s)
  | none => σ
def frzL : List Nat → Env → Env
  | [], σ => σ
  | i :: is, σ => frzL is (frz1 σ[i]? i σ)
theorem frzL_eq : ∀ (is : List Nat) (σ : Env), is.foldl (fun σ i => match σ[i]? with
  | some s => σ.set i (frzS s)
  | none => σ) σ = frzL is σ
  | [], σ => rfl
  | i :: is, σ => by
    rw [List.foldl_cons, frzL_eq is]
    rfl
@[simp] theorem ev_sFrz (is : List Nat) (m : SM) (σ : Env) (T : Sto) : sFrz is m σ T = m (frzL is σ) T := by
  show m (is.foldl _ σ) T = _
  exact congrArg (fun z => m z T) (frzL_eq is σ)
@[simp] theorem frzL_n (σ : Env) : frzL [] σ = σ := (rfl)
@[simp] theorem frzL_c (i : Nat) (is : List Nat) (σ : Env) : frzL (i :: is) σ = frzL is (frz1 σ[i]? i σ) := (rfl)
@[simp] theorem frz1_ow (d : D) (i : Nat) (σ : Env) : frz1 (some (.ow d)) i σ = σ.set i (.fz d) := (rfl)
@[simp] theorem frz1_fz (d : D) (i : Nat) (σ : Env) : frz1 (some (.fz d)) i σ = σ.set i (.fz d) := (rfl)
/-! ### while -/
section
variable {c : EM Bool} {body : SM} {n : Nat} {σ σ2 : Env} {T T1 T2 : Sto}
theorem while_f (h : c σ T = .ok false T1) : whileLoop c body (n + 1) σ T = .nx σ T1 := by
  unfold whileLoop
  rw [h]
  rfl
theorem while_t (h : c σ T = .ok true T1) (hb : body σ T1 = .nx σ2 T2) : whileLoop c body (n + 1) σ T = whileLoop c body n σ2 T2 := by
  conv => lhs; unfold whileLoop
  rw [h]
  simp only [then_ok, if_true, hb]
theorem while_x {x : Xn} (h : c σ T = .ok true T1) (hb : body σ T1 = .ex x σ2 T2) : whileLoop c body (n + 1) σ T = .ex x σ2 T2 := by
  unfold whileLoop
  rw [h]
  simp only [then_ok, if_true, hb]
end
end Mi


set_option Elab.async false
set_option linter.all false
set_option maxRecDepth 100000
set_option maxHeartbeats 2000000
/-! MiS: tuples and lists walked while an exception is handled; isinstance of such an exception. -/
namespace PySem
namespace MiH
open PySem.Spec PyProof.Rows HotX
section
variable {prog : Program} {w : World} {A : Around} {E : Value → Shared → Prop} {st : Shared}
theorem hot_other {x1 it : Addr} {h : Heap} {o : Obj} {vs : Array Value} (hot : HotAt A x1 h) (ho : h.get? it = some o) (hd : o.data = .fields vs) (hv : vs[2]? = none) : x1 ≠ it := fun z => by
  obtain ⟨_, o1, v1, g1, d1, c1⟩ := hot
  rw [z, ho] at g1
  cases g1
  rw [hd] at d1
  cases d1
  rw [hv] at c1
  cases c1
/-- behind the last item: the iterator lets its sequence go, StopIteration comes with the handled exception behind it, and is taken -/
theorem tupleEnd {it tp x1 : Addr} {i : Nat} {its : Array Value} {Q : Option Value → Shared → Prop} (hot : HotAt A x1 st.heap) (hit : st.heap.IsTupleIter it tp i) (htp : st.heap.IsTuple tp its) (hx : its[i]? = none)
    (hQ : ∀ h', Heap.ExtBut it st.heap h' → Q none { st with heap := h' }) : wpAny (model prog w) A (pyNext (.ref it)) Q E st := by
  obtain ⟨ob, hob, hcl, hda⟩ := id hit
  obtain ⟨ot, hot2, _, nt, hdt⟩ := htp
  have hne : x1 ≠ it := hot_other hot hob hda rfl
  obtain ⟨hh, o1, v1, g1, d1, c1⟩ := hot
  unfold pyNext
  refine wpAny_bind (wpAny_attempt (wpAny_callSpecial?_slot (name := Str.ofString "__next__") hit.typeIs F.slot_tuple_iterator_next (wpAny_call_entry F.slot_tuple_iterator_next hit.typeIs F.entry_tuple_iterator_next ?_ (F.args_tuple_iterator_next_1 _))))
  show wpAny _ _ (field (.ref it) 0 >>= _) _ _ st
  refine wpAny_bind (wpAny_field hob hda (x := .ref tp) rfl ?_)
  show wpAny _ _ (if (Value.ref tp == Value.none) = true then _ else _) _ _ st
  rw [if_neg (show ¬ ((Value.ref tp == Value.none) = true) from Bool.false_ne_true)]
  show wpAny _ _ (field (.ref it) 1 >>= _) _ _ st
  refine wpAny_bind (wpAny_field hob hda (x := .int i 0) rfl ?_)
  show wpAny _ _ (seqItems? (.ref tp) >>= _) _ _ st
  refine wpAny_bind (wpAny_seqItems hot2 hdt ?_)
  simp only [Int.toNat_natCast, hx]
  refine wpAny_bind (wpAny_rule (wpAny_bind (wpAny_setField hob hda (by simp) ?_)))
  have g2 : ∀ f : Obj → Obj, (st.heap.update it f).get? x1 = some o1 := fun f => (Heap.get?_update_other _ _ hne.symm).trans g1
  show wpAny _ _ (newExc (.type "StopIteration") [] >>= _) _ _ _ ; refine wpAny_bind ?_ ; simp only [newExc, newTuple]
  refine wpAny_bind (wpAny_newObj_type ?_ (by size_fits)) ; refine wpAny_bind (m := firstArgMember _ _) (wpAny_of_eq (a := Value.none) (by first | rfl | (simp only [firstArgMember]; rfl)) ?_)
  refine wpAny_newObj_type ?_ (by size_fits) ; refine raiseNew_hot ⟨hh, o1, v1, Heap.get?_push_of_some _ (Heap.get?_push_of_some _ (g2 _)), d1, c1⟩ (Nat.ne_of_lt (Heap.lt_size (Heap.get?_push_of_some _ (g2 _)))) (Heap.get?_push_size _ rfl) rfl (by first | (simp; done) | (simp; omega) | (simp only [Array.size_append]; simp; omega)) ?_
  refine wpAny_bind (wpAny_isInstance (T := "StopIteration") (b := true) ⟨_, Heap.get?_update_self _ (Heap.get?_push_size _ rfl) rfl, rfl⟩ isSubtype_stop ?_) ; refine wpAny_pure (hQ _ fun b o hb e => ?_)
  have e2 : (st.heap.update it (Obj.mapFields (·.setIfInBounds 0 .none))).get? b = some o := (Heap.get?_update_other _ _ (Ne.symm hb)).trans e
  rw [Heap.get?_update_other _ _ (Nat.ne_of_gt (Heap.lt_size (Heap.get?_push_of_some _ e2)))]
  exact Heap.get?_push_of_some _ (Heap.get?_push_of_some _ e2)
theorem listEnd {it lp x1 : Addr} {i : Nat} {its : Array Value} {Q : Option Value → Shared → Prop} (hot : HotAt A x1 st.heap) (hit : st.heap.IsListIter it lp i) (hlp : st.heap.IsList lp its) (hx : its[i]? = none)
    (hQ : ∀ h', Heap.ExtBut it st.heap h' → Q none { st with heap := h' }) : wpAny (model prog w) A (pyNext (.ref it)) Q E st := by
  obtain ⟨ob, hob, hcl, hda⟩ := id hit
  obtain ⟨ot, hot2, _, nt, hdt⟩ := hlp
  have hne : x1 ≠ it := hot_other hot hob hda rfl
  obtain ⟨hh, o1, v1, g1, d1, c1⟩ := hot
  unfold pyNext
  refine wpAny_bind (wpAny_attempt (wpAny_callSpecial?_slot (name := Str.ofString "__next__") hit.typeIs slot_listiter_next (wpAny_call_entry slot_listiter_next hit.typeIs entry_listiter_next ?_ (args_listiter_next _))))
  show wpAny _ _ (field (.ref it) 0 >>= _) _ _ st
  refine wpAny_bind (wpAny_field hob hda (x := .ref lp) rfl ?_)
  show wpAny _ _ (if (Value.ref lp == Value.none) = true then _ else _) _ _ st
  rw [if_neg (show ¬ ((Value.ref lp == Value.none) = true) from Bool.false_ne_true)]
  show wpAny _ _ (field (.ref it) 1 >>= _) _ _ st
  refine wpAny_bind (wpAny_field hob hda (x := .int i 0) rfl ?_)
  show wpAny _ _ (seqItems? (.ref lp) >>= _) _ _ st
  refine wpAny_bind (wpAny_seqItems hot2 hdt ?_)
  simp only [Int.toNat_natCast, hx]
  refine wpAny_bind (wpAny_rule (wpAny_bind (wpAny_setField hob hda (by simp) ?_)))
  have g2 : ∀ f : Obj → Obj, (st.heap.update it f).get? x1 = some o1 := fun f => (Heap.get?_update_other _ _ hne.symm).trans g1
  show wpAny _ _ (newExc (.type "StopIteration") [] >>= _) _ _ _ ; refine wpAny_bind ?_ ; simp only [newExc, newTuple]
  refine wpAny_bind (wpAny_newObj_type ?_ (by size_fits)) ; refine wpAny_bind (m := firstArgMember _ _) (wpAny_of_eq (a := Value.none) (by first | rfl | (simp only [firstArgMember]; rfl)) ?_)
  refine wpAny_newObj_type ?_ (by size_fits) ; refine raiseNew_hot ⟨hh, o1, v1, Heap.get?_push_of_some _ (Heap.get?_push_of_some _ (g2 _)), d1, c1⟩ (Nat.ne_of_lt (Heap.lt_size (Heap.get?_push_of_some _ (g2 _)))) (Heap.get?_push_size _ rfl) rfl (by first | (simp; done) | (simp; omega) | (simp only [Array.size_append]; simp; omega)) ?_
  refine wpAny_bind (wpAny_isInstance (T := "StopIteration") (b := true) ⟨_, Heap.get?_update_self _ (Heap.get?_push_size _ rfl) rfl, rfl⟩ isSubtype_stop ?_) ; refine wpAny_pure (hQ _ fun b o hb e => ?_)
  have e2 : (st.heap.update it (Obj.mapFields (·.setIfInBounds 0 .none))).get? b = some o := (Heap.get?_update_other _ _ (Ne.symm hb)).trans e
  rw [Heap.get?_update_other _ _ (Nat.ne_of_gt (Heap.lt_size (Heap.get?_push_of_some _ e2)))]
  exact Heap.get?_push_of_some _ (Heap.get?_push_of_some _ e2)
/-- a list walked there -/
theorem walksHot {x1 : Addr} (it lp : Addr) (hne : lp ≠ it) (its : Array Value) : Walks prog w A it [it, lp, x1] [it] its.size (fun i v => its[i]? = some v) (fun i h => h.IsListIter it lp i ∧ h.IsList lp its ∧ HotAt A x1 h) where
  sub := fun b hb => by simp at hb; simp [hb]
  frame := fun _ _ _ z hk => by
    obtain ⟨z1, z2, hh, o1, v1, g1, d1, c1⟩ := z
    exact ⟨z1.at fun o e => hk it (by simp) o e, z2.at fun o e => hk lp (by simp) o e, hh, o1, v1, hk x1 (by simp) _ g1, d1, c1⟩
  item := fun i s Q E hi z hQ => by
    obtain ⟨z1, z2, hot⟩ := z
    have hne2 : x1 ≠ it := by
      obtain ⟨ob, hob, hcl, hda⟩ := id z1
      exact hot_other hot hob hda rfl
    refine wpAny_pyNext_list_item z1 z2 (x := its[i]) (by simp [hi]) fun h' hit' hs' => ?_
    obtain ⟨hh, o1, v1, g1, d1, c1⟩ := hot
    exact hQ _ h' s.toks (by simp [hi]) ⟨hit', z2.extBut hs'.extBut hne, hh, o1, v1, hs'.extBut _ _ hne2 g1, d1, c1⟩ fun b o hb e => hs'.extBut b o (fun h => hb (by simp [h])) e
  done := fun s Q E z hQ => listEnd z.2.2 z.1 z.2.1 (by simp) fun h' he' => hQ h' s.toks fun b o hb e => he' b o (fun h => hb (by simp [h])) e
  self := fun _ _ _ _ z hQ => wpAny_pyIter_listiter z.1 hQ
end
end MiH
end PySem
namespace Mi
open PySem PySem.Spec PyProof.Rows L2 L2H HotX
section
variable {X : Cx}
/-- all(xs) of a list of bools -/
theorem cr_allHot (hc : HotC X) : CallR X (.builtin "all") (rAll X.K) := by
  intro pins s σ H vs us Q I r h
  obtain ⟨x1, hot⟩ := hc.at I
  obtain ⟨a, bs, rfl, hs, q⟩ := h
  obtain ⟨its, rv, hl, _⟩ := I.list hs
  rw [Vals.ref1 r]
  have hb := rv.bls
  refine call_all_walk (iter_any hl.isList fun s₂ e2 st hne => ?_)
  subst e2
  have hot2 : HotAt X.A.in1 x1 (s.heap.push { cls := .type "list_iterator", data := .fields #[.ref a, .int 0 0] }) := by
    obtain ⟨hh, o1, v1, g1, d1, c1⟩ := hot
    exact ⟨hh, o1, v1, Heap.get?_push_of_some _ g1, d1, c1⟩
  refine ⟨_, _, _, _, _, _, _, rfl, PySem.MiH.walksHot (A := X.A.in1) (x1 := x1) _ a hne its.toArray, ⟨st.1, st.2, hot2⟩, truth_bools hb, fun h' tk hk => ?_⟩
  refine ⟨.bl _, H, I.kept fun b o eo => hk b o (fun hm => ?_) (Heap.get?_push_of_some _ eo), ?_, q⟩
  · rcases List.mem_cons.mp hm with e1 | hm
    · exact absurd (e1 ▸ Heap.lt_size eo) (Nat.lt_irrefl _)
    · cases hm
  · show Value.bool _ = Value.bool _
    rw [← L2.all_range, hb, List.size_toArray, List.length_map]
theorem turn_tupleHot {P : Program} {w : World} {K : PySem.W.Frag} {tg : Expr} (a it : Addr) : TurnH P w K tg (Itt K a) [it] it (fun i h => h.IsTupleIter it a i) where
  mem := by simp
  obj := fun i h z b hb => by
    have e : b = it := by simpa using hb
    subst e
    obtain ⟨o, e, c, d⟩ := z
    exact ⟨o, e, fun v y => by rw [d] at y; cases y⟩
  keep := fun i h h' z k => z.at fun o e => k it (by simp) o e
  item := by
    intro X hP hw hK hc i pins s σ H E I hf z hg
    subst hP hw hK
    obtain ⟨xs, x, hq, hx⟩ := hg
    obtain ⟨its, rv, p, hz⟩ := I.tuple hq
    obtain ⟨u, hu, ru⟩ := rv.get hx
    obtain ⟨f0, f1, f2, f3, f4, f5⟩ := hf it (by simp)
    refine wpAny_pyNext_tuple_item z (show s.heap.IsTuple a its.toArray from p) (x := u) (by simpa using hu) fun h' z' sb => ?_
    have J : Inv X pins σ H { s with heap := h' } := I.turned (t' := s.toks) (fun b o hb e => (sb.2 b hb).trans e) f0 f1 f3 f4 f5
    obtain ⟨o, e, c, d⟩ := id z'
    exact ⟨u, rfl, go_of (s := { s with heap := h' }) e c d (by decide) ⟨x, H, J, ru, ⟨rfl, fun ys hy => by rw [I.tuple_inj hy hq]; exact hx⟩, z', fun b hb => (hf b hb).1⟩⟩
  done := by
    intro X hP hw hK hc i pins s σ H E I hf z hg
    subst hP hw hK
    obtain ⟨x1, hot⟩ := hc.at I
    obtain ⟨xs, hq, hx⟩ := hg
    obtain ⟨its, rv, p, hz⟩ := I.tuple hq
    obtain ⟨f0, f1, f2, f3, f4, f5⟩ := hf it (by simp)
    have hl := rv.length
    exact PySem.MiH.tupleEnd hot z (show s.heap.IsTuple a its.toArray from p) (by simp; omega) fun h' eb => ⟨rfl, I.turned (t' := s.toks) (fun b o hb e => eb b o hb e) f0 f1 f3 f4 f5⟩
  self := fun _ _ _ _ _ z h => wpAny_pyIter_tupleiter z h
theorem pi_tupHot {tg l : Expr} {tl : TE} (hl : PE X l tl) : PIH X tg l (iTup X.K tl) := by
  refine ⟨fun pins s σ H R I h => ?_⟩
  refine thn (hl.run pins s σ H _ I h) fun v s1 ⟨x, H1, I1, r1, q1⟩ => ?_
  obtain ⟨a, e, ⟨xs, hq⟩, q⟩ := q1
  subst e
  cases r1
  obtain ⟨its, rv, p, hz⟩ := I1.tuple hq
  refine wpAny_pyIter_tuple (show s1.heap.IsTuple a its.toArray from p) ?_
  refine ⟨s1.heap.objs.size, [s1.heap.objs.size], _, _, H1, rfl, I1.kept (t' := s1.toks) fun b o e => Heap.get?_push_of_some _ e, turn_tupleHot a _, ⟨_, Heap.get?_push_size _ rfl, rfl, rfl⟩, fun b hb => ?_, q⟩
  have e : b = s1.heap.objs.size := by simpa using hb
  rw [e]
  exact I1.fpOk (Nat.le_refl _) (I1.hok.fresh (Nat.le_refl _))
end

/-! ### a comprehension there -/
abbrev _root_.L2.Cx.blkH (X : Cx) (p : Addr × Obj) (s : Shared) (H : Hp) (scope : Scope) (cenv : PySem.Env) (fp : List Addr) : Cx := (X.blk s H scope cenv fp).tr [p] (fun _ _ => False)
theorem blk_pin {X : Cx} {p : Addr × Obj} {pins : List (Addr × Obj)} {σ σ' : L2.St} {H : Hp} {s : Shared} {scope : Scope} {fp : List Addr} (I : Inv X pins σ H s) (hp : p ∈ X.pn)
    (B : Inv (X.blk s H scope (compEnvC scope (cellsFrom (s.heap.objs.size + 1) scope.names (cloFrom X.env.cells scope.names [])) s.heap.objs.size X.env) fp) [] σ' H { s with heap := pushCells (s.heap.push { cls := .type "dict", data := .dict #[] }) scope.names }) :
    Inv (X.blkH p s H scope (compEnvC scope (cellsFrom (s.heap.objs.size + 1) scope.names (cloFrom X.env.cells scope.names [])) s.heap.objs.size X.env) fp) [] σ' H { s with heap := pushCells (s.heap.push { cls := .type "dict", data := .dict #[] }) scope.names } := by
  obtain ⟨g1, g2, g3, g4, g5⟩ := I.pin p (List.mem_append_left _ hp)
  refine ⟨B.ok.toTry _ _, B.os, B.bare, B.base, B.loc, B.cell, B.free, B.freeC, fun q hq => ?_, B.hok, B.len⟩
  have eq : q = p := by simpa using (show q ∈ [p] ++ ([] : List (Addr × Obj)) from hq)
  rw [eq]
  exact ⟨pushCells_keeps _ _ _ _ (Heap.get?_push_of_some _ g1), g2, Nat.ne_of_lt (Heap.lt_size g1), fun hm => (List.mem_cons.mp (I.stkSub p.1 hm)).elim g3 g4, g5⟩
section
variable {X : Cx}
theorem lcHot {pins : List (Addr × Obj)} {s : Shared} {σ : L2.St} {H : Hp} {Q : VK} {elt tg iter : Expr} {ifs : List Expr} {scope : Scope} {own : List (Str × Nat)} {pos pos' : Pos} {wi : TI} {g : TG} {tt : TT} {te : TE} {use : Option (Value → Sem Unit)} {Qf : Value → Shared → Prop}
    {p : Addr × Obj} (hot : Hot1 X.A p) (hp : p ∈ X.pn) (hN : X.N.Nodup) (J0 : Inv X pins σ H s) (hi : PIH X tg iter wi) (ok : BlkOk X.N X.env.scope scope own)
    (hg : ∀ (s : Shared) (H : Hp) (C : Addr) (cl : List (Str × Addr)) (fps : List Addr), PG (X.blkH p s H scope (compEnvC scope cl C X.env) fps) tg g) (ht : ∀ (s : Shared) (H : Hp) (C : Addr) (cl : List (Str × Addr)) (fps : List Addr), PTs (X.blkH p s H scope (compEnvC scope cl C X.env) fps) ifs tt)
    (he : ∀ (s : Shared) (H : Hp) (C : Addr) (cl : List (Str × Addr)) (fps : List Addr), PE (X.blkH p s H scope (compEnvC scope cl C X.env) fps) elt te) (hs : ∀ xi, foldedSetIterable iter X.env xi = pure xi)
    (h : tLc wi g tt te (own.map (·.2)) σ H Q)
    (hRR : ∀ Dl C s' mm H', Inv X pins σ H' s' → Q (.ref Dl) H' → s'.heap.Ns C mm → FpOk X pins H' C → compPost (model X.prog X.w) X.A X.xe use Qf (.ref Dl) C (.ok .next) s') :
    wpAny (model X.prog X.w) X.A (comprehension (.ListComp elt [⟨tg, iter, ifs, 0⟩] scope pos) scope X.env pos' (newList []) false (eval iter X.env) use) Qf X.xe s := by
  have hfree : ∀ y ∈ scope.names, y.2 = .free → ∃ c, X.env.cells.lookup y.1 = some c := fun y hy ee => by
    rcases ok.free y hy ee with k | k
    · exact J0.ok.has _ (.inl k)
    · exact J0.ok.has _ (.inr k)
  refine wpAny_comprehension_free (use := use) rfl hs (closure_ok hfree) ok.kind (fun y hy ee => by rw [ok.uniq y hy, ee])
    (thn (hi.run pins s σ H _ J0 h) fun xw t1 hw => thn hw fun iv t2 hw2 => ?_)
  obtain ⟨itr, fps, tnn, It0, G2, ee, J2, Tu, sx2, fo2, qt⟩ := hw2
  subst ee
  refine wpAny_newObj_type (newEnv_comp ?_) (by show 0 ≤ sizeLine; decide)
  generalize eD : t2.heap.objs.size = Dl
  have nD : G2 Dl = none := J2.hok.fresh (Nat.le_of_eq eD)
  obtain ⟨Wt, ⟨mt0, wt0⟩, trn⟩ := qt Dl nD
  -- the new list
  generalize es3 : ({ t2 with heap := t2.heap.push { cls := .type "list", data := .seq ([] : List Value).toArray } } : Shared) = t3
  have J3 : Inv X pins σ (upd G2 Dl (.lst [])) t3 := by
    rw [← es3]
    refine J2.laid (t' := t2.toks) (fun bb oo ee => Heap.get?_push_of_some _ ee) (Nat.le_of_eq eD) ⟨Nat.zero_le _, [], 0, .nil, ?_⟩
    rw [← eD]
    exact Heap.get?_push_size _ rfl
  have eh3 : t3.heap = t2.heap.push { cls := .type "list", data := .seq ([] : List Value).toArray } := by rw [← es3]
  have size : ∀ bb ∈ fps, bb < t2.heap.objs.size := fun bb hb => by
    obtain ⟨oo, ee, _⟩ := Tu.obj _ _ sx2 bb hb
    exact Heap.lt_size ee
  have fo3 : ∀ bb ∈ fps, FpOk X pins (upd G2 Dl (.lst [])) bb ∧ bb < t3.heap.objs.size := fun bb hb => by
    have hlt := size bb hb
    refine ⟨⟨?_, (fo2 bb hb).2⟩, by rw [eh3, Heap.size_push]; exact Nat.lt_succ_of_lt hlt⟩
    rw [upd_ne (by rw [← eD]; exact Nat.ne_of_lt hlt)]
    exact (fo2 bb hb).1
  have sx3 : tnn 0 t3.heap := Tu.keep _ _ _ sx2 fun bb _ oo ee => by rw [eh3]; exact Heap.get?_push_of_some _ ee
  have J4 := blk_pin J3 hp (block_start J3 ok hN fo3)
  have pg := hg t3 (upd G2 Dl (.lst [])) t3.heap.objs.size (cellsFrom (t3.heap.objs.size + 1) scope.names (cloFrom X.env.cells scope.names [])) fps
  have pt := ht t3 (upd G2 Dl (.lst [])) t3.heap.objs.size (cellsFrom (t3.heap.objs.size + 1) scope.names (cloFrom X.env.cells scope.names [])) fps
  have pe := he t3 (upd G2 Dl (.lst [])) t3.heap.objs.size (cellsFrom (t3.heap.objs.size + 1) scope.names (cloFrom X.env.cells scope.names [])) fps
  show codeAny _ _ (.compStart (.ListComp elt [⟨tg, iter, ifs, 0⟩] scope pos) 0 (.ref itr) (.ref Dl) (compEnvC scope (cellsFrom (t3.heap.objs.size + 1) scope.names (cloFrom X.env.cells scope.names [])) t3.heap.objs.size X.env)) (compPost (model X.prog X.w) X.A X.xe use Qf (.ref Dl) t3.heap.objs.size) { t3 with heap := pushCells (t3.heap.push { cls := .type "dict", data := .dict #[] }) scope.names }
  have nfps : ∀ bb ∈ fps, (upd G2 Dl (.lst [])) bb = none := fun bb hb => (fo3 bb hb).1.1
  generalize ece : compEnvC scope (cellsFrom (t3.heap.objs.size + 1) scope.names (cloFrom X.env.cells scope.names [])) t3.heap.objs.size X.env = cev at J4 pg pt pe ⊢
  have cevL : cev.locals = t3.heap.objs.size := by subst ece; rfl
  generalize eG3 : upd G2 Dl (.lst []) = G3 at J3 J4 pg pt pe wt0 nfps fo3
  generalize es4 : ({ t3 with heap := pushCells (t3.heap.push { cls := .type "dict", data := .dict #[] }) scope.names } : Shared) = t4 at J4 ⊢
  have sx4 : tnn 0 t4.heap := Tu.keep _ _ _ sx3 fun bb _ oo ee => by rw [← es4]; exact pushCells_keeps _ _ _ _ (Heap.get?_push_of_some _ ee)
  have statt : ∀ {σ' : L2.St} {H' : Hp} {s' : Shared}, Inv (X.blkH p t3 G3 scope cev fps) [] σ' H' s' → (∀ bb ∈ fps, H' bb = none) → ∀ bb ∈ fps, FpOk (X.blkH p t3 G3 scope cev fps) [] H' bb := fun {σ' H' s'} J' hns bb hb =>
    ⟨hns bb hb, (J'.ok.exf bb hb).1, J'.ok.exfs bb hb, .inl hb, fun xi c ee => (J'.ok.exf bb hb).2 xi c ee, fun qx hq => by
      have eq : qx = p := by simpa using (show qx ∈ [p] ++ ([] : List (Addr × Obj)) from hq)
      rw [eq]
      exact (fo3 bb hb).1.2.2.2.2.2 p (List.mem_append_left _ hp)⟩
  have lp : codeAny (model X.prog X.w) X.A (.compLoop (.ListComp elt [⟨tg, iter, ifs, 0⟩] scope pos) 0 (.ref itr) (.ref Dl) cev) (compPost (model X.prog X.w) X.A X.xe use Qf (.ref Dl) t3.heap.objs.size) t4 := by
    refine compLoop_any (fun n s' => ∃ i H', Inv (X.blkH p t3 G3 scope cev fps) [] (wipe σ (own.map (·.2))) H' s' ∧ tnn i s'.heap ∧ (∀ bb ∈ fps, H' bb = none) ∧ Wt i n H') ?_ mt0 ⟨0, G3, J4, sx4, nfps, wt0⟩
    rintro n t5 ⟨i, G5, J5, sx5, no5, wt5⟩
    rcases trn i n G5 wt5 with ⟨sp, qe⟩ | ⟨gg, Nt, hNt, stp⟩
    · have tdn := Tu.done (X.blkH p t3 G3 scope cev fps) rfl rfl rfl ⟨p, hot, List.mem_singleton.mpr rfl⟩ i [] t5 _ G5 (fun _ _ => False) J5 (statt J5 no5) sx5 sp
      refine thnF tdn fun r t6 ⟨er, J6⟩ => ?_
      subst er
      -- back in the def's context
      have J7 : Inv X pins σ G5 t6 := J3.call' (ch := fps) J6.os J6.base J6.hok J6.bare fun bb hb => ⟨(fo3 bb hb).1.2.2.2.1, (fo3 bb hb).1.2.1, (fo3 bb hb).1.2.2.2.2.1, (fo3 bb hb).1.2.2.2.2.2⟩
      have noC : G5 t3.heap.objs.size = none := by
        have zz : G5 cev.locals = none := J6.free
        rw [cevL] at zz
        exact zz
      obtain ⟨mm, hns, _⟩ := J6.loc
      have hns : t6.heap.Ns cev.locals mm := hns
      rw [cevL] at hns
      exact hRR Dl t3.heap.objs.size t6 mm G5 J7 qe hns (J3.fpOk (Nat.le_refl _) noC)
    · have tit := Tu.item (X.blkH p t3 G3 scope cev fps) rfl rfl rfl ⟨p, hot, List.mem_singleton.mpr rfl⟩ i [] t5 _ G5 (fun _ _ => False) J5 (statt J5 no5) sx5 gg
      refine thnF tit fun r t6 ⟨ui, er, hh6⟩ => ?_
      subst er
      refine thnF hh6 fun _ t7 ⟨xi, G7, J7, r7, y7, sx7, no7⟩ => ?_
      have J7' := J7.pinned (statt J7 no7) (Tu.obj _ _ sx7)
      refine thnF (pg.run _ t7 _ G7 xi ui _ J7' r7 (stp xi G7 y7)) fun _ t8 ⟨τ8, G8, J8, wp8, qt8⟩ => ?_
      refine thnF (pt.run _ t8 τ8 G8 _ J8 qt8) fun bb t9 ⟨G9, J9, qt9⟩ => ?_
      -- the turn's end
      have fint : ∀ {s' : Shared} {H' : Hp}, Inv (X.blkH p t3 G3 scope cev fps) ([] ++ pinsAt fps t7.heap) τ8 H' s' → Nt H' → ∃ mm, mm < n ∧ ∃ i H', Inv (X.blkH p t3 G3 scope cev fps) [] (wipe σ (own.map (·.2))) H' s' ∧ tnn i s'.heap ∧ (∀ bb ∈ fps, H' bb = none) ∧ Wt i mm H' := fun {s' H'} I' nxt => by
        obtain ⟨m', hm, w'⟩ := hNt H' nxt
        have pinq : ∀ bb ∈ fps, ∀ oo, t7.heap.get? bb = some oo → s'.heap.get? bb = some oo ∧ H' bb = none := fun bb hb oo ee =>
          let zz := I'.pin (bb, oo) (List.mem_append_right _ (List.mem_append_right _ (mem_pinsAt hb ee)))
          ⟨zz.1, zz.2.1⟩
        have hle : (wipe σ (own.map (·.2))).length = τ8.length := by rw [← wp8, wipe_length]
        refine ⟨m', hm, i + 1, H', (I'.unpinned (pins := [])).weak hle (fun j v ee => ?_), Tu.keep _ _ _ sx7 fun bb hb oo ee => (pinq bb hb oo ee).1, fun bb hb => ?_, w'⟩
        · rw [← wp8] at ee
          exact (wipe_some ee).1
        · obtain ⟨oo, ee, _⟩ := Tu.obj _ _ sx7 bb hb
          exact (pinq bb hb oo ee).2
      cases bb with
      | false =>
        simp only [Bool.false_eq_true, if_false] at qt9 ⊢
        exact fint J9 qt9
      | true =>
        simp only [if_true] at qt9 ⊢
        refine thnF (pe.run _ t9 τ8 G9 _ J9 qt9) fun zz t10 ⟨yw, G10, J10, rr10, ac, eD10, sz10, nxt⟩ => ?_
        exact app_ok (X := X.blkH p t3 G3 scope cev fps) J10 eD10 sz10 rr10 fun t11 J11 => fint J11 nxt
  exact codeAny_compStart_list lp (Tu.self X.A 0 _ _ _ sx4 lp)
theorem pe_lcHot {elt tg iter : Expr} {ifs : List Expr} {scope : Scope} {own : List (Str × Nat)} {pos : Pos} {wi : TI} {g : TG} {tt : TT} {te : TE} {p : Addr × Obj} (hot : Hot1 X.A p) (hp : p ∈ X.pn) (hN : X.N.Nodup) (hi : PIH X tg iter wi) (ok : BlkOk X.N X.env.scope scope own)
    (hg : ∀ (s : Shared) (H : Hp) (C : Addr) (cl : List (Str × Addr)) (fps : List Addr), PG (X.blkH p s H scope (compEnvC scope cl C X.env) fps) tg g) (ht : ∀ (s : Shared) (H : Hp) (C : Addr) (cl : List (Str × Addr)) (fps : List Addr), PTs (X.blkH p s H scope (compEnvC scope cl C X.env) fps) ifs tt)
    (he : ∀ (s : Shared) (H : Hp) (C : Addr) (cl : List (Str × Addr)) (fps : List Addr), PE (X.blkH p s H scope (compEnvC scope cl C X.env) fps) elt te) (hs : ∀ x, foldedSetIterable iter X.env x = pure x := by intro _; rfl) :
    PE X (.ListComp elt [⟨tg, iter, ifs, 0⟩] scope pos) (tLc wi g tt te (own.map (·.2))) := by
  refine ⟨fun pins s σ H Q I h => ?_⟩
  rw [eval_ListComp]
  refine lcHot hot hp hN I hi ok hg ht he hs h fun D C s' m H' I' q hn f => ⟨m, hn, fun h'' sb => ?_⟩
  obtain ⟨f0, f1, f2, f3, f4, f5⟩ := f
  exact ⟨.ref D, H', I'.turned (t' := s'.toks) (fun b o hb e => (sb.2 b hb).trans e) f0 f1 f3 f4 f5, rfl, q⟩
end
end Mi


set_option Elab.async false
set_option linter.all false
set_option maxRecDepth 100000
set_option maxHeartbeats 2000000
/-! MiT: the head: a hook over the written part without its lists; own exceptions told by a Bool. -/
namespace PySem
namespace MiX
open PySem.W PySem.Calls PyProof.Rows PySem.HandSPX
/-! ### the class of an own exception over ValueError, by a Bool -/
def excVE (K : Frag) (C : Addr) : Bool := match K.lookup C with
  | some ⟨.type "type", _, .cls cd, sl⟩ => (match cd.mro, sl.toList with
    | .ref C' :: bm, [_, _, _, _, some (.builtin n), _] => C' == C && n == "ValueError.__new__" && !cd.hasDel && cd.hasDict && refsVE bm
    | _, _ => false)
  | _ => false
theorem excVE_ok {K : Frag} {C : Addr} (q : excVE K C = true) : ∃ nm qn N bs bm sn sub ab col dd k0 k1 k2 k3 k5, K.lookup C = some (excClassObj nm qn C N bs bm true sn sub ab col dd k0 k1 k2 k3 k5 "ValueError.__new__") ∧ refsVE bm = true := by
  unfold excVE at q
  split at q
  · rename_i dd cd sl ho
    split at q
    · rename_i C' bm k0 k1 k2 k3 n k5 hm hs
      simp only [Bool.and_eq_true, beq_iff_eq, Bool.not_eq_true'] at q
      obtain ⟨⟨⟨⟨rfl, rfl⟩, hdel⟩, hdict⟩, ht⟩ := q
      obtain ⟨nm, bs, mro, ns, qn, hd, sn, sub, ab, col, del⟩ := cd
      dsimp only at hm hdel hdict
      subst hm hdel hdict
      have hsl : sl = #[k0, k1, k2, k3, some (.builtin "ValueError.__new__"), k5] := by
        obtain ⟨l⟩ := sl
        have hs : l = [k0, k1, k2, k3, some (.builtin "ValueError.__new__"), k5] := hs
        rw [hs]
      subst hsl
      exact ⟨nm, qn, ns, bs, bm, sn, sub, ab, col, dd, k0, k1, k2, k3, k5, ho, ht⟩
    · cases q
  · cases q
abbrev IW : Type := Option (Str × Str × Arguments × FuncBody × Scope × Addr × List Str × Addr)
def initW (K : Frag) (f : Addr) : IW := match K.lookup f with
  | some ⟨_, _, .func fd, _⟩ => some (fd.name, fd.qualname, fd.params, fd.body, fd.scope, fd.globals, fd.closure.map (·.1), fd.builtins)
  | _ => none
def isStrAt (file : Str) : Option Value → Bool
  | some (.str g _) => file == g
  | _ => false
def codeFile (file : Str) (K : Frag) (c : Addr) : Bool := match K.lookup c with
  | some ⟨_, _, .fields vs, _⟩ => isStrAt file vs[2]?
  | _ => false
def cellOf (K : Frag) (cc C : Addr) : Bool := match K.lookup cc with
  | some ⟨_, _, .cell (some (.ref D)), _⟩ => D == C
  | _ => false
def isNon : Value → Bool
  | .none => true
  | _ => false
def initB (file q : Str) (K : Frag) (fI C : Addr) : Bool := match K.lookup fI with
  | some ⟨_, _, .func fd, _⟩ => isNon fd.defaults && isNon fd.kwdefaults && (match fd.code, fd.closure with
    | .ref c, [(_, cc)] => codeIn K (.ref c) q && codeFile file K c && cellOf K cc C
    | _, _ => false)
  | _ => false
def ownB (file f q : Str) (K : Frag) (C fI : Addr) : Bool := excVE K C && (decide (findIn K (.ref C) "__setattr__" = some (some (.builtin "object.__setattr__"))) && (decide (findIn K (.ref C) f = some none) && (decide (findIn K (.ref C) "__init__" = some (some (.ref fI))) && (decide (typeIn K (.ref fI) = some (.type "function")) && (keepIn K (.ref C) &&
  (decide (subIn K (.ref C) (.type "BaseException") = some true) && (decide (typeIn K (.ref C) = some (.type "type")) && (initB file q K fI C && (decide (mroIn K C (.ref C) = some true) && (decide (mroIn K C (.type "ValueError") = some true) && (decide (ks_superIn K C C "__init__" = some (some (.builtin "ValueError.__init__"))) && decide (nsIn K cStatics "thirdparty.any" = some none))))))))))))
theorem ownT_of {prog : Program} {K : Frag} {f q pn : Str} {C fI : Addr} {params : Arguments} {body : List Stmt} {sc : Scope} (e : initW K fI = (some (("__init__" : Str), q, params, FuncBody.stmts body, sc, mainGlobals, [("__class__" : Str)], builtinsNs) : IW)) (h : ownB prog.main.file f q K C fI = true) : ∃ cc cda, OwnT prog K f C fI cc cda q pn params body sc := by
  unfold ownB at h
  simp only [Bool.and_eq_true, decide_eq_true_eq] at h
  obtain ⟨h1, h2, h3, h4, h5, h6, h7, h8, h9, h10, h11, h12, h13⟩ := h
  unfold initB at h9
  unfold initW at e
  cases ho : K.lookup fI with
  | none => rw [ho] at h9; cases h9
  | some o =>
    obtain ⟨oc, od, dt, osl⟩ := o
    rw [ho] at h9 e
    cases dt with
    | func fd =>
      obtain ⟨n1, n2, n3, n4, n5, n6, n7, n8, n9, n10, n11, n12, n13, n14, n15⟩ := fd
      simp only [Option.some.injEq, Prod.mk.injEq] at e
      obtain ⟨rfl, rfl, rfl, rfl, rfl, rfl, e7, rfl⟩ := e
      simp only [Bool.and_eq_true] at h9
      obtain ⟨⟨d1, d2⟩, d3⟩ := h9
      have d1 : n8 = .none := by
        cases n8 <;> first | rfl | cases d1
      have d2 : n9 = .none := by
        cases n9 <;> first | rfl | cases d2
      subst d1 d2
      split at d3
      · rename_i c x cc
        simp only [Bool.and_eq_true] at d3
        obtain ⟨⟨c1, c2⟩, c3⟩ := d3
        have ex : x = "__class__" := by simpa using e7
        subst ex
        refine ⟨cc, c, excVE_ok h1, h2, h3, h4, h5, h6, h7, h8, ⟨oc, od, n10, n11, n12, n14, osl, ho⟩, c1, ?_, ?_, h10, h11, h12, h13⟩
        · unfold codeFile at c2
          cases hq : K.lookup c with
          | none => rw [hq] at c2; cases c2
          | some u =>
            obtain ⟨uc, ud, ut, us⟩ := u
            rw [hq] at c2
            cases ut with
            | fields vs =>
              have c2 : isStrAt prog.main.file vs[2]? = true := c2
              generalize hg : vs[2]? = ov at c2
              unfold isStrAt at c2
              split at c2
              · rename_i g tf
                exact ⟨uc, ud, vs, us, g, tf, rfl, hg, c2⟩
              · cases c2
            | _ => cases c2
        · unfold cellOf at c3
          cases hq : K.lookup cc with
          | none => rw [hq] at c3; cases c3
          | some u =>
            obtain ⟨uc, ud, ut, us⟩ := u
            rw [hq] at c3
            cases ut with
            | cell v =>
              cases v with
              | none => cases c3
              | some v =>
                cases v with
                | ref D =>
                  have c3 : (D == C) = true := c3
                  have := beq_iff_eq.mp c3
                  subst this
                  exact ⟨uc, ud, us, rfl⟩
                | _ => cases c3
            | _ => cases c3
      · cases d3
    | _ => cases h9
end MiX
end PySem
namespace Mi
open PySem PySem.Spec PyProof.Rows L2
/-! ### the hook -/
def noLst (o : Obj) : Bool := match o.cls with
  | .type c => decide (c ≠ "list")
  | _ => true
def frL (g : Addr → Option Obj) (as : List Addr) : PySem.W.Frag := (He.frG g as).filter fun q => noLst q.2
theorem frL_at {g : Addr → Option Obj} {as : List Addr} {a : Addr} {o : Obj} (h : (frL g as).lookup a = some o) : g a = some o ∧ noLst o = true := by
  obtain ⟨h1, h2⟩ := List.mem_filter.mp (He.lookup_mem h)
  exact ⟨He.frG_mem h1, h2⟩
/-- facts, defs, further data and a Bool of the written part without lists -/
structure SaysL {β : Type} (fa : List He.Fa) (fn : List He.DefD) (ob : PySem.W.Frag → β) (vb : β) (ex : PySem.W.Frag → Bool) (K : PySem.W.Frag) : Prop where
  d : He.SaysD fa fn K
  b : ob K = vb
  x : ex K = true
  l : ∀ a o, K.lookup a = some o → noLst o = true
def obsL {β : Type} (n : Nat) (fa : List He.Fa) (fn : List He.DefD) (ob : PySem.W.Frag → β) (ex : PySem.W.Frag → Bool) (g : Addr → Option Obj) : He.AlD × β × Bool := (He.obsD fa fn (frL g (cStatics :: He.asD g n)), ob (frL g (cStatics :: He.asD g n)), ex (frL g (cStatics :: He.asD g n)))
def hookL {β : Type} (n : Nat) (fa : List He.Fa) (fn : List He.DefD) (ob : PySem.W.Frag → β) (vb : β) (ex : PySem.W.Frag → Bool) : PySem.W.Hook where
  α := He.AlD × β × Bool
  obs := fun s => obsL n fa fn ob ex s.heap.get?
  val := fun _ => (He.valD fn, vb, true)
  says := fun _ h => ∃ K : PySem.W.Frag, K.In h ∧ SaysL fa fn ob vb ex K
  of := fun _ s e => ⟨frL s.heap.get? (cStatics :: He.asD s.heap.get? n), fun _ _ z => (frL_at z).1, congrArg (fun z : He.AlD × β × Bool => z.1) e, congrArg (fun z : He.AlD × β × Bool => z.2.1) e, congrArg (fun z : He.AlD × β × Bool => z.2.2) e, fun _ _ z => (frL_at z).2⟩
  keeps := fun _ _ _ ⟨K, hK, c⟩ k => ⟨K, PySem.W.Frag.In.keeps hK k, c⟩
theorem obsL_eq {β : Type} {n : Nat} {fa : List He.Fa} {fn : List He.DefD} {ob : PySem.W.Frag → β} {vb : β} {ex : PySem.W.Frag → Bool} {g : Addr → Option Obj} {s : Shared} (h : ∀ a, g a = s.heap.get? a) : obsL n fa fn ob ex g = (hookL n fa fn ob vb ex).obs s := by
  have e : g = s.heap.get? := funext h
  rw [e]
  rfl
/-- no list is written: what is a list is in the heap's told part -/
theorem SaysL.seq {β : Type} {fa : List He.Fa} {fn : List He.DefD} {ob : PySem.W.Frag → β} {vb : β} {ex : PySem.W.Frag → Bool} {K : PySem.W.Frag} (c : SaysL fa fn ob vb ex K) {H : Hp} {a : Addr} {xs : List L2.V} (h : SqL K H a xs) : Rd H a (.lst xs) := by
  rcases h with h | ⟨o, its, n, hk, hc, _⟩
  · exact h
  · have := c.l a o hk
    unfold noLst at this
    rw [hc] at this
    cases this
/-- a def whose promise lets no exception out -/
theorem fn_nox {P : Program} {w : World} {K : PySem.W.Frag} {mg : Str → Option Value} {base : Heap} {k : Nat} {f : Addr} {fd : FuncData} {ps : List Str} {sp : Sp} (F : FnOk P w K mg base (L2N.CX P w) k f fd ps sp) :
    FnOk P w K mg base CX0 k f fd ps (fun vs H Q _ => sp vs H Q fun _ _ _ => False) := by
  refine ⟨fun vs H Q E h => F.len vs H Q _ h, fun A outer s H args us vs Q E hr e0 hb r h => codeAny_mono (F.run A outer s H args us vs Q (fun _ _ _ => False) hr e0 hb r h) fun x s' hq => ?_⟩
  cases x with
  | error e =>
    obtain ⟨_, _, _, _, _, _, _, _, _, _, _, _, z⟩ := (show L2N.CX P w outer H s (fun _ _ _ => False) e s' from hq)
    exact z.elim
  | ok fl =>
    cases fl with
    | ret u => exact hq
    | next => exact hq
    | brk => exact hq
    | cont => exact hq
/-- a def told by itself, over all defs of the module -/
theorem fn_one {P : Program} {w : World} {K : PySem.W.Frag} {mg : Str → Option Value} {base : Heap} {G : Gi} {tab : List (Str × Df)} {EI : Ei} {U : ExtT} {M L : Nat} (mh : ModH P w K mg base G tab) (mx : ModX P w K mg base G EI U) (n : Nat) {f : Str} {d : Df} (hd : tab.lookup f = some d)
    {fa : Addr} {fd : FuncData} {ps : List Str} {x qual : Str} {params : Arguments} (Fd : FunD K x qual params d.body d.sc [] [] fa fd) (Sc : FnScope d.N ps d.sc) (hps : ps.length = d.np) : FnOk P w K mg base (L2N.CX P w) (n + 5) fa fd ps (spC K (callN G EI U M L tab (n + 1)) f) := by
  have gx : ∀ (cdv : Value) (A : Around) (outer : List PySem.Env) (s : Shared) (H : Hp) (E : XK), Room (n + 4) (A.deeper (envOfC qual d.sc s.heap.objs.size fa cdv)) → Gx (cxOf (L2N.CX P w) P w K mg base d.N qual d.sc fa cdv A outer s H E) G (callN G EI U M L tab n) := fun cdv A outer s H E hr => by
    refine ⟨fun g hg => ?_, mh.blt, mh.cst, ?_⟩
    · obtain ⟨d', hd'⟩ := mh.dom g hg
      obtain ⟨fa', fd', ps', ok', hm', kp', hb', _⟩ := fn_all (M := M) (L := L) mh mx n g d' hd'
      exact ⟨n + 4, fa', fd', ps', ok', hr, hm', kp', hb'⟩
    · have := hr.un
      show (A.deeper (envOfC qual d.sc s.heap.objs.size fa cdv)).units + 200 < cLine
      omega
  refine (ok_def (M := M) (L := L) Fd Sc hps gx fun cdv A outer s H E hr => mx _ _ _ _ _ _ _ _ _ _ _ n hr Sc.nd (gx cdv A outer s H E hr)).imp fun vs H Q E h => ?_
  obtain ⟨ρ, Gh, T, ds, wd, r, p⟩ := h
  refine ⟨ρ, Gh, T, ds, wd, r, ?_⟩
  have e : callN G EI U M L tab (n + 1) f ds T = runDf G EI U (callN G EI U M L tab n) M L d ds T := by
    show (match tab.lookup f with
      | some d => runDf G EI U (callN G EI U M L tab n) M L d ds T
      | none => .bad) = _
    rw [hd]
  rw [← e]
  exact p
end Mi


set_option Elab.async false
set_option linter.all false
set_option maxRecDepth 100000
namespace K71
open PySem Mi L2
@[irreducible] def most : Nat := 10 ^ 200
@[irreducible] def mostI : Int := 10 ^ 200
/-! ### the tables -/
def top (i : Nat) : Stmt := PySem.Challenge.pw_gradatim_k71_whole_stages.main.body.getD i (.Pass ⟨0, 0, 0, 0⟩)
def d_plus : Df := ⟨["a", "b", "kept", "first", "count", "power_of", "more", "pair"], 2, defScope (top 5), defBody (top 5)⟩
def d_power : Df := ⟨["a"], 1, defScope (top 6), defBody (top 6)⟩
def d_is_next : Df := ⟨["a"], 1, defScope (top 12), defBody (top 12)⟩
def d_is_open : Df := ⟨["a"], 1, defScope (top 13), defBody (top 13)⟩
def d_shortened : Df := ⟨["a", "exponent", "count"], 1, defScope (top 14), defBody (top 14)⟩
def d_one_less : Df := ⟨["a"], 1, defScope (top 15), defBody (top 15)⟩
def d_below : Df := ⟨["a", "n", "exponent", "rest"], 2, defScope (top 16), defBody (top 16)⟩
def d_told : Df := ⟨["n"], 1, defScope (top 17), defBody (top 17)⟩
def d_raised : Df := ⟨["base", "k", "found", "_"], 2, defScope (top 18), defBody (top 18)⟩
def d_goes_away : Df := ⟨["a", "exponent", "_"], 1, defScope (top 19), defBody (top 19)⟩
def d_climbed : Df := ⟨["exponent", "n"], 2, defScope (top 20), defBody (top 20)⟩
def d_doubled : Df := ⟨["n", "count"], 2, defScope (top 21), defBody (top 21)⟩
def d_climbed_often : Df := ⟨["exponent", "count", "n", "found"], 3, defScope (top 22), defBody (top 22)⟩
def d_stage : Df := ⟨["a", "n", "exponent", "count"], 2, defScope (top 23), defBody (top 23)⟩
def d__law_stream : Df := ⟨["script", "mixed", "cell"], 1, defScope (top 25), defBody (top 25)⟩
def d__law_draw : Df := ⟨["stream", "many", "value"], 2, defScope (top 26), defBody (top 26)⟩
def d__law_pick : Df := ⟨["stream", "rows"], 2, defScope (top 27), defBody (top 27)⟩
def d__law_ordinal : Df := ⟨["stream", "depth", "found", "k", "e", "pair"], 2, defScope (top 28), defBody (top 28)⟩
def d__law_is_next : Df := ⟨["a"], 1, defScope (top 29), defBody (top 29)⟩
def d__law_less : Df := ⟨["a", "e", "c"], 1, defScope (top 30), defBody (top 30)⟩
def d__law_below : Df := ⟨["a", "n", "e"], 2, defScope (top 31), defBody (top 31)⟩
def d__law_goes_away : Df := ⟨["e", "found", "pair", "one"], 1, defScope (top 32), defBody (top 32)⟩
def d__law_climb : Df := ⟨["e", "n", "two"], 2, defScope (top 33), defBody (top 33)⟩
def d__law_doubled : Df := ⟨["n", "found", "k"], 1, defScope (top 34), defBody (top 34)⟩
def d__law_stage : Df := ⟨["a", "n", "most", "e", "c", "k"], 2, defScope (top 35), defBody (top 35)⟩
def d__law_told : Df := ⟨["a", "n", "e", "found"], 2, defScope (top 36), defBody (top 36)⟩
def d__law_counted : Df := ⟨["a", "n", "turn"], 2, defScope (top 37), defBody (top 37)⟩
def d_law : Df := ⟨["script", "stream", "a", "most", "n", "told_v", "due", "counted", "near", "less", "one"], 1, defScope (top 38), defBody (top 38)⟩
def tab : List (Str × Df) := ([("plus", d_plus), ("power", d_power), ("is_next", d_is_next), ("is_open", d_is_open), ("shortened", d_shortened), ("one_less", d_one_less), ("below", d_below), ("told", d_told), ("raised", d_raised), ("goes_away", d_goes_away)] : List (Str × Df)) ++ ([("climbed", d_climbed), ("doubled", d_doubled), ("climbed_often", d_climbed_often), ("stage", d_stage), ("_law_stream", d__law_stream), ("_law_draw", d__law_draw), ("_law_pick", d__law_pick), ("_law_ordinal", d__law_ordinal), ("_law_is_next", d__law_is_next), ("_law_less", d__law_less)] : List (Str × Df)) ++ ([("_law_below", d__law_below), ("_law_goes_away", d__law_goes_away), ("_law_climb", d__law_climb), ("_law_doubled", d__law_doubled), ("_law_stage", d__law_stage), ("_law_told", d__law_told), ("_law_counted", d__law_counted), ("law", d_law)] : List (Str × Df))
def fnN : List Str := (["plus", "power", "is_next", "is_open", "shortened", "one_less", "below", "told", "raised", "goes_away"] : List (Str)) ++ (["climbed", "doubled", "climbed_often", "stage", "_law_stream", "_law_draw", "_law_pick", "_law_ordinal", "_law_is_next", "_law_less"] : List (Str)) ++ (["_law_below", "_law_goes_away", "_law_climb", "_law_doubled", "_law_stage", "_law_told", "_law_counted", "law"] : List (Str))
def cst : List (Str × D) := ([("ONE", (.tup [(.tup [(.tup []), (.int 1)])])), ("MOST_STAGE", (.int mostI)), ("TWO", (.tup [(.tup [(.tup []), (.int 2)])])), ("THREE", (.tup [(.tup [(.tup []), (.int 3)])])), ("OMEGA", (.tup [(.tup [(.tup [(.tup [(.tup []), (.int 1)])]), (.int 1)])]))] : List (Str × D))
def G : Gi := ⟨fnN, cst, ["stream"], []⟩
def EI : Ei := ⟨fun x ds => if x = ("Above" : Str) then (match ds with
  | [] => some ⟨"Above", none⟩
  | _ => none) else none, fun x n => decide (x = ("Above" : Str)) && n == 0⟩
def s_told (i : Nat) : Stmt := (defBody (top 36)).getD i (.Pass ⟨0, 0, 0, 0⟩)
def tryS : Stmt := s_told 0
def F_told : Fi := ⟨d__law_told.N, d__law_told.sc, fun _ => true⟩
def isTry : Stmt → Bool
  | .Try _ _ _ _ _ => true
  | _ => false
def tryBody : Stmt → List Stmt
  | .Try b _ _ _ _ => b
  | _ => []
def valOf : List Stmt → Expr
  | [.Assign _ e _] => e
  | _ => .Constant .none 0 ⟨0, 0, 0, 0⟩
def callX : Expr := valOf (tryBody tryS)
/-- what the suite answers to Above -/
def suiteG : Xn → Sto → RS
  | ⟨c, none⟩, T => if c = ("Above" : Str) then .rt (.lst []) true T else .bad
  | _, _ => .bad
def suiteM (x : Xn) : SM := fun σ T => if 3 < σ.length then suiteG x T else .bad
def catchM : RS → RS
  | .ex x σ T => suiteM x σ T
  | r => r
def bodyM (R : Dn) : SM := fun σ T => (R.val F_told callX σ T).then_ σ fun d T1 => put G 3 "found" d.1 d.2 σ T1
def tryM (R : Dn) : SM := fun σ T => catchM (bodyM R σ T)
def tryMS (C : CallT) : SM := fun σ T => catchM (sSet 3 (callC C "stage" [V (vVar 0), V (vVar 1)]) σ T)
open Classical in
noncomputable def U : ExtT := fun _ R F st => match isTry st with
  | true => if st = tryS ∧ F = F_told then some (tryM R) else none
  | false => none
theorem U_try (C : CallT) (R : Dn) : U C R F_told tryS = some (tryM R) := by
  unfold U
  rw [show isTry tryS = true by kernel_rfl]
  exact if_pos ⟨rfl, rfl⟩
abbrev fuelE : Nat := 30
noncomputable abbrev cl (n : Nat) : CallT := callN G EI U fuelE fuelE tab n
/-! ### the defs without the text -/
def m_plus (C : CallT) : SM := (sSeq [(sIf (tNotE (truE (pVar 1))) (sSeq [(sRetV 0)]) (sSeq [])), (sTg (tgT [3, 4]) (V (ixE (pVar 1) (V (kE (.int 0)))))), (sSet 2 (lcM (tgN 7) (cmpE .Gt (V (ixE (pVar 7) (V (kE (.int 0))))) (pVar 3)) (V (vVar 7)) [7] (itX (pVar 0)))), (sFor (tgT [5, 6]) (itX (V (vVar 0))) (sSeq [(sIf (cmpE .Eq (pVar 5) (pVar 3)) (sSeq [(sSet 4 (binE .Add (pVar 6) (pVar 4)))]) (sSeq []))])), (sRet (binE .Add (V (binE .Add (V (bltE "tuple" (pVar 2))) (V (tupE [(V (tupE [(V (vVar 3)), (V (vVar 4))]))])))) (V (slE (pVar 1) (oS (V (kE (.int 1)))) oN))))])
theorem c_plus (C : CallT) : stmsBy (sn G EI U C fuelE fuelE) d_plus.body ⟨d_plus.N, d_plus.sc, fun _ => true⟩ = m_plus C := by kernel_rfl
def m_power (C : CallT) : SM := (sSeq [(sRet (tupE [(V (tupE [(V (vVar 0)), (V (kE (.int 1)))]))]))])
theorem c_power (C : CallT) : stmsBy (sn G EI U C fuelE fuelE) d_power.body ⟨d_power.N, d_power.sc, fun _ => true⟩ = m_power C := by kernel_rfl
def m_is_next (C : CallT) : SM := (sSeq [(sRet (andE [(V (blE (cmpE .Gt (V (lenE (pVar 0))) (V (kE (.int 0)))))), (V (blE (cmpE .Eq (V (ixE (V (ixE (pVar 0) (V (negE (V (kE (.int 1))))))) (V (kE (.int 0))))) (V (tupE [])))))]))])
theorem c_is_next (C : CallT) : stmsBy (sn G EI U C fuelE fuelE) d_is_next.body ⟨d_is_next.N, d_is_next.sc, fun _ => true⟩ = m_is_next C := by kernel_rfl
def m_is_open (C : CallT) : SM := (sSeq [(sRet (andE [(V (blE (cmpE .Gt (V (lenE (pVar 0))) (V (kE (.int 0)))))), (V (blE (cmpE .NotEq (V (ixE (V (ixE (pVar 0) (V (negE (V (kE (.int 1))))))) (V (kE (.int 0))))) (V (tupE [])))))]))])
theorem c_is_open (C : CallT) : stmsBy (sn G EI U C fuelE fuelE) d_is_open.body ⟨d_is_open.N, d_is_open.sc, fun _ => true⟩ = m_is_open C := by kernel_rfl
def m_shortened (C : CallT) : SM := (sSeq [(sTg (tgT [1, 2]) (V (ixE (pVar 0) (V (negE (V (kE (.int 1)))))))), (sIf (cmpE .Eq (pVar 2) (V (kE (.int 1)))) (sSeq [(sRet (slE (pVar 0) oN (oS (V (negE (V (kE (.int 1))))))))]) (sSeq [])), (sRet (binE .Add (V (slE (pVar 0) oN (oS (V (negE (V (kE (.int 1)))))))) (V (tupE [(V (tupE [(V (vVar 1)), (V (binE .Sub (pVar 2) (V (kE (.int 1)))))]))]))))])
theorem c_shortened (C : CallT) : stmsBy (sn G EI U C fuelE fuelE) d_shortened.body ⟨d_shortened.N, d_shortened.sc, fun _ => true⟩ = m_shortened C := by kernel_rfl
def m_one_less (C : CallT) : SM := (sSeq [(sRet (callC C "shortened" [(V (vVar 0))]))])
theorem c_one_less (C : CallT) : stmsBy (sn G EI U C fuelE fuelE) d_one_less.body ⟨d_one_less.N, d_one_less.sc, fun _ => true⟩ = m_one_less C := by kernel_rfl
def m_below (C : CallT) : SM := (sSeq [(sSet 2 (ixE (V (ixE (pVar 0) (V (negE (V (kE (.int 1))))))) (V (kE (.int 0))))), (sSet 3 (callC C "shortened" [(V (vVar 0))])), (sIf (truE (V (callC C "is_open" [(V (vVar 2))]))) (sSeq [(sRet (callC C "plus" [(V (vVar 3)), (V (callC C "power" [(V (callC C "below" [(V (vVar 2)), (V (vVar 1))]))]))]))]) (sSeq [])), (sIf (cmpE .Eq (pVar 1) (V (kE (.int 0)))) (sSeq [(sRetV 3)]) (sSeq [])), (sRet (callC C "plus" [(V (vVar 3)), (V (tupE [(V (tupE [(V (callC C "one_less" [(V (vVar 2))])), (V (vVar 1))]))]))]))])
theorem c_below (C : CallT) : stmsBy (sn G EI U C fuelE fuelE) d_below.body ⟨d_below.N, d_below.sc, fun _ => true⟩ = m_below C := by kernel_rfl
def m_told (C : CallT) : SM := (sSeq [(sIf (cmpE .GtE (pVar 0) (V (kE (.int mostI)))) (sSeq [(sRaise EI "Above" [])]) (sSeq [])), (sRetV 0)])
theorem c_told (C : CallT) : stmsBy (sn G EI U C fuelE fuelE) d_told.body ⟨d_told.N, d_told.sc, fun _ => true⟩ = m_told C := by kernel_rfl
def m_raised (C : CallT) : SM := (sSeq [(sSet 2 (kE (.int 1))), (sFor (tgN 3) (itR1 (V (vVar 1))) (sSeq [(sAug 2 .Mult (V (vVar 0)))])), (sRetV 2)])
theorem c_raised (C : CallT) : stmsBy (sn G EI U C fuelE fuelE) d_raised.body ⟨d_raised.N, d_raised.sc, fun _ => true⟩ = m_raised C := by kernel_rfl
def m_goes_away (C : CallT) : SM := (sSeq [(sRet (bltE "all" (V (lcM (tgT [1, 2]) yesE (V (orE [(V (callC C "is_next" [(V (vVar 1))])), (V (andE [(V (callC C "is_open" [(V (vVar 1))])), (V (notE (V (callC C "goes_away" [(V (vVar 1))]))))]))])) [1, 2] (itX (pVar 0))))))])
theorem c_goes_away (C : CallT) : stmsBy (sn G EI U C fuelE fuelE) d_goes_away.body ⟨d_goes_away.N, d_goes_away.sc, fun _ => true⟩ = m_goes_away C := by kernel_rfl
def m_climbed (C : CallT) : SM := (sSeq [(sIf (cmpE .Eq (pVar 1) (V (kE (.int 0)))) (sSeq [(sRet (bltE "int" (V (callC C "goes_away" [(V (vVar 0))]))))]) (sSeq [])), (sIf (cmpE .Eq (pVar 1) (V (kE (.int 1)))) (sSeq [(sRet (kE (.int 2)))]) (sSeq [])), (sIf (cmpE .Eq (pVar 0) (V (kE (.tup [(.tup [(.tup []), (.int 1)])])))) (sSeq [(sRet (callC C "told" [(V (binE .Mult (V (kE (.int 2))) (pVar 1)))]))]) (sSeq [])), (sIf (tAllE [(cmpE .Eq (pVar 0) (V (kE (.tup [(.tup [(.tup []), (.int 2)])])))), (cmpE .LtE (pVar 1) (V (kE (.int 700))))]) (sSeq [(sRet (callC C "told" [(V (binE .Mult (pVar 1) (V (callC C "raised" [(V (kE (.int 2))), (V (vVar 1))]))))]))]) (sSeq [])), (sIf (tAllE [(cmpE .Eq (pVar 1) (V (kE (.int 2)))), (cmpE .Eq (pVar 0) (V (kE (.tup [(.tup [(.tup []), (.int 3)])]))))]) (sSeq [(sRet (kE (.int 2048)))]) (sSeq [])), (sIf (tAllE [(cmpE .Eq (pVar 1) (V (kE (.int 2)))), (cmpE .Eq (pVar 0) (V (kE (.tup [(.tup [(.tup [(.tup [(.tup []), (.int 1)])]), (.int 1)])]))))]) (sSeq [(sRet (kE (.int 8)))]) (sSeq [])), (sRaise EI "Above" [])])
theorem c_climbed (C : CallT) : stmsBy (sn G EI U C fuelE fuelE) d_climbed.body ⟨d_climbed.N, d_climbed.sc, fun _ => true⟩ = m_climbed C := by kernel_rfl
def m_doubled (C : CallT) : SM := (sSeq [(sIf (tAllE [(cmpE .Gt (pVar 0) (V (kE (.int 0)))), (cmpE .Gt (pVar 1) (V (kE (.int 700))))]) (sSeq [(sRaise EI "Above" [])]) (sSeq [])), (sRet (callC C "told" [(V (binE .Mult (pVar 0) (V (callC C "raised" [(V (kE (.int 2))), (V (twoE "min" [(V (vVar 1)), (V (kE (.int 700)))]))]))))]))])
theorem c_doubled (C : CallT) : stmsBy (sn G EI U C fuelE fuelE) d_doubled.body ⟨d_doubled.N, d_doubled.sc, fun _ => true⟩ = m_doubled C := by kernel_rfl
def m_climbed_often (C : CallT) : SM := (sSeq [(sIf (cmpE .Eq (pVar 0) (V (tupE []))) (sSeq [(sRet (callC C "told" [(V (binE .Add (pVar 2) (pVar 1)))]))]) (sSeq [])), (sWh (cmpE .Gt (pVar 1) (V (kE (.int 0)))) (sSeq [(sIf (cmpE .Eq (pVar 0) (V (kE (.tup [(.tup [(.tup []), (.int 1)])])))) (sSeq [(sRet (callC C "doubled" [(V (vVar 2)), (V (vVar 1))]))]) (sSeq [])), (sSet 3 (callC C "climbed" [(V (vVar 0)), (V (vVar 2))])), (sIf (cmpE .Eq (pVar 3) (pVar 2)) (sSeq [(sRetV 2)]) (sSeq [])), (sSet 2 (vVar 3)), (sAug 1 .Sub (V (kE (.int 1))))])), (sRetV 2)])
theorem c_climbed_often (C : CallT) : stmsBy (sn G EI U C fuelE fuelE) d_climbed_often.body ⟨d_climbed_often.N, d_climbed_often.sc, fun _ => true⟩ = m_climbed_often C := by kernel_rfl
def m_stage (C : CallT) : SM := (sSeq [(sFor (tgT [2, 3]) (itRv (V (vVar 0))) (sSeq [(sSet 1 (callC C "climbed_often" [(V (vVar 2)), (V (vVar 3)), (V (vVar 1))]))])), (sRet (callC C "told" [(V (vVar 1))]))])
theorem c_stage (C : CallT) : stmsBy (sn G EI U C fuelE fuelE) d_stage.body ⟨d_stage.N, d_stage.sc, fun _ => true⟩ = m_stage C := by kernel_rfl
def m__law_stream (C : CallT) : SM := (sSeq [(sSet 1 (kE (.int 17))), (sFor (tgN 2) (itX (V (vVar 0))) (sSeq [(sSet 1 (binE .Mod (V (bltE "int" (V (binE .Add (V (binE .Add (V (binE .Mult (pVar 1) (V (kE (.int 48271))))) (V (binE .Mod (V (bltE "int" (pVar 2))) (V (kE (.int 65521))))))) (V (kE (.int 1))))))) (V (kE (.int 2147483647)))))])), (sRet (lstE [(V (listE (pVar 0))), (V (kE (.int 0))), (V (kE (.int 0))), (V (vVar 1))]))])
theorem c__law_stream (C : CallT) : stmsBy (sn G EI U C fuelE fuelE) d__law_stream.body ⟨d__law_stream.N, d__law_stream.sc, fun _ => true⟩ = m__law_stream C := by kernel_rfl
def m__law_draw (C : CallT) : SM := (sSeq [(sIf (tAllE [(cmpE .Eq (V (ixE (pVar 0) (V (kE (.int 1))))) (V (kE (.int 0)))), (cmpE .Lt (V (ixE (pVar 0) (V (kE (.int 2))))) (V (lenE (V (ixE (pVar 0) (V (kE (.int 0))))))))]) (sSeq [(sSub 0 (V (kE (.int 1))) (V (bltE "abs" (V (bltE "int" (V (ixE (V (ixE (pVar 0) (V (kE (.int 0))))) (V (ixE (pVar 0) (V (kE (.int 2)))))))))))), (sSub 0 (V (kE (.int 2))) (V (binE .Add (V (ixE (pVar 0) (V (kE (.int 2))))) (V (kE (.int 1))))))]) (sSeq [])), (sIf (cmpE .Eq (V (ixE (pVar 0) (V (kE (.int 1))))) (V (kE (.int 0)))) (sSeq [(sSub 0 (V (kE (.int 3))) (V (binE .Mod (V (bltE "int" (V (binE .Add (V (binE .Mult (V (ixE (pVar 0) (V (kE (.int 3))))) (V (kE (.int 48271))))) (V (kE (.int 11))))))) (V (kE (.int 2147483647)))))), (sRet (binE .Mod (V (bltE "int" (V (binE .FloorDiv (V (ixE (pVar 0) (V (kE (.int 3))))) (V (kE (.int 97))))))) (pVar 1)))]) (sSeq [])), (sSet 2 (binE .Mod (V (bltE "int" (V (ixE (pVar 0) (V (kE (.int 1))))))) (pVar 1))), (sSub 0 (V (kE (.int 1))) (V (binE .FloorDiv (V (ixE (pVar 0) (V (kE (.int 1))))) (pVar 1)))), (sRetV 2)])
theorem c__law_draw (C : CallT) : stmsBy (sn G EI U C fuelE fuelE) d__law_draw.body ⟨d__law_draw.N, d__law_draw.sc, fun _ => true⟩ = m__law_draw C := by kernel_rfl
def m__law_pick (C : CallT) : SM := (sSeq [(sRet (ixE (pVar 1) (V (callC C "_law_draw" [(V (vVar 0)), (V (lenE (pVar 1)))]))))])
theorem c__law_pick (C : CallT) : stmsBy (sn G EI U C fuelE fuelE) d__law_pick.body ⟨d__law_pick.N, d__law_pick.sc, fun _ => true⟩ = m__law_pick C := by kernel_rfl
def m__law_ordinal (C : CallT) : SM := (sSeq [(sSet 2 (lstE [])), (sFor (tgN 3) (itR1 (V (callC C "_law_draw" [(V (vVar 0)), (V (kE (.int 4)))]))) (sSeq [(sSet 4 (tupE [])), (sIf (tAllE [(cmpE .Gt (pVar 1) (V (kE (.int 0)))), (cmpE .Gt (V (callC C "_law_draw" [(V (vVar 0)), (V (kE (.int 3)))])) (V (kE (.int 0))))]) (sSeq [(sSet 4 (callC C "_law_ordinal" [(V (vVar 0)), (V (binE .Sub (pVar 1) (V (kE (.int 1)))))]))]) (sSeq [])), (sIf (cmpE .NotIn (pVar 4) (V (lcM (tgN 5) yesE (V (ixE (pVar 5) (V (kE (.int 0))))) [5] (itX (pVar 2))))) (sSeq [(sMut 2 "append" [(V (tupE [(V (vVar 4)), (V (binE .Add (V (kE (.int 1))) (V (callC C "_law_draw" [(V (vVar 0)), (V (ixE (V (lstE [(V (kE (.int 2))), (V (kE (.int 3))), (V (kE (.int 10))), (V (binE .Pow (V (kE (.int 10))) (V (kE (.int 30)))))])) (V (callC C "_law_draw" [(V (vVar 0)), (V (kE (.int 4)))]))))]))))]))] (fun _ => sNx))]) (sSeq []))])), (sRet (bltE "tuple" (V (revE (V (bltE "sorted" (pVar 2)))))))])
theorem c__law_ordinal (C : CallT) : stmsBy (sn G EI U C fuelE fuelE) d__law_ordinal.body ⟨d__law_ordinal.N, d__law_ordinal.sc, fun _ => true⟩ = m__law_ordinal C := by kernel_rfl
def m__law_is_next (C : CallT) : SM := (sSeq [(sRet (andE [(V (blE (cmpE .NotEq (pVar 0) (V (tupE []))))), (V (blE (cmpE .Eq (V (ixE (V (ixE (pVar 0) (V (binE .Sub (V (lenE (pVar 0))) (V (kE (.int 1))))))) (V (kE (.int 0))))) (V (tupE [])))))]))])
theorem c__law_is_next (C : CallT) : stmsBy (sn G EI U C fuelE fuelE) d__law_is_next.body ⟨d__law_is_next.N, d__law_is_next.sc, fun _ => true⟩ = m__law_is_next C := by kernel_rfl
def m__law_less (C : CallT) : SM := (sSeq [(sTg (tgT [1, 2]) (V (ixE (pVar 0) (V (binE .Sub (V (lenE (pVar 0))) (V (kE (.int 1)))))))), (sRet (binE .Add (V (slE (pVar 0) oN (oS (V (binE .Sub (V (lenE (pVar 0))) (V (kE (.int 1)))))))) (V (binE .Mult (V (tupE [(V (tupE [(V (vVar 1)), (V (binE .Sub (pVar 2) (V (kE (.int 1)))))]))])) (V (bltE "int" (V (blE (cmpE .Gt (pVar 2) (V (kE (.int 1))))))))))))])
theorem c__law_less (C : CallT) : stmsBy (sn G EI U C fuelE fuelE) d__law_less.body ⟨d__law_less.N, d__law_less.sc, fun _ => true⟩ = m__law_less C := by kernel_rfl
def m__law_below (C : CallT) : SM := (sSeq [(sSet 2 (ixE (V (ixE (pVar 0) (V (binE .Sub (V (lenE (pVar 0))) (V (kE (.int 1))))))) (V (kE (.int 0))))), (sIf (truE (V (callC C "_law_is_next" [(V (vVar 2))]))) (sSeq [(sRet (binE .Add (V (callC C "_law_less" [(V (vVar 0))])) (V (binE .Mult (V (tupE [(V (tupE [(V (callC C "_law_less" [(V (vVar 2))])), (V (vVar 1))]))])) (V (bltE "int" (V (blE (cmpE .Gt (pVar 1) (V (kE (.int 0))))))))))))]) (sSeq [])), (sRet (binE .Add (V (callC C "_law_less" [(V (vVar 0))])) (V (tupE [(V (tupE [(V (callC C "_law_below" [(V (vVar 2)), (V (vVar 1))])), (V (kE (.int 1)))]))]))))])
theorem c__law_below (C : CallT) : stmsBy (sn G EI U C fuelE fuelE) d__law_below.body ⟨d__law_below.N, d__law_below.sc, fun _ => true⟩ = m__law_below C := by kernel_rfl
def m__law_goes_away (C : CallT) : SM := (sSeq [(sSet 1 (lcM (tgN 2) yesE (V (ixE (pVar 2) (V (kE (.int 0))))) [2] (itX (pVar 0)))), (sRet (bltE "all" (V (lcM (tgN 3) yesE (V (orE [(V (callC C "_law_is_next" [(V (vVar 3))])), (V (andE [(V (blE (cmpE .NotEq (pVar 3) (V (tupE []))))), (V (notE (V (callC C "_law_goes_away" [(V (vVar 3))]))))]))])) [3] (itX (pVar 1))))))])
theorem c__law_goes_away (C : CallT) : stmsBy (sn G EI U C fuelE fuelE) d__law_goes_away.body ⟨d__law_goes_away.N, d__law_goes_away.sc, fun _ => true⟩ = m__law_goes_away C := by kernel_rfl
def m__law_climb (C : CallT) : SM := (sSeq [(sSet 2 (tupE [(V (tupE [(V (tupE [])), (V (kE (.int 2)))]))])), (sIf (cmpE .Eq (pVar 0) (V (tupE []))) (sSeq [(sRet (binE .Add (pVar 1) (V (kE (.int 1)))))]) (sSeq [])), (sIf (cmpE .Lt (pVar 1) (V (kE (.int 2)))) (sSeq [(sRet (ixE (V (lstE [(V (bltE "int" (V (callC C "_law_goes_away" [(V (vVar 0))])))), (V (kE (.int 2)))])) (V (vVar 1))))]) (sSeq [])), (sIf (cmpE .Eq (pVar 0) (V (tupE [(V (tupE [(V (tupE [])), (V (kE (.int 1)))]))]))) (sSeq [(sRet (binE .Mult (V (kE (.int 2))) (pVar 1)))]) (sSeq [])), (sIf (tAllE [(cmpE .Eq (pVar 0) (pVar 2)), (cmpE .Lt (pVar 1) (V (kE (.int 700))))]) (sSeq [(sRet (binE .Mult (pVar 1) (V (callC C "_law_doubled" [(V (vVar 1))]))))]) (sSeq [])), (sIf (tAllE [(cmpE .Eq (pVar 1) (V (kE (.int 2)))), (cmpE .In (pVar 0) (V (tupE [(V (tupE [(V (tupE [(V (tupE [])), (V (kE (.int 3)))]))])), (V (tupE [(V (tupE [(V (tupE [(V (tupE [(V (tupE [])), (V (kE (.int 1)))]))])), (V (kE (.int 1)))]))]))])))]) (sSeq [(sRet (ixE (V (lstE [(V (kE (.int 8))), (V (kE (.int 2048)))])) (V (bltE "int" (V (blE (cmpE .Eq (pVar 0) (V (tupE [(V (tupE [(V (tupE [])), (V (kE (.int 3)))]))])))))))))]) (sSeq [])), (sRet (kE .non))])
theorem c__law_climb (C : CallT) : stmsBy (sn G EI U C fuelE fuelE) d__law_climb.body ⟨d__law_climb.N, d__law_climb.sc, fun _ => true⟩ = m__law_climb C := by kernel_rfl
def m__law_doubled (C : CallT) : SM := (sSeq [(sSet 1 (kE (.int 1))), (sFor (tgN 2) (itR1 (V (vVar 0))) (sSeq [(sSet 1 (binE .Mult (pVar 1) (V (kE (.int 2)))))])), (sRetV 1)])
theorem c__law_doubled (C : CallT) : stmsBy (sn G EI U C fuelE fuelE) d__law_doubled.body ⟨d__law_doubled.N, d__law_doubled.sc, fun _ => true⟩ = m__law_doubled C := by kernel_rfl
def m__law_stage (C : CallT) : SM := (sSeq [(sSet 2 (binE .Pow (V (kE (.int 10))) (V (kE (.int 50))))), (sSet 2 (binE .Mult (V (binE .Mult (V (binE .Mult (pVar 2) (pVar 2))) (pVar 2))) (pVar 2))), (sFor (tgT [3, 4]) (itX (V (revE (pVar 0)))) (sSeq [(sIf (cmpE .Eq (pVar 3) (V (tupE []))) (sSeq [(sSet 1 (binE .Add (pVar 1) (pVar 4)))]) (sSeq [(sIf (tAllE [(cmpE .Eq (pVar 3) (V (tupE [(V (tupE [(V (tupE [])), (V (kE (.int 1)))]))]))), (cmpE .Gt (pVar 1) (V (kE (.int 0))))]) (sSeq [(sIf (cmpE .Gt (pVar 4) (V (kE (.int 700)))) (sSeq [(sRet (kE .non))]) (sSeq [])), (sSet 1 (binE .Mult (pVar 1) (V (callC C "_law_doubled" [(V (vVar 4))]))))]) (sSeq [(sFor (tgN 5) (itR1 (V (twoE "min" [(V (vVar 4)), (V (kE (.int 6)))]))) (sSeq [(sIf (tAllE [(cmpE .IsNot (pVar 1) (V (kE .non))), (cmpE .Lt (pVar 1) (pVar 2))]) (sSeq [(sSet 1 (callC C "_law_climb" [(V (vVar 3)), (V (vVar 1))]))]) (sSeq []))]))]))])), (sIf (tAnyE [(cmpE .Is (pVar 1) (V (kE .non))), (cmpE .GtE (pVar 1) (pVar 2))]) (sSeq [(sRet (kE .non))]) (sSeq []))])), (sRetV 1)])
theorem c__law_stage (C : CallT) : stmsBy (sn G EI U C fuelE fuelE) d__law_stage.body ⟨d__law_stage.N, d__law_stage.sc, fun _ => true⟩ = m__law_stage C := by kernel_rfl
def m__law_told (C : CallT) : SM := (sSeq [(tryMS C), (sIf (tAnyE [(truE (V (isiE "bool" (pVar 3)))), (tNotE (truE (V (isiE "int" (pVar 3)))))]) (sSeq [(sRet (kE .non))]) (sSeq [])), (sRet (lstE [(V (vVar 3))]))])
theorem c__law_told (C : CallT) : stmsBy (sn G EI U C fuelE fuelE) d__law_told.body ⟨d__law_told.N, d__law_told.sc, fun _ => true⟩ = m__law_told C := by 
  have hb : d__law_told.body = [tryS, s_told 1, s_told 2] := by kernel_rfl
  have h2 : stmsBy (sn G EI U C fuelE fuelE) [s_told 1, s_told 2] F_told = sSeq [(sIf (tAnyE [(truE (V (isiE "bool" (pVar 3)))), (tNotE (truE (V (isiE "int" (pVar 3)))))]) (sSeq [(sRet (kE .non))]) (sSeq [])), (sRet (lstE [(V (vVar 3))]))] := by kernel_rfl
  have h1 : sn G EI U C fuelE fuelE F_told tryS = tryMS C := by
    have e : sn G EI U C fuelE fuelE F_told tryS = fun σ T => (match U C (dn G C fuelE) F_told tryS with
      | some m => m
      | none => stepStm G EI C (dn G C fuelE) (stmsBy (sn G EI U C fuelE 29)) F_told tryS) σ T := rfl
    rw [e, U_try]
    kernel_rfl
  rw [hb]
  show (fun σ T => (sn G EI U C fuelE fuelE F_told tryS σ T).seq (stmsBy (sn G EI U C fuelE fuelE) [s_told 1, s_told 2] F_told)) = _
  rw [h1, h2]
  rfl
def m__law_counted (C : CallT) : SM := (sSeq [(sFor (tgN 2) (itR1 (V (kE (.int 400)))) (sSeq [(sIf (cmpE .Eq (pVar 0) (V (tupE []))) (sSeq [(sRetV 1)]) (sSeq [])), (sIf (truE (V (callC C "_law_is_next" [(V (vVar 0))]))) (sSeq [(sSet 0 (callC C "_law_less" [(V (vVar 0))])), (sSet 1 (binE .Add (pVar 1) (V (kE (.int 1)))))]) (sSeq [(sSet 0 (callC C "_law_below" [(V (vVar 0)), (V (vVar 1))]))]))])), (sRet (kE .non))])
theorem c__law_counted (C : CallT) : stmsBy (sn G EI U C fuelE fuelE) d__law_counted.body ⟨d__law_counted.N, d__law_counted.sc, fun _ => true⟩ = m__law_counted C := by kernel_rfl
def m_law (C : CallT) : SM := (sSeq [(sSetR 1 (callC C "_law_stream" [(V (vVar 0))])), (sSet 2 (callC C "_law_ordinal" [(V (vVar 1)), (V (callC C "_law_draw" [(V (vVar 1)), (V (kE (.int 4)))]))])), (sSet 3 (binE .Pow (V (kE (.int 10))) (V (kE (.int 50))))), (sSet 3 (binE .Mult (V (binE .Mult (V (binE .Mult (pVar 3) (pVar 3))) (pVar 3))) (pVar 3))), (sSet 4 (callC C "_law_pick" [(V (vVar 1)), (V (lstE [(V (callC C "_law_draw" [(V (vVar 1)), (V (kE (.int 4)))])), (V (callC C "_law_draw" [(V (vVar 1)), (V (kE (.int 13)))])), (V (binE .Add (V (binE .Pow (V (kE (.int 10))) (V (kE (.int 60))))) (V (callC C "_law_draw" [(V (vVar 1)), (V (kE (.int 9)))]))))]))])), (sIf (cmpE .Eq (V (callC C "_law_draw" [(V (vVar 1)), (V (kE (.int 8)))])) (V (kE (.int 0)))) (sSeq [(sSet 4 (binE .Sub (V (binE .Sub (pVar 3) (V (kE (.int 1))))) (V (callC C "_law_draw" [(V (vVar 1)), (V (kE (.int 3)))]))))]) (sSeq [])), (sSet 5 (tupE [(V (callC C "is_next" [(V (vVar 2))])), (V (callC C "is_open" [(V (vVar 2))]))])), (sIf (tAnyE [(tNotE (truE (V (bltE "all" (V (lcM (tgN 10) yesE (V (isiE "bool" (pVar 10))) [10] (itX (pVar 5)))))))), (cmpE .NotEq (pVar 5) (V (tupE [(V (callC C "_law_is_next" [(V (vVar 2))])), (V (andE [(V (blE (cmpE .NotEq (pVar 2) (V (tupE []))))), (V (notE (V (callC C "_law_is_next" [(V (vVar 2))]))))]))])))]) (sSeq [(sRet (kE (.bl false)))]) (sSeq [])), (sSet 6 (callC C "_law_stage" [(V (vVar 2)), (V (vVar 4))])), (sIf (cmpE .NotEq (V (callC C "_law_told" [(V (vVar 2)), (V (vVar 4))])) (V (binE .Mult (V (lstE [(V (vVar 6))])) (V (bltE "int" (V (blE (cmpE .IsNot (pVar 6) (V (kE .non)))))))))) (sSeq [(sRet (kE (.bl false)))]) (sSeq [])), (sSet 7 (callC C "_law_counted" [(V (vVar 2)), (V (vVar 4))])), (sIf (tAllE [(cmpE .IsNot (pVar 7) (V (kE .non))), (cmpE .NotEq (V (binE .Mult (V (lstE [(V (vVar 7))])) (V (bltE "int" (V (blE (cmpE .Lt (pVar 7) (pVar 3)))))))) (V (binE .Mult (V (lstE [(V (vVar 6))])) (V (bltE "int" (V (blE (cmpE .IsNot (pVar 6) (V (kE .non))))))))))]) (sSeq [(sRet (kE (.bl false)))]) (sSeq [])), (sIf (cmpE .Eq (pVar 2) (V (tupE []))) (sSeq [(sRet (kE (.bl true)))]) (sSeq [])), (sIf (truE (V (callC C "_law_is_next" [(V (vVar 2))]))) (sSeq [(sSet 9 (callC C "one_less" [(V (vVar 2))])), (sIf (tAnyE [(tNotE (truE (V (isiE "tuple" (pVar 9))))), (cmpE .NotEq (pVar 9) (V (callC C "_law_less" [(V (vVar 2))])))]) (sSeq [(sRet (kE (.bl false)))]) (sSeq [])), (sRet (orE [(V (blE (cmpE .Eq (V (binE .Add (pVar 4) (V (kE (.int 1))))) (pVar 3)))), (V (blE (cmpE .Eq (V (callC C "_law_told" [(V (vVar 9)), (V (binE .Add (pVar 4) (V (kE (.int 1)))))])) (V (callC C "_law_told" [(V (vVar 2)), (V (vVar 4))])))))]))]) (sSeq [])), (sSet 8 (callC C "below" [(V (vVar 2)), (V (vVar 4))])), (sIf (tAnyE [(tNotE (truE (V (isiE "tuple" (pVar 8))))), (cmpE .NotEq (pVar 8) (V (callC C "_law_below" [(V (vVar 2)), (V (vVar 4))]))), (tNotE (cmpE .Lt (pVar 8) (pVar 2)))]) (sSeq [(sRet (kE (.bl false)))]) (sSeq [])), (sRet (andE [(V (blE (cmpE .Eq (V (callC C "_law_told" [(V (vVar 8)), (V (vVar 4))])) (V (callC C "_law_told" [(V (vVar 2)), (V (vVar 4))]))))), (V (blE (cmpE .Gt (V (callC C "below" [(V (vVar 2)), (V (binE .Add (pVar 4) (V (kE (.int 1)))))])) (pVar 8))))]))])
theorem c_law (C : CallT) : stmsBy (sn G EI U C fuelE fuelE) d_law.body ⟨d_law.N, d_law.sc, fun _ => true⟩ = m_law C := by kernel_rfl
end K71


set_option Elab.async false
set_option linter.all false
set_option maxRecDepth 100000
set_option maxHeartbeats 4000000
namespace K71
open PySem hiding Env
open Mi
def finR : RS → Res (D × Bool)
  | .nx _ T => .ok (.non, false) T
  | .rt d b T => .ok (d, b) T
  | .ex x _ T => .ex x T
  | _ => .bad
@[simp] theorem finR_nx (σ : Env) (T : Sto) : finR (.nx σ T) = .ok (.non, false) T := rfl
@[simp] theorem finR_rt (d : D) (b : Bool) (T : Sto) : finR (.rt d b T) = .ok (d, b) T := rfl
@[simp] theorem finR_ex (x : Xn) (σ : Env) (T : Sto) : finR (.ex x σ T) = .ex x T := rfl
theorem cl_succ {n : Nat} {f : Str} {d : Df} {ds : List D} {T : Sto} {m : SM} (h : tab.lookup f = some d) (hl : ds.length = d.np) (c : stmsBy (sn G EI U (cl n) fuelE fuelE) d.body ⟨d.N, d.sc, fun _ => true⟩ = m) : cl (n + 1) f ds T = finR (m (startE d ds) T) := by
  show (match tab.lookup f with
    | some d => runDf G EI U (cl n) fuelE fuelE d ds T
    | none => .bad) = _
  rw [h]
  show runDf G EI U (cl n) fuelE fuelE d ds T = _
  unfold runDf
  rw [if_pos hl, c]
  cases m (startE d ds) T <;> rfl
theorem r_draw (n : Nat) (a b : D) (T : Sto) : cl (n + 1) "_law_draw" [a, b] T = finR (m__law_draw (cl n) [.fz a, .fz b, .no] T) := cl_succ (d := d__law_draw) (by kernel_rfl) (by kernel_rfl) (c__law_draw _)
/-! ### the stream -/
/-- script, stream -/
abbrev St (fr : Ob) (cs : List D) (a p x : Int) : Sto := [fr, .lst [.lst cs, .int a, .int p, .int x]]
def StO (T : Sto) : Prop := ∃ fr cs a p x, T = St fr cs a p x ∧ (∀ c ∈ cs, ∃ i : Int, c = .int i) ∧ 0 ≤ p ∧ 0 ≤ x ∧ x < 2147483647
def Small (m : Int) : Prop := 0 < m ∧ m < 1267650600228229401496703205376
theorem itemS (i : Int) (n : Nat) {ds : List D} {d : D} {σ : Env} {T : Sto} (hi : i = n) (h : ds[n]? = some d) : itemM (.lst ds) (.int i) σ T = .ok d T := by
  subst hi
  exact itemL h
section
variable {σ : Env} {T : Sto}
@[simp] theorem it4_2 (a b c d : D) : itemM (.lst [a, b, c, d]) (.int 2) σ T = .ok c T := itemL (i := 2) rfl
@[simp] theorem it4_3 (a b c d : D) : itemM (.lst [a, b, c, d]) (.int 3) σ T = .ok d T := itemL (i := 3) rfl
@[simp] theorem st4_1 (fr : Ob) (a b c d e : D) (k : Nat) : setG (some (.fz (.obj 1))) k (.int 1) e σ [fr, .lst [a, b, c, d]] = .nx σ [fr, .lst [a, e, c, d]] := setG_obj (xs := [a, b, c, d]) (j := 1) rfl (by decide) (show (1 : Int) < ((4 : Nat) : Int) by decide)
@[simp] theorem st4_2 (fr : Ob) (a b c d e : D) (k : Nat) : setG (some (.fz (.obj 1))) k (.int 2) e σ [fr, .lst [a, b, c, d]] = .nx σ [fr, .lst [a, b, e, d]] := setG_obj (xs := [a, b, c, d]) (j := 2) rfl (by decide) (show (2 : Int) < ((4 : Nat) : Int) by decide)
@[simp] theorem st4_3 (fr : Ob) (a b c d e : D) (k : Nat) : setG (some (.fz (.obj 1))) k (.int 3) e σ [fr, .lst [a, b, c, d]] = .nx σ [fr, .lst [a, b, c, e]] := setG_obj (xs := [a, b, c, d]) (j := 3) rfl (by decide) (show (3 : Int) < ((4 : Nat) : Int) by decide)
end
theorem StO.mk' {fr : Ob} {cs : List D} {a p x : Int} (h : ∀ c ∈ cs, ∃ i : Int, c = .int i) (h1 : 0 ≤ p) (h2 : 0 ≤ x) (h3 : x < 2147483647) : StO (St fr cs a p x) := ⟨fr, cs, a, p, x, rfl, h, h1, h2, h3⟩
theorem draw_ok (n : Nat) {T : Sto} {m : Int} (hT : StO T) (hm : Small m) : ∃ v T', cl (n + 1) "_law_draw" [.obj 1, .int m] T = .ok (.int v, false) T' ∧ StO T' ∧ 0 ≤ v ∧ v < m := by
  obtain ⟨fr, cs, a, p, x, rfl, hcs, hp, hx, hx2⟩ := hT
  obtain ⟨hm0, hm1⟩ := hm
  have hm2 : m < 1267650600228229401496703205376 := hm1
  have hx3 : x < 1267650600228229401496703205376 := by omega
  have k1 : 0 ≤ (x * 48271 + 11) % 2147483647 := Int.emod_nonneg _ (by decide)
  have k2 : (x * 48271 + 11) % 2147483647 < 2147483647 := Int.emod_lt_of_pos _ (by decide)
  have v1 : ∀ y : Int, 0 ≤ y % m ∧ y % m < m := fun y => ⟨Int.emod_nonneg _ (by omega), Int.emod_lt_of_pos _ hm0⟩
  rw [r_draw]
  by_cases ha : a = 0
  · subst ha
    by_cases hl : p < cs.length
    · obtain ⟨q, rfl⟩ := Int.eq_ofNat_of_zero_le hp
      have hq : q < cs.length := by omega
      obtain ⟨i, hi⟩ := hcs _ (List.getElem_mem hq)
      have hi : cs[q]? = some (.int i) := by rw [List.getElem?_eq_getElem hq, hi]
      have hit : ∀ (σ : Env) (T : Sto), itemM (.lst cs) (.int (q : Int)) σ T = .ok (.int i) T := fun _ _ => itemL hi
      by_cases h0 : i = 0
      · subst h0
        simp [m__law_draw, hl, hit, hx, hx3, hm0]
        exact ⟨_, _, ⟨rfl, rfl⟩, StO.mk' hcs (by omega) k1 k2, v1 _⟩
      · have h1 : (if i < 0 then -i else i) ≠ 0 := by split <;> omega
        simp [m__law_draw, hl, hit, h1, hm0, hm2]
        exact ⟨_, _, ⟨rfl, rfl⟩, StO.mk' hcs (by omega) hx hx2, v1 _⟩
    · simp [m__law_draw, hl, hx, hx3, hm0]
      exact ⟨_, _, ⟨rfl, rfl⟩, StO.mk' hcs hp k1 k2, v1 _⟩
  · simp [m__law_draw, ha, hm0, hm2]
    exact ⟨_, _, ⟨rfl, rfl⟩, StO.mk' hcs hp hx hx2, v1 _⟩
/-! ### what is drawn -/
def iL (ns : List Int) : List D := ns.map .int
@[simp] theorem iL_len (ns : List Int) : (iL ns).length = ns.length := by simp [iL]
theorem iL_nil : iL [] = [] := rfl
theorem iL_cons (n : Int) (ns : List Int) : iL (n :: ns) = .int n :: iL ns := rfl
theorem iL_app (ms ns : List Int) : iL (ms ++ ns) = iL ms ++ iL ns := by simp [iL]
theorem iL_get {ns : List Int} {i : Nat} {n : Int} (h : ns[i]? = some n) : (iL ns)[i]? = some (.int n) := by simp [iL, h]
theorem iL_set (ns : List Int) (i : Nat) (n : Int) : (iL ns).set i (.int n) = iL (ns.set i n) := by simp [iL]
theorem iL_drop (ns : List Int) (i : Nat) : (iL ns).drop i = iL (ns.drop i) := by simp [iL]
theorem iL_take (ns : List Int) (i : Nat) : (iL ns).take i = iL (ns.take i) := by simp [iL]
def itmO (o : Option Ob) : EM (List D) := fun _ T => match o with
  | some (.frz ds) => .ok ds T
  | _ => .bad
section
variable {σ : Env} {T : Sto}
@[simp] theorem ev_itmO (n : Nat) : itemsM (.obj n) σ T = itmO T[n]? σ T := rfl
@[simp] theorem itmO_frz (ds : List D) : itmO (some (.frz ds)) σ T = .ok ds T := rfl
def lstO (o : Option Ob) : EM (D × Bool) := fun _ T => match o with
  | some (.frz ds) => .ok (.lst ds, true) T
  | _ => .bad
@[simp] theorem ev_lstO (n : Nat) : listM (.obj n) σ T = lstO T[n]? σ T := rfl
@[simp] theorem lstO_frz (ds : List D) : lstO (some (.frz ds)) σ T = .ok (.lst ds, true) T := rfl
end
theorem r_stream (n : Nat) (a : D) (T : Sto) : cl (n + 1) "_law_stream" [a] T = finR (m__law_stream (cl n) [.fz a, .no, .no] T) := cl_succ (d := d__law_stream) (by kernel_rfl) (by kernel_rfl) (c__law_stream _)
theorem stream_ok (n : Nat) (sc : List Int) : ∃ x, cl (n + 1) "_law_stream" [.obj 0] [.frz (iL sc)] = .ok (.lst [.lst (iL sc), .int 0, .int 0, .int x], true) [.frz (iL sc)] ∧ 0 ≤ x ∧ x < 2147483647 := by
  rw [r_stream]
  simp [m__law_stream]
  refine for_then (P := fun r => ∃ x, finR r = .ok (.lst [.lst (iL sc), .int 0, .int 0, .int x], true) [.frz (iL sc)] ∧ 0 ≤ x ∧ x < 2147483647)
    (fun ds σ T => (∃ ns, ds = iL ns) ∧ T = [.frz (iL sc)] ∧ ∃ x s, σ = [.fz (.obj 0), .fz (.int x), s] ∧ 0 ≤ x ∧ x < 2147483647) ?_ ⟨⟨sc, rfl⟩, rfl, 17, .no, rfl, by decide, by decide⟩ ?_
  · rintro d ds σ T ⟨⟨ns, hn⟩, rfl, x, s, rfl, h0, h1⟩
    cases ns with
    | nil => cases hn
    | cons i ns =>
      cases hn
      have h2 : x < 1267650600228229401496703205376 := by omega
      refine ⟨_, _, _, rfl, by simp [h0, h2]; exact ⟨rfl, rfl⟩, ⟨ns, rfl⟩, rfl, _, _, rfl, Int.emod_nonneg _ (by decide), Int.emod_lt_of_pos _ (by decide)⟩
  · rintro σ T ⟨_, rfl, x, s, rfl, h0, h1⟩
    exact ⟨x, by simp, h0, h1⟩
theorem r_pick (n : Nat) (a b : D) (T : Sto) : cl (n + 1) "_law_pick" [a, b] T = finR (m__law_pick (cl n) [.fz a, .fz b] T) := cl_succ (d := d__law_pick) (by kernel_rfl) (by kernel_rfl) (c__law_pick _)
theorem pick_ok (n : Nat) {T : Sto} (hT : StO T) (ds : List D) (h0 : 0 < ds.length) (h1 : ds.length ≤ 1000) : ∃ d T', cl (n + 2) "_law_pick" [.obj 1, .lst ds] T = .ok (d, false) T' ∧ StO T' ∧ d ∈ ds := by
  rw [r_pick]
  obtain ⟨v, T', e, hT', v0, v1⟩ := draw_ok n hT (m := (ds.length : Int)) ⟨by omega, by omega⟩
  obtain ⟨q, rfl⟩ := Int.eq_ofNat_of_zero_le v0
  have hq : q < ds.length := by omega
  have hg : ds[q]? = some ds[q] := List.getElem?_eq_getElem hq
  have hit : ∀ (σ : Env) (T : Sto), itemM (.lst ds) (.int (q : Int)) σ T = .ok ds[q] T := fun _ _ => itemL hg
  simp [m__law_pick, e, hit]
  exact ⟨_, _, ⟨rfl, rfl⟩, hT', List.getElem_mem hq⟩
end K71


set_option Elab.async false
set_option linter.all false
set_option maxRecDepth 100000
set_option maxHeartbeats 4000000
namespace K71
open PySem hiding Env
open Mi
/-! ### data of ints and tuples -/
mutual
def ot : Mi.D → Bool
  | .int _ => true
  | .tup ds => ots ds
  | _ => false
def ots : List Mi.D → Bool
  | [] => true
  | d :: ds => ot d && ots ds
end
mutual
theorem eqv_ot : ∀ a b : Mi.D, ot a = true → ot b = true → (a.eqv b = true ↔ a = b)
  | .int i, .int j, _, _ => by simp [D.eqv, D.py, PyData.eqv]
  | .int i, .tup ys, _, _ => by simp [D.eqv, D.py, PyData.eqv]
  | .tup xs, .int j, _, _ => by simp [D.eqv, D.py, PyData.eqv]
  | .tup xs, .tup ys, h, k => by
    have e := eqvs_ot xs ys h k
    show PyData.eqv (.tuple (D.pys xs)) (.tuple (D.pys ys)) = true ↔ _
    rw [PyData.eqv, e]
    simp
  | .non, _, h, _ => by cases h
  | .bl _, _, h, _ => by cases h
  | .str _, _, h, _ => by cases h
  | .lst _, _, h, _ => by cases h
  | .dct _, _, h, _ => by cases h
  | .obj _, _, h, _ => by cases h
  | _, .non, _, h => by cases h
  | _, .bl _, _, h => by cases h
  | _, .str _, _, h => by cases h
  | _, .lst _, _, h => by cases h
  | _, .dct _, _, h => by cases h
  | _, .obj _, _, h => by cases h
theorem eqvs_ot : ∀ xs ys : List Mi.D, ots xs = true → ots ys = true → (PyData.eqvAll (D.pys xs) (D.pys ys) = true ↔ xs = ys)
  | [], [], _, _ => by simp [D.pys, PyData.eqvAll]
  | [], y :: ys, _, _ => by simp [D.pys, PyData.eqvAll]
  | x :: xs, [], _, _ => by simp [D.pys, PyData.eqvAll]
  | x :: xs, y :: ys, h, k => by
    have h : (ot x && ots xs) = true := h
    have k : (ot y && ots ys) = true := k
    rw [Bool.and_eq_true] at h k
    have e1 := eqv_ot x y h.1 k.1
    have e2 := eqvs_ot xs ys h.2 k.2
    show PyData.eqvAll (x.py :: D.pys xs) (y.py :: D.pys ys) = true ↔ _
    rw [PyData.eqvAll, Bool.and_eq_true, e2]
    have e1 : PyData.eqv x.py y.py = true ↔ x = y := e1
    rw [e1]
    simp
end
/-! ### ordinals: the last pair outermost -/
inductive O where
  | z | s (r e : O) (n : Nat)
  deriving DecidableEq
def pr (e : Mi.D) (n : Nat) : Mi.D := .tup [e, .int n]
def toL : O → List Mi.D
  | .z => []
  | .s r e n => toL r ++ [pr (.tup (toL e)) n]
def toD (a : O) : Mi.D := .tup (toL a)
def dp : O → Nat
  | .z => 0
  | .s r e _ => max (dp r) (dp e + 1)
def ln : O → Nat
  | .z => 0
  | .s r _ _ => ln r + 1
def wd : O → Nat
  | .z => 0
  | .s r e _ => max (max (wd r) (wd e)) (ln r + 1)
theorem toL_z : toL .z = [] := rfl
theorem toL_s (r e : O) (n : Nat) : toL (.s r e n) = toL r ++ [pr (toD e) n] := rfl
theorem toL_len : ∀ a, (toL a).length = ln a
  | .z => rfl
  | .s r e n => by
    rw [toL_s, List.length_append, toL_len r]
    rfl
theorem ln_wd : ∀ a, ln a ≤ wd a
  | .z => Nat.le_refl _
  | .s r e n => Nat.le_max_right _ _
theorem plains_app : ∀ xs ys : List Mi.D, D.plains (xs ++ ys) = (D.plains xs && D.plains ys)
  | [], ys => by simp [D.plains]
  | x :: xs, ys => by simp [D.plains, plains_app xs ys, Bool.and_assoc]
theorem deeps_app : ∀ xs ys : List Mi.D, D.deeps (xs ++ ys) = max (D.deeps xs) (D.deeps ys)
  | [], ys => by simp [D.deeps]
  | x :: xs, ys => by simp [D.deeps, deeps_app xs ys, Nat.max_assoc]
theorem ots_app : ∀ xs ys : List Mi.D, ots (xs ++ ys) = (ots xs && ots ys)
  | [], ys => by simp [ots]
  | x :: xs, ys => by simp [ots, ots_app xs ys, Bool.and_assoc]
theorem toL_plain : ∀ a, D.plains (toL a) = true
  | .z => rfl
  | .s r e n => by
    rw [toL, plains_app, toL_plain r]
    simp [D.plains, D.plain, pr, toL_plain e]
theorem toL_ot : ∀ a, ots (toL a) = true
  | .z => rfl
  | .s r e n => by
    rw [toL, ots_app, toL_ot r]
    simp [ots, ot, pr, toL_ot e]
theorem toL_deep : ∀ a, D.deeps (toL a) ≤ 2 * dp a
  | .z => Nat.le_refl _
  | .s r e n => by
    have h1 := toL_deep r
    have h2 := toL_deep e
    rw [toL, deeps_app]
    simp [D.deeps, D.deep, pr, dp]
    omega
theorem toL_inj : ∀ a b, toL a = toL b → a = b
  | .z, .z, _ => rfl
  | .z, .s r e n, h => by
    rw [toL_z, toL_s] at h
    simp at h
  | .s r e n, .z, h => by
    rw [toL_z, toL_s] at h
    simp at h
  | .s r e n, .s r' e' n', h => by
    rw [toL, toL] at h
    obtain ⟨h1, h2⟩ := List.append_inj' h rfl
    have h3 : pr (.tup (toL e)) n = pr (.tup (toL e')) n' := by simpa using h2
    unfold pr at h3
    simp at h3
    rw [toL_inj r r' h1, toL_inj e e' h3.1, Int.ofNat.inj h3.2]
theorem toD_eqv (a b : O) : (toD a).eqv (toD b) = decide (a = b) := by
  have h := eqv_ot (toD a) (toD b) (toL_ot a) (toL_ot b)
  have e : toD a = toD b ↔ a = b := ⟨fun h => toL_inj a b (by unfold toD at h; simpa using h), fun h => by rw [h]⟩
  rw [Bool.eq_iff_iff, h, e, decide_eq_true_eq]
theorem pr_eqv (a b : O) (n m : Nat) : (pr (toD a) n).eqv (pr (toD b) m) = decide (a = b ∧ n = m) := by
  have h := toD_eqv a b
  have h : PyData.eqv (toD a).py (toD b).py = decide (a = b) := h
  show PyData.eqv (.tuple [(toD a).py, .int n]) (.tuple [(toD b).py, .int m]) = _
  rw [PyData.eqv, PyData.eqvAll, h, PyData.eqvAll, PyData.eqv, PyData.eqvAll]
  have e2 : (((n : Nat) : Int) == (m : Nat)) = decide (n = m) := by
    by_cases h2 : n = m
    · subst h2
      simp
    · have : ((n : Nat) : Int) ≠ (m : Nat) := by omega
      simp [h2, this]
  rw [e2]
  by_cases h1 : a = b <;> by_cases h2 : n = m <;> simp [h1, h2]
/-! ### what the operations make of them -/
def one : O := .s .z .z 1
def two : O := .s .z .z 2
def three : O := .s .z .z 3
def omega : O := .s .z one 1
theorem toD_z : toD .z = .tup [] := rfl
theorem toD_one : toD one = .tup [.tup [.tup [], .int 1]] := rfl
theorem toD_two : toD two = .tup [.tup [.tup [], .int 2]] := rfl
theorem toD_three : toD three = .tup [.tup [.tup [], .int 3]] := rfl
theorem toD_omega : toD omega = .tup [.tup [.tup [.tup [.tup [], .int 1]], .int 1]] := rfl
theorem eqD_toD {a b : O} (h : dp a ≤ 90 ∨ dp b ≤ 90) : eqD (toD a) (toD b) = some (decide (a = b)) := by
  have e : eqD (toD a) (toD b) = if (toD a).plain && (toD b).plain && decide (min (toD a).deep (toD b).deep ≤ 190) then some ((toD a).eqv (toD b)) else none := rfl
  have h1 := toL_deep a
  have h2 := toL_deep b
  have e1 : (toD a).plain = true := toL_plain a
  have e2 : (toD b).plain = true := toL_plain b
  have e3 : (toD a).deep = D.deeps (toL a) + 1 := rfl
  have e4 : (toD b).deep = D.deeps (toL b) + 1 := rfl
  rw [e, e1, e2, e3, e4, toD_eqv]
  have : min (D.deeps (toL a) + 1) (D.deeps (toL b) + 1) ≤ 190 := by omega
  rw [decide_eq_true this]
  rfl
theorem cmpE {a b : O} (h : dp a ≤ 90 ∨ dp b ≤ 90) : cmpD .Eq (toD a) (toD b) = some (decide (a = b)) := eqD_toD h
theorem cmpN {a b : O} (h : dp a ≤ 90 ∨ dp b ≤ 90) : cmpD .NotEq (toD a) (toD b) = some (!decide (a = b)) := by
  show (eqD (toD a) (toD b)).map _ = _
  rw [eqD_toD h]
  rfl
section
variable {a r e : O} {n : Nat} {σ : Env} {T : Sto}
@[simp] theorem cmp_Ez (a : O) : cmpD .Eq (toD a) (.tup []) = some (decide (a = .z)) := cmpE (b := .z) (.inr (by decide))
@[simp] theorem cmp_Nz (a : O) : cmpD .NotEq (toD a) (.tup []) = some (!decide (a = .z)) := cmpN (b := .z) (.inr (by decide))
@[simp] theorem cmp_E1 (a : O) : cmpD .Eq (toD a) (.tup [.tup [.tup [], .int 1]]) = some (decide (a = one)) := cmpE (b := one) (.inr (by decide))
@[simp] theorem cmp_E2 (a : O) : cmpD .Eq (toD a) (.tup [.tup [.tup [], .int 2]]) = some (decide (a = two)) := cmpE (b := two) (.inr (by decide))
@[simp] theorem cmp_E3 (a : O) : cmpD .Eq (toD a) (.tup [.tup [.tup [], .int 3]]) = some (decide (a = three)) := cmpE (b := three) (.inr (by decide))
@[simp] theorem cmp_Eo (a : O) : cmpD .Eq (toD a) (.tup [.tup [.tup [.tup [.tup [], .int 1]], .int 1]]) = some (decide (a = omega)) := cmpE (b := omega) (.inr (by decide))
@[simp] theorem len_toD (a : O) : lenM (toD a) σ T = .ok (.int (ln a)) T := by
  show Res.ok (Mi.D.int ((toL a).length : Nat)) T = _
  rw [toL_len]
@[simp] theorem tru_toD (a : O) : truD (toD a) = some (!decide (a = .z)) := by
  show some (!(toL a).isEmpty) = _
  cases a with
  | z => rfl
  | s r e n =>
    rw [toL_s]
    simp
@[simp] theorem isLst_toD (a : O) : isLst (toD a) = false := rfl
@[simp] theorem noObj_toD (a : O) : noObj (toD a) = true := rfl
@[simp] theorem isTup_toD (a : O) : (toD a).isTup = true := rfl
@[simp] theorem items_toD (a : O) : itemsM (toD a) σ T = .ok (toL a) T := rfl
@[simp] theorem pr_0 (x : Mi.D) (n : Nat) : itemM (pr x n) (.int 0) σ T = .ok x T := rfl
@[simp] theorem pr_1 (x : Mi.D) (n : Nat) : itemM (pr x n) (.int 1) σ T = .ok (.int n) T := rfl
@[simp] theorem tg_pr (i j : Nat) (x : Mi.D) (n : Nat) : tgT [i, j] (pr x n) σ = some ((σ.set i (.fz x)).set j (.fz (.int n))) := rfl
@[simp] theorem tgK_pr (i j : Nat) (x : Mi.D) (n : Nat) : tgK (tgT [i, j]) (pr x n) σ T = .nx ((σ.set i (.fz x)).set j (.fz (.int n))) T := rfl
theorem pr_pred {x : Mi.D} {c : Nat} (h : 1 ≤ c) : (.tup [x, .int ((c : Int) - 1)] : Mi.D) = pr x (c - 1) := by
  show (Mi.D.tup [x, .int ((c : Int) - 1)]) = .tup [x, .int ((c - 1 : Nat) : Int)]
  rw [show ((c : Int) - 1) = ((c - 1 : Nat) : Int) by omega]
theorem tup_pr (x : Mi.D) (c : Nat) : (.tup [x, .int (c : Int)] : Mi.D) = pr x c := rfl
theorem tup_pr1 (x : Mi.D) : (.tup [x, .int 1] : Mi.D) = pr x 1 := rfl
theorem last_get (r e : O) (n : Nat) : (toL (.s r e n))[ln r]? = some (pr (toD e) n) := by
  rw [toL_s, List.getElem?_append_right (by rw [toL_len]; exact Nat.le_refl _), toL_len]
  simp
@[simp] theorem it_last (r e : O) (n : Nat) : itemM (toD (.s r e n)) (.int ((((ln (.s r e n) : Nat) : Int)) - 1)) σ T = .ok (pr (toD e) n) T := by
  have h := last_get r e n
  have e1 : (((ln (.s r e n) : Nat) : Int)) - 1 = ((ln r : Nat) : Int) := by
    show ((ln r + 1 : Nat) : Int) - 1 = _
    omega
  rw [e1]
  exact itemT h
@[simp] theorem it_neg (r e : O) (n : Nat) : itemM (toD (.s r e n)) (.int (-1)) σ T = .ok (pr (toD e) n) T := by
  have h := last_get r e n
  have e0 : itemD (toD (.s r e n)) (.int (-1)) = some (pr (toD e) n) := by
    show (ixD (toL (.s r e n)).length (-1)).bind (fun j => (toL (.s r e n))[j]?) = _
    have e1 : ixD (toL (.s r e n)).length (-1) = some (ln r) := by
      unfold ixD
      rw [toL_len, if_neg (by decide), if_pos (by simp [ln]; omega)]
      simp [ln]
      omega
    rw [e1]
    exact h
  show (match itemD (toD (.s r e n)) (.int (-1)) with
    | some d => Res.ok d T
    | none => .bad) = _
  rw [e0]
theorem cut_r (r e : O) (n : Nat) (k : Nat) (hk : k = ln r) : sliceD (toD (.s r e n)) none (some (k : Int)) = some (toD r) := by
  subst hk
  show some (Mi.D.tup (cutL (toL (.s r e n)) none (some (ln r : Int)))) = _
  rw [cut_to, toL_s, ← toL_len r, List.take_left]
  rfl
@[simp] theorem sl_last (r e : O) (n : Nat) : sliceD (toD (.s r e n)) none (some ((((ln (.s r e n) : Nat) : Int)) - 1)) = some (toD r) := by
  have e1 : (((ln (.s r e n) : Nat) : Int)) - 1 = ((ln r : Nat) : Int) := by
    show ((ln r + 1 : Nat) : Int) - 1 = _
    omega
  rw [e1]
  exact cut_r r e n _ rfl
@[simp] theorem sl_neg (r e : O) (n : Nat) : sliceD (toD (.s r e n)) none (some (-1)) = some (toD r) := by
  show some (Mi.D.tup (cutL (toL (.s r e n)) none (some (-1)))) = _
  have e : cutL (toL (.s r e n)) none (some (-1)) = (toL (.s r e n)).take (ln r) := by
    unfold cutL
    have e1 : HT.sIx (toL (.s r e n)).length (toL (.s r e n)).length (some (-1)) = ln r := by
      rw [toL_len]
      show HT.sIx (ln r + 1) (ln r + 1) (some (-1)) = ln r
      simp [HT.sIx]
      omega
    rw [e1, HT.sIx_none]
    simp
  rw [e, toL_s, ← toL_len r, List.take_left]
  rfl
theorem add_pr {a e : O} {n : Nat} (h : wd a ≤ 10000) : binD .Add (toD a) (.tup [pr (toD e) n]) = some (toD (.s a e n)) := by
  show (if fits ((toL a).length + 1) then some (Mi.D.tup (toL a ++ [pr (toD e) n])) else none) = _
  have := ln_wd a
  rw [toL_len, if_pos (by unfold fits; exact decide_eq_true (by omega))]
  rfl
theorem add_no {a : O} (h : wd a ≤ 10000) : binD .Add (toD a) (.tup []) = some (toD a) := by
  show (if fits ((toL a).length + 0) then some (Mi.D.tup (toL a ++ [])) else none) = _
  have := ln_wd a
  rw [toL_len, if_pos (by unfold fits; exact decide_eq_true (by omega)), List.append_nil]
  rfl
@[simp] theorem mul_1 (x : Mi.D) : binD .Mult (.tup [x]) (.int 1) = some (.tup [x]) := rfl
@[simp] theorem mul_0 (x : Mi.D) : binD .Mult (.tup [x]) (.int 0) = some (.tup []) := rfl
@[simp] theorem blt_intB (b : Bool) : bltD "int" [.bl b] = some (.int (if b then 1 else 0), false) := rfl
end
end K71


set_option Elab.async false
set_option linter.all false
set_option maxRecDepth 100000
set_option maxHeartbeats 4000000
namespace K71
open PySem hiding Env
open Mi
/-! ### the order -/
theorem alike_all {xs ys : List PyData} (h : ∀ x ∈ xs, ∀ y ∈ ys, PySem.W.alike x y = true) : PySem.W.alikeAll xs ys = true := by
  induction xs generalizing ys with
  | nil => rw [PySem.W.alikeAll]
  | cons x xs ih =>
    cases ys with
    | nil => rw [PySem.W.alikeAll]
    | cons y ys =>
      rw [PySem.W.alikeAll, h x List.mem_cons_self y List.mem_cons_self, ih fun a ha b hb => h a (List.mem_cons_of_mem _ ha) b (List.mem_cons_of_mem _ hb)]
      rfl
theorem pys_map : ∀ ds : List Mi.D, D.pys ds = ds.map D.py
  | [] => rfl
  | d :: ds => by
    show d.py :: D.pys ds = _
    rw [pys_map ds]
    rfl
theorem toL_mem : ∀ (a : O) (p : Mi.D), p ∈ toL a → ∃ e n, p = pr (toD e) n
  | .z, p, h => by cases h
  | .s r e n, p, h => by
    rw [toL_s] at h
    rcases List.mem_append.mp h with h | h
    · exact toL_mem r p h
    · exact ⟨e, n, by simpa using h⟩
theorem alike_toL : ∀ (a b : O) (p q : Mi.D), p ∈ toL a → q ∈ toL b → PySem.W.alike p.py q.py = true
  | .z, b, p, q, h, _ => by cases h
  | .s r e n, b, p, q, h, k => by
    rw [toL_s] at h
    rcases List.mem_append.mp h with h | h
    · exact alike_toL r b p q h k
    · obtain ⟨e', n', rfl⟩ := toL_mem b q k
      have hp : p = pr (toD e) n := by simpa using h
      subst hp
      have he : PySem.W.alike (toD e).py (toD e').py = true := by
        show PySem.W.alike (.tuple (D.pys (toL e))) (.tuple (D.pys (toL e'))) = true
        rw [PySem.W.alike, pys_map, pys_map]
        refine alike_all fun x hx y hy => ?_
        obtain ⟨u, hu, rfl⟩ := List.mem_map.mp hx
        obtain ⟨v, hv, rfl⟩ := List.mem_map.mp hy
        exact alike_toL e e' u v hu hv
      show PySem.W.alike (.tuple [(toD e).py, .int n]) (.tuple [(toD e').py, .int n']) = true
      rw [PySem.W.alike, PySem.W.alikeAll, he, PySem.W.alikeAll, PySem.W.alike, PySem.W.alikeAll]
      rfl
theorem alikeO (a b : O) : PySem.W.alike (toD a).py (toD b).py = true := by
  show PySem.W.alike (.tuple (D.pys (toL a))) (.tuple (D.pys (toL b))) = true
  rw [PySem.W.alike, pys_map, pys_map]
  refine alike_all fun x hx y hy => ?_
  obtain ⟨u, hu, rfl⟩ := List.mem_map.mp hx
  obtain ⟨v, hv, rfl⟩ := List.mem_map.mp hy
  exact alike_toL a b u v hu hv
theorem alike_pr (a b : O) (n m : Nat) : PySem.W.alike (pr (toD a) n).py (pr (toD b) m).py = true := by
  show PySem.W.alike (.tuple [(toD a).py, .int n]) (.tuple [(toD b).py, .int m]) = true
  rw [PySem.W.alike, PySem.W.alikeAll, alikeO, PySem.W.alikeAll, PySem.W.alike, PySem.W.alikeAll]
  rfl
def ltO (a b : O) : Bool := PySem.W.dataLt (toD a).py (toD b).py
def ltP (p q : O × Nat) : Bool := PySem.W.dataLt (pr (toD p.1) p.2).py (pr (toD q.1) q.2).py
def rl (xs ys : List Mi.D) : Bool := PySem.W.rowLt (D.pys xs) (D.pys ys)
theorem ltO_rl (a b : O) : ltO a b = rl (toL a) (toL b) := PySem.W.dataLt_tuple _ _
theorem ltO_irrefl (a : O) : ltO a a = false := PyProof.Rows.lex_irrefl _
theorem ltO_trans {a b c : O} (h : ltO a b = true) (k : ltO b c = true) : ltO a c = true := PyProof.Rows.lex_trans _ _ _ h k
theorem ltO_asym {a b : O} (h : ltO a b = true) : ltO b a = false := by
  cases e : ltO b a with
  | false => rfl
  | true =>
    have := ltO_trans h e
    rw [ltO_irrefl] at this
    cases this
theorem rl_cons {x y : Mi.D} (h : PySem.W.alike x.py y.py = true) (xs ys : List Mi.D) : rl (x :: xs) (y :: ys) = if x.eqv y = true then rl xs ys else PySem.W.dataLt x.py y.py := PySem.W.dataLt_cons h _ _
theorem rl_nil_cons (y : Mi.D) (ys : List Mi.D) : rl [] (y :: ys) = true := by
  show PyProof.Rows.lexLt PyProof.Rows.itemOrd (PySem.W.keyToksAll []) (PySem.W.keyToksAll (y.py :: D.pys ys)) = true
  rw [PySem.W.toks_all_cons]
  simp only [PySem.W.keyToksAll]
  rw [PyProof.Rows.lex_diff (O := PyProof.Rows.itemOrd) (by simp)]
  rfl
theorem rl_nil : rl [] [] = false := PyProof.Rows.lex_irrefl _
theorem rl_pre : ∀ (xs ys zs : List Mi.D), rl (xs ++ ys) (xs ++ zs) = rl ys zs
  | [], _, _ => rfl
  | x :: xs, ys, zs => by
    have h : rl (x :: (xs ++ ys)) (x :: (xs ++ zs)) = rl (xs ++ ys) (xs ++ zs) := by
      show PyProof.Rows.lexLt PyProof.Rows.itemOrd (PySem.W.keyToksAll (x.py :: D.pys (xs ++ ys))) (PySem.W.keyToksAll (x.py :: D.pys (xs ++ zs))) = _
      rw [PySem.W.toks_all_cons, PySem.W.toks_all_cons]
      exact (PyProof.Rows.lex_self (O := PyProof.Rows.itemOrd) _ _ _).trans (PySem.W.lex_pre _ _ _)
    exact h.trans (rl_pre xs ys zs)
mutual
theorem tot_ot : ∀ x y : Mi.D, ot x = true → ot y = true → PySem.W.alike x.py y.py = true → x ≠ y → PySem.W.dataLt x.py y.py = true ∨ PySem.W.dataLt y.py x.py = true
  | .int i, .int j, _, _, _, h => by
    have hij : i ≠ j := fun e => h (by rw [e])
    show PySem.W.dataLt (.int i) (.int j) = true ∨ PySem.W.dataLt (.int j) (.int i) = true
    rw [PySem.W.dataLt_int, PySem.W.dataLt_int]
    simp
    omega
  | .int i, .tup ys, _, _, h, _ => by
    have h : PySem.W.alike (.int i) (.tuple (D.pys ys)) = true := h
    simp [PySem.W.alike] at h
  | .tup xs, .int j, _, _, h, _ => by
    have h : PySem.W.alike (.tuple (D.pys xs)) (.int j) = true := h
    simp [PySem.W.alike] at h
  | .tup xs, .tup ys, h1, h2, h3, h4 => by
    have h3 : PySem.W.alike (.tuple (D.pys xs)) (.tuple (D.pys ys)) = true := h3
    rw [PySem.W.alike] at h3
    have := tots_ot xs ys h1 h2 h3 fun e => h4 (by rw [e])
    show PySem.W.dataLt (.tuple (D.pys xs)) (.tuple (D.pys ys)) = true ∨ PySem.W.dataLt (.tuple (D.pys ys)) (.tuple (D.pys xs)) = true
    rw [PySem.W.dataLt_tuple, PySem.W.dataLt_tuple]
    exact this
  | .non, _, h, _, _, _ => by cases h
  | .bl _, _, h, _, _, _ => by cases h
  | .str _, _, h, _, _, _ => by cases h
  | .lst _, _, h, _, _, _ => by cases h
  | .dct _, _, h, _, _, _ => by cases h
  | .obj _, _, h, _, _, _ => by cases h
  | _, .non, _, h, _, _ => by cases h
  | _, .bl _, _, h, _, _ => by cases h
  | _, .str _, _, h, _, _ => by cases h
  | _, .lst _, _, h, _, _ => by cases h
  | _, .dct _, _, h, _, _ => by cases h
  | _, .obj _, _, h, _, _ => by cases h
theorem tots_ot : ∀ xs ys : List Mi.D, ots xs = true → ots ys = true → PySem.W.alikeAll (D.pys xs) (D.pys ys) = true → xs ≠ ys → rl xs ys = true ∨ rl ys xs = true
  | [], [], _, _, _, h => absurd rfl h
  | [], y :: ys, _, _, _, _ => .inl (rl_nil_cons y ys)
  | x :: xs, [], _, _, _, _ => .inr (rl_nil_cons x xs)
  | x :: xs, y :: ys, h1, h2, h3, h4 => by
    have h1 : (ot x && ots xs) = true := h1
    have h2 : (ot y && ots ys) = true := h2
    rw [Bool.and_eq_true] at h1 h2
    obtain ⟨a1, a2⟩ := PySem.W.alike_all_cons (x := x.py) (y := y.py) h3
    by_cases e : x = y
    · subst e
      have := tots_ot xs ys h1.2 h2.2 a2 fun e => h4 (by rw [e])
      have p1 := rl_pre [x] xs ys
      have p2 := rl_pre [x] ys xs
      rw [← p1, ← p2] at this
      exact this
    · have ne : ∀ {a b : Mi.D}, ot a = true → ot b = true → a ≠ b → ¬ (a.eqv b = true) := fun ha hb hn e => hn ((eqv_ot _ _ ha hb).mp e)
      have := tot_ot x y h1.1 h2.1 a1 e
      rcases this with h | h
      · left
        rw [rl_cons a1, if_neg (ne h1.1 h2.1 e)]
        exact h
      · right
        have a1' : PySem.W.alike y.py x.py = true := by rw [PySem.W.alike_comm]; exact a1
        rw [rl_cons a1', if_neg (ne h2.1 h1.1 fun z => e z.symm)]
        exact h
end
theorem ltO_tot {a b : O} (h : a ≠ b) : ltO a b = true ∨ ltO b a = true := tot_ot (toD a) (toD b) (toL_ot a) (toL_ot b) (alikeO a b) fun e => h (toL_inj a b (by unfold toD at e; simpa using e))
theorem ltP_eq (p q : O × Nat) : ltP p q = if p.1 = q.1 then decide (p.2 < q.2) else ltO p.1 q.1 := by
  have h := toD_eqv p.1 q.1
  have h : PyData.eqv (toD p.1).py (toD q.1).py = decide (p.1 = q.1) := h
  have e : ltP p q = PySem.W.dataLt (.tuple [(toD p.1).py, .int p.2]) (.tuple [(toD q.1).py, .int q.2]) := rfl
  rw [e, PySem.W.dataLt_pair (alikeO _ _) (by simp [PySem.W.alike]), h, PySem.W.dataLt_int]
  by_cases h1 : p.1 = q.1
  · simp only [h1, decide_true, if_true]
    by_cases h2 : p.2 = q.2
    · simp [h2, PyData.eqv]
    · have : ¬ ((p.2 : Int) = (q.2 : Int)) := by omega
      have t : PyData.eqv (.int ((p.2 : Nat) : Int)) (.int ((q.2 : Nat) : Int)) = false := by
        rw [PyData.eqv]
        simpa using this
      simp [t]
  · simp only [h1, decide_false, Bool.false_eq_true, if_false]
    rfl
theorem rl_pr (a b : O) (n m : Nat) (xs ys : List Mi.D) : rl (pr (toD a) n :: xs) (pr (toD b) m :: ys) = if a = b ∧ n = m then rl xs ys else ltP (a, n) (b, m) := by
  rw [rl_cons (alike_pr a b n m), pr_eqv]
  by_cases h : a = b ∧ n = m <;> simp [h] <;> rfl
/-! ### exponents, descending ones -/
/-- all exponents of the second are above the first -/
def abv (x : O) : O → Prop
  | .z => True
  | .s r e _ => abv x r ∧ ltO x e = true
def Dsc : O → Prop
  | .z => True
  | .s r e n => Dsc r ∧ Dsc e ∧ 1 ≤ n ∧ abv e r
theorem abv_trans {x y : O} (h : ltO x y = true) : ∀ a, abv y a → abv x a
  | .z, _ => trivial
  | .s r e n, k => ⟨abv_trans h r k.1, ltO_trans h k.2⟩
theorem z_lt (r e : O) (n : Nat) : ltO .z (.s r e n) = true := by
  rw [ltO_rl, toL_s]
  cases h : toL r with
  | nil => exact rl_nil_cons _ _
  | cons a l => exact rl_nil_cons _ _
/-! ### the steps down -/
def nxt : O → Bool
  | .z => false
  | .s _ e _ => decide (e = .z)
def opn : O → Bool
  | .z => false
  | .s _ e _ => !decide (e = .z)
def less : O → O
  | .z => .z
  | .s r e n => if n ≤ 1 then r else .s r e (n - 1)
def bel (k : Nat) : O → O
  | .z => .z
  | .s r e n => if nxt e then (if k = 0 then less (.s r e n) else .s (less (.s r e n)) (less e) k) else .s (less (.s r e n)) (bel k e) 1
theorem less_s (r e : O) (n : Nat) : less (.s r e n) = if n ≤ 1 then r else .s r e (n - 1) := rfl
theorem bel_s (k : Nat) (r e : O) (n : Nat) : bel k (.s r e n) = if nxt e then (if k = 0 then less (.s r e n) else .s (less (.s r e n)) (less e) k) else .s (less (.s r e n)) (bel k e) 1 := rfl
theorem less_dsc : ∀ {a}, Dsc a → Dsc (less a)
  | .z, _ => trivial
  | .s r e n, h => by
    rw [less_s]
    split
    · exact h.1
    · exact ⟨h.1, h.2.1, by omega, h.2.2.2⟩
theorem less_lt : ∀ {a}, Dsc a → a ≠ .z → ltO (less a) a = true
  | .z, _, h => absurd rfl h
  | .s r e n, h, _ => by
    have hn := h.2.2.1
    rw [less_s]
    rw [ltO_rl]
    split
    · have := rl_pre (toL r) [] [pr (toD e) n]
      rw [List.append_nil] at this
      rw [toL_s, this]
      exact rl_nil_cons _ _
    · rw [toL_s, toL_s, rl_pre, rl_pr, if_neg (by omega), ltP_eq, if_pos rfl]
      exact decide_eq_true (by show n - 1 < n; omega)
theorem less_abv {x : O} : ∀ {a}, abv x a → abv x (less a)
  | .z, _ => trivial
  | .s r e n, h => by
    rw [less_s]
    split
    · exact h.1
    · exact h
/-- an item behind what is left lies below -/
theorem snoc_lt {r e x : O} {n m : Nat} (h : Dsc (.s r e n)) (hx : ltO x e = true) : ltO (.s (less (.s r e n)) x m) (.s r e n) = true := by
  have hn := h.2.2.1
  have ne : x ≠ e := fun z => by
    subst z
    rw [ltO_irrefl] at hx
    cases hx
  rw [less_s]
  rw [ltO_rl]
  split
  · rw [toL_s, toL_s, rl_pre, rl_pr, if_neg fun z => ne z.1, ltP_eq, if_neg ne]
    exact hx
  · rw [toL_s, toL_s, toL_s, List.append_assoc, rl_pre]
    show rl (pr (toD e) (n - 1) :: _) (pr (toD e) n :: []) = true
    rw [rl_pr, if_neg (by omega), ltP_eq, if_pos rfl]
    exact decide_eq_true (by show n - 1 < n; omega)
theorem opn_ne {r e : O} {n : Nat} (h : opn (.s r e n) = true) : e ≠ .z := by
  have h : (!decide (e = .z)) = true := h
  simpa using h
theorem opn_of {e : O} (h : e ≠ .z) (k : nxt e = false) : opn e = true := by
  cases e with
  | z => exact absurd rfl h
  | s r e n =>
    have k : decide (e = .z) = false := k
    show (!decide (e = .z)) = true
    rw [k]
    rfl
theorem nxt_nz {e : O} (h : nxt e = true) : e ≠ .z := fun z => by subst z; cases h
theorem opn_nz {e : O} (h : opn e = true) : e ≠ .z := fun z => by subst z; cases h
theorem bel_lt (k : Nat) : ∀ {a}, Dsc a → opn a = true → ltO (bel k a) a = true
  | .z, _, h => by cases h
  | .s r e n, h, ho => by
    have hl := less_lt h (by simp)
    rw [bel_s]
    split
    · rename_i hn
      split
      · exact hl
      · exact snoc_lt h (less_lt h.2.1 (nxt_nz hn))
    · rename_i hn
      exact snoc_lt h (bel_lt k h.2.1 (opn_of (opn_ne ho) (by simpa using hn)))
theorem abv_less {r e x : O} {n : Nat} (h : Dsc (.s r e n)) (hx : ltO x e = true) : abv x (less (.s r e n)) := less_abv ⟨abv_trans hx _ h.2.2.2, hx⟩
theorem bel_dsc (k : Nat) : ∀ {a}, Dsc a → opn a = true → Dsc (bel k a)
  | .z, _, h => by cases h
  | .s r e n, h, ho => by
    rw [bel_s]
    split
    · rename_i hn
      split
      · exact less_dsc h
      · exact ⟨less_dsc h, less_dsc h.2.1, by omega, abv_less h (less_lt h.2.1 (nxt_nz hn))⟩
    · rename_i hn
      have ho' := opn_of (opn_ne ho) (by simpa using hn)
      exact ⟨less_dsc h, bel_dsc k h.2.1 ho', Nat.le_refl _, abv_less h (bel_lt k h.2.1 ho')⟩
theorem s_lt {r e e' : O} {n m : Nat} (h : ltP (e, n) (e', m) = true) (hne : ¬ (e = e' ∧ n = m)) : ltO (.s r e n) (.s r e' m) = true := by
  rw [ltO_rl, toL_s, toL_s, rl_pre, rl_pr, if_neg hne]
  exact h
theorem bel_up (k : Nat) : ∀ {a}, Dsc a → opn a = true → ltO (bel k a) (bel (k + 1) a) = true
  | .z, _, h => by cases h
  | .s r e n, h, ho => by
    rw [bel_s, bel_s]
    cases hn : nxt e with
    | true =>
      simp only [if_true]
      rw [if_neg (by omega : ¬ k + 1 = 0)]
      split
      · rw [ltO_rl, toL_s]
        have := rl_pre (toL (less (.s r e n))) [] [pr (toD (less e)) (k + 1)]
        rw [List.append_nil] at this
        rw [this]
        exact rl_nil_cons _ _
      · refine s_lt ?_ (by omega)
        rw [ltP_eq, if_pos rfl]
        exact decide_eq_true (by show k < k + 1; omega)
    | false =>
      simp only [Bool.false_eq_true, if_false]
      have hb := bel_up k h.2.1 (opn_of (opn_ne ho) hn)
      have ne : bel k e ≠ bel (k + 1) e := fun z => by
        rw [z, ltO_irrefl] at hb
        cases hb
      refine s_lt ?_ fun z => ne z.1
      rw [ltP_eq, if_neg ne]
      exact hb
theorem less_dp : ∀ a, dp (less a) ≤ dp a
  | .z => Nat.le_refl _
  | .s r e n => by
    rw [less_s]
    split
    · exact Nat.le_max_left _ _
    · exact Nat.le_refl _
theorem bel_dp (k : Nat) : ∀ a, dp (bel k a) ≤ dp a
  | .z => Nat.le_refl _
  | .s r e n => by
    have h1 := less_dp (.s r e n)
    have h2 := less_dp e
    have h3 := bel_dp k e
    rw [bel_s]
    split
    · split
      · exact h1
      · simp only [dp] at h1 ⊢
        omega
    · simp only [dp] at h1 ⊢
      omega
theorem less_ln : ∀ a, ln (less a) ≤ ln a
  | .z => Nat.le_refl _
  | .s r e n => by
    rw [less_s]
    split
    · exact Nat.le_succ _
    · exact Nat.le_refl _
theorem less_wd : ∀ a, wd (less a) ≤ wd a
  | .z => Nat.le_refl _
  | .s r e n => by
    rw [less_s]
    split
    · simp only [wd]; omega
    · exact Nat.le_refl _
theorem bel_wd (k : Nat) : ∀ a, wd (bel k a) ≤ wd a + 1
  | .z => Nat.le_succ _
  | .s r e n => by
    have h1 := less_wd (.s r e n)
    have h2 := less_wd e
    have h3 := bel_wd k e
    have h4 := less_ln (.s r e n)
    have h5 := ln_wd (.s r e n)
    rw [bel_s]
    split
    · split
      · omega
      · simp only [wd, ln] at h1 h4 h5 ⊢
        omega
    · simp only [wd, ln] at h1 h4 h5 ⊢
      omega
end K71


set_option Elab.async false
set_option linter.all false
set_option maxRecDepth 100000
set_option maxHeartbeats 4000000
namespace K71
open PySem hiding Env
open Mi
theorem r_plus (n : Nat) (a0 a1 : Mi.D) (T : Sto) : cl (n + 1) "plus" [a0, a1] T = finR (m_plus (cl n) [.fz a0, .fz a1, .no, .no, .no, .no, .no, .no] T) := cl_succ (d := d_plus) (by kernel_rfl) (by kernel_rfl) (c_plus _)
theorem r_power (n : Nat) (a0 : Mi.D) (T : Sto) : cl (n + 1) "power" [a0] T = finR (m_power (cl n) [.fz a0] T) := cl_succ (d := d_power) (by kernel_rfl) (by kernel_rfl) (c_power _)
theorem r_is_next (n : Nat) (a0 : Mi.D) (T : Sto) : cl (n + 1) "is_next" [a0] T = finR (m_is_next (cl n) [.fz a0] T) := cl_succ (d := d_is_next) (by kernel_rfl) (by kernel_rfl) (c_is_next _)
theorem r_is_open (n : Nat) (a0 : Mi.D) (T : Sto) : cl (n + 1) "is_open" [a0] T = finR (m_is_open (cl n) [.fz a0] T) := cl_succ (d := d_is_open) (by kernel_rfl) (by kernel_rfl) (c_is_open _)
theorem r_shortened (n : Nat) (a0 : Mi.D) (T : Sto) : cl (n + 1) "shortened" [a0] T = finR (m_shortened (cl n) [.fz a0, .no, .no] T) := cl_succ (d := d_shortened) (by kernel_rfl) (by kernel_rfl) (c_shortened _)
theorem r_one_less (n : Nat) (a0 : Mi.D) (T : Sto) : cl (n + 1) "one_less" [a0] T = finR (m_one_less (cl n) [.fz a0] T) := cl_succ (d := d_one_less) (by kernel_rfl) (by kernel_rfl) (c_one_less _)
theorem r_below (n : Nat) (a0 a1 : Mi.D) (T : Sto) : cl (n + 1) "below" [a0, a1] T = finR (m_below (cl n) [.fz a0, .fz a1, .no, .no] T) := cl_succ (d := d_below) (by kernel_rfl) (by kernel_rfl) (c_below _)
theorem r_told (n : Nat) (a0 : Mi.D) (T : Sto) : cl (n + 1) "told" [a0] T = finR (m_told (cl n) [.fz a0] T) := cl_succ (d := d_told) (by kernel_rfl) (by kernel_rfl) (c_told _)
theorem r_raised (n : Nat) (a0 a1 : Mi.D) (T : Sto) : cl (n + 1) "raised" [a0, a1] T = finR (m_raised (cl n) [.fz a0, .fz a1, .no, .no] T) := cl_succ (d := d_raised) (by kernel_rfl) (by kernel_rfl) (c_raised _)
theorem r_goes_away (n : Nat) (a0 : Mi.D) (T : Sto) : cl (n + 1) "goes_away" [a0] T = finR (m_goes_away (cl n) [.fz a0, .no, .no] T) := cl_succ (d := d_goes_away) (by kernel_rfl) (by kernel_rfl) (c_goes_away _)
theorem r_climbed (n : Nat) (a0 a1 : Mi.D) (T : Sto) : cl (n + 1) "climbed" [a0, a1] T = finR (m_climbed (cl n) [.fz a0, .fz a1] T) := cl_succ (d := d_climbed) (by kernel_rfl) (by kernel_rfl) (c_climbed _)
theorem r_doubled (n : Nat) (a0 a1 : Mi.D) (T : Sto) : cl (n + 1) "doubled" [a0, a1] T = finR (m_doubled (cl n) [.fz a0, .fz a1] T) := cl_succ (d := d_doubled) (by kernel_rfl) (by kernel_rfl) (c_doubled _)
theorem r_climbed_often (n : Nat) (a0 a1 a2 : Mi.D) (T : Sto) : cl (n + 1) "climbed_often" [a0, a1, a2] T = finR (m_climbed_often (cl n) [.fz a0, .fz a1, .fz a2, .no] T) := cl_succ (d := d_climbed_often) (by kernel_rfl) (by kernel_rfl) (c_climbed_often _)
theorem r_stage (n : Nat) (a0 a1 : Mi.D) (T : Sto) : cl (n + 1) "stage" [a0, a1] T = finR (m_stage (cl n) [.fz a0, .fz a1, .no, .no] T) := cl_succ (d := d_stage) (by kernel_rfl) (by kernel_rfl) (c_stage _)
theorem r__law_ordinal (n : Nat) (a0 a1 : Mi.D) (T : Sto) : cl (n + 1) "_law_ordinal" [a0, a1] T = finR (m__law_ordinal (cl n) [.fz a0, .fz a1, .no, .no, .no, .no] T) := cl_succ (d := d__law_ordinal) (by kernel_rfl) (by kernel_rfl) (c__law_ordinal _)
theorem r__law_is_next (n : Nat) (a0 : Mi.D) (T : Sto) : cl (n + 1) "_law_is_next" [a0] T = finR (m__law_is_next (cl n) [.fz a0] T) := cl_succ (d := d__law_is_next) (by kernel_rfl) (by kernel_rfl) (c__law_is_next _)
theorem r__law_less (n : Nat) (a0 : Mi.D) (T : Sto) : cl (n + 1) "_law_less" [a0] T = finR (m__law_less (cl n) [.fz a0, .no, .no] T) := cl_succ (d := d__law_less) (by kernel_rfl) (by kernel_rfl) (c__law_less _)
theorem r__law_below (n : Nat) (a0 a1 : Mi.D) (T : Sto) : cl (n + 1) "_law_below" [a0, a1] T = finR (m__law_below (cl n) [.fz a0, .fz a1, .no] T) := cl_succ (d := d__law_below) (by kernel_rfl) (by kernel_rfl) (c__law_below _)
theorem r__law_goes_away (n : Nat) (a0 : Mi.D) (T : Sto) : cl (n + 1) "_law_goes_away" [a0] T = finR (m__law_goes_away (cl n) [.fz a0, .no, .no, .no] T) := cl_succ (d := d__law_goes_away) (by kernel_rfl) (by kernel_rfl) (c__law_goes_away _)
theorem r__law_climb (n : Nat) (a0 a1 : Mi.D) (T : Sto) : cl (n + 1) "_law_climb" [a0, a1] T = finR (m__law_climb (cl n) [.fz a0, .fz a1, .no] T) := cl_succ (d := d__law_climb) (by kernel_rfl) (by kernel_rfl) (c__law_climb _)
theorem r__law_doubled (n : Nat) (a0 : Mi.D) (T : Sto) : cl (n + 1) "_law_doubled" [a0] T = finR (m__law_doubled (cl n) [.fz a0, .no, .no] T) := cl_succ (d := d__law_doubled) (by kernel_rfl) (by kernel_rfl) (c__law_doubled _)
theorem r__law_stage (n : Nat) (a0 a1 : Mi.D) (T : Sto) : cl (n + 1) "_law_stage" [a0, a1] T = finR (m__law_stage (cl n) [.fz a0, .fz a1, .no, .no, .no, .no] T) := cl_succ (d := d__law_stage) (by kernel_rfl) (by kernel_rfl) (c__law_stage _)
theorem r__law_told (n : Nat) (a0 a1 : Mi.D) (T : Sto) : cl (n + 1) "_law_told" [a0, a1] T = finR (m__law_told (cl n) [.fz a0, .fz a1, .no, .no] T) := cl_succ (d := d__law_told) (by kernel_rfl) (by kernel_rfl) (c__law_told _)
theorem r__law_counted (n : Nat) (a0 a1 : Mi.D) (T : Sto) : cl (n + 1) "_law_counted" [a0, a1] T = finR (m__law_counted (cl n) [.fz a0, .fz a1, .no] T) := cl_succ (d := d__law_counted) (by kernel_rfl) (by kernel_rfl) (c__law_counted _)
theorem r_law (n : Nat) (a0 : Mi.D) (T : Sto) : cl (n + 1) "law" [a0] T = finR (m_law (cl n) [.fz a0, .no, .no, .no, .no, .no, .no, .no, .no, .no, .no] T) := cl_succ (d := d_law) (by kernel_rfl) (by kernel_rfl) (c_law _)
section
variable {σ : Env} {T : Sto}
theorem p_is_next (n : Nat) (a : O) (T : Sto) : cl (n + 1) "is_next" [toD a] T = .ok (.bl (nxt a), false) T := by
  rw [r_is_next]
  cases a with
  | z => simp [m_is_next, ln, nxt]
  | s r e c => simp [m_is_next, ln, nxt]
theorem p_is_open (n : Nat) (a : O) (T : Sto) : cl (n + 1) "is_open" [toD a] T = .ok (.bl (opn a), false) T := by
  rw [r_is_open]
  cases a with
  | z => simp [m_is_open, ln, opn]
  | s r e c => simp [m_is_open, ln, opn]
theorem p_shortened (n : Nat) {a : O} (h : a ≠ .z) (hd : Dsc a) (hw : wd a ≤ 9000) (T : Sto) : cl (n + 1) "shortened" [toD a] T = .ok (toD (less a), false) T := by
  rw [r_shortened]
  cases a with
  | z => exact absurd rfl h
  | s r e c =>
    have hc := hd.2.2.1
    have hr : wd r ≤ 10000 := by simp only [wd] at hw; omega
    by_cases h1 : c = 1
    · subst h1
      simp [m_shortened, less_s]
    · have h2 : ¬ ((c : Int) = 1) := by omega
      have h3 : ¬ c ≤ 1 := by omega
      have h4 := pr_pred (x := toD e) hc
      simp [m_shortened, less_s, h2, h3, h4, add_pr hr]
theorem abv_mem {x : O} : ∀ (a : O) (p : Mi.D), abv x a → p ∈ toL a → ∃ e n, p = pr (toD e) n ∧ ltO x e = true
  | .z, p, _, h => by cases h
  | .s r e n, p, k, h => by
    rw [toL_s] at h
    rcases List.mem_append.mp h with h | h
    · exact abv_mem r p k.1 h
    · exact ⟨e, n, by simpa using h, k.2⟩
theorem dp_mem : ∀ (a e : O) (n : Nat), pr (toD e) n ∈ toL a → dp e < dp a
  | .z, e, n, h => by cases h
  | .s r e' n', e, n, h => by
    rw [toL_s] at h
    rcases List.mem_append.mp h with h | h
    · have := dp_mem r e n h
      simp only [dp]
      omega
    · have h : pr (toD e) n = pr (toD e') n' := by simpa using h
      have h1 : toD e = toD e' := by
        unfold pr at h
        simp at h
        exact h.1
      have h2 : e = e' := toL_inj e e' (by unfold toD at h1; simpa using h1)
      subst h2
      simp only [dp]
      omega
theorem ordO (o : Od) {a b : O} (h : dp a ≤ 90 ∨ dp b ≤ 90) : ordD o (toD a) (toD b) = some (o.onData (toD a).py (toD b).py) := by
  have e : ordD o (toD a) (toD b) = if D.plains (toL a) && D.plains (toL b) && PySem.W.alike (toD a).py (toD b).py && decide (min (D.deeps (toL a)) (D.deeps (toL b)) ≤ 189) then some (o.onData (toD a).py (toD b).py) else none := rfl
  have h1 := toL_deep a
  have h2 := toL_deep b
  rw [e, toL_plain, toL_plain, alikeO]
  have : min (D.deeps (toL a)) (D.deeps (toL b)) ≤ 189 := by omega
  rw [decide_eq_true this]
  rfl
theorem cmpL {a b : O} (h : dp a ≤ 90 ∨ dp b ≤ 90) : cmpD .Lt (toD a) (toD b) = some (ltO a b) := ordO .lt h
theorem cmpG {a b : O} (h : dp a ≤ 90 ∨ dp b ≤ 90) : cmpD .Gt (toD a) (toD b) = some (ltO b a) := ordO .gt h
@[simp] theorem it1_0 (d : Mi.D) : itemM (.tup [d]) (.int 0) σ T = .ok d T := rfl
theorem tup_toL (a : O) : (.tup (toL a) : Mi.D) = toD a := rfl
theorem lc_all {tg : Mi.D → Env → Option Env} {tst : EM Bool} {el : EM Mi.D} (ds : List Mi.D) (hl : ds.length < 16777216) (h : ∀ d ∈ ds, ∃ σ1, tg d σ = some σ1 ∧ tst σ1 T = .ok true T ∧ el σ1 T = .ok d T) : lcLoop tg tst el σ ds [] T = .ok ds T := by
  rw [lc_map (fun _ => true) id ds [] (by simpa using hl) fun d hd => by
    obtain ⟨σ1, e1, e2, e3⟩ := h d hd
    exact ⟨σ1, e1, e2, fun _ => e3⟩]
  simp
theorem p_plus (n : Nat) {a x : O} {m : Nat} (hd : abv x a) (hx : dp x ≤ 90) (hw : wd a ≤ 9000) (T : Sto) : cl (n + 1) "plus" [toD a, .tup [pr (toD x) m]] T = .ok (toD (.s a x m), false) T := by
  rw [r_plus]
  have hl : (toL a).length < 16777216 := by
    rw [toL_len]
    have := ln_wd a
    omega
  have hlc := lcK_ok (T := T) (tg := tgN 7) (tst := Mi.cmpE .Gt (V (ixE (pVar 7) (V (kE (.int 0))))) (pVar 3)) (el := V (vVar 7)) (σ := [.fz (toD a), .fz (.tup [pr (toD x) m]), .no, .fz (toD x), .fz (.int (m : Nat)), .no, .no, .no]) (lc_all (T := T) (toL a) hl fun d hd' => by
    obtain ⟨e, c, rfl, hlt⟩ := abv_mem a d hd hd'
    exact ⟨_, rfl, by simp [cmpG (a := e) (b := x) (.inr hx), hlt], by simp⟩)
  simp [m_plus, hlc]
  refine for_then (P := fun r => finR r = .ok (toD (.s a x m), false) T) (fun ds σ T' => T' = T ∧ (∀ d ∈ ds, d ∈ toL a) ∧ ∃ s5 s6 s7, σ = [.fz (toD a), .fz (.tup [pr (toD x) m]), .ow (.lst (toL a)), .fz (toD x), .fz (.int (m : Nat)), s5, s6, s7]) ?_ ⟨rfl, fun _ h => h, .no, .no, .no, rfl⟩ ?_
  · rintro d ds σ T' ⟨rfl, hm, s5, s6, s7, rfl⟩
    obtain ⟨e, c, rfl, hlt⟩ := abv_mem a d hd (hm d List.mem_cons_self)
    have hne : ¬ e = x := fun z => by
      subst z
      rw [ltO_irrefl] at hlt
      cases hlt
    have hc := cmpE (a := e) (b := x) (.inr hx)
    refine ⟨_, _, _, rfl, by simp [hc, hne]; exact ⟨rfl, rfl, rfl⟩, rfl, fun d hd => hm d (List.mem_cons_of_mem _ hd), _, _, _, rfl⟩
  · rintro σ T' ⟨rfl, _, s5, s6, s7, rfl⟩
    have hcut : cutL [pr (toD x) m] (some 1) none = [] := rfl
    have hs : wd (.s a x m) ≤ 10000 ∨ True := .inr trivial
    have hadd := add_pr (a := a) (e := x) (n := m) (by omega)
    have hadd2 : binD .Add (toD (.s a x m)) (.tup []) = some (toD (.s a x m)) := by
      show (if fits ((toL (.s a x m)).length + 0) then some (Mi.D.tup (toL (.s a x m) ++ [])) else none) = _
      have := ln_wd a
      rw [toL_len, if_pos (by unfold fits; exact decide_eq_true (by simp only [ln]; omega)), List.append_nil]
      rfl
    simp [tup_toL, tup_pr, hcut, hadd, hadd2]
theorem p_power (n : Nat) (a : O) (T : Sto) : cl (n + 1) "power" [toD a] T = .ok (.tup [pr (toD a) 1], false) T := by
  rw [r_power]
  simp [m_power]
  rfl
theorem p_one_less (n : Nat) {a : O} (h : a ≠ .z) (hd : Dsc a) (hw : wd a ≤ 9000) (T : Sto) : cl (n + 2) "one_less" [toD a] T = .ok (toD (less a), false) T := by
  rw [r_one_less]
  simp [m_one_less, p_shortened n h hd hw]
theorem p_below (k : Nat) : ∀ (a : O) (n : Nat) (T : Sto), opn a = true → Dsc a → wd a ≤ 9000 → dp a ≤ 80 → cl (n + dp a + 3) "below" [toD a, .int (k : Nat)] T = .ok (toD (bel k a), false) T
  | .z, n, T, h, _, _, _ => by cases h
  | .s r e c, n, T, h, hd, hw, hp => by
    rw [r_below]
    have he := opn_ne h
    have hsh : ∀ T, cl (n + dp (.s r e c) + 2) "shortened" [toD (.s r e c)] T = .ok (toD (less (.s r e c)), false) T := fun T => p_shortened _ (by simp) hd hw T
    have ho : ∀ T, cl (n + dp (.s r e c) + 2) "is_open" [toD e] T = .ok (.bl (opn e), false) T := fun T => p_is_open _ e T
    have hwe : wd e ≤ 9000 := by simp only [wd] at hw; omega
    have hpe : dp e + 1 ≤ dp (.s r e c) := by simp only [dp]; omega
    have hwl : wd (less (.s r e c)) ≤ 9000 := Nat.le_trans (less_wd _) hw
    have hol : ∀ T, cl (n + dp (.s r e c) + 2) "one_less" [toD e] T = .ok (toD (less e), false) T := fun T => p_one_less _ he hd.2.1 hwe T
    cases ho' : opn e with
    | true =>
      have hne : nxt e = false := by
        cases e with
        | z => rfl
        | s r' e' c' =>
          have : (!decide (e' = .z)) = true := ho'
          show decide (e' = .z) = false
          simpa using this
      have hb : ∀ T, cl (n + dp (.s r e c) + 2) "below" [toD e, .int (k : Nat)] T = .ok (toD (bel k e), false) T := fun T => by
        obtain ⟨j, hj⟩ : ∃ j, n + dp (.s r e c) + 2 = j + dp e + 3 := ⟨n + dp (.s r e c) + 2 - dp e - 3, by omega⟩
        rw [hj]
        exact p_below k e j T ho' hd.2.1 hwe (by omega)
      have hpw : ∀ T, cl (n + dp (.s r e c) + 2) "power" [toD (bel k e)] T = .ok (.tup [pr (toD (bel k e)) 1], false) T := fun T => p_power _ _ T
      have hpl : ∀ T, cl (n + dp (.s r e c) + 2) "plus" [toD (less (.s r e c)), .tup [pr (toD (bel k e)) 1]] T = .ok (toD (.s (less (.s r e c)) (bel k e) 1), false) T := fun T =>
        p_plus _ (abv_less hd (bel_lt k hd.2.1 ho')) (Nat.le_trans (bel_dp k e) (by omega)) hwl T
      simp [m_below, hsh, ho, ho', hb, hpw, hpl, bel_s, hne]
    | false =>
      have hne : nxt e = true := by
        cases e with
        | z => exact absurd rfl he
        | s r' e' c' =>
          have : (!decide (e' = .z)) = false := ho'
          show decide (e' = .z) = true
          simpa using this
      have hpl : ∀ T, cl (n + dp (.s r e c) + 2) "plus" [toD (less (.s r e c)), .tup [pr (toD (less e)) k]] T = .ok (toD (.s (less (.s r e c)) (less e) k), false) T := fun T =>
        p_plus _ (abv_less hd (less_lt hd.2.1 he)) (Nat.le_trans (less_dp e) (by omega)) hwl T
      by_cases hk : k = 0
      · subst hk
        simp [m_below, hsh, ho, ho', bel_s, hne]
      · simp [m_below, hsh, ho, ho', hol, hpl, bel_s, hne, hk, tup_pr]
end
end K71


set_option Elab.async false
set_option linter.all false
set_option maxRecDepth 100000
set_option maxHeartbeats 4000000
namespace K71
open PySem hiding Env
open Mi
/-! ### comprehensions over pairs -/
theorem lc_mapP {α : Type} {tg : Mi.D → Env → Option Env} {el : EM Mi.D} {σ : Env} {T : Sto} (d f : α → Mi.D) : ∀ (ps : List α) (acc : List Mi.D), acc.length + ps.length < 16777216 → (∀ p ∈ ps, ∃ σ1, tg (d p) σ = some σ1 ∧ el σ1 T = .ok (f p) T) →
    lcLoop tg yesE el σ (ps.map d) acc T = .ok (acc ++ ps.map f) T
  | [], acc, _, _ => by
    unfold lcLoop
    simp
  | p :: ps, acc, hl, h => by
    obtain ⟨σ1, e1, e2⟩ := h p List.mem_cons_self
    simp only [List.length_cons] at hl
    rw [List.map_cons]
    unfold lcLoop
    rw [e1]
    simp only [ev_yesE, Res.noex]
    show (el σ1 T).noex.bind _ = _
    rw [e2]
    show (if decide (acc.length < 16777216) then lcLoop tg yesE el σ (ps.map d) (acc ++ [f p]) T else .bad) = _
    rw [if_pos (decide_eq_true (by omega)), lc_mapP d f ps (acc ++ [f p]) (by simp; omega) fun q hq => h q (List.mem_cons_of_mem _ hq)]
    simp
abbrev Pr : Type := O × Nat
def toP : O → List Pr
  | .z => []
  | .s r e n => toP r ++ [(e, n)]
def prP (p : Pr) : Mi.D := pr (toD p.1) p.2
theorem toL_P : ∀ a, toL a = (toP a).map prP
  | .z => rfl
  | .s r e n => by
    rw [toL_s, toL_P r, toP, List.map_append]
    rfl
theorem toP_len (a : O) : (toP a).length = ln a := by rw [← toL_len, toL_P, List.length_map]
theorem toP_dp {a : O} {p : Pr} (h : p ∈ toP a) : dp p.1 < dp a := by
  obtain ⟨e, n⟩ := p
  refine dp_mem a e n ?_
  rw [toL_P]
  exact List.mem_map.mpr ⟨(e, n), h, rfl⟩
theorem toP_wd : ∀ {a : O} {p : Pr}, p ∈ toP a → wd p.1 ≤ wd a
  | .z, p, h => by cases h
  | .s r e n, p, h => by
    rcases List.mem_append.mp (show p ∈ toP r ++ [(e, n)] from h) with h | h
    · have := toP_wd h
      simp only [wd]
      omega
    · have : p = (e, n) := by simpa using h
      subst this
      simp only [wd]
      omega
/-! ### going away -/
def gaw : O → Bool
  | .z => true
  | .s r e _ => gaw r && (nxt e || (!decide (e = .z) && !gaw e))
def tO (e : O) : Bool := nxt e || (!decide (e = .z) && !gaw e)
theorem gaw_all : ∀ a, gaw a = (toP a).all fun p => tO p.1
  | .z => rfl
  | .s r e n => by
    show (gaw r && tO e) = (toP r ++ [(e, n)]).all _
    rw [List.all_append, gaw_all r]
    simp
theorem opn_tO (e : O) : (nxt e || (opn e && !gaw e)) = tO e := by
  unfold tO
  cases e with
  | z => rfl
  | s r x n =>
    show (decide (x = .z) || (!decide (x = .z) && !gaw (.s r x n))) = (decide (x = .z) || (!decide (O.s r x n = .z) && !gaw (.s r x n)))
    cases decide (x = O.z) <;> simp
section
variable {σ : Env} {T : Sto}
@[simp] theorem tgK_prP (i j : Nat) (p : Pr) : tgT [i, j] (prP p) σ = some ((σ.set i (.fz (toD p.1))).set j (.fz (.int p.2))) := rfl
@[simp] theorem prP_0 (p : Pr) : itemM (prP p) (.int 0) σ T = .ok (toD p.1) T := rfl
theorem bl_map (ps : List Pr) (f : Pr → Bool) : (ps.map fun p => (.bl (f p) : Mi.D)) = (ps.map f).map .bl := by rw [List.map_map]; rfl
@[simp] theorem all_map (ps : List Pr) (f : Pr → Bool) : bltD "all" [.lst (ps.map fun p => (.bl (f p) : Mi.D))] = some (.bl (ps.all f), false) := by
  rw [bl_map, blt_all, List.all_map]
  rfl
theorem orE2_bl {m1 m2 : EM Mi.D} {b1 b2 : Bool} (h1 : m1 σ T = .ok (.bl b1) T) (h2 : m2 σ T = .ok (.bl b2) T) : orE [m1, m2] σ T = .ok (.bl (b1 || b2), false) T := by
  show (EM.bind m1 fun d => EM.bind (EM.lift (truD d)) fun b => if b then EM.pure (d, false) else orE [m2]) σ T = _
  cases b1 with
  | true => simp [h1]
  | false =>
    simp only [ev_bind, h1, bind_ok, ev_kap, tru_bl, ev_lift]
    show orE [m2] σ T = _
    show (EM.bind m2 fun d => EM.pure (d, false)) σ T = _
    simp [h2]
theorem andE2_bl {m1 m2 : EM Mi.D} {b1 b2 : Bool} (h1 : m1 σ T = .ok (.bl b1) T) (h2 : b1 = true → m2 σ T = .ok (.bl b2) T) : andE [m1, m2] σ T = .ok (.bl (b1 && b2), false) T := by
  cases b1 with
  | true => simp [h1, h2 rfl]
  | false => simp [h1]
theorem p_goes (k : Nat) : ∀ (a : O) (n : Nat) (T : Sto), dp a ≤ k → wd a ≤ 9000 → cl (n + k + 2) "goes_away" [toD a] T = .ok (.bl (gaw a), false) T := by
  induction k with
  | zero =>
    intro a n T h _
    cases a with
    | s r e c => simp only [dp] at h; omega
    | z =>
      rw [r_goes_away]
      simp [m_goes_away, toL, lcK, lcLoop]
      rfl
  | succ k ih =>
    intro a n T h hw
    rw [show n + (k + 1) + 2 = (n + k + 2) + 1 from by omega, r_goes_away]
    have hlen : (toP a).length < 16777216 := by
      rw [toP_len]
      have := ln_wd a
      omega
    have hlc : ∀ T, lcK (tgT [1, 2]) yesE (V (orE [(V (callC (cl (n + k + 2)) "is_next" [(V (vVar 1))])), (V (andE [(V (callC (cl (n + k + 2)) "is_open" [(V (vVar 1))])), (V (notE (V (callC (cl (n + k + 2)) "goes_away" [(V (vVar 1))]))))]))])) [.fz (toD a), .no, .no] (toL a) T = .ok (.lst ((toP a).map fun p => .bl (tO p.1)), true) T := fun T => by
      rw [toL_P]
      refine lcK_ok (lc_mapP prP (fun p => .bl (tO p.1)) (toP a) [] (by simpa using hlen) fun p hp => ⟨_, rfl, ?_⟩)
      have h1 : ∀ T, cl (n + k + 2) "is_next" [toD p.1] T = .ok (.bl (nxt p.1), false) T := fun T => p_is_next _ _ T
      have h2 : ∀ T, cl (n + k + 2) "is_open" [toD p.1] T = .ok (.bl (opn p.1), false) T := fun T => p_is_open _ _ T
      have h3 : ∀ T, cl (n + k + 2) "goes_away" [toD p.1] T = .ok (.bl (gaw p.1), false) T := fun T => ih _ n T (by have := toP_dp hp; omega) (Nat.le_trans (toP_wd hp) hw)
      rw [← opn_tO]
      rw [ev_V, ev_bind, orE2_bl (b1 := nxt p.1) (b2 := opn p.1 && !gaw p.1)]
      · rfl
      · simp [h1]
      · rw [ev_V, ev_bind, andE2_bl (b1 := opn p.1) (b2 := !gaw p.1)]
        · rfl
        · simp [h2]
        · intro _
          simp [h3]
    simp [m_goes_away, hlc, gaw_all]
theorem p_lnext (n : Nat) (a : O) (T : Sto) : cl (n + 1) "_law_is_next" [toD a] T = .ok (.bl (nxt a), false) T := by
  rw [r__law_is_next]
  cases a with
  | z => simp [m__law_is_next, nxt]
  | s r e c => simp [m__law_is_next, nxt]
theorem p_lless (n : Nat) {a : O} (h : a ≠ .z) (hd : Dsc a) (hw : wd a ≤ 9000) (T : Sto) : cl (n + 1) "_law_less" [toD a] T = .ok (toD (less a), false) T := by
  rw [r__law_less]
  cases a with
  | z => exact absurd rfl h
  | s r e c =>
    have hc := hd.2.2.1
    have hr : wd r ≤ 10000 := by simp only [wd] at hw; omega
    have h4 := pr_pred (x := toD e) hc
    by_cases h1 : c ≤ 1
    · have h2 : ¬ (1 : Int) < (c : Int) := by omega
      have h5 : ¬ 1 < c := by omega
      simp [m__law_less, less_s, h1, h2, h4, h5, add_no hr]
    · have h2 : (1 : Int) < (c : Int) := by omega
      have h5 : 1 < c := by omega
      simp [m__law_less, less_s, h1, h2, h4, h5, add_pr hr]
theorem p_lbelow (k : Nat) : ∀ (a : O) (n : Nat) (T : Sto), opn a = true → Dsc a → wd a ≤ 9000 → dp a ≤ 80 → cl (n + dp a + 3) "_law_below" [toD a, .int (k : Nat)] T = .ok (toD (bel k a), false) T
  | .z, n, T, h, _, _, _ => by cases h
  | .s r e c, n, T, h, hd, hw, hp => by
    rw [r__law_below]
    have he := opn_ne h
    have hsh : ∀ T, cl (n + dp (.s r e c) + 2) "_law_less" [toD (.s r e c)] T = .ok (toD (less (.s r e c)), false) T := fun T => p_lless _ (by simp) hd hw T
    have hn : ∀ T, cl (n + dp (.s r e c) + 2) "_law_is_next" [toD e] T = .ok (.bl (nxt e), false) T := fun T => p_lnext _ e T
    have hwe : wd e ≤ 9000 := by simp only [wd] at hw; omega
    have hpe : dp e + 1 ≤ dp (.s r e c) := by simp only [dp]; omega
    have hwl : wd (less (.s r e c)) ≤ 10000 := Nat.le_trans (less_wd _) (by omega)
    have hol : ∀ T, cl (n + dp (.s r e c) + 2) "_law_less" [toD e] T = .ok (toD (less e), false) T := fun T => p_lless _ he hd.2.1 hwe T
    cases hne : nxt e with
    | false =>
      have hb : ∀ T, cl (n + dp (.s r e c) + 2) "_law_below" [toD e, .int (k : Nat)] T = .ok (toD (bel k e), false) T := fun T => by
        obtain ⟨j, hj⟩ : ∃ j, n + dp (.s r e c) + 2 = j + dp e + 3 := ⟨n + dp (.s r e c) + 2 - dp e - 3, by omega⟩
        rw [hj]
        exact p_lbelow k e j T (opn_of he hne) hd.2.1 hwe (by omega)
      simp [m__law_below, hsh, hn, hb, bel_s, hne, tup_pr1, add_pr hwl]
    | true =>
      by_cases hk : k = 0
      · subst hk
        simp [m__law_below, hsh, hn, hol, bel_s, hne, add_no hwl]
      · have hk2 : 0 < k := by omega
        simp [m__law_below, hsh, hn, hol, bel_s, hne, hk, hk2, tup_pr, add_pr hwl]
theorem p_lgoes (k : Nat) : ∀ (a : O) (n : Nat) (T : Sto), dp a ≤ k → wd a ≤ 9000 → cl (n + k + 2) "_law_goes_away" [toD a] T = .ok (.bl (gaw a), false) T := by
  induction k with
  | zero =>
    intro a n T h _
    cases a with
    | s r e c => simp only [dp] at h; omega
    | z =>
      rw [r__law_goes_away]
      simp [m__law_goes_away, toL, lcK, lcLoop]
      rfl
  | succ k ih =>
    intro a n T h hw
    rw [show n + (k + 1) + 2 = (n + k + 2) + 1 from by omega, r__law_goes_away]
    have hlen : (toP a).length < 16777216 := by
      rw [toP_len]
      have := ln_wd a
      omega
    have hl1 : ∀ T, lcK (tgN 2) yesE (V (ixE (pVar 2) (V (kE (.int 0))))) [.fz (toD a), .no, .no, .no] (toL a) T = .ok (.lst ((toP a).map fun p => toD p.1), true) T := fun T => by
      rw [toL_P]
      exact lcK_ok (lc_mapP prP (fun p => toD p.1) (toP a) [] (by simpa using hlen) fun p hp => ⟨_, rfl, by simp⟩)
    have hlc : ∀ s T, lcK (tgN 3) yesE (V (orE [(V (callC (cl (n + k + 2)) "_law_is_next" [(V (vVar 3))])), (V (andE [(V (blE (Mi.cmpE .NotEq (pVar 3) (V (tupE []))))), (V (notE (V (callC (cl (n + k + 2)) "_law_goes_away" [(V (vVar 3))]))))]))])) [.fz (toD a), .ow (.lst ((toP a).map fun p => toD p.1)), s, .no] ((toP a).map fun p => toD p.1) T = .ok (.lst ((toP a).map fun p => .bl (tO p.1)), true) T := fun s T => by
      refine lcK_ok (lc_mapP (fun p : Pr => toD p.1) (fun p => .bl (tO p.1)) (toP a) [] (by simpa using hlen) fun p hp => ⟨_, rfl, ?_⟩)
      have h1 : ∀ T, cl (n + k + 2) "_law_is_next" [toD p.1] T = .ok (.bl (nxt p.1), false) T := fun T => p_lnext _ _ T
      have h3 : ∀ T, cl (n + k + 2) "_law_goes_away" [toD p.1] T = .ok (.bl (gaw p.1), false) T := fun T => ih _ n T (by have := toP_dp hp; omega) (Nat.le_trans (toP_wd hp) hw)
      unfold tO
      rw [ev_V, ev_bind, orE2_bl (b1 := nxt p.1) (b2 := !decide (p.1 = .z) && !gaw p.1)]
      · rfl
      · simp [h1]
      · rw [ev_V, ev_bind, andE2_bl (b1 := !decide (p.1 = .z)) (b2 := !gaw p.1)]
        · rfl
        · simp
        · intro _
          simp [h3]
    simp [m__law_goes_away, hl1, hlc, gaw_all]
end
end K71


set_option Elab.async false
set_option linter.all false
set_option maxRecDepth 100000
set_option maxHeartbeats 4000000
namespace K71
open PySem hiding Env
open Mi
/-! ### numbers -/
theorem mostI_eq : mostI = ((most : Nat) : Int) := by
  unfold mostI most
  exact (Int.natCast_pow 10 200).symm
theorem most_pow : most ≤ 2 ^ 665 := by unfold most; decide +kernel
theorem most_3 : 3000 < most := by unfold most; decide +kernel
theorem most_log {n : Nat} (h : n < most) : n.log2 < 665 := log2_lt (Nat.lt_of_lt_of_le h most_pow) (by decide)
theorem pow_log (k : Nat) : (2 ^ k).log2 = k := Nat.log2_two_pow
theorem natAbs_pow2 (k : Nat) : ((2 : Int) ^ k).natAbs = 2 ^ k := by
  rw [Int.natAbs_pow]
  rfl
section
variable {σ : Env} {T : Sto}
theorem mulP {n k : Nat} (h : n < most) (hk : k ≤ 5000) : binD .Mult (.int (n : Int)) (.int ((2 : Int) ^ k)) = some (.int ((n : Int) * (2 : Int) ^ k)) := by
  show (if decide ((n : Int).natAbs.log2 + ((2 : Int) ^ k).natAbs.log2 < 1000000) then _ else _) = _
  have e1 := most_log h
  have e2 : ((n : Int)).natAbs = n := rfl
  rw [natAbs_pow2, pow_log, e2, if_pos (decide_eq_true (by omega))]
theorem mulP2 {k : Nat} (hk : k ≤ 5000) : binD .Mult (.int ((2 : Int) ^ k)) (.int 2) = some (.int ((2 : Int) ^ (k + 1))) := by
  show (if decide (((2 : Int) ^ k).natAbs.log2 + (2 : Int).natAbs.log2 < 1000000) then some (Mi.D.int ((2 : Int) ^ k * 2)) else _) = _
  have e2 : (2 : Int).natAbs.log2 = 1 := by decide
  rw [natAbs_pow2, pow_log, e2, if_pos (decide_eq_true (by omega)), Int.pow_succ]
theorem mul2 {n : Nat} (h : n < most) : binD .Mult (.int 2) (.int (n : Int)) = some (.int (2 * (n : Int))) := by
  show (if decide ((2 : Int).natAbs.log2 + (n : Int).natAbs.log2 < 1000000) then _ else _) = _
  have e1 := most_log h
  have e2 : ((n : Int)).natAbs = n := rfl
  have e3 : (2 : Int).natAbs.log2 = 1 := by decide
  rw [e2, e3, if_pos (decide_eq_true (by omega))]
def chk (n : Nat) : Option Nat := if n < most then some n else none
def above : Xn := ⟨"Above", none⟩
def resO (o : Option Nat) (T : Sto) : Res (Mi.D × Bool) := match o with
  | some m => .ok (.int (m : Int), false) T
  | none => .ex above T
@[simp] theorem resO_s (m : Nat) : resO (some m) T = .ok (.int (m : Int), false) T := rfl
@[simp] theorem resO_n : resO none T = .ex above T := rfl
@[simp] theorem EI_above : EI.mkX "Above" [] = some above := rfl
theorem chk_lt {n : Nat} (h : n < most) : chk n = some n := if_pos h
theorem chk_ge {n : Nat} (h : ¬ n < most) : chk n = none := if_neg h
theorem chk_some {n m : Nat} (h : chk n = some m) : m = n ∧ n < most := by
  unfold chk at h
  split at h
  · cases h
    exact ⟨rfl, by assumption⟩
  · cases h
theorem p_told (k : Nat) (n : Nat) (T : Sto) : cl (k + 1) "told" [.int (n : Int)] T = resO (chk n) T := by
  rw [r_told]
  by_cases h : n < most
  · have h1 : ¬ mostI ≤ (n : Int) := by rw [mostI_eq]; omega
    simp [m_told, h1, chk_lt h]
  · have h1 : mostI ≤ (n : Int) := by rw [mostI_eq]; omega
    simp [m_told, h1, chk_ge h]
theorem p_toldP (k : Nat) (n j : Nat) (T : Sto) : cl (k + 1) "told" [.int ((n : Int) * (2 : Int) ^ j)] T = resO (chk (n * 2 ^ j)) T := by
  have e : ((n : Int) * (2 : Int) ^ j) = ((n * 2 ^ j : Nat) : Int) := by
    rw [Int.natCast_mul, Int.natCast_pow]
    rfl
  rw [e]
  exact p_told k _ T
theorem p_told2 (k : Nat) (n : Nat) (T : Sto) : cl (k + 1) "told" [.int (2 * (n : Int))] T = resO (chk (2 * n)) T := by
  have e : (2 * (n : Int)) = ((2 * n : Nat) : Int) := by omega
  rw [e]
  exact p_told k _ T
theorem p_toldA (k : Nat) (n c : Nat) (T : Sto) : cl (k + 1) "told" [.int ((n : Int) + (c : Int))] T = resO (chk (n + c)) T := by
  have e : ((n : Int) + (c : Int)) = ((n + c : Nat) : Int) := by omega
  rw [e]
  exact p_told k _ T
def augG (o : Option Sl) (i : Nat) (op : Operator) (y : Mi.D) : SM := fun σ T => match o with
  | some (.fz d) => (match augD op d y with
    | some z => .nx (σ.set i (.fz z)) T
    | none => .bad)
  | _ => .bad
theorem ev_sAug (i : Nat) (op : Operator) (e : EM Mi.D) (d : Mi.D) (h : σ[i]? = some (.fz d)) : sAug i op e σ T = thenS e (augG (some (.fz d)) i op) σ T := by
  unfold sAug
  rw [h]
  rfl
theorem aug_mul2 (k : Nat) (i : Nat) : augG (some (.fz (.int ((2 : Int) ^ k)))) i .Mult (.int 2) σ T = .nx (σ.set i (.fz (.int ((2 : Int) ^ (k + 1))))) T := by
  have e : augD .Mult (.int ((2 : Int) ^ k)) (.int 2) = some (.int ((2 : Int) ^ (k + 1))) := by
    rw [Int.pow_succ]
    rfl
  unfold augG
  simp only [e]
theorem p_raised (n k : Nat) (hk : k ≤ 700) (T : Sto) : cl (n + 1) "raised" [.int 2, .int (k : Int)] T = .ok (.int ((2 : Int) ^ k), false) T := by
  rw [r_raised]
  have h1 : k ≤ 16777216 := by omega
  simp [m_raised, h1]
  refine for_then (P := fun r => finR r = .ok (.int ((2 : Int) ^ k), false) T) (fun ds σ T' => T' = T ∧ ∃ j s, j + ds.length = k ∧ σ = [.fz (.int 2), .fz (.int (k : Int)), .fz (.int ((2 : Int) ^ j)), s]) ?_ ⟨rfl, 0, .no, by simp [rangeD], rfl⟩ ?_
  · rintro d ds σ T' ⟨rfl, j, s, hj, rfl⟩
    simp only [List.length_cons] at hj
    refine ⟨_, _, _, rfl, ?_, rfl, j + 1, .fz d, by omega, rfl⟩
    show (sSeq [sAug 2 .Mult (V (vVar 0))]) [.fz (.int 2), .fz (.int (k : Int)), .fz (.int ((2 : Int) ^ j)), .fz d] T' = _
    rw [ev_sC, ev_sAug 2 .Mult _ (.int ((2 : Int) ^ j)) rfl]
    simp [aug_mul2]
  · rintro σ T' ⟨rfl, j, s, hj, rfl⟩
    have : j = k := by simpa using hj
    subst this
    simp
theorem p_ldoubled (n k : Nat) (hk : k ≤ 700) (T : Sto) : cl (n + 1) "_law_doubled" [.int (k : Int)] T = .ok (.int ((2 : Int) ^ k), false) T := by
  rw [r__law_doubled]
  have h1 : k ≤ 16777216 := by omega
  simp [m__law_doubled, h1]
  refine for_then (P := fun r => finR r = .ok (.int ((2 : Int) ^ k), false) T) (fun ds σ T' => T' = T ∧ ∃ j s, j + ds.length = k ∧ σ = [.fz (.int (k : Int)), .fz (.int ((2 : Int) ^ j)), s]) ?_ ⟨rfl, 0, .no, by simp [rangeD], rfl⟩ ?_
  · rintro d ds σ T' ⟨rfl, j, s, hj, rfl⟩
    simp only [List.length_cons] at hj
    have hm := mulP2 (k := j) (by omega)
    refine ⟨_, _, _, rfl, ?_, rfl, j + 1, .fz d, by omega, rfl⟩
    simp [hm]
  · rintro σ T' ⟨rfl, j, s, hj, rfl⟩
    have : j = k := by simpa using hj
    subst this
    simp
end
/-! ### the climb -/
def cl1 (e : O) (n : Nat) : Option Nat :=
  if n = 0 then some (if gaw e then 1 else 0) else if n = 1 then some 2 else if e = one then chk (2 * n) else if e = two ∧ n ≤ 700 then chk (n * 2 ^ n) else if n = 2 ∧ e = three then some 2048 else if n = 2 ∧ e = omega then some 8 else none
section
variable {T : Sto}
theorem p_climbed (k : Nat) {e : O} {n : Nat} (hn : n < most) (hd : dp e ≤ 80) (hw : wd e ≤ 9000) (T : Sto) : cl (k + 83) "climbed" [toD e, .int (n : Int)] T = resO (cl1 e n) T := by
  rw [r_climbed]
  have hg : ∀ T, cl (k + 82) "goes_away" [toD e] T = .ok (.bl (gaw e), false) T := fun T => p_goes 80 e k T hd hw
  by_cases h0 : n = 0
  · subst h0
    have e1 : cl1 e 0 = some (if gaw e then 1 else 0) := rfl
    rw [e1]
    cases hgw : gaw e <;> rw [hgw] at hg <;> simp [m_climbed, hg]
  by_cases h1 : n = 1
  · subst h1
    have e1 : cl1 e 1 = some 2 := rfl
    rw [e1]
    simp [m_climbed]
  have h1' : ¬ ((n : Int) = 1) := by omega
  by_cases he : e = one
  · have e1 : cl1 e n = chk (2 * n) := by simp [cl1, h0, h1, he]
    have ht : ∀ T, cl (k + 82) "told" [.int (2 * (n : Int))] T = resO (chk (2 * n)) T := fun T => p_told2 _ n T
    rw [e1]
    simp [m_climbed, h0, h1', he, mul2 hn, ht]
    cases chk (2 * n) <;> simp
  by_cases h2 : e = two ∧ n ≤ 700
  · have e1 : cl1 e n = chk (n * 2 ^ n) := by
      unfold cl1
      rw [if_neg h0, if_neg h1, if_neg he, if_pos h2]
    have ht : ∀ T, cl (k + 82) "told" [.int ((n : Int) * (2 : Int) ^ n)] T = resO (chk (n * 2 ^ n)) T := fun T => p_toldP _ n n T
    have hr : ∀ T, cl (k + 82) "raised" [.int 2, .int (n : Int)] T = .ok (.int ((2 : Int) ^ n), false) T := fun T => p_raised _ n h2.2 T
    have h3 : (n : Int) ≤ 700 := by omega
    have hm := mulP (n := n) (k := n) hn (by omega)
    have ht2 : two = two := rfl
    rw [e1]
    simp [m_climbed, h0, h1', h2.1, h3, hr, hm, ht, show ¬ two = one by decide]
    cases chk (n * 2 ^ n) <;> simp
  have h2' : ¬ (e = two ∧ (n : Int) ≤ 700) := fun z => h2 ⟨z.1, by omega⟩
  by_cases h3 : n = 2 ∧ e = three
  · obtain ⟨rfl, rfl⟩ := h3
    have e1 : cl1 three 2 = some 2048 := rfl
    rw [e1]
    simp [m_climbed, show ¬ three = one by decide, show ¬ three = two by decide]
  by_cases h4 : n = 2 ∧ e = omega
  · obtain ⟨rfl, rfl⟩ := h4
    have e1 : cl1 omega 2 = some 8 := rfl
    rw [e1]
    simp [m_climbed, show ¬ omega = one by decide, show ¬ omega = two by decide, show ¬ omega = three by decide]
  have e1 : cl1 e n = none := by
    unfold cl1
    rw [if_neg h0, if_neg h1, if_neg he, if_neg h2, if_neg h3, if_neg h4]
  rw [e1]
  have n2 : ((n : Int) = 2) ↔ n = 2 := by omega
  have n7 : ((n : Int) ≤ 700) ↔ n ≤ 700 := by omega
  by_cases a : n = 2
  · have b1 : ¬ e = three := fun z => h3 ⟨a, z⟩
    have b2 : ¬ e = omega := fun z => h4 ⟨a, z⟩
    have b3 : ¬ e = two := fun z => h2 ⟨z, by omega⟩
    subst a
    simp [m_climbed, he, b1, b2, b3]
  · have a' : ¬ (n : Int) = 2 := by omega
    by_cases b : e = two
    · have c : ¬ (n : Int) ≤ 700 := fun z => h2 ⟨b, by omega⟩
      simp [m_climbed, h0, h1', a', b, c, show ¬ two = one by decide]
    · simp [m_climbed, h0, h1', he, a', b]
theorem p_doubled (k : Nat) {n c : Nat} (hn : n < most) (T : Sto) : cl (k + 2) "doubled" [.int (n : Int), .int (c : Int)] T = resO (chk (n * 2 ^ c)) T := by
  rw [r_doubled]
  by_cases h : 0 < n ∧ 700 < c
  · have h1 : (0 : Int) < (n : Int) := by omega
    have h2 : (700 : Int) < (c : Int) := by omega
    have hc : chk (n * 2 ^ c) = none := chk_ge fun z => by
      have a1 : 2 ^ 665 ≤ 2 ^ c := Nat.pow_le_pow_right (by decide) (by omega)
      have a2 : 1 * 2 ^ c ≤ n * 2 ^ c := Nat.mul_le_mul_right _ h.1
      have a3 := most_pow
      omega
    rw [hc]
    simp [m_doubled, h.1, h2]
  · have ht : ∀ j T, cl (k + 1) "told" [.int ((n : Int) * (2 : Int) ^ j)] T = resO (chk (n * 2 ^ j)) T := fun j T => p_toldP _ n j T
    have hr : ∀ j, j ≤ 700 → ∀ T, cl (k + 1) "raised" [.int 2, .int ((j : Nat) : Int)] T = .ok (.int ((2 : Int) ^ j), false) T := fun j hj T => p_raised _ j hj T
    have fin : finR (m_doubled (cl (k + 1)) [.fz (.int (n : Int)), .fz (.int (c : Int))] T) = resO (chk (n * 2 ^ (min c 700))) T := by
      by_cases hc : 700 < c
      · have hn0 : n = 0 := by omega
        subst hn0
        have h2 : (700 : Int) < (c : Int) := by omega
        have hb : blt2 "min" [.int (c : Int), .int 700] = some (.int ((700 : Nat) : Int)) := by
          show some (Mi.D.int (if (700 : Int) < (c : Int) then 700 else (c : Int))) = _
          rw [if_pos h2]
          rfl
        have hm := mulP (n := 0) (k := 700) hn (by omega)
        have hmin : min c 700 = 700 := by omega
        rw [hmin]
        have ht' := ht 700
        have hr' := hr 700 (by omega)
        have e0 : chk (0 * 2 ^ 700) = some 0 := by rw [Nat.zero_mul]; exact chk_lt hn
        rw [e0] at ht' ⊢
        generalize ((2 : Int) ^ 700) = q at *
        have e7 : ((700 : Nat) : Int) = 700 := rfl
        rw [e7] at hr' hb
        have e00 : ((0 : Nat) : Int) = 0 := rfl
        rw [e00] at hm ht'
        simp only [Int.zero_mul] at hm ht'
        simp [m_doubled, twoE, hb, hr', hm, ht']
      · have h2 : ¬ (700 : Int) < (c : Int) := by omega
        have hb : blt2 "min" [.int (c : Int), .int 700] = some (.int (c : Int)) := by
          show some (Mi.D.int (if (700 : Int) < (c : Int) then 700 else (c : Int))) = _
          rw [if_neg h2]
        have hm := mulP (n := n) (k := c) hn (by omega)
        have hmin : min c 700 = c := by omega
        rw [hmin]
        have hr' := hr c (by omega)
        have h3 : ¬ 700 < c := hc
        by_cases hn0 : 0 < n <;> simp [m_doubled, twoE, h2, h3, hn0, hb, hr', hm, ht c] <;> cases chk (n * 2 ^ c) <;> simp
    rw [fin]
    congr 1
    by_cases hc : 700 < c
    · have hn0 : n = 0 := by omega
      subst hn0
      rw [Nat.zero_mul, Nat.zero_mul]
    · rw [show min c 700 = c by omega]
end
end K71


set_option Elab.async false
set_option linter.all false
set_option maxRecDepth 100000
set_option maxHeartbeats 4000000
namespace K71
open PySem hiding Env
open Mi
/-! ### climbed often -/
def it (e : O) : Nat → Nat → Option Nat
  | 0, n => some n
  | c + 1, n => (cl1 e n).bind (it e c)
def rk (n : Nat) : Nat := if n = 0 then 6 else if n = 1 then 5 else if n = 2 then 4 else if n < 24 then 3 else if n < 701 then 2 else 1
theorem rk_pos (n : Nat) : 1 ≤ rk n := by
  unfold rk
  repeat' split
  all_goals omega
theorem rk_le (n : Nat) : rk n ≤ 6 := by
  unfold rk
  repeat' split
  all_goals omega
theorem rk_big {n : Nat} (h : 24 ≤ n) : rk n ≤ 2 := by
  unfold rk
  repeat' split
  all_goals omega
theorem rk_huge {n : Nat} (h : 701 ≤ n) : rk n = 1 := by
  unfold rk
  repeat' split
  all_goals omega
theorem rk_3 {n : Nat} (h : 3 ≤ n) : rk n ≤ 3 := by
  unfold rk
  repeat' split
  all_goals omega
theorem pow_ge {n : Nat} (a b : Nat) (h : a ≤ n) (hb : b = a * 2 ^ a) : b ≤ n * 2 ^ n := by
  subst hb
  exact Nat.mul_le_mul h (Nat.pow_le_pow_right (by decide) h)
theorem cl1_rk {e : O} {n m : Nat} (he : e ≠ one) (h : cl1 e n = some m) : m = n ∨ rk m < rk n := by
  unfold cl1 at h
  split at h
  · subst n
    cases hg : gaw e with
    | false =>
      rw [hg] at h
      left
      simpa using h.symm
    | true =>
      rw [hg] at h
      right
      have : m = 1 := by simpa using h.symm
      subst this
      decide
  · split at h
    · subst n
      have : m = 2 := by simpa using h.symm
      subst this
      right
      decide
    · rename_i n0 n1
      · split at h
        · rename_i z
          obtain ⟨rfl, hm⟩ := chk_some h
          right
          by_cases n2 : n = 2
          · subst n2
            decide
          · by_cases n24 : n < 24
            · have := pow_ge (n := n) 3 24 (by omega) (by decide)
              have q := rk_big this
              have : rk n = 3 := by unfold rk; rw [if_neg n0, if_neg n1, if_neg n2, if_pos n24]
              omega
            · have := pow_ge (n := n) 24 402653184 (by omega) (by decide)
              have q := rk_huge (n := n * 2 ^ n) (by omega)
              have : rk n = 2 := by unfold rk; rw [if_neg n0, if_neg n1, if_neg n2, if_neg n24, if_pos (by omega)]
              omega
        · split at h
          · rename_i z
            obtain ⟨rfl, _⟩ := z
            cases h
            right
            decide
          · split at h
            · rename_i z
              obtain ⟨rfl, _⟩ := z
              cases h
              right
              decide
            · cases h
theorem cl1_lt {e : O} {n m : Nat} (h : cl1 e n = some m) : m < most := by
  have m3 := most_3
  unfold cl1 at h
  split at h
  · cases hg : gaw e <;> rw [hg] at h <;> simp at h <;> omega
  · split at h
    · simp at h; omega
    · split at h
      · have := chk_some h; omega
      · split at h
        · have := chk_some h; omega
        · split at h
          · simp at h; omega
          · split at h
            · simp at h; omega
            · cases h
theorem it_fix {e : O} {n : Nat} (h : cl1 e n = some n) : ∀ c, it e c n = some n
  | 0 => rfl
  | c + 1 => by
    show (cl1 e n).bind (it e c) = _
    rw [h]
    exact it_fix h c
theorem it_lt {e : O} : ∀ {c n m : Nat}, n < most → it e c n = some m → m < most
  | 0, n, m, hn, h => by
    have : n = m := by simpa [it] using h
    omega
  | c + 1, n, m, hn, h => by
    have h : (cl1 e n).bind (it e c) = some m := h
    cases e1 : cl1 e n with
    | none => rw [e1] at h; cases h
    | some j =>
      rw [e1] at h
      exact it_lt (cl1_lt e1) h
/-- behind some turns more turns change nothing -/
theorem it_stable {e : O} (he : e ≠ one) : ∀ (r n : Nat), rk n ≤ r → ∀ k j, rk n ≤ k → rk n ≤ j → it e k n = it e j n
  | 0, n, h, _, _, _, _ => by
    have := rk_pos n
    omega
  | r + 1, n, h, k, j, hk, hj => by
    have hp := rk_pos n
    obtain ⟨k', rfl⟩ : ∃ k', k = k' + 1 := ⟨k - 1, by omega⟩
    obtain ⟨j', rfl⟩ : ∃ j', j = j' + 1 := ⟨j - 1, by omega⟩
    show (cl1 e n).bind (it e k') = (cl1 e n).bind (it e j')
    cases e1 : cl1 e n with
    | none => rfl
    | some m =>
      show it e k' m = it e j' m
      rcases cl1_rk he e1 with rfl | hlt
      · rw [it_fix e1, it_fix e1]
      · exact it_stable he r m (by omega) k' j' (by omega) (by omega)
theorem it_six {e : O} (he : e ≠ one) (c n : Nat) : it e (min c 6) n = it e c n := by
  by_cases h : c ≤ 6
  · rw [show min c 6 = c by omega]
  · rw [show min c 6 = 6 by omega]
    exact it_stable he _ n (Nat.le_refl _) 6 c (rk_le n) (by have := rk_le n; omega)
def pO (e : O) (c n : Nat) : Option Nat := if e = .z then chk (n + c) else if e = one then chk (n * 2 ^ c) else it e c n
theorem pO_lt {e : O} {c n m : Nat} (hn : n < most) (h : pO e c n = some m) : m < most := by
  unfold pO at h
  split at h
  · have := chk_some h; omega
  · split at h
    · have := chk_some h; omega
    · exact it_lt hn h
section
variable {c : EM Bool} {body : SM} {n : Nat} {σ : Env} {T T1 T2 : Sto}
theorem while_r {d : Mi.D} {b : Bool} (h : c σ T = .ok true T1) (hb : body σ T1 = .rt d b T2) : whileLoop c body (n + 1) σ T = .rt d b T2 := by
  unfold whileLoop
  rw [h]
  simp only [then_ok, if_true, hb]
end
section
variable {T : Sto}
@[simp] theorem aug_sub (o : Nat) (i : Nat) (j : Int) (σ : Env) : augG (some (.fz (.int (o : Int)))) i .Sub (.int j) σ T = .nx (σ.set i (.fz (.int ((o : Int) - j)))) T := rfl
def wC : EM Bool := Mi.cmpE .Gt (pVar 1) (V (kE (.int 0)))
def wB (C : CallT) : SM := (sSeq [(sIf (Mi.cmpE .Eq (pVar 0) (V (kE (.tup [(.tup [(.tup []), (.int 1)])])))) (sSeq [(sRet (callC C "doubled" [(V (vVar 2)), (V (vVar 1))]))]) (sSeq [])), (sSet 3 (callC C "climbed" [(V (vVar 0)), (V (vVar 2))])), (sIf (Mi.cmpE .Eq (pVar 3) (pVar 2)) (sSeq [(sRetV 2)]) (sSeq [])), (sSet 2 (vVar 3)), (sAug 1 .Sub (V (kE (.int 1))))])
theorem p_loop (k : Nat) {e : O} (he : e ≠ one) (hd : dp e ≤ 80) (hw : wd e ≤ 9000) : ∀ (f c n : Nat) (s : Sl) (T : Sto), rk n ≤ f → n < most →
    finR ((whileLoop wC (wB (cl (k + 83))) f [.fz (toD e), .fz (.int (c : Int)), .fz (.int (n : Int)), s] T).seq (sSeq [sRetV 2])) = resO (it e c n) T
  | 0, c, n, s, T, h, _ => by
    have := rk_pos n
    omega
  | f + 1, 0, n, s, T, h, _ => by
    rw [while_f (T1 := T) (by simp [wC])]
    simp [it]
  | f + 1, c + 1, n, s, T, h, hn => by
    have hc := fun T => p_climbed k hn hd hw T
    have ht : wC [.fz (toD e), .fz (.int ((c + 1 : Nat) : Int)), .fz (.int (n : Int)), s] T = .ok true T := by
      have : (0 : Int) < ((c + 1 : Nat) : Int) := by omega
      simp only [wC]
      simp
    show _ = resO ((cl1 e n).bind (it e c)) T
    cases e1 : cl1 e n with
    | none =>
      rw [e1] at hc
      rw [while_x (x := above) (σ2 := [.fz (toD e), .fz (.int ((c + 1 : Nat) : Int)), .fz (.int (n : Int)), s]) (T2 := T) ht (by simp [wB, he, hc])]
      rfl
    | some m =>
      rw [e1] at hc
      show _ = resO (it e c m) T
      by_cases hm : m = n
      · subst hm
        rw [while_r (d := .int (m : Int)) (b := false) (T2 := T) ht (by simp [wB, he, hc]), it_fix e1]
        rfl
      · have hm' : ¬ (m : Int) = (n : Int) := by omega
        have hb : wB (cl (k + 83)) [.fz (toD e), .fz (.int ((c + 1 : Nat) : Int)), .fz (.int (n : Int)), s] T = .nx [.fz (toD e), .fz (.int (c : Int)), .fz (.int (m : Int)), .fz (.int (m : Int))] T := by
          have e2 : ((c + 1 : Nat) : Int) - 1 = (c : Int) := by omega
          have e3 : sAug 1 .Sub (V (kE (.int 1))) [.fz (toD e), .fz (.int ((c + 1 : Nat) : Int)), .fz (.int (m : Int)), .fz (.int (m : Int))] T = .nx [.fz (toD e), .fz (.int (c : Int)), .fz (.int (m : Int)), .fz (.int (m : Int))] T := by
            rw [ev_sAug 1 .Sub _ (.int ((c + 1 : Nat) : Int)) rfl]
            simp only [ev_thenS, ev_V, ev_bind, ev_kE, bind_ok, ev_kap, ev_pure, then_ok, ev_kas, aug_sub, e2]
            rfl
          simp only [Int.natCast_add] at e3 ⊢
          simp [wB, he, hc, hm'] at e3 ⊢
          rw [e3]
          rfl
        rw [while_t ht hb]
        rcases cl1_rk he e1 with z | hlt
        · exact absurd z hm
        · exact p_loop k he hd hw f c m _ T (by omega) (cl1_lt e1)
theorem p_often (k : Nat) {e : O} {c n : Nat} (hc : 1 ≤ c) (hn : n < most) (hd : dp e ≤ 80) (hw : wd e ≤ 9000) (T : Sto) : cl (k + 84) "climbed_often" [toD e, .int (c : Int), .int (n : Int)] T = resO (pO e c n) T := by
  rw [r_climbed_often]
  have em : m_climbed_often (cl (k + 83)) = sSeq [(sIf (Mi.cmpE .Eq (pVar 0) (V (tupE []))) (sSeq [(sRet (callC (cl (k + 83)) "told" [(V (binE .Add (pVar 2) (pVar 1)))]))]) (sSeq [])), sWh wC (wB (cl (k + 83))), sRetV 2] := rfl
  rw [em]
  unfold pO
  by_cases h0 : e = .z
  · subst h0
    have ht : ∀ T, cl (k + 83) "told" [.int ((n : Int) + (c : Int))] T = resO (chk (n + c)) T := fun T => p_toldA _ n c T
    simp [ht]
    cases chk (n + c) <;> simp
  · rw [if_neg h0]
    have sw : ∀ σ T, sWh wC (wB (cl (k + 83))) σ T = whileLoop wC (wB (cl (k + 83))) loopFuel σ T := fun _ _ => rfl
    by_cases h1 : e = one
    · subst h1
      rw [if_pos rfl]
      have hdb : ∀ T, cl (k + 83) "doubled" [.int (n : Int), .int (c : Int)] T = resO (chk (n * 2 ^ c)) T := fun T => p_doubled (k + 81) hn T
      have ht : wC [.fz (toD one), .fz (.int (c : Int)), .fz (.int (n : Int)), .no] T = .ok true T := by
        simp [wC]
        omega
      have hf : loopFuel = 999999999 + 1 := rfl
      cases hk : chk (n * 2 ^ c) with
      | none =>
        rw [hk] at hdb
        have := while_x (n := 999999999) (x := above) (σ2 := [.fz (toD one), .fz (.int (c : Int)), .fz (.int (n : Int)), .no]) (T2 := T) ht (body := wB (cl (k + 83))) (by simp [wB, hdb])
        simp [h0, sw, hf, this]
      | some m =>
        rw [hk] at hdb
        have := while_r (n := 999999999) (d := .int (m : Int)) (b := false) (T2 := T) ht (body := wB (cl (k + 83))) (by simp [wB, hdb])
        simp [h0, sw, hf, this]
    · rw [if_neg h1]
      have hl := p_loop k h1 hd hw loopFuel c n .no T (Nat.le_trans (rk_le n) (by decide)) hn
      simp [h0, sw]
      exact hl
/-! ### the stage -/
def stQ : O → Nat → Option Nat
  | .z, n => some n
  | .s r e c, n => (pO e c n).bind (stQ r)
def Pos : O → Prop
  | .z => True
  | .s r e c => 1 ≤ c ∧ Pos r
theorem Dsc.pos : ∀ {a : O}, Dsc a → Pos a
  | .z, _ => trivial
  | .s r e c, h => ⟨h.2.2.1, Dsc.pos h.1⟩
theorem stQ_lt : ∀ {a : O} {n m : Nat}, n < most → stQ a n = some m → m < most
  | .z, n, m, hn, h => by
    have : n = m := by simpa [stQ] using h
    omega
  | .s r e c, n, m, hn, h => by
    have h : (pO e c n).bind (stQ r) = some m := h
    cases e1 : pO e c n with
    | none => rw [e1] at h; cases h
    | some j =>
      rw [e1] at h
      exact stQ_lt (pO_lt hn e1) h
theorem rev_s (r e : O) (c : Nat) : (toL (.s r e c)).reverse = pr (toD e) c :: (toL r).reverse := by
  rw [toL_s, List.reverse_append]
  rfl
def sB (C : CallT) : SM := sSeq [(sSet 1 (callC C "climbed_often" [(V (vVar 2)), (V (vVar 3)), (V (vVar 1))]))]
theorem st_loop (k : Nat) (A : Mi.D) : ∀ (a : O) (n : Nat) (s2 s3 : Sl) (T : Sto), Pos a → n < most → dp a ≤ 80 → wd a ≤ 9000 →
    finR ((forLoop (tgT [2, 3]) (sB (cl (k + 84))) (toL a).reverse [.fz A, .fz (.int (n : Int)), s2, s3] T).seq (sSeq [sRet (callC (cl (k + 84)) "told" [V (vVar 1)])])) = resO (stQ a n) T
  | .z, n, s2, s3, T, _, hn, _, _ => by
    have ht : ∀ T, cl (k + 84) "told" [.int (n : Int)] T = resO (chk n) T := fun T => p_told _ n T
    rw [chk_lt hn] at ht
    simp [toL, forLoop, ht, stQ]
  | .s r e c, n, s2, s3, T, hp, hn, hd, hw => by
    rw [rev_s]
    have hde : dp e ≤ 80 := by simp only [dp] at hd; omega
    have hwe : wd e ≤ 9000 := by simp only [wd] at hw; omega
    have ho := fun T => p_often k hp.1 hn hde hwe T
    unfold forLoop
    rw [tg_pr]
    show _ = resO ((pO e c n).bind (stQ r)) T
    cases e1 : pO e c n with
    | none =>
      rw [e1] at ho
      simp [sB, ho]
    | some m =>
      rw [e1] at ho
      have := st_loop k A r m (.fz (toD e)) (.fz (.int (c : Int))) T hp.2 (pO_lt hn e1) (by simp only [dp] at hd; omega) (by simp only [wd] at hw; omega)
      have hb : sB (cl (k + 84)) [.fz A, .fz (.int (n : Int)), .fz (toD e), .fz (.int (c : Int))] T = .nx [.fz A, .fz (.int (m : Int)), .fz (toD e), .fz (.int (c : Int))] T := by simp [sB, ho]
      simp only [List.set, hb]
      exact this
theorem p_stage (k : Nat) {a : O} {n : Nat} (hp : Pos a) (hn : n < most) (hd : dp a ≤ 80) (hw : wd a ≤ 9000) (T : Sto) : cl (k + 85) "stage" [toD a, .int (n : Int)] T = resO (stQ a n) T := by
  rw [r_stage]
  have em : m_stage (cl (k + 84)) = sSeq [sFor (tgT [2, 3]) (itRv (V (vVar 0))) (sB (cl (k + 84))), sRet (callC (cl (k + 84)) "told" [V (vVar 1)])] := rfl
  have hi : ∀ σ T, (itRv (V (vVar 0))) (Sl.fz (toD a) :: σ) T = .ok (toL a).reverse T := fun _ _ => rfl
  rw [em]
  have := st_loop k (toD a) a n .no .no T hp hn hd hw
  rw [ev_sC, ev_sFor, ev_thenS, hi]
  exact this
end
end K71


set_option Elab.async false
set_option linter.all false
set_option maxRecDepth 100000
set_option maxHeartbeats 4000000
namespace K71
open PySem hiding Env
open Mi
/-! ### the law's climb and stage -/
def lcl (e : O) (n : Nat) : Option Nat :=
  if n = 0 then some (if gaw e then 1 else 0) else if n = 1 then some 2 else if e = one then some (2 * n) else if e = two ∧ n < 700 then some (n * 2 ^ n) else if n = 2 ∧ e = three then some 2048 else if n = 2 ∧ e = omega then some 8 else none
def optD : Option Nat → Mi.D
  | some m => .int (m : Int)
  | none => .non
@[irreducible] def p50 : Int := 10 ^ 50
@[irreducible] def p100 : Int := 10 ^ 100
@[irreducible] def p150 : Int := 10 ^ 150
section
variable {σ : Env} {T : Sto}
@[simp] theorem optD_s (m : Nat) : optD (some m) = .int (m : Int) := rfl
@[simp] theorem optD_n : optD none = .non := rfl
@[simp] theorem bin_p50 : binD .Pow (.int 10) (.int 50) = some (.int p50) := by unfold p50; rfl
@[simp] theorem bin_p100 : binD .Mult (.int p50) (.int p50) = some (.int p100) := by
  unfold p50 p100
  kernel_rfl
@[simp] theorem bin_p150 : binD .Mult (.int p100) (.int p50) = some (.int p150) := by
  unfold p50 p100 p150
  kernel_rfl
@[simp] theorem bin_p200 : binD .Mult (.int p150) (.int p50) = some (.int mostI) := by
  unfold p50 p150 mostI
  kernel_rfl
theorem in_34 (e : O) : cmpD .In (toD e) (.tup [.tup [.tup [.tup [], .int 3]], .tup [.tup [.tup [.tup [.tup [], .int 1]], .int 1]]]) = if dp e ≤ 90 then some (decide (e = three) || decide (e = omega)) else cmpD .In (toD e) (.tup [.tup [.tup [.tup [], .int 3]], .tup [.tup [.tup [.tup [.tup [], .int 1]], .int 1]]]) := by
  split
  · rename_i h
    have h1 := toL_deep e
    have e1 : (toD e).plain = true := toL_plain e
    have e3 : (toD e).deep = D.deeps (toL e) + 1 := rfl
    have e0 : cmpD .In (toD e) (.tup [toD three, toD omega]) = if D.plains [toD three, toD omega] && (toD e).plain && decide ((toD e).deep ≤ 190) then some ((toD three).eqv (toD e) || ((toD omega).eqv (toD e) || false)) else none := rfl
    have e4 : D.plains [toD three, toD omega] = true := rfl
    have e5 : (toD e).deep ≤ 190 := by omega
    show cmpD .In (toD e) (.tup [toD three, toD omega]) = _
    rw [e0, e1, e4, decide_eq_true e5, toD_eqv, toD_eqv]
    have z1 : decide (three = e) = decide (e = three) := decide_eq_decide.mpr ⟨Eq.symm, Eq.symm⟩
    have z2 : decide (omega = e) = decide (e = omega) := decide_eq_decide.mpr ⟨Eq.symm, Eq.symm⟩
    rw [z1, z2]
    simp
  · rfl
@[simp] theorem it2_0 (a b : Mi.D) : itemM (.lst [a, b]) (.int 0) σ T = .ok a T := itemL (i := 0) rfl
@[simp] theorem it2_1 (a b : Mi.D) : itemM (.lst [a, b]) (.int 1) σ T = .ok b T := itemL (i := 1) rfl
theorem p_lclimb (k : Nat) {e : O} {n : Nat} (hz : e ≠ .z) (hn : n < most) (hd : dp e ≤ 80) (hw : wd e ≤ 9000) (T : Sto) : cl (k + 83) "_law_climb" [toD e, .int (n : Int)] T = .ok (optD (lcl e n), false) T := by
  rw [r__law_climb]
  have hg : ∀ T, cl (k + 82) "_law_goes_away" [toD e] T = .ok (.bl (gaw e), false) T := fun T => p_lgoes 80 e k T hd hw
  by_cases h0 : n = 0
  · subst h0
    have e1 : lcl e 0 = some (if gaw e then 1 else 0) := rfl
    rw [e1]
    cases hgw : gaw e <;> rw [hgw] at hg <;> simp [m__law_climb, hz, hg]
  by_cases h1 : n = 1
  · subst h1
    have e1 : lcl e 1 = some 2 := rfl
    rw [e1]
    cases hgw : gaw e <;> rw [hgw] at hg <;> simp [m__law_climb, hz, hg]
  have h2 : ¬ (n : Int) < 2 := by omega
  by_cases he : e = one
  · have e1 : lcl e n = some (2 * n) := by simp [lcl, h0, h1, he]
    rw [e1]
    have hcast : ((2 * n : Nat) : Int) = 2 * (n : Int) := by omega
    subst he
    simp [m__law_climb, h2, mul2 hn, show ¬ one = O.z by decide]
  by_cases h3 : e = two ∧ n < 700
  · have e1 : lcl e n = some (n * 2 ^ n) := by
      unfold lcl
      rw [if_neg h0, if_neg h1, if_neg he, if_pos h3]
    obtain ⟨rfl, h700⟩ := h3
    have h4 : (n : Int) < 700 := by omega
    have hr : ∀ T, cl (k + 82) "_law_doubled" [.int (n : Int)] T = .ok (.int ((2 : Int) ^ n), false) T := fun T => p_ldoubled _ n (by omega) T
    have hm := mulP (n := n) (k := n) hn (by omega)
    have hcast : ((n * 2 ^ n : Nat) : Int) = (n : Int) * (2 : Int) ^ n := by
      rw [Int.natCast_mul, Int.natCast_pow]
      rfl
    rw [e1]
    simp [m__law_climb, h2, h4, hr, hm, show ¬ two = one by decide, show ¬ two = O.z by decide]
  have hin := in_34 e
  rw [if_pos (by omega)] at hin
  by_cases h5 : n = 2
  · subst h5
    have b2 : ¬ e = two := fun z => h3 ⟨z, by omega⟩
    by_cases h6 : e = three
    · subst h6
      have e1 : lcl three 2 = some 2048 := rfl
      rw [e1]
      simp [m__law_climb, hin, show ¬ three = one by decide, show ¬ three = two by decide, show ¬ three = O.z by decide]
    by_cases h7 : e = omega
    · subst h7
      have e1 : lcl omega 2 = some 8 := rfl
      rw [e1]
      simp [m__law_climb, hin, show ¬ omega = one by decide, show ¬ omega = two by decide, show ¬ omega = O.z by decide, show ¬ omega = three by decide]
    have e1 : lcl e 2 = none := by
      unfold lcl
      rw [if_neg h0, if_neg h1, if_neg he, if_neg h3, if_neg (fun z => h6 z.2), if_neg (fun z => h7 z.2)]
    rw [e1]
    simp [m__law_climb, hin, hz, he, b2, h6, h7]
  · have e1 : lcl e n = none := by
      unfold lcl
      rw [if_neg h0, if_neg h1, if_neg he, if_neg h3, if_neg (fun z => h5 z.1), if_neg (fun z => h5 z.1)]
    have h5' : ¬ (n : Int) = 2 := by omega
    rw [e1]
    by_cases b : e = two
    · have c : ¬ (n : Int) < 700 := fun z => h3 ⟨b, by omega⟩
      subst b
      simp [m__law_climb, h2, h5', c, show ¬ two = one by decide, show ¬ two = O.z by decide]
    · simp [m__law_climb, hz, h2, h5', he, b]
theorem cl1_lcl {e : O} {n : Nat} (he : e ≠ one) (hn : n < most) : cl1 e n = (lcl e n).bind chk := by
  have m3 := most_3
  unfold cl1 lcl
  by_cases h0 : n = 0
  · rw [if_pos h0, if_pos h0]
    cases gaw e
    · exact (chk_lt (n := 0) (by omega)).symm
    · exact (chk_lt (n := 1) (by omega)).symm
  rw [if_neg h0, if_neg h0]
  by_cases h1 : n = 1
  · rw [if_pos h1, if_pos h1]
    exact (chk_lt (n := 2) (by omega)).symm
  rw [if_neg h1, if_neg h1, if_neg he, if_neg he]
  by_cases h2 : e = two
  · subst h2
    by_cases h3 : n < 700
    · rw [if_pos ⟨rfl, by omega⟩, if_pos ⟨rfl, h3⟩]
      rfl
    · simp only [show ¬ two = three by decide, show ¬ two = omega by decide, and_false, if_false, h3, true_and]
      split
      · rename_i z
        have hn7 : n = 700 := by omega
        refine chk_ge fun q => ?_
        have a1 : 2 ^ 665 ≤ 2 ^ n := Nat.pow_le_pow_right (by decide) (by omega)
        have a2 : 1 * 2 ^ n ≤ n * 2 ^ n := Nat.mul_le_mul_right _ (by omega)
        have a3 := most_pow
        omega
      · rfl
  · rw [if_neg (fun z : e = two ∧ n ≤ 700 => h2 z.1), if_neg (fun z : e = two ∧ n < 700 => h2 z.1)]
    split
    · exact (chk_lt (n := 2048) (by omega)).symm
    · split
      · exact (chk_lt (n := 8) (by omega)).symm
      · rfl
def lst (e : O) : Option Nat → Option Nat
  | some n => if n < most then lcl e n else some n
  | none => none
def iL' (e : O) : Nat → Option Nat → Option Nat
  | 0, o => o
  | k + 1, o => iL' e k (lst e o)
theorem iL_none (e : O) : ∀ k, iL' e k none = none
  | 0 => rfl
  | k + 1 => iL_none e k
theorem iL_ge (e : O) {m : Nat} (h : ¬ m < most) : ∀ k, iL' e k (some m) = some m
  | 0 => rfl
  | k + 1 => by
    have : lst e (some m) = some m := if_neg h
    show iL' e k (lst e (some m)) = _
    rw [this]
    exact iL_ge e h k
theorem iL_it {e : O} (he : e ≠ one) : ∀ (k n : Nat), n < most → (iL' e k (some n)).bind chk = it e k n
  | 0, n, hn => chk_lt hn
  | k + 1, n, hn => by
    have e1 : lst e (some n) = lcl e n := if_pos hn
    have e2 := cl1_lcl he hn
    show (iL' e k (lst e (some n))).bind chk = (cl1 e n).bind (it e k)
    rw [e1, e2]
    cases h : lcl e n with
    | none =>
      rw [iL_none]
      rfl
    | some m =>
      by_cases hm : m < most
      · rw [iL_it he k m hm]
        show _ = (chk m).bind _
        rw [chk_lt hm]
        rfl
      · rw [iL_ge e hm]
        show chk m = (chk m).bind _
        rw [chk_ge hm]
        rfl
theorem iL_one0 : ∀ k, iL' one k (some 0) = some 0
  | 0 => rfl
  | k + 1 => by
    have h0 : (0 : Nat) < most := by have := most_3; omega
    have e1 : lst one (some 0) = some 0 := if_pos h0
    show iL' one k (lst one (some 0)) = _
    rw [e1]
    exact iL_one0 k
/-- what the law's turn of a pair leaves ahead of the check -/
def lp (e : O) (c n : Nat) : Option Nat := if e = .z then some (n + c) else if e = one ∧ 0 < n then (if 700 < c then none else some (n * 2 ^ c)) else iL' e (min c 6) (some n)
theorem lp_pO {e : O} {c n : Nat} (hn : n < most) : (lp e c n).bind chk = pO e c n := by
  unfold lp pO
  by_cases h0 : e = .z
  · rw [if_pos h0, if_pos h0]
    rfl
  rw [if_neg h0, if_neg h0]
  by_cases h1 : e = one
  · rw [if_pos h1]
    by_cases h2 : 0 < n
    · rw [if_pos ⟨h1, h2⟩]
      split
      · refine (chk_ge fun q => ?_).symm
        have a1 : 2 ^ 665 ≤ 2 ^ c := Nat.pow_le_pow_right (by decide) (by omega)
        have a2 : 1 * 2 ^ c ≤ n * 2 ^ c := Nat.mul_le_mul_right _ h2
        have a3 := most_pow
        omega
      · rfl
    · have hn0 : n = 0 := by omega
      rw [if_neg fun z => h2 z.2, h1, hn0, iL_one0, Nat.zero_mul]
      rfl
  · rw [if_neg (fun z => h1 z.1), if_neg h1, iL_it h1 _ _ hn, it_six h1]
@[simp] theorem isnt_int (i : Int) : cmpD .IsNot (.int i) .non = some true := rfl
@[simp] theorem isnt_non : cmpD .IsNot .non .non = some false := rfl
@[simp] theorem is_int (i : Int) : cmpD .Is (.int i) .non = some false := rfl
@[simp] theorem is_non : cmpD .Is .non .non = some true := rfl
def cB (C : CallT) : SM := (sSeq [(sIf (tAllE [(Mi.cmpE .IsNot (pVar 1) (V (kE .non))), (Mi.cmpE .Lt (pVar 1) (pVar 2))]) (sSeq [(sSet 1 (callC C "_law_climb" [(V (vVar 3)), (V (vVar 1))]))]) (sSeq []))])
theorem c_loop (k : Nat) {e : O} (hz : e ≠ .z) (hd : dp e ≤ 80) (hw : wd e ≤ 9000) (A C : Mi.D) (T : Sto) : ∀ (ds : List Mi.D) (o : Option Nat) (s : Sl), ∃ s', forLoop (tgN 5) (cB (cl (k + 83))) ds [.fz A, .fz (optD o), .fz (.int mostI), .fz (toD e), .fz C, s] T = .nx [.fz A, .fz (optD (iL' e ds.length o)), .fz (.int mostI), .fz (toD e), .fz C, s'] T
  | [], o, s => ⟨s, rfl⟩
  | d :: ds, o, s => by
    obtain ⟨s', h⟩ := c_loop k hz hd hw A C T ds (lst e o) (.fz d)
    refine ⟨s', ?_⟩
    have hb : cB (cl (k + 83)) [.fz A, .fz (optD o), .fz (.int mostI), .fz (toD e), .fz C, .fz d] T = .nx [.fz A, .fz (optD (lst e o)), .fz (.int mostI), .fz (toD e), .fz C, .fz d] T := by
      cases o with
      | none => simp [cB, lst]
      | some n =>
        by_cases hn : n < most
        · have hc := fun T => p_lclimb k hz hn hd hw T
          have h1 : (n : Int) < mostI := by rw [mostI_eq]; omega
          simp [cB, lst, hn, h1, hc]
        · have h1 : ¬ (n : Int) < mostI := by rw [mostI_eq]; omega
          simp [cB, lst, hn, h1]
    unfold forLoop
    rw [ev_tgN]
    simp only [List.set, hb]
    exact h
def dB (C : CallT) : SM := (sSeq [(sIf (Mi.cmpE .Eq (pVar 3) (V (tupE []))) (sSeq [(sSet 1 (binE .Add (pVar 1) (pVar 4)))]) (sSeq [(sIf (tAllE [(Mi.cmpE .Eq (pVar 3) (V (tupE [(V (tupE [(V (tupE [])), (V (kE (.int 1)))]))]))), (Mi.cmpE .Gt (pVar 1) (V (kE (.int 0))))]) (sSeq [(sIf (Mi.cmpE .Gt (pVar 4) (V (kE (.int 700)))) (sSeq [(sRet (kE .non))]) (sSeq [])), (sSet 1 (binE .Mult (pVar 1) (V (callC C "_law_doubled" [(V (vVar 4))]))))]) (sSeq [(sFor (tgN 5) (itR1 (V (twoE "min" [(V (vVar 4)), (V (kE (.int 6)))]))) (cB C))]))])), (sIf (tAnyE [(Mi.cmpE .Is (pVar 1) (V (kE .non))), (Mi.cmpE .GtE (pVar 1) (pVar 2))]) (sSeq [(sRet (kE .non))]) (sSeq []))])
theorem seq_of {m : SM} {ms : List SM} {σ σ' : Env} {T T' : Sto} (h : m σ T = .nx σ' T') : sSeq (m :: ms) σ T = sSeq ms σ' T' := by
  rw [ev_sC, h]
  rfl
/-- a turn of a pair -/
theorem d_turn (k : Nat) {e : O} {c n : Nat} (hn : n < most) (hd : dp e ≤ 80) (hw : wd e ≤ 9000) (A : Mi.D) (s : Sl) (T : Sto) :
    match pO e c n with
    | some m => ∃ s', dB (cl (k + 83)) [.fz A, .fz (.int (n : Int)), .fz (.int mostI), .fz (toD e), .fz (.int (c : Int)), s] T = .nx [.fz A, .fz (.int (m : Int)), .fz (.int mostI), .fz (toD e), .fz (.int (c : Int)), s'] T
    | none => dB (cl (k + 83)) [.fz A, .fz (.int (n : Int)), .fz (.int mostI), .fz (toD e), .fz (.int (c : Int)), s] T = .rt .non false T := by
  rw [← lp_pO hn]
  have tail : ∀ (o : Option Nat) (s : Sl), (match o.bind chk with
    | some m => ∃ s', (sSeq [(sIf (tAnyE [(Mi.cmpE .Is (pVar 1) (V (kE .non))), (Mi.cmpE .GtE (pVar 1) (pVar 2))]) (sSeq [(sRet (kE .non))]) (sSeq []))]) [.fz A, .fz (optD o), .fz (.int mostI), .fz (toD e), .fz (.int (c : Int)), s] T = .nx [.fz A, .fz (.int (m : Int)), .fz (.int mostI), .fz (toD e), .fz (.int (c : Int)), s'] T
    | none => (sSeq [(sIf (tAnyE [(Mi.cmpE .Is (pVar 1) (V (kE .non))), (Mi.cmpE .GtE (pVar 1) (pVar 2))]) (sSeq [(sRet (kE .non))]) (sSeq []))]) [.fz A, .fz (optD o), .fz (.int mostI), .fz (toD e), .fz (.int (c : Int)), s] T = .rt .non false T) := fun o s => by
    cases o with
    | none =>
      show (sSeq _) _ T = _
      simp
    | some m =>
      show (match chk m with | some m => _ | none => _)
      by_cases hm : m < most
      · have h1 : ¬ mostI ≤ (m : Int) := by rw [mostI_eq]; omega
        rw [chk_lt hm]
        exact ⟨s, by simp [h1]⟩
      · have h1 : mostI ≤ (m : Int) := by rw [mostI_eq]; omega
        rw [chk_ge hm]
        simp [h1]
  unfold lp
  by_cases h0 : e = .z
  · subst h0
    rw [if_pos rfl]
    have := tail (some (n + c)) s
    have hcast : ((n + c : Nat) : Int) = (n : Int) + (c : Int) := by omega
    have eq : dB (cl (k + 83)) [.fz A, .fz (.int (n : Int)), .fz (.int mostI), .fz (toD .z), .fz (.int (c : Int)), s] T = (sSeq [(sIf (tAnyE [(Mi.cmpE .Is (pVar 1) (V (kE .non))), (Mi.cmpE .GtE (pVar 1) (pVar 2))]) (sSeq [(sRet (kE .non))]) (sSeq []))]) [.fz A, .fz (optD (some (n + c))), .fz (.int mostI), .fz (toD .z), .fz (.int (c : Int)), s] T := by
      rw [optD_s, hcast]
      unfold dB
      exact seq_of (by simp)
    rw [eq]
    exact this
  rw [if_neg h0]
  by_cases h1 : e = one ∧ 0 < n
  · rw [if_pos h1]
    obtain ⟨rfl, hpos⟩ := h1
    by_cases h2 : 700 < c
    · have h2' : (700 : Int) < (c : Int) := by omega
      rw [if_pos h2]
      show dB _ _ T = _
      simp [dB, hpos, h2', show ¬ one = O.z by decide]
    · rw [if_neg h2]
      have h2' : ¬ (700 : Int) < (c : Int) := by omega
      have := tail (some (n * 2 ^ c)) s
      have hcast : ((n * 2 ^ c : Nat) : Int) = (n : Int) * (2 : Int) ^ c := by
        rw [Int.natCast_mul, Int.natCast_pow]
        rfl
      have hr : ∀ T, cl (k + 83) "_law_doubled" [.int (c : Int)] T = .ok (.int ((2 : Int) ^ c), false) T := fun T => p_ldoubled _ c (by omega) T
      have hm := mulP (n := n) (k := c) hn (by omega)
      have eq : dB (cl (k + 83)) [.fz A, .fz (.int (n : Int)), .fz (.int mostI), .fz (toD one), .fz (.int (c : Int)), s] T = (sSeq [(sIf (tAnyE [(Mi.cmpE .Is (pVar 1) (V (kE .non))), (Mi.cmpE .GtE (pVar 1) (pVar 2))]) (sSeq [(sRet (kE .non))]) (sSeq []))]) [.fz A, .fz (optD (some (n * 2 ^ c))), .fz (.int mostI), .fz (toD one), .fz (.int (c : Int)), s] T := by
        rw [optD_s, hcast]
        unfold dB
        exact seq_of (by simp [hpos, h2', hr, hm, show ¬ one = O.z by decide])
      rw [eq]
      exact this
  · rw [if_neg h1]
    have hmin : blt2 "min" [.int (c : Int), .int 6] = some (.int ((min c 6 : Nat) : Int)) := by
      show some (Mi.D.int (if (6 : Int) < (c : Int) then 6 else (c : Int))) = _
      congr 2
      split <;> omega
    obtain ⟨s', hl⟩ := c_loop k h0 hd hw A (.int (c : Int)) T (rangeD 0 (min c 6)) (some n) s
    have hlen : (rangeD 0 (min c 6)).length = min c 6 := by simp [rangeD]
    rw [hlen] at hl
    have := tail (iL' e (min c 6) (some n)) s'
    have eq : dB (cl (k + 83)) [.fz A, .fz (.int (n : Int)), .fz (.int mostI), .fz (toD e), .fz (.int (c : Int)), s] T = (sSeq [(sIf (tAnyE [(Mi.cmpE .Is (pVar 1) (V (kE .non))), (Mi.cmpE .GtE (pVar 1) (pVar 2))]) (sSeq [(sRet (kE .non))]) (sSeq []))]) [.fz A, .fz (optD (iL' e (min c 6) (some n))), .fz (.int mostI), .fz (toD e), .fz (.int (c : Int)), s'] T := by
      have hk : ((min c 6 : Nat) : Int) = ((min c 6 : Nat) : Int) := rfl
      have r1 := ev_r1M (σ := [.fz A, .fz (.int (n : Int)), .fz (.int mostI), .fz (toD e), .fz (.int (c : Int)), s]) (T := T) (min c 6) (by omega)
      have hb : (tAllE [(Mi.cmpE .Eq (pVar 3) (V (tupE [(V (tupE [(V (tupE [])), (V (kE (.int 1)))]))]))), (Mi.cmpE .Gt (pVar 1) (V (kE (.int 0))))]) [.fz A, .fz (.int (n : Int)), .fz (.int mostI), .fz (toD e), .fz (.int (c : Int)), s] T = .ok false T := by
        by_cases he : e = one
        · have hp : ¬ 0 < n := fun z => h1 ⟨he, z⟩
          have hp' : n = 0 := by omega
          simp [he, hp']
        · simp [he]
      unfold dB
      rw [ev_sC, ev_sIf, ev_thenS]
      have hz' : (Mi.cmpE .Eq (pVar 3) (V (tupE []))) [.fz A, .fz (.int (n : Int)), .fz (.int mostI), .fz (toD e), .fz (.int (c : Int)), s] T = .ok false T := by simp [h0]
      rw [hz', then_ok, ev_kas, iteS_f, ev_sC, ev_sIf, ev_thenS, hb, then_ok, ev_kas, iteS_f, ev_sC, ev_sFor, ev_thenS]
      have hit : (itR1 (V (twoE "min" [(V (vVar 4)), (V (kE (.int 6)))]))) [.fz A, .fz (.int (n : Int)), .fz (.int mostI), .fz (toD e), .fz (.int (c : Int)), s] T = .ok (rangeD 0 (min c 6)) T := by
        simp only [ev_itR1, ev_V, ev_bind, twoE, ev_seqC, ev_vVar, List.getElem?_cons_succ, List.getElem?_cons_zero, vGet_fz, bind_ok, ev_kap, ev_pure, ev_kE, ev_seqN, hmin, ev_lift, r1]
      rw [hit, then_ok, ev_kas]
      rw [optD_s] at hl
      rw [hl]
      rfl
    rw [eq]
    exact this
theorem l_loop (k : Nat) (A : Mi.D) : ∀ (a : O) (n : Nat) (s3 s4 s5 : Sl) (T : Sto), n < most → dp a ≤ 80 → wd a ≤ 9000 →
    finR ((forLoop (tgT [3, 4]) (dB (cl (k + 83))) (toL a).reverse [.fz A, .fz (.int (n : Int)), .fz (.int mostI), s3, s4, s5] T).seq (sSeq [sRetV 1])) = .ok (optD (stQ a n), false) T
  | .z, n, s3, s4, s5, T, hn, _, _ => by
    simp [toL, forLoop, stQ]
  | .s r e c, n, s3, s4, s5, T, hn, hd, hw => by
    rw [rev_s]
    have hde : dp e ≤ 80 := by simp only [dp] at hd; omega
    have hwe : wd e ≤ 9000 := by simp only [wd] at hw; omega
    have ho := d_turn k (c := c) hn hde hwe A s5 T
    unfold forLoop
    rw [tg_pr]
    show _ = Res.ok (optD ((pO e c n).bind (stQ r)), false) T
    cases e1 : pO e c n with
    | none =>
      rw [e1] at ho
      simp only [List.set, ho]
      rfl
    | some m =>
      rw [e1] at ho
      obtain ⟨s', ho⟩ := ho
      have := l_loop k A r m (.fz (toD e)) (.fz (.int (c : Int))) s' T (pO_lt hn e1) (by simp only [dp] at hd; omega) (by simp only [wd] at hw; omega)
      simp only [List.set, ho]
      exact this
theorem p_lstage (k : Nat) {a : O} {n : Nat} (hn : n < most) (hd : dp a ≤ 80) (hw : wd a ≤ 9000) (T : Sto) : cl (k + 84) "_law_stage" [toD a, .int (n : Int)] T = .ok (optD (stQ a n), false) T := by
  rw [r__law_stage]
  have em : m__law_stage (cl (k + 83)) = sSeq [(sSet 2 (binE .Pow (V (kE (.int 10))) (V (kE (.int 50))))), (sSet 2 (binE .Mult (V (binE .Mult (V (binE .Mult (pVar 2) (pVar 2))) (pVar 2))) (pVar 2))), (sFor (tgT [3, 4]) (itX (V (revE (pVar 0)))) (dB (cl (k + 83)))), sRetV 1] := rfl
  have hi : ∀ σ T, (itX (V (revE (pVar 0)))) (Sl.fz (toD a) :: σ) T = .ok (toL a).reverse T := fun _ _ => rfl
  rw [em]
  have := l_loop k (toD a) a n .no .no .no T hn hd hw
  simp [hi]
  exact this
end
end K71


set_option Elab.async false
set_option linter.all false
set_option maxRecDepth 100000
set_option maxHeartbeats 4000000
namespace K71
open PySem hiding Env
open Mi
/-! ### the equations of the stage -/
theorem opn_split {a : O} (h : opn a = true) : ∃ r e c, a = .s r e c ∧ e ≠ .z := by
  cases a with
  | z => cases h
  | s r e c => exact ⟨r, e, c, rfl, opn_ne h⟩
theorem nxt_split {a : O} (h : nxt a = true) : ∃ r c, a = .s r .z c := by
  cases a with
  | z => cases h
  | s r e c =>
    have : e = .z := of_decide_eq_true h
    subst this
    exact ⟨r, c, rfl⟩
theorem no_lt_z (e : O) : ltO e .z = false := by
  cases e with
  | z => exact ltO_irrefl _
  | s r x n => exact ltO_asym (z_lt r x n)
theorem abv_no_z {e r : O} {c : Nat} (h : abv e (.s r .z c)) : False := by
  have := h.2
  rw [no_lt_z] at this
  cases this
theorem less_z {r e : O} {c : Nat} (h : less (.s r e c) = .z) : c ≤ 1 ∧ r = .z := by
  rw [less_s] at h
  split at h
  · exact ⟨by assumption, h⟩
  · cases h
theorem bel_z {n : Nat} {e : O} (ho : opn e = true) (h : bel n e = .z) : n = 0 ∧ gaw e = true := by
  obtain ⟨r, e1, c, rfl, he⟩ := opn_split ho
  rw [bel_s] at h
  split at h
  · rename_i hn
    split at h
    · rename_i h0
      obtain ⟨_, rfl⟩ := less_z h
      refine ⟨h0, ?_⟩
      show (true && (nxt e1 || _)) = true
      rw [hn]
      rfl
    · cases h
  · cases h
theorem tO_nxt {e : O} (h : nxt e = true) : tO e = true := by
  unfold tO
  rw [h]
  rfl
theorem tO_not {e : O} (h : nxt e = false) (hz : e ≠ .z) : tO e = !gaw e := by
  unfold tO
  rw [h, decide_eq_false hz]
  simp
theorem gaw_s (r e : O) (c : Nat) : gaw (.s r e c) = (gaw r && tO e) := rfl
theorem bel_nxt {e : O} (ho : opn e = true) (hd : Dsc e) (h : nxt (bel 0 e) = true) : gaw e = false := by
  obtain ⟨r, e1, c, rfl, he⟩ := opn_split ho
  rw [bel_s] at h
  split at h
  · rename_i hn
    rw [if_pos rfl, less_s] at h
    split at h
    · obtain ⟨r', c', rfl⟩ := nxt_split h
      exact (abv_no_z hd.2.2.2).elim
    · have : e1 = .z := of_decide_eq_true h
      exact absurd this he
  · rename_i hn
    have hb : bel 0 e1 = .z := of_decide_eq_true h
    have hn : nxt e1 = false := by simpa using hn
    obtain ⟨_, hg⟩ := bel_z (opn_of he hn) hb
    rw [gaw_s, tO_not hn he, hg]
    simp
theorem gaw_less {r e : O} {c : Nat} : gaw (less (.s r e c)) = if c ≤ 1 then gaw r else (gaw r && tO e) := by
  rw [less_s]
  split <;> rfl
theorem gaw_bel : ∀ {e : O}, opn e = true → Dsc e → bel 0 e ≠ .z → gaw (bel 0 e) = gaw e
  | .z, ho, _, _ => by cases ho
  | .s r e1 c, ho, hd, hz => by
    have he := opn_ne ho
    cases hn : nxt e1 with
    | true =>
      have hb : bel 0 (.s r e1 c) = less (.s r e1 c) := by rw [bel_s, hn]; rfl
      rw [hb, gaw_less, gaw_s, tO_nxt hn]
      split <;> simp
    | false =>
      have ho1 := opn_of he hn
      have hb : bel 0 (.s r e1 c) = .s (less (.s r e1 c)) (bel 0 e1) 1 := by rw [bel_s, hn]; rfl
      have ht : tO (bel 0 e1) = tO e1 := by
        by_cases hz1 : bel 0 e1 = .z
        · have hg := (bel_z ho1 hz1).2
          rw [hz1, tO_not hn he, hg]
          rfl
        · cases hn2 : nxt (bel 0 e1) with
          | true =>
            rw [tO_nxt hn2, tO_not hn he, bel_nxt ho1 hd.2.1 hn2]
            rfl
          | false => rw [tO_not hn2 hz1, tO_not hn he, gaw_bel ho1 hd.2.1 hz1]
      rw [hb, gaw_s, gaw_less, gaw_s, ht]
      split
      · rfl
      · cases gaw r <;> cases tO e1 <;> rfl
/-! the steps, one by one -/
theorem cl1_0 (e : O) : cl1 e 0 = some (if gaw e then 1 else 0) := rfl
theorem cl1_1 (e : O) : cl1 e 1 = some 2 := rfl
theorem cl1_3 {e : O} {n m : Nat} (he : e ≠ one) (hn : 3 ≤ n) (h : cl1 e n = some m) : e = two ∧ n ≤ 700 ∧ m = n * 2 ^ n := by
  unfold cl1 at h
  rw [if_neg (by omega : ¬ n = 0), if_neg (by omega : ¬ n = 1), if_neg he] at h
  split at h
  · rename_i z
    exact ⟨z.1, z.2, (chk_some h).1⟩
  · rw [if_neg (fun z : n = 2 ∧ e = three => by omega), if_neg (fun z : n = 2 ∧ e = omega => by omega)] at h
    cases h
theorem cl1_none {e : O} {n : Nat} (he : e ≠ one) (h2 : e ≠ two) (hn : 3 ≤ n) : cl1 e n = none := by
  cases h : cl1 e n with
  | none => rfl
  | some m => exact absurd (cl1_3 he hn h).1 h2
theorem cl1_none2 {e : O} (he : e ≠ one) (h2 : e ≠ two) (h3 : e ≠ three) (h4 : e ≠ omega) : cl1 e 2 = none := by
  unfold cl1
  rw [if_neg (by decide), if_neg (by decide), if_neg he, if_neg (fun z : e = two ∧ 2 ≤ 700 => h2 z.1), if_neg (fun z : 2 = 2 ∧ e = three => h3 z.2), if_neg (fun z : 2 = 2 ∧ e = omega => h4 z.2)]
theorem chk8 : chk 8 = some 8 := chk_lt (by have := most_3; omega)
theorem chk2048 : chk 2048 = some 2048 := chk_lt (by have := most_3; omega)
theorem chk2 : chk 2 = some 2 := chk_lt (by have := most_3; omega)
theorem chk1 : chk 1 = some 1 := chk_lt (by have := most_3; omega)
theorem chk0 : chk 0 = some 0 := chk_lt (by have := most_3; omega)
theorem cl1_two2 : cl1 two 2 = some 8 := chk8
theorem cl1_two8 : cl1 two 8 = some 2048 := chk2048
theorem it_none3 {n : Nat} (hn : 3 ≤ n) : it two 3 n = none := by
  have h2 : two ≠ one := by decide
  show (cl1 two n).bind (it two 2) = none
  cases e1 : cl1 two n with
  | none => rfl
  | some m =>
    obtain ⟨_, _, rfl⟩ := cl1_3 h2 hn e1
    have g1 := pow_ge (n := n) 3 24 hn (by decide)
    show (cl1 two (n * 2 ^ n)).bind (it two 1) = none
    cases e2 : cl1 two (n * 2 ^ n) with
    | none => rfl
    | some m2 =>
      obtain ⟨_, _, rfl⟩ := cl1_3 h2 (by omega) e2
      have g2 := pow_ge (n := n * 2 ^ n) 24 402653184 g1 (by decide)
      show (cl1 two (n * 2 ^ n * 2 ^ (n * 2 ^ n))).bind (it two 0) = none
      cases e3 : cl1 two (n * 2 ^ n * 2 ^ (n * 2 ^ n)) with
      | none => rfl
      | some m3 =>
        obtain ⟨_, h7, _⟩ := cl1_3 h2 (by omega) e3
        omega
theorem pO_1 {e : O} {n : Nat} (hz : e ≠ .z) (h1 : e ≠ one) : pO e 1 n = cl1 e n := by
  unfold pO
  rw [if_neg hz, if_neg h1]
  show (cl1 e n).bind some = _
  cases cl1 e n <;> rfl
theorem pO_one (c n : Nat) : pO one c n = chk (n * 2 ^ c) := rfl
theorem pO_z (c n : Nat) : pO .z c n = chk (n + c) := rfl
theorem pO_step {e : O} {c n : Nat} (hz : e ≠ .z) (hc : 2 ≤ c) : pO e c n = (pO e 1 n).bind (pO e (c - 1)) := by
  obtain ⟨d, rfl⟩ : ∃ d, c = d + 1 := ⟨c - 1, by omega⟩
  rw [Nat.add_sub_cancel]
  by_cases h1 : e = one
  · subst h1
    have ef : pO one d = fun m => chk (m * 2 ^ d) := funext fun m => pO_one d m
    rw [pO_one, pO_one, ef, Nat.pow_one]
    have e2 : n * 2 * 2 ^ d = n * 2 ^ (d + 1) := by rw [Nat.pow_succ, Nat.mul_assoc, Nat.mul_comm 2]
    by_cases h : n * 2 < most
    · rw [chk_lt h]
      show _ = chk (n * 2 * 2 ^ d)
      rw [e2]
    · have h2 : ¬ n * 2 ^ (d + 1) < most := by
        have : 1 ≤ 2 ^ d := Nat.one_le_two_pow
        have : n * 2 * 1 ≤ n * 2 * 2 ^ d := Nat.mul_le_mul_left _ this
        omega
      rw [chk_ge h, chk_ge h2]
      rfl
  · have ef : pO e d = it e d := funext fun m => by unfold pO; rw [if_neg hz, if_neg h1]
    rw [pO_1 hz h1, ef]
    unfold pO
    rw [if_neg hz, if_neg h1]
    rfl
theorem stQ_less {r e : O} {c n : Nat} (hc : 1 ≤ c) (hz : e ≠ .z) : stQ (.s r e c) n = (pO e 1 n).bind (stQ (less (.s r e c))) := by
  rw [less_s]
  split
  · have : c = 1 := by omega
    subst this
    rfl
  · rename_i h
    show (pO e c n).bind (stQ r) = _
    rw [pO_step hz (by omega)]
    have ef : stQ (.s r e (c - 1)) = fun m => (pO e (c - 1) m).bind (stQ r) := rfl
    rw [ef]
    cases pO e 1 n <;> rfl
def stO (a : O) (n : Nat) : Option Nat := if n < most then stQ a n else none
theorem stO_lt {a : O} {n : Nat} (h : n < most) : stO a n = stQ a n := if_pos h
theorem stO_ge {a : O} {n : Nat} (h : ¬ n < most) : stO a n = none := if_neg h
theorem stQ_stO {a r : O} {o : Option Nat} (h : ∀ m, o = some m → m < most) : o.bind (stQ r) = o.bind (stO r) := by
  cases o with
  | none => rfl
  | some m => exact (stO_lt (h m rfl)).symm
/-- one more, one less -/
theorem eq_next {a : O} {n : Nat} (hn : nxt a = true) (hd : Dsc a) : stO (less a) (n + 1) = stO a n := by
  obtain ⟨r, c, rfl⟩ := nxt_split hn
  have hc := hd.2.2.1
  by_cases h : n < most
  · rw [stO_lt h]
    show _ = (pO .z c n).bind (stQ r)
    rw [pO_z, less_s]
    by_cases h1 : n + 1 < most
    · rw [stO_lt h1]
      split
      · have : c = 1 := by omega
        subst this
        rw [chk_lt h1]
        rfl
      · show (pO .z (c - 1) (n + 1)).bind (stQ r) = _
        rw [pO_z, show n + 1 + (c - 1) = n + c by omega]
    · rw [stO_ge h1, chk_ge (by omega)]
      rfl
  · rw [stO_ge h, stO_ge (by omega)]
theorem less_one {e : O} (hn : nxt e = true) (hd : Dsc e) (h : less e = .z) : e = one := by
  obtain ⟨r, c, rfl⟩ := nxt_split hn
  obtain ⟨h1, rfl⟩ := less_z h
  have := hd.2.2.1
  have : c = 1 := by omega
  subst this
  rfl
theorem less_two {e : O} (hn : nxt e = true) (hd : Dsc e) {k : Nat} (hk : 1 ≤ k) (h : less e = .s .z .z k) : e = .s .z .z (k + 1) := by
  obtain ⟨r, c, rfl⟩ := nxt_split hn
  rw [less_s] at h
  split at h
  · subst h
    exact (abv_no_z hd.2.2.2).elim
  · simp only [O.s.injEq] at h
    obtain ⟨rfl, _, h⟩ := h
    have : c = k + 1 := by omega
    subst this
    rfl
theorem gaw_nxt {e : O} (hn : nxt e = true) : gaw e = false := by
  obtain ⟨r, c, rfl⟩ := nxt_split hn
  show (gaw r && tO .z) = false
  have : tO .z = false := rfl
  rw [this, Bool.and_false]
/-- n copies of the power of one less -/
theorem copies {e : O} {n : Nat} (hn : nxt e = true) (hd : Dsc e) (h0 : 0 < n) : pO (less e) n n = pO e 1 n := by
  have hz := nxt_nz hn
  by_cases e1 : e = one
  · subst e1
    have : less one = .z := rfl
    rw [this, pO_z, pO_one, Nat.pow_one, show n + n = n * 2 by omega]
  by_cases e2 : e = two
  · subst e2
    have : less two = one := rfl
    rw [this, pO_one, pO_1 hz e1]
    by_cases h1 : n = 1
    · subst h1
      rw [cl1_1]
      exact chk2
    · unfold cl1
      rw [if_neg (by omega : ¬ n = 0), if_neg h1, if_neg (by decide)]
      by_cases h7 : n ≤ 700
      · rw [if_pos ⟨rfl, h7⟩]
      · rw [if_neg (fun z : two = two ∧ n ≤ 700 => h7 z.2), if_neg (fun z : n = 2 ∧ two = three => absurd z.2 (by decide)), if_neg (fun z : n = 2 ∧ two = omega => absurd z.2 (by decide))]
        refine chk_ge fun q => ?_
        have a1 : 2 ^ 665 ≤ 2 ^ n := Nat.pow_le_pow_right (by decide) (by omega)
        have a2 : 1 * 2 ^ n ≤ n * 2 ^ n := Nat.mul_le_mul_right _ h0
        have a3 := most_pow
        omega
  by_cases e3 : e = three
  · subst e3
    have : less three = two := rfl
    rw [this, pO_1 hz e1]
    have ep : pO two n n = it two n n := rfl
    rw [ep]
    by_cases h1 : n = 1
    · subst h1
      rfl
    · by_cases h2 : n = 2
      · subst h2
        show (cl1 two 2).bind (it two 1) = cl1 three 2
        rw [cl1_two2]
        show (cl1 two 8).bind (it two 0) = cl1 three 2
        rw [cl1_two8]
        rfl
      · have hr := rk_3 (n := n) (by omega)
        rw [it_stable (by decide) _ n (Nat.le_refl _) n 3 (by omega) hr, it_none3 (by omega), cl1_none (by decide) (by decide) (by omega)]
  · have l0 : less e ≠ .z := fun z => e1 (less_one hn hd z)
    have l1 : less e ≠ one := fun z => e2 (less_two hn hd (Nat.le_refl 1) z)
    have l2 : less e ≠ two := fun z => e3 (less_two hn hd (by decide : 1 ≤ 2) z)
    have e4 : e ≠ omega := fun z => by subst z; cases hn
    rw [pO_1 hz e1]
    have ep : pO (less e) n n = it (less e) n n := by unfold pO; rw [if_neg l0, if_neg l1]
    rw [ep]
    by_cases h1 : n = 1
    · subst h1
      rfl
    · obtain ⟨k, rfl⟩ : ∃ k, n = k + 2 := ⟨n - 2, by omega⟩
      show (cl1 (less e) (k + 2)).bind (it (less e) (k + 1)) = _
      by_cases h2 : k = 0
      · subst h2
        rw [cl1_none2 e1 e2 e3 e4]
        cases h : cl1 (less e) (0 + 2) with
        | none => rfl
        | some m =>
          show (cl1 (less e) m).bind (it (less e) 0) = none
          have hm : 3 ≤ m := by
            rcases cl1_rk l1 h with rfl | hlt
            · have h' : cl1 (less e) 2 = some 2 := h
              unfold cl1 at h'
              rw [if_neg (by decide), if_neg (by decide), if_neg l1, if_neg (fun z : less e = two ∧ 2 ≤ 700 => l2 z.1)] at h'
              split at h'
              · cases h'
              · split at h'
                · cases h'
                · cases h'
            · have r2 : rk (0 + 2) = 4 := rfl
              rw [r2] at hlt
              unfold rk at hlt
              split at hlt
              · omega
              · split at hlt
                · omega
                · split at hlt
                  · omega
                  · omega
          rw [cl1_none l1 l2 hm]
          rfl
      · rw [cl1_none e1 e2 (by omega), cl1_none l1 l2 (by omega)]
        rfl
theorem bel_spec {n : Nat} (hn : 2 ≤ n) : ∀ {e : O}, opn e = true → Dsc e → bel n e ≠ one ∧ bel n e ≠ omega ∧ (bel n e = two → n = 2 ∧ e = omega) ∧ (bel n e = three → n = 3)
  | .z, ho, _ => by cases ho
  | .s r e1 c, ho, hd => by
    have he := opn_ne ho
    rw [bel_s]
    split
    · rename_i hx
      rw [if_neg (by omega : ¬ n = 0)]
      refine ⟨fun z => ?_, fun z => ?_, fun z => ?_, fun z => ?_⟩
      · unfold one at z
        simp only [O.s.injEq] at z
        omega
      · unfold omega at z
        simp only [O.s.injEq] at z
        omega
      · unfold two at z
        simp only [O.s.injEq] at z
        obtain ⟨z1, z2, z3⟩ := z
        refine ⟨z3, ?_⟩
        obtain ⟨hc, rfl⟩ := less_z z1
        have q : c = 1 := by have := hd.2.2.1; omega
        have q2 := less_one hx hd.2.1 z2
        subst q q2
        rfl
      · unfold three at z
        simp only [O.s.injEq] at z
        exact z.2.2
    · rename_i hx
      have hx : nxt e1 = false := by simpa using hx
      have ho1 := opn_of he hx
      obtain ⟨i1, i2, i3, i4⟩ := bel_spec hn ho1 hd.2.1
      refine ⟨fun z => ?_, fun z => ?_, fun z => ?_, fun z => ?_⟩
      · unfold one at z
        simp only [O.s.injEq] at z
        have := (bel_z ho1 z.2.1).1
        omega
      · unfold omega at z
        simp only [O.s.injEq] at z
        exact i1 z.2.1
      · unfold two at z
        simp only [O.s.injEq] at z
        omega
      · unfold three at z
        simp only [O.s.injEq] at z
        omega
theorem nxt_opn {e : O} (h : opn e = true) : nxt e = false := by
  obtain ⟨r, x, c, rfl, hx⟩ := opn_split h
  exact decide_eq_false hx
/-- the n-th below as an exponent -/
theorem deeper {e : O} {n : Nat} (ho : opn e = true) (hd : Dsc e) : pO (bel n e) 1 n = pO e 1 n := by
  have hz := opn_nz ho
  have hx := nxt_opn ho
  have n1 : e ≠ one := fun z => by subst z; cases hx
  have n2 : e ≠ two := fun z => by subst z; cases hx
  have n3 : e ≠ three := fun z => by subst z; cases hx
  rw [pO_1 hz n1]
  by_cases bz : bel n e = .z
  · obtain ⟨rfl, hg⟩ := bel_z ho bz
    rw [bz, pO_z, cl1_0, hg]
    exact chk1
  by_cases h0 : n = 0
  · subst h0
    have hg := gaw_bel ho hd bz
    by_cases b1 : bel 0 e = one
    · rw [b1] at hg
      have g0 : gaw one = false := rfl
      rw [g0] at hg
      rw [b1, pO_one, cl1_0, ← hg, Nat.zero_mul]
      exact chk0
    · rw [pO_1 bz b1, cl1_0, cl1_0, hg]
  by_cases h1 : n = 1
  · subst h1
    rw [cl1_1]
    by_cases b1 : bel 1 e = one
    · rw [b1, pO_one]
      exact chk2
    · rw [pO_1 bz b1, cl1_1]
  obtain ⟨i1, i2, i3, i4⟩ := bel_spec (by omega : 2 ≤ n) ho hd
  rw [pO_1 bz i1]
  by_cases h2 : n = 2
  · subst h2
    by_cases eo : e = omega
    · subst eo
      have : bel 2 omega = two := rfl
      rw [this, cl1_two2]
      rfl
    · rw [cl1_none2 n1 n2 n3 eo, cl1_none2 i1 (fun z => eo (i3 z).2) (fun z => by have := i4 z; omega) i2]
  · rw [cl1_none n1 n2 (by omega), cl1_none i1 (fun z => h2 (i3 z).1) (by omega)]
theorem pO0_nxt {e : O} (hn : nxt e = true) : pO e 1 0 = some 0 := by
  by_cases h1 : e = one
  · subst h1
    rw [pO_one, Nat.zero_mul]
    exact chk0
  · rw [pO_1 (nxt_nz hn) h1, cl1_0, gaw_nxt hn]
    rfl
/-- an open one, its n-th below -/
theorem eq_open {a : O} {n : Nat} (ho : opn a = true) (hd : Dsc a) : stO (bel n a) n = stO a n := by
  by_cases h : n < most
  · rw [stO_lt h, stO_lt h]
    obtain ⟨r, e, c, rfl, he⟩ := opn_split ho
    have hs := stQ_less (r := r) (n := n) hd.2.2.1 he
    rw [hs, bel_s]
    cases hn : nxt e with
    | true =>
      rw [if_pos rfl]
      split
      · rename_i h0
        subst h0
        rw [pO0_nxt hn]
        rfl
      · rename_i h0
        show (pO (less e) n n).bind _ = _
        rw [copies hn hd.2.1 (by omega)]
    | false =>
      rw [if_neg Bool.false_ne_true]
      show (pO (bel n e) 1 n).bind _ = _
      rw [deeper (opn_of he hn) hd.2.1]
  · rw [stO_ge h, stO_ge h]
/-- counted by the three equations -/
def ct : Nat → O → Nat → Option Nat
  | 0, _, _ => none
  | k + 1, a, n => if a = .z then some n else if nxt a then ct k (less a) (n + 1) else ct k (bel n a) n
theorem ct_st : ∀ (k : Nat) {a : O} {n m : Nat}, Dsc a → ct k a n = some m → chk m = stO a n
  | 0, a, n, m, _, h => by cases h
  | k + 1, a, n, m, hd, h => by
    have h : (if a = .z then some n else if nxt a then ct k (less a) (n + 1) else ct k (bel n a) n) = some m := h
    split at h
    · rename_i hz
      rw [hz]
      cases h
      rfl
    · rename_i hz
      split at h
      · rename_i hn
        rw [ct_st k (less_dsc hd) h, eq_next hn hd]
      · rename_i hn
        have hn : nxt a = false := by simpa using hn
        have ho := opn_of hz hn
        rw [ct_st k (bel_dsc n hd ho) h, eq_open ho hd]
end K71


set_option Elab.async false
set_option linter.all false
set_option maxRecDepth 100000
set_option maxHeartbeats 4000000
namespace K71
open PySem hiding Env
open Mi
/-! ### told, counted -/
def optL : Option Nat → Mi.D
  | some m => .lst [.int (m : Int)]
  | none => .lst []
section
variable {σ : Env} {T : Sto}
@[simp] theorem catch_nx (σ : Env) (T : Sto) : catchM (.nx σ T) = .nx σ T := rfl
@[simp] theorem catch_above (a b c d : Sl) (T : Sto) : catchM (.ex above [a, b, c, d] T) = .rt (.lst []) true T := rfl
theorem p_ltold (k : Nat) {a : O} {n : Nat} (hp : Pos a) (hn : n < most) (hd : dp a ≤ 80) (hw : wd a ≤ 9000) (T : Sto) : cl (k + 86) "_law_told" [toD a, .int (n : Int)] T = .ok (optL (stQ a n), true) T := by
  rw [r__law_told]
  have hs := fun T => p_stage k hp hn hd hw T
  have et : ∀ σ T, tryMS (cl (k + 85)) σ T = catchM (sSet 3 (callC (cl (k + 85)) "stage" [V (vVar 0), V (vVar 1)]) σ T) := fun _ _ => rfl
  cases e1 : stQ a n with
  | none =>
    rw [e1] at hs
    simp [m__law_told, et, hs, optL]
  | some m =>
    rw [e1] at hs
    have b1 : (Mi.D.int (m : Int)).isBl = false := rfl
    simp [m__law_told, et, hs, optL, b1]
def eB (C : CallT) : SM := (sSeq [(sIf (Mi.cmpE .Eq (pVar 0) (V (tupE []))) (sSeq [(sRetV 1)]) (sSeq [])), (sIf (truE (V (callC C "_law_is_next" [(V (vVar 0))]))) (sSeq [(sSet 0 (callC C "_law_less" [(V (vVar 0))])), (sSet 1 (binE .Add (pVar 1) (V (kE (.int 1)))))]) (sSeq [(sSet 0 (callC C "_law_below" [(V (vVar 0)), (V (vVar 1))]))]))])
theorem e_loop (k : Nat) (T : Sto) : ∀ (ds : List Mi.D) (a : O) (n : Nat) (s : Sl), Dsc a → dp a ≤ 80 → wd a + ds.length ≤ 9000 →
    finR ((forLoop (tgN 2) (eB (cl (k + 83))) ds [.fz (toD a), .fz (.int (n : Int)), s] T).seq (sSeq [sRet (kE .non)])) = .ok (optD (ct ds.length a n), false) T
  | [], a, n, s, _, _, _ => by
    simp [forLoop, ct]
  | d :: ds, a, n, s, hd, hp, hw => by
    simp only [List.length_cons] at hw
    show _ = Res.ok (optD (if a = .z then some n else if nxt a then ct ds.length (less a) (n + 1) else ct ds.length (bel n a) n), false) T
    unfold forLoop
    rw [ev_tgN]
    by_cases hz : a = .z
    · subst hz
      have hb : eB (cl (k + 83)) [.fz (toD .z), .fz (.int (n : Int)), .fz d] T = .rt (.int (n : Int)) false T := by simp [eB]
      rw [if_pos rfl]
      simp only [List.set, hb]
      rfl
    rw [if_neg hz]
    have hn := fun T => p_lnext (k + 82) a T
    cases hx : nxt a with
    | true =>
      rw [hx] at hn
      have hl := fun T => p_lless (k + 82) hz hd (by omega) T
      have hcast : ((n + 1 : Nat) : Int) = (n : Int) + 1 := by omega
      have hb : eB (cl (k + 83)) [.fz (toD a), .fz (.int (n : Int)), .fz d] T = .nx [.fz (toD (less a)), .fz (.int ((n + 1 : Nat) : Int)), .fz d] T := by
        rw [hcast]
        simp [eB, hz, hn, hl]
      rw [if_pos rfl]
      simp only [List.set, hb]
      exact e_loop k T ds (less a) (n + 1) _ (less_dsc hd) (Nat.le_trans (less_dp a) hp) (by have := less_wd a; omega)
    | false =>
      rw [hx] at hn
      have ho := opn_of hz hx
      have hl : ∀ T, cl (k + 83) "_law_below" [toD a, .int (n : Int)] T = .ok (toD (bel n a), false) T := fun T => by
        obtain ⟨j, hj⟩ : ∃ j, k + 83 = j + dp a + 3 := ⟨k + 80 - dp a, by omega⟩
        rw [hj]
        exact p_lbelow n a j T ho hd (by omega) hp
      have hb : eB (cl (k + 83)) [.fz (toD a), .fz (.int (n : Int)), .fz d] T = .nx [.fz (toD (bel n a)), .fz (.int (n : Int)), .fz d] T := by
        simp [eB, hz, hn, hl]
      rw [if_neg Bool.false_ne_true]
      simp only [List.set, hb]
      exact e_loop k T ds (bel n a) n _ (bel_dsc n hd ho) (Nat.le_trans (bel_dp n a) hp) (by have := bel_wd n a; omega)
theorem p_lcounted (k : Nat) {a : O} {n : Nat} (hd : Dsc a) (hp : dp a ≤ 80) (hw : wd a ≤ 1000) (T : Sto) : cl (k + 84) "_law_counted" [toD a, .int (n : Int)] T = .ok (optD (ct 400 a n), false) T := by
  rw [r__law_counted]
  have em : m__law_counted (cl (k + 83)) = sSeq [sFor (tgN 2) (itR1 (V (kE (.int 400)))) (eB (cl (k + 83))), sRet (kE .non)] := rfl
  have r1 : ∀ σ T, r1M (.int 400) σ T = .ok (rangeD 0 400) T := fun σ T => ev_r1M 400 (by decide)
  rw [em]
  have hlen : (rangeD 0 400).length = 400 := by simp [rangeD]
  have := e_loop k T (rangeD 0 400) a n .no hd hp (by rw [hlen]; omega)
  rw [hlen] at this
  simp [r1]
  exact this
end
/-! ### pairs as ordinals -/
def ofP (l : List Pr) : O := l.foldl (fun a p => .s a p.1 p.2) .z
theorem ofP_snoc (l : List Pr) (p : Pr) : ofP (l ++ [p]) = .s (ofP l) p.1 p.2 := by
  unfold ofP
  rw [List.foldl_append]
  rfl
theorem rev_ind {α : Type} {P : List α → Prop} (h0 : P []) (h1 : ∀ l a, P l → P (l ++ [a])) : ∀ l, P l := fun l => by
  have : ∀ r : List α, P r.reverse := fun r => by
    induction r with
    | nil => exact h0
    | cons a r ih => rw [List.reverse_cons]; exact h1 _ _ ih
  have := this l.reverse
  rwa [List.reverse_reverse] at this
theorem toL_ofP : ∀ l : List Pr, toL (ofP l) = l.map prP := rev_ind rfl fun l p ih => by
  rw [ofP_snoc, toL_s, ih, List.map_append]
  rfl
theorem ofP_ln : ∀ l : List Pr, ln (ofP l) = l.length := rev_ind rfl fun l p ih => by
  rw [ofP_snoc, List.length_append]
  show ln (ofP l) + 1 = _
  rw [ih]
  rfl
theorem ofP_dp (k : Nat) : ∀ l : List Pr, (∀ p ∈ l, dp p.1 ≤ k) → dp (ofP l) ≤ k + 1 := rev_ind (fun _ => Nat.zero_le _) fun l p ih h => by
  rw [ofP_snoc]
  have h1 := ih fun q hq => h q (List.mem_append_left _ hq)
  have h2 := h p (by simp)
  simp only [dp]
  omega
theorem ofP_wd (k : Nat) : ∀ l : List Pr, l.length ≤ k → (∀ p ∈ l, wd p.1 ≤ k) → wd (ofP l) ≤ k := rev_ind (fun _ _ => Nat.zero_le _) fun l p ih hl h => by
  rw [ofP_snoc]
  rw [List.length_append] at hl
  have h1 := ih (by simp at hl; omega) fun q hq => h q (List.mem_append_left _ hq)
  have h2 := h p (by simp)
  simp only [wd]
  rw [ofP_ln]
  simp at hl
  omega
theorem abv_ofP (x : O) : ∀ l : List Pr, (∀ p ∈ l, ltO x p.1 = true) → abv x (ofP l) := rev_ind (fun _ => trivial) fun l p ih h => by
  rw [ofP_snoc]
  exact ⟨ih fun q hq => h q (List.mem_append_left _ hq), h p (by simp)⟩
theorem Dsc_ofP : ∀ l : List Pr, l.Pairwise (fun p q => ltO q.1 p.1 = true) → (∀ p ∈ l, Dsc p.1 ∧ 1 ≤ p.2) → Dsc (ofP l) := rev_ind (fun _ _ => trivial) fun l p ih hs h => by
  rw [ofP_snoc]
  obtain ⟨h1, _, h3⟩ := List.pairwise_append.mp hs
  obtain ⟨d1, d2⟩ := h p (by simp)
  exact ⟨ih h1 fun q hq => h q (List.mem_append_left _ hq), d1, d2, abv_ofP _ _ fun q hq => h3 q hq p (by simp)⟩
/-! ### sorted -/
def leP (p q : Pr) : Bool := PySem.W.dataLe false D.py (prP p) (prP q)
theorem leP_eq (p q : Pr) : leP p q = !ltP q p := rfl
theorem ltP_neg {p q r : Pr} (h : ltP p r = true) : ltP p q = true ∨ ltP q r = true := PyProof.Rows.lex_negTrans _ _ _ h
theorem leP_trans (a b c : Pr) (h1 : leP a b = true) (h2 : leP b c = true) : leP a c = true := by
  rw [leP_eq] at *
  cases h : ltP c a with
  | false => rfl
  | true =>
    rcases ltP_neg (q := b) h with k | k
    · rw [k] at h2; cases h2
    · rw [k] at h1; cases h1
theorem leP_total (a b : Pr) : (leP a b || leP b a) = true := by
  rw [leP_eq, leP_eq]
  cases h : ltP b a with
  | false => rfl
  | true =>
    have : ltP a b = false := by
      cases k : ltP a b with
      | false => rfl
      | true =>
        have := PyProof.Rows.lex_trans _ _ _ h k
        have i := PyProof.Rows.lex_irrefl (O := PyProof.Rows.itemOrd) (PySem.W.keyToks (prP b).py)
        have t : PyProof.Rows.lexLt PyProof.Rows.itemOrd (PySem.W.keyToks (prP b).py) (PySem.W.keyToks (prP b).py) = true := this
        rw [i] at t
        cases t
    rw [this]
    rfl
theorem sortD_pr (F : List Pr) (hl : F.length ≤ 1000) (hd : ∀ p ∈ F, dp p.1 ≤ 80) : sortD (F.map prP) = some ((F.mergeSort leP).map prP) := by
  have h1 : D.plains (F.map prP) = true := by
    clear hl hd
    induction F with
    | nil => rfl
    | cons p F ih =>
      show ((prP p).plain && D.plains (F.map prP)) = true
      rw [ih]
      have : (prP p).plain = true := by
        show ((toD p.1).plain && (true && true)) = true
        rw [show (toD p.1).plain = true from toL_plain _]
        rfl
      rw [this]
      rfl
  have h2 : fits (F.map prP).length = true := by
    unfold fits
    rw [List.length_map]
    exact decide_eq_true (by omega)
  have h3 : D.deeps (F.map prP) ≤ 190 := by
    clear hl h1 h2
    induction F with
    | nil => exact Nat.zero_le _
    | cons p F ih =>
      have i := ih fun q hq => hd q (List.mem_cons_of_mem _ hq)
      have a := toL_deep p.1
      have b := hd p List.mem_cons_self
      have c : (prP p).deep = max (D.deeps (toL p.1) + 1) (max 0 0) + 1 := rfl
      show max (prP p).deep (D.deeps (F.map prP)) ≤ 190
      omega
  have h4 : (F.map prP).all D.isTup1 = true := by
    rw [List.all_map]
    exact List.all_eq_true.mpr fun _ _ => rfl
  have h5 : ((F.map prP).all fun a => (F.map prP).all fun b => PySem.W.alike a.py b.py) = true := by
    rw [List.all_map]
    refine List.all_eq_true.mpr fun p _ => ?_
    show ((F.map prP).all fun b => PySem.W.alike (prP p).py b.py) = true
    rw [List.all_map]
    exact List.all_eq_true.mpr fun q _ => alike_pr _ _ _ _
  unfold sortD
  rw [h1, h2, decide_eq_true h3, h4, h5]
  simp only [Bool.and_self, if_true]
  congr 1
  exact (List.map_mergeSort (r := leP) (s := PySem.W.dataLe false D.py) (f := prP) (l := F) fun a _ b _ => rfl).symm
theorem sorted_desc {F : List Pr} (hn : F.Pairwise (fun p q => p.1 ≠ q.1)) : (F.mergeSort leP).reverse.Pairwise (fun p q => ltO q.1 p.1 = true) := by
  rw [List.pairwise_reverse]
  have h1 : (F.mergeSort leP).Pairwise (fun p q => leP p q = true) := List.pairwise_mergeSort leP_trans leP_total F
  have h2 : (F.mergeSort leP).Pairwise (fun p q => p.1 ≠ q.1) := ((List.mergeSort_perm F leP).pairwise_iff fun h => Ne.symm h).mpr hn
  refine (h1.and h2).imp fun {p q} ⟨a, b⟩ => ?_
  rw [leP_eq, ltP_eq, if_neg (Ne.symm b)] at a
  rcases ltO_tot b with k | k
  · exact k
  · rw [k] at a; cases a
end K71


set_option Elab.async false
set_option linter.all false
set_option maxRecDepth 100000
set_option maxHeartbeats 4000000
namespace K71
open PySem hiding Env
open Mi
/-! ### an ordinal is drawn -/
@[irreducible] def p30 : Nat := 10 ^ 30
theorem p30_lt : 0 < p30 ∧ p30 < 1267650600228229401496703205376 := by unfold p30; decide
section
variable {σ : Env} {T : Sto}
@[simp] theorem bin_p30 : binD .Pow (.int 10) (.int 30) = some (.int (p30 : Int)) := by
  unfold p30
  rfl
def frst (p : Pr) : Mi.D := toD p.1
theorem notin_ok (e : O) (F : List Pr) (hp : dp e ≤ 80) : cmpD .NotIn (toD e) (.lst (F.map frst)) = some (!F.any fun p => decide (p.1 = e)) := by
  have h1 : D.plains (F.map frst) = true := by
    induction F with
    | nil => rfl
    | cons p F ih =>
      show ((toD p.1).plain && D.plains (F.map frst)) = true
      rw [ih, show (toD p.1).plain = true from toL_plain _]
      rfl
  have h2 : (toD e).plain = true := toL_plain e
  have h3 : (toD e).deep ≤ 190 := by
    have := toL_deep e
    show D.deeps (toL e) + 1 ≤ 190
    omega
  have h4 : ((F.map frst).all D.flat && (toD e).flat) = false := by
    rw [show (toD e).flat = false from rfl, Bool.and_false]
  have h5 : (F.map frst).any (fun y => y.eqv (toD e)) = F.any fun p => decide (p.1 = e) := by
    rw [List.any_map]
    congr 1
    funext p
    exact toD_eqv p.1 e
  show (memD (toD e) (F.map frst)).map _ = _
  unfold memD
  rw [h4, if_neg Bool.false_ne_true, h1, h2, decide_eq_true h3, h5]
  rfl
def Ft (k : Nat) (F : List Pr) : Prop := F.Pairwise (fun p q => p.1 ≠ q.1) ∧ ∀ p ∈ F, Dsc p.1 ∧ 1 ≤ p.2 ∧ dp p.1 ≤ k ∧ wd p.1 ≤ 3
def gB (C : CallT) : SM := (sSeq [(sSet 4 (tupE [])), (sIf (tAllE [(Mi.cmpE .Gt (pVar 1) (V (kE (.int 0)))), (Mi.cmpE .Gt (V (callC C "_law_draw" [(V (vVar 0)), (V (kE (.int 3)))])) (V (kE (.int 0))))]) (sSeq [(sSet 4 (callC C "_law_ordinal" [(V (vVar 0)), (V (binE .Sub (pVar 1) (V (kE (.int 1)))))]))]) (sSeq [])), (sIf (Mi.cmpE .NotIn (pVar 4) (V (lcM (tgN 5) yesE (V (ixE (pVar 5) (V (kE (.int 0))))) [5] (itX (pVar 2))))) (sSeq [(sMut 2 "append" [(V (tupE [(V (vVar 4)), (V (binE .Add (V (kE (.int 1))) (V (callC C "_law_draw" [(V (vVar 0)), (V (ixE (V (lstE [(V (kE (.int 2))), (V (kE (.int 3))), (V (kE (.int 10))), (V (binE .Pow (V (kE (.int 10))) (V (kE (.int 30)))))])) (V (callC C "_law_draw" [(V (vVar 0)), (V (kE (.int 4)))]))))]))))]))] (fun _ => sNx))]) (sSeq []))])
def gA (C : CallT) : SM := (sIf (Mi.cmpE .NotIn (pVar 4) (V (lcM (tgN 5) yesE (V (ixE (pVar 5) (V (kE (.int 0))))) [5] (itX (pVar 2))))) (sSeq [(sMut 2 "append" [(V (tupE [(V (vVar 4)), (V (binE .Add (V (kE (.int 1))) (V (callC C "_law_draw" [(V (vVar 0)), (V (ixE (V (lstE [(V (kE (.int 2))), (V (kE (.int 3))), (V (kE (.int 10))), (V (binE .Pow (V (kE (.int 10))) (V (kE (.int 30)))))])) (V (callC C "_law_draw" [(V (vVar 0)), (V (kE (.int 4)))]))))]))))]))] (fun _ => sNx))]) (sSeq []))
/-- the end of a turn: e is put to what was found, or not -/
theorem g_end (n j : Nat) {e : O} {F : List Pr} {T : Sto} (hT : StO T) (hF : Ft j F) (hl : F.length ≤ 900) (hj : j ≤ 70) (he : Dsc e ∧ dp e ≤ j ∧ wd e ≤ 3) (D k : Mi.D) (s : Sl) :
    ∃ F' s' T', gA (cl (n + 1)) [.fz (.obj 1), .fz D, .ow (.lst (F.map prP)), .fz k, .fz (toD e), s] T = .nx [.fz (.obj 1), .fz D, .ow (.lst (F'.map prP)), .fz k, .fz (toD e), s'] T' ∧ StO T' ∧ Ft j F' ∧ F'.length ≤ F.length + 1 := by
  have hlc : ∀ T s, lcK (tgN 5) yesE (V (ixE (pVar 5) (V (kE (.int 0))))) [.fz (.obj 1), .fz D, .ow (.lst (F.map prP)), .fz k, .fz (toD e), s] (F.map prP) T = .ok (.lst (F.map frst), true) T := fun T s =>
    lcK_ok (lc_mapP prP frst F [] (by simp; omega) fun p hp => ⟨_, rfl, by simp; rfl⟩)
  have hni := notin_ok e F (by omega)
  by_cases hin : (F.any fun p => decide (p.1 = e)) = true
  · rw [hin] at hni
    refine ⟨F, s, T, ?_, hT, hF, by omega⟩
    unfold gA
    simp [hlc, hni]
  · have hin : (F.any fun p => decide (p.1 = e)) = false := eq_false_of_ne_true hin
    rw [hin] at hni
    obtain ⟨v, T1, e1, hT1, v0, v1⟩ := draw_ok n hT (m := 4) ⟨by decide, by decide⟩
    obtain ⟨i, rfl⟩ := Int.eq_ofNat_of_zero_le v0
    obtain ⟨mN, hm, hS⟩ : ∃ m : Nat, (∀ (σ : Env) (T : Sto), itemM (.lst [.int 2, .int 3, .int 10, .int (p30 : Int)]) (.int (i : Int)) σ T = .ok (.int (m : Int)) T) ∧ Small (m : Int) := by
      have hp := p30_lt
      have hi : i = 0 ∨ i = 1 ∨ i = 2 ∨ i = 3 := by omega
      rcases hi with rfl | rfl | rfl | rfl
      · exact ⟨2, fun _ _ => itemL (i := 0) rfl, by unfold Small; omega⟩
      · exact ⟨3, fun _ _ => itemL (i := 1) rfl, by unfold Small; omega⟩
      · exact ⟨10, fun _ _ => itemL (i := 2) rfl, by unfold Small; omega⟩
      · exact ⟨p30, fun _ _ => itemL (i := 3) rfl, by unfold Small; omega⟩
    obtain ⟨w, T2, e2, hT2, w0, w1⟩ := draw_ok n hT1 hS
    obtain ⟨c, rfl⟩ := Int.eq_ofNat_of_zero_le w0
    have hpr : (.tup [toD e, .int (1 + (c : Int))] : Mi.D) = prP (e, 1 + c) := by
      show (Mi.D.tup [toD e, .int (1 + (c : Int))]) = .tup [toD e, .int ((1 + c : Nat) : Int)]
      rw [show ((1 + c : Nat) : Int) = 1 + (c : Int) by omega]
    have hlen : (F.map prP).length < 16777216 := by rw [List.length_map]; omega
    refine ⟨F ++ [(e, 1 + c)], s, T2, ?_, hT2, ⟨?_, ?_⟩, by simp⟩
    · unfold gA
      have hl2 : F.length < 16777216 := by omega
      simp [hlc, hni, e1, hm, e2, hpr, hl2]
    · refine List.pairwise_append.mpr ⟨hF.1, List.pairwise_singleton _ _, fun p hp q hq => ?_⟩
      have : q = (e, 1 + c) := by simpa using hq
      subst this
      intro z
      have := List.any_eq_false.mp hin p hp
      simp at this
      exact this z
    · intro p hp
      rcases List.mem_append.mp hp with hp | hp
      · exact hF.2 p hp
      · have : p = (e, 1 + c) := by simpa using hp
        subst this
        exact ⟨he.1, by show 1 ≤ 1 + c; omega, he.2.1, he.2.2⟩
theorem g_turn (n j : Nat) (rec : 0 < j → ∀ T, StO T → ∃ a T', cl (n + 1) "_law_ordinal" [.obj 1, .int ((j : Int) - 1)] T = .ok (toD a, false) T' ∧ StO T' ∧ Dsc a ∧ dp a ≤ j ∧ wd a ≤ 3)
    {F : List Pr} {T : Sto} (hT : StO T) (hF : Ft j F) (hl : F.length ≤ 900) (hj : j ≤ 70) (k : Mi.D) (s4 s : Sl) :
    ∃ F' e s' T', gB (cl (n + 1)) [.fz (.obj 1), .fz (.int (j : Int)), .ow (.lst (F.map prP)), .fz k, s4, s] T = .nx [.fz (.obj 1), .fz (.int (j : Int)), .ow (.lst (F'.map prP)), .fz k, .fz e, s'] T' ∧ StO T' ∧ Ft j F' ∧ F'.length ≤ F.length + 1 := by
  have eg : gB (cl (n + 1)) = sSeq [(sSet 4 (tupE [])), (sIf (tAllE [(Mi.cmpE .Gt (pVar 1) (V (kE (.int 0)))), (Mi.cmpE .Gt (V (callC (cl (n + 1)) "_law_draw" [(V (vVar 0)), (V (kE (.int 3)))])) (V (kE (.int 0))))]) (sSeq [(sSet 4 (callC (cl (n + 1)) "_law_ordinal" [(V (vVar 0)), (V (binE .Sub (pVar 1) (V (kE (.int 1)))))]))]) (sSeq [])), gA (cl (n + 1))] := rfl
  have z0 : Dsc .z ∧ dp .z ≤ j ∧ wd .z ≤ 3 := ⟨trivial, Nat.zero_le _, Nat.zero_le _⟩
  have fin : ∀ {e : O} {T1 : Sto}, StO T1 → (Dsc e ∧ dp e ≤ j ∧ wd e ≤ 3) → ∃ F' e' s' T', (sSeq [gA (cl (n + 1))]) [.fz (.obj 1), .fz (.int (j : Int)), .ow (.lst (F.map prP)), .fz k, .fz (toD e), s] T1 = .nx [.fz (.obj 1), .fz (.int (j : Int)), .ow (.lst (F'.map prP)), .fz k, .fz e', s'] T' ∧ StO T' ∧ Ft j F' ∧ F'.length ≤ F.length + 1 := fun {e T1} hT1 he => by
    obtain ⟨F', s', T', h1, h2, h3, h4⟩ := g_end n j hT1 hF hl hj he (.int (j : Int)) k s
    exact ⟨F', toD e, s', T', by rw [ev_sC, h1]; rfl, h2, h3, h4⟩
  rw [eg]
  by_cases h0 : j = 0
  · subst h0
    obtain ⟨F', e', s', T', h1, h2⟩ := fin hT z0
    refine ⟨F', e', s', T', ?_, h2⟩
    rw [← h1]
    refine (seq_of (σ' := [.fz (.obj 1), .fz (.int ((0 : Nat) : Int)), .ow (.lst (F.map prP)), .fz k, .fz (toD .z), s]) (T' := T) (by simp; rfl)).trans ?_
    exact seq_of (by simp)
  · have hj0 : 0 < j := by omega
    obtain ⟨v, T1, e1, hT1, v0, v1⟩ := draw_ok n hT (m := 3) ⟨by decide, by decide⟩
    obtain ⟨i, rfl⟩ := Int.eq_ofNat_of_zero_le v0
    by_cases hi : i = 0
    · subst hi
      obtain ⟨F', e', s', T', h1, h2⟩ := fin hT1 z0
      refine ⟨F', e', s', T', ?_, h2⟩
      rw [← h1]
      refine (seq_of (σ' := [.fz (.obj 1), .fz (.int (j : Int)), .ow (.lst (F.map prP)), .fz k, .fz (toD .z), s]) (T' := T) (by simp; rfl)).trans ?_
      exact seq_of (by simp [hj0, e1])
    · have hi0 : 0 < i := by omega
      obtain ⟨a, T2, e2, hT2, ha⟩ := rec hj0 T1 hT1
      obtain ⟨F', e', s', T', h1, h2⟩ := fin hT2 ha
      refine ⟨F', e', s', T', ?_, h2⟩
      rw [← h1]
      refine (seq_of (σ' := [.fz (.obj 1), .fz (.int (j : Int)), .ow (.lst (F.map prP)), .fz k, .fz (toD .z), s]) (T' := T) (by simp; rfl)).trans ?_
      exact seq_of (by simp [hj0, e1, hi0, e2])
theorem p_ord_aux (j n : Nat) (T : Sto) (hj : j ≤ 60) (hT : StO T) (rec : 0 < j → ∀ T, StO T → ∃ a T', cl (n + 1) "_law_ordinal" [.obj 1, .int ((j : Int) - 1)] T = .ok (toD a, false) T' ∧ StO T' ∧ Dsc a ∧ dp a ≤ j ∧ wd a ≤ 3) :
    ∃ a T', cl (n + 2) "_law_ordinal" [.obj 1, .int (j : Int)] T = .ok (toD a, false) T' ∧ StO T' ∧ Dsc a ∧ dp a ≤ j + 1 ∧ wd a ≤ 3 := by
  rw [r__law_ordinal]
  have em : m__law_ordinal (cl (n + 1)) = sSeq [(sSet 2 (lstE [])), (sFor (tgN 3) (itR1 (V (callC (cl (n + 1)) "_law_draw" [(V (vVar 0)), (V (kE (.int 4)))]))) (gB (cl (n + 1)))), (sRet (bltE "tuple" (V (revE (V (bltE "sorted" (pVar 2)))))))] := rfl
  obtain ⟨v, T1, e1, hT1, v0, v1⟩ := draw_ok n hT (m := 4) ⟨by decide, by decide⟩
  obtain ⟨i, rfl⟩ := Int.eq_ofNat_of_zero_le v0
  have hi : i ≤ 3 := by omega
  have r1 : ∀ σ T, r1M (.int (i : Int)) σ T = .ok (rangeD 0 i) T := fun σ T => ev_r1M i (by omega)
  rw [em]
  simp [e1, r1]
  refine for_then (P := fun r => ∃ a T', finR r = .ok (toD a, false) T' ∧ StO T' ∧ Dsc a ∧ dp a ≤ j + 1 ∧ wd a ≤ 3)
    (fun ds σ T => StO T ∧ ∃ F k s4 s, σ = [.fz (.obj 1), .fz (.int (j : Int)), .ow (.lst (F.map prP)), k, s4, s] ∧ Ft j F ∧ F.length + ds.length ≤ 3) ?_ ⟨hT1, [], .no, .no, .no, rfl, ⟨List.Pairwise.nil, fun p hp => by cases hp⟩, by simp [rangeD]; omega⟩ ?_
  · rintro d ds σ T ⟨hT, F, k, s4, s, rfl, hF, hl⟩
    simp only [List.length_cons] at hl
    obtain ⟨F', e, s', T', h1, h2, h3, h4⟩ := g_turn n j rec hT hF (by omega) (by omega) d s4 s
    exact ⟨_, _, _, rfl, h1, h2, F', .fz d, .fz e, s', rfl, h3, by omega⟩
  · rintro σ T ⟨hT, F, k, s4, s, rfl, hF, hl⟩
    simp at hl
    have hs := sortD_pr F (by omega) fun p hp => by have := (hF.2 p hp).2.2.1; omega
    have hb : bltD "sorted" [.lst (F.map prP)] = some (.lst ((F.mergeSort leP).map prP), true) := by
      show (sortD (F.map prP)).map _ = _
      rw [hs]
      rfl
    have hr : backD (.lst ((F.mergeSort leP).map prP)) = some (.lst ((F.mergeSort leP).reverse.map prP)) := by
      show some (Mi.D.lst ((F.mergeSort leP).map prP).reverse) = _
      rw [List.map_reverse]
    have ht : (.tup ((F.mergeSort leP).reverse.map prP) : Mi.D) = toD (ofP (F.mergeSort leP).reverse) := by
      unfold toD
      rw [toL_ofP]
    have hmem : ∀ p ∈ (F.mergeSort leP).reverse, p ∈ F := fun p hp => List.mem_mergeSort.mp (List.mem_reverse.mp hp)
    refine ⟨ofP (F.mergeSort leP).reverse, T, ?_, hT, Dsc_ofP _ (sorted_desc hF.1) (fun p hp => ⟨(hF.2 p (hmem p hp)).1, (hF.2 p (hmem p hp)).2.1⟩), ofP_dp j _ (fun p hp => (hF.2 p (hmem p hp)).2.2.1), ofP_wd 3 _ (by rw [List.length_reverse, List.length_mergeSort]; omega) (fun p hp => (hF.2 p (hmem p hp)).2.2.2)⟩
    rw [← ht]
    simp [revE, hb, hr]
theorem p_ord (j : Nat) : ∀ (n : Nat) (T : Sto), j ≤ 60 → StO T → ∃ a T', cl (n + j + 2) "_law_ordinal" [.obj 1, .int (j : Int)] T = .ok (toD a, false) T' ∧ StO T' ∧ Dsc a ∧ dp a ≤ j + 1 ∧ wd a ≤ 3 := by
  induction j with
  | zero =>
    intro n T hj hT
    exact p_ord_aux 0 n T hj hT fun h => absurd h (by decide)
  | succ j ih =>
    intro n T hj hT
    exact p_ord_aux (j + 1) (n + j + 1) T hj hT fun _ T hT => by
      obtain ⟨a, T', e, h⟩ := ih n T (by omega) hT
      have e0 : ((j + 1 : Nat) : Int) - 1 = (j : Int) := by omega
      refine ⟨a, T', ?_, h⟩
      rw [e0]
      exact e
end
end K71


set_option Elab.async false
set_option linter.all false
set_option maxRecDepth 100000
set_option maxHeartbeats 4000000
namespace K71
open PySem hiding Env
open Mi
/-! ### the law -/
def L0 (C : CallT) : SM := (sSetR 1 (callC C "_law_stream" [(V (vVar 0))]))
def L1 (C : CallT) : SM := (sSet 2 (callC C "_law_ordinal" [(V (vVar 1)), (V (callC C "_law_draw" [(V (vVar 1)), (V (kE (.int 4)))]))]))
def L2 (C : CallT) : SM := (sSet 3 (binE .Pow (V (kE (.int 10))) (V (kE (.int 50)))))
def L3 (C : CallT) : SM := (sSet 3 (binE .Mult (V (binE .Mult (V (binE .Mult (pVar 3) (pVar 3))) (pVar 3))) (pVar 3)))
def L4 (C : CallT) : SM := (sSet 4 (callC C "_law_pick" [(V (vVar 1)), (V (lstE [(V (callC C "_law_draw" [(V (vVar 1)), (V (kE (.int 4)))])), (V (callC C "_law_draw" [(V (vVar 1)), (V (kE (.int 13)))])), (V (binE .Add (V (binE .Pow (V (kE (.int 10))) (V (kE (.int 60))))) (V (callC C "_law_draw" [(V (vVar 1)), (V (kE (.int 9)))]))))]))]))
def L5 (C : CallT) : SM := (sIf (Mi.cmpE .Eq (V (callC C "_law_draw" [(V (vVar 1)), (V (kE (.int 8)))])) (V (kE (.int 0)))) (sSeq [(sSet 4 (binE .Sub (V (binE .Sub (pVar 3) (V (kE (.int 1))))) (V (callC C "_law_draw" [(V (vVar 1)), (V (kE (.int 3)))]))))]) (sSeq []))
def L6 (C : CallT) : SM := (sSet 5 (tupE [(V (callC C "is_next" [(V (vVar 2))])), (V (callC C "is_open" [(V (vVar 2))]))]))
def L7 (C : CallT) : SM := (sIf (tAnyE [(tNotE (truE (V (bltE "all" (V (lcM (tgN 10) yesE (V (isiE "bool" (pVar 10))) [10] (itX (pVar 5)))))))), (Mi.cmpE .NotEq (pVar 5) (V (tupE [(V (callC C "_law_is_next" [(V (vVar 2))])), (V (andE [(V (blE (Mi.cmpE .NotEq (pVar 2) (V (tupE []))))), (V (notE (V (callC C "_law_is_next" [(V (vVar 2))]))))]))])))]) (sSeq [(sRet (kE (.bl false)))]) (sSeq []))
def L8 (C : CallT) : SM := (sSet 6 (callC C "_law_stage" [(V (vVar 2)), (V (vVar 4))]))
def L9 (C : CallT) : SM := (sIf (Mi.cmpE .NotEq (V (callC C "_law_told" [(V (vVar 2)), (V (vVar 4))])) (V (binE .Mult (V (lstE [(V (vVar 6))])) (V (bltE "int" (V (blE (Mi.cmpE .IsNot (pVar 6) (V (kE .non)))))))))) (sSeq [(sRet (kE (.bl false)))]) (sSeq []))
def L10 (C : CallT) : SM := (sSet 7 (callC C "_law_counted" [(V (vVar 2)), (V (vVar 4))]))
def L11 (C : CallT) : SM := (sIf (tAllE [(Mi.cmpE .IsNot (pVar 7) (V (kE .non))), (Mi.cmpE .NotEq (V (binE .Mult (V (lstE [(V (vVar 7))])) (V (bltE "int" (V (blE (Mi.cmpE .Lt (pVar 7) (pVar 3)))))))) (V (binE .Mult (V (lstE [(V (vVar 6))])) (V (bltE "int" (V (blE (Mi.cmpE .IsNot (pVar 6) (V (kE .non))))))))))]) (sSeq [(sRet (kE (.bl false)))]) (sSeq []))
def L12 (C : CallT) : SM := (sIf (Mi.cmpE .Eq (pVar 2) (V (tupE []))) (sSeq [(sRet (kE (.bl true)))]) (sSeq []))
def L13 (C : CallT) : SM := (sIf (truE (V (callC C "_law_is_next" [(V (vVar 2))]))) (sSeq [(sSet 9 (callC C "one_less" [(V (vVar 2))])), (sIf (tAnyE [(tNotE (truE (V (isiE "tuple" (pVar 9))))), (Mi.cmpE .NotEq (pVar 9) (V (callC C "_law_less" [(V (vVar 2))])))]) (sSeq [(sRet (kE (.bl false)))]) (sSeq [])), (sRet (orE [(V (blE (Mi.cmpE .Eq (V (binE .Add (pVar 4) (V (kE (.int 1))))) (pVar 3)))), (V (blE (Mi.cmpE .Eq (V (callC C "_law_told" [(V (vVar 9)), (V (binE .Add (pVar 4) (V (kE (.int 1)))))])) (V (callC C "_law_told" [(V (vVar 2)), (V (vVar 4))])))))]))]) (sSeq []))
def L14 (C : CallT) : SM := (sSet 8 (callC C "below" [(V (vVar 2)), (V (vVar 4))]))
def L15 (C : CallT) : SM := (sIf (tAnyE [(tNotE (truE (V (isiE "tuple" (pVar 8))))), (Mi.cmpE .NotEq (pVar 8) (V (callC C "_law_below" [(V (vVar 2)), (V (vVar 4))]))), (tNotE (Mi.cmpE .Lt (pVar 8) (pVar 2)))]) (sSeq [(sRet (kE (.bl false)))]) (sSeq []))
def L16 (C : CallT) : SM := (sRet (andE [(V (blE (Mi.cmpE .Eq (V (callC C "_law_told" [(V (vVar 8)), (V (vVar 4))])) (V (callC C "_law_told" [(V (vVar 2)), (V (vVar 4))]))))), (V (blE (Mi.cmpE .Gt (V (callC C "below" [(V (vVar 2)), (V (binE .Add (pVar 4) (V (kE (.int 1)))))])) (pVar 8))))]))
theorem law_split (C : CallT) : m_law C = sSeq [L0 C, L1 C, L2 C, L3 C, L4 C, L5 C, L6 C, L7 C, L8 C, L9 C, L10 C, L11 C, L12 C, L13 C, L14 C, L15 C, L16 C] := rfl
@[irreducible] def p60 : Nat := 10 ^ 60
theorem p60_lt : p60 + 1000 < most := by unfold p60 most; decide +kernel
section
variable {σ : Env} {T : Sto}
@[simp] theorem bin_p60 : binD .Pow (.int 10) (.int 60) = some (.int (p60 : Int)) := by
  unfold p60
  rfl
@[simp] theorem lmul_1 (x : Mi.D) : binD .Mult (.lst [x]) (.int 1) = some (.lst [x]) := rfl
@[simp] theorem lmul_0 (x : Mi.D) : binD .Mult (.lst [x]) (.int 0) = some (.lst []) := rfl
@[simp] theorem isi_toD (a : O) : isiM "tuple" (toD a) σ T = .ok (.bl true, false) T := ev_isiTup _ rfl
@[simp] theorem all_tt : bltD "all" [.lst [.bl true, .bl true]] = some (.bl true, false) := rfl
theorem optL_E (o : Option Nat) : cmpD .Eq (optL o) (optL o) = some true := by
  cases o with
  | none => rfl
  | some m =>
    have e : cmpD .Eq (optL (some m)) (optL (some m)) = some (PyData.eqv (.list [.int (m : Int)]) (.list [.int (m : Int)])) := rfl
    rw [e, PyData.eqv, PyData.eqvAll, PyData.eqv, PyData.eqvAll]
    simp
theorem optL_N (o : Option Nat) : cmpD .NotEq (optL o) (optL o) = some false := by
  have h := optL_E o
  show (eqD (optL o) (optL o)).map _ = _
  have h : eqD (optL o) (optL o) = some true := h
  rw [h]
  rfl
theorem bl2_N (x y : Bool) : cmpD .NotEq (.tup [.bl x, .bl y]) (.tup [.bl x, .bl y]) = some false := by
  have e : cmpD .NotEq (.tup [.bl x, .bl y]) (.tup [.bl x, .bl y]) = some (!(PyData.eqv (.tuple [.bool x, .bool y]) (.tuple [.bool x, .bool y]))) := rfl
  rw [e, PyData.eqv, PyData.eqvAll, PyData.eqv, PyData.eqvAll, PyData.eqv, PyData.eqvAll]
  cases x <;> cases y <;> rfl
theorem opn_eq (a : O) : opn a = (!decide (a = .z) && !nxt a) := by
  cases a with
  | z => rfl
  | s r e c =>
    show (!decide (e = .z)) = (!decide (O.s r e c = .z) && !decide (e = .z))
    simp
theorem dueL (o : Option Nat) {σ : Env} (h : σ[6]? = some (.fz (optD o))) : (binE .Mult (V (lstE [(V (vVar 6))])) (V (bltE "int" (V (blE (Mi.cmpE .IsNot (pVar 6) (V (kE .non)))))))) σ T = .ok (optL o, true) T := by
  cases o with
  | none => simp [h, optL]
  | some m => simp [h, optL]
theorem cntL (c : Nat) {σ : Env} (h : σ[7]? = some (.fz (.int (c : Int)))) (h3 : σ[3]? = some (.fz (.int mostI))) : (binE .Mult (V (lstE [(V (vVar 7))])) (V (bltE "int" (V (blE (Mi.cmpE .Lt (pVar 7) (pVar 3))))))) σ T = .ok (optL (chk c), true) T := by
  by_cases hc : c < most
  · have h1 : (c : Int) < mostI := by rw [mostI_eq]; omega
    simp [h, h3, optL, h1, chk_lt hc]
  · have h1 : ¬ (c : Int) < mostI := by rw [mostI_eq]; omega
    simp [h, h3, optL, h1, chk_ge hc]
/-- the law behind the draws -/
theorem law_tail (k : Nat) {a : O} {n : Nat} (hd : Dsc a) (hp : dp a ≤ 60) (hw : wd a ≤ 500) (hn : n < most) (T : Sto) (A B : Mi.D) :
    (sSeq [L6 (cl (k + 86)), L7 (cl (k + 86)), L8 (cl (k + 86)), L9 (cl (k + 86)), L10 (cl (k + 86)), L11 (cl (k + 86)), L12 (cl (k + 86)), L13 (cl (k + 86)), L14 (cl (k + 86)), L15 (cl (k + 86)), L16 (cl (k + 86))])
      [.fz A, .fz B, .fz (toD a), .fz (.int mostI), .fz (.int (n : Int)), .no, .no, .no, .no, .no, .no] T = .rt (.bl true) false T := by
  have hn1 := fun T => p_is_next (k + 85) a T
  have hn2 := fun T => p_is_open (k + 85) a T
  have hn3 := fun T => p_lnext (k + 85) a T
  have hst := fun T => p_lstage (k + 2) hn (by omega : dp a ≤ 80) (by omega : wd a ≤ 9000) T
  have hto := fun T => p_ltold k hd.pos hn (by omega : dp a ≤ 80) (by omega : wd a ≤ 9000) T
  have hco := fun T => p_lcounted (k + 2) (n := n) hd (by omega : dp a ≤ 80) (by omega : wd a ≤ 1000) T
  refine (seq_of (σ' := [.fz A, .fz B, .fz (toD a), .fz (.int mostI), .fz (.int (n : Int)), .fz (.tup [.bl (nxt a), .bl (opn a)]), .no, .no, .no, .no, .no]) (T' := T) (by simp [L6, hn1, hn2])).trans ?_
  have hall : ∀ s T, lcK (tgN 10) yesE (V (isiE "bool" (pVar 10))) [.fz A, .fz B, .fz (toD a), .fz (.int mostI), .fz (.int (n : Int)), .fz (.tup [.bl (nxt a), .bl (opn a)]), .no, .no, .no, .no, s] [.bl (nxt a), .bl (opn a)] T = .ok (.lst ([true, true].map .bl), true) T := fun s T => rfl
  refine (seq_of (σ' := [.fz A, .fz B, .fz (toD a), .fz (.int mostI), .fz (.int (n : Int)), .fz (.tup [.bl (nxt a), .bl (opn a)]), .no, .no, .no, .no, .no]) (T' := T) (by
    have hand : (andE [(V (blE (Mi.cmpE .NotEq (pVar 2) (V (tupE []))))), (V (notE (V (callC (cl (k + 86)) "_law_is_next" [(V (vVar 2))]))))]) [.fz A, .fz B, .fz (toD a), .fz (.int mostI), .fz (.int (n : Int)), .fz (.tup [.bl (nxt a), .bl (opn a)]), .no, .no, .no, .no, .no] T = .ok (.bl (opn a), false) T := by
      rw [opn_eq, andE2_bl (b1 := !decide (a = .z)) (b2 := !nxt a)]
      · simp
      · intro _
        simp [hn3]
    have hb := bl2_N (nxt a) (opn a)
    unfold L7
    simp [hall, hn3, hand, hb])).trans ?_
  refine (seq_of (σ' := [.fz A, .fz B, .fz (toD a), .fz (.int mostI), .fz (.int (n : Int)), .fz (.tup [.bl (nxt a), .bl (opn a)]), .fz (optD (stQ a n)), .no, .no, .no, .no]) (T' := T) (by simp [L8, hst])).trans ?_
  refine (seq_of (σ' := [.fz A, .fz B, .fz (toD a), .fz (.int mostI), .fz (.int (n : Int)), .fz (.tup [.bl (nxt a), .bl (opn a)]), .fz (optD (stQ a n)), .no, .no, .no, .no]) (T' := T) (by
    have hdue := dueL (T := T) (σ := [.fz A, .fz B, .fz (toD a), .fz (.int mostI), .fz (.int (n : Int)), .fz (.tup [.bl (nxt a), .bl (opn a)]), .fz (optD (stQ a n)), .no, .no, .no, .no]) (stQ a n) rfl
    have hne := optL_N (stQ a n)
    unfold L9
    generalize (binE .Mult (V (lstE [(V (vVar 6))])) (V (bltE "int" (V (blE (Mi.cmpE .IsNot (pVar 6) (V (kE .non)))))))) = q at *
    simp [hto, hdue, hne])).trans ?_
  refine (seq_of (σ' := [.fz A, .fz B, .fz (toD a), .fz (.int mostI), .fz (.int (n : Int)), .fz (.tup [.bl (nxt a), .bl (opn a)]), .fz (optD (stQ a n)), .fz (optD (ct 400 a n)), .no, .no, .no]) (T' := T) (by simp [L10, hco])).trans ?_
  refine (seq_of (σ' := [.fz A, .fz B, .fz (toD a), .fz (.int mostI), .fz (.int (n : Int)), .fz (.tup [.bl (nxt a), .bl (opn a)]), .fz (optD (stQ a n)), .fz (optD (ct 400 a n)), .no, .no, .no]) (T' := T) (by
    have hdue := dueL (T := T) (σ := [.fz A, .fz B, .fz (toD a), .fz (.int mostI), .fz (.int (n : Int)), .fz (.tup [.bl (nxt a), .bl (opn a)]), .fz (optD (stQ a n)), .fz (optD (ct 400 a n)), .no, .no, .no]) (stQ a n) rfl
    cases e : ct 400 a n with
    | none =>
      unfold L11
      simp
    | some c =>
      have hc := ct_st 400 hd e
      rw [stO_lt hn] at hc
      rw [e] at hdue
      have hcnt := cntL (T := T) (σ := [.fz A, .fz B, .fz (toD a), .fz (.int mostI), .fz (.int (n : Int)), .fz (.tup [.bl (nxt a), .bl (opn a)]), .fz (optD (stQ a n)), .fz (optD (some c)), .no, .no, .no]) c rfl rfl
      rw [hc] at hcnt
      have hne := optL_N (stQ a n)
      rw [optD_s] at *
      unfold L11
      generalize (binE .Mult (V (lstE [(V (vVar 6))])) (V (bltE "int" (V (blE (Mi.cmpE .IsNot (pVar 6) (V (kE .non)))))))) = q at *
      generalize (binE .Mult (V (lstE [(V (vVar 7))])) (V (bltE "int" (V (blE (Mi.cmpE .Lt (pVar 7) (pVar 3))))))) = q2 at *
      simp [hdue, hcnt, hne])).trans ?_
  by_cases hz : a = .z
  · subst hz
    rw [ev_sC]
    simp [L12]
  refine (seq_of (σ' := [.fz A, .fz B, .fz (toD a), .fz (.int mostI), .fz (.int (n : Int)), .fz (.tup [.bl (nxt a), .bl (opn a)]), .fz (optD (stQ a n)), .fz (optD (ct 400 a n)), .no, .no, .no]) (T' := T) (by simp [L12, hz])).trans ?_
  cases hx : nxt a with
  | true =>
    rw [hx] at hn3
    have ho := fun T => p_one_less (k + 84) hz hd (by omega) T
    have hl := fun T => p_lless (k + 85) hz hd (by omega) T
    have hne := cmpN (a := less a) (b := less a) (.inl (Nat.le_trans (less_dp a) (by omega)))
    rw [decide_eq_true rfl] at hne
    have hE := eq_next hx hd (n := n)
    rw [ev_sC]
    by_cases hm : n + 1 = most
    · have h1 : (n : Int) + 1 = mostI := by rw [mostI_eq]; omega
      simp [L13, hn3, ho, hl, hne, h1, orE]
    · have h1 : ¬ (n : Int) + 1 = mostI := by rw [mostI_eq]; omega
      have hn' : n + 1 < most := by omega
      rw [stO_lt hn', stO_lt hn] at hE
      have ht := fun T => p_ltold k (less_dsc hd).pos hn' (Nat.le_trans (less_dp a) (by omega)) (Nat.le_trans (less_wd a) (by omega)) T
      have hc1 : ((n + 1 : Nat) : Int) = (n : Int) + 1 := by omega
      rw [hc1, hE] at ht
      have heq := optL_E (stQ a n)
      simp [L13, hn3, ho, hl, hne, h1, orE, ht, hto, heq]
  | false =>
    rw [hx] at hn3
    have hop := opn_of hz hx
    have hb : ∀ j T, cl (k + 86) "below" [toD a, .int ((j : Nat) : Int)] T = .ok (toD (bel j a), false) T := fun j T => by
      obtain ⟨i, hi⟩ : ∃ i, k + 86 = i + dp a + 3 := ⟨k + 83 - dp a, by omega⟩
      rw [hi]
      exact p_below j a i T hop hd (by omega) (by omega)
    have hlb : ∀ T, cl (k + 86) "_law_below" [toD a, .int (n : Int)] T = .ok (toD (bel n a), false) T := fun T => by
      obtain ⟨i, hi⟩ : ∃ i, k + 86 = i + dp a + 3 := ⟨k + 83 - dp a, by omega⟩
      rw [hi]
      exact p_lbelow n a i T hop hd (by omega) (by omega)
    have hbn := hb n
    have hbs := hb (n + 1)
    have hc1 : ((n + 1 : Nat) : Int) = (n : Int) + 1 := by omega
    rw [hc1] at hbs
    have hdp : dp (bel n a) ≤ 60 := Nat.le_trans (bel_dp n a) hp
    have hwd : wd (bel n a) ≤ 501 := Nat.le_trans (bel_wd n a) (by omega)
    have hne := cmpN (a := bel n a) (b := bel n a) (.inl (by omega))
    rw [decide_eq_true rfl] at hne
    have hlt := cmpL (a := bel n a) (b := a) (.inl (by omega))
    rw [bel_lt n hd hop] at hlt
    have hgt := cmpG (a := bel (n + 1) a) (b := bel n a) (.inr (by omega))
    rw [bel_up n hd hop] at hgt
    have hE := eq_open hop hd (n := n)
    rw [stO_lt hn, stO_lt hn] at hE
    have ht := fun T => p_ltold k (bel_dsc n hd hop).pos hn (by omega : dp (bel n a) ≤ 80) (by omega : wd (bel n a) ≤ 9000) T
    rw [hE] at ht
    have heq := optL_E (stQ a n)
    refine (seq_of (σ' := [.fz A, .fz B, .fz (toD a), .fz (.int mostI), .fz (.int (n : Int)), .fz (.tup [.bl false, .bl (opn a)]), .fz (optD (stQ a n)), .fz (optD (ct 400 a n)), .no, .no, .no]) (T' := T) (by simp [L13, hn3])).trans ?_
    refine (seq_of (σ' := [.fz A, .fz B, .fz (toD a), .fz (.int mostI), .fz (.int (n : Int)), .fz (.tup [.bl false, .bl (opn a)]), .fz (optD (stQ a n)), .fz (optD (ct 400 a n)), .fz (toD (bel n a)), .no, .no]) (T' := T) (by simp [L14, hbn])).trans ?_
    refine (seq_of (σ' := [.fz A, .fz B, .fz (toD a), .fz (.int mostI), .fz (.int (n : Int)), .fz (.tup [.bl false, .bl (opn a)]), .fz (optD (stQ a n)), .fz (optD (ct 400 a n)), .fz (toD (bel n a)), .no, .no]) (T' := T) (by simp [L15, hlb, hne, hlt])).trans ?_
    rw [ev_sC]
    simp [L16, ht, hto, heq, hbs, hgt]
theorem law_ok (k : Nat) (sc : List Int) : ∃ T', cl (k + 87) "law" [.obj 0] [.frz (iL sc)] = .ok (.bl true, false) T' := by
  rw [r_law, law_split]
  obtain ⟨x, e, x0, x1⟩ := stream_ok (k + 85) sc
  have hT : StO (St (.frz (iL sc)) (iL sc) 0 0 x) := StO.mk' (fun c hc => by
    obtain ⟨i, _, rfl⟩ := List.mem_map.mp hc
    exact ⟨i, rfl⟩) (by decide) x0 x1
  obtain ⟨v, T1, e1, hT1, v0, v1⟩ := draw_ok (k + 85) hT (m := 4) ⟨by decide, by decide⟩
  obtain ⟨i, rfl⟩ := Int.eq_ofNat_of_zero_le v0
  obtain ⟨a, T2, e2, hT2, hd, hp, hw⟩ := p_ord i (k + 84 - i) T1 (by omega) hT1
  rw [show k + 84 - i + i + 2 = k + 86 by omega] at e2
  obtain ⟨v, T3, e3, hT3, v0, v3⟩ := draw_ok (k + 85) hT2 (m := 4) ⟨by decide, by decide⟩
  obtain ⟨j1, rfl⟩ := Int.eq_ofNat_of_zero_le v0
  obtain ⟨v, T4, e4, hT4, v0, v4⟩ := draw_ok (k + 85) hT3 (m := 13) ⟨by decide, by decide⟩
  obtain ⟨j2, rfl⟩ := Int.eq_ofNat_of_zero_le v0
  obtain ⟨v, T5, e5, hT5, v0, v5⟩ := draw_ok (k + 85) hT4 (m := 9) ⟨by decide, by decide⟩
  obtain ⟨j3, rfl⟩ := Int.eq_ofNat_of_zero_le v0
  obtain ⟨d, T6, e6, hT6, hmem⟩ := pick_ok (k + 84) hT5 [.int (j1 : Int), .int (j2 : Int), .int ((p60 : Int) + (j3 : Int))] (by simp) (by simp)
  have hp6 := p60_lt
  have hm3 := most_3
  obtain ⟨n, rfl, hn⟩ : ∃ n : Nat, d = .int (n : Int) ∧ n < most := by
    simp only [List.mem_cons, List.not_mem_nil, or_false] at hmem
    rcases hmem with rfl | rfl | rfl
    · exact ⟨j1, rfl, by omega⟩
    · exact ⟨j2, rfl, by omega⟩
    · exact ⟨p60 + j3, rfl, by omega⟩
  obtain ⟨v, T7, e7, hT7, v0, v7⟩ := draw_ok (k + 85) hT6 (m := 8) ⟨by decide, by decide⟩
  obtain ⟨j4, rfl⟩ := Int.eq_ofNat_of_zero_le v0
  have h5 : ∃ n' T8, n' < most ∧ L5 (cl (k + 86)) [.fz (.obj 0), .fz (.obj 1), .fz (toD a), .fz (.int mostI), .fz (.int (n : Int)), .no, .no, .no, .no, .no, .no] T6 = .nx [.fz (.obj 0), .fz (.obj 1), .fz (toD a), .fz (.int mostI), .fz (.int (n' : Int)), .no, .no, .no, .no, .no, .no] T8 := by
    by_cases h4 : j4 = 0
    · subst h4
      obtain ⟨v, T8, e8, hT8, v0, v8⟩ := draw_ok (k + 85) hT7 (m := 3) ⟨by decide, by decide⟩
      obtain ⟨j5, rfl⟩ := Int.eq_ofNat_of_zero_le v0
      refine ⟨most - 1 - j5, T8, by omega, ?_⟩
      have hc : ((most - 1 - j5 : Nat) : Int) = mostI - 1 - (j5 : Int) := by
        rw [mostI_eq]
        omega
      rw [hc]
      simp [L5, e7, e8]
    · exact ⟨n, T7, hn, by simp [L5, e7, h4]⟩
  obtain ⟨n', T8, hn', h5⟩ := h5
  refine ⟨T8, ?_⟩
  have hfin := law_tail k hd (by omega : dp a ≤ 60) (by omega : wd a ≤ 500) hn' T8 (.obj 0) (.obj 1)
  have hT0 : ([.frz (iL sc)] : Sto) ++ [.lst [.lst (iL sc), .int 0, .int 0, .int x]] = St (.frz (iL sc)) (iL sc) 0 0 x := rfl
  have key : (sSeq [L0 (cl (k + 86)), L1 (cl (k + 86)), L2 (cl (k + 86)), L3 (cl (k + 86)), L4 (cl (k + 86)), L5 (cl (k + 86)), L6 (cl (k + 86)), L7 (cl (k + 86)), L8 (cl (k + 86)), L9 (cl (k + 86)), L10 (cl (k + 86)), L11 (cl (k + 86)), L12 (cl (k + 86)), L13 (cl (k + 86)), L14 (cl (k + 86)), L15 (cl (k + 86)), L16 (cl (k + 86))])
      [.fz (.obj 0), .no, .no, .no, .no, .no, .no, .no, .no, .no, .no] [.frz (iL sc)] = .rt (.bl true) false T8 := by
    refine (seq_of (σ' := [.fz (.obj 0), .fz (.obj 1), .no, .no, .no, .no, .no, .no, .no, .no, .no]) (T' := St (.frz (iL sc)) (iL sc) 0 0 x) (by simp [L0, e])).trans ?_
    refine (seq_of (σ' := [.fz (.obj 0), .fz (.obj 1), .fz (toD a), .no, .no, .no, .no, .no, .no, .no, .no]) (T' := T2) (by simp [L1, e1, e2])).trans ?_
    refine (seq_of (σ' := [.fz (.obj 0), .fz (.obj 1), .fz (toD a), .fz (.int p50), .no, .no, .no, .no, .no, .no, .no]) (T' := T2) (by simp [L2])).trans ?_
    refine (seq_of (σ' := [.fz (.obj 0), .fz (.obj 1), .fz (toD a), .fz (.int mostI), .no, .no, .no, .no, .no, .no, .no]) (T' := T2) (by simp [L3])).trans ?_
    refine (seq_of (σ' := [.fz (.obj 0), .fz (.obj 1), .fz (toD a), .fz (.int mostI), .fz (.int (n : Int)), .no, .no, .no, .no, .no, .no]) (T' := T6) (by simp [L4, e3, e4, e5, e6])).trans ?_
    exact (seq_of h5).trans hfin
  rw [key]
  rfl
end
end K71


set_option Elab.async false
set_option linter.all false
set_option maxRecDepth 100000
set_option maxHeartbeats 4000000
/-! an own exception without own __init__, made without arguments; constants by a Bool; the try statement -/
namespace L2N
open PySem hiding Env
open PySem.Spec PyProof.Rows L2
theorem pmk_own0 {X : Cx} {C : Addr} {bmB : List Value} {B newId initId : String} {x : Str} {p pos : PySem.Pos} (F : ExcBaseFacts B newId initId bmB) (q : PySem.W.excIn X.K C bmB newId = true) (gC : X.mg x = some (.ref C)) (kC : PySem.W.keepIn X.K (.ref C) = true) (r : Raises X (.ref C)) (hg : Gl X x)
    (hdb : (x == ("__debug__" : Str)) = false := by decide) : PMk X (.Call (.Name x p) [] [] pos) (fun _ H Q => Q (.ref C) none H) := by
  intro pins s σ H Q I h
  refine wpAny_Call_Name_kw (ld_glob I hg gC ?_ hdb)
  refine PySem.W.callWith_K0 I.kIn kC ?_
  obtain ⟨hp1, g1, d1, tk1, os1⟩ := s
  show wpAny _ _ (call (.ref C) []) _ _ _
  obtain ⟨bm, N, nm, qn, bs, hdct, sn, sub, ab, col, dd, k0, k1, k2, k3, k5, mN, hC, hN, hni, T⟩ := exc_obj I.kIn q
  refine wpAny_call_exc_subT F T hC hN hni (fun h' e hm => ?_) (Nat.zero_le _)
  exact mk_of I hm r h (I.hok.gone hm.new)
end L2N
namespace Mi
open PySem hiding Env
open PySem.Spec PyProof.Rows L2
mutual
/-- whether a written value is this -/
def kD (K : PySem.W.Frag) : Mi.D → Value → Bool
  | .int i, .int j _ => decide (i = j)
  | .tup ds, .ref a => (match K.lookup a with
    | some ⟨.type "tuple", _, .seq its _, _⟩ => decide (its.size ≤ 16777216) && kDs K ds its.toList
    | _ => false)
  | _, _ => false
def kDs (K : PySem.W.Frag) : List Mi.D → List Value → Bool
  | [], [] => true
  | d :: ds, v :: vs => kD K d v && kDs K ds vs
  | _, _ => false
end
mutual
theorem kD_ok {K : PySem.W.Frag} : ∀ (d : Mi.D) (v : Value), kD K d v = true → ∃ u : L2.V, RelV u v ∧ ∀ ρ (G : Hp), Rp K ρ G u d
  | .int i, v, h => by
    cases v with
    | int j t =>
      have e : i = j := of_decide_eq_true h
      subst e
      exact ⟨.int i, ⟨t, rfl⟩, fun _ _ => .int _⟩
    | _ => cases h
  | .tup ds, v, h => by
    cases v with
    | ref a =>
      have h' : (match K.lookup a with
        | some ⟨.type "tuple", _, .seq its _, _⟩ => decide (its.size ≤ 16777216) && kDs K ds its.toList
        | _ => false) = true := h
      split at h'
      · rename_i dd its n sl hk
        rw [Bool.and_eq_true, decide_eq_true_eq] at h'
        obtain ⟨us, hv, hr⟩ := kDs_ok ds its.toList h'.2
        exact ⟨.ref a, rfl, fun ρ G => .tup (.inr ⟨_, its, n, hk, rfl, rfl, by rw [sizeLine_eq]; exact h'.1, hv⟩) (hr ρ G)⟩
      · cases h'
    | _ => cases h
  | .non, v, h => by cases v <;> cases h
  | .bl _, v, h => by cases v <;> cases h
  | .str _, v, h => by cases v <;> cases h
  | .lst _, v, h => by cases v <;> cases h
  | .dct _, v, h => by cases v <;> cases h
  | .obj _, v, h => by cases v <;> cases h
theorem kDs_ok {K : PySem.W.Frag} : ∀ (ds : List Mi.D) (vs : List Value), kDs K ds vs = true → ∃ us : List L2.V, Vals us vs ∧ ∀ ρ (G : Hp), Rps K ρ G us ds
  | [], [], _ => ⟨[], .nil, fun _ _ => .nil⟩
  | [], _ :: _, h => by cases h
  | _ :: _, [], h => by cases h
  | d :: ds, v :: vs, h => by
    have h' : (kD K d v && kDs K ds vs) = true := h
    rw [Bool.and_eq_true] at h'
    obtain ⟨u, h1, h2⟩ := kD_ok d v h'.1
    obtain ⟨us, h3, h4⟩ := kDs_ok ds vs h'.2
    exact ⟨u :: us, .cons h1 h3, fun ρ G => .cons (h2 ρ G) (h4 ρ G)⟩
end
end Mi
namespace K71
open PySem hiding Env
open PySem.Spec L2 L2H Mi
/-! ### the try statement of _law_told -/
/-- what the module's classes say -/
structure ExF (K : PySem.W.Frag) (mg : Str → Option Value) : Prop where
  gA : mg "Above" = some (.ref (He.ga K "Above"))
  gG : mg "GradatimError" = some (.ref (He.ga K "GradatimError"))
  ex : ExcC K (He.ga K "Above")
  kA : PySem.W.kitOne K (.ref (He.ga K "Above")) (.ref (He.ga K "Above")) = some true
  em : PySem.W.exmOne K (.ref (He.ga K "Above")) (.ref (He.ga K "GradatimError")) = some true
  xi : PySem.W.excIn K (He.ga K "Above") [.type "ValueError", .type "Exception", .type "BaseException", .type "object"] "ValueError.__new__" = true
  kp : PySem.W.keepIn K (.ref (He.ga K "Above")) = true
  ty : PySem.W.typeIn K (.ref (He.ga K "Above")) = some (.type "type")
section
variable {X : Cx} {a C : Addr} {oe : Obj} {pn : List (Addr × Obj)}
theorem is_cls {c : Str} {Cc : Addr} {b : Bool} {p1 p2 p3 p4 : PySem.Pos} (T : ExcC X.K C) (hz : Zc (.ref C) none oe) (hf : ∃ vs, oe.data = .fields vs) (hN : X.N[2]? = some ("e" : Str)) (hv : Vis X.env.scope "e") (g1 : Gl X "isinstance") (m1 : X.mg "isinstance" = none) (g2 : Gl X c) (m2 : X.mg c = some (.ref Cc)) (d2 : (c == ("__debug__" : Str)) = false) (k : PySem.W.kitOne X.K (.ref C) (.ref Cc) = some b) :
    PE (X.suite a ((a, oe) :: pn)) (.Call (.Name "isinstance" p1) [.Name "e" p2, .Name c p3] [] p4) (fun σ H Q => σ[2]? = some (some (.ref a)) ∧ Q (.bl b) H) :=
  (pe_callB (X := X.suite a ((a, oe) :: pn)) (call_isE T hz hf) g1 m1 (by decide +kernel) (pa_cons (pe_var (i := 2) hN hv) (pa_cons (pe_glob (v := .ref Cc) g2 m2 rfl d2) pa_nil))).imp fun σ H Q ⟨e, q⟩ => ⟨_, e, _, .ref Cc, b, rfl, fun u h => h, k, q⟩
end
/-- what the suite is to reach: e at a in slot 2 -/
def tSuite (K : PySem.W.Frag) : Addr → Value → Option Addr → TS := fun a cls d Z σ H => cls = .ref (He.ga K "Above") ∧ d = none ∧ σ[2]? = some (some (.ref a)) ∧ ∀ p, H p = none → Z.rt (.ref p) (upd H p (.lst []))
abbrev Xt (P : Program) (w : World) (K : PySem.W.Frag) (mg : Str → Option Value) (base : Heap) (qual : Str) (f : Addr) (cdv : Value) (A : Around) (outer : List PySem.Env) (s : Shared) (H : Hp) (E : XK) : Cx := cxOf (L2N.CX P w) P w K mg base d__law_told.N qual d__law_told.sc f cdv A outer s H E
theorem scTold : d__law_told.N.Nodup := by decide +kernel
theorem suite_ok {P : Program} {w : World} {K : PySem.W.Frag} {mg : Str → Option Value} {base : Heap} {qual : Str} {f : Addr} {cdv : Value} {A : Around} {outer : List PySem.Env} {s : Shared} {H : Hp} {E : XK} {p1 p2 p3 p4 p5 p6 p7 p8 p9 : PySem.Pos}
    (x : ExF K mg) (blt : ∀ x ∈ bltNames, mg x = none)
    (a : Addr) (oe : Obj) (cls : Value) (d : Option Addr) (pn : List (Addr × Obj)) (hz : L2N.Zn cls d oe) (hf : ∃ vs, oe.data = .fields vs) :
    PSs ((Xt P w K mg base qual f cdv A outer s H E).suite a ((a, oe) :: pn)) [.If (.Call (.Name "isinstance" p1) [.Name "e" p2, .Name "Above" p3] [] p4) [.Return (some (.List [] p5)) p6] [] p7, .Return (some (.Constant .none 0 p8)) p9] (tSuite K a cls d) := by
  refine ⟨fun pins s1 σ H1 D I h => ?_⟩
  obtain ⟨rfl, rfl, e2, q⟩ := h
  have zc : Zc (.ref (He.ga K "Above")) none oe := hz.zc
  have m1 := blt "isinstance" (by decide +kernel)
  refine L2.PSs.run (X := (Xt P w K mg base qual f cdv A outer s H E).suite a ((a, oe) :: pn)) (pss_cons
    (ps_if (pt_val (is_cls (X := Xt P w K mg base qual f cdv A outer s H E) (c := "Above") (p1 := p1) (p2 := p2) (p3 := p3) (p4 := p4) x.ex zc hf rfl (Or.inl rfl) rfl m1 rfl x.gA (by decide) x.kA))
      (pss_one (ps_ret (pe_lst pa_nil))) pss_nil)
    (pss_one (ps_ret pe_non))) pins s1 σ H1 D I ?_
  exact ⟨e2, true, rfl, by decide, fun p hp => q p hp⟩
section
variable {P : Program} {w : World} {K : PySem.W.Frag} {mg : Str → Option Value} {base : Heap} {qual : Str} {f : Addr} {cdv : Value} {A : Around} {outer : List PySem.Env} {s : Shared} {H : Hp} {E : XK}
theorem ext_told {C : CallT} {R : Dn} (S : Snd G C R) (g : Gx (Xt P w K mg base qual f cdv A outer s H E) G C) (x : ExF K mg) (blt : ∀ x ∈ bltNames, mg x = none) : PS (Xt P w K mg base qual f cdv A outer s H E) tryS (SR K (fun cls d _ H' => E cls d H') (tryM R)) := by
  have fit : Fit (Xt P w K mg base qual f cdv A outer s H E) F_told := ⟨rfl, rfl, rfl, rfl, scTold⟩
  have tk : L2N.Takes (Xt P w K mg base qual f cdv A outer s H E) (fun cls d _ H' => E cls d H') := L2N.takes_of (X := Xt P w K mg base qual f cdv A outer s H E) rfl rfl rfl rfl
  have body : ∀ (W : WX) (pn : List (Addr × Obj)) (xe : Value → Shared → Prop), L2N.Takes ((Xt P w K mg base qual f cdv A outer s H E).tr pn xe) W → PSs ((Xt P w K mg base qual f cdv A outer s H E).tr pn xe) (tryBody tryS) (SR K W (bodyM R)) := fun W pn xe tkW => by
    have fit' : Fit ((Xt P w K mg base qual f cdv A outer s H E).tr pn xe) F_told := ⟨rfl, rfl, rfl, rfl, scTold⟩
    have g' : Gx ((Xt P w K mg base qual f cdv A outer s H E).tr pn xe) G C := ⟨g.fn, g.blt, g.cst, g.un⟩
    exact pss_one (sm_set S g' fit' tkW "found" _ callX _ 3 (by kernel_rfl) (sw_notLc (by kernel_rfl) _ _ _))
  have h : PS (Xt P w K mg base qual f cdv A outer s H E) tryS (fun D σ H' => SR K (wAs K (.ref (He.ga K "GradatimError")) 2 (tSuite K) (fun cls d _ H' => E cls d H') D) (bodyM R) D σ H') := L2N.ps_try_as (X := Xt P w K mg base qual f cdv A outer s H E) (i := 2) (x := "GradatimError") (n := "e") (tb := fun W => SR K W (bodyM R)) (ts := tSuite K) (Wout := fun cls d _ H' => E cls d H') (c := .ref (He.ga K "GradatimError")) rfl rfl scTold rfl rfl ⟨rfl, by decide, Or.inl x.gG⟩ tk
    (fun W pn xe tkW _ => body W pn xe tkW) (fun a oe cls d pn hz hf => suite_ok x blt a oe cls d pn hz hf)
  refine h.imp fun D σv H1 ⟨ρ0, G0, H0, ρ, G1, T, σ, t0, w0, es, p⟩ => ⟨ρ0, G0, H0, ρ, G1, T, σ, t0, w0, es, ?_⟩
  have p : PostS K (fun cls d _ H' => E cls d H') ρ0 G0 H0 D ρ G1 H1 (catchM (bodyM R σ T)) := p
  cases e : bodyM R σ T with
  | nx σ1 T1 => rw [e] at p; exact p
  | rt d b T1 => rw [e] at p; exact p
  | bk σ1 T1 => rw [e] at p; exact p
  | ct σ1 T1 => rw [e] at p; exact p
  | bad => rw [e] at p; exact p
  | ex y σ1 T1 =>
    rw [e] at p
    have p : PostS K (fun cls d _ H' => E cls d H') ρ0 G0 H0 D ρ G1 H1 (if 3 < σ1.length then suiteG y T1 else .bad) := p
    by_cases hlen : 3 < σ1.length
    case neg =>
      rw [if_neg hlen] at p
      exact p.elim
    rw [if_pos hlen] at p
    intro cls d ρ' G' H' σv' t t2 w' es' xr
    obtain ⟨c, fl⟩ := y
    cases fl with
    | some fl => exact p.elim
    | none =>
      have p : PostS K (fun cls d _ H' => E cls d H') ρ0 G0 H0 D ρ G1 H1 (if c = ("Above" : Str) then .rt (.lst []) true T1 else .bad) := p
      by_cases hc : c = ("Above" : Str)
      case neg =>
        rw [if_neg hc] at p
        exact p.elim
      rw [if_pos hc] at p
      subst hc
      obtain ⟨hcl, hd⟩ := xr
      have hcl : cls = .ref (He.ga K "Above") := hcl
      have hd : d = none := hd
      subst hcl hd
      refine ⟨true, x.em, fun _ a ha => ?_, fun z => nomatch z⟩
      have hlv : 3 < σv'.length := by rw [← es'.er.len]; exact hlen
      refine ⟨rfl, rfl, List.getElem?_set_self (by omega), fun pp hpp => ?_⟩
      have w3 := w'.new hpp (.lst [])
      exact p (.ref pp) ρ' G' _ (t.trans w' (Tr.refl.new w' hpp _) w3) (t2.trans (Tr.refl.new w' hpp _).w) w3 ⟨pp, [], [], rfl, rfl, upd_same, .nil, w'.rfree hpp, w'.gfree hpp, t.hfree w' hpp⟩
end
end K71


set_option Elab.async false
set_option linter.all false
set_option maxRecDepth 100000
set_option maxHeartbeats 4000000
namespace K71
open PySem hiding Env
open PySem.Spec PyProof.Rows L2 Mi
theorem allN {α : Type} {Q : α → Prop} : ∀ p ∈ ([] : List α), Q p := fun _ h => nomatch h
theorem allC {α : Type} {Q : α → Prop} {a : α} {l : List α} (h : Q a) (hl : ∀ p ∈ l, Q p) : ∀ p ∈ a :: l, Q p := fun p hp => (List.mem_cons.mp hp).elim (fun e => e ▸ h) (hl p)
theorem allA {α : Type} {Q : α → Prop} {l m : List α} (hl : ∀ p ∈ l, Q p) (hm : ∀ p ∈ m, Q p) : ∀ p ∈ l ++ m, Q p := fun p hp => (List.mem_append.mp hp).elim (hl p) (hm p)
theorem mem_lk {β : Type} {a : Str} {o : β} : ∀ {l : List (Str × β)}, l.lookup a = some o → (a, o) ∈ l
  | [], h => by cases h
  | (b, u) :: r, h => by
    rw [List.lookup_cons] at h
    split at h
    · rename_i q
      cases h
      rw [beq_iff_eq.mp q]
      exact List.mem_cons_self
    · exact List.mem_cons_of_mem _ (mem_lk h)
def h_plus : He.DefD := ⟨("plus", none), "plus", "plus", defArgs (top 5), defBody (top 5), defScope (top 5), [], []⟩
def h_power : He.DefD := ⟨("power", none), "power", "power", defArgs (top 6), defBody (top 6), defScope (top 6), [], []⟩
def h_is_next : He.DefD := ⟨("is_next", none), "is_next", "is_next", defArgs (top 12), defBody (top 12), defScope (top 12), [], []⟩
def h_is_open : He.DefD := ⟨("is_open", none), "is_open", "is_open", defArgs (top 13), defBody (top 13), defScope (top 13), [], []⟩
def h_shortened : He.DefD := ⟨("shortened", none), "shortened", "shortened", defArgs (top 14), defBody (top 14), defScope (top 14), [], []⟩
def h_one_less : He.DefD := ⟨("one_less", none), "one_less", "one_less", defArgs (top 15), defBody (top 15), defScope (top 15), [], []⟩
def h_below : He.DefD := ⟨("below", none), "below", "below", defArgs (top 16), defBody (top 16), defScope (top 16), [], []⟩
def h_told : He.DefD := ⟨("told", none), "told", "told", defArgs (top 17), defBody (top 17), defScope (top 17), [], []⟩
def h_raised : He.DefD := ⟨("raised", none), "raised", "raised", defArgs (top 18), defBody (top 18), defScope (top 18), [], []⟩
def h_goes_away : He.DefD := ⟨("goes_away", none), "goes_away", "goes_away", defArgs (top 19), defBody (top 19), defScope (top 19), [], []⟩
def h_climbed : He.DefD := ⟨("climbed", none), "climbed", "climbed", defArgs (top 20), defBody (top 20), defScope (top 20), [], []⟩
def h_doubled : He.DefD := ⟨("doubled", none), "doubled", "doubled", defArgs (top 21), defBody (top 21), defScope (top 21), [], []⟩
def h_climbed_often : He.DefD := ⟨("climbed_often", none), "climbed_often", "climbed_often", defArgs (top 22), defBody (top 22), defScope (top 22), [], []⟩
def h_stage : He.DefD := ⟨("stage", none), "stage", "stage", defArgs (top 23), defBody (top 23), defScope (top 23), [], []⟩
def h__law_stream : He.DefD := ⟨("_law_stream", none), "_law_stream", "_law_stream", defArgs (top 25), defBody (top 25), defScope (top 25), [], []⟩
def h__law_draw : He.DefD := ⟨("_law_draw", none), "_law_draw", "_law_draw", defArgs (top 26), defBody (top 26), defScope (top 26), [], []⟩
def h__law_pick : He.DefD := ⟨("_law_pick", none), "_law_pick", "_law_pick", defArgs (top 27), defBody (top 27), defScope (top 27), [], []⟩
def h__law_ordinal : He.DefD := ⟨("_law_ordinal", none), "_law_ordinal", "_law_ordinal", defArgs (top 28), defBody (top 28), defScope (top 28), [], []⟩
def h__law_is_next : He.DefD := ⟨("_law_is_next", none), "_law_is_next", "_law_is_next", defArgs (top 29), defBody (top 29), defScope (top 29), [], []⟩
def h__law_less : He.DefD := ⟨("_law_less", none), "_law_less", "_law_less", defArgs (top 30), defBody (top 30), defScope (top 30), [], []⟩
def h__law_below : He.DefD := ⟨("_law_below", none), "_law_below", "_law_below", defArgs (top 31), defBody (top 31), defScope (top 31), [], []⟩
def h__law_goes_away : He.DefD := ⟨("_law_goes_away", none), "_law_goes_away", "_law_goes_away", defArgs (top 32), defBody (top 32), defScope (top 32), [], []⟩
def h__law_climb : He.DefD := ⟨("_law_climb", none), "_law_climb", "_law_climb", defArgs (top 33), defBody (top 33), defScope (top 33), [], []⟩
def h__law_doubled : He.DefD := ⟨("_law_doubled", none), "_law_doubled", "_law_doubled", defArgs (top 34), defBody (top 34), defScope (top 34), [], []⟩
def h__law_stage : He.DefD := ⟨("_law_stage", none), "_law_stage", "_law_stage", defArgs (top 35), defBody (top 35), defScope (top 35), [], []⟩
def h__law_told : He.DefD := ⟨("_law_told", none), "_law_told", "_law_told", defArgs (top 36), defBody (top 36), defScope (top 36), [], []⟩
def h__law_counted : He.DefD := ⟨("_law_counted", none), "_law_counted", "_law_counted", defArgs (top 37), defBody (top 37), defScope (top 37), [], []⟩
def h_law : He.DefD := ⟨("law", none), "law", "law", defArgs (top 38), defBody (top 38), defScope (top 38), [], []⟩
def fnH : List He.DefD := ([h_plus, h_power, h_is_next, h_is_open, h_shortened, h_one_less, h_below, h_told, h_raised, h_goes_away] : List He.DefD) ++ ([h_climbed, h_doubled, h_climbed_often, h_stage, h__law_stream, h__law_draw, h__law_pick, h__law_ordinal, h__law_is_next, h__law_less] : List He.DefD) ++ ([h__law_below, h__law_goes_away, h__law_climb, h__law_doubled, h__law_stage, h__law_told, h__law_counted, h_law] : List He.DefD)
def faH : List He.Fa := ([.glo "plus", .glo "power", .glo "is_next", .glo "is_open", .glo "shortened", .glo "one_less", .glo "below", .glo "told", .glo "raised", .glo "goes_away"] : List He.Fa) ++ ([.glo "climbed", .glo "doubled", .glo "climbed_often", .glo "stage", .glo "_law_stream", .glo "_law_draw", .glo "_law_pick", .glo "_law_ordinal", .glo "_law_is_next", .glo "_law_less"] : List He.Fa) ++ ([.glo "_law_below", .glo "_law_goes_away", .glo "_law_climb", .glo "_law_doubled", .glo "_law_stage", .glo "_law_told", .glo "_law_counted", .glo "law", .glo "GradatimError", .glo "Above"] : List He.Fa) ++ ([.free "len", .free "isinstance", .free "abs", .free "int", .free "str", .free "bool", .free "tuple", .free "list", .free "all", .free "any"] : List He.Fa) ++ ([.free "sum", .free "range", .free "enumerate", .free "reversed", .free "max", .free "min", .free "sorted", .free "repr", .free "divmod", .free "zip"] : List He.Fa) ++ ([.free "super", .int "MOST_STAGE" mostI, .glo "ONE", .glo "TWO", .glo "THREE", .glo "OMEGA"] : List He.Fa)
def looseH : List PySem.Str := (["GradatimError", "Above", "ONE", "plus", "power", "MOST_STAGE", "TWO", "THREE", "OMEGA", "is_next"] : List PySem.Str) ++ (["is_open", "shortened", "one_less", "below", "told", "raised", "goes_away", "climbed", "doubled", "climbed_often"] : List PySem.Str) ++ (["stage", "_law_stream", "_law_draw", "_law_pick", "_law_ordinal", "_law_is_next", "_law_less", "_law_below", "_law_goes_away", "_law_climb"] : List PySem.Str) ++ (["_law_doubled", "_law_stage", "_law_told", "_law_counted"] : List PySem.Str)
def QF (K : PySem.W.Frag) (mg : Str → Option Value) (p : Str × Df) : Prop := ∃ (fa : Addr) (fd : FuncData) (ps : List Str) (x qual : Str) (params : Arguments), FunD K x qual params p.2.body p.2.sc [] [] fa fd ∧ FnScope p.2.N ps p.2.sc ∧ ps.length = p.2.np ∧ mg p.1 = some (.ref fa) ∧ Binds K fd ps []
def QC (K : PySem.W.Frag) (mg : Str → Option Value) (p : Str × Mi.D) : Prop := ∃ u v, mg p.1 = some u ∧ RelV v u ∧ ∀ ρ (Gh : Hp), Rp K ρ Gh v p.2
section
variable {K : PySem.W.Frag} {mg : Str → Option Value} {h : Heap}
theorem q_plus (c : He.SaysD faH fnH K) (X : K.In h) (G : h.Ns mainGlobals mg) : QF K mg ("plus", d_plus) := by
  obtain ⟨fd, F⟩ := c.def_ 0 (d := h_plus) rfl
  exact ⟨_, fd, ["a", "b"], _, _, _, F, ⟨rfl, rfl, rfl, by decide +kernel, rfl, by decide +kernel, by decide +kernel⟩, rfl, He.glo_ok X G (c.fact 0 (f := .glo "plus") rfl), FunD.bindsN F fun _ _ _ _ _ _ us hl => match us, hl with | [_, _], _ => rfl⟩
theorem q_power (c : He.SaysD faH fnH K) (X : K.In h) (G : h.Ns mainGlobals mg) : QF K mg ("power", d_power) := by
  obtain ⟨fd, F⟩ := c.def_ 1 (d := h_power) rfl
  exact ⟨_, fd, ["a"], _, _, _, F, ⟨rfl, rfl, rfl, by decide +kernel, rfl, by decide +kernel, by decide +kernel⟩, rfl, He.glo_ok X G (c.fact 1 (f := .glo "power") rfl), FunD.bindsN F fun _ _ _ _ _ _ us hl => match us, hl with | [_], _ => rfl⟩
theorem q_is_next (c : He.SaysD faH fnH K) (X : K.In h) (G : h.Ns mainGlobals mg) : QF K mg ("is_next", d_is_next) := by
  obtain ⟨fd, F⟩ := c.def_ 2 (d := h_is_next) rfl
  exact ⟨_, fd, ["a"], _, _, _, F, ⟨rfl, rfl, rfl, by decide +kernel, rfl, by decide +kernel, by decide +kernel⟩, rfl, He.glo_ok X G (c.fact 2 (f := .glo "is_next") rfl), FunD.bindsN F fun _ _ _ _ _ _ us hl => match us, hl with | [_], _ => rfl⟩
theorem q_is_open (c : He.SaysD faH fnH K) (X : K.In h) (G : h.Ns mainGlobals mg) : QF K mg ("is_open", d_is_open) := by
  obtain ⟨fd, F⟩ := c.def_ 3 (d := h_is_open) rfl
  exact ⟨_, fd, ["a"], _, _, _, F, ⟨rfl, rfl, rfl, by decide +kernel, rfl, by decide +kernel, by decide +kernel⟩, rfl, He.glo_ok X G (c.fact 3 (f := .glo "is_open") rfl), FunD.bindsN F fun _ _ _ _ _ _ us hl => match us, hl with | [_], _ => rfl⟩
theorem q_shortened (c : He.SaysD faH fnH K) (X : K.In h) (G : h.Ns mainGlobals mg) : QF K mg ("shortened", d_shortened) := by
  obtain ⟨fd, F⟩ := c.def_ 4 (d := h_shortened) rfl
  exact ⟨_, fd, ["a"], _, _, _, F, ⟨rfl, rfl, rfl, by decide +kernel, rfl, by decide +kernel, by decide +kernel⟩, rfl, He.glo_ok X G (c.fact 4 (f := .glo "shortened") rfl), FunD.bindsN F fun _ _ _ _ _ _ us hl => match us, hl with | [_], _ => rfl⟩
theorem q_one_less (c : He.SaysD faH fnH K) (X : K.In h) (G : h.Ns mainGlobals mg) : QF K mg ("one_less", d_one_less) := by
  obtain ⟨fd, F⟩ := c.def_ 5 (d := h_one_less) rfl
  exact ⟨_, fd, ["a"], _, _, _, F, ⟨rfl, rfl, rfl, by decide +kernel, rfl, by decide +kernel, by decide +kernel⟩, rfl, He.glo_ok X G (c.fact 5 (f := .glo "one_less") rfl), FunD.bindsN F fun _ _ _ _ _ _ us hl => match us, hl with | [_], _ => rfl⟩
theorem q_below (c : He.SaysD faH fnH K) (X : K.In h) (G : h.Ns mainGlobals mg) : QF K mg ("below", d_below) := by
  obtain ⟨fd, F⟩ := c.def_ 6 (d := h_below) rfl
  exact ⟨_, fd, ["a", "n"], _, _, _, F, ⟨rfl, rfl, rfl, by decide +kernel, rfl, by decide +kernel, by decide +kernel⟩, rfl, He.glo_ok X G (c.fact 6 (f := .glo "below") rfl), FunD.bindsN F fun _ _ _ _ _ _ us hl => match us, hl with | [_, _], _ => rfl⟩
theorem q_told (c : He.SaysD faH fnH K) (X : K.In h) (G : h.Ns mainGlobals mg) : QF K mg ("told", d_told) := by
  obtain ⟨fd, F⟩ := c.def_ 7 (d := h_told) rfl
  exact ⟨_, fd, ["n"], _, _, _, F, ⟨rfl, rfl, rfl, by decide +kernel, rfl, by decide +kernel, by decide +kernel⟩, rfl, He.glo_ok X G (c.fact 7 (f := .glo "told") rfl), FunD.bindsN F fun _ _ _ _ _ _ us hl => match us, hl with | [_], _ => rfl⟩
theorem q_raised (c : He.SaysD faH fnH K) (X : K.In h) (G : h.Ns mainGlobals mg) : QF K mg ("raised", d_raised) := by
  obtain ⟨fd, F⟩ := c.def_ 8 (d := h_raised) rfl
  exact ⟨_, fd, ["base", "k"], _, _, _, F, ⟨rfl, rfl, rfl, by decide +kernel, rfl, by decide +kernel, by decide +kernel⟩, rfl, He.glo_ok X G (c.fact 8 (f := .glo "raised") rfl), FunD.bindsN F fun _ _ _ _ _ _ us hl => match us, hl with | [_, _], _ => rfl⟩
theorem q_goes_away (c : He.SaysD faH fnH K) (X : K.In h) (G : h.Ns mainGlobals mg) : QF K mg ("goes_away", d_goes_away) := by
  obtain ⟨fd, F⟩ := c.def_ 9 (d := h_goes_away) rfl
  exact ⟨_, fd, ["a"], _, _, _, F, ⟨rfl, rfl, rfl, by decide +kernel, rfl, by decide +kernel, by decide +kernel⟩, rfl, He.glo_ok X G (c.fact 9 (f := .glo "goes_away") rfl), FunD.bindsN F fun _ _ _ _ _ _ us hl => match us, hl with | [_], _ => rfl⟩
theorem q_climbed (c : He.SaysD faH fnH K) (X : K.In h) (G : h.Ns mainGlobals mg) : QF K mg ("climbed", d_climbed) := by
  obtain ⟨fd, F⟩ := c.def_ 10 (d := h_climbed) rfl
  exact ⟨_, fd, ["exponent", "n"], _, _, _, F, ⟨rfl, rfl, rfl, by decide +kernel, rfl, by decide +kernel, by decide +kernel⟩, rfl, He.glo_ok X G (c.fact 10 (f := .glo "climbed") rfl), FunD.bindsN F fun _ _ _ _ _ _ us hl => match us, hl with | [_, _], _ => rfl⟩
theorem q_doubled (c : He.SaysD faH fnH K) (X : K.In h) (G : h.Ns mainGlobals mg) : QF K mg ("doubled", d_doubled) := by
  obtain ⟨fd, F⟩ := c.def_ 11 (d := h_doubled) rfl
  exact ⟨_, fd, ["n", "count"], _, _, _, F, ⟨rfl, rfl, rfl, by decide +kernel, rfl, by decide +kernel, by decide +kernel⟩, rfl, He.glo_ok X G (c.fact 11 (f := .glo "doubled") rfl), FunD.bindsN F fun _ _ _ _ _ _ us hl => match us, hl with | [_, _], _ => rfl⟩
theorem q_climbed_often (c : He.SaysD faH fnH K) (X : K.In h) (G : h.Ns mainGlobals mg) : QF K mg ("climbed_often", d_climbed_often) := by
  obtain ⟨fd, F⟩ := c.def_ 12 (d := h_climbed_often) rfl
  exact ⟨_, fd, ["exponent", "count", "n"], _, _, _, F, ⟨rfl, rfl, rfl, by decide +kernel, rfl, by decide +kernel, by decide +kernel⟩, rfl, He.glo_ok X G (c.fact 12 (f := .glo "climbed_often") rfl), FunD.bindsN F fun _ _ _ _ _ _ us hl => match us, hl with | [_, _, _], _ => rfl⟩
theorem q_stage (c : He.SaysD faH fnH K) (X : K.In h) (G : h.Ns mainGlobals mg) : QF K mg ("stage", d_stage) := by
  obtain ⟨fd, F⟩ := c.def_ 13 (d := h_stage) rfl
  exact ⟨_, fd, ["a", "n"], _, _, _, F, ⟨rfl, rfl, rfl, by decide +kernel, rfl, by decide +kernel, by decide +kernel⟩, rfl, He.glo_ok X G (c.fact 13 (f := .glo "stage") rfl), FunD.bindsN F fun _ _ _ _ _ _ us hl => match us, hl with | [_, _], _ => rfl⟩
theorem q__law_stream (c : He.SaysD faH fnH K) (X : K.In h) (G : h.Ns mainGlobals mg) : QF K mg ("_law_stream", d__law_stream) := by
  obtain ⟨fd, F⟩ := c.def_ 14 (d := h__law_stream) rfl
  exact ⟨_, fd, ["script"], _, _, _, F, ⟨rfl, rfl, rfl, by decide +kernel, rfl, by decide +kernel, by decide +kernel⟩, rfl, He.glo_ok X G (c.fact 14 (f := .glo "_law_stream") rfl), FunD.bindsN F fun _ _ _ _ _ _ us hl => match us, hl with | [_], _ => rfl⟩
theorem q__law_draw (c : He.SaysD faH fnH K) (X : K.In h) (G : h.Ns mainGlobals mg) : QF K mg ("_law_draw", d__law_draw) := by
  obtain ⟨fd, F⟩ := c.def_ 15 (d := h__law_draw) rfl
  exact ⟨_, fd, ["stream", "many"], _, _, _, F, ⟨rfl, rfl, rfl, by decide +kernel, rfl, by decide +kernel, by decide +kernel⟩, rfl, He.glo_ok X G (c.fact 15 (f := .glo "_law_draw") rfl), FunD.bindsN F fun _ _ _ _ _ _ us hl => match us, hl with | [_, _], _ => rfl⟩
theorem q__law_pick (c : He.SaysD faH fnH K) (X : K.In h) (G : h.Ns mainGlobals mg) : QF K mg ("_law_pick", d__law_pick) := by
  obtain ⟨fd, F⟩ := c.def_ 16 (d := h__law_pick) rfl
  exact ⟨_, fd, ["stream", "rows"], _, _, _, F, ⟨rfl, rfl, rfl, by decide +kernel, rfl, by decide +kernel, by decide +kernel⟩, rfl, He.glo_ok X G (c.fact 16 (f := .glo "_law_pick") rfl), FunD.bindsN F fun _ _ _ _ _ _ us hl => match us, hl with | [_, _], _ => rfl⟩
theorem q__law_ordinal (c : He.SaysD faH fnH K) (X : K.In h) (G : h.Ns mainGlobals mg) : QF K mg ("_law_ordinal", d__law_ordinal) := by
  obtain ⟨fd, F⟩ := c.def_ 17 (d := h__law_ordinal) rfl
  exact ⟨_, fd, ["stream", "depth"], _, _, _, F, ⟨rfl, rfl, rfl, by decide +kernel, rfl, by decide +kernel, by decide +kernel⟩, rfl, He.glo_ok X G (c.fact 17 (f := .glo "_law_ordinal") rfl), FunD.bindsN F fun _ _ _ _ _ _ us hl => match us, hl with | [_, _], _ => rfl⟩
theorem q__law_is_next (c : He.SaysD faH fnH K) (X : K.In h) (G : h.Ns mainGlobals mg) : QF K mg ("_law_is_next", d__law_is_next) := by
  obtain ⟨fd, F⟩ := c.def_ 18 (d := h__law_is_next) rfl
  exact ⟨_, fd, ["a"], _, _, _, F, ⟨rfl, rfl, rfl, by decide +kernel, rfl, by decide +kernel, by decide +kernel⟩, rfl, He.glo_ok X G (c.fact 18 (f := .glo "_law_is_next") rfl), FunD.bindsN F fun _ _ _ _ _ _ us hl => match us, hl with | [_], _ => rfl⟩
theorem q__law_less (c : He.SaysD faH fnH K) (X : K.In h) (G : h.Ns mainGlobals mg) : QF K mg ("_law_less", d__law_less) := by
  obtain ⟨fd, F⟩ := c.def_ 19 (d := h__law_less) rfl
  exact ⟨_, fd, ["a"], _, _, _, F, ⟨rfl, rfl, rfl, by decide +kernel, rfl, by decide +kernel, by decide +kernel⟩, rfl, He.glo_ok X G (c.fact 19 (f := .glo "_law_less") rfl), FunD.bindsN F fun _ _ _ _ _ _ us hl => match us, hl with | [_], _ => rfl⟩
theorem q__law_below (c : He.SaysD faH fnH K) (X : K.In h) (G : h.Ns mainGlobals mg) : QF K mg ("_law_below", d__law_below) := by
  obtain ⟨fd, F⟩ := c.def_ 20 (d := h__law_below) rfl
  exact ⟨_, fd, ["a", "n"], _, _, _, F, ⟨rfl, rfl, rfl, by decide +kernel, rfl, by decide +kernel, by decide +kernel⟩, rfl, He.glo_ok X G (c.fact 20 (f := .glo "_law_below") rfl), FunD.bindsN F fun _ _ _ _ _ _ us hl => match us, hl with | [_, _], _ => rfl⟩
theorem q__law_goes_away (c : He.SaysD faH fnH K) (X : K.In h) (G : h.Ns mainGlobals mg) : QF K mg ("_law_goes_away", d__law_goes_away) := by
  obtain ⟨fd, F⟩ := c.def_ 21 (d := h__law_goes_away) rfl
  exact ⟨_, fd, ["e"], _, _, _, F, ⟨rfl, rfl, rfl, by decide +kernel, rfl, by decide +kernel, by decide +kernel⟩, rfl, He.glo_ok X G (c.fact 21 (f := .glo "_law_goes_away") rfl), FunD.bindsN F fun _ _ _ _ _ _ us hl => match us, hl with | [_], _ => rfl⟩
theorem q__law_climb (c : He.SaysD faH fnH K) (X : K.In h) (G : h.Ns mainGlobals mg) : QF K mg ("_law_climb", d__law_climb) := by
  obtain ⟨fd, F⟩ := c.def_ 22 (d := h__law_climb) rfl
  exact ⟨_, fd, ["e", "n"], _, _, _, F, ⟨rfl, rfl, rfl, by decide +kernel, rfl, by decide +kernel, by decide +kernel⟩, rfl, He.glo_ok X G (c.fact 22 (f := .glo "_law_climb") rfl), FunD.bindsN F fun _ _ _ _ _ _ us hl => match us, hl with | [_, _], _ => rfl⟩
theorem q__law_doubled (c : He.SaysD faH fnH K) (X : K.In h) (G : h.Ns mainGlobals mg) : QF K mg ("_law_doubled", d__law_doubled) := by
  obtain ⟨fd, F⟩ := c.def_ 23 (d := h__law_doubled) rfl
  exact ⟨_, fd, ["n"], _, _, _, F, ⟨rfl, rfl, rfl, by decide +kernel, rfl, by decide +kernel, by decide +kernel⟩, rfl, He.glo_ok X G (c.fact 23 (f := .glo "_law_doubled") rfl), FunD.bindsN F fun _ _ _ _ _ _ us hl => match us, hl with | [_], _ => rfl⟩
theorem q__law_stage (c : He.SaysD faH fnH K) (X : K.In h) (G : h.Ns mainGlobals mg) : QF K mg ("_law_stage", d__law_stage) := by
  obtain ⟨fd, F⟩ := c.def_ 24 (d := h__law_stage) rfl
  exact ⟨_, fd, ["a", "n"], _, _, _, F, ⟨rfl, rfl, rfl, by decide +kernel, rfl, by decide +kernel, by decide +kernel⟩, rfl, He.glo_ok X G (c.fact 24 (f := .glo "_law_stage") rfl), FunD.bindsN F fun _ _ _ _ _ _ us hl => match us, hl with | [_, _], _ => rfl⟩
theorem q__law_told (c : He.SaysD faH fnH K) (X : K.In h) (G : h.Ns mainGlobals mg) : QF K mg ("_law_told", d__law_told) := by
  obtain ⟨fd, F⟩ := c.def_ 25 (d := h__law_told) rfl
  exact ⟨_, fd, ["a", "n"], _, _, _, F, ⟨rfl, rfl, rfl, by decide +kernel, rfl, by decide +kernel, by decide +kernel⟩, rfl, He.glo_ok X G (c.fact 25 (f := .glo "_law_told") rfl), FunD.bindsN F fun _ _ _ _ _ _ us hl => match us, hl with | [_, _], _ => rfl⟩
theorem q__law_counted (c : He.SaysD faH fnH K) (X : K.In h) (G : h.Ns mainGlobals mg) : QF K mg ("_law_counted", d__law_counted) := by
  obtain ⟨fd, F⟩ := c.def_ 26 (d := h__law_counted) rfl
  exact ⟨_, fd, ["a", "n"], _, _, _, F, ⟨rfl, rfl, rfl, by decide +kernel, rfl, by decide +kernel, by decide +kernel⟩, rfl, He.glo_ok X G (c.fact 26 (f := .glo "_law_counted") rfl), FunD.bindsN F fun _ _ _ _ _ _ us hl => match us, hl with | [_, _], _ => rfl⟩
theorem q_law (c : He.SaysD faH fnH K) (X : K.In h) (G : h.Ns mainGlobals mg) : QF K mg ("law", d_law) := by
  obtain ⟨fd, F⟩ := c.def_ 27 (d := h_law) rfl
  exact ⟨_, fd, ["script"], _, _, _, F, ⟨rfl, rfl, rfl, by decide +kernel, rfl, by decide +kernel, by decide +kernel⟩, rfl, He.glo_ok X G (c.fact 27 (f := .glo "law") rfl), FunD.bindsN F fun _ _ _ _ _ _ us hl => match us, hl with | [_], _ => rfl⟩
theorem q_tab (c : He.SaysD faH fnH K) (X : K.In h) (G : h.Ns mainGlobals mg) : ∀ p ∈ tab, QF K mg p := (allA (allA (allC (q_plus c X G) (allC (q_power c X G) (allC (q_is_next c X G) (allC (q_is_open c X G) (allC (q_shortened c X G) (allC (q_one_less c X G) (allC (q_below c X G) (allC (q_told c X G) (allC (q_raised c X G) (allC (q_goes_away c X G) allN)))))))))) (allC (q_climbed c X G) (allC (q_doubled c X G) (allC (q_climbed_often c X G) (allC (q_stage c X G) (allC (q__law_stream c X G) (allC (q__law_draw c X G) (allC (q__law_pick c X G) (allC (q__law_ordinal c X G) (allC (q__law_is_next c X G) (allC (q__law_less c X G) allN))))))))))) (allC (q__law_below c X G) (allC (q__law_goes_away c X G) (allC (q__law_climb c X G) (allC (q__law_doubled c X G) (allC (q__law_stage c X G) (allC (q__law_told c X G) (allC (q__law_counted c X G) (allC (q_law c X G) allN)))))))))
theorem i_MOST_STAGE (c : He.SaysD faH fnH K) (X : K.In h) (G : h.Ns mainGlobals mg) : QC K mg ("MOST_STAGE", (.int mostI)) := by
  obtain ⟨t, e⟩ := He.int_ok X G (c.fact 51 (f := .int "MOST_STAGE" mostI) rfl)
  exact ⟨_, .int mostI, e, ⟨t, rfl⟩, fun _ _ => .int _⟩
def cstB (K : PySem.W.Frag) : Bool := kD K (.tup [(.tup [(.tup []), (.int 1)])]) (.ref (He.ga K "ONE")) && kD K (.tup [(.tup [(.tup []), (.int 2)])]) (.ref (He.ga K "TWO")) && kD K (.tup [(.tup [(.tup []), (.int 3)])]) (.ref (He.ga K "THREE")) && kD K (.tup [(.tup [(.tup [(.tup [(.tup []), (.int 1)])]), (.int 1)])]) (.ref (He.ga K "OMEGA"))
theorem t_ONE (c : He.SaysD faH fnH K) (X : K.In h) (G : h.Ns mainGlobals mg) (e : cstB K = true) : QC K mg ("ONE", (.tup [(.tup [(.tup []), (.int 1)])])) := by
  unfold cstB at e
  simp only [Bool.and_eq_true] at e
  obtain ⟨u, h1, h2⟩ := kD_ok _ _ (e.1.1.1)
  exact ⟨_, u, He.glo_ok X G (c.fact 52 (f := .glo "ONE") rfl), h1, h2⟩
theorem t_TWO (c : He.SaysD faH fnH K) (X : K.In h) (G : h.Ns mainGlobals mg) (e : cstB K = true) : QC K mg ("TWO", (.tup [(.tup [(.tup []), (.int 2)])])) := by
  unfold cstB at e
  simp only [Bool.and_eq_true] at e
  obtain ⟨u, h1, h2⟩ := kD_ok _ _ (e.1.1.2)
  exact ⟨_, u, He.glo_ok X G (c.fact 53 (f := .glo "TWO") rfl), h1, h2⟩
theorem t_THREE (c : He.SaysD faH fnH K) (X : K.In h) (G : h.Ns mainGlobals mg) (e : cstB K = true) : QC K mg ("THREE", (.tup [(.tup [(.tup []), (.int 3)])])) := by
  unfold cstB at e
  simp only [Bool.and_eq_true] at e
  obtain ⟨u, h1, h2⟩ := kD_ok _ _ (e.1.2)
  exact ⟨_, u, He.glo_ok X G (c.fact 54 (f := .glo "THREE") rfl), h1, h2⟩
theorem t_OMEGA (c : He.SaysD faH fnH K) (X : K.In h) (G : h.Ns mainGlobals mg) (e : cstB K = true) : QC K mg ("OMEGA", (.tup [(.tup [(.tup [(.tup [(.tup []), (.int 1)])]), (.int 1)])])) := by
  unfold cstB at e
  simp only [Bool.and_eq_true] at e
  obtain ⟨u, h1, h2⟩ := kD_ok _ _ (e.2)
  exact ⟨_, u, He.glo_ok X G (c.fact 55 (f := .glo "OMEGA") rfl), h1, h2⟩
theorem q_cst (c : He.SaysD faH fnH K) (X : K.In h) (G : h.Ns mainGlobals mg) (e : cstB K = true) : ∀ p ∈ cst, QC K mg p := (allC (t_ONE c X G e) (allC (i_MOST_STAGE c X G) (allC (t_TWO c X G e) (allC (t_THREE c X G e) (allC (t_OMEGA c X G e) allN)))))
theorem q_blt (c : He.SaysD faH fnH K) (X : K.In h) (G : h.Ns mainGlobals mg) : ∀ x ∈ bltNames, mg x = none := (allC (He.free_ok X G (c.fact 30 (f := .free "len") rfl)) (allC (He.free_ok X G (c.fact 31 (f := .free "isinstance") rfl)) (allC (He.free_ok X G (c.fact 32 (f := .free "abs") rfl)) (allC (He.free_ok X G (c.fact 33 (f := .free "int") rfl)) (allC (He.free_ok X G (c.fact 34 (f := .free "str") rfl)) (allC (He.free_ok X G (c.fact 35 (f := .free "bool") rfl)) (allC (He.free_ok X G (c.fact 36 (f := .free "tuple") rfl)) (allC (He.free_ok X G (c.fact 37 (f := .free "list") rfl)) (allC (He.free_ok X G (c.fact 38 (f := .free "all") rfl)) (allC (He.free_ok X G (c.fact 39 (f := .free "any") rfl)) (allC (He.free_ok X G (c.fact 40 (f := .free "sum") rfl)) (allC (He.free_ok X G (c.fact 41 (f := .free "range") rfl)) (allC (He.free_ok X G (c.fact 42 (f := .free "enumerate") rfl)) (allC (He.free_ok X G (c.fact 43 (f := .free "reversed") rfl)) (allC (He.free_ok X G (c.fact 44 (f := .free "max") rfl)) (allC (He.free_ok X G (c.fact 45 (f := .free "min") rfl)) (allC (He.free_ok X G (c.fact 46 (f := .free "sorted") rfl)) (allC (He.free_ok X G (c.fact 47 (f := .free "repr") rfl)) (allC (He.free_ok X G (c.fact 48 (f := .free "divmod") rfl)) (allC (He.free_ok X G (c.fact 49 (f := .free "zip") rfl)) (allC (He.free_ok X G (c.fact 50 (f := .free "super") rfl)) allN)))))))))))))))))))))
theorem gl_GradatimError (c : He.SaysD faH fnH K) (X : K.In h) (G : h.Ns mainGlobals mg) : mg "GradatimError" = some (.ref (He.ga K "GradatimError")) := He.glo_ok X G (c.fact 28 (f := .glo "GradatimError") rfl)
theorem gl_Above (c : He.SaysD faH fnH K) (X : K.In h) (G : h.Ns mainGlobals mg) : mg "Above" = some (.ref (He.ga K "Above")) := He.glo_ok X G (c.fact 29 (f := .glo "Above") rfl)
theorem q_dom : ∀ f ∈ fnN, ∃ d, tab.lookup f = some d := by
  have e : fnN.all (fun f => (tab.lookup f).isSome) = true := by kernel_rfl
  intro f hf
  exact Option.isSome_iff_exists.mp (List.all_eq_true.mp e f hf)
theorem modH (c : He.SaysD faH fnH K) (X : K.In h) (G0 : h.Ns mainGlobals mg) (eC : cstB K = true) {P : Program} {w : World} {base : Heap} : ModH P w K mg base G tab :=
  ⟨fun f d e => q_tab c X G0 (f, d) (mem_lk e), q_dom, q_blt c X G0, fun x d e => q_cst c X G0 eC (x, d) (mem_lk e)⟩
end
abbrev lawI : Nat := 38
end K71


set_option Elab.async false
set_option linter.all false
set_option maxRecDepth 100000
set_option maxHeartbeats 4000000
namespace K71
open PySem hiding Env
open PySem.Spec PyProof.Rows L2 Mi
abbrev PR : Program := (PySem.Challenge.rw_gradatim_k71_whole_stages).prog
theorem raises_above {X : Cx} {mg : Str → Option Value} (x : ExF X.K mg) : Raises X (.ref (He.ga X.K "Above")) := L2.raises_own x.ex.hs x.ty
theorem mk_above {X : Cx} {W : WX} {R : Dn} {F : Fi} {C : CallT} (S : Snd G C R) (g : Gx X G C) (fit : Fit X F) (tk : L2N.Takes X W) (xf : ExF X.K X.mg) (x : Str) (p : PySem.Pos) (args : List Expr) (pos : PySem.Pos) (hx : isGl F.sc x = true) (hd : isDbg x = false) (hh : EI.has x args.length = true) : L2N.PMk X (.Call (.Name x p) args [] pos) (mkR X.K W EI x (aE R F args)) := by
  have hh : (decide (x = ("Above" : Str)) && args.length == 0) = true := hh
  rw [Bool.and_eq_true] at hh
  have ex : x = "Above" := of_decide_eq_true hh.1
  subst ex
  match args, hh.2 with
  | [], _ =>
  have hPM := L2N.pmk_own0 (X := X) (x := "Above") (p := p) (pos := pos) PySem.F.excBase_ValueError xf.xi xf.gA xf.kp (raises_above xf) (isGl_ok fit hx)
  intro pins s σ H Q I ⟨ρ, Gh, T', σ', w, er, pp⟩
  refine hPM pins s σ H Q I ?_
  have pp := pp [] ρ Gh H .refl w .nil
  obtain ⟨ρ1, G1, T1, ds, e, w1, rs, he, q⟩ := pp
  cases rs
  cases he
  exact q _ _ ρ1 G1 H .refl w1 ⟨rfl, rfl⟩
def exF (K : PySem.W.Frag) : Bool := decide (PySem.W.findIn K (.ref (He.ga K "Above")) "__getattribute__" = some (some (.builtin "BaseException.__getattribute__"))) && (decide (PySem.W.findIn K (.ref (He.ga K "Above")) "__getattr__" = some none) && (decide (PySem.W.subIn K (.ref (He.ga K "Above")) (.type "BaseException") = some true) && (PySem.W.hasDictIn K (He.ga K "Above") &&
  (decide (PySem.W.findIn K (.ref (He.ga K "Above")) "__class__" = some (some (.builtin "object.__class__"))) && (decide (PySem.W.specialIn K (.builtin "object.__class__") "__get__" = some (some (.builtin "getset_descriptor.__get__"))) && (decide (PySem.W.takesIn K (.builtin "object.__class__") = some true) && (decide (PySem.W.mroIn K (He.ga K "Above") (.type "object") = some true) &&
  (decide (PySem.W.kitOne K (.ref (He.ga K "Above")) (.ref (He.ga K "Above")) = some true) && (decide (PySem.W.exmOne K (.ref (He.ga K "Above")) (.ref (He.ga K "GradatimError")) = some true) &&
  (PySem.W.excIn K (He.ga K "Above") [.type "ValueError", .type "Exception", .type "BaseException", .type "object"] "ValueError.__new__" && (PySem.W.keepIn K (.ref (He.ga K "Above")) && decide (PySem.W.typeIn K (.ref (He.ga K "Above")) = some (.type "type")))))))))))))
def exI (K : PySem.W.Frag) : Bool := exF K && cstB K
def obI (_ : PySem.W.Frag) : Bool := true
abbrev Tell (K : PySem.W.Frag) : Prop := SaysL faH fnH obI true exI K
theorem exF_ok {K : PySem.W.Frag} {mg : Str → Option Value} {h : Heap} (c : He.SaysD faH fnH K) (X : K.In h) (G0 : h.Ns mainGlobals mg) (e : exF K = true) : ExF K mg := by
  unfold exF at e
  simp only [Bool.and_eq_true, decide_eq_true_eq] at e
  obtain ⟨h1, h2, h3, h4, h5, h6, h7, h8, h9, h10, h11, h12, h13⟩ := e
  exact ⟨gl_Above c X G0, gl_GradatimError c X G0, ⟨h1, h2, h3, h4, h5, h6, h7, h8⟩, h9, h10, h11, h12, h13⟩
theorem modX {K : PySem.W.Frag} {mg : Str → Option Value} {h base : Heap} {w : World} (c : Tell K) (X : K.In h) (G0 : h.Ns mainGlobals mg) : ModX PR w K mg base G EI U := by
  intro C N qual sc f cdv A outer s H E k hr nd gx
  have tk : L2N.Takes (cxOf (L2N.CX PR w) PR w K mg base N qual sc f cdv A outer s H E) (fun cls d _ H' => E cls d H') := L2N.takes_of (X := cxOf (L2N.CX PR w) PR w K mg base N qual sc f cdv A outer s H E) rfl rfl rfl rfl
  have hx := c.x
  unfold exI at hx
  rw [Bool.and_eq_true] at hx
  have xf := exF_ok c.d X G0 hx.1
  refine ⟨PassesOwn.leaving, fun R F x p args pos S fit h1 h2 h3 => mk_above S gx fit tk xf x p args pos h1 h2 h3, fun R F st m S fit hU => ?_⟩
  unfold U at hU
  cases ht : isTry st with
  | false => rw [ht] at hU; cases hU
  | true =>
    rw [ht] at hU
    by_cases hq : st = tryS ∧ F = F_told
    · have e : m = tryM R := by
        dsimp only at hU
        rw [if_pos hq] at hU
        exact (Option.some.inj hU).symm
      obtain ⟨rfl, rfl⟩ := hq
      subst e
      have hN : N = d__law_told.N := fit.N
      have hS : sc = d__law_told.sc := fit.sc
      subst hN hS
      exact ext_told S gx xf (q_blt c.d X G0)
    · dsimp only at hU
      rw [if_neg hq] at hU
      cases hU
/-! ### the law -/
theorem facts {K : PySem.W.Frag} {mg : Str → Option Value} {h : Heap} {w : World} {f : Addr} (X : K.In h) (G0 : h.Ns mainGlobals mg) (hfa : mg ("law" : Str) = some (.ref f)) (c : Tell K) :
    ∃ (fd : FuncData) (sp : Sp), (∀ (s : Shared) (v : Value), BindsTo s fd ⟨[v], []⟩ [("script", v)]) ∧ (∀ (H : Hp) (a : Addr) (ns : List Int), Only H → SqL K H a (ns.map V.int) → sp [.ref a] H (fun v _ => v = .bl true) fun _ _ _ => False) ∧
      ∀ base : Heap, K.In base → base.Ns mainGlobals mg → FnOk PR w K mg base CX0 92 f fd ["script"] sp := by
  obtain ⟨fd, Fd⟩ := c.d.def_ 27 (d := h_law) rfl
  have hm := He.glo_ok X G0 (c.d.fact 27 (f := .glo "law") rfl)
  have e := hfa.symm.trans hm
  cases e
  have b := FunD.bindsA (ps := ["script"]) Fd fun _ _ _ _ _ _ us hl => match us, hl with | [_], _ => rfl
  have hx := c.x
  unfold exI at hx
  rw [Bool.and_eq_true] at hx
  refine ⟨fd, fun vs H Q _ => spC K (cl 88) "law" vs H Q fun _ _ _ => False, fun s v => b s [v] rfl, fun H a ns hO hS => ?_, fun base _ _ => ?_⟩
  · have hR := c.seq hS
    have hfrz : ∃ o, H a = some (.frz o (.lst (ns.map V.int))) := by
      rcases hR with h1 | ⟨o, h1⟩
      · rcases hO a with z | ⟨o, xs, z⟩
        · rw [z] at h1; cases h1
        · rw [z] at h1; cases h1
      · exact ⟨o, h1⟩
    obtain ⟨o, ha⟩ := hfrz
    obtain ⟨T', el⟩ := law_ok 1 ns
    refine ⟨[a], fun _ => none, [.frz (iL ns)], [.obj 0], ⟨fun _ _ z => (nomatch z), rfl, fun n ob hn => ?_, List.nodup_cons.mpr ⟨by simp, List.nodup_nil⟩, fun _ _ => rfl⟩, .cons (.obj rfl) .nil, ?_⟩
    · cases n with
      | zero =>
        have : ob = .frz (iL ns) := by simpa using hn.symm
        subst this
        exact ⟨a, rfl, o, _, ha, Rps.ints⟩
      | succ n => simp at hn
    · show Post K _ _ _ _ _ _ _ (cl 88 "law" [.obj 0] [.frz (iL ns)])
      rw [el]
      intro v ρ' G' H' _ _ kv
      have kv : Rp K ρ' G' v (.bl true) := kv
      cases kv
      rfl
  · exact fn_nox (fn_one (M := fuelE) (L := fuelE) (modH (P := PR) (w := w) (base := base) c.d X G0 hx.2) (modX (base := base) (w := w) c X G0) 87 (f := "law") (d := d_law) rfl Fd ⟨rfl, rfl, rfl, by decide +kernel, rfl, by decide +kernel, by decide +kernel⟩ rfl)
end K71


set_option Elab.async false
set_option linter.all false
set_option maxRecDepth 100000
set_option maxHeartbeats 0
namespace K71
open PySem hiding Env
open PySem.Spec PyProof.Rows L2 Mi
abbrev RR : PySem.W.OpenRow := PySem.W.OpenLaw.row PySem.Challenge.rw_gradatim_k71_whole_stages
abbrev hk : PySem.W.Hook := hookL 6 faH fnH obI true exI
def obR (s : PySem.W.SharedT) : He.AlD × Bool × Bool := obsL 6 faH fnH obI exI (HandSHeadRun.getT s)
theorem obR_eq (s : PySem.W.SharedT) : obR s = hk.obs s.abs := obsL_eq (vb := true) (HandSHeadRun.getT_eq s)
theorem run (w : World) : HandSHeadRun.RunEq RR (PySem.W.view RR.prog [lawI]) hk obR 3000 looseH w := by
  intro os
  kernel_rfl
end K71
open PySem PySem.W PySem.Calls PyProof.Rows
theorem PySem.Challenge.cw_gradatim_k71_whole_stages_holds : PySem.Challenge.rw_gradatim_k71_whole_stages.Holds := by
  w_on; o_law
  refine HandSHeadRun.head_any (r := OpenLaw.row PySem.Challenge.rw_gradatim_k71_whole_stages) (q := view (OpenLaw.row PySem.Challenge.rw_gradatim_k71_whole_stages).prog [K71.lawI]) (H := K71.hk) (ob := K71.obR) (M := 3000) (loose := K71.looseH) (d := HandSHeadRun.topDef (OpenLaw.row PySem.Challenge.rw_gradatim_k71_whole_stages).prog K71.lawI) (kwd := []) K71.obR_eq
    (by kernel_rfl) (fun s => by kernel_rfl) K71.run (by kernel_rfl) (by kernel_rfl) (by kernel_rfl) (by rfl) (by first | assumption | decide +kernel) (by decide +kernel) ⟨rfl, rfl, rfl, rfl, rfl, by decide +kernel⟩ ?hw ?hc
  case hw => w_witness2
  case hc =>
    refine L2.walk_ofE (l := PySem.Challenge.rw_gradatim_k71_whole_stages) (n := 63) (k := 92) (x := "script") (CX := L2.CX0) rfl (by decide) (by kernel_rfl) ⟨rfl, by decide, by decide⟩ ?F (fun _ _ _ _ z => z)
    intro w mg fa h Y G hmg0
    obtain ⟨K, KX, c⟩ := Y
    have hmg : mg ("law" : PySem.Str) = some (.ref fa) := by
      have e : (HandSHeadRun.topDef (OpenLaw.row PySem.Challenge.rw_gradatim_k71_whole_stages).prog K71.lawI).name = ("law" : PySem.Str) := by kernel_rfl
      rw [← e]
      exact hmg0
    obtain ⟨fd, sp, hb, hs, hF⟩ := K71.facts (w := w) KX G hmg c
    exact ⟨K, fd, sp, KX, hb, fun H a ns hl hO hS => hs H a ns hO hS, hF⟩



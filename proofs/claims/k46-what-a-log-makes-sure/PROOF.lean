import PyProof.Rows.All
import Wide.All
import OpenK.AllK
import Wide.FinOn
import HandS.TupAny
import HandS.TupMul
import HandS.Style
import HandS.Text
import HandS.Deep
import HandS.ForMost
import HandS.WordsExc
import HandS.ExcValue
import HandS.ExcField
import HandS.IsInst
import HandS.Zip
import HandS.Walk
import HandS.TupLe
import HandS.Conv
import HandS.Defaults
import HandS.SortInts
import HandS.HeadEnd
import HandS.EndBits
import HandS.Head0
import HandS.Head1
import HandS.Head2
import HandS.HeadHook1
import HandS.HeadHook2
import HandS.Dict
import HandS.SetKeys
import HandS.More
import KE.KeyNested
import KE.KDictKeyed
import KE.LtData
import HandS.Wide
import KE.GoesMore
import HandS.TryOnly
import HandS.DictComp
import KE.KDictCopyH
import KE.KDictWalk
import HandS.ExcInit
import HandS.Zip0
import HandS.ListItems
import KE.KDictZip
import HandS.ExcIs
import PyProof.Rows.RuleN_isinstance
import HandS.TryMany
import PySem.Challenge.RW_lateposts_k46_what_a_log_makes_sure
set_option Elab.async false
set_option linter.all false
set_option maxRecDepth 100000
set_option maxHeartbeats 0
namespace Fw
open PySem PySem.Spec PyProof.Rows L2 HT
section
variable {prog : Program} {w : World} {A : Around} {E : Value → Shared → Prop} {s : Shared}
/-! ### t[::-1] -/
theorem adj_rev (n : Nat) : Builtin.Slice.sliceAdjust none none (-1) (n : Int) = ((n : Int) - 1, -1) := by
  unfold Builtin.Slice.sliceAdjust
  simp
theorem plc_rev (n : Nat) : Builtin.Slice.slicePlaces ((n : Int) - 1) (-1) (-1) = n := by
  unfold Builtin.Slice.slicePlaces
  simp
  first | omega | (split <;> omega)
theorem applied_rev {sl : Addr} {n : Nat} {t : Tok} {Q : Int × Int × Nat → Shared → Prop} (hs : s.heap.IsSliceOf sl .none .none (.int (-1) t)) (h : Q ((n : Int) - 1, -1, n) s) :
    wpAny (model prog w) A (Builtin.Slice.sliceApplied (.ref sl) (pure (n : Int))) Q E s := by
  obtain ⟨os, hos, hcs, hds⟩ := id hs
  unfold Builtin.Slice.sliceApplied Builtin.Slice.sliceFields
  refine wpAny_bind (wpAny_bind (wpAny_field hos hds (x := .none) rfl (wpAny_bind (wpAny_field hos hds (x := .none) rfl (wpAny_bind (wpAny_field hos hds (x := .int (-1) t) rfl (wpAny_pure ?_)))))))
  refine wpAny_bind (slicePart_int ?_)
  show wpAny _ _ (if ((-1 : Int) == 0) = true then _ else _) _ _ s
  rw [if_neg (by decide)]
  refine wpAny_bind (slicePart_none (wpAny_bind (slicePart_none (wpAny_bind (wpAny_pure ?_)))))
  show wpAny _ _ (match Builtin.Slice.sliceAdjust none none (-1) (n : Int) with | (lo, hi) => pure (lo, (-1 : Int), Builtin.Slice.slicePlaces lo hi (-1))) _ _ s
  rw [adj_rev n]
  show wpAny _ _ (pure ((n : Int) - 1, (-1 : Int), Builtin.Slice.slicePlaces ((n : Int) - 1) (-1) (-1))) _ _ s
  rw [plc_rev]
  exact wpAny_pure h
theorem pick_rev (xs : List Value) : ((List.range xs.toArray.size).filterMap fun (k : Nat) => xs.toArray[(((xs.toArray.size : Nat) : Int) - 1 + (k : Int) * (-1)).toNat]?).toArray = xs.reverse.toArray := by
  have e : ∀ m, m ≤ xs.length → ((List.range m).filterMap fun (k : Nat) => xs.toArray[(((xs.toArray.size : Nat) : Int) - 1 + (k : Int) * (-1)).toNat]?) = xs.reverse.take m := by
    intro m
    induction m with
    | zero => intro _; simp
    | succ m ih =>
      intro hm
      rw [List.range_succ, List.filterMap_append, ih (by omega), List.take_add_one]
      congr 1
      have h1 : (((xs.toArray.size : Nat) : Int) - 1 + (m : Int) * (-1)).toNat = xs.length - 1 - m := by simp; omega
      have h2 : xs.reverse[m]? = xs[xs.length - 1 - m]? := by rw [List.getElem?_reverse (by omega)]
      simp only [List.filterMap_cons, List.filterMap_nil, h1, h2]
      have h3 : xs.length - 1 - m < xs.length := by omega
      simp [h3]
  rw [List.size_toArray] at e ⊢
  rw [e _ (Nat.le_refl _), List.take_of_length_le (by simp)]
theorem getItem_tuple_rev {t sl : Addr} {items : List Value} {tk : Tok} {Q : Value → Shared → Prop} (ht : IsTup s.heap t items.toArray) (hs : s.heap.IsSliceOf sl .none .none (.int (-1) tk))
    (h : Q (.ref s.heap.objs.size) { s with heap := s.heap.push { cls := .type "tuple", data := .seq items.reverse.toArray } }) (hsz : items.length ≤ sizeLine) : wpAny (model prog w) A (getItem (.ref t) (.ref sl)) Q E s := by
  have hok : sizeOk (.seq items.reverse.toArray) := by
    show items.reverse.toArray.size ≤ sizeLine
    simpa using hsz
  obtain ⟨os, hos, hcs, hds⟩ := id hs
  have hT : s.TypeIs (.ref sl) "slice" := ⟨os, hos, hcs⟩
  unfold getItem
  try with_reducible refine wpAny_holding ?_
  first | refine wpAny_bind (wpAny_pure ?_) | skip
  refine wpAny_bind (wpAny_sequenceKey ht.typeIs (by decide) ?_)
  refine wpAny_bind (wpAny_callSpecial?_slot (name := Str.ofString "__getitem__") ht.typeIs PyProof.Rows.slot_tuple_getitem (wpAny_call_entry PyProof.Rows.slot_tuple_getitem ht.typeIs entry_tuple_getitem ?_ (args_tuple_getitem _ _)))
  show wpAny _ _ (Builtin.Tuple.tupleItemsOf (.ref t) >>= _) _ _ s
  refine wpAny_bind (tupleItemsOf_ ht (wpAny_bind (wpAny_typeOf hT ?_)))
  rw [if_pos (by decide)]
  refine wpAny_bind (applied_rev hs ?_)
  show wpAny _ _ (if (((items.toArray.size : Nat) : Int) - 1 == 0 && (-1 : Int) == 1 && items.toArray.size == items.toArray.size) = true then _ else _) _ _ s
  rw [if_neg (by simp), pick_rev]
  first
    | exact wpAny_bind (m := Builtin.Tuple.tupleExact _) (wpAny_newObj_type (wpAny_pure ⟨_, rfl, wpAny_pure h⟩) hok)
    | exact wpAny_bind (m := Builtin.Tuple.tupleExact _) (wpAny_newObj_type (wpAny_bind (wpAny_pure (wpAny_pure ⟨_, rfl, wpAny_pure h⟩))) hok)
    | exact wpAny_bind (wpAny_bind (m := Builtin.Tuple.tupleExact _) (wpAny_newObj_type (wpAny_pure (wpAny_pure ⟨_, rfl, wpAny_pure h⟩)) hok))
    | exact wpAny_bind (wpAny_bind (m := Builtin.Tuple.tupleExact _) (wpAny_newObj_type (wpAny_pure ⟨_, rfl, wpAny_pure h⟩) hok))
end
section
variable {X : Cx}
def tRevT (K : PySem.W.Frag) (te : TE) : TE := fun σ H Q => te σ H fun x H1 => ∃ a xs, x = .ref a ∧ ((SqL K H1 a xs ∧ ∀ p, H1 p = none → Q (.ref p) (upd H1 p (.lst xs.reverse))) ∨ (SqT K H1 a xs ∧ ∀ p, H1 p = none → Q (.ref p) (upd H1 p (.tup xs.reverse))))
theorem pe_rev {e : Expr} {te : TE} {k : Nat} {p1 p2 p3 pos : Pos} (he : PE X e te) : PE X (.Subscript e (.Slice none none (some (.UnaryOp .USub (.Constant (.int 1) k p1) p2)) p3) pos) (tRevT X.K te) := by
  refine ⟨fun pins s σ H Q I h => ?_⟩
  refine Subscript_ (thn (he.run pins s σ H _ I h) fun v s1 ⟨x, H1, I1, r1, q1⟩ => ?_)
  obtain ⟨a, xs, ex, q⟩ := q1
  subst ex
  cases r1
  have hst : PO X (some (.UnaryOp .USub (.Constant (.int 1) k p1) p2)) (tPart (tUn (rU fun i => .int (-i)) (tC (.int 1)))) := po_some (pe_un un_neg pe_int)
  refine wpAny_Slice (thn (po_none.run pins s1 σ H1 (fun o H2 => o = none ∧ H2 = H1) I1 ⟨rfl, rfl⟩) fun vl s2 ⟨l, H2, I2, pl, el, e2⟩ => ?_)
  subst el e2
  refine thn (po_none.run pins s2 σ H2 (fun o H3 => o = none ∧ H3 = H2) I2 ⟨rfl, rfl⟩) fun vu s3 ⟨u, H3, I3, pu, eu, e3⟩ => ?_
  subst eu e3
  refine thn (hst.run pins s3 σ H3 (fun o H4 => o = some (-1) ∧ H4 = H3) I3 ⟨1, rfl, -1, rfl, rfl, rfl⟩) fun vs s4 ⟨o, H4, I4, ps, eo, e4⟩ => ?_
  subst eo e4
  have I5 : Inv X pins σ H4 { s4 with heap := s4.heap.push { cls := .type "slice", data := .fields #[vl, vu, vs] } } := I4.kept (t' := s4.toks) fun b ob q => Heap.get?_push_of_some _ q
  show wpAny (model X.prog X.w) X.A (subscriptTail e (.Slice none none (some (.UnaryOp .USub (.Constant (.int 1) k p1) p2)) p3) (.ref a) (.ref s4.heap.objs.size)) (EP X pins σ Q) X.xe { s4 with heap := s4.heap.push { cls := .type "slice", data := .fields #[vl, vu, vs] } }
  rcases q with ⟨hx, q⟩ | ⟨hx, q⟩
  · obtain ⟨its, r, ht, hz⟩ := I5.list hx
    have hlen := r.length
    refine tail_any (ops := [.ref a, .ref s4.heap.objs.size]) ht.isList.typeIs (PySem.slot_list_getitem.lookup) ?_ (by with_unfolding_all rfl)
    refine wpAny_getItem_list_slice ht.isList (Heap.IsSliceOf.new _ vl vu vs) pl pu ps (by decide) ?_ (by rw [List.size_toArray]; omega)
    rw [PySem.W.krv_pick]
    refine ⟨.ref _, _, I5.laid (t' := s4.toks) (o := .lst xs.reverse) (fun b ob q => Heap.get?_push_of_some _ q) (Nat.le_refl _) ?_, rfl, q _ (I5.hok.fresh (Nat.le_refl _))⟩
    exact ⟨by rw [List.length_reverse]; exact hz, _, 0, r.reverse, Heap.get?_push_size _ rfl⟩
  · obtain ⟨its, r, ht, hz⟩ := I5.tuple hx
    have hlen := r.length
    cases pl; cases pu
    cases ps with
    | int i tk =>
    refine tail_any (ops := [.ref a, .ref s4.heap.objs.size]) ht.typeIs (PyProof.Rows.slot_tuple_getitem.lookup) ?_ (by with_unfolding_all rfl)
    refine getItem_tuple_rev ht (Heap.IsSliceOf.new _ _ _ _) ?_ (by omega)
    refine ⟨.ref _, _, I5.laid (t' := s4.toks) (o := .tup xs.reverse) (fun b ob q => Heap.get?_push_of_some _ q) (Nat.le_refl _) ?_, rfl, q _ (I5.hok.fresh (Nat.le_refl _))⟩
    exact ⟨by rw [List.length_reverse]; omega, _, r.reverse, IsTup.new _ _⟩
/-! ### () * n -/
theorem tuple_mul0 (l : Addr) (n : Nat) (dd : Option Addr) (sl : Array (Option Value)) (x : Int) (u : Tok) (c0 : (decide (x < -(2 ^ 63)) || decide (x ≥ 2 ^ 63)) = false) :
    Meets (Builtin.«tuple.__mul__» ⟨[.ref l, .int x u], []⟩) (fun _ R s => s.heap.get? l = some { cls := .type "tuple", dict := dd, data := .seq ([] : List Value).toArray n, slots := sl } ∧ R (.ok (.ret (Value.ref l))) s) :=
  .of_wp fun prog w A R s h => by
    obtain ⟨hp, g, d, tk, os⟩ := s
    obtain ⟨hl, h⟩ := h
    have f1 := AutoSeq1.idx_int
    wp_walk using wpAny_loadPart' hl
    repeat (first
      | (refine wpAny_ite_false (decide_eq_false (by rw [c0]; exact Bool.false_ne_true)) ?_; wp_walk using wpAny_loadPart' hl)
      | (refine wpAny_ite_true (decide_eq_true (by rfl)) ?_; wp_walk using wpAny_loadPart' hl))
    exact ⟨_, rfl, h⟩
def rRep0 (K : PySem.W.Frag) : R2 := fun x y H Q => ∃ l k, x = .ref l ∧ y = .int k ∧ SqT K H l [] ∧ -(2 ^ 63) ≤ k ∧ k < 2 ^ 63 ∧ Q (.ref l) H
theorem op_rep0 : OpR X (binaryOp .Mult) (rRep0 X.K) := by
  intro pins s σ H x y v u Q I rx ry h
  obtain ⟨l, k, rfl, rfl, hT, h1, h2, q⟩ := h
  cases rx
  obtain ⟨t, rfl⟩ := ry
  obtain ⟨its, r, ⟨⟨cls, dd, data, sl⟩, ho, hc, n, hd⟩, hs⟩ := I.tuple hT
  simp only at hc hd
  subst hc hd
  cases r
  have c0 : (decide (k < -(2 ^ 63)) || decide (k ≥ 2 ^ 63)) = false := by
    rw [decide_eq_false (by omega), decide_eq_false (by omega)] <;> rfl
  exact wpAny_binaryOp_repeat_ref (T := "tuple") (U := "int") (by decide) ⟨_, ho, rfl⟩ (fun s' => typeIs_int s' k t) noFill_tuple_mul F.fills_int_mul F.slot_int_rmul repeat_tuple F.slot_int_index.lookup
    (call_meets F.slot_int_rmul (typeIs_int s k t) F.entry_int_rmul (F.args_int_rmul_2 _ _) (int_rmul_tuple k t l _ n dd sl)
      ⟨ho, rfl, ⟨_, ho, rfl⟩, call_meets F.slot_tuple_mul ⟨_, ho, rfl⟩ F.entry_tuple_mul (F.args_tuple_mul_2 _ _) (tuple_mul0 l n dd sl k t c0) ⟨ho, ⟨.ref l, H, I, rfl, q⟩⟩⟩)
end
/-! ### t * 1, t * 0 -/
theorem tuple_mul1 (l : Addr) (items : Array Value) (n : Nat) (dd : Option Addr) (sl : Array (Option Value)) (u : Tok) :
    Meets (Builtin.«tuple.__mul__» ⟨[.ref l, .int 1 u], []⟩) (fun _ R s => s.heap.get? l = some { cls := .type "tuple", dict := dd, data := .seq items n, slots := sl } ∧ R (.ok (.ret (Value.ref l))) s) :=
  .of_wp fun prog w A R s h => by
    obtain ⟨hp, g, d, tk, os⟩ := s
    obtain ⟨hl, h⟩ := h
    have f1 := AutoSeq1.idx_int
    wp_walk using wpAny_loadPart' hl
    repeat (first
      | (refine wpAny_ite_true (decide_eq_true (by rw [show ((1 : Int) == 1) = true from rfl, Bool.or_true])) ?_; wp_walk using wpAny_loadPart' hl)
      | (refine wpAny_ite_true (decide_eq_true (by simp)) ?_; wp_walk using wpAny_loadPart' hl))
    exact ⟨_, rfl, h⟩
theorem tuple_mulN (l : Addr) (items : Array Value) (n : Nat) (dd : Option Addr) (sl : Array (Option Value)) (x : Int) (u : Tok) (c0 : (decide (x < -(2 ^ 63)) || decide (x ≥ 2 ^ 63)) = false) (c1 : (items.isEmpty || x == 1) = false) (c2 : (decide (x ≤ 0) || items.isEmpty) = true) :
    Meets (Builtin.«tuple.__mul__» ⟨[.ref l, .int x u], []⟩) (fun _ R s => s.heap.get? l = some { cls := .type "tuple", dict := dd, data := .seq items n, slots := sl } ∧
      R (.ok (.ret (Value.ref s.heap.objs.size))) { s with heap := s.heap.push { cls := Value.type "tuple", data := Data.seq #[] }, toks := s.toks }) :=
  .of_wp fun prog w A R s h => by
    obtain ⟨hp, g, d, tk, os⟩ := s
    obtain ⟨hl, h⟩ := h
    have f1 := AutoSeq1.idx_int
    wp_walk using wpAny_loadPart' hl
    repeat (first
      | (refine wpAny_ite_false (decide_eq_false (by rw [c0]; exact Bool.false_ne_true)) ?_; wp_walk using wpAny_loadPart' hl)
      | (refine wpAny_ite_false (decide_eq_false (by rw [c1]; exact Bool.false_ne_true)) ?_; wp_walk using wpAny_loadPart' hl)
      | (refine wpAny_ite_true (decide_eq_true (by rw [c2])) ?_; wp_walk using wpAny_loadPart' hl))
    exact ⟨_, rfl, h⟩
section
variable {X : Cx}
def rRepU (K : PySem.W.Frag) : R2 := fun x y H Q => ∃ l k xs, x = .ref l ∧ y = .int k ∧ SqT K H l xs ∧ xs ≠ [] ∧ 2 ≤ k ∧ k ≤ 1000000 ∧ k.toNat * xs.length ≤ 1000000 ∧ ∀ p, H p = none → Q (.ref p) (upd H p (.tup (List.replicate k.toNat xs).flatten))
theorem op_repU : OpR X (binaryOp .Mult) (rRepU X.K) := by
  intro pins s σ H x y v u Q I rx ry h
  obtain ⟨l, k, xs, rfl, rfl, hT, hne, h1, h2, hz, q⟩ := h
  cases rx
  obtain ⟨t, rfl⟩ := ry
  obtain ⟨its, r, ⟨⟨cls, dd, data, sl⟩, ho, hc, n, hd⟩, hs⟩ := I.tuple hT
  simp only at hc hd
  subst hc hd
  have hle : its.length = xs.length := r.length.symm
  have hn : its ≠ [] := fun e => hne (by
    rw [e] at hle
    exact List.eq_nil_of_length_eq_zero hle.symm)
  have hi : its.toArray.isEmpty = false := by
    cases its with
    | nil => exact absurd rfl hn
    | cons a b => rfl
  have hsz0 : its.toArray.size = xs.length := by rw [List.size_toArray, hle]
  have hm : ((its.toArray.size : Nat) : Int) * k ≤ 1000000 := by
    rw [hsz0]
    have e1 : k = ((k.toNat : Nat) : Int) := by omega
    rw [e1, ← Int.natCast_mul, Nat.mul_comm]
    exact Int.ofNat_le.mpr hz
  have flen : (List.replicate k.toNat its).flatten.length ≤ sizeLine := by
    rw [PyProof.Rows.lm_len_rep_flat, hle, sizeLine_eq]
    omega
  have c0 : (decide (k < -(2 ^ 63)) || decide (k ≥ 2 ^ 63)) = false := by
    rw [decide_eq_false (by omega), decide_eq_false (by omega)] <;> rfl
  have c1 : (its.toArray.isEmpty || k == 1) = false := by
    rw [hi, Bool.false_or]
    exact beq_eq_false_iff_ne.mpr (by omega)
  have c2 : (decide (k ≤ 0) || its.toArray.isEmpty) = false := by
    rw [hi, Bool.or_false]
    exact decide_eq_false (by omega)
  have c4 : Builtin.Tuple.tupleTooMany (((its.toArray.size : Nat) : Int) * k) = false := by
    unfold Builtin.Tuple.tupleTooMany
    rw [sizeLine_eq]
    exact decide_eq_false (by omega)
  refine wpAny_binaryOp_repeat_ref (T := "tuple") (U := "int") (by decide) ⟨_, ho, rfl⟩ (fun s' => typeIs_int s' k t) noFill_tuple_mul F.fills_int_mul F.slot_int_rmul repeat_tuple F.slot_int_index.lookup
    (call_meets F.slot_int_rmul (typeIs_int s k t) F.entry_int_rmul (F.args_int_rmul_2 _ _) (int_rmul_tuple k t l its.toArray n dd sl)
      ⟨ho, rfl, ⟨_, ho, rfl⟩, call_meets F.slot_tuple_mul ⟨_, ho, rfl⟩ F.entry_tuple_mul (F.args_tuple_mul_2 _ _) (tuple_mulW l its.toArray n dd sl k t c0 c1 c2 (by omega) c4 (by rw [size_rep, List.size_toArray]; exact flen)) ⟨ho, ?_⟩⟩)
  rw [size_rep]
  refine ⟨.ref s.heap.objs.size, _, I.laid (t' := s.toks) (o := .tup (List.replicate k.toNat xs).flatten) (fun b ob q => Heap.get?_push_of_some _ q) (Nat.le_refl _) ?_, rfl, q _ (I.hok.fresh (Nat.le_refl _))⟩
  exact ⟨by rw [PyProof.Rows.lm_len_rep_flat, sizeLine_eq]; omega, _, r.rep k.toNat, IsTup.new _ _⟩
def rRepS (K : PySem.W.Frag) : R2 := fun x y H Q => ∃ l k xs, x = .ref l ∧ y = .int k ∧ SqT K H l xs ∧ xs ≠ [] ∧ ((k = 1 ∧ Q (.ref l) H) ∨ (-(2 ^ 63) ≤ k ∧ k ≤ 0 ∧ ∀ p, H p = none → Q (.ref p) (upd H p (.tup []))))
theorem op_repS : OpR X (binaryOp .Mult) (rRepS X.K) := by
  intro pins s σ H x y v u Q I rx ry h
  obtain ⟨l, k, xs, rfl, rfl, hT, hne, h⟩ := h
  cases rx
  obtain ⟨t, rfl⟩ := ry
  obtain ⟨its, r, ⟨⟨cls, dd, data, sl⟩, ho, hc, n, hd⟩, hs⟩ := I.tuple hT
  simp only at hc hd
  subst hc hd
  have hle : its.length = xs.length := r.length.symm
  have hi : its.toArray.isEmpty = false := by
    cases its with
    | nil => exact absurd (List.eq_nil_of_length_eq_zero hle.symm) hne
    | cons a b => rfl
  rcases h with ⟨rfl, q⟩ | ⟨h1, h2, q⟩
  · exact wpAny_binaryOp_repeat_ref (T := "tuple") (U := "int") (by decide) ⟨_, ho, rfl⟩ (fun s' => typeIs_int s' 1 t) noFill_tuple_mul F.fills_int_mul F.slot_int_rmul repeat_tuple F.slot_int_index.lookup
      (call_meets F.slot_int_rmul (typeIs_int s 1 t) F.entry_int_rmul (F.args_int_rmul_2 _ _) (int_rmul_tuple 1 t l its.toArray n dd sl)
        ⟨ho, rfl, ⟨_, ho, rfl⟩, call_meets F.slot_tuple_mul ⟨_, ho, rfl⟩ F.entry_tuple_mul (F.args_tuple_mul_2 _ _) (tuple_mul1 l its.toArray n dd sl t) ⟨ho, ⟨.ref l, H, I, rfl, q⟩⟩⟩)
  · have c0 : (decide (k < -(2 ^ 63)) || decide (k ≥ 2 ^ 63)) = false := by
      rw [decide_eq_false (by omega), decide_eq_false (by omega)] <;> rfl
    have c1 : (its.toArray.isEmpty || k == 1) = false := by
      rw [hi, Bool.false_or]
      exact beq_eq_false_iff_ne.mpr (by omega)
    have c2 : (decide (k ≤ 0) || its.toArray.isEmpty) = true := by rw [decide_eq_true h2]; rfl
    refine wpAny_binaryOp_repeat_ref (T := "tuple") (U := "int") (by decide) ⟨_, ho, rfl⟩ (fun s' => typeIs_int s' k t) noFill_tuple_mul F.fills_int_mul F.slot_int_rmul repeat_tuple F.slot_int_index.lookup
      (call_meets F.slot_int_rmul (typeIs_int s k t) F.entry_int_rmul (F.args_int_rmul_2 _ _) (int_rmul_tuple k t l its.toArray n dd sl)
        ⟨ho, rfl, ⟨_, ho, rfl⟩, call_meets F.slot_tuple_mul ⟨_, ho, rfl⟩ F.entry_tuple_mul (F.args_tuple_mul_2 _ _) (tuple_mulN l its.toArray n dd sl k t c0 c1 c2) ⟨ho, ?_⟩⟩)
    refine ⟨.ref s.heap.objs.size, _, I.laid (t' := s.toks) (o := .tup []) (fun b ob q => Heap.get?_push_of_some _ q) (Nat.le_refl _) ?_, rfl, q _ (I.hok.fresh (Nat.le_refl _))⟩
    exact ⟨by simp, [], .nil, IsTup.new _ _⟩
end
end Fw
namespace Fw
open PySem

/-! ## A. pure data, its operations -/
inductive D where
  | non | bl (b : Bool) | int (i : Int) | str (x : Str) | tup (xs : List D) | lst (xs : List D) | dct (t : Bool) (ks vs : List D) | ref (n : Nat) | scr (ns : List Int) | ins (c : Str) (ns : List Str) (fs : List D)
  deriving Inhabited

mutual
def D.py : D → PyData
  | .non => .none
  | .bl b => .bool b
  | .int i => .int i
  | .str x => .str x
  | .tup xs => .tuple (D.pys xs)
  | .lst xs => .list (D.pys xs)
  | .dct _ ks vs => .dict ((D.pys ks).zip (D.pys vs))
  | .ref _ => .none
  | .scr _ => .none
  | .ins _ _ _ => .none
def D.pys : List D → List PyData
  | [] => []
  | x :: xs => x.py :: D.pys xs
end
mutual
/-- no ref, no dict within -/
def D.dat : D → Bool
  | .non | .bl _ | .int _ => true
  | .str x => PyData.strOk x
  | .tup xs | .lst xs => D.dats xs
  | .dct _ _ _ | .ref _ | .scr _ | .ins _ _ _ => false
def D.dats : List D → Bool
  | [] => true
  | x :: xs => x.dat && D.dats xs
end
/-- greatest size of a thing made -/
abbrev lim : Nat := 1000000

/-- may be compared by == -/
def eqOk : D → D → Bool
  | .str _, .str _ => true
  | a, b => a.dat && b.dat && decide (min a.py.depth b.py.depth ≤ 64)
def D.eqv (a b : D) : Bool := PyData.eqv a.py b.py

inductive Ty where
  | int | bool | str | tuple | list | dict
  deriving DecidableEq
def Ty.name : Ty → String
  | .int => "int" | .bool => "bool" | .str => "str" | .tuple => "tuple" | .list => "list" | .dict => "dict"

/-! keys of dicts -/
mutual
def D.nk : D → Option NestedKey
  | .non => some .none
  | .bl b => some (.num (if b then 1 else 0))
  | .int i => some (.num i)
  | .str x => some (.text x)
  | .tup xs => match D.nks xs with
    | some ks => some (.tup ks)
    | none => none
  | .lst _ | .dct _ _ _ | .ref _ | .scr _ | .ins _ _ _ => none
def D.nks : List D → Option (List NestedKey)
  | [] => some []
  | x :: xs => match x.nk, D.nks xs with
    | some k, some ks => some (k :: ks)
    | _, _ => none
end
/-- a key of a dict: t, a tuple; otherwise an int, a text -/
def keyOk : Bool → D → Bool
  | true, .tup xs => match (D.tup xs).nk with
    | some k => decide (k.depth ≤ 8)
    | none => false
  | false, .int _ => true
  | false, .str _ => true
  | _, _ => false
def keq (a b : D) : Bool := match a.nk, b.nk with
  | some x, some y => NestedKey.beq x y
  | _, _ => false
def hasK (ks : List D) (x : D) : Bool := ks.any fun k => keq k x
def getK : List D → List D → D → Option D
  | k :: ks, v :: vs, x => if keq k x then some v else getK ks vs x
  | _, _, _ => none
def replV : List D → List D → D → D → List D
  | k :: ks, v :: vs, x, y => (if keq k x then y else v) :: replV ks vs x y
  | _, _, _, _ => []
def putKs (ks : List D) (x : D) : List D := if hasK ks x then ks else ks ++ [x]
def putVs (ks vs : List D) (x y : D) : List D := if hasK ks x then replV ks vs x y else vs ++ [y]
/-- a thing of one's own -/
inductive Oo where
  | lst (xs : List D)
  | dic (t : Bool) (ks vs : List D)
def Oo.fz : Oo → D
  | .lst xs => .lst xs
  | .dic t ks vs => .dct t ks vs

/-! sorted ints, ints each once -/
def insI (x : Int) : List Int → List Int
  | [] => [x]
  | y :: ys => if x ≤ y then x :: y :: ys else y :: insI x ys
def srtI : List Int → List Int
  | [] => []
  | x :: xs => insI x (srtI xs)
def addI (l : List Int) (x : Int) : List Int := if x ∈ l then l else l ++ [x]
def onceI (xs : List Int) : List Int := xs.foldl addI []

/-! the store of shared objects -/
inductive MO where
  | lst (xs : List D)
abbrev S := List MO
inductive R (α : Type) where
  | ok (a : α) (s : S)
  | exn (x : D) (s : S)
  | no
def R.bind {α β : Type} (r : R α) (f : α → S → R β) : R β := match r with
  | .ok a s => f a s
  | .exn x s => .exn x s
  | .no => .no
@[simp] theorem R.bind_ok {α β : Type} (a : α) (s : S) (f : α → S → R β) : (R.ok a s).bind f = f a s := rfl
theorem R.bind_ok_iff {α β : Type} {r : R α} {f : α → S → R β} {b : β} {s' : S} (h : r.bind f = .ok b s') : ∃ a s, r = .ok a s ∧ f a s = .ok b s' := by
  cases r with
  | ok a s => exact ⟨a, s, rfl, h⟩
  | exn x s => cases h
  | no => cases h
def lift {α : Type} (o : Option α) (s : S) : R α := match o with
  | some a => .ok a s
  | none => .no
theorem lift_ok {α : Type} {o : Option α} {s s' : S} {a : α} (h : lift o s = .ok a s') : o = some a ∧ s' = s := by
  cases o with
  | none => cases h
  | some b => cases h; exact ⟨rfl, rfl⟩
def guardB (b : Bool) {α : Type} (o : Option α) : Option α := if b then o else none
theorem guardB_some {b : Bool} {α : Type} {o : Option α} {a : α} (h : guardB b o = some a) : b = true ∧ o = some a := by
  unfold guardB at h
  cases b with
  | true => exact ⟨rfl, by simpa using h⟩
  | false => simp at h
@[simp] theorem guardB_true {α : Type} (o : Option α) : guardB true o = o := rfl

def mulOk (i j : Int) : Bool := decide (-(2 ^ 64) < i ∧ i < 2 ^ 64) || decide (-(2 ^ 64) < j ∧ j < 2 ^ 64) || decide (i.natAbs.log2 + j.natAbs.log2 < 1000000)
def binop : Operator → D → D → Option D
  | .Add, .int i, .int j => some (.int (i + j))
  | .Add, .str x, .str y => guardB (decide (x.length + y.length ≤ lim)) (some (.str (x ++ y)))
  | .Add, .tup xs, .tup ys => guardB (decide (xs.length + ys.length ≤ lim)) (some (.tup (xs ++ ys)))
  | .Sub, .int i, .int j => some (.int (i - j))
  | .Mult, .tup xs, .int k => guardB (xs.isEmpty && decide (-(2 ^ 63) ≤ k ∧ k < 2 ^ 63) || decide (-(2 ^ 63) ≤ k ∧ k ≤ 1000000 ∧ k.toNat * xs.length ≤ 1000000)) (some (.tup (List.replicate k.toNat xs).flatten))
  | .Mult, .int i, .int j => guardB (mulOk i j) (some (.int (i * j)))
  | .Mult, .str x, .int j => guardB (decide (-1000 ≤ j ∧ j ≤ 1000000 ∧ x.length * j.toNat ≤ 1000000)) (some (.str (Txt.mul x j)))
  | .FloorDiv, .int i, .int j => guardB (decide (0 < j ∧ j < 1073741824)) (some (.int (i / j)))
  | .Mod, .int i, .int j => guardB (decide (0 < j)) (some (.int (i % j)))
  | .Pow, .int i, .int j => guardB (decide (0 ≤ j ∧ j ≤ 1000000 ∧ i.natAbs < 2 ^ 64) || decide (0 ≤ j ∧ (Builtin.Int.intBits i : Int) * j ≤ 2 ^ 27)) (some (.int (i ^ j.toNat)))
  | _, _, _ => none

def D.items : D → Option (List D)
  | .tup xs => some xs
  | .lst xs => some xs
  | _ => none
/-- what a for goes through: a text too, sign by sign -/
def D.itemsS : D → Option (List D)
  | .str x => guardB (decide (x.length ≤ lim)) (some (x.cps.toList.map fun c => .str ⟨#[c]⟩))
  | .tup xs => some xs
  | .lst xs => some xs
  | _ => none
/-- list(d) -/
def D.listed : D → Option (List D)
  | .tup xs => some xs
  | .lst xs => some xs
  | .dct t ks _ => guardB (t && decide (ks.length ≤ lim)) (some ks)
  | _ => none
def D.isNon : D → Bool
  | .non => true
  | _ => false
def intsD : List D → Option (List Int)
  | [] => some []
  | .int b :: r => (intsD r).map (b :: ·)
  | _ => none
/-- < of nested tuples, place by place of one kind -/
def ltNest (xs ys : List D) : Option Bool := guardB ((D.tup xs).dat && (D.tup ys).dat && PySem.W.alike (D.tup xs).py (D.tup ys).py && decide (min (D.tup xs).py.depth (D.tup ys).py.depth ≤ 64)) (some (PySem.W.dataLt (D.tup xs).py (D.tup ys).py))
def ltInts (xs ys : List D) : Option Bool := match intsD xs, intsD ys with
  | some a, some b => some (HT.lexLt a b)
  | _, _ => ltNest xs ys
def signD (x : Str) : Option Nat := match x.cps.toList with
  | [c] => some c
  | _ => none
def cmpop : CmpOp → D → D → Option Bool
  | .Eq, .tup xs, .tup [] => some xs.isEmpty
  | .NotEq, .tup xs, .tup [] => some !xs.isEmpty
  | .Eq, .lst (_ :: _), .lst [] => some false
  | .NotEq, .lst (_ :: _), .lst [] => some true
  | .Eq, a, b => guardB (eqOk a b) (some (a.eqv b))
  | .NotEq, a, b => guardB (eqOk a b) (some (!a.eqv b))
  | .Lt, .int i, .int j => some (decide (i < j))
  | .Lt, .tup xs, .tup ys => ltInts xs ys
  | .LtE, .int i, .int j => some (decide (i ≤ j))
  | .Gt, .int i, .int j => some (decide (j < i))
  | .GtE, .int i, .int j => some (decide (j ≤ i))
  | .Is, a, .non => some a.isNon
  | .IsNot, a, .non => some (!a.isNon)
  | .Is, .bl a, .bl b => some (decide (a = b))
  | .IsNot, .bl a, .bl b => some (!decide (a = b))
  | .In, a, .tup xs => guardB (eqOk a (.tup xs)) (some (xs.any fun z => z.eqv a))
  | .In, a, .lst xs => guardB (eqOk a (.lst xs)) (some (xs.any fun z => z.eqv a))
  | .NotIn, a, .tup xs => guardB (eqOk a (.tup xs)) (some (!xs.any fun z => z.eqv a))
  | .NotIn, a, .lst xs => guardB (eqOk a (.lst xs)) (some (!xs.any fun z => z.eqv a))
  | .In, a, .dct t ks _ => guardB (keyOk t a) (some (hasK ks a))
  | .NotIn, a, .dct t ks _ => guardB (keyOk t a) (some (!hasK ks a))
  | .In, .str x, .str z => (signD x).map fun c => decide (c ∈ z.cps.toList)
  | .NotIn, .str x, .str z => (signD x).map fun c => !decide (c ∈ z.cps.toList)
  | _, _, _ => none
def unop : UnaryOp → D → Option D
  | .USub, .int i => some (.int (-i))
  | _, _ => none
def truth : D → Option Bool
  | .bl b => some b
  | .non => some false
  | .int i => some (i != 0)
  | .tup xs => some (!xs.isEmpty)
  | .lst xs => some (!xs.isEmpty)
  | _ => none
def subD : D → D → Option D
  | .tup xs, .int i => L2.atI xs i
  | .lst xs, .int i => L2.atI xs i
  | .dct t ks vs, x => guardB (keyOk t x) (getK ks vs x)
  | .str z, .int i => guardB (decide (z.length ≤ lim)) ((L2.atI z.cps.toList i).map fun c => .str ⟨#[c]⟩)
  | _, _ => none
def cutD {α : Type} (xs : List α) (lo hi : Option Int) : List α := (xs.drop (HT.sIx xs.length 0 lo)).take (HT.sIx xs.length xs.length hi - HT.sIx xs.length 0 lo)
def sliceD : D → Option Int → Option Int → Option D
  | .tup xs, lo, hi => some (.tup (cutD xs lo hi))
  | .lst xs, lo, hi => some (.lst (cutD xs lo hi))
  | .scr ns, lo, hi => guardB (decide (ns.length ≤ lim)) (some (.lst (cutD (ns.map D.int) lo hi)))
  | .str x, lo, hi => guardB (decide (x.length ≤ lim)) (some (.str (L2.cutS x lo hi)))
  | _, _, _ => none
def revD : D → Option D
  | .tup xs => some (.tup xs.reverse)
  | .lst xs => some (.lst xs.reverse)
  | _ => none
def upperD : D → Option D
  | .str x => guardB (decide (x.length ≤ lim)) (some (.str (Txt.upper x)))
  | _ => none
def findD (y : D) : List D → Option Nat
  | [] => none
  | x :: xs => if x.eqv y then some 0 else (findD y xs).map (· + 1)
def indexD : D → D → Option D
  | .lst xs, y => guardB (D.dats xs && y.dat && decide ((D.lst xs).py.depth ≤ 64) && decide (y.py.depth ≤ 64)) ((findD y xs).map fun i => D.int (i : Nat))
  | _, _ => none
def tyD (s : S) : D → Option Ty
  | .non => none
  | .bl _ => some .bool
  | .int _ => some .int
  | .str _ => some .str
  | .tup _ => some .tuple
  | .lst _ => some .list
  | .dct _ _ _ => some .dict
  | .scr _ => some .list
  | .ins _ _ _ => none
  | .ref n => match s[n]? with
    | some (.lst _) => some .list
    | none => none
def isTy : Option Ty → Ty → Bool
  | none, _ => false
  | some .bool, .int => true
  | some a, b => decide (a = b)
def isiD (s : S) (d : D) (ts : List Ty) : Bool := ts.any (isTy (tyD s d))

/-! built-in calls by values -/
inductive Bi where
  | len | abs | int | tuple | repr | any | all | sum | min2 | str
  deriving DecidableEq
def Bi.name : Bi → String
  | .len => "len" | .abs => "abs" | .int => "int" | .tuple => "tuple" | .repr => "repr" | .any => "any" | .all => "all" | .sum => "sum" | .min2 => "min" | .str => "str"
def lsetD : D → Option D
  | .lst xs => match intsD xs with
    | some ns => guardB (decide (ns.length ≤ 4000)) (some (.int ((onceI ns).length : Nat)))
    | none => none
  | _ => none
def sortedD : D → Option (List D)
  | .lst xs => (intsD xs).map fun ns => (srtI ns).map D.int
  | _ => none
def bools : List D → Option (List Bool)
  | [] => some []
  | .bl b :: r => (bools r).map (b :: ·)
  | _ => none
mutual
def D.shw : D → Bool
  | .ref _ => false
  | .scr _ => false
  | .ins _ _ _ => false
  | .non | .bl _ | .str _ => true
  | .int i => decide (i.natAbs.log2 < 1920)
  | .tup xs | .lst xs => D.shws xs
  | .dct t ks vs => !t && ks.isEmpty && vs.isEmpty
def D.shws : List D → Bool
  | [] => true
  | x :: xs => x.shw && D.shws xs
end
def reprD (d : D) : Option D := guardB (d.shw && decide (d.py.depth ≤ 64) && decide (d.py.shown.length ≤ 16000000)) (some (.str d.py.shown))
def bi : Bi → List D → Option D
  | .len, [.tup xs] => some (.int xs.length)
  | .len, [.lst xs] => some (.int xs.length)
  | .len, [.dct false ks _] => some (.int ks.length)
  | .abs, [.int i] => some (.int (if i < 0 then -i else i))
  | .int, [.int i] => some (.int i)
  | .int, [.bl b] => some (.int (if b then 1 else 0))
  | .tuple, [.lst xs] => some (.tup xs)
  | .tuple, [.tup xs] => some (.tup xs)
  | .repr, [d] => reprD d
  | .any, [.lst xs] => (bools xs).map fun bs => .bl (bs.any id)
  | .all, [.lst xs] => (bools xs).map fun bs => .bl (bs.all id)
  | .sum, [.lst xs] => (intsD xs).map fun ns => .int ns.sum
  | .min2, [.int i, .int j] => some (.int (if j < i then j else i))
  | .str, [.lst xs] => reprD (.lst xs)
  | .str, [.int i] => guardB (decide (i.natAbs.log2 < 1920)) (some (.str (Str.ofString (toString i))))
  | .len, [.str x] => guardB (decide (x.length ≤ lim)) (some (.int x.length))
  | .int, [.str x] => guardB (decide (x.length ≤ 640)) ((intText? x).map .int)
  | _, _ => none

/-! texts -/
def strsD : List D → Option (List Str)
  | [] => some []
  | .str x :: r => (strsD r).map (x :: ·)
  | _ => none
def joinD : D → D → Option D
  | .str a, .lst xs => match strsD xs with
    | some ys => guardB (decide ((ys.map (·.length)).sum + ys.length * a.length ≤ 16000000)) (some (.str (Txt.join a ys)))
    | none => none
  | _, _ => none
def splitD : D → D → Option (List D)
  | .str a, .str b => guardB (!(b.length == 0) && decide (a.length + 2 ≤ lim) && decide ((Txt.split a b).length ≤ lim)) (some ((Txt.split a b).map D.str))
  | _, _ => none
def partiD : D → D → Option D
  | .str a, .str b => guardB (!(b.length == 0) && decide (a.length ≤ lim)) (some (.tup [.str (Txt.partition a b).1, .str (Txt.partition a b).2.1, .str (Txt.partition a b).2.2]))
  | _, _ => none
/-- an attribute -/
def lookD : List Str → List D → Str → Option D
  | n :: ns, d :: ds, f => if n = f then some d else lookD ns ds f
  | _, _, _ => none
def attD : D → Str → Option D
  | .ins _ ns fs, f => lookD ns fs f
  | _, _ => none
def isInsD (c m : Str) : D → Bool
  | .ins c' ns _ => decide (c' = c) && !decide (m ∈ ns)
  | _ => false
/-- list(d.values()) -/
def D.valued : D → Option (List D)
  | .dct t _ vs => guardB (t && decide (vs.length ≤ lim)) (some vs)
  | _ => none

/-! ## B. the guide: a small text beside Python's, and what it computes -/
inductive Sl where
  | val (d : D)
  | obj (o : Oo)
abbrev Sl.own (xs : List D) : Sl := .obj (.lst xs)
abbrev Env := List (Option Sl)
def getV (env : Env) (i : Nat) : Option D := match env[i]? with
  | some (some (.val d)) => some d
  | _ => none
def getW (env : Env) (i : Nat) : Option D := match env[i]? with
  | some (some (.val d)) => some d
  | some (some (.obj o)) => some o.fz
  | _ => none
def getO (env : Env) (i : Nat) : Option (List D) := match env[i]? with
  | some (some (.obj (.lst xs))) => some xs
  | _ => none
mutual
inductive Tg where
  | nm (i : Nat)
  | tup (ts : Tgs)
inductive Tgs where
  | nil
  | cons (t : Tg) (ts : Tgs)
end
mutual
def Tg.put : Tg → D → Env → Option Env
  | .nm i, d, env => some (env.set i (some (.val d)))
  | .tup ts, d, env => match d with
    | .tup ds => ts.puts ds env
    | .lst ds => ts.puts ds env
    | _ => none
def Tgs.puts : Tgs → List D → Env → Option Env
  | .nil, ds, env => match ds with
    | [] => some env
    | _ => none
  | .cons t ts, ds, env => match ds with
    | d :: r => (t.put d env).bind fun env1 => ts.puts r env1
    | [] => none
end
def wipeE (env : Env) : List Nat → Env
  | [] => env
  | v :: vs => (wipeE env vs).set v none

mutual
inductive E where
  | nm (i : Nat)
  | pk (i : Nat)
  | int (n : Int) | bl (b : Bool) | non | str (x : Str)
  | glob (j : Nat)
  | tup (es : Es)
  | dict0
  | frz (f : F)
  | bin (o : Operator) (a b : E)
  | un (o : UnaryOp) (a : E)
  | cmp (o : CmpOp) (a b : E)
  | chain (o o' : CmpOp) (a b c : E)
  | and (es : Es) | or (es : Es) | not (a : E)
  | ite (t : T) (a b : E)
  | call (f : Nat) (es : Es)
  | callK (f : Nat) (es : Es) (e : E)
  | bi (b : Bi) (es : Es)
  | isi (a : E) (ts : List Ty)
  | sub (a b : E)
  | slice (a : E) (lo hi : Eo)
  | shr (f : F)
  | join (a b : E) | parti (a b : E)
  | rev (a : E) | upper (a : E) | index (a b : E) | lset (a : E) | tupR (a b : E)
  | dcomp (u : Bool) (g : Tg) (it : I) (t : Ts) (key val : E) (vs : List Nat)
  | att (a : E) (f : Str)
  | new (c : Str) (ns : List Str) (es : Es)
  | meth (f : Nat) (c m : Str) (a : E)
inductive Eo where
  | no
  | so (e : E)
inductive Es where
  | nil
  | cons (e : E) (es : Es)
inductive T where
  | val (e : E)
  | cmp (o : CmpOp) (a b : E)
  | chain (o o' : CmpOp) (a b c : E)
  | and (ts : Ts) | or (ts : Ts) | not (t : T)
inductive Ts where
  | nil
  | cons (t : T) (ts : Ts)
inductive I where
  | seq (e : E) | range1 (e : E) | range2 (a b : E) | enum (e : E) | zip (a b : E)
inductive F where
  | disp (es : Es)
  | comp (g : Tg) (it : I) (t : Ts) (elt : E) (vs : List Nat)
  | list (e : E)
  | listR (a b : E) | listR1 (a : E)
  | cat (a b : E)
  | cut (a : E) (lo hi : Eo)
  | rep (a b : E)
  | sorted (a : E)
  | vals (a : E)
  | listz (a b : E)
  | split (a b : E)
end
/-- a part of a tuple that is stored name by name: a list of its own, a value -/
inductive Pc where
  | o (f : F)
  | v (e : E)
  | d0 (t : Bool)
  | d1 (t : Bool) (k v : E)
/-- what an except suite tells of the error that it holds: a field, a text -/
inductive Hx where
  | fld (f : Str)
  | str (x : Str)
  /-- a if isinstance(e, m) else b, where it is -/
  | isT (m a b : Str)
inductive Hb where
  | one (h : Hx)
  | list (hs : List Hx)
/-- an except clause: its name's slot (if it has one), its class, which errors it takes, what it returns -/
structure Cl where
  i : Nat
  nm : Bool
  hc : Str
  xm : List (Str × Bool)
  h : Hb
/-- where the value of a call that stands as a statement goes -/
inductive Xt where
  | drop
  | set (g : Tg)
  | ret
  /-- return ["x", f(..)] -/
  | retL (x : Str)
mutual
inductive C where
  | rais (cn f : Str) (e : E)
  | rais0 (cn : Str)
  | trym (b : Cs) (cl : List Cl)
  | xcl (t : Xt) (f : Nat) (es : Es)
  | tryx (b : Cs) (i : Nat) (hc : Str) (xm : List (Str × Bool)) (h : Hb)
  | par (is : List Nat) (ps : List Pc)
  | expr (e : E)
  | set (g : Tg) (e : E)
  | own (i : Nat) (f : F)
  | dic (i : Nat) (t : Bool)
  | frz (i : Nat)
  | app (i : Nat) (e : E)
  | ext (i : Nat) (e : E)
  | pop (i k : Nat)
  | setpop (j f i k : Nat)
  | store (i : Nat) (j : E) (e : E)
  | sdf (i : Nat) (j : E) (e : E)
  | st2 (i : Nat) (j1 j2 e1 e2 : E)
  | aug (i : Nat) (o : Operator) (e : E)
  | ret (e : E)
  | retN
  | pass
  | brk
  | cont
  | raise
  | ifs (t : T) (a b : Cs)
  | fors (g : Tg) (it : I) (b : Cs)
  | whiles (t : T) (b : Cs)
inductive Cs where
  | nil
  | cons (c : C) (cs : Cs)
end
inductive Fl where
  | next (env : Env) | ret (d : D) | brk (env : Env) | cont (env : Env) | exn (x : D) (env : Env)

/-- what leaves an expression ends the run: exceptions are told by statements alone -/
def R.stop {α : Type} (r : R α) : R α := match r with
  | .ok a s => .ok a s
  | _ => .no
def compL (put : D → Option Env) (t : Env → S → R Bool) (e : Env → S → R D) : List D → S → R (List D)
  | [], s => .ok [] s
  | d :: ds, s => match put d with
    | none => .no
    | some env => (t env s).bind fun b s => if b then (e env s).bind fun x s => (compL put t e ds s).bind fun xs s => .ok (x :: xs) s else compL put t e ds s
/-- pairs put into a dict one by one -/
def dcompL (u : Bool) (put : D → Option Env) (t : Env → S → R Bool) (ek ev : Env → S → R D) : List D → List D → List D → S → R (List D × List D)
  | [], ks, vs, s => .ok (ks, vs) s
  | d :: ds, ks, vs, s => match put d with
    | none => .no
    | some env => (t env s).bind fun b s => if b then (ek env s).bind fun x s => (ev env s).bind fun y s => if keyOk u x && decide (ks.length < lim) then dcompL u put t ek ev ds (putKs ks x) (putVs ks vs x y) s else .no else dcompL u put t ek ev ds ks vs s
def subS (s : S) : D → D → Option D
  | .ref n, .int i => match s[n]? with
    | some (.lst xs) => L2.atI xs i
    | none => none
  | x, y => subD x y
def rngD (a b : Int) : List D := (List.range (b - a).toNat).map fun i => D.int (a + (i : Nat))
def small62 (a : Int) : Bool := decide (-(2 ^ 62) ≤ a ∧ a < 2 ^ 62)
@[irreducible] def range2D : D → D → Option (List D)
  | .int a, .int b => guardB (small62 a && small62 b && decide ((b - a).toNat ≤ lim)) (some (rngD a b))
  | _, _ => none
def enumD (xs : List D) : List D := (List.range xs.length).zipWith (fun i x => D.tup [.int (i : Nat), x]) xs
def zipD (xs ys : List D) : List D := xs.zipWith (fun x y => D.tup [x, y]) ys
/-- list(zip(x, y)) of two tuples of one length -/
def lzipR (x y : D) (s : S) : R (List D) := match x, y with
  | .tup xs, .tup ys => if xs.length = ys.length then .ok (zipD xs ys) s else .no
  | _, _ => .no
def repL (xs : List D) (k : Int) : List D := (List.replicate k.toNat xs).flatten
def intOf : D → Option Int
  | .int i => some i
  | _ => none
def lstOf : D → Option (List D)
  | .lst xs => some xs
  | _ => none

section
variable (gl : List D) (call : Nat → List D → S → R D) (W : Nat)
mutual
def evE : E → Env → S → R D
  | .nm i, env, s => lift (getV env i) s
  | .pk i, env, s => lift (getW env i) s
  | .int n, _, s => .ok (.int n) s
  | .bl b, _, s => .ok (.bl b) s
  | .non, _, s => .ok .non s
  | .str x, _, s => .ok (.str x) s
  | .glob j, _, s => lift gl[j]? s
  | .tup es, env, s => (evEs es env s).bind fun ds s => .ok (.tup ds) s
  | .dict0, _, s => .ok (.dct false [] []) s
  | .frz f, env, s => (evF f env s).bind fun ds s => .ok (.lst ds) s
  | .bin o a b, env, s => (evE a env s).bind fun x s => (evE b env s).bind fun y s => lift (binop o x y) s
  | .un o a, env, s => (evE a env s).bind fun x s => lift (unop o x) s
  | .cmp o a b, env, s => (evE a env s).bind fun x s => (evE b env s).bind fun y s => lift ((cmpop o x y).map D.bl) s
  | .chain o o' a b c, env, s => (evE a env s).bind fun x s => (evE b env s).bind fun y s => (lift (cmpop o x y) s).bind fun k s =>
      if k then (evE c env s).bind fun z s => lift ((cmpop o' y z).map D.bl) s else .ok (.bl false) s
  | .and es, env, s => evAnd es env s
  | .or es, env, s => evOr es env s
  | .not a, env, s => (evE a env s).bind fun x s => match x with
    | .bl b => .ok (.bl (!b)) s
    | _ => .no
  | .ite t a b, env, s => (evT t env s).bind fun k s => if k then evE a env s else evE b env s
  | .call f es, env, s => (evEs es env s).bind fun ds s => call f ds s
  | .callK f es e, env, s => (evEs es env s).bind fun ds s => (evE e env s).bind fun x s => call f (ds ++ [x]) s
  | .bi b es, env, s => (evEs es env s).bind fun ds s => lift (bi b ds) s
  | .isi a ts, env, s => (evE a env s).bind fun x s => .ok (.bl (isiD s x ts)) s
  | .sub a b, env, s => (evE a env s).bind fun x s => (evE b env s).bind fun y s => lift (subS s x y) s
  | .slice a lo hi, env, s => (evE a env s).bind fun x s => (evO lo env s).bind fun l s => (evO hi env s).bind fun h s => lift (sliceD x l h) s
  | .shr f, env, s => (evF f env s).bind fun ds s => .ok (.ref s.length) (s ++ [.lst ds])
  | .rev a, env, s => (evE a env s).bind fun x s => lift (revD x) s
  | .upper a, env, s => (evE a env s).bind fun x s => lift (upperD x) s
  | .join a b, env, s => (evE a env s).bind fun x s => (evE b env s).bind fun y s => lift (joinD x y) s
  | .parti a b, env, s => (evE a env s).bind fun x s => (evE b env s).bind fun y s => lift (partiD x y) s
  | .index a b, env, s => (evE a env s).bind fun x s => (evE b env s).bind fun y s => lift (indexD x y) s
  | .lset a, env, s => (evE a env s).bind fun x s => lift (lsetD x) s
  | .tupR a b, env, s => (evE a env s).bind fun x s => (evE b env s).bind fun y s => lift ((range2D x y).map D.tup) s
  | .dcomp u g it t key val vs, env, s => (evI it env s).bind fun items s => (dcompL u (fun d => g.put d (wipeE env vs)) (evTs true t) (evE key) (evE val) items [] [] s).bind fun p s => .ok (.dct u p.1 p.2) s
  | .att a f, env, s => (evE a env s).bind fun x s => lift (attD x f) s
  | .new c ns es, env, s => (evEs es env s).bind fun ds s => if ds.length = ns.length then .ok (.ins c ns ds) s else .no
  | .meth f c m a, env, s => (evE a env s).bind fun x s => if isInsD c m x then call f [x] s else .no
def evO : Eo → Env → S → R (Option Int)
  | .no, _, s => .ok none s
  | .so e, env, s => (evE e env s).bind fun x s => (lift (intOf x) s).bind fun i s => .ok (some i) s
def evEs : Es → Env → S → R (List D)
  | .nil, _, s => .ok [] s
  | .cons e es, env, s => (evE e env s).bind fun x s => (evEs es env s).bind fun xs s => .ok (x :: xs) s
def evAnd : Es → Env → S → R D
  | .nil, _, _ => .no
  | .cons e .nil, env, s => evE e env s
  | .cons e (.cons e2 es), env, s => (evE e env s).bind fun x s => match x with
    | .bl true => evAnd (.cons e2 es) env s
    | .bl false => .ok (.bl false) s
    | _ => .no
def evOr : Es → Env → S → R D
  | .nil, _, _ => .no
  | .cons e .nil, env, s => evE e env s
  | .cons e (.cons e2 es), env, s => (evE e env s).bind fun x s => match x with
    | .bl false => evOr (.cons e2 es) env s
    | .bl true => .ok (.bl true) s
    | _ => .no
def evT : T → Env → S → R Bool
  | .val e, env, s => (evE e env s).bind fun x s => lift (truth x) s
  | .cmp o a b, env, s => (evE a env s).bind fun x s => (evE b env s).bind fun y s => lift (cmpop o x y) s
  | .chain o o' a b c, env, s => (evE a env s).bind fun x s => (evE b env s).bind fun y s => (lift (cmpop o x y) s).bind fun k s =>
      if k then (evE c env s).bind fun z s => lift (cmpop o' y z) s else .ok false s
  | .and ts, env, s => evTs true ts env s
  | .or ts, env, s => evTs false ts env s
  | .not t, env, s => (evT t env s).bind fun b s => .ok (!b) s
/-- all of them (k = true), one of them (k = false) -/
def evTs (k : Bool) : Ts → Env → S → R Bool
  | .nil, _, s => .ok k s
  | .cons t ts, env, s => (evT t env s).bind fun b s => if b = k then evTs k ts env s else .ok b s
def evI : I → Env → S → R (List D)
  | .seq e, env, s => (evE e env s).bind fun x s => lift x.itemsS s
  | .range1 e, env, s => (evE e env s).bind fun x s => lift (range2D (.int 0) x) s
  | .range2 a b, env, s => (evE a env s).bind fun x s => (evE b env s).bind fun y s => lift (range2D x y) s
  | .enum e, env, s => (evE e env s).bind fun x s => lift (x.items.map enumD) s
  | .zip a b, env, s => (evE a env s).bind fun x s => (evE b env s).bind fun y s => match x, y with
    | .lst xs, .lst ys => .ok (zipD xs ys) s
    | .tup xs, .tup ys => .ok (zipD xs ys) s
    | _, _ => .no
def evF : F → Env → S → R (List D)
  | .disp es, env, s => evEs es env s
  | .comp g it t elt vs, env, s => (evI it env s).bind fun items s => compL (fun d => g.put d (wipeE env vs)) (evTs true t) (evE elt) items s
  | .list e, env, s => (evE e env s).bind fun x s => lift x.listed s
  | .listR a b, env, s => (evE a env s).bind fun x s => (evE b env s).bind fun y s => lift (range2D x y) s
  | .listR1 b, env, s => (evE b env s).bind fun y s => lift (range2D (.int 0) y) s
  | .cat a b, env, s => (evE a env s).bind fun x s => (evE b env s).bind fun y s => match x, y with
    | .lst xs, .lst ys => lift (guardB (decide (xs.length + ys.length ≤ lim)) (some (xs ++ ys))) s
    | _, _ => .no
  | .cut a lo hi, env, s => (evE a env s).bind fun x s => (evO lo env s).bind fun l s => (evO hi env s).bind fun h s => (lift (lstOf x) s).bind fun xs s => .ok (cutD xs l h) s
  | .rep a b, env, s => (evE a env s).bind fun x s => (evE b env s).bind fun y s => match x, y with
    | .lst xs, .int k => lift (guardB (decide (-(2 ^ 63) ≤ k ∧ k < 2 ^ 63 ∧ xs.length * k.toNat ≤ lim)) (some (repL xs k))) s
    | _, _ => .no
  | .sorted a, env, s => (evE a env s).bind fun x s => lift (sortedD x) s
  | .vals a, env, s => (evE a env s).bind fun x s => lift x.valued s
  | .listz a b, env, s => (evE a env s).bind fun x s => (evE b env s).bind fun y s => lzipR x y s
  | .split a b, env, s => (evE a env s).bind fun x s => (evE b env s).bind fun y s => lift (splitD x y) s
end
def forL (put : D → Env → Option Env) (body : Env → S → R Fl) : List D → Env → S → R Fl
  | [], env, s => .ok (.next env) s
  | d :: ds, env, s => match put d env with
    | none => .no
    | some env => (body env s).bind fun f s => match f with
      | .next env => forL put body ds env s
      | .cont env => forL put body ds env s
      | .brk env => .ok (.next env) s
      | .ret x => .ok (.ret x) s
      | .exn x env => .ok (.exn x env) s
def whileL (t : Env → S → R Bool) (body : Env → S → R Fl) : Nat → Env → S → R Fl
  | 0, _, _ => .no
  | n + 1, env, s => (t env s).bind fun b s => if b then (body env s).bind fun f s => match f with
      | .next env => whileL t body n env s
      | .cont env => whileL t body n env s
      | .brk env => .ok (.next env) s
      | .ret x => .ok (.ret x) s
      | .exn x env => .ok (.exn x env) s
    else .ok (.next env) s
def storeS (env : Env) (s : S) (i : Nat) (j v : D) : R Fl := match env[i]?, j with
  | some (some (.obj (.lst xs))), .int k => (match L2.ixN xs.length k with
    | some m => .ok (.next (env.set i (some (.own (xs.set m v))))) s
    | none => .no)
  | some (some (.obj (.dic t ks vs))), j => if keyOk t j && decide (ks.length < lim) then .ok (.next (env.set i (some (.obj (.dic t (putKs ks j) (putVs ks vs j v)))))) s else .no
  | some (some (.val (.ref n))), .int k => (match s[n]? with
    | some (.lst xs) => (match L2.ixN xs.length k with
      | some m => .ok (.next env) (s.set n (.lst (xs.set m v)))
      | none => .no)
    | none => .no)
  | _, _ => .no
def evPs : List Pc → Env → S → R (List Sl)
  | [], _, s => .ok [] s
  | .o f :: r, env, s => (evF gl call f env s).bind fun xs s => (evPs r env s).bind fun ys s => .ok (.own xs :: ys) s
  | .v e :: r, env, s => (evE gl call e env s).bind fun x s => (evPs r env s).bind fun ys s => .ok (.val x :: ys) s
  | .d0 t :: r, env, s => (evPs r env s).bind fun ys s => .ok (.obj (.dic t [] []) :: ys) s
  | .d1 t k v :: r, env, s => (evE gl call k env s).bind fun x s => (evE gl call v env s).bind fun y s => if keyOk t x then (evPs r env s).bind fun ys s => .ok (.obj (.dic t [x] [y]) :: ys) s else .no
def sdfS (env : Env) (s : S) (i : Nat) (j v : D) : R Fl := match env[i]? with
  | some (some (.obj (.dic false ks vs))) => if keyOk false j && decide (ks.length < lim) then (if hasK ks j then .ok (.next env) s else .ok (.next (env.set i (some (.obj (.dic false (putKs ks j) (putVs ks vs j v)))))) s) else .no
  | _ => .no
def setAll {α : Type} (env : List (Option α)) : List Nat → List α → List (Option α)
  | i :: is, x :: xs => setAll (env.set i (some x)) is xs
  | _, _ => env
def evHx (y : D) (cn : Str) : Hx → Option D
  | .fld f => (match y with
    | .ins c ns fs => if c = cn then lookD ns fs f else none
    | _ => none)
  | .str x => some (.str x)
  | .isT _ a _ => (match y with
    | .ins c _ _ => if c = cn then some (.str a) else none
    | _ => none)
def evHxs (y : D) (cn : Str) : List Hx → Option (List D)
  | [] => some []
  | h :: hs => (evHx y cn h).bind fun d => (evHxs y cn hs).bind fun ds => some (d :: ds)
def evHb (y : D) (cn : Str) : Hb → Option D
  | .one h => evHx y cn h
  | .list hs => (evHxs y cn hs).map D.lst
/-- an exception that meets a clause -/
def tryR (i : Nat) (r : R Fl) (xm : Str → Option Bool) (hnd : D → Option D) : R Fl := match r with
  | .ok (.exn (.ins cn ns fs) env) s => (match xm cn with
    | some true => (match guardB (decide (i < env.length)) (hnd (.ins cn ns fs)) with
      | some d => .ok (.ret d) s
      | none => .no)
    | some false => .ok (.exn (.ins cn ns fs) env) s
    | none => .no)
  | .ok (.exn _ _) _ => .no
  | r => r
/-- the clauses one behind another -/
def clsR (cn : Str) (ns : List Str) (fs : List D) (env : Env) (s : S) : List Cl → R Fl
  | [] => .ok (.exn (.ins cn ns fs) env) s
  | k :: r => (match k.xm.lookup cn with
    | some true => (match guardB (!k.nm || decide (k.i < env.length)) (evHb (.ins cn ns fs) k.hc k.h) with
      | some d => .ok (.ret d) s
      | none => .no)
    | some false => clsR cn ns fs env s r
    | none => .no)
def trysR (r : R Fl) (cl : List Cl) : R Fl := match r with
  | .ok (.exn (.ins cn ns fs) env) s => clsR cn ns fs env s cl
  | .ok (.exn _ _) _ => .no
  | r => r
/-- what comes of a call that stands as a statement -/
def xres (r : R D) (env : Env) (f : D → S → R Fl) : R Fl := match r with
  | .ok d s => f d s
  | .exn x s => .ok (.exn x env) s
  | .no => .no
mutual
def evC : C → Env → S → R Fl
  | .rais cn f e, env, s => (evE gl call e env s).bind fun d s => .ok (.exn (.ins cn [f] [d]) env) s
  | .rais0 cn, env, s => .ok (.exn (.ins cn [] []) env) s
  | .trym b cl, env, s => trysR (evCs b env s) cl
  | .xcl t f es, env, s => xres ((evEs gl call es env s).stop.bind fun ds s => call f ds s) env fun d s => (match t with
    | .drop => .ok (.next env) s
    | .set g => (lift (g.put d env) s).bind fun env s => .ok (.next env) s
    | .ret => .ok (.ret d) s
    | .retL x => .ok (.ret (.lst [.str x, d])) s)
  | .tryx b i hc xm h, env, s => tryR i (evCs b env s) (fun cn => xm.lookup cn) fun y => evHb y hc h
  | .par is ps, env, s => (evPs gl call ps env s).bind fun sls s => .ok (.next (setAll env is sls)) s
  | .expr e, env, s => (evE gl call e env s).bind fun _ s => .ok (.next env) s
  | .set g e, env, s => (evE gl call e env s).bind fun x s => (lift (g.put x env) s).bind fun env s => .ok (.next env) s
  | .own i f, env, s => (evF gl call f env s).bind fun xs s => .ok (.next (env.set i (some (.own xs)))) s
  | .dic i t, env, s => .ok (.next (env.set i (some (.obj (.dic t [] []))))) s
  | .frz i, env, s => match env[i]? with
    | some (some (.obj o)) => .ok (.next (env.set i (some (.val o.fz)))) s
    | some (some (.val _)) => .ok (.next env) s
    | _ => .no
  | .app i e, env, s => (evE gl call e env s).bind fun x s => (lift (getO env i) s).bind fun xs s =>
      if xs.length < lim then .ok (.next (env.set i (some (.own (xs ++ [x]))))) s else .no
  | .ext i e, env, s => (evE gl call e env s).bind fun x s => (lift (getO env i) s).bind fun xs s => (lift (lstOf x) s).bind fun ys s =>
      if xs.length + ys.length ≤ lim then .ok (.next (env.set i (some (.own (xs ++ ys))))) s else .no
  | .pop i k, env, s => (lift (getO env i) s).bind fun xs s => if k < xs.length then .ok (.next (env.set i (some (.own (xs.eraseIdx k))))) s else .no
  | .setpop j f i k, env, s => (lift (getO env i) s).bind fun xs s => (lift xs[k]? s).bind fun y s => (call f [y] s).bind fun d s => .ok (.next ((env.set i (some (.own (xs.eraseIdx k)))).set j (some (.val d)))) s
  | .store i j e, env, s => (evE gl call e env s).bind fun v s => (evE gl call j env s).bind fun k s => storeS env s i k v
  | .sdf i j e, env, s => (evE gl call j env s).bind fun k s => (evE gl call e env s).bind fun v s => sdfS env s i k v
  | .st2 i j1 j2 e1 e2, env, s => (evE gl call e1 env s).bind fun x s => (evE gl call e2 env s).bind fun y s => (evE gl call j1 env s).bind fun k s => (storeS env s i k x).bind fun f s => match f with
    | .next env => (evE gl call j2 env s).bind fun k s => storeS env s i k y
    | _ => .no
  | .aug i o e, env, s => (lift (getV env i) s).bind fun x s => (evE gl call e env s).bind fun y s => match o, x, y with
    | .Add, .int a, .int b => .ok (.next (env.set i (some (.val (.int (a + b)))))) s
    | _, _, _ => .no
  | .ret e, env, s => (evE gl call e env s).bind fun x s => .ok (.ret x) s
  | .retN, _, s => .ok (.ret .non) s
  | .pass, env, s => .ok (.next env) s
  | .brk, env, s => .ok (.brk env) s
  | .cont, env, s => .ok (.cont env) s
  | .raise, _, _ => .no
  | .ifs t a b, env, s => (evT gl call t env s).bind fun k s => if k then evCs a env s else evCs b env s
  | .fors g it b, env, s => (evI gl call it env s).bind fun items s => forL g.put (evCs b) items env s
  | .whiles t b, env, s => whileL (evT gl call t) (evCs b) W env s
def evCs : Cs → Env → S → R Fl
  | .nil, env, s => .ok (.next env) s
  | .cons c cs, env, s => (evC c env s).bind fun f s => match f with
    | .next env => evCs cs env s
    | f => .ok f s
end
end
/-- a def: how many names, how many parameters, its body -/
structure Fn where
  name : Str
  nn : Nat
  np : Nat
  body : Cs
/-- a program: its defs, its constants by name -/
structure Pg where
  fns : List Fn
  gn : List Str
  gl : List D
  bn : List Str
  W : Nat
  kw : Nat → Option (Str × D) := fun _ => none
  /-- methods: the class, the name -/
  ms : Nat → Option (Str × Str) := fun _ => none
  /-- classes: the name, the fields as they are set -/
  cs : List (Str × List Str) := []
  /-- error classes of one field -/
  es : List (Str × Str) := []
  /-- an error's class, an except's class, whether it is taken -/
  xm : List (Str × Str × Bool) := []
  /-- error classes without a field -/
  e0 : List Str := []
def startE (nn : Nat) (ds : List D) : Env := ds.map (fun d => some (Sl.val d)) ++ List.replicate (nn - ds.length) none
def outF : Fl → S → R D
  | .ret d, s => .ok d s
  | .next _, s => .ok .non s
  | .exn x _, s => .exn x s
  | _, _ => .no
def callN (pg : Pg) : Nat → Nat → List D → S → R D
  | 0, _, _, _ => .no
  | k + 1, f, ds, s => match pg.fns[f]? with
    | none => .no
    | some fi => if ds.length = fi.np then (evCs pg.gl (callN pg k) pg.W fi.body (startE fi.nn ds) s).stop.bind outF else .no
end Fw
namespace Fw
open PySem PySem.Spec PyProof.Rows L2

/-! ## C. how data stand in the abstract heap -/
/-- ghost: where the shared objects stand, which lists are frozen -/
structure Gh where
  io : List Addr
  Z : Addr → Prop
/-- the module's part, and the world -/
structure KK where
  K : PySem.W.Frag
  w : World
instance : Coe KK PySem.W.Frag := ⟨KK.K⟩
abbrev _root_.L2.Cx.kk (X : L2.Cx) : KK := ⟨X.K, X.w⟩
/-- a dict whose keys are tuples, by its one object -/
def dtP (w : World) (a : Addr) (L : List (NestedKey × Addr × V)) (h : Heap) : Prop := L.length ≤ sizeLine ∧ (a == sysModules) = false ∧ ∃ xs : List (NestedKey × Addr × Value),
  Paired (fun (p : NestedKey × Addr × V) (q : NestedKey × Addr × Value) => p.1 = q.1 ∧ p.2.1 = q.2.1 ∧ RelV p.2.2 q.2.2) L xs ∧ ∃ o es ep, h.get? a = some o ∧ o.ExactDict ∧ o.data = .dict es ep ∧ es.toList = xs.map (fun x => (⟨x.1.hash w, .ref x.2.1, x.2.2⟩ : DictEntry)) ∧ (xs.map (·.1)).Nodup
def dtO (w : World) (a : Addr) (L : List (NestedKey × Addr × V)) : HO := .ext (dtP w a L)
def DH (w : World) (a : Addr) (ks : List D) (kv vv : List V) (ho : HO) : Bool → Prop
  | false => ∃ kvs : List (Key × V), ho = .dK kvs ∧ kv = kvs.map (fun p => kV p.1) ∧ vv = kvs.map (·.2)
  | true => ∃ L : List (NestedKey × Addr × V), ho = dtO w a L ∧ D.nks ks = some (L.map (·.1)) ∧ (∀ x ∈ L, x.1.depth ≤ 8) ∧ kv = L.map (fun x => V.ref x.2.1) ∧ vv = L.map (·.2.2)
/-- no tuple, nothing frozen -/
def NT (o : HO) : Prop := (∀ xs, o ≠ .tup xs) ∧ ∀ ob u, o ≠ .frz ob u
theorem NT.lst {xs : List V} : NT (.lst xs) := ⟨fun _ => by simp, fun _ _ => by simp⟩
theorem DH.nt {w : World} {a : Addr} {ks : List D} {kv vv : List V} {ho : HO} {t : Bool} (h : DH w a ks kv vv ho t) : NT ho := by
  cases t with
  | false => obtain ⟨kvs, rfl, _⟩ := h; exact ⟨fun _ => by simp, fun _ _ => by simp⟩
  | true => obtain ⟨L, rfl, _⟩ := h; exact ⟨fun _ => by simp [dtO], fun _ _ => by simp [dtO]⟩
section
variable (K : KK)
/-- a list that is known to the object, or one of the module -/
def FzL (H : Hp) (a : Addr) (xs : List V) : Prop := (∃ o, H a = some (.frz o (.lst xs))) ∨
  ∃ (o : Obj) (its : Array Value) (n : Nat), K.K.lookup a = some o ∧ o.cls = .type "list" ∧ o.dict = none ∧ o.data = .seq its n ∧ its.size ≤ sizeLine ∧ Vals xs its.toList
/-- what is known of a class of plain objects -/
structure InsK (K : PySem.W.Frag) (c : Str) (C : Addr) : Prop where
  at_ : PySem.W.nsIn K mainGlobals c = some (some (.ref C))
  cl : Cls K C
  ha : PySem.W.findIn K (.ref C) "__class__" = some (some (.builtin "object.__class__"))
  hn : PySem.W.specialIn K (.builtin "object.__class__") "__get__" = some (some (.builtin "getset_descriptor.__get__"))
  htk : PySem.W.takesIn K (.builtin "object.__class__") = some true
  hm : PySem.W.mroIn K C (.type "object") = some true
  kt : ∀ t : Ty, PySem.W.kitOne K (.ref C) (.type t.name) = some false
mutual
def Rep (g : Gh) (H : Hp) : D → V → Prop
  | .non, v => v = .non
  | .bl b, v => v = .bl b
  | .int i, v => v = .int i
  | .str x, v => v = .str x
  | .tup ds, v => ds.length ≤ sizeLine ∧ ∃ a xs, v = .ref a ∧ SqT K H a xs ∧ Reps g H ds xs
  | .lst ds, v => ds.length ≤ sizeLine ∧ ∃ a xs, v = .ref a ∧ g.Z a ∧ H a = some (.lst xs) ∧ Reps g H ds xs
  | .dct t ks vs, v => ∃ a ho kv vv, v = .ref a ∧ g.Z a ∧ H a = some ho ∧ Reps g H ks kv ∧ Reps g H vs vv ∧ DH K.w a ks kv vv ho t
  | .ref n, v => ∃ a, v = .ref a ∧ g.io[n]? = some a
  | .scr ns, v => ∃ a, v = .ref a ∧ FzL K H a (ns.map V.int)
  | .ins c ns fs, v => ∃ a C dx xs, v = .ref a ∧ g.Z a ∧ H a = some (.ins C dx xs) ∧ InsK K.K c C ∧ (∀ n ∈ ns, NoAttr K.K C n) ∧ xs.map (·.1) = ns ∧ ∃ ys, xs.map (·.2) = ys ∧ Reps g H fs ys
def Reps (g : Gh) (H : Hp) : List D → List V → Prop
  | [], vs => vs = []
  | d :: ds, vs => ∃ v r, vs = v :: r ∧ Rep g H d v ∧ Reps g H ds r
end
/-- what data lean on stays -/
structure Kp (g : Gh) (H : Hp) (g' : Gh) (H' : Hp) : Prop where
  io : ∀ (n : Nat) a, g.io[n]? = some a → g'.io[n]? = some a
  zZ : ∀ a, g.Z a → g'.Z a
  tup : ∀ a xs, SqT K H a xs → SqT K H' a xs
  zk : ∀ a o, g.Z a → H a = some o → H' a = some o
  fz : ∀ a xs, FzL K H a xs → FzL K H' a xs
/-- from (g, H) to (g', H'): what was known stays -/
structure Ext (g : Gh) (H : Hp) (g' : Gh) (H' : Hp) : Prop extends Kp K g H g' H' where
  ioN : ∀ a, a ∈ g'.io → a ∈ g.io ∨ H a = none
  zN : ∀ a, g'.Z a → g.Z a ∨ H a = none
  keep : ∀ a o, H a = some o → a ∉ g.io → H' a = some o
  live : ∀ a, H' a = none → H a = none
def RepO (g : Gh) (H : Hp) : MO → HO → Prop
  | .lst ds, ho => ∃ xs, ho = .lst xs ∧ Reps K g H ds xs
structure SimS (g : Gh) (s : S) (H : Hp) : Prop where
  len : g.io.length = s.length
  nd : g.io.Nodup
  nz : ∀ a ∈ g.io, ¬ g.Z a
  zl : ∀ a, g.Z a → H a ≠ none
  obj : ∀ (n : Nat) (o : MO), s[n]? = some o → ∃ a ho, g.io[n]? = some a ∧ H a = some ho ∧ RepO K g H o ho
def RepOo (g : Gh) (H : Hp) (a : Addr) : Oo → HO → Prop
  | .lst ds, ho => ∃ xs, ho = .lst xs ∧ Reps K g H ds xs
  | .dic t ks vs, ho => ∃ kv vv, Reps K g H ks kv ∧ Reps K g H vs vv ∧ DH K.w a ks kv vv ho t
def _root_.Fw.Oo.sz : Oo → Nat
  | .lst ds => ds.length
  | .dic _ _ _ => 0
/-- one slot: a value, or a thing of its own, new since H0 -/
def RepSl (g : Gh) (H H0 : Hp) : Sl → V → Prop
  | .val d, v => Rep K g H d v
  | .obj o, v => o.sz ≤ sizeLine ∧ ∃ a ho, v = .ref a ∧ H a = some ho ∧ RepOo K g H a o ho ∧ a ∉ g.io ∧ ¬ g.Z a ∧ H0 a = none
structure EnvOk (g : Gh) (H H0 : Hp) (env : Env) (σ : L2.St) : Prop where
  len : σ.length = env.length
  at_ : ∀ (i : Nat) (x : Sl), env[i]? = some (some x) → ∃ v, σ[i]? = some (some v) ∧ RepSl K g H H0 x v
  inj : ∀ (i j : Nat) (xs ys : Oo), env[i]? = some (some (.obj xs)) → env[j]? = some (some (.obj ys)) → σ[i]? = σ[j]? → i = j
end
variable {K : KK} {g g' g1 g2 : Gh} {H H' H0 H1 H2 : Hp} {s s' : S} {env : Env} {σ : L2.St}

theorem Kp.refl : Kp K g H g H := ⟨fun _ _ h => h, fun _ h => h, fun _ _ h => h, fun _ _ _ h => h, fun _ _ h => h⟩
theorem Ext.refl : Ext K g H g H := ⟨Kp.refl, fun _ h => .inl h, fun _ h => .inl h, fun _ _ h _ => h, fun _ h => h⟩
theorem Ext.trans (a : Ext K g H g1 H1) (b : Ext K g1 H1 g2 H2) : Ext K g H g2 H2 where
  io := fun n x h => b.io n x (a.io n x h)
  ioN := fun x h => (b.ioN x h).elim (a.ioN x) fun q => .inr (a.live x q)
  zZ := fun x h => b.zZ x (a.zZ x h)
  zN := fun x h => (b.zN x h).elim (a.zN x) fun q => .inr (a.live x q)
  keep := fun x o h n => b.keep x o (a.keep x o h n) fun q => (a.ioN x q).elim n fun z => by rw [z] at h; cases h
  live := fun x h => a.live x (b.live x h)
  tup := fun x xs h => b.tup x xs (a.tup x xs h)
  zk := fun x o z h => b.zk x o (a.zZ x z) (a.zk x o z h)
  fz := fun x xs h => b.fz x xs (a.fz x xs h)
mutual
theorem Rep.kp (e : Kp K g H g' H') : ∀ (d : D) (v : V), Rep K g H d v → Rep K g' H' d v
  | .non, _, h => h
  | .bl _, _, h => h
  | .int _, _, h => h
  | .str _, _, h => h
  | .tup ds, v, h => by
    obtain ⟨h0, a, xs, h1, h2, h3⟩ := h
    exact ⟨h0, a, xs, h1, e.tup a xs h2, Reps.kp e ds xs h3⟩
  | .lst ds, v, h => by
    obtain ⟨h0, a, xs, h1, h2, h3, h4⟩ := h
    exact ⟨h0, a, xs, h1, e.zZ a h2, e.zk a _ h2 h3, Reps.kp e ds xs h4⟩
  | .dct t ks vs, v, h => by
    obtain ⟨a, ho, kv, vv, h1, h2, h3, h4, h5, h6⟩ := h
    exact ⟨a, ho, kv, vv, h1, e.zZ a h2, e.zk a _ h2 h3, Reps.kp e ks kv h4, Reps.kp e vs vv h5, h6⟩
  | .ref n, v, h => by
    obtain ⟨a, h1, h2⟩ := h
    exact ⟨a, h1, e.io n a h2⟩
  | .scr ns, v, h => by
    obtain ⟨a, h1, h2⟩ := h
    exact ⟨a, h1, e.fz a _ h2⟩
  | .ins c ns fs, v, h => by
    obtain ⟨a, C, dx, xs, h1, h2, h3, h4, h5, h6, ys, h7, h8⟩ := h
    exact ⟨a, C, dx, xs, h1, e.zZ a h2, e.zk a _ h2 h3, h4, h5, h6, ys, h7, Reps.kp e fs ys h8⟩
theorem Reps.kp (e : Kp K g H g' H') : ∀ (ds : List D) (vs : List V), Reps K g H ds vs → Reps K g' H' ds vs
  | [], _, h => h
  | d :: ds, vs, h => by
    obtain ⟨v, r, h1, h2, h3⟩ := h
    exact ⟨v, r, h1, Rep.kp e d v h2, Reps.kp e ds r h3⟩
end
theorem Rep.ext (e : Ext K g H g' H') (d : D) (v : V) (h : Rep K g H d v) : Rep K g' H' d v := Rep.kp e.toKp d v h
theorem Reps.ext (e : Ext K g H g' H') (ds : List D) (vs : List V) (h : Reps K g H ds vs) : Reps K g' H' ds vs := Reps.kp e.toKp ds vs h
theorem Reps.length : ∀ {ds : List D} {vs : List V}, Reps K g H ds vs → vs.length = ds.length
  | [], _, h => by cases (show _ = [] from h); rfl
  | d :: ds, vs, h => by
    obtain ⟨v, r, h1, _, h3⟩ := h
    subst h1
    simp [Reps.length h3]
theorem Reps.append : ∀ {ds es : List D} {vs ws : List V}, Reps K g H ds vs → Reps K g H es ws → Reps K g H (ds ++ es) (vs ++ ws)
  | [], _, _, _, h, q => by cases (show _ = [] from h); exact q
  | d :: ds, _, vs, _, h, q => by
    obtain ⟨v, r, h1, h2, h3⟩ := h
    subst h1
    exact ⟨v, _, rfl, h2, Reps.append h3 q⟩
theorem Reps.get : ∀ {ds : List D} {vs : List V} {i : Nat} {d : D}, Reps K g H ds vs → ds[i]? = some d → ∃ v, vs[i]? = some v ∧ Rep K g H d v
  | [], _, _, _, _, e => by simp at e
  | d :: ds, vs, i, x, h, e => by
    obtain ⟨v, r, h1, h2, h3⟩ := h
    subst h1
    cases i with
    | zero => simp at e; subst e; exact ⟨v, rfl, h2⟩
    | succ i => simpa using Reps.get (i := i) h3 (by simpa using e)
theorem Reps.set : ∀ {ds : List D} {vs : List V} {i : Nat} {d : D} {v : V}, Reps K g H ds vs → Rep K g H d v → Reps K g H (ds.set i d) (vs.set i v)
  | [], _, _, _, _, h, _ => by cases (show _ = [] from h); exact rfl
  | d :: ds, vs, i, x, w, h, q => by
    obtain ⟨v, r, h1, h2, h3⟩ := h
    subst h1
    cases i with
    | zero => exact ⟨_, _, rfl, q, h3⟩
    | succ i => exact ⟨_, _, rfl, h2, Reps.set h3 q⟩
theorem Reps.take : ∀ {ds : List D} {vs : List V} (n : Nat), Reps K g H ds vs → Reps K g H (ds.take n) (vs.take n)
  | [], _, n, h => by cases (show _ = [] from h); simp; exact rfl
  | d :: ds, vs, n, h => by
    obtain ⟨v, r, h1, h2, h3⟩ := h
    subst h1
    cases n with
    | zero => exact rfl
    | succ n => exact ⟨_, _, rfl, h2, Reps.take n h3⟩
theorem Reps.drop : ∀ {ds : List D} {vs : List V} (n : Nat), Reps K g H ds vs → Reps K g H (ds.drop n) (vs.drop n)
  | [], _, n, h => by cases (show _ = [] from h); simp; exact rfl
  | d :: ds, vs, n, h => by
    obtain ⟨v, r, h1, h2, h3⟩ := h
    subst h1
    cases n with
    | zero => exact ⟨_, _, rfl, h2, h3⟩
    | succ n => simpa using Reps.drop n h3
theorem Reps.rep {ds : List D} {vs : List V} (h : Reps K g H ds vs) : ∀ k : Nat, Reps K g H (List.replicate k ds).flatten (List.replicate k vs).flatten
  | 0 => rfl
  | k + 1 => by
    rw [List.replicate_succ, List.replicate_succ, List.flatten_cons, List.flatten_cons]
    exact h.append (Reps.rep h k)
theorem Reps.reverse : ∀ {ds : List D} {vs : List V}, Reps K g H ds vs → Reps K g H ds.reverse vs.reverse
  | [], _, h => by cases (show _ = [] from h); exact rfl
  | d :: ds, vs, h => by
    obtain ⟨v, r, h1, h2, h3⟩ := h
    subst h1
    simp only [List.reverse_cons]
    exact (Reps.reverse h3).append ⟨v, [], rfl, h2, rfl⟩
theorem Reps.one {d : D} {v : V} (h : Rep K g H d v) : Reps K g H [d] [v] := ⟨v, [], rfl, h, rfl⟩
theorem cut_len {α : Type} (xs : List α) (lo hi : Option Int) : (cutD xs lo hi).length ≤ xs.length := by
  unfold cutD
  rw [List.length_take, List.length_drop]
  omega
theorem Reps.cut {ds : List D} {vs : List V} (h : Reps K g H ds vs) (lo hi : Option Int) : Reps K g H (cutD ds lo hi) (cutV vs lo hi) := by
  unfold cutD cutV
  rw [h.length]
  exact (h.drop _).take _
theorem RepO.kp (e : Kp K g H g' H') : ∀ {o : MO} {ho : HO}, RepO K g H o ho → RepO K g' H' o ho
  | .lst ds, ho, h => by
    obtain ⟨xs, h1, h2⟩ := h
    exact ⟨xs, h1, Reps.kp e ds xs h2⟩
theorem RepO.ext (e : Ext K g H g' H') {o : MO} {ho : HO} (h : RepO K g H o ho) : RepO K g' H' o ho := RepO.kp e.toKp h
theorem RepOo.kp (e : Kp K g H g' H') {a : Addr} : ∀ {o : Oo} {ho : HO}, RepOo K g H a o ho → RepOo K g' H' a o ho
  | .lst ds, ho, h => by
    obtain ⟨xs, h1, h2⟩ := h
    exact ⟨xs, h1, Reps.kp e ds xs h2⟩
  | .dic t ks vs, ho, h => by
    obtain ⟨kv, vv, h1, h2, h3⟩ := h
    exact ⟨kv, vv, Reps.kp e ks kv h1, Reps.kp e vs vv h2, h3⟩
theorem RepOo.ext (e : Ext K g H g' H') {a : Addr} {o : Oo} {ho : HO} (h : RepOo K g H a o ho) : RepOo K g' H' a o ho := RepOo.kp e.toKp h
theorem RepOo.nt {a : Addr} : ∀ {o : Oo} {ho : HO}, RepOo K g H a o ho → NT ho
  | .lst ds, ho, ⟨xs, h1, h2⟩ => by subst h1; exact NT.lst
  | .dic t ks vs, ho, ⟨kv, vv, h1, h2, h3⟩ => h3.nt
theorem EnvOk.ext (w : EnvOk K g H H0 env σ) (e : Ext K g H g' H') : EnvOk K g' H' H0 env σ where
  len := w.len
  at_ := fun i x h => by
    obtain ⟨v, h1, h2⟩ := w.at_ i x h
    refine ⟨v, h1, ?_⟩
    cases x with
    | val d => exact Rep.ext e d v h2
    | obj o =>
      obtain ⟨e0, a, xs, e1, e2, e3, e4, e5, e6⟩ := h2
      exact ⟨e0, a, xs, e1, e.keep a _ e2 e4, RepOo.ext e e3, fun q => (e.ioN a q).elim e4 fun z => (by rw [z] at e2; cases e2), fun q => (e.zN a q).elim e5 fun z => (by rw [z] at e2; cases e2), e6⟩
  inj := w.inj
theorem EnvOk.val (w : EnvOk K g H H0 env σ) {i : Nat} {d : D} (h : getV env i = some d) : ∃ v, σ[i]? = some (some v) ∧ Rep K g H d v := by
  unfold getV at h
  split at h
  · rename_i e
    cases h
    exact w.at_ i _ e
  · cases h
/-- a new object at p -/
theorem Ext.new {p : Addr} {o : HO} (hp : H p = none) : Ext K g H g (upd H p o) := by
  have ne : ∀ a u, H a = some u → a ≠ p := fun a u h => ne_of_none h hp
  refine ⟨⟨fun _ _ h => h, fun _ h => h, fun a xs h => ?_, fun a u _ h => ?_, fun a xs h => ?_⟩, fun _ h => .inl h, fun _ h => .inl h, fun a u h _ => ?_, fun a h => ?_⟩
  · rcases h with (h | ⟨o', h⟩) | h
    · exact .inl (.inl (by rw [upd_ne (ne _ _ h)]; exact h))
    · exact .inl (.inr ⟨o', by rw [upd_ne (ne _ _ h)]; exact h⟩)
    · exact .inr h
  · rw [upd_ne (ne a u h)]; exact h
  · rcases h with ⟨o', h⟩ | h
    · exact .inl ⟨o', by rw [upd_ne (ne _ _ h)]; exact h⟩
    · exact .inr h
  · rw [upd_ne (ne a u h)]; exact h
  · by_cases e : a = p
    · subst e; exact hp
    · rw [upd_ne e] at h; exact h
theorem SimS.ext' (w : SimS K g s H) (e : Ext K g H g H') (hio : ∀ a ho, a ∈ g.io → H a = some ho → H' a = some ho) : SimS K g s H' where
  len := w.len
  nd := w.nd
  nz := w.nz
  zl := fun a z q => w.zl a z (e.live a q)
  obj := fun n o h => by
    obtain ⟨a, ho, h1, h2, h3⟩ := w.obj n o h
    exact ⟨a, ho, h1, hio a ho (List.mem_of_getElem? h1) h2, RepO.ext e h3⟩
theorem SimS.new {p : Addr} {o : HO} (w : SimS K g s H) (hp : H p = none) : SimS K g s (upd H p o) :=
  w.ext' (Ext.new hp) fun a ho _ h => by rw [upd_ne (ne_of_none h hp)]; exact h
theorem SimS.fresh_io {p : Addr} (w : SimS K g s H) (hp : H p = none) : p ∉ g.io := fun h => by
  obtain ⟨n, e⟩ := List.getElem?_of_mem h
  have hn : n < s.length := by rw [← w.len]; exact (List.getElem?_eq_some_iff.mp e).1
  obtain ⟨a, ho, h1, h2, _⟩ := w.obj n _ (List.getElem?_eq_getElem hn)
  rw [e] at h1
  cases h1
  rw [hp] at h2
  cases h2
theorem SimS.fresh_z {p : Addr} (w : SimS K g s H) (hp : H p = none) : ¬ g.Z p := fun h => w.zl p h hp
/-- freeze the thing at p -/
def Gh.frz (g : Gh) (p : Addr) : Gh := ⟨g.io, fun a => g.Z a ∨ a = p⟩
theorem SimS.frz {p : Addr} (w : SimS K g s H) (h1 : p ∉ g.io) (h2 : H p ≠ none) (e : Ext K g H (g.frz p) H) : SimS K (g.frz p) s H where
  len := w.len
  nd := w.nd
  nz := fun a ha z => z.elim (w.nz a ha) fun q => h1 (q ▸ ha)
  zl := fun a z => z.elim (w.zl a) fun q => q ▸ h2
  obj := fun n o h => by
    obtain ⟨a, ho, q1, q2, q3⟩ := w.obj n o h
    exact ⟨a, ho, q1, q2, RepO.ext e q3⟩
theorem Kp.frz (p : Addr) : Kp K g H (g.frz p) H := ⟨fun _ _ h => h, fun _ h => .inl h, fun _ _ h => h, fun _ _ _ h => h, fun _ _ h => h⟩
theorem SimS.frz' {p : Addr} (w : SimS K g s H) (h1 : p ∉ g.io) (h2 : H p ≠ none) : SimS K (g.frz p) s H where
  len := w.len
  nd := w.nd
  nz := fun a ha z => z.elim (w.nz a ha) fun q => h1 (q ▸ ha)
  zl := fun a z => z.elim (w.zl a) fun q => q ▸ h2
  obj := fun n o h => by
    obtain ⟨a, ho, q1, q2, q3⟩ := w.obj n o h
    exact ⟨a, ho, q1, q2, RepO.kp (Kp.frz p) q3⟩
/-- a thing that is new since H is frozen: the same as Ext -/
theorem Ext.frz {p : Addr} (e : Ext K g H g' H') (hp : H p = none) : Ext K g H (g'.frz p) H' :=
  ⟨⟨e.io, fun a z => .inl (e.zZ a z), e.tup, e.zk, e.fz⟩, e.ioN, fun a z => z.elim (e.zN a) fun q => .inr (q ▸ hp), e.keep, e.live⟩
/-- a list that no datum leans on is written -/
theorem Kp.write {b : Addr} {ho o : HO} (hz : ¬ g.Z b) (hb : H b = some ho) (nt : NT ho := by exact NT.lst) : Kp K g H g (upd H b o) := by
  refine ⟨fun _ _ h => h, fun _ h => h, fun a ys h => ?_, fun a u z h => ?_, fun a ys h => ?_⟩
  · rcases h with (h | ⟨o', h⟩) | h
    · exact .inl (.inl (by rw [upd_ne (ne_of h hb (nt.1 _).symm)]; exact h))
    · exact .inl (.inr ⟨o', by rw [upd_ne (ne_of h hb (nt.2 _ _).symm)]; exact h⟩)
    · exact .inr h
  · have : a ≠ b := fun e => hz (e ▸ z)
    rw [upd_ne this]; exact h
  · rcases h with ⟨o', h⟩ | h
    · exact .inl ⟨o', by rw [upd_ne (ne_of h hb (nt.2 _ _).symm)]; exact h⟩
    · exact .inr h
/-- .. one that is new since H -/
theorem Ext.write {b : Addr} {ho o : HO} (e : Ext K g H g' H') (hn : H b = none) (hz : ¬ g'.Z b) (hb : H' b = some ho) (nt : NT ho := by exact NT.lst) : Ext K g H g' (upd H' b o) := by
  have k := Kp.write (K := K) (o := o) hz hb nt
  refine ⟨⟨e.io, e.zZ, fun a ys h => k.tup a ys (e.tup a ys h), fun a u z h => k.zk a u (e.zZ a z) (e.zk a u z h), fun a ys h => k.fz a ys (e.fz a ys h)⟩, e.ioN, e.zN, fun a u h n => ?_, fun a h => ?_⟩
  · rw [upd_ne (ne_of_none h hn)]; exact e.keep a u h n
  · by_cases q : a = b
    · subst q; exact hn
    · rw [upd_ne q] at h; exact e.live a h
theorem SimS.write {b : Addr} {ho' o : HO} (w : SimS K g s H) (hio : b ∉ g.io) (hz : ¬ g.Z b) (hb : H b = some ho') (nt : NT ho' := by exact NT.lst) : SimS K g s (upd H b o) where
  len := w.len
  nd := w.nd
  nz := w.nz
  zl := fun a z => by
    have : a ≠ b := fun e => hz (e ▸ z)
    rw [upd_ne this]; exact w.zl a z
  obj := fun n u h => by
    obtain ⟨a, ho, q1, q2, q3⟩ := w.obj n u h
    have : a ≠ b := fun e => hio (e ▸ List.mem_of_getElem? q1)
    exact ⟨a, ho, q1, by rw [upd_ne this]; exact q2, RepO.kp (Kp.write hz hb nt) q3⟩
/-- weak: a value, or a thing of one's own -/
def RepW (K : KK) (g : Gh) (H : Hp) (d : D) (v : V) : Prop := Rep K g H d v ∨ ∃ o a ho, d = o.fz ∧ v = .ref a ∧ H a = some ho ∧ RepOo K g H a o ho ∧ a ∉ g.io ∧ o.sz ≤ sizeLine
theorem EnvOk.weak (w : EnvOk K g H H0 env σ) {i : Nat} {d : D} (h : getW env i = some d) : ∃ v, σ[i]? = some (some v) ∧ RepW K g H d v := by
  unfold getW at h
  split at h
  · rename_i e
    cases h
    obtain ⟨v, h1, h2⟩ := w.at_ i _ e
    exact ⟨v, h1, .inl h2⟩
  · rename_i e
    cases h
    obtain ⟨v, h1, e0, a, xs, e1, e2, e3, e4, _⟩ := w.at_ i _ e
    exact ⟨v, h1, .inr ⟨_, a, xs, rfl, e1, e2, e3, e4, e0⟩⟩
  · cases h
end Fw
namespace Fw
open PySem PySem.Spec PyProof.Rows L2

/-! ## C2. dicts -/
section
variable {X : Cx} {pins : List (Addr × Obj)} {σ : L2.St} {H : Hp} {s : Shared} {g : Gh}
mutual
theorem rep_nk (I : Inv X pins σ H s) : ∀ (d : D) (v : V) (u : Value) (k : NestedKey), Rep X.kk g H d v → RelV v u → d.nk = some k → NestedIs s.heap k u
  | .non, _, _, _, h, r, e => by cases (show _ = _ from h); cases r; cases e; exact .none
  | .bl b, _, _, _, h, r, e => by cases (show _ = _ from h); cases r; cases e; exact .bool rfl
  | .int i, _, _, _, h, r, e => by cases (show _ = _ from h); obtain ⟨t, rfl⟩ := r; cases e; exact .int i t
  | .str x, _, _, _, h, r, e => by cases (show _ = _ from h); obtain ⟨t, rfl⟩ := r; cases e; exact .text x t
  | .tup ds, _, _, k, h, r, e => by
    obtain ⟨_, a, xs, rfl, h2, h3⟩ := h
    cases r
    obtain ⟨its, rv, ⟨o, ho, hc, n, hd⟩, _⟩ := I.tuple h2
    simp only [D.nk] at e
    split at e
    · rename_i ks q
      cases e
      exact .tup ho hc hd (by simpa using reps_nk I ds xs its ks h3 rv q)
    · cases e
  | .lst _, _, _, _, _, _, e => by cases e
  | .dct _ _ _, _, _, _, _, _, e => by cases e
  | .ref _, _, _, _, _, _, e => by cases e
  | .scr _, _, _, _, _, _, e => by cases e
theorem reps_nk (I : Inv X pins σ H s) : ∀ (ds : List D) (vs : List V) (us : List Value) (ks : List NestedKey), Reps X.kk g H ds vs → Vals vs us → D.nks ds = some ks → NestedAll s.heap ks us
  | [], _, _, _, h, r, e => by cases (show _ = [] from h); cases r; cases e; exact .nil
  | d :: ds, _, _, ks, h, r, e => by
    obtain ⟨v, vr, rfl, h2, h3⟩ := h
    cases r with
    | cons r1 r2 =>
      simp only [D.nks] at e
      split at e
      · rename_i k ks' q1 q2
        cases e
        exact .cons (rep_nk I d v _ k h2 r1 q1) (reps_nk I ds vr _ ks' h3 r2 q2)
      · cases e
end
end
theorem nks_cons {d : D} {ds : List D} {k : NestedKey} {ks : List NestedKey} : D.nks (d :: ds) = some (k :: ks) ↔ d.nk = some k ∧ D.nks ds = some ks := by
  simp only [D.nks]
  constructor
  · intro h
    split at h
    · rename_i a b q1 q2
      cases h
      exact ⟨q1, q2⟩
    · cases h
  · rintro ⟨h1, h2⟩
    rw [h1, h2]
theorem nks_some {d : D} {ds : List D} {ls : List NestedKey} (h : D.nks (d :: ds) = some ls) : ∃ k ks, ls = k :: ks ∧ d.nk = some k ∧ D.nks ds = some ks := by
  simp only [D.nks] at h
  split at h
  · rename_i a b q1 q2
    cases h
    exact ⟨_, _, rfl, q1, q2⟩
  · cases h
theorem nks_snoc : ∀ {ds : List D} {d : D} {k : NestedKey} {ks : List NestedKey}, D.nks ds = some ks → d.nk = some k → D.nks (ds ++ [d]) = some (ks ++ [k])
  | [], d, k, ks, h, e => by cases h; exact nks_cons.mpr ⟨e, rfl⟩
  | x :: ds, d, k, ks, h, e => by
    obtain ⟨k', ks', rfl, h1, h2⟩ := nks_some h
    exact nks_cons.mpr ⟨h1, nks_snoc h2 e⟩
theorem keq_of {a b : D} {x y : NestedKey} (ha : a.nk = some x) (hb : b.nk = some y) : keq a b = decide (x = y) := by
  unfold keq; rw [ha, hb, NestedKey.decide_eq]
theorem keyT {x : D} (h : keyOk true x = true) : ∃ ds k, x = .tup ds ∧ x.nk = some k ∧ k.depth ≤ 8 := by
  cases x with
  | tup xs =>
    simp only [keyOk] at h
    split at h
    · rename_i k q
      exact ⟨xs, k, rfl, q, of_decide_eq_true h⟩
    · cases h
  | _ => cases h
/-! keys that are tuples -/
abbrev KL := List (NestedKey × Addr × V)
abbrev PL : KL → List (NestedKey × Addr × Value) → Prop := Paired fun (p : NestedKey × Addr × V) (q : NestedKey × Addr × Value) => p.1 = q.1 ∧ p.2.1 = q.2.1 ∧ RelV p.2.2 q.2.2
theorem atKey_cons {q : NestedKey × Addr × Value} {qs : List (NestedKey × Addr × Value)} {k : NestedKey} : atKey (q :: qs) k = if q.1 = k then some q.2 else atKey qs k := by
  by_cases e : q.1 = k <;> simp [atKey, List.find?_cons, e]
theorem has_at {x : D} {k : NestedKey} (hx : x.nk = some k) : ∀ {ks : List D} {L : KL} {xs : List (NestedKey × Addr × Value)}, D.nks ks = some (L.map (·.1)) → PL L xs → hasK ks x = (atKey xs k).isSome := by
  intro ks L xs hk p
  induction p generalizing ks with
  | nil =>
    cases ks with
    | nil => rfl
    | cons d ds => obtain ⟨_, _, e, _⟩ := nks_some hk; cases e
  | @cons p q ps qs h t ih =>
    cases ks with
    | nil => cases hk
    | cons d ds =>
      obtain ⟨k', ks', e, h1, h2⟩ := nks_some hk
      cases e
      rw [atKey_cons]
      have hq : keq d x = decide (q.1 = k) := by rw [keq_of h1 hx, ← h.1]
      show (keq d x || hasK ds x) = _
      rw [hq, ih h2]
      by_cases e : q.1 = k <;> simp [e]
theorem get_at {K : KK} {g : Gh} {H : Hp} {x d : D} {k : NestedKey} (hx : x.nk = some k) : ∀ {ks vs : List D} {L : KL} {xs : List (NestedKey × Addr × Value)}, D.nks ks = some (L.map (·.1)) → PL L xs → Reps K g H vs (L.map (·.2.2)) →
    getK ks vs x = some d → ∃ p v, atKey xs k = some p ∧ RelV v p.2 ∧ Rep K g H d v := by
  intro ks vs L xs hk p
  induction p generalizing ks vs with
  | nil =>
    intro rv hg
    cases ks with
    | nil => cases hg
    | cons d ds => obtain ⟨_, _, e, _⟩ := nks_some hk; cases e
  | @cons p q ps qs h t ih =>
    intro rv hg
    cases ks with
    | nil => cases hk
    | cons d' ds =>
      obtain ⟨k', ks', e, h1, h2⟩ := nks_some hk
      cases e
      cases vs with
      | nil => cases hg
      | cons y ys =>
        obtain ⟨v, vr, e, r1, r2⟩ := rv
        cases e
        have hq : keq d' x = decide (q.1 = k) := by rw [keq_of h1 hx, ← h.1]
        simp only [getK, hq] at hg
        rw [atKey_cons]
        by_cases e : q.1 = k
        · simp only [e, decide_true, if_true] at hg ⊢
          cases hg
          exact ⟨_, _, rfl, h.2.2, r1⟩
        · simp only [e, decide_false, if_false, Bool.false_eq_true] at hg ⊢
          exact ih h2 r2 hg
/-- the entries behind d[k] = y -/
def putL (L : KL) (k : NestedKey) (b : Addr) (y : V) : KL := if (L.any fun x => decide (x.1 = k)) then L.map (fun x => if x.1 = k then (x.1, x.2.1, y) else x) else L ++ [(k, b, y)]
theorem any_at {k : NestedKey} : ∀ {L : KL} {xs : List (NestedKey × Addr × Value)}, PL L xs → (L.any fun x => decide (x.1 = k)) = (atKey xs k).isSome := by
  intro L xs p
  induction p with
  | nil => rfl
  | @cons p q ps qs h t ih =>
    rw [atKey_cons, List.any_cons, ih, h.1]
    by_cases e : q.1 = k <;> simp [e]
theorem put_pl {L : KL} {xs : List (NestedKey × Addr × Value)} {k : NestedKey} {b : Addr} {y : V} {u : Value} (p : PL L xs) (r : RelV y u) : PL (putL L k b y) (storedH xs k b u) := by
  unfold putL storedH
  rw [any_at p]
  by_cases q : (atKey xs k).isSome = true
  · rw [if_pos q, if_pos q]
    clear q
    induction p with
    | nil => exact .nil
    | @cons p q ps qs h t ih =>
      rw [List.map_cons, List.map_cons]
      refine .cons ?_ ih
      obtain ⟨h1, h2, h3⟩ := h
      unfold putAt
      by_cases e : p.1 = k
      · rw [if_pos e, if_pos (h1.symm.trans e)]; exact ⟨h1, h2, r⟩
      · rw [if_neg e, if_neg (fun z => e (h1.trans z))]; exact ⟨h1, h2, h3⟩
  · rw [if_neg q, if_neg q]; exact Paired.snoc p ⟨rfl, rfl, r⟩
theorem put_len (L : KL) (k : NestedKey) (b : Addr) (y : V) : (putL L k b y).length ≤ L.length + 1 := by
  unfold putL
  split <;> simp
theorem has_L {x : D} {k : NestedKey} (hx : x.nk = some k) : ∀ {ks : List D} {L : KL}, D.nks ks = some (L.map (·.1)) → hasK ks x = L.any fun x => decide (x.1 = k)
  | [], [], _ => rfl
  | [], l :: L, h => by cases h
  | d :: ds, [], h => by obtain ⟨_, _, e, _⟩ := nks_some h; cases e
  | d :: ds, l :: L, h => by
    obtain ⟨k', ks', e, h1, h2⟩ := nks_some h
    cases e
    show (keq d x || hasK ds x) = _
    rw [keq_of h1 hx, has_L hx h2]
    rfl
theorem put_keys {K : KK} {g : Gh} {H : Hp} {x : D} {k : NestedKey} {b : Addr} {y : V} {ks : List D} {L : KL} (hx : x.nk = some k) (rx : Rep K g H x (.ref b)) (hk : D.nks ks = some (L.map (·.1))) (rk : Reps K g H ks (L.map fun x => V.ref x.2.1)) :
    D.nks (putKs ks x) = some ((putL L k b y).map (·.1)) ∧ Reps K g H (putKs ks x) ((putL L k b y).map fun x => V.ref x.2.1) := by
  unfold putKs putL
  rw [has_L hx hk]
  by_cases q : (L.any fun x => decide (x.1 = k)) = true
  · rw [if_pos q, if_pos q]
    have e1 : (L.map (fun x => if x.1 = k then (x.1, x.2.1, y) else x)).map (·.1) = L.map (·.1) := by
      rw [List.map_map]; refine List.map_congr_left fun z _ => ?_
      simp only [Function.comp]; split <;> rfl
    have e2 : (L.map (fun x => if x.1 = k then (x.1, x.2.1, y) else x)).map (fun x => V.ref x.2.1) = L.map (fun x => V.ref x.2.1) := by
      rw [List.map_map]; refine List.map_congr_left fun z _ => ?_
      simp only [Function.comp]; split <;> rfl
    rw [e1, e2]
    exact ⟨hk, rk⟩
  · rw [if_neg q, if_neg q, List.map_append, List.map_append]
    exact ⟨nks_snoc hk hx, rk.append (Reps.one rx)⟩
theorem repl_vals {K : KK} {g : Gh} {H : Hp} {x d : D} {k : NestedKey} {y : V} (hx : x.nk = some k) (ry : Rep K g H d y) : ∀ {ks vs : List D} {L : KL}, D.nks ks = some (L.map (·.1)) → Reps K g H vs (L.map (·.2.2)) →
    Reps K g H (replV ks vs x d) ((L.map (fun x => if x.1 = k then (x.1, x.2.1, y) else x)).map (·.2.2))
  | [], vs, [], _, rv => by cases vs <;> exact rfl
  | [], _, l :: L, h, _ => by cases h
  | d' :: ds, _, [], h, _ => by obtain ⟨_, _, e, _⟩ := nks_some h; cases e
  | d' :: ds, [], l :: L, h, rv => by cases (show _ = [] from rv)
  | d' :: ds, v :: vs, l :: L, h, rv => by
    obtain ⟨k', ks', e, h1, h2⟩ := nks_some h
    cases e
    obtain ⟨w, vr, e, r1, r2⟩ := rv
    cases e
    simp only [replV, keq_of h1 hx, List.map_cons]
    refine ⟨_, _, rfl, ?_, repl_vals hx ry h2 r2⟩
    by_cases e : l.1 = k
    · simp only [e, decide_true, if_true]; exact ry
    · simp only [e, decide_false, if_false, Bool.false_eq_true]; exact r1
theorem put_vals {K : KK} {g : Gh} {H : Hp} {x d : D} {k : NestedKey} {b : Addr} {y : V} {ks vs : List D} {L : KL} (hx : x.nk = some k) (ry : Rep K g H d y) (hk : D.nks ks = some (L.map (·.1))) (rv : Reps K g H vs (L.map (·.2.2))) :
    Reps K g H (putVs ks vs x d) ((putL L k b y).map (·.2.2)) := by
  unfold putVs putL
  rw [has_L hx hk]
  by_cases q : (L.any fun x => decide (x.1 = k)) = true
  · rw [if_pos q, if_pos q]; exact repl_vals hx ry hk rv
  · rw [if_neg q, if_neg q, List.map_append]; exact rv.append (Reps.one ry)
theorem put_depth {L : KL} {k : NestedKey} {b : Addr} {y : V} (hd : ∀ x ∈ L, x.1.depth ≤ 8) (hk : k.depth ≤ 8) : ∀ x ∈ putL L k b y, x.1.depth ≤ 8 := by
  unfold putL
  split
  · intro x hx
    obtain ⟨z, hz, rfl⟩ := List.mem_map.mp hx
    split
    · exact hd z hz
    · exact hd z hz
  · intro x hx
    rcases List.mem_append.mp hx with h | h
    · exact hd x h
    · rw [List.mem_singleton] at h; subst h; exact hk
/-! keys that are ints, texts -/
def keyD : Key → D
  | .inl i => .int i
  | .inr x => .str x
theorem keyF {x : D} (h : keyOk false x = true) : ∃ k : Key, x = keyD k := by
  cases x <;> first | (cases h; done) | skip
  · exact ⟨.inl _, rfl⟩
  · exact ⟨.inr _, rfl⟩
theorem rep_key {K : KK} {g : Gh} {H : Hp} {k : Key} {v : V} (h : Rep K g H (keyD k) v) : v = kV k := by
  cases k <;> exact h
theorem key_rep {K : KK} {g : Gh} {H : Hp} {k : Key} : ∀ {d : D}, Rep K g H d (kV k) → d = keyD k := by
  intro d h
  cases k with
  | inl i =>
    cases d with
    | int j => cases (show V.int i = V.int j from h); rfl
    | non => cases (show V.int i = _ from h)
    | bl b => cases (show V.int i = _ from h)
    | str x => cases (show V.int i = _ from h)
    | tup ds => obtain ⟨_, a, xs, e, _⟩ := h; cases e
    | lst ds => obtain ⟨_, a, xs, e, _⟩ := h; cases e
    | dct t ks vs => obtain ⟨a, _, _, _, e, _⟩ := h; cases e
    | ref n => obtain ⟨a, e, _⟩ := h; cases e
    | scr n => obtain ⟨a, e, _⟩ := h; cases e
    | ins c ns fs => obtain ⟨a, _, _, _, e, _⟩ := h; cases e
  | inr i =>
    cases d with
    | int j => cases (show V.str i = _ from h)
    | non => cases (show V.str i = _ from h)
    | bl b => cases (show V.str i = _ from h)
    | str x => cases (show V.str i = V.str x from h); rfl
    | tup ds => obtain ⟨_, a, xs, e, _⟩ := h; cases e
    | lst ds => obtain ⟨_, a, xs, e, _⟩ := h; cases e
    | dct t ks vs => obtain ⟨a, _, _, _, e, _⟩ := h; cases e
    | ref n => obtain ⟨a, e, _⟩ := h; cases e
    | scr n => obtain ⟨a, e, _⟩ := h; cases e
    | ins c ns fs => obtain ⟨a, _, _, _, e, _⟩ := h; cases e
theorem keys_rep {K : KK} {g : Gh} {H : Hp} : ∀ {ks : List D} {kvs : List (Key × V)}, Reps K g H ks (kvs.map fun p => kV p.1) → ks = kvs.map fun p => keyD p.1
  | [], [], _ => rfl
  | [], k :: kvs, h => by cases (show _ = [] from h)
  | d :: ds, [], h => by obtain ⟨v, r, e, _⟩ := h; cases e
  | d :: ds, k :: kvs, h => by
    obtain ⟨v, r, e, h1, h2⟩ := h
    cases e
    rw [key_rep h1, keys_rep h2]
    rfl
theorem keq_key (a b : Key) : keq (keyD a) (keyD b) = decide (a = b) := by
  cases a <;> cases b <;> simp [keq, keyD, D.nk, NestedKey.beq]
theorem has_K (x : Key) : ∀ kvs : List (Key × V), hasK (kvs.map fun p => keyD p.1) (keyD x) = kvs.any fun p => decide (p.1 = x)
  | [] => rfl
  | k :: kvs => by
    show (keq (keyD k.1) (keyD x) || hasK (kvs.map fun p => keyD p.1) (keyD x)) = _
    rw [keq_key, has_K x kvs]
    rfl
theorem get_K {K : KK} {g : Gh} {H : Hp} {x : Key} {d : D} : ∀ {vs : List D} {kvs : List (Key × V)}, Reps K g H vs (kvs.map (·.2)) → getK (kvs.map fun p => keyD p.1) vs (keyD x) = some d → ∃ v, valV kvs x = some v ∧ Rep K g H d v
  | vs, [], _, h => by cases vs <;> cases h
  | [], k :: kvs, h, _ => by cases (show _ = [] from h)
  | v :: vs, k :: kvs, h, e => by
    obtain ⟨w, r, q, h1, h2⟩ := h
    cases q
    simp only [List.map_cons, getK, keq_key] at e
    by_cases z : k.1 = x
    · simp only [z, decide_true, if_true] at e
      cases e
      exact ⟨_, valV_pos z, h1⟩
    · simp only [z, decide_false, if_false, Bool.false_eq_true] at e
      rw [valV_neg z]
      exact get_K h2 e
theorem replV_K {K : KK} {g : Gh} {H : Hp} {x : Key} {d : D} {y : V} (ry : Rep K g H d y) : ∀ {vs : List D} {kvs : List (Key × V)}, Reps K g H vs (kvs.map (·.2)) →
    Reps K g H (replV (kvs.map fun p => keyD p.1) vs (keyD x) d) ((kvs.map fun kv => if kv.1 = x then (kv.1, y) else kv).map (·.2))
  | vs, [], _ => by cases vs <;> exact rfl
  | [], k :: kvs, h => by cases (show _ = [] from h)
  | v :: vs, k :: kvs, h => by
    obtain ⟨w, r, q, h1, h2⟩ := h
    cases q
    simp only [List.map_cons, replV, keq_key]
    refine ⟨_, _, rfl, ?_, replV_K ry h2⟩
    by_cases e : k.1 = x
    · simp only [e, decide_true, if_true]; exact ry
    · simp only [e, decide_false, if_false, Bool.false_eq_true]; exact h1
theorem put_K {K : KK} {g : Gh} {H : Hp} {x : Key} {d : D} {y : V} {vs : List D} {kvs : List (Key × V)} (ry : Rep K g H d y) (rk : Reps K g H (kvs.map fun p => keyD p.1) (kvs.map fun p => kV p.1)) (rv : Reps K g H vs (kvs.map (·.2))) :
    Reps K g H (putKs (kvs.map fun p => keyD p.1) (keyD x)) ((putK kvs x y).map fun p => kV p.1) ∧ Reps K g H (putVs (kvs.map fun p => keyD p.1) vs (keyD x) d) ((putK kvs x y).map (·.2)) := by
  unfold putKs putVs putK
  rw [has_K]
  by_cases q : (kvs.any fun p => decide (p.1 = x)) = true
  · rw [if_pos q, if_pos q, if_pos q]
    refine ⟨?_, replV_K ry rv⟩
    have e1 : (kvs.map (fun kv => if kv.1 = x then (kv.1, y) else kv)).map (fun p => kV p.1) = kvs.map (fun p => kV p.1) := by
      rw [List.map_map]; refine List.map_congr_left fun z _ => ?_
      simp only [Function.comp]; split <;> rfl
    rw [e1]; exact rk
  · rw [if_neg q, if_neg q, if_neg q, List.map_append, List.map_append]
    exact ⟨rk.append (Reps.one (by cases x <;> exact rfl)), rv.append (Reps.one ry)⟩
section
variable {X : Cx} {pins : List (Addr × Obj)} {σ : L2.St} {H : Hp} {s : Shared} {g : Gh} {a : Addr} {ks vs : List D} {L : KL}
theorem dt_at (I : Inv X pins σ H s) (e : H a = some (dtO X.w a L)) (hk : D.nks ks = some (L.map (·.1))) (rk : Reps X.kk g H ks (L.map fun x => V.ref x.2.1)) (hd : ∀ x ∈ L, x.1.depth ≤ 8) :
    L.length ≤ sizeLine ∧ (a == sysModules) = false ∧ ∃ xs, PL L xs ∧ s.heap.DictOfH (nestedKind X.prog X.w) a xs := by
  obtain ⟨⟨z, y, xs, r, o, es, ep, h1, h2, h3, h4, h5⟩, _⟩ := (show ObjOk X.prog X.w H s.heap a (dtO X.w a L) from I.hok a _ e)
  refine ⟨z, y, xs, r, o, es, ep, h1, h2, h3, h4, ?_, h5⟩
  rename_i junk
  clear junk h5 h4 h3 h2 h1 z e
  induction r generalizing ks with
  | nil => intro x hx; cases hx
  | @cons p q ps qs h t ih =>
    cases ks with
    | nil => cases hk
    | cons d ds =>
      obtain ⟨k', ks', e, q1, q2⟩ := nks_some hk
      cases e
      obtain ⟨v, vr, e, r1, r2⟩ := rk
      cases e
      intro x hx
      rcases List.mem_cons.mp hx with e | hx
      · subst e
        obtain ⟨h1, h2, h3⟩ := h
        have := rep_nk I d (.ref p.2.1) (.ref p.2.1) p.1 r1 rfl q1
        refine ⟨?_, ?_⟩
        · rw [← h1, ← h2]; exact this
        · rw [← h1]; exact hd p (List.mem_cons_self ..)
      · exact ih q2 r2 (fun z hz => hd z (List.mem_cons_of_mem _ hz)) x hx
theorem dt_ok {P : Program} {w : World} {H' : Hp} {h' : Heap} {xs : List (NestedKey × Addr × Value)} (z : L.length ≤ sizeLine) (y : (a == sysModules) = false) (r : PL L xs) (d : h'.DictOfH (nestedKind P w) a xs) : ObjOk P w H' h' a (dtO w a L) := by
  obtain ⟨o, es, ep, h1, h2, h3, h4, _, h5⟩ := d
  refine ⟨⟨z, y, xs, r, o, es, ep, h1, h2, h3, h4, h5⟩, ⟨o, h1⟩, fun t1 t2 ⟨z, y, xs, r, o, es, ep, h1, h2, h3, h4, h5⟩ k => ⟨z, y, xs, r, o, es, ep, k _ h1, h2, h3, h4, h5⟩⟩
/-- x in d, d[x] -/
theorem dic_in {v w : V} {vv uu : Value} {Q : VK} {x : D} {t : Bool} {kv w2 : List V} {ho : HO} (hu : X.A.units + 66 < cLine) (I : Inv X pins σ H s) (neg : Bool) (rx : RelV v vv) (e : H a = some ho) (rk : Reps X.kk g H ks kv) (dh : DH X.w a ks kv w2 ho t) (hx : keyOk t x = true) (r1 : Rep X.kk g H x v)
    (q : Q (.bl (xor neg (hasK ks x))) H) : wpAny (model X.prog X.w) X.A (compareOp (if neg then .NotIn else .In) vv (.ref a)) (EP X pins σ Q) X.xe s := by
  cases t with
  | true =>
    obtain ⟨L, rfl, hk, hd, rfl, rfl⟩ := dh
    obtain ⟨ds, k, rfl, q1, q2⟩ := keyT hx
    obtain ⟨_, b, xs, rfl, h2, h3⟩ := id r1
    cases rx
    obtain ⟨z, y, xs', p, dd⟩ := dt_at I e hk rk hd
    have key : (nestedKind X.prog X.w).is s.heap k b := ⟨rep_nk I _ _ _ k r1 rfl q1, q2⟩
    have room : (nestedKind X.prog X.w).room X.A.in1 := by show X.A.units + 1 + 8 < cLine; omega
    rw [has_at q1 hk p] at q
    cases neg with
    | false =>
      refine wpAny_in_heap room key y dd ⟨.bl _, H, I.tok _, rfl, ?_⟩
      simpa using q
    | true =>
      refine wpAny_notIn_heap room key y dd ⟨.bl _, H, I.tok _, rfl, ?_⟩
      simpa using q
  | false =>
    obtain ⟨kvs, rfl, rfl, rfl⟩ := dh
    obtain ⟨k, rfl⟩ := keyF hx
    cases rep_key r1
    have ek := keys_rep rk
    subst ek
    rw [has_K, valV_any] at q
    cases neg with
    | false => exact d_in (by omega) I (DGet.k e) rx fun s' I' => ⟨.bl _, H, I', rfl, by simpa using q⟩
    | true => exact d_notIn (by omega) I (DGet.k e) rx fun s' I' => ⟨.bl _, H, I', rfl, by simpa using q⟩
theorem dic_in0 {v : V} {vv : Value} {Q : VK} {x : D} {t : Bool} {kv w2 : List V} {ho : HO} (hu : X.A.units + 66 < cLine) (I : Inv X pins σ H s) (rx : RelV v vv) (e : H a = some ho) (rk : Reps X.kk g H ks kv) (dh : DH X.w a ks kv w2 ho t) (hx : keyOk t x = true) (r1 : Rep X.kk g H x v)
    (q : Q (.bl (hasK ks x)) H) : wpAny (model X.prog X.w) X.A (compareOp .In vv (.ref a)) (EP X pins σ Q) X.xe s :=
  dic_in (w := .non) (uu := .none) hu I false rx e rk dh hx r1 (by simpa using q)
theorem dic_in1 {v : V} {vv : Value} {Q : VK} {x : D} {t : Bool} {kv w2 : List V} {ho : HO} (hu : X.A.units + 66 < cLine) (I : Inv X pins σ H s) (rx : RelV v vv) (e : H a = some ho) (rk : Reps X.kk g H ks kv) (dh : DH X.w a ks kv w2 ho t) (hx : keyOk t x = true) (r1 : Rep X.kk g H x v)
    (q : Q (.bl (!hasK ks x)) H) : wpAny (model X.prog X.w) X.A (compareOp .NotIn vv (.ref a)) (EP X pins σ Q) X.xe s :=
  dic_in (w := .non) (uu := .none) hu I true rx e rk dh hx r1 (by simpa using q)
theorem dic_get {v : V} {vv : Value} {Q : VK} {x d : D} {t : Bool} {kv w2 : List V} {ho : HO} (hu : X.A.units + 66 < cLine) (I : Inv X pins σ H s) (rx : RelV v vv) (e : H a = some ho) (rk : Reps X.kk g H ks kv) (rv : Reps X.kk g H vs w2) (dh : DH X.w a ks kv w2 ho t) (hx : keyOk t x = true) (r1 : Rep X.kk g H x v)
    (hg : getK ks vs x = some d) (q : ∀ y, Rep X.kk g H d y → Q y H) : wpAny (model X.prog X.w) X.A (getItem (.ref a) vv) (EP X pins σ Q) X.xe s := by
  cases t with
  | true =>
    obtain ⟨L, rfl, hk, hd, rfl, rfl⟩ := dh
    obtain ⟨ds, k, rfl, q1, q2⟩ := keyT hx
    obtain ⟨_, b, xs, rfl, h2, h3⟩ := id r1
    cases rx
    obtain ⟨z, y, xs', p, dd⟩ := dt_at I e hk rk hd
    have key : (nestedKind X.prog X.w).is s.heap k b := ⟨rep_nk I _ _ _ k r1 rfl q1, q2⟩
    have room : (nestedKind X.prog X.w).room X.A.in1 := by show X.A.units + 1 + 8 < cLine; omega
    obtain ⟨p', y', e1, e2, e3⟩ := get_at q1 hk p rv hg
    exact wpAny_getItem_heap room key dd e1 ⟨y', H, I.tok _, e2, q _ e3⟩
  | false =>
    obtain ⟨kvs, rfl, rfl, rfl⟩ := dh
    obtain ⟨k, rfl⟩ := keyF hx
    cases rep_key r1
    have ek := keys_rep rk
    subst ek
    obtain ⟨y, e1, e2⟩ := get_K rv hg
    refine d_getItem (v := y) (by omega) I ?_ rx fun w' s' I' r' => ⟨_, H, I', r', q _ e2⟩
    rw [← e1]; exact DGet.k e
/-- d[x] = y -/
theorem dic_put {v y : V} {vv uu : Value} {Q : Unit → Shared → Prop} {x d : D} {t : Bool} {kv w2 : List V} {ho : HO} (hu : X.A.units + 66 < cLine) (I : Inv X pins σ H s) (rx : RelV v vv) (ry : RelV y uu) (e : H a = some ho) (rk : Reps X.kk g H ks kv) (rv : Reps X.kk g H vs w2) (dh : DH X.w a ks kv w2 ho t) (hx : keyOk t x = true) (r1 : Rep X.kk g H x v)
    (r2 : Rep X.kk g H d y) (hl : ks.length < lim) (q : ∀ ho' kv' w2' s', Reps X.kk g H (putKs ks x) kv' → Reps X.kk g H (putVs ks vs x d) w2' → DH X.w a (putKs ks x) kv' w2' ho' t → Inv X pins σ (upd H a ho') s' → Q () s') : wpAny (model X.prog X.w) X.A (setItem (.ref a) vv uu) Q X.xe s := by
  have hl1 : lim ≤ sizeLine := by rw [sizeLine_eq]; decide
  cases t with
  | true =>
    obtain ⟨L, rfl, hk, hd, rfl, rfl⟩ := dh
    obtain ⟨ds, k, rfl, q1, q2⟩ := keyT hx
    obtain ⟨_, b, xs, rfl, h2, h3⟩ := id r1
    cases rx
    obtain ⟨z, y', xs', p, dd⟩ := dt_at I e hk rk hd
    have key : (nestedKind X.prog X.w).is s.heap k b := ⟨rep_nk I _ _ _ k r1 rfl q1, q2⟩
    have room : (nestedKind X.prog X.w).room X.A.in1 := by show X.A.units + 1 + 8 < cLine; omega
    have ll : L.length = ks.length := by have := rk.length; simpa using this
    have pl := put_pl (k := k) (b := b) p ry
    have pk := put_keys (y := y) q1 r1 hk rk
    have hz : (putL L k b y).length ≤ sizeLine := by have := put_len L k b y; omega
    refine wpAny_setItem_heap (hsz := by rw [← p.length]; omega) room key dd fun h' dd' hs => q (dtO X.w a (putL L k b y)) _ _ _ pk.2 (put_vals (b := b) q1 r2 hk rv) ⟨_, rfl, pk.1, put_depth hd q2, rfl, rfl⟩ ?_
    have he : ∃ q, h'.get? a = some q := let ⟨q, _, _, hq, _⟩ := dd'; ⟨q, hq⟩
    exact d_write I (by rw [e]; exact True.intro) hs he (dt_ok hz y' pl dd')
  | false =>
    obtain ⟨kvs, rfl, rfl, rfl⟩ := dh
    obtain ⟨k, rfl⟩ := keyF hx
    cases rep_key r1
    have ek := keys_rep rk
    subst ek
    have pk := put_K (x := k) r2 rk rv
    exact d_setItem (by omega) I (DPut.k e (by simp at hl; omega)) rx ry fun s' I' => q _ _ _ s' pk.1 pk.2 ⟨_, rfl, rfl, rfl⟩ I'
end
end Fw
namespace Fw
open PySem PySem.Spec PyProof.Rows L2

/-! ## D. operations by values -/
def Want (K : KK) (g : Gh) (s : S) (H : Hp) (d : D) (Q : VK) : Prop := ∀ g' H' v, Ext K g H g' H' → SimS K g' s H' → Rep K g' H' d v → Q v H'
section
variable {K : KK} {g g' g1 g2 : Gh} {H H' H0 H1 H2 : Hp} {s s' : S} {env : Env} {σ : L2.St} {Q : VK} {d : D}
theorem Want.here (h : Want K g s H d Q) (w : SimS K g s H) {v : V} (r : Rep K g H d v) : Q v H := h g H v Ext.refl w r
theorem Want.tup {ds : List D} {xs : List V} {p : Addr} (h : Want K g s H (.tup ds) Q) (w : SimS K g s H) (hp : H p = none) (r : Reps K g H ds xs) (hl : ds.length ≤ sizeLine) : Q (.ref p) (upd H p (.tup xs)) :=
  h g _ _ (Ext.new hp) (w.new hp) ⟨hl, p, xs, rfl, SqT.of upd_same, Reps.ext (Ext.new hp) _ _ r⟩
theorem Want.lst {ds : List D} {xs : List V} {p : Addr} (h : Want K g s H (.lst ds) Q) (w : SimS K g s H) (hp : H p = none) (r : Reps K g H ds xs) (hl : ds.length ≤ sizeLine) : Q (.ref p) (upd H p (.lst xs)) :=
  h (g.frz p) _ _ ((Ext.new hp).frz hp) ((w.new hp).frz' (w.fresh_io hp) (by rw [upd_same]; simp)) ⟨hl, p, xs, rfl, .inr rfl, upd_same, Reps.ext ((Ext.new hp).frz hp) _ _ r⟩
theorem Want.ext (h : Want K g s H d Q) (e : Ext K g H g' H') : Want K g' s H' d Q := fun g2 H2 v e2 w r => h g2 H2 v (e.trans e2) w r

mutual
theorem Rep.dp : ∀ (d : D) (v : V), Rep K g H d v → d.dat = true → Dp K H v d.py
  | .non, _, h, _ => by cases (show _ = _ from h); exact .non
  | .bl b, _, h, _ => by cases (show _ = _ from h); exact .bl b
  | .int b, _, h, _ => by cases (show _ = _ from h); exact .int b
  | .str b, _, h, _ => by cases (show _ = _ from h); exact .str b
  | .tup ds, v, h, hd => by
    obtain ⟨_, a, xs, rfl, h2, h3⟩ := h
    exact .tup h2 (Reps.dp ds xs h3 hd)
  | .lst ds, v, h, hd => by
    obtain ⟨_, a, xs, rfl, _, h2, h3⟩ := h
    exact .lst (SqL.of h2) (Reps.dp ds xs h3 hd)
  | .dct _ _ _, _, _, hd => by cases hd
  | .ref _, _, _, hd => by cases hd
  | .scr _, _, _, hd => by cases hd
  | .ins _ _ _, _, _, hd => by cases hd
theorem Reps.dp : ∀ (ds : List D) (vs : List V), Reps K g H ds vs → D.dats ds = true → DpAll K H vs (D.pys ds)
  | [], _, h, _ => by cases (show _ = [] from h); exact .nil
  | d :: ds, vs, h, hd => by
    obtain ⟨v, r, rfl, h2, h3⟩ := h
    have hd' : (d.dat && D.dats ds) = true := hd
    rw [Bool.and_eq_true] at hd'
    exact .cons (Rep.dp d v h2 hd'.1) (Reps.dp ds r h3 hd'.2)
end
mutual
theorem dat_canLay : ∀ (d : D), d.dat = true → d.py.canLay0 = true
  | .non, _ => rfl
  | .bl _, _ => rfl
  | .int _, _ => rfl
  | .str _, h => by simp only [D.py, PyData.canLay0]; exact h
  | .tup ds, h => by simp only [D.py, PyData.canLay0]; exact dats_canLay ds h
  | .lst ds, h => by simp only [D.py, PyData.canLay0]; exact dats_canLay ds h
  | .dct _ _ _, hd => by cases hd
  | .ref _, hd => by cases hd
  | .scr _, hd => by cases hd
  | .ins _ _ _, hd => by cases hd
theorem dats_canLay : ∀ (ds : List D), D.dats ds = true → PyData.canLayAll0 (D.pys ds) = true
  | [], _ => rfl
  | d :: ds, h => by
    have hd' : (d.dat && D.dats ds) = true := h
    rw [Bool.and_eq_true] at hd'
    simp only [D.pys, PyData.canLayAll0, dat_canLay d hd'.1, dats_canLay ds hd'.2, Bool.and_self]
end
theorem RepW.dp {d : D} {v : V} (h : RepW K g H d v) (hd : d.dat = true) : Dp K H v d.py := by
  rcases h with h | ⟨o, a, ho, rfl, rfl, h1, h2, _⟩
  · exact Rep.dp d v h hd
  · cases o with
    | lst ds => obtain ⟨xs, rfl, h2⟩ := h2; exact .lst (SqL.of h1) (Reps.dp ds xs h2 hd)
    | dic t ks vs => cases hd
theorem eqOk_ok {a b : D} (h : eqOk a b = true) : (∃ x y, a = .str x ∧ b = .str y) ∨ (a.dat = true ∧ b.dat = true ∧ min a.py.depth b.py.depth ≤ 64) := by
  unfold eqOk at h
  split at h
  · exact .inl ⟨_, _, rfl, rfl⟩
  · simp only [Bool.and_eq_true, decide_eq_true_eq] at h
    exact .inr ⟨h.1.1, h.1.2, h.2⟩
theorem any_pys (a : D) : ∀ xs : List D, ((D.pys xs).any fun z => PyData.eqv z a.py) = xs.any fun z => z.eqv a
  | [] => rfl
  | x :: xs => by simp only [D.pys, List.any_cons, any_pys a xs]; rfl
theorem RepW.len {ds : List D} {v : V} (h : RepW K g H (.lst ds) v) : ds.length ≤ sizeLine := by
  rcases h with h | ⟨o, a, ho, e, e2, h1, h2, _, h3⟩
  · exact h.1
  · cases o with
    | lst ds' => cases e; exact h3
    | dic t ks vs => cases e
theorem RepW.lenT {ds : List D} {v : V} (h : RepW K g H (.tup ds) v) : ds.length ≤ sizeLine := by
  rcases h with h | ⟨o, a, ho, e, e2, h1, h2, _, h3⟩
  · exact h.1
  · cases o <;> cases e
theorem RepW.seqL {ds : List D} {v : V} (h : RepW K g H (.lst ds) v) : ∃ a xs, v = .ref a ∧ H a = some (.lst xs) ∧ Reps K g H ds xs := by
  rcases h with ⟨_, a, xs, e, _, h1, h2⟩ | ⟨o, a, ho, e, e2, h1, h2, _⟩
  · exact ⟨a, xs, e, h1, h2⟩
  · cases o with
    | lst ds' => cases e; obtain ⟨xs, rfl, h2⟩ := h2; exact ⟨a, xs, e2, h1, h2⟩
    | dic t ks vs => cases e
theorem RepW.dic {t : Bool} {ks vs : List D} {v : V} (h : RepW K g H (.dct t ks vs) v) : ∃ a ho kv vv, v = .ref a ∧ H a = some ho ∧ Reps K g H ks kv ∧ Reps K g H vs vv ∧ DH K.w a ks kv vv ho t := by
  rcases h with ⟨a, ho, kv, vv, h1, h2, h3, h4, h5, h6⟩ | ⟨o, a, ho, e, e2, h1, h2, _⟩
  · exact ⟨a, ho, kv, vv, h1, h3, h4, h5, h6⟩
  · cases o with
    | lst ds' => cases e
    | dic t' ks' vs' =>
      cases e
      obtain ⟨kv, vv, q1, q2, q3⟩ := h2
      exact ⟨a, ho, kv, vv, e2, h1, q1, q2, q3⟩
theorem RepW.seqT {ds : List D} {v : V} (h : RepW K g H (.tup ds) v) : ∃ a xs, v = .ref a ∧ SqT K H a xs ∧ Reps K g H ds xs := by
  rcases h with h | ⟨o, a, ho, e, e2, h1, h2, _⟩
  · exact h.2
  · cases o <;> cases e
def _root_.Fw.D.isO : D → Bool
  | .lst _ => true
  | .dct _ _ _ => true
  | _ => false
theorem RepW.strict {v : V} (h : RepW K g H d v) (hd : d.isO = false) : Rep K g H d v := by
  rcases h with h | ⟨o, a, ho, e, e2, h1, h2, _⟩
  · exact h
  · subst e; cases o <;> cases hd
theorem RepW.int {i : Int} {v : V} (h : RepW K g H (.int i) v) : v = .int i := h.strict rfl
theorem RepW.str {x : Str} {v : V} (h : RepW K g H (.str x) v) : v = .str x := h.strict rfl
theorem RepW.bl {x : Bool} {v : V} (h : RepW K g H (.bl x) v) : v = .bl x := h.strict rfl
theorem RepW.ext {v : V} (h : RepW K g H d v) (e : Ext K g H g' H') : RepW K g' H' d v := by
  rcases h with h | ⟨o, a, ho, rfl, rfl, h1, h2, h3, h4⟩
  · exact .inl (Rep.ext e d v h)
  · exact .inr ⟨o, a, ho, rfl, rfl, e.keep a _ h1 h3, RepOo.ext e h2, fun q => (e.ioN a q).elim h3 fun z => (by rw [z] at h1; cases h1), h4⟩
def RepWs (K : KK) (g : Gh) (H : Hp) : List D → List V → Prop
  | [], vs => vs = []
  | d :: ds, vs => ∃ v r, vs = v :: r ∧ RepW K g H d v ∧ RepWs K g H ds r
theorem RepWs.ext (e : Ext K g H g' H') : ∀ {ds : List D} {vs : List V}, RepWs K g H ds vs → RepWs K g' H' ds vs
  | [], _, h => h
  | d :: ds, vs, h => by
    obtain ⟨v, r, h1, h2, h3⟩ := h
    exact ⟨v, r, h1, h2.ext e, RepWs.ext e h3⟩
theorem Reps.weak : ∀ {ds : List D} {vs : List V}, Reps K g H ds vs → RepWs K g H ds vs
  | [], _, h => h
  | d :: ds, vs, h => by
    obtain ⟨v, r, h1, h2, h3⟩ := h
    exact ⟨v, r, h1, .inl h2, Reps.weak h3⟩
theorem RepWs.one {vs : List V} (h : RepWs K g H [d] vs) : ∃ v, vs = [v] ∧ RepW K g H d v := by
  obtain ⟨v, r, rfl, h2, h3⟩ := h
  cases (show r = [] from h3)
  exact ⟨v, rfl, h2⟩
theorem RepWs.two {d2 : D} {vs : List V} (h : RepWs K g H [d, d2] vs) : ∃ v w, vs = [v, w] ∧ RepW K g H d v ∧ RepW K g H d2 w := by
  obtain ⟨v, r, rfl, h2, h3⟩ := h
  obtain ⟨w, rfl, h4⟩ := h3.one
  exact ⟨v, w, rfl, h2, h4⟩
end

section
variable {X : Cx} {k : Nat}
/-- a op b: the operands weak -/
def rBin (K : KK) (o : Operator) : R2 := fun v w H Q => ∃ g s x y d, binop o x y = some d ∧ SimS K g s H ∧ RepW K g H x v ∧ RepW K g H y w ∧ Want K g s H d Q
theorem line_lim {n : Nat} (h : n ≤ lim) : n ≤ sizeLine := by rw [sizeLine_eq]; unfold lim at h; omega
theorem op_bin (o : Operator) : OpR X (binaryOp o) (rBin X.kk o) := by
  intro pins s σ H v w vv uu Q I rx ry h
  obtain ⟨g, S, x, y, d, hb, sim, r1, r2, hq⟩ := h
  unfold binop at hb
  split at hb
  · cases hb; cases r1.int; cases r2.int
    exact op_add pins s σ H _ _ vv uu Q I rx ry ⟨_, _, rfl, rfl, hq.here sim rfl⟩
  · obtain ⟨h1, h2⟩ := guardB_some hb
    cases h2; cases r1.str; cases r2.str
    exact op_add_str pins s σ H _ _ vv uu Q I rx ry ⟨_, _, rfl, rfl, line_lim (of_decide_eq_true h1), hq.here sim rfl⟩
  · obtain ⟨h1, h2⟩ := guardB_some hb
    cases h2
    obtain ⟨a, xs, rfl, a1, a2⟩ := r1.seqT
    obtain ⟨b, ys, rfl, b1, b2⟩ := r2.seqT
    have hl := of_decide_eq_true h1
    have l1 := a2.length
    have l2 := b2.length
    refine op_catA pins s σ H _ _ vv uu Q I rx ry ⟨a, b, xs, ys, rfl, rfl, a1, b1, by rw [l1, l2]; exact line_lim hl, fun e => ?_, fun e1 e => ?_, fun e1 e2 p hp => hq.tup sim hp (a2.append b2) (by rw [List.length_append]; exact line_lim hl)⟩
    · subst e
      have e0 := List.eq_nil_of_length_eq_zero l1.symm
      subst e0
      exact hq.here sim ⟨r2.lenT, b, ys, rfl, b1, b2⟩
    · subst e
      have e0 := List.eq_nil_of_length_eq_zero l2.symm
      subst e0
      exact hq.here sim ⟨by simpa using r1.lenT, a, xs, rfl, a1, by simpa using a2⟩
  · cases hb; cases r1.int; cases r2.int
    exact op_sub pins s σ H _ _ vv uu Q I rx ry ⟨_, _, rfl, rfl, hq.here sim rfl⟩
  · obtain ⟨h1, h2⟩ := guardB_some hb
    cases h2; cases r2.int
    obtain ⟨a, xs, rfl, a1, a2⟩ := r1.seqT
    have l1 := a2.length
    simp only [Bool.or_eq_true, Bool.and_eq_true, decide_eq_true_eq, List.isEmpty_iff] at h1
    rename_i ds k
    by_cases e : ds = []
    · subst e
      have e0 := List.eq_nil_of_length_eq_zero l1
      subst e0
      have hk : -(2 ^ 63) ≤ k ∧ k < 2 ^ 63 := by rcases h1 with ⟨_, z⟩ | z <;> omega
      refine op_rep0 pins s σ H _ _ vv uu Q I rx ry ⟨a, k, rfl, rfl, a1, hk.1, hk.2, hq.here sim ⟨by simp, a, [], rfl, a1, ?_⟩⟩
      simp [Reps]
    · have h2 : -(2 ^ 63) ≤ k ∧ k ≤ 1000000 ∧ k.toNat * ds.length ≤ 1000000 := by
        rcases h1 with ⟨z, _⟩ | z
        · exact absurd z e
        · exact z
      have hxe : xs ≠ [] := fun z => e (by subst z; exact List.eq_nil_of_length_eq_zero l1.symm)
      rcases Int.lt_or_le k 2 with hk | hk
      · refine op_repS pins s σ H _ _ vv uu Q I rx ry ⟨a, k, xs, rfl, rfl, a1, hxe, ?_⟩
        rcases Int.lt_or_le k 1 with hk1 | hk1
        · have e0 : k.toNat = 0 := by omega
          rw [e0] at hq
          exact .inr ⟨h2.1, by omega, fun p hp => hq.tup sim hp rfl (by simp)⟩
        · have e1 : k = 1 := by omega
          subst e1
          have e2 : (List.replicate (Int.toNat 1) ds).flatten = ds := by simp
          rw [e2] at hq
          exact .inl ⟨rfl, hq.here sim ⟨r1.lenT, a, xs, rfl, a1, a2⟩⟩
      have hle : (List.replicate k.toNat ds).flatten.length ≤ sizeLine := by
        rw [PyProof.Rows.lm_len_rep_flat, sizeLine_eq]
        omega
      refine op_repU pins s σ H _ _ vv uu Q I rx ry ⟨a, k, xs, rfl, rfl, a1, hxe, hk, h2.2.1, (by rw [l1]; exact h2.2.2), fun p hp => hq.tup sim hp (a2.rep _) hle⟩
  · obtain ⟨h1, h2⟩ := guardB_some hb
    cases h2; cases r1.int; cases r2.int
    unfold mulOk at h1
    simp only [Bool.or_eq_true, decide_eq_true_eq] at h1
    rcases h1 with h1 | h1
    · exact op_mul pins s σ H _ _ vv uu Q I rx ry ⟨_, _, rfl, rfl, h1, hq.here sim rfl⟩
    · exact op_mulW pins s σ H _ _ vv uu Q I rx ry ⟨_, _, rfl, rfl, h1, hq.here sim rfl⟩
  · obtain ⟨h1, h2⟩ := guardB_some hb
    cases h2; cases r1.str; cases r2.int
    rename_i x j
    have h1 := of_decide_eq_true h1
    obtain ⟨h3, h4, h5⟩ := h1
    obtain ⟨t, rfl⟩ := rx
    obtain ⟨t', rfl⟩ := ry
    refine PySem.SB.mul ⟨?_, fun hn _ => ?_, fun hn _ => ?_⟩ fun t' k => ⟨.str _, H, I.tok _, ⟨_, rfl⟩, hq.here sim rfl⟩
    · rw [decide_eq_false (by omega), decide_eq_false (by omega)]; rfl
    · intro hgt
      have h6 : (2 ^ 63 - 1 : Int) / j < (x.length : Int) := hgt
      have h7 := (Int.ediv_lt_iff_lt_mul (by omega)).mp h6
      have h8 : ((x.length * j.toNat : Nat) : Int) = (x.length : Int) * j := by
        rw [Int.natCast_mul, Int.toNat_of_nonneg (by omega)]
      omega
    · unfold Builtin.Str.tooLong
      refine decide_eq_false ?_
      rw [sizeLine_eq]
      omega
  · obtain ⟨h1, h2⟩ := guardB_some hb
    cases h2; cases r1.int; cases r2.int
    have h1 := of_decide_eq_true h1
    exact op_fdiv pins s σ H _ _ vv uu Q I rx ry ⟨_, _, rfl, rfl, h1, hq.here sim rfl⟩
  · obtain ⟨h1, h2⟩ := guardB_some hb
    cases h2; cases r1.int; cases r2.int
    exact op_mod pins s σ H _ _ vv uu Q I rx ry ⟨_, _, rfl, rfl, of_decide_eq_true h1, hq.here sim rfl⟩
  · obtain ⟨h1, h2⟩ := guardB_some hb
    cases h2; cases r1.int; cases r2.int
    rw [Bool.or_eq_true] at h1
    rcases h1 with h1 | h1
    · have h1 := of_decide_eq_true h1
      exact op_pow pins s σ H _ _ vv uu Q I rx ry ⟨_, _, rfl, rfl, h1, hq.here sim rfl⟩
    · have h1 := of_decide_eq_true h1
      exact (opI (C := fun i j => 0 ≤ j ∧ (Builtin.Int.intBits i : Int) * j ≤ 2 ^ 27) (g := fun i j => i ^ j.toNat) fun _ _ _ _ _ _ _ hc q => PyProof.Rows.pow_int hc.1 hc.2 q) pins s σ H _ _ vv uu Q I rx ry ⟨_, _, rfl, rfl, h1, hq.here sim rfl⟩
  · cases hb
def rUn (K : KK) (o : UnaryOp) : V → Hp → VK → Prop := fun v H Q => ∃ g s x d, unop o x = some d ∧ SimS K g s H ∧ RepW K g H x v ∧ Want K g s H d Q
theorem op_un (o : UnaryOp) : UnR X (unaryOp o) (rUn X.kk o) := by
  intro pins s σ H v vv Q I rx h
  obtain ⟨g, S, x, d, hb, sim, r1, hq⟩ := h
  unfold unop at hb
  split at hb
  · cases hb; cases r1.int
    exact un_neg pins s σ H _ vv Q I rx ⟨_, rfl, hq.here sim rfl⟩
  · cases hb
/-- a comparison: the answer is a bool, the heap stays -/
def rCmp (K : KK) (o : CmpOp) : R2 := fun v w H Q => ∃ g s x y b, cmpop o x y = some b ∧ SimS K g s H ∧ RepW K g H x v ∧ RepW K g H y w ∧ Q (.bl b) H
theorem non_iff {K : KK} {g : Gh} {H : Hp} {x : D} {v : V} (h : RepW K g H x v) : decide (v = V.non) = x.isNon := by
  cases x with
  | non => cases h.strict rfl; rfl
  | bl b => cases h.bl; rfl
  | int b => cases h.int; rfl
  | str b => cases h.str; rfl
  | tup b => obtain ⟨a, xs, rfl, _⟩ := h.seqT; rfl
  | lst b => obtain ⟨a, xs, rfl, _⟩ := h.seqL; rfl
  | dct t b c => obtain ⟨a, ho, kv, vv, rfl, _⟩ := h.dic; rfl
  | ref n => obtain ⟨a, rfl, _⟩ := h.strict rfl; rfl
  | scr n => obtain ⟨a, rfl, _⟩ := h.strict rfl; rfl
  | ins c ns fs => obtain ⟨a, _, _, _, rfl, _⟩ := h.strict rfl; rfl
theorem ints_rep {K : KK} {g : Gh} {H : Hp} : ∀ {ds : List D} {xs : List V} {bs : List Int}, Reps K g H ds xs → intsD ds = some bs → xs = bs.map V.int
  | [], xs, bs, h, e => by cases (show xs = [] from h); cases e; rfl
  | d :: ds, xs, bs, h, e => by
    obtain ⟨v, r, rfl, h1, h2⟩ := h
    cases d with
    | int b =>
      cases q : intsD ds with
      | none => simp [intsD, q] at e
      | some cs =>
        simp [intsD, q] at e
        subst e
        cases (show v = _ from h1)
        rw [ints_rep h2 q]
        rfl
    | _ => cases e
theorem keyOk_isO {t : Bool} {x : D} (h : keyOk t x = true) : x.isO = false := by
  cases t <;> cases x <;> first | rfl | cases h
theorem signD_ok {x : Str} {c : Nat} (h : signD x = some c) : x = ⟨#[c]⟩ := by
  unfold signD at h
  split at h
  · rename_i d e
    cases h
    exact TL.ext_tl e
  · cases h
theorem op_cmp (hu : X.A.units + 66 < cLine) (o : CmpOp) : OpR X (compareOp o) (rCmp X.kk o) := by
  intro pins s σ H v w vv uu Q I rx ry h
  obtain ⟨g, S, x, y, b, hb, sim, r1, r2, hq⟩ := h
  have eqs : ∀ {x y : D}, eqOk x y = true → ¬ (∃ a b, x = .str a ∧ y = .str b) → RepW X.kk g H x v → RepW X.kk g H y w → ∃ as bs, Reads s.heap vv x.py as ∧ Reads s.heap uu y.py bs ∧ x.py.canLay0 = true ∧ y.py.canLay0 = true ∧ min x.py.depth y.py.depth ≤ 64 := by
    intro x y he hn h1 h2
    obtain ⟨e1, e2, e3⟩ := (eqOk_ok he).resolve_left hn
    obtain ⟨as, q1⟩ := Dp.reads I _ _ _ (h1.dp e1) rx
    obtain ⟨bs, q2⟩ := Dp.reads I _ _ _ (h2.dp e2) ry
    exact ⟨as, bs, q1, q2, dat_canLay _ e1, dat_canLay _ e2, e3⟩
  have fin : ∀ {c : Bool}, c = b → EP X pins σ Q (.bool c) s := fun {c} e => ⟨.bl b, H, I, by rw [e]; rfl, hq⟩
  unfold cmpop at hb
  split at hb
  · rename_i ds
    cases hb
    obtain ⟨a, xs, rfl, a1, a2⟩ := r1.seqT
    obtain ⟨c, ys, rfl, b1, b2⟩ := r2.seqT
    cases (show ys = [] from b2)
    cases rx; cases ry
    obtain ⟨its, q1, q2, _⟩ := I.tuple a1
    obtain ⟨its2, q3, q4, _⟩ := I.tuple b1
    cases q3
    refine SeqAt.RcAt.tuples (e := fun _ => true) q2 q4 (by omega) (fun j _ z => by simp at z) X.prog X.w _ _ (fin ?_)
    have l3 : its.length = ds.length := by rw [← a2.length, ← q1.length]
    clear fin hq r1 a2 q1 q2 eqs a1
    cases ds <;> cases its <;> simp_all
  · rename_i ds
    cases hb
    obtain ⟨a, xs, rfl, a1, a2⟩ := r1.seqT
    obtain ⟨c, ys, rfl, b1, b2⟩ := r2.seqT
    cases (show ys = [] from b2)
    cases rx; cases ry
    obtain ⟨its, q1, q2, _⟩ := I.tuple a1
    obtain ⟨its2, q3, q4, _⟩ := I.tuple b1
    cases q3
    refine SeqAt.RcNeAt.tuples (e := fun _ => true) q2 q4 (by omega) (fun j _ z => by simp at z) X.prog X.w _ _ (fin ?_)
    have l3 : its.length = ds.length := by rw [← a2.length, ← q1.length]
    clear fin hq r1 a2 q1 q2 eqs a1
    cases ds <;> cases its <;> simp_all
  · rename_i i1 ds
    cases hb
    obtain ⟨a, xs, rfl, a1, a2⟩ := r1.seqL
    obtain ⟨c, ys, rfl, b1, b2⟩ := r2.seqL
    cases (show ys = [] from b2)
    cases rx; cases ry
    obtain ⟨its, q1, q2, _⟩ := I.list (SqL.of a1)
    obtain ⟨its2, q3, q4, _⟩ := I.list (SqL.of b1)
    cases q3
    have l3 : its.length = ds.length + 1 := by rw [← q1.length, a2.length]; rfl
    exact SeqAt.RcAt.lists_lengths q2.isList q4.isList (by simp [l3]) (by omega) X.prog X.w _ _ (fin rfl)
  · rename_i i1 ds
    cases hb
    obtain ⟨a, xs, rfl, a1, a2⟩ := r1.seqL
    obtain ⟨c, ys, rfl, b1, b2⟩ := r2.seqL
    cases (show ys = [] from b2)
    cases rx; cases ry
    obtain ⟨its, q1, q2, _⟩ := I.list (SqL.of a1)
    obtain ⟨its2, q3, q4, _⟩ := I.list (SqL.of b1)
    cases q3
    have l3 : its.length = ds.length + 1 := by rw [← q1.length, a2.length]; rfl
    exact SeqAt.RcNeAt.lists_lengths q2.isList q4.isList (by simp [l3]) (by omega) X.prog X.w _ _ (fin rfl)
  · obtain ⟨h1, h2⟩ := guardB_some hb
    cases h2
    by_cases hs : ∃ a b, x = .str a ∧ y = .str b
    · obtain ⟨a, b, rfl, rfl⟩ := hs
      cases r1.str; cases r2.str
      refine op_eq pins s σ H _ _ vv uu Q I rx ry ⟨rfl, ?_⟩
      rw [dec_str]
      exact hq
    · obtain ⟨as, bs, q1, q2, q3, q4, q5⟩ := eqs h1 hs r1 r2
      exact SeqAt.compareEq_reads q1 q2 q3 q4 (by omega) (fin rfl)
  · obtain ⟨h1, h2⟩ := guardB_some hb
    cases h2
    by_cases hs : ∃ a b, x = .str a ∧ y = .str b
    · obtain ⟨a, b, rfl, rfl⟩ := hs
      cases r1.str; cases r2.str
      refine op_ne pins s σ H _ _ vv uu Q I rx ry ⟨rfl, ?_⟩
      rw [dec_str]
      exact hq
    · obtain ⟨as, bs, q1, q2, q3, q4, q5⟩ := eqs h1 hs r1 r2
      exact SeqAt.compareNe_reads q1 q2 q3 q4 (by omega) (fin rfl)
  · cases hb; cases r1.int; cases r2.int
    exact op_lt pins s σ H _ _ vv uu Q I rx ry ⟨_, _, rfl, rfl, hq⟩
  · rename_i ds es
    unfold ltInts at hb
    split at hb
    · rename_i ns ms e1 e2
      cases hb
      obtain ⟨a, xs, rfl, a1, a2⟩ := r1.seqT
      obtain ⟨c, ys, rfl, b1, b2⟩ := r2.seqT
      rw [ints_rep a2 e1] at a1
      rw [ints_rep b2 e2] at b1
      exact op_ltT (by omega) pins s σ H _ _ vv uu Q I rx ry ⟨_, _, _, _, rfl, rfl, a1, b1, hq⟩
    · unfold ltNest at hb
      obtain ⟨h1, h2⟩ := guardB_some hb
      cases h2
      simp only [Bool.and_eq_true, decide_eq_true_eq] at h1
      obtain ⟨⟨⟨d1, d2⟩, d3⟩, d4⟩ := h1
      obtain ⟨as, q1⟩ := Dp.reads I _ _ _ (r1.dp d1) rx
      obtain ⟨bs, q2⟩ := Dp.reads I _ _ _ (r2.dp d2) ry
      exact PySem.W.rcLt_alike _ _ X.A s vv uu as bs q1 q2 d3 (by simp [D.py]) (by omega) X.prog X.w _ _ (fin rfl)
  · cases hb; cases r1.int; cases r2.int
    exact op_le pins s σ H _ _ vv uu Q I rx ry ⟨_, _, rfl, rfl, hq⟩
  · cases hb; cases r1.int; cases r2.int
    exact op_gt pins s σ H _ _ vv uu Q I rx ry ⟨_, _, rfl, rfl, hq⟩
  · cases hb; cases r1.int; cases r2.int
    exact op_ge pins s σ H _ _ vv uu Q I rx ry ⟨_, _, rfl, rfl, hq⟩
  · cases hb
    have e := non_iff r1
    refine op_isN pins s σ H _ _ vv uu Q I rx ry ⟨r2.strict rfl, ?_⟩
    rw [e]; exact hq
  · cases hb
    have e := non_iff r1
    refine op_notN pins s σ H _ _ vv uu Q I rx ry ⟨r2.strict rfl, ?_⟩
    rw [e]
    exact hq
  · cases hb; cases r1.bl; cases r2.bl
    exact op_isBl pins s σ H _ _ vv uu Q I rx ry ⟨_, _, rfl, rfl, hq⟩
  · cases hb; cases r1.bl; cases r2.bl
    exact op_notBl pins s σ H _ _ vv uu Q I rx ry ⟨_, _, rfl, rfl, hq⟩
  all_goals first
    | (cases hb; done)
    | (obtain ⟨h1, h2⟩ := guardB_some hb
       cases h2
       obtain ⟨as, bs, q1, q2, q3, q4, q5⟩ := eqs h1 (fun ⟨_, _, _, z⟩ => nomatch z) r1 r2
       rw [← any_pys] at fin
       simp only [D.py, PyData.canLay0] at q4
       simp only [D.py, PyData.depth] at q5
       first
         | exact SeqAt.in_tuple_reads q2 q1 q4 q3 (by omega) (fin rfl)
         | exact SeqAt.in_list_reads q2 q1 q4 q3 (by omega) (fin rfl)
         | exact SeqAt.notIn_tuple_reads q2 q1 q4 q3 (by omega) (fin rfl)
         | exact SeqAt.notIn_list_reads q2 q1 q4 q3 (by omega) (fin rfl))
    | (obtain ⟨h1, h2⟩ := guardB_some hb
       cases h2
       obtain ⟨a, ho, kv, w2, rfl, e1, e2, e3, e4⟩ := r2.dic
       cases ry
       first
         | exact dic_in0 hu I rx e1 e2 e4 h1 (r1.strict (keyOk_isO h1)) hq
         | exact dic_in1 hu I rx e1 e2 e4 h1 (r1.strict (keyOk_isO h1)) hq)
    | (cases r1.str; cases r2.str
       obtain ⟨ch, hc, rfl⟩ := Option.map_eq_some_iff.mp hb
       cases signD_ok hc
       first
         | exact op_in_sign pins s σ H _ _ vv uu Q I rx ry ⟨_, _, rfl, rfl, hq⟩
         | exact op_notIn_sign pins s σ H _ _ vv uu Q I rx ry ⟨_, _, rfl, rfl, hq⟩)
/-- truth -/
theorem tru_rep {K : KK} {g : Gh} {H : Hp} {x : D} {v : V} {b : Bool} (h : RepW K g H x v) (hb : truth x = some b) : TruV K v H b := by
  cases x with
  | non => cases hb; cases h.strict rfl; rfl
  | bl c => cases hb; cases h.bl; rfl
  | int c => cases hb; cases h.int; rfl
  | str c => cases hb
  | tup ds =>
    cases hb
    obtain ⟨a, xs, rfl, h1, h2⟩ := h.seqT
    refine .inr (.inl ⟨xs, h1, ?_⟩)
    have := h2.length
    cases ds <;> cases xs <;> simp_all
  | lst ds =>
    cases hb
    obtain ⟨a, xs, rfl, h1, h2⟩ := h.seqL
    refine .inl ⟨xs, SqL.of h1, ?_⟩
    have := h2.length
    cases ds <;> cases xs <;> simp_all
  | dct _ _ _ => cases hb
  | ref _ => cases hb
  | scr _ => cases hb
  | ins _ _ _ => cases hb
/-- x[i] -/
def rSub (K : KK) : R2 := fun v w H Q => ∃ g s x y d, subS s x y = some d ∧ SimS K g s H ∧ RepW K g H x v ∧ RepW K g H y w ∧ Want K g s H d Q
theorem atI_rep {K : KK} {g : Gh} {H : Hp} {ds : List D} {xs : List V} {i : Int} {d : D} (h : Reps K g H ds xs) (e : atI ds i = some d) : ∃ v, atI xs i = some v ∧ Rep K g H d v := by
  unfold atI at e ⊢
  rw [h.length]
  cases q : ixN ds.length i with
  | none => rw [q] at e; cases e
  | some j =>
    rw [q] at e
    obtain ⟨v, h1, h2⟩ := h.get (show ds[j]? = some d from e)
    exact ⟨v, h1, h2⟩
theorem dic_type {pins : List (Addr × Obj)} {σ : L2.St} {H : Hp} {s : Shared} {a : Addr} {ks : List D} {kv w2 : List V} {ho : HO} {t : Bool} (I : Inv X pins σ H s) (e : H a = some ho) (dh : DH X.w a ks kv w2 ho t) : s.TypeIs (.ref a) "dict" := by
  cases t with
  | true =>
    obtain ⟨L, rfl, _⟩ := dh
    obtain ⟨⟨z, y, xs, r, o, es, ep, h1, h2, _⟩, _⟩ := (show ObjOk X.prog X.w H s.heap a (dtO X.w a L) from I.hok a _ e)
    exact ⟨o, h1, h2.1⟩
  | false =>
    obtain ⟨kvs, rfl, _⟩ := dh
    obtain ⟨_, _, vs, _, dd⟩ := dk_of I.hok e
    exact dd.typeIs
theorem tailD {prog : Program} {w : World} {A : Around} {E : Value → Shared → Prop} {s : Shared} {value slice : Expr} {o i : Value} {Q : Value → Shared → Prop} (hT : s.TypeIs o "dict") (hs : subscripted slice false o i = operate [o, i] (getItem o i)) (h : wpAny (model prog w) A (getItem o i) Q E s) :
    wpAny (model prog w) A (subscriptTail value slice o i) Q E s := by
  unfold subscriptTail
  refine wpAny_bind ?_
  rw [getitemInPython_of_ne hT.not_modules]
  refine wpAny_bind (wpAny_specialOf hT PySem.F.slot_dict_getitem.lookup ?_)
  have fin : wpAny (model prog w) A (subscripted slice false o i) (fun r s₃ => wpAny (model prog w) A (letTemporaryGo value o r >>= fun _ => pure r) Q E s₃) E s := by
    rw [hs]
    exact wpAny_operating (wpAny_mono h (fun r s₃ h₃ => wpAny_bind (wpAny_letTemporaryGo (wpAny_pure h₃))) fun _ _ x => x)
  first
    | exact wpAny_pure (wpAny_bind fin)
    | exact wpAny_bind (wpAny_pure (wpAny_bind fin))
    | exact wpAny_bind fin
theorem op_sub' (hu : X.A.units + 66 < cLine) : IxR X (rSub X.kk) := by
  intro value slice pins s σ H v w vv uu Q I rx ry h hsub
  obtain ⟨g, S, x, y, d, hb, sim, r1, r2, hq⟩ := h
  unfold subS at hb
  split at hb
  · rename_i n i
    cases r2.int
    split at hb
    · rename_i ds e
      obtain ⟨a, rfl, ha⟩ := r1.strict rfl
      obtain ⟨a', ho, e1, e2, xs, e3, e4⟩ := sim.obj n _ e
      rw [ha] at e1; cases e1; subst e3
      obtain ⟨z, z1, z2⟩ := atI_rep e4 hb
      exact ix_list value slice pins s σ H _ _ vv uu Q I rx ry ⟨a, xs, i, z, rfl, rfl, SqL.of e2, z1, hq.here sim z2⟩ hsub
    · cases hb
  · unfold subD at hb
    split at hb
    · cases r2.int
      obtain ⟨a, xs, rfl, a1, a2⟩ := r1.seqT
      obtain ⟨z, z1, z2⟩ := atI_rep a2 hb
      exact ix_tup value slice pins s σ H _ _ vv uu Q I rx ry ⟨a, xs, _, z, rfl, rfl, a1, z1, hq.here sim z2⟩ hsub
    · cases r2.int
      obtain ⟨a, xs, rfl, a1, a2⟩ := r1.seqL
      obtain ⟨z, z1, z2⟩ := atI_rep a2 hb
      exact ix_list value slice pins s σ H _ _ vv uu Q I rx ry ⟨a, xs, _, z, rfl, rfl, SqL.of a1, z1, hq.here sim z2⟩ hsub
    · obtain ⟨h1, h2⟩ := guardB_some hb
      obtain ⟨a, ho, kv, w2, rfl, e1, e2, e3, e4⟩ := r1.dic
      cases rx
      exact tailD (dic_type I e1 e4) hsub (dic_get hu I ry e1 e2 e3 e4 h1 (r2.strict (keyOk_isO h1)) h2 fun y r => hq.here sim r)
    · obtain ⟨h1, h2⟩ := guardB_some hb
      obtain ⟨ch, hc, rfl⟩ := Option.map_eq_some_iff.mp h2
      cases r1.str; cases r2.int
      exact ix_str value slice pins s σ H _ _ vv uu Q I rx ry ⟨_, _, _, rfl, rfl, line_lim (of_decide_eq_true h1), hc, hq.here sim rfl⟩ hsub
    · cases hb
/-- x[lo:hi] -/
def rSlc (K : KK) : V → Option Int → Option Int → Hp → VK → Prop := fun v lo hi H Q => ∃ g s x d, sliceD x lo hi = some d ∧ SimS K g s H ∧ RepW K g H x v ∧ Want K g s H d Q
theorem sl_any : SlR X (rSlc X.kk) := by
  intro pins s σ H x v vl vu lo hi sl Q I rx hs pl pu h
  obtain ⟨g, S, x, d, hb, sim, r1, hq⟩ := h
  unfold sliceD at hb
  split at hb
  · cases hb
    obtain ⟨a, xs, rfl, a1, a2⟩ := r1.seqT
    refine sl_tupA pins s σ H _ v vl vu lo hi sl Q I rx hs pl pu ⟨a, xs, rfl, a1, fun hw => ?_, fun hw p hp => hq.tup sim hp (a2.cut lo hi) (Nat.le_trans (cut_len _ _ _) r1.lenT)⟩
    refine hq.here sim ⟨Nat.le_trans (cut_len _ _ _) r1.lenT, a, xs, rfl, a1, ?_⟩
    have hc := a2.cut lo hi
    have e1 : cutV xs lo hi = xs := by unfold cutV; rw [hw.1, hw.2]; simp
    rw [e1] at hc
    exact hc
  · cases hb
    obtain ⟨a, xs, rfl, a1, a2⟩ := r1.seqL
    exact sl_list pins s σ H _ v vl vu lo hi sl Q I rx hs pl pu ⟨a, xs, rfl, SqL.of a1, fun p hp => hq.lst sim hp (a2.cut lo hi) (Nat.le_trans (cut_len _ _ _) r1.len)⟩
  · rename_i ns
    obtain ⟨h1, h2⟩ := guardB_some hb
    cases h2
    obtain ⟨a, rfl, a1⟩ := r1.strict rfl
    have a2 : Reps X.kk g H (ns.map D.int) (ns.map V.int) := by
      clear hb hq a1 h1 r1
      induction ns with
      | nil => exact rfl
      | cons n ns ih => exact ⟨_, _, rfl, rfl, ih⟩
    refine sl_list pins s σ H _ v vl vu lo hi sl Q I rx hs pl pu ⟨a, _, rfl, a1.elim (fun z => .inl (.inr z)) .inr, fun p hp => hq.lst sim hp (a2.cut lo hi) (Nat.le_trans (cut_len _ _ _) ?_)⟩
    rw [List.length_map]
    exact line_lim (of_decide_eq_true h1)
  · obtain ⟨h1, h2⟩ := guardB_some hb
    cases h2; cases r1.str
    exact sl_str pins s σ H _ v vl vu lo hi sl Q I rx hs pl pu ⟨_, rfl, line_lim (of_decide_eq_true h1), hq.here sim rfl⟩
  · cases hb
end
end Fw
namespace Fw
open PySem PySem.Spec PyProof.Rows L2

/-! ## E. repr, built-in calls, isinstance -/
section
variable {X : Cx} {pins : List (Addr × Obj)} {σ : L2.St} {H : Hp} {s : Shared} {g : Gh}
theorem dct_reads (I : Inv X pins σ H s) {a : Addr} (h : H a = some (.dK [])) : ∃ o es n, s.heap.get? a = some o ∧ o.cls = .type "dict" ∧ o.data = .dict es n ∧ es.toList = [] ∧ (a == sysModules) = false := by
  obtain ⟨_, hs, vs, r, o, es, ep, h1, h2, h3, h4, h5, _⟩ := (show ObjOk X.prog X.w H s.heap a (.dK []) from I.hok a _ h)
  cases r
  have h6 : es.toList = [] := by
    generalize es.toList = l at h5
    cases h5
    rfl
  exact ⟨o, es, ep, h1, h2.1, h3, h6, hs⟩
theorem shown_tup (ds : List D) : (D.tup ds).py.shown = tupleText (PyData.shownAll (D.pys ds)) := by simp only [D.py, PyData.shown]
theorem shown_lst (ds : List D) : (D.lst ds).py.shown = listText (PyData.shownAll (D.pys ds)) := by simp only [D.py, PyData.shown]
theorem dct_nil_py : (D.dct false [] []).py = .dict [] := by simp only [D.py, D.pys, List.zip_nil_left]
theorem shw_dct {t : Bool} {ks vs : List D} (h : (D.dct t ks vs).shw = true) : t = false ∧ ks = [] ∧ vs = [] := by
  simp only [D.shw, Bool.and_eq_true, Bool.not_eq_true', List.isEmpty_iff] at h
  exact ⟨h.1.1, h.1.2, h.2⟩
theorem dct_nil {K : KK} {g : Gh} {H : Hp} {v : V} (h : Rep K g H (.dct false [] []) v) : ∃ a, v = .ref a ∧ H a = some (.dK []) := by
  obtain ⟨a, ho, kv, vv, h1, h2, h3, h4, h5, kvs, rfl, h6, h7⟩ := h
  cases (show kv = [] from h4)
  have : kvs = [] := by cases kvs with
    | nil => rfl
    | cons k r => cases h6
  subst this
  exact ⟨a, h1, h3⟩
mutual
/-- what a datum's text asks -/
theorem rep_text (I : Inv X pins σ H s) : ∀ (d : D) (v : V) (u : Value), Rep X.kk g H d v → RelV v u → d.shw = true → d.py.shown.length ≤ sizeLine →
    (∃ as, Reads s.heap u d.py as) ∧ ∃ bs, ReadAtMost s.heap d.py.depth bs ∧ ReprK X.prog X.w bs s.heap d.py.depth u d.py.shown
  | .non, _, _, h, r, _, _ => by
    cases (show _ = _ from h); cases r
    exact ⟨⟨_, .none⟩, [], (fun _ z => nomatch z), by simp only [D.py, PyData.shown]; exact .of_is ReprIs.none _ _ _⟩
  | .bl b, _, _, h, r, _, _ => by
    cases (show _ = _ from h); cases r
    exact ⟨⟨_, .bool b⟩, [], (fun _ z => nomatch z), by simp only [D.py, PyData.shown]; exact .of_is (ReprIs.bool b) _ _ _⟩
  | .int i, _, _, h, r, hs, _ => by
    cases (show _ = _ from h); obtain ⟨t, rfl⟩ := r
    have hs' : decide (i.natAbs.log2 < 1920) = true := hs
    exact ⟨⟨_, .int i t⟩, [], (fun _ z => nomatch z), by simp only [D.py, PyData.shown]; exact .of_is (ReprIs.int t (of_decide_eq_true hs')) _ _ _⟩
  | .str x, _, _, h, r, _, hz => by
    cases (show _ = _ from h); obtain ⟨t, rfl⟩ := r
    refine ⟨⟨_, .str x t⟩, [], (fun _ z => nomatch z), ?_⟩
    simp only [D.py, PyData.shown] at hz ⊢
    exact .of_is (ReprIs.str x t hz) _ _ _
  | .tup ds, _, _, h, r, hs, hz => by
    obtain ⟨_, a, xs, rfl, h2, h3⟩ := h
    cases r
    rw [shown_tup] at hz ⊢
    obtain ⟨its, rv, ⟨o, ho, hc, n, hd⟩, _⟩ := I.tuple h2
    obtain ⟨⟨as, q1⟩, bs, q2, q3⟩ := reps_text I ds xs its h3 rv hs (fun t ht => Nat.le_trans (tupleText_mem_le ht) hz)
    have rr : Reads s.heap (.ref a) (D.tup ds).py as := by simp only [D.py]; exact .tuple ho hc hd q1
    have na : a ∉ bs := not_mem_of_deeper rr (by simp only [D.py, PyData.depth]; omega) q2
    refine ⟨⟨as, rr⟩, a :: bs, ReadAtMost.cons rr (by simp only [D.py, PyData.depth]; omega) q2, ?_⟩
    simp only [D.py, PyData.depth]
    exact ReprK.tuple ho hc hd na q3
  | .lst ds, _, _, h, r, hs, hz => by
    obtain ⟨_, a, xs, rfl, _, h2, h3⟩ := h
    cases r
    rw [shown_lst] at hz ⊢
    obtain ⟨its, rv, ⟨o, n, ho, hc, _, hd⟩, _⟩ := I.list (SqL.of h2)
    obtain ⟨⟨as, q1⟩, bs, q2, q3⟩ := reps_text I ds xs its h3 rv hs (fun t ht => Nat.le_trans (listText_mem_le ht) hz)
    have rr : Reads s.heap (.ref a) (D.lst ds).py (a :: as) := by simp only [D.py]; exact .list ho hc hd q1
    have na : a ∉ bs := not_mem_of_deeper rr (by simp only [D.py, PyData.depth]; omega) q2
    refine ⟨⟨_, rr⟩, a :: bs, ReadAtMost.cons rr (by simp only [D.py, PyData.depth]; omega) q2, ?_⟩
    simp only [D.py, PyData.depth]
    cases its with
    | nil =>
      have e := q3.length_eq
      have e2 : PyData.shownAll (D.pys ds) = [] := List.eq_nil_of_length_eq_zero e
      rw [e2, listText_nil]
      exact ReprK.listEmpty ho hc hd
    | cons x l => exact ReprK.list ho hc hd na (by simpa using q3.length_eq) (fun i y e => q3.item i y (by simpa using e))
  | .dct t ks vs, _, _, h, r, hs, hz => by
    obtain ⟨rfl, rfl, rfl⟩ := shw_dct hs
    obtain ⟨a, rfl, h2⟩ := dct_nil h
    cases r
    rw [dct_nil_py] at hz ⊢
    obtain ⟨o, es, n, e1, e2, e3, e4, e5⟩ := dct_reads I h2
    have rr : Reads s.heap (.ref a) (PyData.dict []) (a :: [] ++ []) := .dict e1 e2 e3 (by rw [e4]; exact .nil) (by rw [e4]; exact .nil)
    refine ⟨⟨_, rr⟩, [a], ReadAtMost.cons (bs := []) (n := 0) rr (Nat.zero_le _) (fun _ z => nomatch z), ?_⟩
    simp only [PyData.depth, PyData.depthKv, PyData.shown, PyData.shownKv]
    exact ReprK.dict e1 e2 e3 e5 (by simp) (by rw [e4]; exact .nil)
  | .ref _, _, _, _, _, hs, _ => by cases hs
  | .scr _, _, _, _, _, hs, _ => by cases hs
  | .ins _ _ _, _, _, _, _, hs, _ => by cases hs
theorem reps_text (I : Inv X pins σ H s) : ∀ (ds : List D) (vs : List V) (us : List Value), Reps X.kk g H ds vs → Vals vs us → D.shws ds = true → (∀ t ∈ PyData.shownAll (D.pys ds), t.length ≤ sizeLine) →
    (∃ as, ReadsAll s.heap us (D.pys ds) as) ∧ ∃ bs, ReadAtMost s.heap (PyData.depthAll (D.pys ds)) bs ∧ ReprAllK X.prog X.w bs s.heap (PyData.depthAll (D.pys ds)) us (PyData.shownAll (D.pys ds))
  | [], _, _, h, r, _, _ => by
    cases (show _ = [] from h); cases r
    simp only [D.pys, PyData.shownAll]
    exact ⟨⟨_, .nil⟩, [], (fun _ z => nomatch z), .nil⟩
  | d :: ds, _, _, h, r, hs, hz => by
    obtain ⟨v, vr, rfl, h2, h3⟩ := h
    cases r with
    | cons r1 r2 =>
      have hs' : (d.shw && D.shws ds) = true := hs
      rw [Bool.and_eq_true] at hs'
      simp only [D.pys, PyData.shownAll] at hz ⊢
      obtain ⟨⟨as, q1⟩, b1, q2, q3⟩ := rep_text I d v _ h2 r1 hs'.1 (hz _ (List.mem_cons_self ..))
      obtain ⟨⟨as', p1⟩, b2, p2, p3⟩ := reps_text I ds vr _ h3 r2 hs'.2 (fun t ht => hz t (List.mem_cons_of_mem _ ht))
      refine ⟨⟨_, .cons q1 p1⟩, b1 ++ b2, ?_, ?_⟩
      · simp only [PyData.depthAll]
        exact (q2.mono (Nat.le_max_left _ _)).append (p2.mono (Nat.le_max_right _ _))
      · simp only [PyData.depthAll]
        exact .cons ((q3.more fun b hb => List.mem_append_left _ hb).level_le (Nat.le_max_left _ _)) (p3.more_le (fun b hb => List.mem_append_right _ hb) (Nat.le_max_right _ _))
end
theorem repr_ok (hg : X.A.guards = some []) (hu : X.A.units + 70 < cLine) {d : D} {v : V} {u : Value} {Q : VK} (I : Inv X pins σ H s) (h : Rep X.kk g H d v) (r : RelV v u) (hs : d.shw = true) (hd : d.py.depth ≤ 64) (hz : d.py.shown.length ≤ sizeLine)
    (q : Q (.str d.py.shown) H) : wpAny (model X.prog X.w) X.A (call (.builtin "repr") [u]) (EP X pins σ Q) X.xe s := by
  have fin : ∀ h' t tk, (∀ b o, s.heap.get? b = some o → h'.get? b = some o) → EP X pins σ Q (.str d.py.shown t) { s with heap := h', toks := tk } := fun h' t tk hk => ⟨.str _, H, I.kept hk, ⟨t, rfl⟩, q⟩
  cases d with
  | non =>
    cases (show _ = _ from h); cases r
    simp only [D.py, PyData.shown] at fin
    exact PySem.P.repr_of_none (fin s.heap _ _ fun _ _ e => e)
  | bl b =>
    cases (show _ = _ from h); cases r
    simp only [D.py, PyData.shown] at fin
    exact PySem.P.repr_of_bool (fin s.heap _ _ fun _ _ e => e)
  | int i =>
    cases (show _ = _ from h); obtain ⟨t, rfl⟩ := r
    simp only [D.py, PyData.shown] at fin
    exact PySem.P.repr_of_int (of_decide_eq_true hs) (fin s.heap _ _ fun _ _ e => e)
  | str x =>
    cases (show _ = _ from h); obtain ⟨t, rfl⟩ := r
    simp only [D.py, PyData.shown] at fin hz
    exact PySem.P.repr_of_str (fin s.heap _ _ fun _ _ e => e) hz
  | tup ds =>
    obtain ⟨_, a, xs, rfl, h2, h3⟩ := h
    cases r
    rw [shown_tup] at fin hz
    obtain ⟨its, rv, ⟨o, ho, hc, n, hd'⟩, _⟩ := I.tuple h2
    obtain ⟨⟨as, q1⟩, bs, q2, q3⟩ := reps_text I ds xs its h3 rv hs (fun t ht => Nat.le_trans (tupleText_mem_le ht) hz)
    have rr : Reads s.heap (.ref a) (D.tup ds).py as := by simp only [D.py]; exact .tuple ho hc hd' q1
    have na : a ∉ bs := not_mem_of_deeper rr (by simp only [D.py, PyData.depth]; omega) q2
    simp only [D.py, PyData.depth] at hd
    exact call_repr_slot (by omega) ⟨o, ho, hc⟩ PySem.F.slot_tuple_repr (call_tuple_reprK ho hc hd' na q3 (show X.A.in1.guards = _ from hg) (fun b _ => Clear.nil b) (by show X.A.units + 1 + _ < cLine; omega) (fun _ _ e => e) (fun h' t tk hk => ⟨_, _, rfl, fin h' t tk hk⟩) hz)
  | lst ds =>
    obtain ⟨_, a, xs, rfl, _, h2, h3⟩ := h
    cases r
    rw [shown_lst] at fin hz
    obtain ⟨its, rv, ⟨o, n, ho, hc, _, hd'⟩, _⟩ := I.list (SqL.of h2)
    obtain ⟨⟨as, q1⟩, bs, q2, q3⟩ := reps_text I ds xs its h3 rv hs (fun t ht => Nat.le_trans (listText_mem_le ht) hz)
    have rr : Reads s.heap (.ref a) (D.lst ds).py (a :: as) := by simp only [D.py]; exact .list ho hc hd' q1
    have na : a ∉ bs := not_mem_of_deeper rr (by simp only [D.py, PyData.depth]; omega) q2
    simp only [D.py, PyData.depth] at hd
    refine call_repr_slot (by omega) ⟨o, ho, hc⟩ PySem.F.slot_list_repr.toG ?_
    cases its with
    | nil =>
      have e := q3.length_eq
      have e2 : PyData.shownAll (D.pys ds) = [] := List.eq_nil_of_length_eq_zero e
      rw [e2, listText_nil] at fin
      exact call_list_repr_empty ⟨o, ho, hc⟩ ho hd' ⟨_, _, rfl, fin s.heap _ _ fun _ _ e => e⟩
    | cons x l => exact call_list_reprK ho hc hd' na (by simpa using q3.length_eq) (fun i y e => q3.item i y (by simpa using e)) (show X.A.in1.guards = _ from hg) (fun b _ => Clear.nil b) (by show X.A.units + 1 + _ < cLine; omega) (fun _ _ e => e) (fun h' t tk hk => ⟨_, _, rfl, fin h' t tk hk⟩) hz
  | dct t ks vs =>
    obtain ⟨rfl, rfl, rfl⟩ := shw_dct hs
    obtain ⟨a, rfl, h2⟩ := dct_nil h
    cases r
    rw [dct_nil_py] at fin hz
    simp only [PyData.shown, PyData.shownKv] at fin hz
    obtain ⟨o, es, n, e1, e2, e3, e4, e5⟩ := dct_reads I h2
    exact call_repr_slot (by omega) ⟨o, e1, e2⟩ PySem.F.slot_dict_repr (call_dict_reprK (as := []) (d := 0) e1 e2 e3 e5 (by simp) (by rw [e4]; exact .nil) (show X.A.in1.guards = _ from hg) (fun b _ => Clear.nil b) (by show X.A.units + 1 + _ < cLine; omega) (fun _ _ e => e) (fun h' t tk hk => ⟨_, _, rfl, fin h' t tk hk⟩) hz)
  | ref n => cases hs
  | scr n => cases hs
  | ins _ _ _ => cases hs
/-! str(list) -/
theorem meets_strIn {P : Program} {w : World} {v : Value} {S : PySem.Spec} (hs : ∀ (A : Around) (R : Result → Shared → Prop) (s : Shared), S A R s →
      wpAny (model P w) A.in1 (Builtin.Str.strOf v) (fun r s' => R (.ok (.ret r)) s') (fun e s' => R (.error e) s') s) : MeetsIn P w (Builtin.«str.__new__» ⟨[.type "str", v], []⟩) S := by
  refine .of_wp fun A R s h => ?_
  rw [str_new_tree v]
  refine wpAny_bind (wpAny_pure ?_)
  refine wpAny_bind (wpAny_of_eq isSubtype_str_str ?_)
  exact wpAny_bind (wpAny_mono (hs A R s h) (fun r s' h' => wpAny_pure ⟨_, rfl, h'⟩) fun _ _ e => e)
theorem str_ok (hg : X.A.guards = some []) (hu : X.A.units + 70 < cLine) {ds : List D} {v : V} {u : Value} {Q : VK} (I : Inv X pins σ H s) (h : Rep X.kk g H (.lst ds) v) (r : RelV v u) (hs : (D.lst ds).shw = true) (hd : (D.lst ds).py.depth ≤ 64) (hz : (D.lst ds).py.shown.length ≤ sizeLine)
    (q : Q (.str (D.lst ds).py.shown) H) : wpAny (model X.prog X.w) X.A (call (.type "str") [u]) (EP X pins σ Q) X.xe s := by
  have fin : ∀ h' t tk, (∀ b o, s.heap.get? b = some o → h'.get? b = some o) → EP X pins σ Q (.str (D.lst ds).py.shown t) { s with heap := h', toks := tk } := fun h' t tk hk => ⟨.str _, H, I.kept hk, ⟨t, rfl⟩, q⟩
  obtain ⟨_, a, xs, rfl, _, h2, h3⟩ := h
  cases r
  rw [shown_lst] at fin hz
  obtain ⟨its, rv, ⟨o, n, ho, hc, _, hd'⟩, _⟩ := I.list (SqL.of h2)
  obtain ⟨⟨as, q1⟩, bs, q2, q3⟩ := reps_text I ds xs its h3 rv hs (fun t ht => Nat.le_trans (listText_mem_le ht) hz)
  have rr : Reads s.heap (.ref a) (D.lst ds).py (a :: as) := by simp only [D.py]; exact .list ho hc hd' q1
  have na : a ∉ bs := not_mem_of_deeper rr (by simp only [D.py, PyData.depth]; omega) q2
  simp only [D.py, PyData.depth] at hd
  refine callType_newIn PySem.F.called_str (by decide) (PySem.F.typeCall_str_1 _) (PySem.F.newCall_str_1 _) (fun obj => PySem.F.args_object_init_2 obj _) PySem.F.entry_str_new
    (meets_strIn (S := fun A R s => wpAny (model X.prog X.w) A.in1 (Builtin.Str.strOf (.ref a)) (fun r s' => R (.ok (.ret r)) s') (fun e s' => R (.error e) s') s) fun _ _ _ z => z) ?_
  refine wpAny_strOf_slot rfl (by show X.A.units + 1 + 1 + 1 < cLine; omega) ⟨o, ho, hc⟩ PySem.F.slot_list_str PySem.F.slot_list_repr.toG ?_
  cases its with
  | nil =>
    have e := q3.length_eq
    have e2 : PyData.shownAll (D.pys ds) = [] := List.eq_nil_of_length_eq_zero e
    rw [e2, listText_nil] at fin
    exact call_list_repr_empty ⟨o, ho, hc⟩ ho hd' ⟨_, _, rfl, typeIs_str _ _ _, fin s.heap _ _ fun _ _ e => e⟩
  | cons x l => exact call_list_reprK ho hc hd' na (by simpa using q3.length_eq) (fun i y e => q3.item i y (by simpa using e)) (show X.A.in1.in1.in1.guards = _ from hg) (fun b _ => Clear.nil b) (by show X.A.units + 1 + 1 + 1 + _ < cLine; omega) (fun _ _ e => e) (fun h' t tk hk => ⟨_, _, rfl, typeIs_str _ _ _, fin h' t tk hk⟩) hz
end
end Fw
namespace Fw
open PySem PySem.Spec PyProof.Rows L2
section
variable {X : Cx}
def biV : Bi → Value
  | .len => .builtin "len" | .abs => .builtin "abs" | .int => .type "int" | .tuple => .type "tuple" | .repr => .builtin "repr" | .any => .builtin "any" | .all => .builtin "all" | .sum => .builtin "sum" | .min2 => .builtin "min" | .str => .type "str"
def rBi (K : KK) (b : Bi) : List V → Hp → VK → Prop := fun vs H Q => ∃ g s ds d, bi b ds = some d ∧ SimS K g s H ∧ RepWs K g H ds vs ∧ Want K g s H d Q
theorem bools_rep {K : KK} {g : Gh} {H : Hp} : ∀ {ds : List D} {xs : List V} {bs : List Bool}, Reps K g H ds xs → bools ds = some bs → xs = bs.map V.bl
  | [], xs, bs, h, e => by cases (show xs = [] from h); cases e; rfl
  | d :: ds, xs, bs, h, e => by
    obtain ⟨v, r, rfl, h1, h2⟩ := h
    cases d with
    | bl b =>
      cases q : bools ds with
      | none => simp [bools, q] at e
      | some cs =>
        simp [bools, q] at e
        subst e
        cases (show v = _ from h1)
        rw [bools_rep h2 q]
        rfl
    | _ => cases e
theorem call_bi (hc : X.calm = true) (hg : X.A.guards = some []) (hu : X.A.units + 70 < cLine) (b : Bi) : CallR X (biV b) (rBi X.kk b) := by
  intro pins s σ H vs us Q I r h
  obtain ⟨g, S, ds, d, hb, sim, rs, hq⟩ := h
  unfold bi at hb
  split at hb
  · cases hb
    obtain ⟨v, rfl, r1⟩ := rs.one
    obtain ⟨a, xs, rfl, a1, a2⟩ := r1.seqT
    refine call_len_seq pins s σ H _ us Q I r ⟨a, xs, rfl, .inr a1, ?_⟩
    rw [a2.length]; exact hq.here sim rfl
  · cases hb
    obtain ⟨v, rfl, r1⟩ := rs.one
    obtain ⟨a, xs, rfl, a1, a2⟩ := r1.seqL
    refine call_len_seq pins s σ H _ us Q I r ⟨a, xs, rfl, .inl (SqL.of a1), ?_⟩
    rw [a2.length]; exact hq.here sim rfl
  · cases hb
    obtain ⟨v, rfl, r1⟩ := rs.one
    obtain ⟨a, ho, kv, w2, rfl, e1, e2, e3, kvs, rfl, e4, e5⟩ := r1.dic
    obtain ⟨u, rfl, ru⟩ := vals1 r
    cases ru
    refine d_len I (.inl e1) fun t s' I' => ⟨.int _, H, I', ⟨t, rfl⟩, ?_⟩
    have := e2.length
    rw [e4, List.length_map] at this
    rw [this]
    exact hq.here sim rfl
  · cases hb
    obtain ⟨v, rfl, r1⟩ := rs.one
    cases r1.int
    exact call_abs pins s σ H _ us Q I r ⟨_, rfl, hq.here sim rfl⟩
  · cases hb
    obtain ⟨v, rfl, r1⟩ := rs.one
    cases r1.int
    exact call_int1 pins s σ H _ us Q I r (.inl ⟨_, rfl, hq.here sim rfl⟩)
  · cases hb
    obtain ⟨v, rfl, r1⟩ := rs.one
    cases r1.bl
    exact call_int1 pins s σ H _ us Q I r (.inr ⟨_, rfl, hq.here sim rfl⟩)
  · cases hb
    obtain ⟨v, rfl, r1⟩ := rs.one
    obtain ⟨a, xs, rfl, a1, a2⟩ := r1.seqL
    exact call_tuple_of pins s σ H _ us Q I r ⟨a, xs, rfl, .inl ⟨SqL.of a1, fun p hp => hq.tup sim hp a2 r1.len⟩⟩
  · cases hb
    obtain ⟨v, rfl, r1⟩ := rs.one
    obtain ⟨a, xs, rfl, a1, a2⟩ := r1.seqT
    exact call_tuple_of pins s σ H _ us Q I r ⟨a, xs, rfl, .inr ⟨a1, hq.here sim ⟨r1.lenT, a, xs, rfl, a1, a2⟩⟩⟩
  · rename_i z
    obtain ⟨v, rfl, r1⟩ := rs.one
    obtain ⟨h1, h2⟩ := guardB_some hb
    cases h2
    simp only [Bool.and_eq_true, decide_eq_true_eq] at h1
    obtain ⟨u, rfl, ru⟩ := vals1 r
    have hz : (D.py z).shown.length ≤ sizeLine := by rw [sizeLine_eq]; exact Nat.le_trans h1.2 (by decide)
    have r2 : ∃ g', Rep X.kk g' H z v := by
      rcases r1 with r1 | ⟨o, a, ho, rfl, rfl, e1, e2, e3, e4⟩
      · exact ⟨g, r1⟩
      · cases o with
        | lst ds => obtain ⟨xs, rfl, e2⟩ := e2; exact ⟨g.frz a, e4, a, xs, rfl, .inr rfl, e1, Reps.kp (Kp.frz a) _ _ e2⟩
        | dic t ks vs => obtain ⟨kv, vv, q1, q2, q3⟩ := e2; exact ⟨g.frz a, a, ho, kv, vv, rfl, .inr rfl, e1, Reps.kp (Kp.frz a) _ _ q1, Reps.kp (Kp.frz a) _ _ q2, q3⟩
    obtain ⟨g', r2⟩ := r2
    exact repr_ok hg hu I r2 ru h1.1.1 h1.1.2 hz (hq.here sim rfl)
  · rename_i xs'
    obtain ⟨v, rfl, r1⟩ := rs.one
    obtain ⟨a, xs, rfl, a1, a2⟩ := r1.seqL
    cases q : bools xs' with
    | none => rw [q] at hb; cases hb
    | some bs =>
      rw [q] at hb; cases hb
      have e := bools_rep a2 q
      subst e
      exact cr_any hc pins s σ H _ us Q I r ⟨a, bs, rfl, SqL.of a1, hq.here sim rfl⟩
  · rename_i xs'
    obtain ⟨v, rfl, r1⟩ := rs.one
    obtain ⟨a, xs, rfl, a1, a2⟩ := r1.seqL
    cases q : bools xs' with
    | none => rw [q] at hb; cases hb
    | some bs =>
      rw [q] at hb; cases hb
      have e := bools_rep a2 q
      subst e
      exact cr_all hc pins s σ H _ us Q I r ⟨a, bs, rfl, SqL.of a1, hq.here sim rfl⟩
  · rename_i xs'
    obtain ⟨v, rfl, r1⟩ := rs.one
    obtain ⟨a, xs, rfl, a1, a2⟩ := r1.seqL
    cases q : intsD xs' with
    | none => rw [q] at hb; cases hb
    | some bs =>
      rw [q] at hb; cases hb
      have e := ints_rep a2 q
      subst e
      exact cr_sum hc pins s σ H _ us Q I r ⟨a, bs, rfl, SqL.of a1, hq.here sim rfl⟩
  · cases hb
    obtain ⟨v, w, rfl, r1, r2⟩ := rs.two
    cases r1.int; cases r2.int
    exact call_min2 hc pins s σ H _ us Q I r ⟨_, _, rfl, hq.here sim rfl⟩
  · rename_i z
    obtain ⟨v, rfl, r1⟩ := rs.one
    obtain ⟨h1, h2⟩ := guardB_some hb
    cases h2
    simp only [Bool.and_eq_true, decide_eq_true_eq] at h1
    obtain ⟨u, rfl, ru⟩ := vals1 r
    have hz : (D.py (.lst z)).shown.length ≤ sizeLine := by rw [sizeLine_eq]; exact Nat.le_trans h1.2 (by decide)
    obtain ⟨a, xs, rfl, e1, e2⟩ := r1.seqL
    have r2 : Rep X.kk (g.frz a) H (.lst z) (.ref a) := ⟨r1.len, a, xs, rfl, .inr rfl, e1, Reps.kp (Kp.frz a) _ _ e2⟩
    exact str_ok hg hu I r2 ru h1.1.1 h1.1.2 hz (hq.here sim rfl)
  · obtain ⟨v, rfl, r1⟩ := rs.one
    obtain ⟨h1, h2⟩ := guardB_some hb
    cases h2
    cases r1.int
    exact call_str_int pins s σ H _ us Q I r ⟨_, rfl, of_decide_eq_true h1, hq.here sim rfl⟩
  · obtain ⟨v, rfl, r1⟩ := rs.one
    obtain ⟨h1, h2⟩ := guardB_some hb
    cases h2
    cases r1.str
    exact call_len_str pins s σ H _ us Q I r ⟨_, rfl, line_lim (of_decide_eq_true h1), hq.here sim rfl⟩
  · obtain ⟨v, rfl, r1⟩ := rs.one
    obtain ⟨h1, h2⟩ := guardB_some hb
    obtain ⟨n, hn, rfl⟩ := Option.map_eq_some_iff.mp h2
    cases r1.str
    exact call_int_str pins s σ H _ us Q I r ⟨_, _, rfl, hn, of_decide_eq_true h1, hq.here sim rfl⟩
  · cases hb

/-! len(set(xs)), sorted(xs) -/
theorem met_once (ns : List Int) : ∀ i, i ≤ ns.length → PyProof.Rows.firstMet (fun i => ns.getD i 0) i = onceI (ns.take i)
  | 0, _ => rfl
  | i + 1, hi => by
    have hlt : i < ns.length := hi
    have e1 : ns.getD i 0 = ns[i] := by
      rw [List.getD_eq_getElem?_getD, List.getElem?_eq_getElem hlt] <;> rfl
    have e2 : ns.take (i + 1) = ns.take i ++ [ns[i]] := by
      rw [List.take_add_one, List.getElem?_eq_getElem hlt] <;> rfl
    rw [PyProof.Rows.firstMet_succ, met_once ns i (Nat.le_of_lt hlt), e2]
    have e3 : onceI (ns.take i ++ [ns[i]]) = addI (onceI (ns.take i)) ns[i] := by unfold onceI; rw [List.foldl_append]; rfl
    rw [e3]
    show (if (onceI (ns.take i)).any (· == ns.getD i 0) then onceI (ns.take i) else onceI (ns.take i) ++ [ns.getD i 0]) = _
    rw [e1]
    unfold addI
    by_cases h : ns[i] ∈ onceI (ns.take i)
    · rw [if_pos h, if_pos (List.any_eq_true.mpr ⟨_, h, by simp⟩)]
    · rw [if_neg h, if_neg (fun z => h (by obtain ⟨y, hy, e⟩ := List.any_eq_true.mp z; rw [← eq_of_beq e]; exact hy))]
theorem insI_perm (x : Int) : ∀ xs : List Int, (insI x xs).Perm (x :: xs)
  | [] => .refl _
  | y :: ys => by
    unfold insI
    split
    · exact .refl _
    · exact ((insI_perm x ys).cons y).trans (.swap x y ys)
theorem srtI_perm : ∀ xs : List Int, (srtI xs).Perm xs
  | [] => .refl _
  | x :: xs => (insI_perm x _).trans ((srtI_perm xs).cons x)
theorem insI_sorted {x : Int} : ∀ {xs : List Int}, xs.Pairwise (· ≤ ·) → (insI x xs).Pairwise (· ≤ ·)
  | [], _ => by simp [insI]
  | y :: ys, h => by
    rw [List.pairwise_cons] at h
    unfold insI
    split
    · rename_i hx
      refine List.pairwise_cons.mpr ⟨fun z hz => ?_, List.pairwise_cons.mpr h⟩
      rcases List.mem_cons.mp hz with rfl | hz
      · exact hx
      · exact Int.le_trans hx (h.1 z hz)
    · rename_i hx
      refine List.pairwise_cons.mpr ⟨fun z hz => ?_, insI_sorted h.2⟩
      rcases List.mem_cons.mp ((insI_perm x ys).mem_iff.mp hz) with rfl | hz
      · omega
      · exact h.1 z hz
theorem srtI_sorted : ∀ xs : List Int, (srtI xs).Pairwise (· ≤ ·)
  | [] => .nil
  | x :: xs => insI_sorted (srtI_sorted xs)
theorem sorted_one : ∀ {xs ys : List Int}, xs.Perm ys → xs.Pairwise (· ≤ ·) → ys.Pairwise (· ≤ ·) → xs = ys
  | [], ys, h, _, _ => by rw [List.nil_perm.mp h]
  | x :: xs, [], h, _, _ => by have := h.length_eq; simp at this
  | x :: xs, y :: ys, h, hx, hy => by
    rw [List.pairwise_cons] at hx hy
    have e : x = y := by
      have h1 : x ∈ y :: ys := h.mem_iff.mp (List.mem_cons_self ..)
      have h2 : y ∈ x :: xs := h.mem_iff.mpr (List.mem_cons_self ..)
      rcases List.mem_cons.mp h1 with e | h1
      · exact e
      · rcases List.mem_cons.mp h2 with e | h2
        · exact e.symm
        · have a1 := hy.1 x h1
          have a2 := hx.1 y h2
          omega
    subst e
    rw [sorted_one ((List.perm_cons x).mp h) hx.2 hy.2]
/-! list(d) -/
theorem pl_refs : ∀ {L : KL} {xs : List (NestedKey × Addr × Value)}, PL L xs → Vals (L.map fun x => V.ref x.2.1) (xs.map fun x => Value.ref x.2.1) := by
  intro L xs p
  induction p with
  | nil => exact .nil
  | @cons p q ps qs h t ih =>
    refine .cons ?_ ih
    show Value.ref q.2.1 = Value.ref p.2.1
    rw [h.2.1]
theorem call_listDT (hcalm : X.calm = true) : CallR X (.type "list") (fun xs H Q => ∃ (a : Addr) (L : KL), xs = [.ref a] ∧ H a = some (dtO X.w a L) ∧ ∀ p, H p = none → Q (.ref p) (upd H p (.lst (L.map fun x => V.ref x.2.1)))) := by
  intro pins s σ H xs us Q I r q
  obtain ⟨a, L, ex, hd, q⟩ := q
  subst ex
  obtain ⟨u, eu, rx⟩ := vals1 r
  subst eu
  cases rx
  obtain ⟨⟨z, y, xs, r, o, es, ep, h1, h2, h3, h4, h5⟩, _⟩ := (show ObjOk X.prog X.w H s.heap a (dtO X.w a L) from I.hok a _ hd)
  have hsz : es.size = L.length := by rw [r.length, ← Array.length_toList, h4, List.length_map]
  refine PySem.W.kdl_call (KdlSrc.rawDict (es := es) (ep := ep) y) (I.ok.hd hcalm) ⟨o, h1, h2, h3⟩ (by rw [hsz]; exact z) fun h' tk acc c' hk hD hacc => ?_
  have hv : acc.toList = xs.map fun x => Value.ref x.2.1 := by
    refine List.ext_getElem? fun j => ?_
    have hl : acc.toList.length = xs.length := by rw [Array.length_toList, hacc.1, hsz, r.length]
    by_cases hj : j < xs.length
    · have hja : j < acc.size := by rw [← Array.length_toList, hl]; exact hj
      obtain ⟨hi, e⟩ := hacc.2 j acc[j] (by rw [Array.getElem?_eq_getElem hja])
      have e2 : es[j].key = Value.ref (xs[j]).2.1 := by
        have e3 : es.toList[j]? = some es[j] := by rw [Array.getElem?_toList, Array.getElem?_eq_getElem hi]
        rw [h4, List.getElem?_map, List.getElem?_eq_getElem hj] at e3
        rw [← Option.some.inj e3]
      rw [Array.getElem?_toList, Array.getElem?_eq_getElem hja, e, e2, List.getElem?_map, List.getElem?_eq_getElem hj]
      rfl
    · rw [List.getElem?_eq_none (by rw [hl]; omega), List.getElem?_eq_none (by rw [List.length_map]; omega)]
  refine ⟨.ref s.heap.objs.size, upd H s.heap.objs.size (.lst (L.map fun x => V.ref x.2.1)), I.laid (t' := tk) hk (Nat.le_refl _)
    (show ObjOk X.prog X.w _ _ _ (.lst (L.map fun x => V.ref x.2.1)) from ⟨by rw [List.length_map]; exact z, acc.toList, c', by rw [hv]; exact pl_refs r, by rw [Array.toArray_toList]; exact hD⟩), rfl, q _ (I.hok.fresh (Nat.le_refl _))⟩
/-! isinstance -/
def tyV : Option Ty → Value
  | none => .type "NoneType"
  | some t => .type t.name
/-- what is known of a value's class -/
def TyY (K : PySem.W.Frag) (H : Hp) (v : V) (t : Value) : Prop := TyX K H v t ∨ ∃ w a L, v = .ref a ∧ H a = some (dtO w a L) ∧ t = .type "dict"
theorem kit_ofY {x : V} {u t : Value} {pins : List (Addr × Obj)} {σ : L2.St} {H : Hp} {s : Shared} (I : Inv X pins σ H s) (rx : RelV x u) (ty : TyY X.K H x t) : ∃ P : Heap → Prop, PySem.W.KitX X.K u t P ∧ P s.heap ∧ u ≠ .builtin "__main__.__loader__#opaque" := by
  rcases ty with ty | ⟨w, a, L, rfl, e, rfl⟩
  · exact kit_of I rx ty
  · cases rx
    obtain ⟨⟨z, y, xs, r, o, es, ep, h1, h2, _⟩, _⟩ := (show ObjOk X.prog X.w H s.heap a (dtO w a L) from I.hok a _ e)
    exact ⟨_, PySem.W.kitx_dict, ⟨o, h1, h2.1⟩, fun z => nomatch z⟩
def rIsiY (K : PySem.W.Frag) : List V → Hp → VK → Prop := fun xs H Q => ∃ (x c : V) (t u : Value) (b : Bool), xs = [x, c] ∧ ClsV c u ∧ TyY K H x t ∧ PySem.W.kitOne K t u = some b ∧ Q (.bl b) H
def rIsiTY (K : PySem.W.Frag) : List V → Hp → VK → Prop := fun xs H Q => ∃ (x : V) (tp : Addr) (cs : List V) (t : Value) (us : List Value) (b : Bool), xs = [x, .ref tp] ∧ H tp = some (.tup cs) ∧ Paired ClsV cs us ∧ TyY K H x t ∧ PySem.W.kitAny K t us = some b ∧ Q (.bl b) H
theorem call_isiY : CallR X (.builtin "isinstance") (rIsiY X.K) := by
  intro pins s σ H xs us Q I r h
  obtain ⟨x, c, t, u, b, rfl, k, ty, e, q⟩ := h
  obtain ⟨u1, u2, rfl, r1, r2⟩ := vals2 r
  have e2 := k.eq r2
  subst e2
  obtain ⟨P, Z, p, hx⟩ := kit_ofY I r1 ty
  exact PySem.W.kia_one Z I.kIn p e hx fun tk => ⟨.bl b, H, I.tok tk, rfl, q⟩
theorem call_isiTY : CallR X (.builtin "isinstance") (rIsiTY X.K) := by
  intro pins s σ H xs us Q I r h
  obtain ⟨x, tp, cs, t, ws, b, rfl, hT, k, ty, e, q⟩ := h
  obtain ⟨u1, u2, rfl, r1, r2⟩ := vals2 r
  cases (show u2 = Value.ref tp from r2)
  obtain ⟨P, Z, p, hx⟩ := kit_ofY I r1 ty
  obtain ⟨_, its, rv, o, h1, h2, n, h3⟩ := (show ObjOk X.prog X.w H s.heap tp (.tup cs) from I.hok tp _ hT)
  have e3 := ClsV.all k rv
  subst e3
  obtain ⟨oc, od, dt, sl⟩ := o
  simp only at h2 h3
  subst h2 h3
  exact PySem.W.kia_tup Z I.kIn p h1 e hx fun tk => ⟨.bl b, H, I.tok tk, rfl, q⟩
theorem ty_rep0 {K : KK} {g : Gh} {s : S} {H : Hp} {d : D} {v : V} (sim : SimS K g s H) (h : RepW K g H d v) (hr : ∀ n, d = .ref n → s[n]? ≠ none) (hi : ∀ c ns fs, d ≠ .ins c ns fs) : TyY K H v (tyV (tyD s d)) := by
  by_cases hdt : ∃ ks vs, d = .dct true ks vs
  · obtain ⟨ks, vs, rfl⟩ := hdt
    obtain ⟨a, ho, kv, w2, rfl, e1, e2, e3, L, rfl, _⟩ := h.dic
    exact .inr ⟨_, a, L, rfl, e1, rfl⟩
  refine .inl ?_
  cases d with
  | non => cases h.strict rfl; exact .base .non
  | bl b => cases h.bl; exact .base (.bl b)
  | int b => cases h.int; exact .base (.int b)
  | str b => cases h.str; exact .base (.str b)
  | tup ds =>
    obtain ⟨a, xs, rfl, h1, _⟩ := h.seqT
    rcases h1 with (h1 | ⟨o, h1⟩) | ⟨o, its, n, h1, h2, _⟩
    · exact .base (.tup h1)
    · exact .fTuple h1
    · exact .kTuple h1 h2
  | lst ds =>
    obtain ⟨a, xs, rfl, h1, _⟩ := h.seqL
    exact .base (.lst h1)
  | dct t ks vs =>
    cases t with
    | true => exact absurd ⟨ks, vs, rfl⟩ hdt
    | false =>
      obtain ⟨a, ho, kv, w2, rfl, e1, e2, e3, kvs, rfl, _⟩ := h.dic
      exact .base (.dK e1)
  | scr ns =>
    obtain ⟨a, rfl, h1⟩ := h.strict rfl
    rcases h1 with ⟨o, h1⟩ | ⟨o, its, n, h1, h2, _⟩
    · exact .base (.frz h1)
    · exact .kList h1 h2
  | ins c ns fs => exact absurd rfl (hi c ns fs)
  | ref n =>
    obtain ⟨a, rfl, h1⟩ := h.strict rfl
    cases q : s[n]? with
    | none => exact absurd q (hr n rfl)
    | some o =>
      obtain ⟨a', ho, e1, e2, e3⟩ := sim.obj n o q
      rw [h1] at e1; cases e1
      cases o with
      | lst ds =>
        obtain ⟨xs, rfl, _⟩ := e3
        have e : tyD s (.ref n) = some .list := by simp only [tyD, q]
        rw [e]
        exact .base (.lst e2)
theorem kit_one {K : PySem.W.Frag} (t : Option Ty) (c : Ty) : PySem.W.kitOne K (tyV t) (.type c.name) = some (isTy t c) := by
  cases t with
  | none => exact kit_ty (a := "NoneType") (by cases c <;> decide +kernel)
  | some t => exact kit_ty (a := t.name) (by cases t <;> cases c <;> decide +kernel)
theorem ty_rep {K : KK} {g : Gh} {s : S} {H : Hp} {d : D} {v : V} (sim : SimS K g s H) (h : RepW K g H d v) (hr : ∀ n, d = .ref n → s[n]? ≠ none) : ∃ t, TyY K H v t ∧ ∀ c : Ty, PySem.W.kitOne K t (.type c.name) = some (isTy (tyD s d) c) := by
  by_cases hi : ∃ c ns fs, d = .ins c ns fs
  · obtain ⟨c, ns, fs, rfl⟩ := hi
    obtain ⟨a, C, dx, xs, rfl, h2, h3, h4, _⟩ := h.strict rfl
    exact ⟨.ref C, .inl (.base (.ins h3 h4.cl h4.ha h4.hn h4.htk h4.hm)), fun c => by rw [h4.kt c]; rfl⟩
  · exact ⟨_, ty_rep0 sim h hr (fun c ns fs e => hi ⟨c, ns, fs, e⟩), kit_one _⟩
end
end Fw
namespace Fw
open PySem PySem.Spec PyProof.Rows L2

/-! ## F. an evaluator's answer as a reading of the layer -/
def WantW (K : KK) (g : Gh) (s : S) (H : Hp) (d : D) (Q : VK) : Prop := ∀ g' H' v, Ext K g H g' H' → SimS K g' s H' → RepW K g' H' d v → Q v H'
def WantF (K : KK) (g : Gh) (s : S) (H : Hp) (ds : List D) (Q : VK) : Prop :=
  ∀ g' H' p xs, Ext K g H g' H' → SimS K g' s H' → H p = none → H' p = some (.lst xs) → p ∉ g'.io → ¬ g'.Z p → Reps K g' H' ds xs → ds.length ≤ sizeLine → Q (.ref p) H'
section
variable (K : KK)
def At (α : Type) (W : Gh → S → Hp → α → Prop) (ev : Env → S → R α) (σ : L2.St) (H : Hp) : Prop :=
  ∃ H0 g env s d s', EnvOk K g H H0 env σ ∧ SimS K g s H ∧ ev env s = .ok d s' ∧ W g s' H d
def TEof (ev : Env → S → R D) : TE := fun σ H Q => At K D (fun g s H d => Want K g s H d Q) ev σ H
def TWof (ev : Env → S → R D) : TE := fun σ H Q => At K D (fun g s H d => WantW K g s H d Q) ev σ H
def TFof (ev : Env → S → R (List D)) : TE := fun σ H Q => At K (List D) (fun g s H d => WantF K g s H d Q) ev σ H
def TTof (ev : Env → S → R Bool) : TT := fun σ H Q => At K Bool (fun g s H b => ∀ g' H', Ext K g H g' H' → SimS K g' s H' → Q b H') ev σ H
def TAof (ev : Env → S → R (List D)) : TA := fun σ H Q => At K (List D) (fun g s H ds => ∀ g' H' vs, Ext K g H g' H' → SimS K g' s H' → Reps K g' H' ds vs → Q vs H') ev σ H
def TAWof (ev : Env → S → R (List D)) : TA := fun σ H Q => At K (List D) (fun g s H ds => ∀ g' H' vs, Ext K g H g' H' → SimS K g' s H' → RepWs K g' H' ds vs → Q vs H') ev σ H
def TOof (ev : Env → S → R (Option Int)) : TO := fun σ H Q => At K (Option Int) (fun g s H o => ∀ g' H', Ext K g H g' H' → SimS K g' s H' → Q o H') ev σ H
end
section
variable {X : Cx} {e a b c : Expr} {pos : Pos}
theorem _root_.L2.PE.imp {t t' : TE} (h : PE X e t) (w : ∀ σ H Q, t' σ H Q → t σ H Q) : PE X e t' := ⟨fun pins s σ H Q I q => h.run pins s σ H Q I (w σ H Q q)⟩
theorem _root_.L2.PT.imp {t t' : TT} (h : PT X e t) (w : ∀ σ H Q, t' σ H Q → t σ H Q) : PT X e t' := ⟨fun pins s σ H Q I q => h.run pins s σ H Q I (w σ H Q q)⟩
theorem _root_.L2.PW.imp {t t' : TT} (h : PW X e t) (w : ∀ σ H Q, t' σ H Q → t σ H Q) : PW X e t' := ⟨fun wh pins s σ H Q I q => h.run wh pins s σ H Q I (w σ H Q q)⟩
theorem _root_.L2.PA.imp {es : List Expr} {t t' : TA} (h : PA X es t) (w : ∀ σ H Q, t' σ H Q → t σ H Q) : PA X es t' := ⟨fun pos pins s σ H Q I q => h.run pos pins s σ H Q I (w σ H Q q)⟩
theorem _root_.L2.PTs.imp' {ifs : List Expr} {t t' : TT} (h : PTs X ifs t) (w : ∀ σ H Q, t' σ H Q → t σ H Q) : PTs X ifs t' := ⟨fun pins s σ H Q I q => h.run pins s σ H Q I (w σ H Q q)⟩
theorem _root_.L2.PO.imp {o : Option Expr} {t t' : TO} (h : PO X o t) (w : ∀ σ H Q, t' σ H Q → t σ H Q) : PO X o t' := ⟨fun pins s σ H Q I q => h.run pins s σ H Q I (w σ H Q q)⟩
theorem _root_.L2.PI.imp {tg : Expr} {t t' : TI} (h : PI X tg e t) (w : ∀ σ H Q, t' σ H Q → t σ H Q) : PI X tg e t' := ⟨fun pins s σ H Q I q => h.run pins s σ H Q I (w σ H Q q)⟩
theorem _root_.L2.PS.imp {st : Stmt} {t t' : TS} (h : PS X st t) (w : ∀ D σ H, t' D σ H → t D σ H) : PS X st t' := ⟨fun pins s σ H D I q => h.run pins s σ H D I (w D σ H q)⟩
theorem _root_.L2.PSs.imp {st : List Stmt} {t t' : TS} (h : PSs X st t) (w : ∀ D σ H, t' D σ H → t D σ H) : PSs X st t' := ⟨fun pins s σ H D I q => h.run pins s σ H D I (w D σ H q)⟩
theorem WantW.ext {K : KK} {g g' : Gh} {s : S} {H H' : Hp} {d : D} {Q : VK} (h : WantW K g s H d Q) (e : Ext K g H g' H') : WantW K g' s H' d Q := fun g2 H2 v e2 w r => h g2 H2 v (e.trans e2) w r

variable {ev eva evb evc : Env → S → R D} {evt : Env → S → R Bool} {eves : Env → S → R (List D)}
theorem weak (h : PE X e (TEof X.kk ev)) : PE X e (TWof X.kk ev) :=
  h.imp fun σ H Q ⟨H0, g, env, s, d, s', eo, ss, hev, hq⟩ => ⟨H0, g, env, s, d, s', eo, ss, hev, fun g' H' v e1 ss1 r1 => hq g' H' v e1 ss1 (.inl r1)⟩

/-! names, constants -/
theorem d_nm {i : Nat} {x : Str} (hN : X.N[i]? = some x) (hv : Vis X.env.scope x) (hd : (x == ("__debug__" : Str)) = false) (hcd : (x == ("__classdict__" : Str)) = false) :
    PE X (.Name x pos) (TEof X.kk fun env s => lift (getV env i) s) :=
  (pe_var hN hv hd hcd).imp fun σ H Q ⟨H0, g, env, s, d, s', eo, ss, hev, hq⟩ => by
    obtain ⟨h1, rfl⟩ := lift_ok hev
    obtain ⟨v, h2, h3⟩ := eo.val h1
    exact ⟨v, h2, hq.here ss h3⟩
theorem d_pk {i : Nat} {x : Str} (hN : X.N[i]? = some x) (hv : Vis X.env.scope x) (hd : (x == ("__debug__" : Str)) = false) (hcd : (x == ("__classdict__" : Str)) = false) :
    PE X (.Name x pos) (TWof X.kk fun env s => lift (getW env i) s) :=
  (pe_var hN hv hd hcd).imp fun σ H Q ⟨H0, g, env, s, d, s', eo, ss, hev, hq⟩ => by
    obtain ⟨h1, rfl⟩ := lift_ok hev
    obtain ⟨v, h2, h3⟩ := eo.weak h1
    exact ⟨v, h2, hq g H v Ext.refl ss h3⟩
theorem d_const {d : D} {v : V} (h : PE X e (tC v)) (r : ∀ g H, Rep X.kk g H d v) : PE X e (TEof X.kk fun _ s => .ok d s) :=
  h.imp fun σ H Q ⟨H0, g, env, s, d', s', eo, ss, hev, hq⟩ => by
    cases hev
    exact hq.here ss (r g H)
theorem d_lift {d : D} {o : Option D} (ho : ∀ d, o = some d → PE X e (TEof X.kk fun _ s => .ok d s)) : PE X e (TEof X.kk fun _ s => lift o s) := by
  cases o with
  | none => exact ⟨fun pins s σ H Q I ⟨H0, g, env, s', d', s'', eo, ss, hev, hq⟩ => by cases hev⟩
  | some d => exact ho d rfl
/-! operators -/
theorem d_bin (ha : PE X a (TWof X.kk eva)) (hb : PE X b (TWof X.kk evb)) (o : Operator) : PE X (.BinOp a o b pos) (TEof X.kk fun env s => (eva env s).bind fun x s => (evb env s).bind fun y s => lift (binop o x y) s) :=
  (pe_op (op_bin o) ha hb).imp fun σ H Q ⟨H0, g, env, s, d, s', eo, ss, hev, hq⟩ => by
    obtain ⟨x, s1, h1, hev⟩ := R.bind_ok_iff hev
    obtain ⟨y, s2, h2, hev⟩ := R.bind_ok_iff hev
    obtain ⟨h3, rfl⟩ := lift_ok hev
    exact ⟨H0, g, env, s, x, s1, eo, ss, h1, fun g1 H1 v e1 ss1 r1 => ⟨H0, g1, env, s1, y, _, eo.ext e1, ss1, h2, fun g2 H2 w e2 ss2 r2 => ⟨g2, _, x, y, d, h3, ss2, r1.ext e2, r2, hq.ext (e1.trans e2)⟩⟩⟩
theorem d_un (ha : PE X a (TWof X.kk eva)) (o : UnaryOp) : PE X (.UnaryOp o a pos) (TEof X.kk fun env s => (eva env s).bind fun x s => lift (unop o x) s) :=
  (pe_un (op_un o) ha).imp fun σ H Q ⟨H0, g, env, s, d, s', eo, ss, hev, hq⟩ => by
    obtain ⟨x, s1, h1, hev⟩ := R.bind_ok_iff hev
    obtain ⟨h3, rfl⟩ := lift_ok hev
    exact ⟨H0, g, env, s, x, _, eo, ss, h1, fun g1 H1 v e1 ss1 r1 => ⟨g1, _, x, d, h3, ss1, r1, hq.ext e1⟩⟩
theorem map_bl {o : Option Bool} {d : D} (h : o.map D.bl = some d) : ∃ b, o = some b ∧ d = .bl b := by
  cases o with
  | none => cases h
  | some b => cases h; exact ⟨b, rfl, rfl⟩
theorem d_cmp (hu : X.A.units + 66 < cLine) (ha : PE X a (TWof X.kk eva)) (hb : PE X b (TWof X.kk evb)) (o : CmpOp) (hm : behindInMarks o b = false) :
    PE X (.Compare a [o] [b] pos) (TEof X.kk fun env s => (eva env s).bind fun x s => (evb env s).bind fun y s => lift ((cmpop o x y).map D.bl) s) :=
  (pe_cmpR (op_cmp hu o) ha hb hm).imp fun σ H Q ⟨H0, g, env, s, d, s', eo, ss, hev, hq⟩ => by
    obtain ⟨x, s1, h1, hev⟩ := R.bind_ok_iff hev
    obtain ⟨y, s2, h2, hev⟩ := R.bind_ok_iff hev
    obtain ⟨h30, rfl⟩ := lift_ok hev
    obtain ⟨k, h3, rfl⟩ := map_bl h30
    exact ⟨H0, g, env, s, x, s1, eo, ss, h1, fun g1 H1 v e1 ss1 r1 => ⟨H0, g1, env, s1, y, _, eo.ext e1, ss1, h2, fun g2 H2 w e2 ss2 r2 => ⟨g2, _, x, y, k, h3, ss2, r1.ext e2, r2, (hq.ext (e1.trans e2)).here ss2 rfl⟩⟩⟩
theorem dt_cmp (hu : X.A.units + 66 < cLine) (ha : PE X a (TWof X.kk eva)) (hb : PE X b (TWof X.kk evb)) (o : CmpOp) (hm : behindInMarks o b = false) :
    PT X (.Compare a [o] [b] pos) (TTof X.kk fun env s => (eva env s).bind fun x s => (evb env s).bind fun y s => lift (cmpop o x y) s) :=
  (pt_cmpR (op_cmp hu o) ha hb hm).imp fun σ H Q ⟨H0, g, env, s, k, s', eo, ss, hev, hq⟩ => by
    obtain ⟨x, s1, h1, hev⟩ := R.bind_ok_iff hev
    obtain ⟨y, s2, h2, hev⟩ := R.bind_ok_iff hev
    obtain ⟨h3, rfl⟩ := lift_ok hev
    exact ⟨H0, g, env, s, x, s1, eo, ss, h1, fun g1 H1 v e1 ss1 r1 => ⟨H0, g1, env, s1, y, _, eo.ext e1, ss1, h2, fun g2 H2 w e2 ss2 r2 => ⟨g2, _, x, y, k, h3, ss2, r1.ext e2, r2, k, rfl, hq g2 H2 (e1.trans e2) ss2⟩⟩⟩
theorem d_chain (hu : X.A.units + 66 < cLine) (ha : PE X a (TWof X.kk eva)) (hb : PE X b (TWof X.kk evb)) (hc : PE X c (TWof X.kk evc)) (o o' : CmpOp) (hm : lastMarks [o, o'] [b, c] = false) :
    PE X (.Compare a [o, o'] [b, c] pos) (TEof X.kk fun env s => (eva env s).bind fun x s => (evb env s).bind fun y s => (lift (cmpop o x y) s).bind fun k s =>
      if k then (evc env s).bind fun z s => lift ((cmpop o' y z).map D.bl) s else .ok (.bl false) s) :=
  (pe_chain (op_cmp hu o) (op_cmp hu o') ha hb hc hm).imp fun σ H Q ⟨H0, g, env, s, d, s', eo, ss, hev, hq⟩ => by
    obtain ⟨x, s1, h1, hev⟩ := R.bind_ok_iff hev
    obtain ⟨y, s2, h2, hev⟩ := R.bind_ok_iff hev
    obtain ⟨k, s3, h30, hev⟩ := R.bind_ok_iff hev
    obtain ⟨h3, rfl⟩ := lift_ok h30
    refine ⟨H0, g, env, s, x, s1, eo, ss, h1, fun g1 H1 v e1 ss1 r1 => ⟨H0, g1, env, s1, y, _, eo.ext e1, ss1, h2, fun g2 H2 w e2 ss2 r2 => ⟨g2, _, x, y, k, h3, ss2, r1.ext e2, r2, k, rfl, ?_⟩⟩⟩
    cases k with
    | false =>
      simp only [Bool.false_eq_true, if_false] at hev ⊢
      cases hev
      exact (hq.ext (e1.trans e2)).here ss2 rfl
    | true =>
      simp only [if_true] at hev ⊢
      obtain ⟨z, s4, h4, hev⟩ := R.bind_ok_iff hev
      obtain ⟨h50, rfl⟩ := lift_ok hev
      obtain ⟨k', h5, rfl⟩ := map_bl h50
      exact ⟨H0, g2, env, _, z, _, eo.ext (e1.trans e2), ss2, h4, fun g3 H3 u e3 ss3 r3 => ⟨g3, _, y, z, k', h5, ss3, r2.ext e3, r3, (hq.ext ((e1.trans e2).trans e3)).here ss3 rfl⟩⟩
theorem dt_chain (hu : X.A.units + 66 < cLine) (ha : PE X a (TWof X.kk eva)) (hb : PE X b (TWof X.kk evb)) (hc : PE X c (TWof X.kk evc)) (o o' : CmpOp) (hm : lastMarks [o, o'] [b, c] = false) :
    PT X (.Compare a [o, o'] [b, c] pos) (TTof X.kk fun env s => (eva env s).bind fun x s => (evb env s).bind fun y s => (lift (cmpop o x y) s).bind fun k s =>
      if k then (evc env s).bind fun z s => lift (cmpop o' y z) s else .ok false s) :=
  (pt_chain (op_cmp hu o) (op_cmp hu o') ha hb hc hm).imp fun σ H Q ⟨H0, g, env, s, d, s', eo, ss, hev, hq⟩ => by
    obtain ⟨x, s1, h1, hev⟩ := R.bind_ok_iff hev
    obtain ⟨y, s2, h2, hev⟩ := R.bind_ok_iff hev
    obtain ⟨k, s3, h30, hev⟩ := R.bind_ok_iff hev
    obtain ⟨h3, rfl⟩ := lift_ok h30
    refine ⟨H0, g, env, s, x, s1, eo, ss, h1, fun g1 H1 v e1 ss1 r1 => ⟨H0, g1, env, s1, y, _, eo.ext e1, ss1, h2, fun g2 H2 w e2 ss2 r2 => ⟨g2, _, x, y, k, h3, ss2, r1.ext e2, r2, k, rfl, ?_⟩⟩⟩
    cases k with
    | false =>
      simp only [Bool.false_eq_true, if_false] at hev ⊢
      cases hev
      exact ⟨_, rfl, hq g2 H2 (e1.trans e2) ss2⟩
    | true =>
      simp only [if_true] at hev ⊢
      obtain ⟨z, s4, h4, hev⟩ := R.bind_ok_iff hev
      obtain ⟨h5, rfl⟩ := lift_ok hev
      exact ⟨H0, g2, env, _, z, _, eo.ext (e1.trans e2), ss2, h4, fun g3 H3 u e3 ss3 r3 => ⟨g3, _, y, z, d, h5, ss3, r2.ext e3, r3, d, rfl, hq g3 H3 ((e1.trans e2).trans e3) ss3⟩⟩
/-! and, or, not, if -/
theorem d_one {op : BoolOp} (ha : PE X a (TEof X.kk eva)) : PE X (.BoolOp op [a] pos) (TEof X.kk eva) := pe_one ha
theorem d_and {r : List Expr} (ha : PE X a (TEof X.kk eva)) (hb : PE X (.BoolOp .And (b :: r) pos) (TEof X.kk evb)) : PE X (.BoolOp .And (a :: b :: r) pos) (TEof X.kk fun env s => (eva env s).bind fun x s => match x with
    | .bl true => evb env s
    | .bl false => .ok (.bl false) s
    | _ => .no) :=
  (pe_and ha hb).imp fun σ H Q ⟨H0, g, env, s, d, s', eo, ss, hev, hq⟩ => by
    obtain ⟨x, s1, h1, hev⟩ := R.bind_ok_iff hev
    refine ⟨H0, g, env, s, x, s1, eo, ss, h1, fun g1 H1 v e1 ss1 r1 => ?_⟩
    split at hev
    · cases (show v = _ from r1)
      exact ⟨true, rfl, iteT ⟨H0, g1, env, s1, d, s', eo.ext e1, ss1, hev, hq.ext e1⟩⟩
    · cases (show v = _ from r1)
      cases hev
      exact ⟨false, rfl, iteF ((hq.ext e1).here ss1 rfl)⟩
    · cases hev
theorem d_or {r : List Expr} (ha : PE X a (TEof X.kk eva)) (hb : PE X (.BoolOp .Or (b :: r) pos) (TEof X.kk evb)) : PE X (.BoolOp .Or (a :: b :: r) pos) (TEof X.kk fun env s => (eva env s).bind fun x s => match x with
    | .bl false => evb env s
    | .bl true => .ok (.bl true) s
    | _ => .no) :=
  (pe_or ha hb).imp fun σ H Q ⟨H0, g, env, s, d, s', eo, ss, hev, hq⟩ => by
    obtain ⟨x, s1, h1, hev⟩ := R.bind_ok_iff hev
    refine ⟨H0, g, env, s, x, s1, eo, ss, h1, fun g1 H1 v e1 ss1 r1 => ?_⟩
    split at hev
    · cases (show v = _ from r1)
      exact ⟨false, rfl, iteF ⟨H0, g1, env, s1, d, s', eo.ext e1, ss1, hev, hq.ext e1⟩⟩
    · cases (show v = _ from r1)
      cases hev
      exact ⟨true, rfl, iteT ((hq.ext e1).here ss1 rfl)⟩
    · cases hev
theorem d_not (ha : PE X a (TEof X.kk eva)) : PE X (.UnaryOp .Not a pos) (TEof X.kk fun env s => (eva env s).bind fun x s => match x with
    | .bl b => .ok (.bl (!b)) s
    | _ => .no) :=
  (pe_not ha).imp fun σ H Q ⟨H0, g, env, s, d, s', eo, ss, hev, hq⟩ => by
    obtain ⟨x, s1, h1, hev⟩ := R.bind_ok_iff hev
    refine ⟨H0, g, env, s, x, s1, eo, ss, h1, fun g1 H1 v e1 ss1 r1 => ?_⟩
    split at hev
    · cases (show v = _ from r1)
      cases hev
      exact ⟨_, rfl, (hq.ext e1).here ss1 rfl⟩
    · cases hev
theorem d_ite (hc : PT X c (TTof X.kk evt)) (ha : PE X a (TEof X.kk eva)) (hb : PE X b (TEof X.kk evb)) : PE X (.IfExp c a b pos) (TEof X.kk fun env s => (evt env s).bind fun k s => if k then eva env s else evb env s) :=
  (pe_ifExp hc ha hb).imp fun σ H Q ⟨H0, g, env, s, d, s', eo, ss, hev, hq⟩ => by
    obtain ⟨k, s1, h1, hev⟩ := R.bind_ok_iff hev
    refine ⟨H0, g, env, s, k, s1, eo, ss, h1, fun g1 H1 e1 ss1 => ?_⟩
    cases k with
    | true => exact iteT ⟨H0, g1, env, s1, d, s', eo.ext e1, ss1, by simpa using hev, hq.ext e1⟩
    | false => exact iteF ⟨H0, g1, env, s1, d, s', eo.ext e1, ss1, by simpa using hev, hq.ext e1⟩
/-! tests -/
theorem dt_val (ha : PE X a (TWof X.kk eva)) (he : ∀ whole, isTrue a X.env whole = (do let v ← whole; standAt a.pos; holding [v] (truthy v))) : PT X a (TTof X.kk fun env s => (eva env s).bind fun x s => lift (truth x) s) :=
  (pt_truth ha he).imp fun σ H Q ⟨H0, g, env, s, k, s', eo, ss, hev, hq⟩ => by
    obtain ⟨x, s1, h1, hev⟩ := R.bind_ok_iff hev
    obtain ⟨h2, rfl⟩ := lift_ok hev
    exact ⟨H0, g, env, s, x, _, eo, ss, h1, fun g1 H1 v e1 ss1 r1 => ⟨k, tru_rep r1 h2, hq g1 H1 e1 ss1⟩⟩
theorem dt_not {evt : Env → S → R Bool} (ha : PT X a (TTof X.kk evt)) : PT X (.UnaryOp .Not a pos) (TTof X.kk fun env s => (evt env s).bind fun b s => .ok (!b) s) :=
  (pt_not ha).imp fun σ H Q ⟨H0, g, env, s, k, s', eo, ss, hev, hq⟩ => by
    obtain ⟨x, s1, h1, hev⟩ := R.bind_ok_iff hev
    cases hev
    exact ⟨H0, g, env, s, x, _, eo, ss, h1, fun g1 H1 e1 ss1 => hq g1 H1 e1 ss1⟩
theorem dt_and1 {evt : Env → S → R Bool} (ha : PT X a (TTof X.kk evt)) : PW X (.BoolOp .And [a] pos) (TTof X.kk fun env s => (evt env s).bind fun b s => if b = true then .ok true s else .ok b s) :=
  (pw_and1 ha).imp fun σ H Q ⟨H0, g, env, s, k, s', eo, ss, hev, hq⟩ => by
    obtain ⟨x, s1, h1, hev⟩ := R.bind_ok_iff hev
    cases x <;> (simp at hev; obtain ⟨rfl, rfl⟩ := hev; exact ⟨H0, g, env, s, _, _, eo, ss, h1, hq⟩)
theorem dt_and {evt evr : Env → S → R Bool} {r : List Expr} (ha : PT X a (TTof X.kk evt)) (hb : PW X (.BoolOp .And (b :: r) pos) (TTof X.kk evr)) : PW X (.BoolOp .And (a :: b :: r) pos) (TTof X.kk fun env s => (evt env s).bind fun b s => if b = true then evr env s else .ok b s) :=
  (pw_and ha hb).imp fun σ H Q ⟨H0, g, env, s, k, s', eo, ss, hev, hq⟩ => by
    obtain ⟨x, s1, h1, hev⟩ := R.bind_ok_iff hev
    refine ⟨H0, g, env, s, x, s1, eo, ss, h1, fun g1 H1 e1 ss1 => ?_⟩
    cases x with
    | true => exact iteT ⟨H0, g1, env, s1, k, s', eo.ext e1, ss1, by simpa using hev, fun g2 H2 e2 ss2 => hq g2 H2 (e1.trans e2) ss2⟩
    | false =>
      simp at hev
      obtain ⟨rfl, rfl⟩ := hev
      exact iteF (hq g1 H1 e1 ss1)
theorem dt_or1 {evt : Env → S → R Bool} (ha : PT X a (TTof X.kk evt)) : PW X (.BoolOp .Or [a] pos) (TTof X.kk fun env s => (evt env s).bind fun b s => if b = false then .ok false s else .ok b s) :=
  (pw_or1 ha).imp fun σ H Q ⟨H0, g, env, s, k, s', eo, ss, hev, hq⟩ => by
    obtain ⟨x, s1, h1, hev⟩ := R.bind_ok_iff hev
    cases x <;> (simp at hev; obtain ⟨rfl, rfl⟩ := hev; exact ⟨H0, g, env, s, _, _, eo, ss, h1, hq⟩)
theorem dt_or {evt evr : Env → S → R Bool} {r : List Expr} (ha : PT X a (TTof X.kk evt)) (hb : PW X (.BoolOp .Or (b :: r) pos) (TTof X.kk evr)) : PW X (.BoolOp .Or (a :: b :: r) pos) (TTof X.kk fun env s => (evt env s).bind fun b s => if b = false then evr env s else .ok b s) :=
  (pw_or ha hb).imp fun σ H Q ⟨H0, g, env, s, k, s', eo, ss, hev, hq⟩ => by
    obtain ⟨x, s1, h1, hev⟩ := R.bind_ok_iff hev
    refine ⟨H0, g, env, s, x, s1, eo, ss, h1, fun g1 H1 e1 ss1 => ?_⟩
    cases x with
    | false => exact iteF ⟨H0, g1, env, s1, k, s', eo.ext e1, ss1, by simpa using hev, fun g2 H2 e2 ss2 => hq g2 H2 (e1.trans e2) ss2⟩
    | true =>
      simp at hev
      obtain ⟨rfl, rfl⟩ := hev
      exact iteT (hq g1 H1 e1 ss1)
/-! argument lists, displays -/
theorem da_nil : PA X [] (TAof X.kk fun _ s => .ok [] s) :=
  pa_nil.imp fun σ H Q ⟨H0, g, env, s, k, s', eo, ss, hev, hq⟩ => by
    cases hev
    exact hq g H [] Ext.refl ss rfl
theorem da_cons {es : List Expr} (ha : PE X e (TEof X.kk eva)) (hr : PA X es (TAof X.kk eves)) (hs : starEach (e :: es) X.env = (false, eval e X.env) :: starEach es X.env) :
    PA X (e :: es) (TAof X.kk fun env s => (eva env s).bind fun x s => (eves env s).bind fun xs s => .ok (x :: xs) s) :=
  (pa_cons ha hr hs).imp fun σ H Q ⟨H0, g, env, s, k, s', eo, ss, hev, hq⟩ => by
    obtain ⟨x, s1, h1, hev⟩ := R.bind_ok_iff hev
    obtain ⟨xs, s2, h2, hev⟩ := R.bind_ok_iff hev
    cases hev
    exact ⟨H0, g, env, s, x, s1, eo, ss, h1, fun g1 H1 v e1 ss1 r1 => ⟨H0, g1, env, s1, xs, _, eo.ext e1, ss1, h2, fun g2 H2 vs e2 ss2 r2 => hq g2 H2 (v :: vs) (e1.trans e2) ss2 ⟨v, vs, rfl, Rep.ext e2 _ _ r1, r2⟩⟩⟩
theorem daw_nil : PA X [] (TAWof X.kk fun _ s => .ok [] s) :=
  pa_nil.imp fun σ H Q ⟨H0, g, env, s, k, s', eo, ss, hev, hq⟩ => by
    cases hev
    exact hq g H [] Ext.refl ss rfl
theorem daw_cons {es : List Expr} (ha : PE X e (TWof X.kk eva)) (hr : PA X es (TAWof X.kk eves)) (hs : starEach (e :: es) X.env = (false, eval e X.env) :: starEach es X.env) :
    PA X (e :: es) (TAWof X.kk fun env s => (eva env s).bind fun x s => (eves env s).bind fun xs s => .ok (x :: xs) s) :=
  (pa_cons ha hr hs).imp fun σ H Q ⟨H0, g, env, s, k, s', eo, ss, hev, hq⟩ => by
    obtain ⟨x, s1, h1, hev⟩ := R.bind_ok_iff hev
    obtain ⟨xs, s2, h2, hev⟩ := R.bind_ok_iff hev
    cases hev
    exact ⟨H0, g, env, s, x, s1, eo, ss, h1, fun g1 H1 v e1 ss1 r1 => ⟨H0, g1, env, s1, xs, _, eo.ext e1, ss1, h2, fun g2 H2 vs e2 ss2 r2 => hq g2 H2 (v :: vs) (e1.trans e2) ss2 ⟨v, vs, rfl, r1.ext e2, r2⟩⟩⟩
theorem d_tup {es : List Expr} {k : Nat} (h : PA X es (TAof X.kk eves)) (hl : ∀ env s ds s', eves env s = .ok ds s' → ds.length ≤ lim) : PE X (.Tuple es k pos) (TEof X.kk fun env s => (eves env s).bind fun ds s => .ok (.tup ds) s) :=
  (pe_tup h).imp fun σ H Q ⟨H0, g, env, s, k, s', eo, ss, hev, hq⟩ => by
    obtain ⟨ds, s1, h1, hev⟩ := R.bind_ok_iff hev
    cases hev
    exact ⟨H0, g, env, s, ds, s', eo, ss, h1, fun g1 H1 vs e1 ss1 r1 => ⟨by rw [r1.length]; exact line_lim (hl _ _ _ _ h1), fun p hp => (hq.ext e1).tup ss1 hp r1 (line_lim (hl _ _ _ _ h1))⟩⟩
theorem WantF.mk {K : KK} {g g1 : Gh} {s : S} {H H1 : Hp} {ds : List D} {xs : List V} {Q : VK} {p : Addr} (hq : WantF K g s H ds Q) (e : Ext K g H g1 H1) (ss : SimS K g1 s H1) (hp : H1 p = none) (r : Reps K g1 H1 ds xs) (hl : ds.length ≤ sizeLine) : Q (.ref p) (upd H1 p (.lst xs)) :=
  hq g1 _ p xs (e.trans (Ext.new hp)) (ss.new hp) (e.live p hp) upd_same (ss.fresh_io hp) (ss.fresh_z hp) (Reps.ext (Ext.new hp) _ _ r) hl
theorem df_disp {es : List Expr} (h : PA X es (TAof X.kk eves)) (hl : ∀ env s ds s', eves env s = .ok ds s' → ds.length ≤ lim) : PE X (.List es pos) (TFof X.kk eves) :=
  (pe_lst h).imp fun σ H Q ⟨H0, g, env, s, ds, s', eo, ss, h1, hq⟩ =>
    ⟨H0, g, env, s, ds, s', eo, ss, h1, fun g1 H1 vs e1 ss1 r1 => ⟨by rw [r1.length]; exact line_lim (hl _ _ _ _ h1), fun p hp => hq.mk e1 ss1 hp r1 (line_lim (hl _ _ _ _ h1))⟩⟩
theorem d_frz {evf : Env → S → R (List D)} (h : PE X e (TFof X.kk evf)) : PE X e (TEof X.kk fun env s => (evf env s).bind fun ds s => .ok (.lst ds) s) :=
  h.imp fun σ H Q ⟨H0, g, env, s, d, s', eo, ss, hev, hq⟩ => by
    obtain ⟨ds, s1, h1, hev⟩ := R.bind_ok_iff hev
    cases hev
    exact ⟨H0, g, env, s, ds, _, eo, ss, h1, fun g1 H1 p xs e1 ss1 h0 hp hio hz r1 hl => hq (g1.frz p) H1 _ (e1.frz h0) (ss1.frz' hio (by rw [hp]; simp)) ⟨hl, p, xs, rfl, .inr rfl, hp, Reps.kp (Kp.frz p) _ _ r1⟩⟩
theorem d_dict0 (hu : X.A.units + 1 < cLine) : PE X (.Dict [] [] pos) (TEof X.kk fun _ s => .ok (.dct false [] []) s) :=
  (pe_dnewK).imp fun σ H Q ⟨H0, g, env, s, d, s', eo, ss, hev, hq⟩ => by
    cases hev
    intro p hp
    exact hq (g.frz p) _ _ ((Ext.new hp).frz hp) ((ss.new hp).frz' (ss.fresh_io hp) (by rw [upd_same]; simp)) ⟨p, _, [], [], rfl, .inr rfl, upd_same, rfl, rfl, [], rfl, rfl, rfl⟩
end
end Fw
namespace Fw
open PySem PySem.Spec PyProof.Rows L2

/-! ## G. calls, subscripts, lists made -/
def notStar : Expr → Bool
  | .Starred _ _ => false
  | _ => true
theorem star_ns {e : Expr} {es : List Expr} {env : PySem.Env} (h : notStar e = true) : starEach (e :: es) env = (false, eval e env) :: starEach es env := by
  cases e <;> first | rfl | cases h
theorem any_ns {env : PySem.Env} {pos : Pos} : ∀ {es : List Expr}, es.all notStar = true → (backTo pos (starEach es env)).any (·.1) = false
  | [], _ => rfl
  | e :: es, h => by
    rw [List.all_cons, Bool.and_eq_true] at h
    rw [star_ns h.1]
    show (false || (backTo pos (starEach es env)).any (·.1)) = false
    rw [any_ns h.2]; rfl
/-- a def keeps its promise, where no repr runs around -/
structure FnG (P : Program) (w : World) (K : PySem.W.Frag) (mg : Str → Option Value) (base : Heap) (k : Nat) (f : Addr) (fd : FuncData) (ps : List Str) (sp : List V → Hp → VK → XK → Prop) : Prop where
  len : ∀ vs H Q E, sp vs H Q E → vs.length = ps.length
  run : ∀ (A : Around) (outer : List PySem.Env) (s : Shared) (H : Hp) (args : Args) (us : List Value) (vs : List V) (Q : VK) (E : XK), Room k A → A.guards = some [] → Env0 P w K mg base A outer s H → BindsTo s fd args (ps.zip us) → Vals vs us → sp vs H Q E →
    codeAny (model P w) A (.call (.ref f) args) (CR (L2.CX P w) outer P w H s Q E) s
/-- an exception: its class, the dict of its fields -/
def RepX (K : KK) (g : Gh) (H : Hp) : D → Value → Option Addr → Prop
  | .ins cn ns fs, cls, d => ∃ C : Addr, PySem.W.nsIn K mainGlobals cn = some (some (.ref C)) ∧ cls = .ref C ∧ ((ns = [] ∧ fs = [] ∧ d = none) ∨ ∃ (f : Str) (x : D) (dd : Addr) (v : V), ns = [f] ∧ fs = [x] ∧ d = some dd ∧ H dd = some (.xd [(f, v)]) ∧ Rep K g H x v)
  | _, _, _ => False
def WantX (K : KK) (g : Gh) (s : S) (H : Hp) (x : D) (E : XK) : Prop := ∀ g' H' cls d, Ext K g H g' H' → SimS K g' s H' → RepX K g' H' x cls d → E cls d H'
theorem WantX.ext {K : KK} {g g' : Gh} {s : S} {H H' : Hp} {x : D} {E : XK} (h : WantX K g s H x E) (e : Ext K g H g' H') : WantX K g' s H' x E := fun g2 H2 c d e2 w r => h g2 H2 c d (e.trans e2) w r
def OutD (K : KK) (g : Gh) (H : Hp) (Q : VK) (E : XK) : R D → Prop
  | .ok d s => Want K g s H d Q
  | .exn x s => WantX K g s H x E
  | .no => False
def spD (K : KK) (pg : Pg) (k f : Nat) : List V → Hp → VK → XK → Prop := fun vs H Q E => ∃ g s ds, Reps K g H ds vs ∧ SimS K g s H ∧ OutD K g H Q E (callN pg k f ds s)
section
variable {X : Cx} {e a b c : Expr} {pos p : Pos} {x : Str} {ev eva evb evc : Env → S → R D} {eves : Env → S → R (List D)}
theorem run_g {k : Nat} {f : Addr} {fd : FuncData} {ps : List Str} {sp : List V → Hp → VK → XK → Prop} {pins : List (Addr × Obj)} {σ : L2.St} {H : Hp} {s : Shared} {Q : VK} {us : List Value} {vs : List V}
    (F : FnG X.prog X.w X.kk X.mg X.base k f fd ps sp) (hr : Room k X.A) (hg : X.A.guards = some []) (hb : Binds X.kk fd ps []) (I : Inv X pins σ H s) (r : Vals vs us) (h : sp vs H Q E0) : wpAny (model X.prog X.w) X.A (call (.ref f) us) (EP X pins σ Q) X.xe s := by
  have hl : us.length = ps.length := by rw [← r.length]; exact F.len _ _ _ _ h
  have hbb := hb s us I.kIn (by simpa using hl)
  rw [List.append_nil] at hbb
  refine wpAny_call (codeAny_mono (F.run X.A X.stack s H ⟨us, []⟩ us vs Q E0 hr hg I.env0 hbb r h) fun r s' hq => ?_)
  cases r with
  | error e => exact passL _ _ _ _ _ _ I hq
  | ok fl =>
    cases fl with
    | ret u => exact I.after hq
    | next => exact False.elim hq
    | brk => exact False.elim hq
    | cont => exact False.elim hq
theorem d_call0 {pg : Pg} {k k' f : Nat} {ad : Addr} {fd : FuncData} {ps : List Str} (F : FnG X.prog X.w X.kk X.mg X.base k' ad fd ps (spD X.kk pg k f)) (hr : Room k' X.A) (hgd : X.A.guards = some []) (hg : Gl X x) (hm : X.mg x = some (.ref ad))
    (hk : PySem.W.keepIn X.kk (.ref ad) = true) (hb : Binds X.kk fd ps []) (hdb : (x == ("__debug__" : Str)) = false) :
    PE X (.Call (.Name x p) [] [] pos) (TEof X.kk fun env s => callN pg k f [] s) := by
  refine ⟨fun pins s σ H Q I ⟨H0, g, env, s0, d, s', eo, ss, hev, hq⟩ => ?_⟩
  refine wpAny_Call_Name_kw (ld_glob I hg hm ?_ hdb)
  exact PySem.W.callWith_K0 I.kIn hk (run_g (us := []) (vs := []) F hr hgd hb I .nil ⟨g, s0, [], rfl, ss, by rw [show callN pg k f [] s0 = .ok d s' from hev]; exact hq⟩)
theorem d_callC {pg : Pg} {k k' f : Nat} {es : List Expr} {ad : Addr} {fd : FuncData} {ps : List Str} (F : FnG X.prog X.w X.kk X.mg X.base k' ad fd ps (spD X.kk pg k f)) (hr : Room k' X.A) (hgd : X.A.guards = some []) (hg : Gl X x) (hm : X.mg x = some (.ref ad))
    (hk : PySem.W.keepIn X.kk (.ref ad) = true) (hb : Binds X.kk fd ps []) (ha : PA X (e :: es) (TAof X.kk eves)) (hdb : (x == ("__debug__" : Str)) = false) (hns : (e :: es).all notStar = true) :
    PE X (.Call (.Name x p) (e :: es) [] pos) (TEof X.kk fun env s => (eves env s).bind fun ds s => callN pg k f ds s) := by
  refine ⟨fun pins s σ H Q I ⟨H0, g, env, s0, d, s', eo, ss, hev, hq⟩ => ?_⟩
  obtain ⟨ds, s1, h1, hev⟩ := R.bind_ok_iff hev
  refine wpAny_Call_Name_kw (ld_glob I hg hm ?_ hdb)
  rw [List.all_cons, Bool.and_eq_true] at hns
  refine PySem.W.callWith_K (h₀ := X.base) I.ok.mod.kin hk (thn (ha.run pos pins s σ H (fun vs H' => spD X.kk pg k f vs H' Q E0) I ⟨H0, g, env, s0, ds, s1, eo, ss, h1, fun g1 H1 vs e1 ss1 r1 => ⟨g1, s1, ds, r1, ss1, by rw [hev]; exact hq.ext e1⟩⟩) fun us s2 ⟨vs, H2, I2, r2, q2⟩ => ⟨I2.kIn, ?_⟩) (star_ns hns.1) (any_ns hns.2)
  exact run_g F hr hgd hb I2 r2 q2
/-- how a def's parameters are bound: all by place; all but the last one by place, this one by its keyword or by its default -/
def FB (K : PySem.W.Frag) (fd : FuncData) (ps : List Str) : Option (Str × D) → Prop
  | none => Binds K fd ps []
  | some (kn, d) => (∃ u v, RelV v u ∧ (∀ w g H, Rep ⟨K, w⟩ g H d v) ∧ Binds K fd ps [u]) ∧ ∃ n, n + 1 = ps.length ∧ KBn K fd ps n [kn] (fun us ws => us ++ ws) (fun vs zs => vs ++ zs)
theorem run_gk {k : Nat} {f : Addr} {fd : FuncData} {ps : List Str} {sp : List V → Hp → VK → XK → Prop} {pins : List (Addr × Obj)} {σ : L2.St} {H : Hp} {s : Shared} {Q : VK} {us us2 : List Value} {vs : List V} {kws : List (Str × Value)}
    (F : FnG X.prog X.w X.kk X.mg X.base k f fd ps sp) (hr : Room k X.A) (hg : X.A.guards = some []) (hb : BindsTo s fd ⟨us, kws⟩ (ps.zip us2)) (I : Inv X pins σ H s) (r : Vals vs us2) (h : sp vs H Q E0) : wpAny (model X.prog X.w) X.A (call (.ref f) us kws) (EP X pins σ Q) X.xe s := by
  refine wpAny_call (codeAny_mono (F.run X.A X.stack s H ⟨us, kws⟩ us2 vs Q E0 hr hg I.env0 hb r h) fun r s' hq => ?_)
  cases r with
  | error e => exact passL _ _ _ _ _ _ I hq
  | ok fl =>
    cases fl with
    | ret u => exact I.after hq
    | next => exact False.elim hq
    | brk => exact False.elim hq
    | cont => exact False.elim hq
/-- f(e, ..) where the last parameter stands by its default -/
theorem d_callD {pg : Pg} {k k' f : Nat} {es : List Expr} {ad : Addr} {fd : FuncData} {ps : List Str} {kn : Str} {dd : D} (F : FnG X.prog X.w X.kk X.mg X.base k' ad fd ps (spD X.kk pg k f)) (hr : Room k' X.A) (hgd : X.A.guards = some []) (hg : Gl X x) (hm : X.mg x = some (.ref ad))
    (hk : PySem.W.keepIn X.kk (.ref ad) = true) (hb : FB X.kk fd ps (some (kn, dd))) (ha : PA X (e :: es) (TAof X.kk eves)) (hdb : (x == ("__debug__" : Str)) = false) (hns : (e :: es).all notStar = true) :
    PE X (.Call (.Name x p) (e :: es) [] pos) (TEof X.kk fun env s => (eves env s).bind fun ds s => callN pg k f (ds ++ [dd]) s) := by
  obtain ⟨⟨u0, v0, rv0, rep0, hb⟩, _⟩ := hb
  refine ⟨fun pins s σ H Q I ⟨H0, g, env, s0, d, s', eo, ss, hev, hq⟩ => ?_⟩
  obtain ⟨ds, s1, h1, hev⟩ := R.bind_ok_iff hev
  refine wpAny_Call_Name_kw (ld_glob I hg hm ?_ hdb)
  rw [List.all_cons, Bool.and_eq_true] at hns
  refine PySem.W.callWith_K (h₀ := X.base) I.ok.mod.kin hk (thn (ha.run pos pins s σ H (fun vs H' => spD X.kk pg k f (vs ++ [v0]) H' Q E0) I ⟨H0, g, env, s0, ds, s1, eo, ss, h1, fun g1 H1 vs e1 ss1 r1 => ⟨g1, s1, ds ++ [dd], r1.append (Reps.one (rep0 _ g1 H1)), ss1, by rw [hev]; exact hq.ext e1⟩⟩) fun us s2 ⟨vs, H2, I2, r2, q2⟩ => ⟨I2.kIn, ?_⟩) (star_ns hns.1) (any_ns hns.2)
  have r3 : Vals (vs ++ [v0]) (us ++ [u0]) := r2.append (.cons rv0 .nil)
  exact run_gk F hr hgd (hb s2 us I2.kIn (by rw [← r3.length]; exact F.len _ _ _ _ q2)) I2 r3 q2
/-- f(e, .., k = v) -/
theorem d_callK {pg : Pg} {k k' f : Nat} {es : List Expr} {ad : Addr} {fd : FuncData} {ps : List Str} {kn : Str} {dd : D} {kp : Pos} (F : FnG X.prog X.w X.kk X.mg X.base k' ad fd ps (spD X.kk pg k f)) (hr : Room k' X.A) (hgd : X.A.guards = some []) (hg : Gl X x) (hm : X.mg x = some (.ref ad))
    (hk : PySem.W.keepIn X.kk (.ref ad) = true) (hb : FB X.kk fd ps (some (kn, dd))) (ha : PA X (e :: es) (TAof X.kk eves)) (hv : PE X a (TEof X.kk eva)) (hdb : (x == ("__debug__" : Str)) = false) (hns : (e :: es).all notStar = true) :
    PE X (.Call (.Name x p) (e :: es) [⟨some kn, a, kp⟩] pos) (TEof X.kk fun env s => (eves env s).bind fun ds s => (eva env s).bind fun y s => callN pg k f (ds ++ [y]) s) := by
  obtain ⟨_, n, hn, hb⟩ := hb
  refine ⟨fun pins s σ H Q I ⟨H0, g, env, s0, d, s', eo, ss, hev, hq⟩ => ?_⟩
  obtain ⟨ds, s1, h1, hev⟩ := R.bind_ok_iff hev
  obtain ⟨y, s2, h2, hev⟩ := R.bind_ok_iff hev
  have hns2 := hns
  rw [List.all_cons, Bool.and_eq_true] at hns2
  refine wpAny_Call_Name_kw (ld_glob I hg hm ?_ hdb)
  refine PySem.W.callWith_KW (h₀ := X.base) I.ok.mod.kin hk (kws := [⟨some kn, a, kp⟩]) rfl (thn (ha.run pos pins s σ H (fun vs H' => tCons (TEof X.kk eva) tNil σ H' fun zs H2 => zs.length = 1 ∧ spD X.kk pg k f (vs ++ zs) H2 Q E0) I ⟨H0, g, env, s0, ds, s1, eo, ss, h1, fun g1 H1 vs e1 ss1 r1 =>
    ⟨H0, g1, env, s1, y, s2, eo.ext e1, ss1, h2, fun g2 H2 w e2 ss2 r2 => ⟨rfl, g2, s2, ds ++ [y], (Reps.ext e2 _ _ r1).append (Reps.one r2), ss2, by rw [hev]; exact hq.ext (e1.trans e2)⟩⟩⟩) fun us t1 ⟨vs, H1, I1, r, q⟩ => ?_) (by rw [any_ns hns]; rfl) (star_ns hns2.1)
  refine thn ((pk_cons hv pk_nil).run pos pins t1 σ H1 _ I1 q) fun ws t2 ⟨zs, H2, I2, rz, lz, q2⟩ => ⟨I2.kIn, ?_⟩
  have r3 := hb.rel r rz
  have l3 := F.len _ _ _ _ q2
  have lr := r.length
  have lrz := rz.length
  rw [List.length_append] at l3
  exact run_gk F hr hgd (hb.to t2 us ws I2.kIn (by omega) (by simp; omega)) I2 r3 q2
/-! built-ins -/
theorem bi_boot (b : Bi) : bootBuiltins b.name = some (biV b) := by cases b <;> decide +kernel
theorem bi_ne (b : Bi) : (Str.ofString b.name) ≠ "__name__" ∧ ((Str.ofString b.name) == ("__debug__" : Str)) = false := by cases b <;> decide +kernel
theorem d_bi (hc : X.calm = true) (hgd : X.A.guards = some []) (hu : X.A.units + 70 < cLine) (bt : Bi) {es : List Expr} (hx : x = Str.ofString bt.name) (hg : Gl X x) (hm : X.mg x = none) (ha : PA X (e :: es) (TAWof X.kk eves)) (hns : (e :: es).all notStar = true) :
    PE X (.Call (.Name x p) (e :: es) [] pos) (TEof X.kk fun env s => (eves env s).bind fun ds s => lift (bi bt ds) s) := by
  subst hx
  rw [List.all_cons, Bool.and_eq_true] at hns
  have w : ∀ σ H Q, (TEof X.kk fun env s => (eves env s).bind fun ds s => lift (bi bt ds) s) σ H Q → tCB (rBi X.kk bt) (TAWof X.kk eves) σ H Q := fun σ H Q ⟨H0, g, env, s, d, s', eo, ss, hev, hq⟩ => by
    obtain ⟨ds, s1, h1, hev⟩ := R.bind_ok_iff hev
    obtain ⟨h3, rfl⟩ := lift_ok hev
    exact ⟨H0, g, env, s, ds, _, eo, ss, h1, fun g1 H1 vs e1 ss1 r1 => ⟨g1, _, ds, d, h3, ss1, r1, hq.ext e1⟩⟩
  have hcr := call_bi hc hgd hu bt
  have hbt := bi_boot bt
  cases bt <;> first
    | exact (pe_callB hcr hg hm hbt ha (bi_ne _).1 (bi_ne _).2 (star_ns hns.1) (any_ns hns.2)).imp w
    | exact (pe_callTy hcr hg hm hbt ha (bi_ne _).1 (bi_ne _).2 (star_ns hns.1) (any_ns hns.2)).imp w
/-! isinstance -/
theorem ty_boot (t : Ty) : bootBuiltins t.name = some (.type t.name) := by cases t <;> decide +kernel
theorem ty_ne (b : Ty) : (Str.ofString b.name) ≠ "__name__" ∧ ((Str.ofString b.name) == ("__debug__" : Str)) = false := by cases b <;> decide +kernel
theorem d_ty (t : Ty) (hx : x = Str.ofString t.name) (hg : Gl X x) (hm : X.mg x = none) : PE X (.Name x p) (tC (.ty t.name)) := by
  subst hx
  exact pe_bltn hg hm (ty_boot t) rfl (ty_ne t).1 (ty_ne t).2
theorem isi_one (s : S) (d : D) (t : Ty) : isiD s d [t] = isTy (tyD s d) t := by simp [isiD]
/-- a ref in the store is there -/
theorem ref_there {K : KK} {g : Gh} {s : S} {H : Hp} {d : D} {v : V} (ss : SimS K g s H) (h : RepW K g H d v) : ∀ n, d = .ref n → s[n]? ≠ none := by
  intro n e q
  subst e
  obtain ⟨a, _, h1⟩ := h.strict rfl
  have := (List.getElem?_eq_some_iff.mp h1).1
  rw [ss.len] at this
  rw [List.getElem?_eq_none_iff] at q
  omega
theorem d_isi {x2 : Str} {p2 : Pos} (t : Ty) (hg : Gl X "isinstance") (hm : X.mg "isinstance" = none) (ha : PE X a (TWof X.kk eva)) (hx : x2 = Str.ofString t.name) (hg2 : Gl X x2) (hm2 : X.mg x2 = none) (hna : notStar a = true) :
    PE X (.Call (.Name "isinstance" p) [a, .Name x2 p2] [] pos) (TEof X.kk fun env s => (eva env s).bind fun x s => .ok (.bl (isiD s x [t])) s) := by
  refine (pe_callB call_isiY hg hm (by decide +kernel) (pa_cons ha (pa_cons (d_ty t hx hg2 hm2) pa_nil) (star_ns hna)) (by decide +kernel) (by decide +kernel) (star_ns hna) rfl).imp fun σ H Q ⟨H0, g, env, s, d, s', eo, ss, hev, hq⟩ => ?_
  obtain ⟨y, s1, h1, hev⟩ := R.bind_ok_iff hev
  cases hev
  refine ⟨H0, g, env, s, y, _, eo, ss, h1, fun g1 H1 v e1 ss1 r1 => ?_⟩
  obtain ⟨ty, t1, t2⟩ := ty_rep ss1 r1 (ref_there ss1 r1)
  refine ⟨v, .ty t.name, _, _, _, rfl, .ty _, t1, t2 _, ?_⟩
  rw [isi_one] at hq
  exact (hq.ext e1).here ss1 rfl
theorem kit_any {K : PySem.W.Frag} {u : Value} {t : Option Ty} (hk : ∀ c : Ty, PySem.W.kitOne K u (.type c.name) = some (isTy t c)) : ∀ cs : List Ty, PySem.W.kitAny K u (cs.map fun c => Value.type c.name) = some (cs.any (isTy t))
  | [] => kitAny_nil
  | c :: cs => kitAny_cons (hk c) (fun h => by rw [List.any_cons, h, Bool.false_or]; exact kit_any hk cs) fun h => by rw [List.any_cons, h, Bool.true_or]
/-- a written tuple of built-in classes -/
def tyNames : List Ty → List Expr → Bool
  | [], [] => true
  | t :: ts, .Name x _ :: es => decide (x = Str.ofString t.name) && tyNames ts es
  | _, _ => false
theorem pa_tys : ∀ (ts : List Ty) (es : List Expr), (∀ t ∈ ts, X.mg (Str.ofString t.name) = none) → tyNames ts es = true → (∀ x p, Expr.Name x p ∈ es → Gl X x) → PA X es (fun _ H Q => Q (ts.map fun t => V.ty t.name) H)
  | [], [], _, _, _ => pa_nil
  | t :: ts, .Name x p :: es, hgl, h, hg => by
    have h' : (decide (x = Str.ofString t.name) && tyNames ts es) = true := h
    rw [Bool.and_eq_true, decide_eq_true_eq] at h'
    obtain ⟨rfl, h2⟩ := h'
    have g1 := hg _ p (List.mem_cons_self ..)
    exact (pa_cons (d_ty t rfl g1 (hgl t (List.mem_cons_self ..))) (pa_tys ts es (fun u hu => hgl u (List.mem_cons_of_mem _ hu)) h2 fun x p hx => hg x p (List.mem_cons_of_mem _ hx))).imp fun σ H Q q => q
theorem d_isiT' {es : List Expr} {k : Nat} {p2 : Pos} (ts : List Ty) (hg : Gl X "isinstance") (hm : X.mg "isinstance" = none) (ha : PE X a (TWof X.kk eva)) (hgl : ∀ t ∈ ts, X.mg (Str.ofString t.name) = none)
    (hts : tyNames ts es = true) (hges : ∀ x p, Expr.Name x p ∈ es → Gl X x) (hlen : ts.length ≤ lim) (hna : notStar a = true) :
    PE X (.Call (.Name "isinstance" p) [a, .Tuple es k p2] [] pos) (TEof X.kk fun env s => (eva env s).bind fun x s => .ok (.bl (isiD s x ts)) s) := by
  refine (pe_callB call_isiTY hg hm (by decide +kernel) (pa_cons ha (pa_cons (pe_tup (pa_tys ts es hgl hts hges)) pa_nil) (star_ns hna)) (by decide +kernel) (by decide +kernel) (star_ns hna) rfl).imp fun σ H Q ⟨H0, g, env, s, d, s', eo, ss, hev, hq⟩ => ?_
  obtain ⟨y, s1, h1, hev⟩ := R.bind_ok_iff hev
  cases hev
  refine ⟨H0, g, env, s, y, _, eo, ss, h1, fun g1 H1 v e1 ss1 r1 => ⟨by rw [List.length_map]; exact line_lim hlen, fun q hq' => ?_⟩⟩
  have e2 : Ext X.kk g1 H1 g1 (upd H1 q (.tup (ts.map fun t => V.ty t.name))) := Ext.new hq'
  have ss2 := ss1.new (o := .tup (ts.map fun t => V.ty t.name)) hq'
  have r2 := r1.ext e2
  have pr : ∀ ts : List Ty, Paired ClsV (ts.map fun t => V.ty t.name) (ts.map fun t => Value.type t.name) := fun ts => by
    induction ts with
    | nil => exact .nil
    | cons t ts ih => exact .cons (.ty _) ih
  obtain ⟨ty, t1, t2⟩ := ty_rep ss2 r2 (ref_there ss2 r2)
  exact ⟨v, q, _, _, _, _, rfl, upd_same, pr ts, t1, kit_any t2 _, (hq.ext (e1.trans e2)).here ss2 rfl⟩
/-! subscripts, slices -/
theorem d_sub (hu : X.A.units + 66 < cLine) (ha : PE X a (TWof X.kk eva)) (hb : PE X b (TWof X.kk evb)) (hs : PlainIx b) : PE X (.Subscript a b pos) (TEof X.kk fun env s => (eva env s).bind fun x s => (evb env s).bind fun y s => lift (subS s x y) s) :=
  (pe_ix (op_sub' hu) ha hb hs).imp fun σ H Q ⟨H0, g, env, s, d, s', eo, ss, hev, hq⟩ => by
    obtain ⟨x, s1, h1, hev⟩ := R.bind_ok_iff hev
    obtain ⟨y, s2, h2, hev⟩ := R.bind_ok_iff hev
    obtain ⟨h3, rfl⟩ := lift_ok hev
    exact ⟨H0, g, env, s, x, s1, eo, ss, h1, fun g1 H1 v e1 ss1 r1 => ⟨H0, g1, env, s1, y, _, eo.ext e1, ss1, h2, fun g2 H2 w e2 ss2 r2 => ⟨g2, _, x, y, d, h3, ss2, r1.ext e2, r2, hq.ext (e1.trans e2)⟩⟩⟩
theorem do_no : PO X none (TOof X.kk fun _ s => .ok none s) :=
  po_none.imp fun σ H Q ⟨H0, g, env, s, d, s', eo, ss, hev, hq⟩ => by
    cases hev
    exact hq g H Ext.refl ss
theorem do_so (ha : PE X a (TWof X.kk eva)) : PO X (some a) (TOof X.kk fun env s => (eva env s).bind fun x s => (lift (intOf x) s).bind fun i s => .ok (some i) s) :=
  (po_some ha).imp fun σ H Q ⟨H0, g, env, s, d, s', eo, ss, hev, hq⟩ => by
    obtain ⟨x, s1, h1, hev⟩ := R.bind_ok_iff hev
    obtain ⟨i, s2, h2, hev2⟩ := R.bind_ok_iff hev
    obtain ⟨h3, rfl⟩ := lift_ok h2
    cases hev2
    refine ⟨H0, g, env, s, x, _, eo, ss, h1, fun g1 H1 v e1 ss1 r1 => ?_⟩
    cases x with
    | int j => cases h3; cases r1.int; exact ⟨_, rfl, hq g1 H1 e1 ss1⟩
    | _ => cases h3
theorem d_slice {lo hi : Option Expr} {evl evh : Env → S → R (Option Int)} {p2 : Pos} (ha : PE X a (TWof X.kk eva)) (hl : PO X lo (TOof X.kk evl)) (hh : PO X hi (TOof X.kk evh)) :
    PE X (.Subscript a (.Slice lo hi none p2) pos) (TEof X.kk fun env s => (eva env s).bind fun x s => (evl env s).bind fun l s => (evh env s).bind fun h s => lift (sliceD x l h) s) :=
  (pe_slice sl_any ha hl hh).imp fun σ H Q ⟨H0, g, env, s, d, s', eo, ss, hev, hq⟩ => by
    obtain ⟨x, s1, h1, hev⟩ := R.bind_ok_iff hev
    obtain ⟨l, s2, h2, hev⟩ := R.bind_ok_iff hev
    obtain ⟨h, s3, h3, hev⟩ := R.bind_ok_iff hev
    obtain ⟨h4, rfl⟩ := lift_ok hev
    exact ⟨H0, g, env, s, x, s1, eo, ss, h1, fun g1 H1 v e1 ss1 r1 => ⟨H0, g1, env, s1, l, _, eo.ext e1, ss1, h2, fun g2 H2 e2 ss2 => ⟨H0, g2, env, s2, h, _, eo.ext (e1.trans e2), ss2, h3, fun g3 H3 e3 ss3 =>
      ⟨g3, _, x, d, h4, ss3, (r1.ext e2).ext e3, hq.ext ((e1.trans e2).trans e3)⟩⟩⟩⟩
/-! lists that are made -/
theorem df_list (hc : X.calm = true) (hg : Gl X "list") (hm : X.mg "list" = none) (ha : PE X a (TWof X.kk eva)) (hna : notStar a = true) : PE X (.Call (.Name "list" p) [a] [] pos) (TFof X.kk fun env s => (eva env s).bind fun x s => lift x.listed s) := by
  refine (pe_callTy (call_list_of.or (call_listDT hc)) hg hm (by decide +kernel) (pa_cons ha pa_nil (star_ns hna)) (by decide +kernel) (by decide +kernel) (star_ns hna) rfl).imp fun σ H Q ⟨H0, g, env, s, ds, s', eo, ss, hev, hq⟩ => ?_
  obtain ⟨y, s1, h1, hev⟩ := R.bind_ok_iff hev
  obtain ⟨h3, rfl⟩ := lift_ok hev
  refine ⟨H0, g, env, s, y, _, eo, ss, h1, fun g1 H1 v e1 ss1 r1 => ?_⟩
  cases y with
  | tup xs =>
    cases h3
    obtain ⟨ad, vs, rfl, a1, a2⟩ := r1.seqT
    exact .inl ⟨ad, vs, rfl, .inr a1, fun q hq' => hq.mk e1 ss1 hq' a2 r1.lenT⟩
  | lst xs =>
    cases h3
    obtain ⟨ad, vs, rfl, a1, a2⟩ := r1.seqL
    exact .inl ⟨ad, vs, rfl, .inl (SqL.of a1), fun q hq' => hq.mk e1 ss1 hq' a2 r1.len⟩
  | dct t ks vs =>
    obtain ⟨q1, q2⟩ := guardB_some h3
    rw [Bool.and_eq_true] at q1
    obtain ⟨rfl, q1⟩ := q1
    cases q2
    obtain ⟨ad, ho, kv, w2, rfl, e2, e3, e4, L, rfl, e5, e6, rfl, e8⟩ := r1.dic
    refine .inr ⟨ad, L, rfl, e2, fun q hq' => hq.mk e1 ss1 hq' e3 (line_lim (of_decide_eq_true q1))⟩
  | _ => cases h3
theorem rng_rep {K : KK} {g : Gh} {H : Hp} (a b : Int) : Reps K g H (rngD a b) (rgV a b) := by
  unfold rngD rgV
  generalize (b - a).toNat = n
  have : ∀ l : List Nat, Reps K g H (l.map fun i => D.int (a + (i : Nat))) (l.map fun i => V.int (a + (i : Nat))) := fun l => by
    induction l with
    | nil => exact rfl
    | cons i l ih => exact ⟨_, _, rfl, rfl, ih⟩
  exact this _
theorem range_ok {x y : D} {ds : List D} (h : range2D x y = some ds) : ∃ a b, x = .int a ∧ y = .int b ∧ RgOk a b ∧ ds = rngD a b := by
  unfold range2D at h
  split at h
  · obtain ⟨h1, h2⟩ := guardB_some h
    simp only [Bool.and_eq_true, decide_eq_true_eq, small62] at h1
    have h3 := h1.2
    unfold lim at h3
    cases h2
    exact ⟨_, _, rfl, rfl, ⟨h1.1.1.1, h1.1.1.2, h1.1.2.1, h1.1.2.2, by omega⟩, rfl⟩
  · cases h
theorem rng_len {a b : Int} (h : RgOk a b) : (rngD a b).length ≤ sizeLine := by
  have := h.2.2.2.2
  rw [sizeLine_eq]
  simpa [rngD] using this
theorem df_listR (hc : X.calm = true) (hgl : Gl X "list") (hml : X.mg "list" = none) (hg : Gl X "range") (hm : X.mg "range" = none) (ha : PE X a (TWof X.kk eva)) (hb : PE X b (TWof X.kk evb)) (hna : notStar a = true) (hnb : notStar b = true) {p2 p3 : Pos} :
    PE X (.Call (.Name "list" p) [.Call (.Name "range" p2) [a, b] [] p3] [] pos) (TFof X.kk fun env s => (eva env s).bind fun x s => (evb env s).bind fun y s => lift (range2D x y) s) := by
  refine (pe_listRg hc hgl hml (prg_2 hg hm ha hb (star_ns hna) (star_ns hnb) (any_ns (by rw [List.all_cons, hnb]; rfl))) rfl).imp fun σ H Q ⟨H0, g, env, s, ds, s', eo, ss, hev, hq⟩ => ?_
  obtain ⟨x, s1, h1, hev⟩ := R.bind_ok_iff hev
  obtain ⟨y, s2, h2, hev⟩ := R.bind_ok_iff hev
  obtain ⟨h3, rfl⟩ := lift_ok hev
  obtain ⟨i, j, rfl, rfl, h4, rfl⟩ := range_ok h3
  refine ⟨H0, g, env, s, _, _, eo, ss, h1, fun g1 H1 v e1 ss1 r1 => ⟨H0, g1, env, s1, _, _, eo.ext e1, ss1, h2, fun g2 H2 w e2 ss2 r2 => ?_⟩⟩
  cases r1.int; cases r2.int
  exact ⟨_, _, rfl, rfl, h4, fun q hq' => hq.mk (e1.trans e2) ss2 hq' (rng_rep _ _) (rng_len h4)⟩
theorem d_tupR (hc : X.calm = true) (hgl : Gl X "tuple") (hml : X.mg "tuple" = none) (hg : Gl X "range") (hm : X.mg "range" = none) (ha : PE X a (TWof X.kk eva)) (hb : PE X b (TWof X.kk evb)) (hna : notStar a = true) (hnb : notStar b = true) {p2 p3 : Pos} :
    PE X (.Call (.Name "tuple" p) [.Call (.Name "range" p2) [a, b] [] p3] [] pos) (TEof X.kk fun env s => (eva env s).bind fun x s => (evb env s).bind fun y s => lift ((range2D x y).map D.tup) s) := by
  refine (pe_tupRg hc hgl hml (prg_2 hg hm ha hb (star_ns hna) (star_ns hnb) (any_ns (by rw [List.all_cons, hnb]; rfl))) rfl).imp fun σ H Q ⟨H0, g, env, s, ds, s', eo, ss, hev, hq⟩ => ?_
  obtain ⟨x, s1, h1, hev⟩ := R.bind_ok_iff hev
  obtain ⟨y, s2, h2, hev⟩ := R.bind_ok_iff hev
  obtain ⟨h3, rfl⟩ := lift_ok hev
  obtain ⟨l, h3', rfl⟩ := Option.map_eq_some_iff.mp h3
  obtain ⟨i, j, rfl, rfl, h4, rfl⟩ := range_ok h3'
  refine ⟨H0, g, env, s, _, _, eo, ss, h1, fun g1 H1 v e1 ss1 r1 => ⟨H0, g1, env, s1, _, _, eo.ext e1, ss1, h2, fun g2 H2 w e2 ss2 r2 => ?_⟩⟩
  cases r1.int; cases r2.int
  exact ⟨_, _, rfl, rfl, h4, fun q hq' => (hq.ext (e1.trans e2)).tup ss2 hq' (rng_rep _ _) (rng_len h4)⟩
theorem df_listR1 (hc : X.calm = true) (hgl : Gl X "list") (hml : X.mg "list" = none) (hg : Gl X "range") (hm : X.mg "range" = none) (hb : PE X b (TWof X.kk evb)) (hnb : notStar b = true) {p2 p3 : Pos} :
    PE X (.Call (.Name "list" p) [.Call (.Name "range" p2) [b] [] p3] [] pos) (TFof X.kk fun env s => (evb env s).bind fun y s => lift (range2D (.int 0) y) s) := by
  refine (pe_listRg hc hgl hml (prg_1 hg hm hb (star_ns hnb)) rfl).imp fun σ H Q ⟨H0, g, env, s, ds, s', eo, ss, hev, hq⟩ => ?_
  obtain ⟨y, s2, h2, hev⟩ := R.bind_ok_iff hev
  obtain ⟨h3, rfl⟩ := lift_ok hev
  obtain ⟨i, j, e0, rfl, h4, rfl⟩ := range_ok h3
  cases e0
  refine ⟨H0, g, env, s, _, _, eo, ss, h2, fun g2 H2 w e2 ss2 r2 => ?_⟩
  cases r2.int
  exact ⟨_, rfl, h4, fun q hq' => hq.mk e2 ss2 hq' (rng_rep _ _) (rng_len h4)⟩
theorem df_cat (ha : PE X a (TWof X.kk eva)) (hb : PE X b (TWof X.kk evb)) : PE X (.BinOp a .Add b pos) (TFof X.kk fun env s => (eva env s).bind fun x s => (evb env s).bind fun y s => match x, y with
    | .lst xs, .lst ys => lift (guardB (decide (xs.length + ys.length ≤ lim)) (some (xs ++ ys))) s
    | _, _ => .no) := by
  refine (pe_op op_cat ha hb).imp fun σ H Q ⟨H0, g, env, s, ds, s', eo, ss, hev, hq⟩ => ?_
  obtain ⟨x, s1, h1, hev⟩ := R.bind_ok_iff hev
  obtain ⟨y, s2, h2, hev⟩ := R.bind_ok_iff hev
  refine ⟨H0, g, env, s, x, s1, eo, ss, h1, fun g1 H1 v e1 ss1 r1 => ⟨H0, g1, env, s1, y, _, eo.ext e1, ss1, h2, fun g2 H2 w e2 ss2 r2 => ?_⟩⟩
  split at hev
  · obtain ⟨h3, rfl⟩ := lift_ok hev
    obtain ⟨h4, h5⟩ := guardB_some h3
    cases h5
    obtain ⟨l, us, rfl, a1, a2⟩ := (r1.ext e2).seqL
    obtain ⟨m, ws, rfl, b1, b2⟩ := r2.seqL
    exact ⟨l, m, us, ws, rfl, rfl, a1, b1, by rw [a2.length, b2.length]; exact line_lim (of_decide_eq_true h4), fun q hq' => hq.mk (e1.trans e2) ss2 hq' (a2.append b2) (by rw [List.length_append]; exact line_lim (of_decide_eq_true h4))⟩
  · cases hev
theorem df_cut {lo hi : Option Expr} {evl evh : Env → S → R (Option Int)} {p2 : Pos} (ha : PE X a (TWof X.kk eva)) (hl : PO X lo (TOof X.kk evl)) (hh : PO X hi (TOof X.kk evh)) :
    PE X (.Subscript a (.Slice lo hi none p2) pos) (TFof X.kk fun env s => (eva env s).bind fun x s => (evl env s).bind fun l s => (evh env s).bind fun h s => (lift (lstOf x) s).bind fun xs s => .ok (cutD xs l h) s) := by
  refine (pe_slice sl_list ha hl hh).imp fun σ H Q ⟨H0, g, env, s, d, s', eo, ss, hev, hq⟩ => ?_
  obtain ⟨x, s1, h1, hev⟩ := R.bind_ok_iff hev
  obtain ⟨l, s2, h2, hev⟩ := R.bind_ok_iff hev
  obtain ⟨h, s3, h3, hev⟩ := R.bind_ok_iff hev
  obtain ⟨xs, s4, h40, hev2⟩ := R.bind_ok_iff hev
  obtain ⟨h4, rfl⟩ := lift_ok h40
  cases hev2
  refine ⟨H0, g, env, s, x, s1, eo, ss, h1, fun g1 H1 v e1 ss1 r1 => ⟨H0, g1, env, s1, l, _, eo.ext e1, ss1, h2, fun g2 H2 e2 ss2 => ⟨H0, g2, env, s2, h, _, eo.ext (e1.trans e2), ss2, h3, fun g3 H3 e3 ss3 => ?_⟩⟩⟩
  cases x with
  | lst zs =>
    cases h4
    obtain ⟨m, ws, rfl, b1, b2⟩ := ((r1.ext e2).ext e3).seqL
    exact ⟨m, ws, rfl, SqL.of b1, fun q hq' => hq.mk ((e1.trans e2).trans e3) ss3 hq' (b2.cut _ _) (Nat.le_trans (cut_len _ _ _) ((r1.ext e2).ext e3).len)⟩
  | _ => cases h4
theorem df_rep (ha : PE X a (TWof X.kk eva)) (hb : PE X b (TWof X.kk evb)) : PE X (.BinOp a .Mult b pos) (TFof X.kk fun env s => (eva env s).bind fun x s => (evb env s).bind fun y s => match x, y with
    | .lst xs, .int k => lift (guardB (decide (-(2 ^ 63) ≤ k ∧ k < 2 ^ 63 ∧ xs.length * k.toNat ≤ lim)) (some (repL xs k))) s
    | _, _ => .no) := by
  refine (pe_op op_rep ha hb).imp fun σ H Q ⟨H0, g, env, s, ds, s', eo, ss, hev, hq⟩ => ?_
  obtain ⟨x, s1, h1, hev⟩ := R.bind_ok_iff hev
  obtain ⟨y, s2, h2, hev⟩ := R.bind_ok_iff hev
  refine ⟨H0, g, env, s, x, s1, eo, ss, h1, fun g1 H1 v e1 ss1 r1 => ⟨H0, g1, env, s1, y, _, eo.ext e1, ss1, h2, fun g2 H2 w e2 ss2 r2 => ?_⟩⟩
  split at hev
  · obtain ⟨h3, rfl⟩ := lift_ok hev
    obtain ⟨h4, h5⟩ := guardB_some h3
    cases h5
    have h4 := of_decide_eq_true h4
    obtain ⟨l, us, rfl, a1, a2⟩ := (r1.ext e2).seqL
    cases r2.int
    exact ⟨l, _, us, rfl, rfl, a1, h4.1, h4.2.1, by rw [a2.length]; exact line_lim h4.2.2, fun q hq' => hq.mk (e1.trans e2) ss2 hq' (a2.rep _) (by unfold repL; rw [PyProof.Rows.lm_len_rep_flat, Nat.mul_comm]; exact line_lim h4.2.2)⟩
  · cases hev
/-! shared lists, lists turned, texts, places -/
theorem Kp.trans {K : KK} {g g1 g2 : Gh} {H H1 H2 : Hp} (a : Kp K g H g1 H1) (b : Kp K g1 H1 g2 H2) : Kp K g H g2 H2 :=
  ⟨fun n x h => b.io n x (a.io n x h), fun x h => b.zZ x (a.zZ x h), fun x xs h => b.tup x xs (a.tup x xs h), fun x o z h => b.zk x o (a.zZ x z) (a.zk x o z h), fun x xs h => b.fz x xs (a.fz x xs h)⟩
theorem kp_io {K : KK} {g : Gh} {H : Hp} {p : Addr} : Kp K g H ⟨g.io ++ [p], g.Z⟩ H :=
  ⟨fun n a h => by
    show (g.io ++ [p])[n]? = some a
    rw [List.getElem?_append_left (List.getElem?_eq_some_iff.mp h).1]; exact h, fun _ h => h, fun _ _ h => h, fun _ _ _ h => h, fun _ _ h => h⟩
theorem SimS.io {K : KK} {g : Gh} {s : S} {H : Hp} {p : Addr} {ds : List D} {xs : List V} (w : SimS K g s H) (hl : H p = some (.lst xs)) (hio : p ∉ g.io) (hz : ¬ g.Z p) (r : Reps K g H ds xs) : SimS K ⟨g.io ++ [p], g.Z⟩ (s ++ [.lst ds]) H where
  len := by simp [w.len]
  nd := by
    rw [List.nodup_append]
    exact ⟨w.nd, by simp, fun a ha b hb => by simp at hb; rintro rfl; exact hio (hb ▸ ha)⟩
  nz := fun a ha => by
    rcases List.mem_append.mp ha with h | h
    · exact w.nz a h
    · simp at h; subst h; exact hz
  zl := w.zl
  obj := fun n o h => by
    by_cases hn : n < s.length
    · rw [List.getElem?_append_left hn] at h
      obtain ⟨a, ho, h1, h2, h3⟩ := w.obj n o h
      refine ⟨a, ho, (kp_io (K := K) (H := H)).io n a h1, h2, ?_⟩
      cases o with
      | lst zs =>
        obtain ⟨ys, rfl, h4⟩ := h3
        exact ⟨ys, rfl, Reps.kp kp_io _ _ h4⟩
    · rw [List.getElem?_append_right (by omega)] at h
      have h0 : n - s.length = 0 := by
        rcases Nat.eq_zero_or_pos (n - s.length) with z | z
        · exact z
        · rw [List.getElem?_eq_none (by simp; omega)] at h; cases h
      rw [h0] at h
      cases h
      refine ⟨p, _, ?_, hl, xs, rfl, Reps.kp kp_io _ _ r⟩
      show (g.io ++ [p])[n]? = some p
      have : n = g.io.length := by rw [w.len]; omega
      subst this
      simp
theorem df_sorted (hg : Gl X "sorted") (hm : X.mg "sorted" = none) (ha : PE X a (TWof X.kk eva)) (hna : notStar a = true) : PE X (.Call (.Name "sorted" p) [a] [] pos) (TFof X.kk fun env s => (eva env s).bind fun x s => lift (sortedD x) s) := by
  refine (pe_callB cr_sortedI hg hm (by decide +kernel) (pa_cons ha pa_nil (star_ns hna)) (by decide +kernel) (by decide +kernel) (star_ns hna) rfl).imp fun σ H Q ⟨H0, g, env, s, ds, s', eo, ss, hev, hq⟩ => ?_
  obtain ⟨y, s1, h1, hev⟩ := R.bind_ok_iff hev
  obtain ⟨h3, rfl⟩ := lift_ok hev
  refine ⟨H0, g, env, s, y, _, eo, ss, h1, fun g1 H1 v e1 ss1 r1 => ?_⟩
  cases y with
  | lst xs =>
    cases q : intsD xs with
    | none => simp [sortedD, q] at h3
    | some ns =>
      simp [sortedD, q] at h3
      subst h3
      obtain ⟨ad, vs, rfl, a1, a2⟩ := r1.seqL
      have e := ints_rep a2 q
      subst e
      refine ⟨ad, ns, rfl, SqL.of a1, fun ns' p hp hs hq' => ?_⟩
      have e : ns' = srtI ns := sorted_one (hp.trans (srtI_perm ns).symm) hs (srtI_sorted ns)
      subst e
      have hl := r1.len
      have h4 := a2.length
      have h5 := (srtI_perm ns).length_eq
      refine hq.mk e1 ss1 hq' ?_ (by simp only [List.length_map] at h4 ⊢; omega)
      have : ∀ ns : List Int, Reps X.kk g1 H1 (ns.map D.int) (ns.map V.int) := by
        intro ns
        induction ns with
        | nil => exact rfl
        | cons n ns ih => exact ⟨_, _, rfl, rfl, ih⟩
      exact this _
  | _ => cases h3
theorem d_lset {p2 q : Pos} (hc : X.calm = true) (hg : Gl X "len") (hm : X.mg "len" = none) (hg2 : Gl X "set") (hm2 : X.mg "set" = none) (ha : PE X a (TWof X.kk eva)) (hna : notStar a = true) :
    PE X (.Call (.Name "len" p) [.Call (.Name "set" p2) [a] [] q] [] pos) (TEof X.kk fun env s => (eva env s).bind fun x s => lift (lsetD x) s) := by
  refine ⟨fun pins s0 σ H Q I ⟨H0, g, env, s, d, s', eo, ss, hev, hq⟩ => ?_⟩
  obtain ⟨y, s1, h1, hev⟩ := R.bind_ok_iff hev
  obtain ⟨h3, rfl⟩ := lift_ok hev
  have na := star_ns (es := []) (env := X.env) hna
  refine Call_ (ld_blt I hg hm boot_len ?_)
  refine PyProof.Rows.callWith_builtin1 (PyProof.Rows.args_cons ?_ rfl) rfl rfl
  refine Call_ (ld_blt I hg2 hm2 boot_set ?_)
  refine PyProof.Rows.callWith_type1 (PyProof.Rows.args_cons (thn (ha.run pins s0 σ H (fun v H1 => ∃ g1, Ext X.kk g H g1 H1 ∧ SimS X.kk g1 s' H1 ∧ RepW X.kk g1 H1 y v) I ⟨H0, g, env, s, y, _, eo, ss, h1, fun g1 H1 v e1 ss1 r1 => ⟨g1, e1, ss1, r1⟩⟩) fun v t1 ⟨x, H1, I1, r1, g1, e1, ss1, r2⟩ => PyProof.Rows.args_nil ?_) na) na rfl
  cases y with
  | lst xs =>
    cases q : intsD xs with
    | none => simp [lsetD, q] at h3
    | some ns =>
      simp only [lsetD, q] at h3
      obtain ⟨hl, h3⟩ := guardB_some h3
      cases h3
      have hl := of_decide_eq_true hl
      obtain ⟨ad, vs, rfl, a1, a2⟩ := r2.seqL
      have e := ints_rep a2 q
      subst e
      cases r1
      obtain ⟨its, r, pl, hz⟩ := I1.list (SqL.of a1)
      have hlen : its.toArray.size = ns.length := by rw [List.size_toArray, ← r.length, List.length_map]
      refine call_set_list (I1.ok.hd hc) pl.isList (by simpa using RZ.intsAre_vals r) (by rw [hlen]; unfold scanBound; omega) fun h' tk hS hk => ?_
      refine PyProof.Rows.args_nil ?_
      rw [hlen, met_once ns ns.length (Nat.le_refl _), List.take_length] at hS
      obtain ⟨o, es, ep, t, ho, hex, hd, _, _, _, hf, hn⟩ := hS
      have I2 : Inv X pins σ H1 { t1 with heap := h', toks := tk } := I1.kept fun b o e => hk b o (Heap.lt_size e) e
      have hol : (onceI ns).length ≤ ns.length := by
        have : ∀ (xs acc : List Int), (xs.foldl addI acc).length ≤ acc.length + xs.length := by
          intro xs
          induction xs with
          | nil => intro acc; simp
          | cons x xs ih =>
            intro acc
            have h1 := ih (addI acc x)
            have h2 : (addI acc x).length ≤ acc.length + 1 := by unfold addI; split <;> simp
            simp only [List.foldl_cons, List.length_cons]
            omega
        have := this ns []
        simpa [onceI] using this
      exact call_len_set ho hex hd hf (by rw [hn] <;> omega) ⟨.int (onceI ns).length, H1, I2.tok _, ⟨_, by rw [hn]⟩, (hq.ext e1).here ss1 rfl⟩
  | _ => cases h3
theorem d_shr {evf : Env → S → R (List D)} (h : PE X e (TFof X.kk evf)) : PE X e (TEof X.kk fun env s => (evf env s).bind fun ds s => .ok (.ref s.length) (s ++ [.lst ds])) :=
  h.imp fun σ H Q ⟨H0, g, env, s, d, s', eo, ss, hev, hq⟩ => by
    obtain ⟨ds, s1, h1, hev⟩ := R.bind_ok_iff hev
    cases hev
    refine ⟨H0, g, env, s, ds, s1, eo, ss, h1, fun g1 H1 p xs x1 ss1 hp hl hio hz r1 hn => ?_⟩
    refine hq ⟨g1.io ++ [p], g1.Z⟩ H1 _ ⟨x1.toKp.trans kp_io, fun a ha => ?_, x1.zN, x1.keep, x1.live⟩ (ss1.io hl hio hz r1) ⟨p, rfl, ?_⟩
    · rcases List.mem_append.mp ha with z | z
      · exact x1.ioN a z
      · simp at z; subst z; exact .inr hp
    · show (g1.io ++ [p])[s1.length]? = some p
      rw [← ss1.len]; simp
theorem d_rev {k : Nat} {p1 p2 p3 : Pos} (ha : PE X a (TWof X.kk eva)) : PE X (.Subscript a (.Slice none none (some (.UnaryOp .USub (.Constant (.int 1) k p1) p2)) p3) pos) (TEof X.kk fun env s => (eva env s).bind fun x s => lift (revD x) s) :=
  (pe_rev ha).imp fun σ H Q ⟨H0, g, env, s, d, s', eo, ss, hev, hq⟩ => by
    obtain ⟨x, s1, h1, hev⟩ := R.bind_ok_iff hev
    obtain ⟨h3, rfl⟩ := lift_ok hev
    refine ⟨H0, g, env, s, x, _, eo, ss, h1, fun g1 H1 v e1 ss1 r1 => ?_⟩
    have rv : ∀ {ds : List D} {vs : List V}, Reps X.kk g1 H1 ds vs → Reps X.kk g1 H1 ds.reverse vs.reverse := by
      intro ds
      induction ds with
      | nil => intro vs h; cases (show vs = [] from h); exact rfl
      | cons d ds ih =>
        intro vs h
        obtain ⟨v, r, rfl, h1, h2⟩ := h
        rw [List.reverse_cons, List.reverse_cons]
        exact (ih h2).append (Reps.one h1)
    cases x with
    | tup ds =>
      cases h3
      obtain ⟨ad, xs, rfl, a1, a2⟩ := r1.seqT
      exact ⟨ad, xs, rfl, .inr ⟨a1, fun p hp => (hq.ext e1).tup ss1 hp (rv a2) (by rw [List.length_reverse]; exact r1.lenT)⟩⟩
    | lst ds =>
      cases h3
      obtain ⟨ad, xs, rfl, a1, a2⟩ := r1.seqL
      exact ⟨ad, xs, rfl, .inl ⟨SqL.of a1, fun p hp => (hq.ext e1).lst ss1 hp (rv a2) (by rw [List.length_reverse]; exact r1.len)⟩⟩
    | _ => cases h3
theorem d_upper {y : Str} {py apos : Pos} (ha : PE X (.Name y py) (TWof X.kk eva)) (hline : (apos.endLine == pos.line) = true) : PE X (.Call (.Attribute (.Name y py) "upper" apos) [] [] pos) (TEof X.kk fun env s => (eva env s).bind fun x s => lift (upperD x) s) :=
  (pe_upper ha rfl hline).imp fun σ H Q ⟨H0, g, env, s, d, s', eo, ss, hev, hq⟩ => by
    obtain ⟨x, s1, h1, hev⟩ := R.bind_ok_iff hev
    obtain ⟨h3, rfl⟩ := lift_ok hev
    refine ⟨H0, g, env, s, x, _, eo, ss, h1, fun g1 H1 v e1 ss1 r1 => ?_⟩
    cases x with
    | str z =>
      obtain ⟨h4, h5⟩ := guardB_some (show guardB (decide (z.length ≤ lim)) (some (D.str (Txt.upper z))) = some d from h3)
      cases h5
      cases r1.str
      have := of_decide_eq_true h4
      unfold lim at this
      exact ⟨⟨_, rfl⟩, _, rfl, rfl, by omega, (hq.ext e1).here ss1 rfl⟩
    | _ => cases h3
theorem find_ok {y : D} : ∀ {xs : List D} {j : Nat}, findD y xs = some j → ∃ z, (D.pys xs)[j]? = some z ∧ PyData.eqv z y.py = true ∧ ∀ (m : Nat) (z' : PyData), m < j → (D.pys xs)[m]? = some z' → PyData.eqv z' y.py = false
  | [], _, h => by cases h
  | x :: xs, j, h => by
    unfold findD at h
    split at h
    · rename_i c
      cases h
      exact ⟨x.py, rfl, c, fun m _ hm => by omega⟩
    · rename_i c
      cases q : findD y xs with
      | none => rw [q] at h; cases h
      | some i =>
        rw [q] at h
        cases h
        obtain ⟨z, h1, h2, h3⟩ := find_ok q
        refine ⟨z, h1, h2, fun m z' hm hz => ?_⟩
        cases m with
        | zero =>
          cases (show some x.py = some z' from hz)
          simpa [D.eqv] using c
        | succ m => exact h3 m z' (by have : m + 1 < i + 1 := hm; omega) hz
theorem d_index {y : Str} {py apos : Pos} (hu : X.A.units + 66 < cLine) (ha : PE X (.Name y py) (TWof X.kk eva)) (hb : PE X b (TWof X.kk evb)) (hline : (apos.endLine == pos.line) = true) (hs : notStar b = true)
    (hfew : ((backTo pos (starEach [b] X.env)).all (fun x => !x.1) && (backToKw pos (keywordEach [] X.env)).all (fun x => x.1.isSome) && decide (([b] : List Expr).length + ([] : List Keyword).length + (if ([] : List Keyword).isEmpty then 0 else 1) < 30)) = true) :
    PE X (.Call (.Attribute (.Name y py) "index" apos) [b] [] pos) (TEof X.kk fun env s => (eva env s).bind fun x s => (evb env s).bind fun y s => lift (indexD x y) s) :=
  (pe_bm PySem.F.plainAttrs_list PySem.F.slot_list_index PySem.F.type_list_index (mt_indexD (by omega)) ha (pa_cons hb pa_nil (star_ns hs)) rfl hfew hline (star_ns hs) rfl).imp fun σ H Q ⟨H0, g, env, s, d, s', eo, ss, hev, hq⟩ => by
    obtain ⟨x, s1, h1, hev⟩ := R.bind_ok_iff hev
    obtain ⟨y, s2, h2, hev⟩ := R.bind_ok_iff hev
    obtain ⟨h3, rfl⟩ := lift_ok hev
    refine ⟨H0, g, env, s, x, s1, eo, ss, h1, fun g1 H1 v e1 ss1 r1 => ?_⟩
    cases x with
    | lst xs =>
      obtain ⟨h4, h5⟩ := guardB_some (show guardB _ ((findD y xs).map fun i => D.int (i : Nat)) = some d from h3)
      simp only [Bool.and_eq_true, decide_eq_true_eq] at h4
      obtain ⟨⟨⟨c1, c2⟩, c3⟩, c4⟩ := h4
      cases q : findD y xs with
      | none => rw [q] at h5; cases h5
      | some j =>
        rw [q] at h5
        cases h5
        obtain ⟨z, z1, z2, z3⟩ := find_ok q
        obtain ⟨ad, vs, rfl, a1, a2⟩ := r1.seqL
        refine ⟨.inl ⟨rfl, vs, SqL.of a1⟩, H0, g1, env, s1, y, _, eo.ext e1, ss1, h2, fun g2 H2 w e2 ss2 r2 => ?_⟩
        · have cd : (D.lst xs).dat = true := c1
          exact ⟨ad, w, y.py, D.pys xs, j, z, rfl, rfl, (r1.ext e2).dp cd, r2.dp c2, by unfold SeqAt.shaped; rw [Bool.and_eq_true]; exact ⟨dat_canLay _ cd, decide_eq_true c3⟩, by unfold SeqAt.shaped; rw [Bool.and_eq_true]; exact ⟨dat_canLay _ c2, decide_eq_true c4⟩, z1, z2, z3, (hq.ext (e1.trans e2)).here ss2 rfl⟩
    | _ => cases h3
end
end Fw
namespace Fw
open PySem PySem.Spec PyProof.Rows L2

/-! ## H. what is walked: enumerate of a tuple -/
theorem meets_enum1 {v : Value} {o : Obj} {HH : Heap → Prop} (B : Begins v o HH) :
    Meets (Builtin.«enumerate.__new__» ⟨[.type "enumerate", v], []⟩) (fun _ Rr s => HH s.heap ∧
      Rr (.ok (.ret (.ref (s.heap.push o).objs.size))) { s with heap := (s.heap.push o).push { cls := .type "enumerate", data := .fields #[.none, .bool false, .ref s.heap.objs.size, rawInt 0, .none, .none] } }) :=
  .of_wp fun prog w A Rr s h => by
    obtain ⟨hp, gs, dr, tks, os⟩ := s
    obtain ⟨hh, h⟩ := h
    have hsub := sub_enumerate
    have it1 : ∀ {A2 : Around} {E2 : Value → Shared → Prop} {Q2 : Value → Shared → Prop}, Q2 (.ref hp.objs.size) ⟨hp.push o, gs, dr, tks, os⟩ → wpAny (model prog w) A2 (pyIter v) Q2 E2 ⟨hp, gs, dr, tks, os⟩ :=
      fun z => B.iter prog w _ _ ⟨hp, gs, dr, tks, os⟩ _ hh z
    wp_walk using it1
    refine wpAny_stack_any fun stk => wpAny_pure ?_
    split
    · rename_i cc _ _ _ _ _
      cases (cc == Value.type "enumerate")
      all_goals
        wp_walk using it1
        exact ⟨_, rfl, h⟩
    · wp_walk using it1
      exact ⟨_, rfl, h⟩
theorem call_enum1 {prog : Program} {w : World} {A : Around} {E : Value → Shared → Prop} {s : Shared} {v : Value} {o : Obj} {HH : Heap → Prop} {Q : Value → Shared → Prop} (B : Begins v o HH) (h1 : HH s.heap)
    (h : ∀ h2, IsEnum h2 (s.heap.objs.size + 1) s.heap.objs.size 0 .none → h2.get? s.heap.objs.size = some o → (∀ b u, s.heap.get? b = some u → h2.get? b = some u) → Q (.ref (s.heap.objs.size + 1)) { s with heap := h2 }) :
    wpAny (model prog w) A (call (.type "enumerate") [v]) Q E s := by
  refine callType_new F.called_enumerate (by decide) (F.typeCall_enumerate_1 _) (F.newCall_enumerate_1 _) (fun ob => F.args_object_init_2 ob _) F.entry_enumerate_new (meets_enum1 B) ⟨h1, ?_⟩
  have hz : (s.heap.push o).objs.size = s.heap.objs.size + 1 := Heap.size_push ..
  show _ ∧ _
  rw [hz]
  have he : IsEnum ((s.heap.push o).push { cls := .type "enumerate", data := .fields #[.none, .bool false, .ref s.heap.objs.size, rawInt 0, .none, .none] }) (s.heap.objs.size + 1) s.heap.objs.size 0 .none := by
    have q := Heap.get?_push_size (s.heap.push o) (o := { cls := .type "enumerate", data := .fields #[.none, .bool false, .ref s.heap.objs.size, rawInt 0, .none, .none] }) rfl
    rw [hz] at q
    exact q
  exact ⟨⟨_, he, rfl⟩, h _ he (Heap.get?_push_of_some _ (Heap.get?_push_size _ B.free)) fun b u z => Heap.get?_push_of_some _ (Heap.get?_push_of_some _ z)⟩
/-- the tuple at a, each item in a new pair with its place -/
def IteT (K : PySem.W.Frag) (a : Addr) : It :=
  ⟨fun i H => ∃ (xs : List V) (x : V), SqT K H a xs ∧ xs[i]? = some x, fun i H v H' => ∃ T x, v = .ref T ∧ H T = none ∧ H' = upd H T (.tup [.int (i : Nat), x]) ∧ ∀ xs, SqT K H a xs → xs[i]? = some x, fun i H => ∃ xs : List V, SqT K H a xs ∧ xs.length ≤ i⟩
theorem turn_enumT {P : Program} {w : World} {K : PySem.W.Frag} {elts : List Expr} {kk : Nat} {tpos : Pos} (a e it : Addr) :
    Turn P w K (.Tuple elts kk tpos) (IteT K a) [e, it] e (fun i h => (∃ old, IsEnum h e it ((i : Nat) : Int) old) ∧ h.IsTupleIter it a i ∧ e ≠ it ∧ a ≠ it ∧ a ≠ e) where
  mem := by simp
  obj := fun i h st b hb => by
    obtain ⟨⟨old, he⟩, ⟨o, ho, hc, hd⟩, _⟩ := st
    rcases (show b = e ∨ b = it by simpa using hb) with rfl | rfl
    · exact ⟨_, he, fun v q => nomatch q⟩
    · exact ⟨o, ho, fun v q => by rw [hd] at q; cases q⟩
  keep := fun i h h' st k => let ⟨⟨old, he⟩, hi, hne⟩ := st; ⟨⟨old, k e (by simp) _ he⟩, hi.at fun o q => k it (by simp) o q, hne⟩
  item := by
    intro X hP hw hK hc i pins s σ H E I hf st hg
    subst hP hw hK
    obtain ⟨⟨old, he⟩, hit, hne, na, nb⟩ := st
    obtain ⟨xs, x, hq, hx⟩ := hg
    obtain ⟨its, rv, pt, hz⟩ := I.tuple hq
    obtain ⟨u, hu, ru⟩ := rv.get hx
    have hel : e < s.heap.objs.size := Heap.lt_size he
    have hil : it < s.heap.objs.size := by obtain ⟨_, q, _⟩ := hit; exact Heap.lt_size q
    have DD := Draws.tuple (prog := X.prog) (w := X.w) (A := X.A.in1) (I.ok.hd hc) it a na its.toArray
    have hlt : i < its.toArray.size := by
      have := (List.getElem?_eq_some_iff.mp hu).1
      simpa using this
    refine wpAny_pyNext_enum_itemD DD he ⟨hit, pt⟩ hlt hne (by simp only [List.mem_cons, List.not_mem_nil, or_false, not_or]; exact ⟨hne, Ne.symm nb⟩) fun y h' tk hy ho hst hT hsz hk => ?_
    have hyu : y = u := by
      have e1 : its.toArray[i]? = some u := by simpa using hu
      rw [e1] at hy
      exact (Option.some.inj hy).symm
    subst hyu
    refine ⟨_, rfl, wpAny_letOwnedTupleGo_enum (s := { s with heap := h', toks := tk + 1 }) ho fun h2 he' sb => ?_⟩
    have hT2 : h2.get? s.heap.objs.size = some { cls := .type "tuple", data := .seq #[.int i tk, y] } := (sb.2 _ (Nat.ne_of_gt hel)).trans hT
    have new : ObjOk X.prog X.w (upd H s.heap.objs.size (.tup [.int (i : Nat), x])) h2 s.heap.objs.size (.tup [.int (i : Nat), x]) :=
      ⟨by show 2 ≤ sizeLine; decide, [.int i tk, y], .cons ⟨_, rfl⟩ (.cons ru .nil), ⟨_, hT2, rfl, _, rfl⟩⟩
    have I1 : Inv X pins σ (upd H s.heap.objs.size (.tup [.int (i : Nat), x])) { s with heap := h2, toks := tk + 1 } :=
      I.turnedNew (ch := [e, it]) (fun b ob hb q => (sb.2 b (fun z => hb (by simp [z]))).trans (hk b ob (fun z => hb (by simp [z])) (fun z => hb (by simp [z])) q)) hf (Nat.le_refl _) new
    refine ⟨.ref s.heap.objs.size, _, I1, rfl, ⟨_, x, rfl, I.hok.fresh (Nat.le_refl _), rfl, fun ys hy => by rw [I.tuple_inj hy hq]; exact hx⟩, ⟨⟨y, ?_⟩, hst.1.at fun o q => (sb.2 it (Ne.symm hne)).trans q, hne, na, nb⟩, fun b hb => ?_⟩
    · have e1 : ((i + 1 : Nat) : Int) = (i : Int) + 1 := by omega
      rw [e1]; exact he'
    · have hb' : b < s.heap.objs.size := by
        rcases (show b = e ∨ b = it by simpa using hb) with z | z
        · rw [z]; exact hel
        · rw [z]; exact hil
      rw [upd_ne (Nat.ne_of_lt hb')]
      exact (hf b hb).1
  done := by
    intro X hP hw hK hc i pins s σ H E I hf st hg
    subst hP hw hK
    obtain ⟨⟨old, he⟩, hit, hne, na, nb⟩ := st
    obtain ⟨xs, hq, hx⟩ := hg
    obtain ⟨its, rv, pt, hz⟩ := I.tuple hq
    obtain ⟨f0, f1, f2, f3, f4, f5⟩ := hf it (by simp)
    have hT : s.TypeIs (.ref e) "enumerate" := ⟨_, he, rfl⟩
    unfold pyNext
    refine wpAny_bind (wpAny_attempt (wpAny_callSpecial?_slot (name := Str.ofString "__next__") hT F.slot_enumerate_next (wpAny_call_entry F.slot_enumerate_next hT F.entry_enumerate_next ?_ (F.args_enumerate_next_1 _))))
    show wpAny _ _ (field (.ref e) 2 >>= _) _ _ _
    refine wpAny_bind (wpAny_field he rfl (x := .ref it) rfl ?_)
    have hl := rv.length
    refine wpAny_bind (wpAny_nextOf_tuple_end (show X.A.in1.handled = none from I.ok.hd hc) hit pt (by simp; omega) fun h' z he' hx' => ?_)
    obtain ⟨o, ho, hcl⟩ := hx'
    refine wpAny_bind (wpAny_isInstance (T := "StopIteration") (b := true) ⟨o, ho, hcl⟩ isSubtype_stop ?_)
    exact wpAny_pure ⟨rfl, I.turned (t' := s.toks) (fun b o hb q => he' b o hb q) f0 f1 f3 f4 f5⟩
  self := fun A i s Q E st h => let ⟨⟨_, he⟩, _⟩ := st; wpAny_pyIter_enum he h
def iEnumT (K : PySem.W.Frag) (ta : TA) : TI := fun σ H Rr => ta σ H fun vs H1 => ∃ a xs, vs = [.ref a] ∧ SqT K H1 a xs ∧ Rr (IteT K a) H1
theorem pi_enumT {X : Cx} {e : Expr} {ta : TA} {p pos tpos : Pos} {elts : List Expr} {kk : Nat} (hg : Gl X "enumerate") (hm : X.mg "enumerate" = none) (ha : PA X [e] ta) (hs : starEach [e] X.env = [(false, eval e X.env)]) :
    PI X (.Tuple elts kk tpos) (.Call (.Name "enumerate" p) [e] [] pos) (iEnumT X.K ta) := by
  refine ⟨fun pins s σ H Rr I h => ?_⟩
  refine Call_ (ld_blt I hg hm boot_enumerate (PyProof.Rows.callWith_type1 (thn (ha.run pos pins s σ H _ I h) fun us s1 ⟨vs, H1, I1, r1, q1⟩ => ?_) hs rfl))
  obtain ⟨a, xs, rfl, hq, q⟩ := q1
  cases r1 with
  | cons r rr =>
    cases rr
    cases r
    obtain ⟨its, rv, pt, hz⟩ := I1.tuple hq
    refine call_enum1 (begins_tuple a its.toArray) pt fun h' he hit hk => wpAny_pyIter_enum he ?_
    have hal : a < s1.heap.objs.size := pt.lt
    have I2 : Inv X pins σ H1 { s1 with heap := h' } := I1.kept (t' := s1.toks) hk
    refine ⟨s1.heap.objs.size + 1, [s1.heap.objs.size + 1, s1.heap.objs.size], _, _, H1, rfl, I2, turn_enumT a (s1.heap.objs.size + 1) s1.heap.objs.size, ⟨⟨.none, he⟩, ⟨_, hit, rfl, rfl⟩, Nat.succ_ne_self _, Nat.ne_of_lt hal, Nat.ne_of_lt (Nat.lt_succ_of_lt hal)⟩, fun b hb => ?_, q⟩
    have hle : s1.heap.objs.size ≤ b := by
      rcases (show b = s1.heap.objs.size + 1 ∨ b = s1.heap.objs.size by simpa using hb) with z | z
      · rw [z]; exact Nat.le_add_right _ _
      · rw [z]; exact Nat.le_refl _
    exact I1.fpOk hle (I1.hok.fresh hle)
end Fw
namespace Fw
open PySem PySem.Spec PyProof.Rows L2

/-! ## I. walks, targets, comprehensions -/
structure WalkD (K : KK) (g : Gh) (H : Hp) (J : It) (items : List D) : Prop where
  go : ∀ (i : Nat) g2 H2, Kp K g H g2 H2 → i < items.length → J.go i H2
  yld : ∀ (i : Nat) g2 H2 x H3 d, Kp K g H g2 H2 → items[i]? = some d → J.yld i H2 x H3 → (H3 = H2 ∨ ∃ p o, H2 p = none ∧ H3 = upd H2 p o) ∧ Rep K g2 H3 d x
  stop : ∀ g2 H2, Kp K g H g2 H2 → J.stop items.length H2
  len : items.length ≤ sizeLine
def TIof (K : KK) (ev : Env → S → R (List D)) : TI := fun σ H Rr => At K (List D) (fun g s H ds => ∀ g' H' J, Ext K g H g' H' → SimS K g' s H' → WalkD K g' H' J ds → Rr J H') ev σ H
section
variable {K : KK} {g g' g2 : Gh} {H H' H2 : Hp} {a b : Addr} {xs ys : List V} {ds es : List D}
theorem wd_list (hl : ds.length ≤ sizeLine) (hz : g.Z a) (ha : H a = some (.lst xs)) (r : Reps K g H ds xs) : WalkD K g H (Itl K a) ds := by
  have l := r.length
  have sq : ∀ {g2 H2}, Kp K g H g2 H2 → SqL K H2 a xs := fun k => SqL.of (k.zk a _ hz ha)
  refine ⟨fun i g2 H2 k hi => ⟨xs, _, sq k, List.getElem?_eq_getElem (by omega)⟩, fun i g2 H2 x H3 d k hd y => ?_, fun g2 H2 k => ⟨xs, sq k, by omega⟩, hl⟩
  obtain ⟨rfl, y⟩ := y
  refine ⟨.inl rfl, ?_⟩
  obtain ⟨v, h1, h2⟩ := r.get hd
  rw [y xs (sq k)] at h1
  cases h1
  exact Rep.kp k _ _ h2
theorem wd_tup (hl : ds.length ≤ sizeLine) (ha : SqT K H a xs) (r : Reps K g H ds xs) : WalkD K g H (Itt K a) ds := by
  have l := r.length
  refine ⟨fun i g2 H2 k hi => ⟨xs, _, k.tup a xs ha, List.getElem?_eq_getElem (by omega)⟩, fun i g2 H2 x H3 d k hd y => ?_, fun g2 H2 k => ⟨xs, k.tup a xs ha, by omega⟩, hl⟩
  obtain ⟨rfl, y⟩ := y
  refine ⟨.inl rfl, ?_⟩
  obtain ⟨v, h1, h2⟩ := r.get hd
  rw [y xs (k.tup a xs ha)] at h1
  cases h1
  exact Rep.kp k _ _ h2
theorem rng_get (a : Int) (n i : Nat) : (((List.range n).map fun i => D.int (a + (i : Nat)))[i]?) = if i < n then some (.int (a + (i : Nat))) else none := by
  rw [List.getElem?_map]
  by_cases h : i < n
  · rw [if_pos h, List.getElem?_range h]; rfl
  · rw [if_neg h, List.getElem?_eq_none (by simpa using h)]; rfl
theorem wd_range (lo hi : Int) (hz : (rngD lo hi).length ≤ sizeLine) : WalkD K g H (Itr lo (hi - lo).toNat) (rngD lo hi) := by
  have hl : (rngD lo hi).length = (hi - lo).toNat := by simp [rngD]
  refine ⟨fun i g2 H2 k hi' => by rw [hl] at hi'; exact hi', fun i g2 H2 x H3 d k hd y => ?_, fun g2 H2 k => by rw [hl]; exact Nat.le_refl _, hz⟩
  obtain ⟨rfl, rfl⟩ := y
  refine ⟨.inl rfl, ?_⟩
  unfold rngD at hd
  rw [rng_get] at hd
  split at hd
  · cases hd; exact rfl
  · cases hd
theorem enum_get (ds : List D) (i : Nat) : (enumD ds)[i]? = (ds[i]?).map fun d => D.tup [.int (i : Nat), d] := by
  unfold enumD
  rw [List.getElem?_zipWith]
  by_cases h : i < ds.length
  · simp [List.getElem?_range h, h]
  · simp [h]
theorem enum_len (ds : List D) : (enumD ds).length = ds.length := by simp [enumD]
theorem pair_rep {T : Addr} {d e : D} {x y : V} (hT : H T = none) (h1 : Rep K g H d x) (h2 : Rep K g H e y) : Rep K g (upd H T (.tup [x, y])) (.tup [d, e]) (.ref T) :=
  ⟨by show 2 ≤ sizeLine; decide, T, _, rfl, SqT.of upd_same, Reps.ext (Ext.new hT) _ _ ⟨x, _, rfl, h1, y, _, rfl, h2, rfl⟩⟩
theorem wd_enum (hl : ds.length ≤ sizeLine) (hz : g.Z a) (ha : H a = some (.lst xs)) (r : Reps K g H ds xs) : WalkD K g H (Ite K a) (enumD ds) := by
  have l := r.length
  have sq : ∀ {g2 H2}, Kp K g H g2 H2 → SqL K H2 a xs := fun k => SqL.of (k.zk a _ hz ha)
  refine ⟨fun i g2 H2 k hi => ⟨xs, _, sq k, List.getElem?_eq_getElem (by rw [enum_len] at hi; omega)⟩, fun i g2 H2 x H3 d k hd y => ?_, fun g2 H2 k => ⟨xs, sq k, by rw [enum_len]; omega⟩, by rw [enum_len]; exact hl⟩
  obtain ⟨T, z, rfl, hT, rfl, y⟩ := y
  refine ⟨.inr ⟨T, _, hT, rfl⟩, ?_⟩
  rw [enum_get] at hd
  cases q : ds[i]? with
  | none => rw [q] at hd; cases hd
  | some e =>
    rw [q] at hd; cases hd
    obtain ⟨v, h1, h2⟩ := r.get q
    rw [y xs (sq k)] at h1
    cases h1
    exact pair_rep hT rfl (Rep.kp k _ _ h2)
theorem wd_enumT (hl : ds.length ≤ sizeLine) (ha : SqT K H a xs) (r : Reps K g H ds xs) : WalkD K g H (IteT K a) (enumD ds) := by
  have l := r.length
  refine ⟨fun i g2 H2 k hi => ⟨xs, _, k.tup a xs ha, List.getElem?_eq_getElem (by rw [enum_len] at hi; omega)⟩, fun i g2 H2 x H3 d k hd y => ?_, fun g2 H2 k => ⟨xs, k.tup a xs ha, by rw [enum_len]; omega⟩, by rw [enum_len]; exact hl⟩
  obtain ⟨T, z, rfl, hT, rfl, y⟩ := y
  refine ⟨.inr ⟨T, _, hT, rfl⟩, ?_⟩
  rw [enum_get] at hd
  cases q : ds[i]? with
  | none => rw [q] at hd; cases hd
  | some e =>
    rw [q] at hd; cases hd
    obtain ⟨v, h1, h2⟩ := r.get q
    rw [y xs (k.tup a xs ha)] at h1
    cases h1
    exact pair_rep hT rfl (Rep.kp k _ _ h2)
theorem zip_get (ds es : List D) (i : Nat) {d : D} (h : (zipD ds es)[i]? = some d) : ∃ x y, ds[i]? = some x ∧ es[i]? = some y ∧ d = .tup [x, y] := by
  unfold zipD at h
  rw [List.getElem?_zipWith] at h
  cases q : ds[i]? with
  | none => rw [q] at h; cases h
  | some x =>
    cases q2 : es[i]? with
    | none => rw [q, q2] at h; cases h
    | some y => rw [q, q2] at h; cases h; exact ⟨x, y, rfl, rfl, rfl⟩
theorem wd_zip (hl : ds.length ≤ sizeLine) (hz : g.Z a) (ha : H a = some (.lst xs)) (r : Reps K g H ds xs) (hz2 : g.Z b) (hb : H b = some (.lst ys)) (r2 : Reps K g H es ys) : WalkD K g H (Itz K a b) (zipD ds es) := by
  have l := r.length
  have l2 := r2.length
  have sq : ∀ {g2 H2}, Kp K g H g2 H2 → SqL K H2 a xs := fun k => SqL.of (k.zk a _ hz ha)
  have sq2 : ∀ {g2 H2}, Kp K g H g2 H2 → SqL K H2 b ys := fun k => SqL.of (k.zk b _ hz2 hb)
  have zl : (zipD ds es).length = min ds.length es.length := by simp [zipD]
  refine ⟨fun i g2 H2 k hi => ⟨xs, ys, _, _, sq k, sq2 k, List.getElem?_eq_getElem (by omega), List.getElem?_eq_getElem (by omega)⟩, fun i g2 H2 x H3 d k hd y => ?_, fun g2 H2 k => ⟨xs, ys, sq k, sq2 k, by omega⟩, by omega⟩
  obtain ⟨T, u, w, rfl, hT, rfl, y1, y2⟩ := y
  refine ⟨.inr ⟨T, _, hT, rfl⟩, ?_⟩
  obtain ⟨d1, d2, e1, e2, rfl⟩ := zip_get _ _ _ hd
  obtain ⟨v1, h1, h2⟩ := r.get e1
  obtain ⟨v2, h3, h4⟩ := r2.get e2
  rw [y1 xs (sq k)] at h1
  rw [y2 ys (sq2 k)] at h3
  cases h1; cases h3
  exact pair_rep hT (Rep.kp k _ _ h2) (Rep.kp k _ _ h4)
theorem wd_zipT (hl : ds.length ≤ sizeLine) (ha : SqT K H a xs) (r : Reps K g H ds xs) (hb : SqT K H b ys) (r2 : Reps K g H es ys) : WalkD K g H (RZ.ItzT K a b) (zipD ds es) := by
  have l := r.length
  have l2 := r2.length
  have zl : (zipD ds es).length = min ds.length es.length := by simp [zipD]
  refine ⟨fun i g2 H2 k hi => ⟨xs, ys, _, _, k.tup a xs ha, k.tup b ys hb, List.getElem?_eq_getElem (by omega), List.getElem?_eq_getElem (by omega)⟩, fun i g2 H2 x H3 d k hd y => ?_, fun g2 H2 k => ⟨xs, ys, k.tup a xs ha, k.tup b ys hb, by omega⟩, by omega⟩
  obtain ⟨T, u, w, rfl, hT, rfl, y1, y2⟩ := y
  refine ⟨.inr ⟨T, _, hT, rfl⟩, ?_⟩
  obtain ⟨d1, d2, e1, e2, rfl⟩ := zip_get _ _ _ hd
  obtain ⟨v1, h1, h2⟩ := r.get e1
  obtain ⟨v2, h3, h4⟩ := r2.get e2
  rw [y1 xs (k.tup a xs ha)] at h1
  rw [y2 ys (k.tup b ys hb)] at h3
  cases h1; cases h3
  exact pair_rep hT (Rep.kp k _ _ h2) (Rep.kp k _ _ h4)
end
section
variable {X : Cx} {e a b c tg : Expr} {pos p : Pos} {ev eva evb evc : Env → S → R D} {eves : Env → S → R (List D)}
theorem _root_.L2.PI.or {w1 w2 : TI} (h1 : PI X tg e w1) (h2 : PI X tg e w2) : PI X tg e (fun σ H Rr => w1 σ H Rr ∨ w2 σ H Rr) := ⟨fun pins s σ H Rr I h => h.elim (h1.run pins s σ H Rr I) (h2.run pins s σ H Rr I)⟩
theorem wd_str {K : KK} {g : Gh} {H : Hp} {x : Str} (hl : x.length ≤ sizeLine) : WalkD K g H (Its x) (x.cps.toList.map fun c => D.str ⟨#[c]⟩) := by
  have l : x.cps.toList.length = x.cps.size := by simp
  refine ⟨fun i g2 H2 k hi => ?_, fun i g2 H2 v H3 d k hd y => ?_, fun g2 H2 k => ?_, ?_⟩
  · show i < x.cps.size
    rw [List.length_map] at hi; omega
  · obtain ⟨rfl, c, hc, rfl⟩ := y
    rw [List.getElem?_map, Array.getElem?_toList, hc] at hd
    cases hd
    exact ⟨.inl rfl, rfl⟩
  · show x.cps.size ≤ _
    rw [List.length_map]; omega
  · rw [List.length_map, l]; exact hl
theorem di_seq (ha : PE X a (TEof X.kk eva)) : PI X tg a (TIof X.kk fun env s => (eva env s).bind fun x s => lift x.itemsS s) :=
  (((pi_list ha).or (pi_tup ha)).or (pi_str ha)).imp fun σ H Rr ⟨H0, g, env, s, ds, s', eo, ss, hev, hq⟩ => by
    obtain ⟨x, s1, h1, hev2⟩ := R.bind_ok_iff hev
    obtain ⟨h3, rfl⟩ := lift_ok hev2
    cases x with
    | str z =>
      obtain ⟨q1, q2⟩ := guardB_some h3
      cases q2
      refine .inr ⟨H0, g, env, s, _, _, eo, ss, h1, fun g1 H1 v e1 ss1 r1 => ?_⟩
      cases (show v = _ from r1)
      exact ⟨z, rfl, hq g1 H1 _ e1 ss1 (wd_str (line_lim (of_decide_eq_true q1)))⟩
    | tup zs =>
      cases h3
      refine .inl (.inr ⟨H0, g, env, s, _, _, eo, ss, h1, fun g1 H1 v e1 ss1 r1 => ?_⟩)
      obtain ⟨hl, ad, vs, rfl, a1, a2⟩ := r1
      exact ⟨ad, rfl, ⟨vs, a1⟩, hq g1 H1 _ e1 ss1 (wd_tup hl a1 a2)⟩
    | lst zs =>
      cases h3
      refine .inl (.inl ⟨H0, g, env, s, _, _, eo, ss, h1, fun g1 H1 v e1 ss1 r1 => ?_⟩)
      obtain ⟨hl, ad, vs, rfl, hz, a1, a2⟩ := r1
      exact ⟨ad, rfl, ⟨vs, SqL.of a1⟩, hq g1 H1 _ e1 ss1 (wd_list hl hz a1 a2)⟩
    | _ => cases h3
theorem di_range1 (hg : Gl X "range") (hm : X.mg "range" = none) (ha : PE X a (TWof X.kk eva)) (hna : notStar a = true) : PI X tg (.Call (.Name "range" p) [a] [] pos) (TIof X.kk fun env s => (eva env s).bind fun x s => lift (range2D (.int 0) x) s) :=
  (pi_range1 hg hm (pa_cons ha pa_nil (star_ns hna)) (star_ns hna)).imp fun σ H Rr ⟨H0, g, env, s, ds, s', eo, ss, hev, hq⟩ => by
    obtain ⟨x, s1, h1, hev2⟩ := R.bind_ok_iff hev
    obtain ⟨h3, rfl⟩ := lift_ok hev2
    obtain ⟨i, j, e0, rfl, h4, rfl⟩ := range_ok h3
    cases e0
    refine ⟨H0, g, env, s, _, _, eo, ss, h1, fun g1 H1 v e1 ss1 r1 => ?_⟩
    cases r1.int
    refine ⟨j, rfl, h4.2.2.1, h4.2.2.2.1, hq g1 H1 _ e1 ss1 ?_⟩
    have q := wd_range (K := X.kk) (g := g1) (H := H1) 0 j (rng_len h4)
    rw [Int.sub_zero] at q
    exact q
theorem di_range2 (hg : Gl X "range") (hm : X.mg "range" = none) (ha : PE X a (TWof X.kk eva)) (hb : PE X b (TWof X.kk evb)) (hna : notStar a = true) (hnb : notStar b = true) :
    PI X tg (.Call (.Name "range" p) [a, b] [] pos) (TIof X.kk fun env s => (eva env s).bind fun x s => (evb env s).bind fun y s => lift (range2D x y) s) :=
  (pi_range2 hg hm (pa_cons ha (pa_cons hb pa_nil (star_ns hnb)) (star_ns hna)) (by rw [star_ns hna, star_ns hnb]; rfl) (star_ns hnb)).imp fun σ H Rr ⟨H0, g, env, s, ds, s', eo, ss, hev, hq⟩ => by
    obtain ⟨x, s1, h1, hev2⟩ := R.bind_ok_iff hev
    obtain ⟨y, s2, h2, hev3⟩ := R.bind_ok_iff hev2
    obtain ⟨h3, rfl⟩ := lift_ok hev3
    obtain ⟨i, j, rfl, rfl, h4, rfl⟩ := range_ok h3
    refine ⟨H0, g, env, s, _, _, eo, ss, h1, fun g1 H1 v e1 ss1 r1 => ⟨H0, g1, env, s1, _, _, eo.ext e1, ss1, h2, fun g2 H2 w e2 ss2 r2 => ?_⟩⟩
    cases r1.int; cases r2.int
    exact ⟨i, j, rfl, ⟨h4.1, h4.2.1, h4.2.2.1, h4.2.2.2.1⟩, hq g2 H2 _ (e1.trans e2) ss2 (wd_range i j (rng_len h4))⟩
theorem di_enum {elts : List Expr} {kk : Nat} {tpos : Pos} (hg : Gl X "enumerate") (hm : X.mg "enumerate" = none) (ha : PE X a (TEof X.kk eva)) (hna : notStar a = true) :
    PI X (.Tuple elts kk tpos) (.Call (.Name "enumerate" p) [a] [] pos) (TIof X.kk fun env s => (eva env s).bind fun x s => lift (x.items.map enumD) s) :=
  ((pi_enum hg hm (pa_cons ha pa_nil (star_ns hna)) (star_ns hna)).or (pi_enumT hg hm (pa_cons ha pa_nil (star_ns hna)) (star_ns hna))).imp fun σ H Rr ⟨H0, g, env, s, ds, s', eo, ss, hev, hq⟩ => by
    obtain ⟨x, s1, h1, hev2⟩ := R.bind_ok_iff hev
    obtain ⟨h3, rfl⟩ := lift_ok hev2
    cases x with
    | tup zs =>
      cases h3
      refine .inr ⟨H0, g, env, s, _, _, eo, ss, h1, fun g1 H1 v e1 ss1 r1 => ?_⟩
      obtain ⟨hl, ad, vs, rfl, a1, a2⟩ := r1
      exact ⟨ad, vs, rfl, a1, hq g1 H1 _ e1 ss1 (wd_enumT hl a1 a2)⟩
    | lst zs =>
      cases h3
      refine .inl ⟨H0, g, env, s, _, _, eo, ss, h1, fun g1 H1 v e1 ss1 r1 => ?_⟩
      obtain ⟨hl, ad, vs, rfl, hz, a1, a2⟩ := r1
      exact ⟨ad, vs, rfl, SqL.of a1, hq g1 H1 _ e1 ss1 (wd_enum hl hz a1 a2)⟩
    | _ => cases h3
theorem di_zip {elts : List Expr} {kk : Nat} {tpos : Pos} (hg : Gl X "zip") (hm : X.mg "zip" = none) (ha : PE X a (TEof X.kk eva)) (hb : PE X b (TEof X.kk evb)) (hna : notStar a = true) (hnb : notStar b = true) :
    PI X (.Tuple elts kk tpos) (.Call (.Name "zip" p) [a, b] [] pos) (TIof X.kk fun env s => (eva env s).bind fun x s => (evb env s).bind fun y s => match x, y with
    | .lst xs, .lst ys => .ok (zipD xs ys) s
    | .tup xs, .tup ys => .ok (zipD xs ys) s
    | _, _ => .no) :=
  (RZ.pi_zipA hg hm (pa_cons ha (pa_cons hb pa_nil (star_ns hnb)) (star_ns hna)) (star_ns hna) (any_ns (by rw [List.all_cons, hnb]; rfl))).imp fun σ H Rr ⟨H0, g, env, s, ds, s', eo, ss, hev, hq⟩ => by
    obtain ⟨x, s1, h1, hev2⟩ := R.bind_ok_iff hev
    obtain ⟨y, s2, h2, hev3⟩ := R.bind_ok_iff hev2
    refine ⟨H0, g, env, s, x, s1, eo, ss, h1, fun g1 H1 v e1 ss1 r1 => ⟨H0, g1, env, s1, y, _, eo.ext e1, ss1, h2, fun g2 H2 w e2 ss2 r2 => ?_⟩⟩
    have r1' := Rep.ext e2 _ _ r1
    split at hev3
    · cases hev3
      obtain ⟨hl, ad, vs, rfl, hz, a1, a2⟩ := r1'
      obtain ⟨_, bd, ws, rfl, hz2, b1, b2⟩ := r2
      exact ⟨ad, bd, vs, ws, rfl, .inl ⟨SqL.of a1, SqL.of b1, hq g2 H2 _ (e1.trans e2) ss2 (wd_zip hl hz a1 a2 hz2 b1 b2)⟩⟩
    · cases hev3
      obtain ⟨hl, ad, vs, rfl, a1, a2⟩ := r1'
      obtain ⟨_, bd, ws, rfl, b1, b2⟩ := r2
      exact ⟨ad, bd, vs, ws, rfl, .inr ⟨a1, b1, hq g2 H2 _ (e1.trans e2) ss2 (wd_zipT hl a1 a2 b1 b2)⟩⟩
    · cases hev3
end
/-! targets -/
/-- a tuple or a list of so many things -/
def gSq (K : KK) (n : Nat) (t : TGs) : TG := fun v σ H Q => gTup K n t v σ H Q ∨ gLst K n t v σ H Q
mutual
def gT (K : KK) : Tg → TG
  | .nm i => gName i
  | .tup ts => gSq K ts.len (gTs K ts)
def gTs (K : KK) : Tgs → TGs
  | .nil => gNil
  | .cons t ts => gCons (gT K t) (gTs K ts)
def Tgs.len : Tgs → Nat
  | .nil => 0
  | .cons _ ts => ts.len + 1
end
mutual
def Tg.slots : Tg → List Nat
  | .nm i => [i]
  | .tup ts => ts.slots
def Tgs.slots : Tgs → List Nat
  | .nil => []
  | .cons t ts => t.slots ++ ts.slots
end
section
variable {K : KK} {g : Gh} {H H0 : Hp}
theorem EnvOk.put {env : Env} {σ : L2.St} (eo : EnvOk K g H H0 env σ) {i : Nat} {d : D} {v : V} (r : Rep K g H d v) : EnvOk K g H H0 (env.set i (some (.val d))) (σ.set i (some v)) where
  len := by simpa using eo.len
  at_ := fun j x h => by
    by_cases e : i = j
    · subst e
      have hi : i < env.length := by
        have := (List.getElem?_eq_some_iff.mp h).1
        simpa using this
      rw [List.getElem?_set_self hi] at h
      cases h
      exact ⟨v, List.getElem?_set_self (by rw [eo.len]; exact hi), r⟩
    · rw [List.getElem?_set_ne e] at h
      obtain ⟨w, h1, h2⟩ := eo.at_ j x h
      exact ⟨w, by rw [List.getElem?_set_ne e]; exact h1, h2⟩
  inj := fun j k xs ys h1 h2 h3 => by
    have ne : ∀ {m zs}, (env.set i (some (Sl.val d)))[m]? = some (some (.obj zs)) → i ≠ m ∧ env[m]? = some (some (.obj zs)) := fun {m zs} h => by
      by_cases e : i = m
      · subst e
        have hi : i < env.length := by
          have := (List.getElem?_eq_some_iff.mp h).1
          simpa using this
        rw [List.getElem?_set_self hi] at h
        cases h
      · rw [List.getElem?_set_ne e] at h
        exact ⟨e, h⟩
    obtain ⟨n1, e1⟩ := ne h1
    obtain ⟨n2, e2⟩ := ne h2
    rw [List.getElem?_set_ne n1, List.getElem?_set_ne n2] at h3
    exact eo.inj j k xs ys e1 e2 h3
theorem wipe_set {σ : L2.St} {i : Nat} {o : Option V} : ∀ (vs : List Nat), i ∈ vs → wipe (σ.set i o) vs = wipe σ vs := by
  intro vs
  induction vs with
  | nil => intro h; cases h
  | cons w vs ih =>
    intro h
    unfold wipe
    by_cases e : w = i
    · subst e
      by_cases h2 : w ∈ vs
      · rw [ih h2]
      · have : ∀ us : List Nat, w ∉ us → (wipe (σ.set w o) us) = (wipe σ us).set w o := by
          intro us
          induction us with
          | nil => intro _; rfl
          | cons u us ih2 =>
            intro hn
            simp only [List.mem_cons, not_or] at hn
            unfold wipe
            rw [ih2 hn.2, List.set_comm _ _ hn.1]
        rw [this vs h2, List.set_set]
    · rcases List.mem_cons.mp h with h | h
      · exact absurd h.symm e
      · rw [ih h]
theorem puts_len : ∀ (ts : Tgs) (ds : List D) (env env' : Env), ts.puts ds env = some env' → ds.length = ts.len
  | .nil, ds, env, env', h => by
    cases ds with
    | nil => rfl
    | cons x xs => cases h
  | .cons t ts, ds, env, env', h => by
    cases ds with
    | nil => cases h
    | cons x xs =>
      obtain ⟨env1, h1, h2⟩ := Option.bind_eq_some_iff.mp (show (t.put x env).bind _ = some env' from h)
      simp [puts_len ts xs env1 env' h2, Tgs.len]
mutual
/-- a target takes a datum -/
theorem tg_ok : ∀ (t : Tg) (d : D) (v : V) (env env' : Env) (σ : L2.St) (Q : L2.St → Hp → Prop), t.put d env = some env' → EnvOk K g H H0 env σ → Rep K g H d v →
    (∀ σ', EnvOk K g H H0 env' σ' → (∀ vs : List Nat, (∀ i ∈ t.slots, i ∈ vs) → wipe σ' vs = wipe σ vs) → Q σ' H) → gT K t v σ H Q
  | .nm i, d, v, env, env', σ, Q, h, eo, r, q => by
    cases h
    exact q _ (eo.put r) fun vs hv => wipe_set vs (hv i (List.mem_singleton.mpr rfl))
  | .tup ts, d, v, env, env', σ, Q, h, eo, r, q => by
    cases d with
    | tup ds =>
      obtain ⟨_, a, xs, rfl, h2, h3⟩ := r
      obtain ⟨e1, e2⟩ := tgs_ok ts ds xs env env' σ Q h eo h3 q
      exact .inl ⟨a, xs, rfl, h2, by rw [h3.length]; exact e1, e2⟩
    | lst ds =>
      obtain ⟨_, a, xs, rfl, _, h2, h3⟩ := r
      obtain ⟨e1, e2⟩ := tgs_ok ts ds xs env env' σ Q h eo h3 q
      exact .inr ⟨a, xs, rfl, .inl (.inl h2), by rw [h3.length]; exact e1, e2⟩
    | _ => cases h
theorem tgs_ok : ∀ (ts : Tgs) (ds : List D) (vs : List V) (env env' : Env) (σ : L2.St) (Q : L2.St → Hp → Prop), ts.puts ds env = some env' → EnvOk K g H H0 env σ → Reps K g H ds vs →
    (∀ σ', EnvOk K g H H0 env' σ' → (∀ vs : List Nat, (∀ i ∈ ts.slots, i ∈ vs) → wipe σ' vs = wipe σ vs) → Q σ' H) → ds.length = ts.len ∧ gTs K ts vs σ H Q
  | .nil, ds, vs, env, env', σ, Q, h, eo, r, q => by
    cases ds with
    | nil =>
      cases h
      cases (show vs = [] from r)
      exact ⟨rfl, rfl, q σ eo fun _ _ => rfl⟩
    | cons x xs => cases h
  | .cons t ts, ds, vs, env, env', σ, Q, h, eo, r, q => by
    cases ds with
    | nil => cases h
    | cons x xs =>
      obtain ⟨env1, h1, h2⟩ := Option.bind_eq_some_iff.mp (show (t.put x env).bind _ = some env' from h)
      obtain ⟨w, wr, rfl, r1, r2⟩ := r
      have hl := puts_len ts xs env1 env' h2
      refine ⟨by simp [hl, Tgs.len], w, wr, rfl, tg_ok t x w env env1 σ _ h1 eo r1 fun σ1 eo1 w1 => ?_⟩
      exact (tgs_ok ts xs wr env1 env' σ1 Q h2 eo1 r2 fun σ2 eo2 w2 => q σ2 eo2 fun vs hv => (w2 vs fun i hi => hv i (List.mem_append_right _ hi)).trans (w1 vs fun i hi => hv i (List.mem_append_left _ hi))).2
end
end
/-! the targets' rules -/
mutual
def chkTg (N : List Str) (sc : Scope) (fn : Str → Bool) : Tg → Expr → Bool
  | .nm i, .Name x _ => decide (N[i]? = some x) && (decide (sc.names.lookup x = some .local) || (decide (sc.names.lookup x = some .cell) && fn x))
  | .tup ts, .Tuple es _ _ => chkTgs N sc fn ts es
  | _, _ => false
def chkTgs (N : List Str) (sc : Scope) (fn : Str → Bool) : Tgs → List Expr → Bool
  | .nil, [] => true
  | .cons t ts, e :: es => chkTg N sc fn t e && chkTgs N sc fn ts es
  | _, _ => false
end
theorem chkTg_ns {N : List Str} {sc : Scope} {fn : Str → Bool} : ∀ {t : Tg} {e : Expr}, chkTg N sc fn t e = true → ∀ es env, assignEach (e :: es) env = (false, assign e env) :: assignEach es env
  | .nm i, e, h => by cases e <;> first | (intro _ _; rfl) | (simp [chkTg] at h)
  | .tup ts, e, h => by cases e <;> first | (intro _ _; rfl) | (simp [chkTg] at h)
section
variable {X : Cx}
theorem chkTgs_each {N : List Str} {sc : Scope} {fn : Str → Bool} {env : PySem.Env} : ∀ {ts : Tgs} {es : List Expr}, chkTgs N sc fn ts es = true → (assignEach es env).length = ts.len ∧ (assignEach es env).findIdx? (·.1) = none
  | .nil, [], _ => ⟨rfl, rfl⟩
  | .cons t ts, e :: es, h => by
    have h' : (chkTg N sc fn t e && chkTgs N sc fn ts es) = true := h
    rw [Bool.and_eq_true] at h'
    obtain ⟨h1, h2⟩ := chkTgs_each (env := env) h'.2
    rw [chkTg_ns h'.1]
    refine ⟨by simp [h1, Tgs.len], ?_⟩
    rw [List.findIdx?_cons]
    simp [h2]
  | .nil, _ :: _, h => by cases h
  | .cons _ _, [], h => by cases h
mutual
theorem pg_of (hc : X.calm = true) (hN : X.N.Nodup) : ∀ (t : Tg) (e : Expr), chkTg X.N X.env.scope X.fn t e = true → PG X e (gT X.kk t)
  | .nm i, e, h => by
    cases e with
    | Name x pos =>
      simp only [chkTg, Bool.and_eq_true, Bool.or_eq_true, decide_eq_true_eq] at h
      exact pg_name hN h.1 (h.2.elim .inl fun z => .inr z.1) (h.2.elim .inr fun z => .inl z.2)
    | _ => simp [chkTg] at h
  | .tup ts, e, h => by
    cases e with
    | Tuple es k pos =>
      obtain ⟨h1, h2⟩ := chkTgs_each (env := X.env) h
      have p1 := pg_tup (k := k) (pos := pos) hc (pgs_of hc hN ts es h) h1 h2
      have p2 := pg_lst (k := k) (pos := pos) hc (pgs_of hc hN ts es h) h1 h2
      exact ⟨fun pins s σ H v u Q I r hw => hw.elim (p1.run pins s σ H v u Q I r) (p2.run pins s σ H v u Q I r)⟩
    | _ => simp [chkTg] at h
theorem pgs_of (hc : X.calm = true) (hN : X.N.Nodup) : ∀ (ts : Tgs) (es : List Expr), chkTgs X.N X.env.scope X.fn ts es = true → PGs X es (gTs X.kk ts)
  | .nil, [], _ => pgs_nil
  | .cons t ts, e :: es, h => by
    have h' : (chkTg X.N X.env.scope X.fn t e && chkTgs X.N X.env.scope X.fn ts es) = true := h
    rw [Bool.and_eq_true] at h'
    exact pgs_cons (pg_of hc hN t e h'.1) (pgs_of hc hN ts es h'.2) (by rw [chkTg_ns h'.1]; rfl)
  | .nil, _ :: _, h => by cases h
  | .cons _ _, [], h => by cases h
end
end
end Fw
namespace Fw
open PySem PySem.Spec PyProof.Rows L2

/-! ## J. comprehensions, statements -/
theorem wipe_len (env : Env) : ∀ vs : List Nat, (wipeE env vs).length = env.length
  | [] => rfl
  | v :: vs => by unfold wipeE; rw [List.length_set, wipe_len env vs]
theorem wipeE_some {env : Env} {i : Nat} {x : Sl} : ∀ {vs : List Nat}, (wipeE env vs)[i]? = some (some x) → env[i]? = some (some x) ∧ i ∉ vs
  | [], h => ⟨h, by simp⟩
  | v :: vs, h => by
    unfold wipeE at h
    by_cases hi : v = i
    · subst hi
      by_cases hv : v < (wipeE env vs).length
      · rw [List.getElem?_set_self hv] at h; cases h
      · rw [List.getElem?_eq_none (by simpa using hv)] at h; cases h
    · rw [List.getElem?_set_ne hi] at h
      obtain ⟨h1, h2⟩ := wipeE_some h
      exact ⟨h1, by simp only [List.mem_cons, not_or]; exact ⟨fun e => hi e.symm, h2⟩⟩
section
variable {K : KK} {g g1 : Gh} {H H0 H1 : Hp} {env : Env} {σ : L2.St}
theorem EnvOk.wipe (eo : EnvOk K g H H0 env σ) (vs : List Nat) : EnvOk K g H H0 (wipeE env vs) (wipe σ vs) where
  len := by rw [wipe_length, wipe_len]; exact eo.len
  at_ := fun i x h => by
    obtain ⟨h1, h2⟩ := wipeE_some h
    obtain ⟨v, e1, e2⟩ := eo.at_ i x h1
    exact ⟨v, by rw [wipe_out h2]; exact e1, e2⟩
  inj := fun i j xs ys h1 h2 h3 => by
    obtain ⟨a1, a2⟩ := wipeE_some h1
    obtain ⟨b1, b2⟩ := wipeE_some h2
    rw [wipe_out a2, wipe_out b2] at h3
    exact eo.inj i j xs ys a1 b1 h3
end
theorem wipe_sub {σ : L2.St} {vs : List Nat} : ∀ us : List Nat, (∀ i ∈ us, i ∈ vs) → wipe (wipe σ us) vs = wipe σ vs
  | [], _ => rfl
  | u :: us, h => by
    show wipe ((wipe σ us).set u none) vs = _
    rw [wipe_set vs (h u (List.mem_cons_self ..))]
    exact wipe_sub us fun i hi => h i (List.mem_cons_of_mem _ hi)
theorem wipe_idem (σ : L2.St) (vs : List Nat) : wipe (wipe σ vs) vs = wipe σ vs := wipe_sub vs fun _ h => h
theorem compL_len {put : D → Option Env} {t : Env → S → R Bool} {e : Env → S → R D} : ∀ {ds : List D} {s s' : S} {xs : List D}, compL put t e ds s = .ok xs s' → xs.length ≤ ds.length
  | [], s, s', xs, h => by cases h; simp
  | d :: ds, s, s', xs, h => by
    unfold compL at h
    split at h
    · cases h
    · obtain ⟨b, s1, h1, h⟩ := R.bind_ok_iff h
      split at h
      · obtain ⟨x, s2, h2, h⟩ := R.bind_ok_iff h
        obtain ⟨ys, s3, h3, h⟩ := R.bind_ok_iff h
        cases h
        have := compL_len h3
        simp only [List.length_cons]
        omega
      · have := compL_len h
        simp only [List.length_cons]
        omega
section
variable {X : Cx} {elt tg iter : Expr} {pos : Pos} {eve : Env → S → R D} {evt : Env → S → R Bool} {evi : Env → S → R (List D)}
theorem comp_read {t : Tg} {vs : List Nat} (hsl : ∀ i ∈ t.slots, i ∈ vs) (σ : L2.St) (H : Hp) (Q : VK)
    (h : TFof X.kk (fun env s => (evi env s).bind fun items s => compL (fun d => t.put d (wipeE env vs)) evt eve items s) σ H Q) : tLc (TIof X.kk evi) (gT X.kk t) (TTof X.kk evt) (TEof X.kk eve) vs σ H Q := by
  obtain ⟨H0, g, env, s, ds, s', eo, ss, hev, hq⟩ := h
  obtain ⟨items, s1, h1, hev2⟩ := R.bind_ok_iff hev
  refine ⟨H0, g, env, s, items, s1, eo, ss, h1, fun g1 H1 J e1 ss1 wd => fun A hA => ?_⟩
  have eo1 := eo.ext e1
  let Pv : Nat → Hp → Prop := fun i H2 => ∃ g2 s2 acc dacc rest, Ext X.kk g1 H1 g2 H2 ∧ SimS X.kk g2 s2 H2 ∧ H2 A = some (.lst acc) ∧ A ∉ g2.io ∧ ¬ g2.Z A ∧ Reps X.kk g2 H2 dacc acc ∧
    compL (fun d => t.put d (wipeE env vs)) evt eve (items.drop i) s2 = .ok rest s' ∧ ds = dacc ++ rest ∧ dacc.length ≤ i
  refine ⟨fun i m H2 => m = items.length - i ∧ i ≤ items.length ∧ Pv i H2, ⟨items.length, by simp, Nat.zero_le _, g1, s1, [], [], ds, Ext.new hA, ss1.new hA, upd_same, ss1.fresh_io hA, ss1.fresh_z hA, rfl, by simpa using hev2, rfl, Nat.le_refl _⟩, ?_⟩
  rintro i m H2 ⟨rfl, hi, g2, s2, acc, dacc, rest, x2, ss2, hA2, io2, z2, r2, c2, d2, l2⟩
  by_cases hlt : i < items.length
  · refine .inr ⟨wd.go i g2 H2 x2.toKp hlt, fun H' => Pv (i + 1) H', fun H' p' => ⟨items.length - (i + 1), by omega, rfl, hlt, p'⟩, fun x H3 y => ?_⟩
    have hd := List.getElem?_eq_getElem hlt
    obtain ⟨hH, rx⟩ := wd.yld i g2 H2 x H3 _ x2.toKp hd y
    rw [List.drop_eq_getElem_cons hlt] at c2
    -- the heap behind the item
    have step : Ext X.kk g2 H2 g2 H3 ∧ SimS X.kk g2 s2 H3 ∧ H3 A = some (.lst acc) := by
      rcases hH with rfl | ⟨p, o, hp, rfl⟩
      · exact ⟨Ext.refl, ss2, hA2⟩
      · exact ⟨Ext.new hp, ss2.new hp, by rw [upd_ne (ne_of_none hA2 hp)]; exact hA2⟩
    obtain ⟨x3, ss3, hA3⟩ := step
    have eo3 : EnvOk X.kk g2 H3 H0 (wipeE env vs) (wipe σ vs) := (eo1.ext (x2.trans x3)).wipe vs
    unfold compL at c2
    split at c2
    · cases c2
    · rename_i env4 hput
      refine tg_ok t _ x _ env4 _ _ hput eo3 rx fun σ4 eo4 w4 => ?_
      refine ⟨by rw [w4 vs hsl]; exact wipe_idem σ vs, ?_⟩
      obtain ⟨b, s5, h5, c5⟩ := R.bind_ok_iff c2
      refine ⟨H0, g2, env4, s2, b, s5, eo4, ss3, h5, fun g5 H5 x5 ss5 => ?_⟩
      have keepA : ∀ {g6 H6}, Ext X.kk g2 H3 g6 H6 → H6 A = some (.lst acc) ∧ A ∉ g6.io ∧ ¬ g6.Z A := fun x6 =>
        ⟨x6.keep A _ hA3 io2, fun q => (x6.ioN A q).elim io2 fun z => (by rw [z] at hA3; cases hA3), fun q => (x6.zN A q).elim z2 fun z => (by rw [z] at hA3; cases hA3)⟩
      cases b with
      | false =>
        simp only [Bool.false_eq_true, if_false] at c5 ⊢
        obtain ⟨a1, a2, a3⟩ := keepA x5
        exact ⟨g5, s5, acc, dacc, rest, (x2.trans x3).trans x5, ss5, a1, a2, a3, Reps.ext (x3.trans x5) _ _ r2, c5, d2, by omega⟩
      | true =>
        simp only [if_true] at c5 ⊢
        obtain ⟨z, s6, h6, c6⟩ := R.bind_ok_iff c5
        obtain ⟨zs, s7, h7, c7⟩ := R.bind_ok_iff c6
        cases c7
        refine ⟨H0, g5, env4, s5, z, s6, eo4.ext x5, ss5, h6, fun g6 H6 v x6 ss6 r6 => ?_⟩
        obtain ⟨a1, a2, a3⟩ := keepA (x5.trans x6)
        have r6' : Reps X.kk g6 H6 (dacc ++ [z]) (acc ++ [v]) := (Reps.ext ((x3.trans x5).trans x6) _ _ r2).append (Reps.one r6)
        refine ⟨acc, a1, ?_, g6, s6, acc ++ [v], dacc ++ [z], zs, ?_, ss6.write a2 a3 a1, upd_same, a2, a3, Reps.kp (Kp.write a3 a1) _ _ r6', h7, by simp [d2], by simp; omega⟩
        · have := r2.length
          have := wd.len
          omega
        · exact (((x2.trans x3).trans x5).trans x6).write hA a3 a1
  · have e : i = items.length := by omega
    subst e
    refine .inl ⟨wd.stop g2 H2 x2.toKp, ?_⟩
    rw [List.drop_length] at c2
    cases c2
    rw [List.append_nil] at d2
    subst d2
    have hl := compL_len hev2
    exact hq g2 H2 A acc (e1.trans x2) ss2 (e1.live A hA) hA2 io2 z2 r2 (Nat.le_trans hl wd.len)

theorem df_comp {ifs : List Expr} {scope : Scope} {own : List (Str × Nat)} {t : Tg} (hc : X.calm = true) (hN : X.N.Nodup) (hi : PI X tg iter (TIof X.kk evi)) (ok : BlkOk X.N X.env.scope scope own)
    (hg : ∀ (s : Shared) (H : Hp) (C : Addr) (cl : List (Str × Addr)) (fp : List Addr), PG (X.blk s H scope (compEnvC scope cl C X.env) fp) tg (gT X.kk t))
    (ht : ∀ (s : Shared) (H : Hp) (C : Addr) (cl : List (Str × Addr)) (fp : List Addr), PTs (X.blk s H scope (compEnvC scope cl C X.env) fp) ifs (TTof X.kk evt))
    (he : ∀ (s : Shared) (H : Hp) (C : Addr) (cl : List (Str × Addr)) (fp : List Addr), PE (X.blk s H scope (compEnvC scope cl C X.env) fp) elt (TEof X.kk eve))
    (hs : ∀ x, foldedSetIterable iter X.env x = pure x) (hsl : ∀ i ∈ t.slots, i ∈ own.map (·.2)) :
    PE X (.ListComp elt [⟨tg, iter, ifs, 0⟩] scope pos) (TFof X.kk fun env s => (evi env s).bind fun items s => compL (fun d => t.put d (wipeE env (own.map (·.2)))) evt eve items s) :=
  (pe_lc hc hN hi ok hg ht he hs).imp fun σ H Q h => comp_read hsl σ H Q h
end
/-! statements -/
def OutS (K : KK) (W : WX) (g0 : Gh) (H0 : Hp) (g1 : Gh) (H1 : Hp) (D' : Ends) : R Fl → Prop
  | .ok (.next env) s => ∀ g H σ, Kp K g1 H1 g H → Ext K g0 H0 g H → EnvOk K g H H0 env σ → SimS K g s H → D'.nx σ H
  | .ok (.brk env) s => ∀ g H σ, Kp K g1 H1 g H → Ext K g0 H0 g H → EnvOk K g H H0 env σ → SimS K g s H → D'.bk σ H
  | .ok (.cont env) s => ∀ g H σ, Kp K g1 H1 g H → Ext K g0 H0 g H → EnvOk K g H H0 env σ → SimS K g s H → D'.ct σ H
  | .ok (.ret d) s => ∀ g H v, Ext K g0 H0 g H → SimS K g s H → Rep K g H d v → D'.rt v H
  | .ok (.exn x env) s => ∀ g H σ cls d, Kp K g1 H1 g H → Ext K g0 H0 g H → EnvOk K g H H0 env σ → SimS K g s H → RepX K g H x cls d → W cls d σ H
  | .exn _ _ => False
  | .no => False
theorem OutS.mono {K : KK} {W : WX} {g0 g1 g2 : Gh} {H0 H1 H2 : Hp} {D' : Ends} (k : Kp K g1 H1 g2 H2) : ∀ {r : R Fl}, OutS K W g0 H0 g1 H1 D' r → OutS K W g0 H0 g2 H2 D' r
  | .ok (.next env) s, h => fun g H σ k2 => h g H σ (k.trans k2)
  | .ok (.brk env) s, h => fun g H σ k2 => h g H σ (k.trans k2)
  | .ok (.cont env) s, h => fun g H σ k2 => h g H σ (k.trans k2)
  | .ok (.ret d) s, h => h
  | .ok (.exn x env) s, h => fun g H σ cls d k2 => h g H σ cls d (k.trans k2)
  | .exn _ _, h => h
  | .no, h => h
def TSof (K : KK) (W : WX) (ev : Env → S → R Fl) : TS := fun D' σ H => ∃ g0 H0 g env s, Ext K g0 H0 g H ∧ EnvOk K g H H0 env σ ∧ SimS K g s H ∧ OutS K W g0 H0 g H D' (ev env s)
section
variable {X : Cx} {e a b tg iter : Expr} {pos : Pos} {st : Stmt} {ev eva evb : Env → S → R D} {evt : Env → S → R Bool} {evi evf : Env → S → R (List D)} {evs evs1 evs2 : Env → S → R Fl} {W : WX}
theorem OutS.ok {K : KK} {W : WX} {g0 g1 : Gh} {H0 H1 : Hp} {D' : Ends} {α : Type} {r : R α} {f : α → S → R Fl} (h : OutS K W g0 H0 g1 H1 D' (r.bind f)) : ∃ x s, r = .ok x s ∧ OutS K W g0 H0 g1 H1 D' (f x s) := by
  cases r with
  | ok x s => exact ⟨x, s, rfl, h⟩
  | exn x s => exact h.elim
  | no => exact h.elim
theorem ds_nil : PSs X [] (TSof X.kk W fun env s => .ok (.next env) s) :=
  pss_nil.imp fun D' σ H ⟨g0, H0, g, env, s, x, eo, ss, h⟩ => h g H σ Kp.refl x eo ss
theorem ds_cons {rest : List Stmt} (h1 : PS X st (TSof X.kk W evs1)) (h2 : PSs X rest (TSof X.kk W evs2)) : PSs X (st :: rest) (TSof X.kk W fun env s => (evs1 env s).bind fun f s => match f with
    | .next env => evs2 env s
    | f => .ok f s) :=
  (pss_cons h1 h2).imp fun D' σ H ⟨g0, H0, g, env, s, x, eo, ss, h⟩ => by
    refine ⟨g0, H0, g, env, s, x, eo, ss, ?_⟩
    dsimp only at h
    cases q : evs1 env s with
    | no => rw [q] at h; exact h.elim
    | exn x s1 => rw [q] at h; exact h.elim
    | ok f s1 =>
      rw [q] at h
      cases f with
      | next env1 => exact fun g1 H1 σ1 k1 x1 eo1 ss1 => ⟨g0, H0, g1, env1, s1, x1, eo1, ss1, OutS.mono k1 h⟩
      | ret d => exact h
      | brk env1 => exact h
      | cont env1 => exact h
      | exn x env1 => exact h
theorem ds_pass : PS X (.Pass pos) (TSof X.kk W fun env s => .ok (.next env) s) := ps_pass.imp fun D' σ H ⟨g0, H0, g, env, s, x, eo, ss, h⟩ => h g H σ Kp.refl x eo ss
theorem ds_brk : PS X (.Break pos) (TSof X.kk W fun env s => .ok (.brk env) s) := ps_break.imp fun D' σ H ⟨g0, H0, g, env, s, x, eo, ss, h⟩ => h g H σ Kp.refl x eo ss
theorem ds_cont : PS X (.Continue pos) (TSof X.kk W fun env s => .ok (.cont env) s) := ps_continue.imp fun D' σ H ⟨g0, H0, g, env, s, x, eo, ss, h⟩ => h g H σ Kp.refl x eo ss
theorem ds_ret (ha : PE X a (TEof X.kk eva)) : PS X (.Return (some a) pos) (TSof X.kk W fun env s => (eva env s).bind fun x s => .ok (.ret x) s) :=
  (ps_ret ha).imp fun D' σ H ⟨g0, H0, g, env, s, x, eo, ss, h⟩ => by
    obtain ⟨d, s1, h1, h2⟩ := h.ok
    exact ⟨H0, g, env, s, d, s1, eo, ss, h1, fun g1 H1 v x1 ss1 r1 => h2 g1 H1 v (x.trans x1) ss1 r1⟩
theorem ds_retN : PS X (.Return none pos) (TSof X.kk W fun _ s => .ok (.ret .non) s) := ps_retN.imp fun D' σ H ⟨g0, H0, g, env, s, x, eo, ss, h⟩ => h g H _ x ss rfl
theorem ds_expr (ha : PE X a (TWof X.kk eva)) (hs : swapsWith a none pos.line X.env = pure false) : PS X (.Expr a pos) (TSof X.kk W fun env s => (eva env s).bind fun _ s => .ok (.next env) s) :=
  (ps_expr ha hs).imp fun D' σ H ⟨g0, H0, g, env, s, x, eo, ss, h⟩ => by
    obtain ⟨d, s1, h1, h2⟩ := h.ok
    exact ⟨H0, g, env, s, d, s1, eo, ss, h1, fun g1 H1 v x1 ss1 r1 => h2 g1 H1 σ x1.toKp (x.trans x1) (eo.ext x1) ss1⟩
theorem ds_if {sa sb : List Stmt} (hc : PT X e (TTof X.kk evt)) (ha : PSs X sa (TSof X.kk W evs1)) (hb : PSs X sb (TSof X.kk W evs2)) : PS X (.If e sa sb pos) (TSof X.kk W fun env s => (evt env s).bind fun k s => if k then evs1 env s else evs2 env s) :=
  (ps_if hc ha hb).imp fun D' σ H ⟨g0, H0, g, env, s, x, eo, ss, h⟩ => by
    obtain ⟨k, s1, h1, h2⟩ := h.ok
    refine ⟨H0, g, env, s, k, s1, eo, ss, h1, fun g1 H1 x1 ss1 => ?_⟩
    cases k with
    | true => exact iteT ⟨g0, H0, g1, env, s1, x.trans x1, eo.ext x1, ss1, by simpa using OutS.mono x1.toKp h2⟩
    | false => exact iteF ⟨g0, H0, g1, env, s1, x.trans x1, eo.ext x1, ss1, by simpa using OutS.mono x1.toKp h2⟩
/-- target = value -/
theorem ds_set {t : Tg} (ha : PE X a (TEof X.kk eva)) (hg : PG X tg (gT X.kk t)) (hs : swapsWithSole [tg] a pos.line X.env = pure false) (hw : swappedStores [tg] a X.env = pure none) (h1 : (assignEach [tg] X.env).map (·.2) = [assign tg X.env]) :
    PS X (.Assign [tg] a pos) (TSof X.kk W fun env s => (eva env s).bind fun x s => (lift (t.put x env) s).bind fun env s => .ok (.next env) s) :=
  (ps_asg ha hg hs hw h1).imp fun D' σ H ⟨g0, H0, g, env, s, x, eo, ss, h⟩ => by
    obtain ⟨d, s1, h1, h2⟩ := h.ok
    obtain ⟨env1, s2, h3, h4⟩ := h2.ok
    obtain ⟨h5, rfl⟩ := lift_ok h3
    exact ⟨H0, g, env, s, d, _, eo, ss, h1, fun g1 H1 v x1 ss1 r1 => tg_ok t d v env env1 σ _ h5 (eo.ext x1) r1 fun σ2 eo2 _ => h4 g1 H1 σ2 x1.toKp (x.trans x1) eo2 ss1⟩
/-- a, b = x, y stored from the right: the same, where the targets are names -/
theorem ds_par {i j : Nat} {x y : Str} {px py pt : Pos} {kt k2 pt2} (hc : X.calm = true) (hN : X.N.Nodup) (hi : X.N[i]? = some x) (hj : X.N[j]? = some y) (hij : i ≠ j)
    (hx : X.env.scope.names.lookup x = some .local) (hy : X.env.scope.names.lookup y = some .local) (ha : PA X [a, b] (TAof X.kk evi))
    (hw : swappedStores [.Tuple [.Name x px, .Name y py] kt pt] (.Tuple [a, b] k2 pt2) X.env = pure (some [x, y])) (hl : ∀ env s ds s', evi env s = .ok ds s' → ds.length = 2) :
    PS X (.Assign [.Tuple [.Name x px, .Name y py] kt pt] (.Tuple [a, b] k2 pt2) pos) (TSof X.kk W fun env s => ((evi env s).bind fun ds s => .ok (.tup ds) s).bind fun d s => (lift ((Tg.tup (.cons (.nm i) (.cons (.nm j) .nil))).put d env) s).bind fun env s => .ok (.next env) s) :=
  (ps_par hc hN hi hj hij hx hy ha hw rfl).imp fun D' σ H ⟨g0, H0, g, env, s, xx, eo, ss, h⟩ => by
    obtain ⟨d, s1, h10, h2⟩ := h.ok
    obtain ⟨ds, s3, h1, h11⟩ := R.bind_ok_iff h10
    cases h11
    obtain ⟨env1, s2, h3, h4⟩ := h2.ok
    obtain ⟨h5, rfl⟩ := lift_ok h3
    refine ⟨H0, g, env, s, ds, _, eo, ss, h1, fun g1 H1 vs x1 ss1 r1 => ?_⟩
    have l := hl _ _ _ _ h1
    match ds, l with
    | [d1, d2], _ =>
      obtain ⟨v, r, rfl, q1, w, r', rfl, q2, q3⟩ := r1
      cases (show r' = [] from q3)
      simp only [Tg.put, Tgs.puts, Option.bind_some, Option.some.injEq] at h5
      subst h5
      exact ⟨v, w, rfl, h4 g1 H1 _ x1.toKp (xx.trans x1) (((eo.ext x1).put q1).put q2) ss1⟩

end
section
variable {K : KK} {g g1 : Gh} {H H0 H1 : Hp} {env : Env} {σ : L2.St} {s : S}
theorem set_own {α : Type} {env : List (Option α)} {i j : Nat} {x : Option α} {y : α} (h : (env.set i x)[j]? = some (some y)) : (i = j ∧ x = some y) ∨ (i ≠ j ∧ env[j]? = some (some y)) := by
  by_cases e : i = j
  · subst e
    have hi : i < env.length := by
      have := (List.getElem?_eq_some_iff.mp h).1
      simpa using this
    rw [List.getElem?_set_self hi] at h
    exact .inl ⟨rfl, Option.some.inj h⟩
  · rw [List.getElem?_set_ne e] at h
    exact .inr ⟨e, h⟩
/-- a new thing of one's own -/
theorem EnvOk.putObj {i : Nat} {p : Addr} {o : Oo} {ho : HO} (eo : EnvOk K g H H0 env σ) (x : Ext K g H g1 H1) (hp : H p = none) (h0 : H0 p = none) (hl : H1 p = some ho) (hio : p ∉ g1.io) (hz : ¬ g1.Z p) (r : RepOo K g1 H1 p o ho) (hn : o.sz ≤ sizeLine) :
    EnvOk K g1 H1 H0 (env.set i (some (.obj o))) (σ.set i (some (.ref p))) where
  len := by simpa using eo.len
  at_ := fun j y h => by
    have hj : j < env.length := by
      have := (List.getElem?_eq_some_iff.mp h).1
      simpa using this
    rcases set_own h with ⟨rfl, e⟩ | ⟨e, h⟩
    · cases e
      exact ⟨.ref p, List.getElem?_set_self (by rw [eo.len]; exact hj), hn, p, ho, rfl, hl, r, hio, hz, h0⟩
    · obtain ⟨w, h1, h2⟩ := (eo.ext x).at_ j y h
      exact ⟨w, by rw [List.getElem?_set_ne e]; exact h1, h2⟩
  inj := fun j k us ws h1 h2 h3 => by
    have far : ∀ {m zs}, env[m]? = some (some (Sl.obj zs)) → σ[m]? ≠ some (some (V.ref p)) := fun {m zs} hm q => by
      obtain ⟨v, e1, _, a, xs', e2, e3, _⟩ := eo.at_ m _ hm
      rw [e1] at q
      cases q
      cases e2
      rw [hp] at e3
      cases e3
    have hj : j < σ.length := by
      have := (List.getElem?_eq_some_iff.mp h1).1
      rw [eo.len]; simpa using this
    have hk : k < σ.length := by
      have := (List.getElem?_eq_some_iff.mp h2).1
      rw [eo.len]; simpa using this
    rcases set_own h1 with ⟨rfl, _⟩ | ⟨n1, e1⟩
    · rcases set_own h2 with ⟨rfl, _⟩ | ⟨n2, e2⟩
      · rfl
      · rw [List.getElem?_set_self hj, List.getElem?_set_ne n2] at h3
        exact absurd h3.symm (far e2)
    · rcases set_own h2 with ⟨rfl, _⟩ | ⟨n2, e2⟩
      · rw [List.getElem?_set_self hk, List.getElem?_set_ne n1] at h3
        exact absurd h3 (far e1)
      · rw [List.getElem?_set_ne n1, List.getElem?_set_ne n2] at h3
        exact eo.inj j k us ws e1 e2 h3
theorem EnvOk.putOwn {i : Nat} {p : Addr} {ds : List D} {xs : List V} (eo : EnvOk K g H H0 env σ) (x : Ext K g H g1 H1) (hp : H p = none) (h0 : H0 p = none) (hl : H1 p = some (.lst xs)) (hio : p ∉ g1.io) (hz : ¬ g1.Z p) (r : Reps K g1 H1 ds xs) (hn : ds.length ≤ sizeLine) :
    EnvOk K g1 H1 H0 (env.set i (some (.own ds))) (σ.set i (some (.ref p))) := eo.putObj x hp h0 hl hio hz ⟨xs, rfl, r⟩ hn
/-- a thing of one's own is written -/
theorem EnvOk.writeObj {i : Nat} {o o' : Oo} {a : Addr} {ho ho' : HO} (eo : EnvOk K g H H0 env σ) (hi : env[i]? = some (some (.obj o))) (ha : σ[i]? = some (some (.ref a))) (hx : H a = some ho) (hz : ¬ g.Z a)
    (r : RepOo K g H a o' ho') (hn : o'.sz ≤ sizeLine) : EnvOk K g (upd H a ho') H0 (env.set i (some (.obj o'))) σ := by
  have nt : NT ho := by
    obtain ⟨v, e1, e0, a', xs', e2, e3, e4, _⟩ := eo.at_ i _ hi
    rw [ha] at e1
    cases e1
    cases e2
    rw [hx] at e3
    cases e3
    exact e4.nt
  refine ⟨by simpa using eo.len, fun j y h => ?_, fun j k us ws h1 h2 h3 => ?_⟩
  · rcases set_own h with ⟨rfl, e⟩ | ⟨e, h⟩
    · cases e
      obtain ⟨v, e1, e0, a', xs', e2, e3, e4, e5, e6, e7⟩ := eo.at_ i _ hi
      rw [ha] at e1
      cases e1
      cases e2
      exact ⟨.ref a, ha, hn, a, ho', rfl, upd_same, RepOo.kp (Kp.write hz hx nt) r, e5, e6, e7⟩
    · obtain ⟨v, e1, e2⟩ := eo.at_ j y h
      refine ⟨v, e1, ?_⟩
      cases y with
      | val d => exact Rep.kp (Kp.write hz hx nt) _ _ e2
      | obj zs =>
        obtain ⟨q0, b, us, q1, q2, q3, q4, q5, q6⟩ := e2
        have nb : b ≠ a := fun z => e (eo.inj i j o zs hi h (by rw [ha, e1, q1, z]))
        exact ⟨q0, b, us, q1, by rw [upd_ne nb]; exact q2, RepOo.kp (Kp.write hz hx nt) q3, q4, q5, q6⟩
  · have own : ∀ {m zs}, (env.set i (some (Sl.obj o')))[m]? = some (some (Sl.obj zs)) → ∃ zs', env[m]? = some (some (Sl.obj zs')) := fun {m zs} hm => by
      rcases set_own hm with ⟨rfl, _⟩ | ⟨_, h⟩
      · exact ⟨o, hi⟩
      · exact ⟨_, h⟩
    obtain ⟨us', e1⟩ := own h1
    obtain ⟨ws', e2⟩ := own h2
    exact eo.inj j k us' ws' e1 e2 h3
theorem EnvOk.writeOwn {i : Nat} {ds ds' : List D} {a : Addr} {xs ys : List V} (eo : EnvOk K g H H0 env σ) (hi : env[i]? = some (some (.own ds))) (ha : σ[i]? = some (some (.ref a))) (hx : H a = some (.lst xs)) (hz : ¬ g.Z a)
    (r : Reps K g H ds' ys) (hn : ds'.length ≤ sizeLine) : EnvOk K g (upd H a (.lst ys)) H0 (env.set i (some (.own ds'))) σ := eo.writeObj hi ha hx hz ⟨ys, rfl, r⟩ hn
/-- a thing of one's own is frozen -/
theorem EnvOk.freeze {i : Nat} {o : Oo} (eo : EnvOk K g H H0 env σ) (hi : env[i]? = some (some (.obj o))) :
    ∃ a ho, H a = some ho ∧ a ∉ g.io ∧ H0 a = none ∧ EnvOk K (g.frz a) H H0 (env.set i (some (.val o.fz))) σ := by
  obtain ⟨v, e1, e0, a, xs, rfl, e3, e4, e5, e6, e7⟩ := eo.at_ i _ hi
  refine ⟨a, xs, e3, e5, e7, by simpa using eo.len, fun j y h => ?_, fun j k us ws h1 h2 h3 => ?_⟩
  · rcases set_own h with ⟨rfl, e⟩ | ⟨e, h⟩
    · cases e
      refine ⟨_, e1, ?_⟩
      cases o with
      | lst ds =>
        obtain ⟨ys, rfl, e4⟩ := e4
        exact ⟨e0, a, ys, rfl, .inr rfl, e3, Reps.kp (Kp.frz a) _ _ e4⟩
      | dic t ks vs =>
        obtain ⟨kv, vv, q1, q2, q3⟩ := e4
        exact ⟨a, xs, kv, vv, rfl, .inr rfl, e3, Reps.kp (Kp.frz a) _ _ q1, Reps.kp (Kp.frz a) _ _ q2, q3⟩
    · obtain ⟨w, q1, q2⟩ := eo.at_ j y h
      refine ⟨w, q1, ?_⟩
      cases y with
      | val d => exact Rep.kp (Kp.frz a) _ _ q2
      | obj zs =>
        obtain ⟨p0, b, us, rfl, p2, p3, p4, p5, p6⟩ := q2
        have nb : b ≠ a := fun z => e (eo.inj i j o zs hi h (by rw [e1, q1, z]))
        exact ⟨p0, b, us, rfl, p2, RepOo.kp (Kp.frz a) p3, p4, fun z => z.elim p5 nb, p6⟩
  · rcases set_own h1 with ⟨_, e⟩ | ⟨_, h1⟩
    · cases e
    · rcases set_own h2 with ⟨_, e⟩ | ⟨_, h2⟩
      · cases e
      · exact eo.inj j k us ws h1 h2 h3
theorem EnvOk.own (eo : EnvOk K g H H0 env σ) {i : Nat} {ds : List D} (h : getO env i = some ds) : env[i]? = some (some (.own ds)) ∧ ∃ a xs, σ[i]? = some (some (.ref a)) ∧ H a = some (.lst xs) ∧ Reps K g H ds xs ∧ a ∉ g.io ∧ ¬ g.Z a ∧ H0 a = none := by
  unfold getO at h
  split at h
  · rename_i e
    cases h
    obtain ⟨v, e1, _, a, ho, rfl, e2, ⟨xs, rfl, e3⟩, r⟩ := eo.at_ i _ e
    exact ⟨e, a, xs, e1, e2, e3, r⟩
  · cases h
theorem EnvOk.dicAt (eo : EnvOk K g H H0 env σ) {i : Nat} {t : Bool} {ks vs : List D} (h : env[i]? = some (some (.obj (.dic t ks vs)))) : ∃ a ho kv w2, σ[i]? = some (some (.ref a)) ∧ H a = some ho ∧ Reps K g H ks kv ∧ Reps K g H vs w2 ∧ DH K.w a ks kv w2 ho t ∧ a ∉ g.io ∧ ¬ g.Z a ∧ H0 a = none := by
  obtain ⟨v, e1, _, a, ho, rfl, e2, ⟨kv, w2, q1, q2, q3⟩, r⟩ := eo.at_ i _ h
  exact ⟨a, ho, kv, w2, e1, e2, q1, q2, q3, r⟩
/-- an object of the store is written -/
theorem sim_store {n : Nat} {ds ds' : List D} {a : Addr} {xs ys : List V} (ss : SimS K g s H) (hn : s[n]? = some (.lst ds)) (ha : g.io[n]? = some a) (hx : H a = some (.lst xs)) (r : Reps K g H ds' ys) :
    SimS K g (s.set n (.lst ds')) (upd H a (.lst ys)) where
  len := by simpa using ss.len
  nd := ss.nd
  nz := ss.nz
  zl := fun b z => by
    have : b ≠ a := fun e => ss.nz a (List.mem_of_getElem? ha) (e ▸ z)
    rw [upd_ne this]; exact ss.zl b z
  obj := fun m o h => by
    have hz := ss.nz a (List.mem_of_getElem? ha)
    by_cases e : n = m
    · subst e
      have hlt : n < s.length := (List.getElem?_eq_some_iff.mp hn).1
      rw [List.getElem?_set_self hlt] at h
      cases h
      exact ⟨a, _, ha, upd_same, ys, rfl, Reps.kp (Kp.write hz hx) _ _ r⟩
    · rw [List.getElem?_set_ne e] at h
      obtain ⟨b, ho, q1, q2, q3⟩ := ss.obj m o h
      have nb : b ≠ a := fun z => by
        subst z
        obtain ⟨h1, e1⟩ := List.getElem?_eq_some_iff.mp ha
        obtain ⟨h2, e2⟩ := List.getElem?_eq_some_iff.mp q1
        exact e ((List.getElem_inj ss.nd).mp (e1.trans e2.symm))
      exact ⟨b, ho, q1, by rw [upd_ne nb]; exact q2, RepO.kp (Kp.write hz hx) q3⟩
/-- what stays when an object of the store is written -/
theorem Ext.store {g0 : Gh} {a : Addr} {xs : List V} {o : HO} (x : Ext K g0 H0 g H) (ha : a ∈ g.io) (hz : ¬ g.Z a) (hx : H a = some (.lst xs)) : Ext K g0 H0 g (upd H a o) := by
  have k := Kp.write (K := K) (o := o) hz hx
  refine ⟨⟨x.io, x.zZ, fun b ys h => k.tup b ys (x.tup b ys h), fun b u z h => k.zk b u (x.zZ b z) (x.zk b u z h), fun b ys h => k.fz b ys (x.fz b ys h)⟩, x.ioN, x.zN, fun b u h n => ?_, fun b h => ?_⟩
  · have : b ≠ a := fun e => by
      subst e
      rcases x.ioN b ha with q | q
      · exact n q
      · rw [q] at h; cases h
    rw [upd_ne this]
    exact x.keep b u h n
  · by_cases e : b = a
    · subst e; rw [upd_same] at h; cases h
    · rw [upd_ne e] at h; exact x.live b h
theorem EnvOk.stored {a : Addr} {xs : List V} {o : HO} (eo : EnvOk K g H H0 env σ) (ha : a ∈ g.io) (hz : ¬ g.Z a) (hx : H a = some (.lst xs)) : EnvOk K g (upd H a o) H0 env σ where
  len := eo.len
  at_ := fun j y h => by
    obtain ⟨w, q1, q2⟩ := eo.at_ j y h
    refine ⟨w, q1, ?_⟩
    cases y with
    | val d => exact Rep.kp (Kp.write hz hx) _ _ q2
    | obj zs =>
      obtain ⟨p0, b, us, rfl, p2, p3, p4, p5, p6⟩ := q2
      have nb : b ≠ a := fun z => p4 (z ▸ ha)
      exact ⟨p0, b, us, rfl, by rw [upd_ne nb]; exact p2, RepOo.kp (Kp.write hz hx) p3, p4, p5, p6⟩
  inj := eo.inj
end
end Fw
namespace Fw
open PySem PySem.Spec PyProof.Rows L2
/-! dicts of one's own -/
def WantD (K : KK) (g : Gh) (s : S) (H : Hp) (o : Oo) (Q : VK) : Prop :=
  ∀ g' H' p ho, Ext K g H g' H' → SimS K g' s H' → H p = none → H' p = some ho → p ∉ g'.io → ¬ g'.Z p → RepOo K g' H' p o ho → o.sz ≤ sizeLine → Q (.ref p) H'
def TDof (K : KK) (ev : Env → S → R Oo) : TE := fun σ H Q => At K Oo (fun g s H d => WantD K g s H d Q) ev σ H
section
variable {prog : Program} {w : World} {A : Around} {E : Value → Shared → Prop} {s : Shared} {env : PySem.Env}
theorem disp1 {k v : Expr} {pos : Pos} {Q : Value → Shared → Prop}
    (h : wpAny (model prog w) A (eval k env) (fun kv s₁ => wpAny (model prog w) A (eval v env) (fun vv s₂ => ∃ b key, kv = .ref b ∧ (nestedKind prog w).room A ∧ (nestedKind prog w).is s₂.heap key b ∧ s₂.heap.DictOfH (nestedKind prog w) s.heap.objs.size [] ∧
      ∀ h', h'.DictOfH (nestedKind prog w) s.heap.objs.size [(key, b, vv)] → Heap.SameBut s.heap.objs.size s₂.heap h' → Q (.ref s.heap.objs.size) { s₂ with heap := h', toks := s₂.toks + (nestedKind prog w).draws key }) E s₁) E
      { s with heap := s.heap.push { cls := .type "dict", data := .dict #[] } }) :
    wpAny (model prog w) A (eval (.Dict [some k] [v] pos) env) Q E s := by
  rw [arm_eval_Dict, zip_pairTrees [some k] [v] env pos rfl rfl, dictDisplay_pairs _ (by simp [pairTrees]) (by simp [pairTrees])]
  refine wpAny_bind (wpAny_standAt (wpAny_bind ?_))
  unfold subDict
  refine wpAny_bind (wpAny_alloc ?_)
  refine wpAny_bind (wpAny_holding ?_)
  rw [if_pos (by simp [pairTrees])]
  refine wpAny_bind (pairTrees_cons_walk (wpAny_mono h (fun kv s₁ h₁ => wpAny_mono h₁ (fun vv s₂ h₂ => pairTrees_nil_walk ?_) fun _ _ e => e) fun _ _ e => e))
  obtain ⟨b, key, rfl, hr, hk, hm, hq⟩ := h₂
  refine wpAny_holding ?_
  refine wpAny_bind ?_
  simp only [List.forIn_cons, List.forIn_nil]
  refine wpAny_bind (wpAny_bind (wpAny_dictSet_heap hr hk hm (fun h' hm' hs' => ?_) (by simp)))
  refine wpAny_pure ?_
  refine wpAny_pure ?_
  exact wpAny_pure (wpAny_pure (wpAny_pure (hq h' hm' hs')))
end
section
variable {X : Cx} {e a b k v : Expr} {pos : Pos} {eva evb : Env → S → R D}
theorem dt_new {P : Program} {w : World} {H : Hp} (h : Heap) (hb : sysModules < h.objs.size) : ObjOk P w H (h.push { cls := .type "dict", data := .dict #[] }) h.objs.size (dtO w h.objs.size []) :=
  dt_ok (Nat.zero_le _) (by simp only [beq_eq_false_iff_ne]; exact Nat.ne_of_gt hb) .nil (Heap.DictOfH.new h)
theorem pe_dnewN : PE X (.Dict [] [] pos) (fun _ H Q => ∀ p, H p = none → Q (.ref p) (upd H p (dtO X.w p []))) := ⟨fun pins s σ H Q I h => by
  rw [eval_Dict_empty]
  refine wpAny_bind (wpAny_standAt ?_)
  unfold newDict
  refine wpAny_bind (wpAny_alloc (wpAny_pure ?_))
  exact ⟨.ref s.heap.objs.size, _, I.laid (t' := s.toks) (fun _ _ q => Heap.get?_push_of_some _ q) (Nat.le_refl _) (dt_new s.heap I.big), rfl, h _ (I.hok.fresh (Nat.le_refl _))⟩⟩
theorem dd_dic0 (t : Bool) : PE X (.Dict [] [] pos) (TDof X.kk fun _ s => .ok (.dic t [] []) s) := by
  cases t with
  | false =>
    exact (pe_dnewK).imp fun σ H Q ⟨H0, g, env, s, d, s', eo, ss, hev, hq⟩ => by
      cases hev
      intro p hp
      exact hq g _ p _ (Ext.new hp) (ss.new hp) hp upd_same (ss.fresh_io hp) (ss.fresh_z hp) ⟨[], [], rfl, rfl, [], rfl, rfl, rfl⟩ (Nat.zero_le _)
  | true =>
    exact (pe_dnewN).imp fun σ H Q ⟨H0, g, env, s, d, s', eo, ss, hev, hq⟩ => by
      cases hev
      intro p hp
      exact hq g _ p _ (Ext.new hp) (ss.new hp) hp upd_same (ss.fresh_io hp) (ss.fresh_z hp) ⟨[], [], rfl, rfl, [], rfl, rfl, (fun x hx => nomatch hx), rfl, rfl⟩ (Nat.zero_le _)
theorem dd_dic1 (hu : X.A.units + 66 < cLine) (hk : PE X k (TEof X.kk eva)) (hv : PE X v (TEof X.kk evb)) : PE X (.Dict [some k] [v] pos) (TDof X.kk fun env s => (eva env s).bind fun x s => (evb env s).bind fun y s => if keyOk true x then .ok (.dic true [x] [y]) s else .no) := by
  refine ⟨fun pins t σ H Q I ⟨H0, g, env, s, d, s', eo, ss, hev, hq⟩ => ?_⟩
  obtain ⟨x, s1, h1, hev⟩ := R.bind_ok_iff hev
  obtain ⟨y, s2, h2, hev⟩ := R.bind_ok_iff hev
  split at hev
  · rename_i hx
    cases hev
    have hp := I.hok.fresh (Nat.le_refl t.heap.objs.size)
    have I0 := I.laid (t' := t.toks) (fun _ _ q => Heap.get?_push_of_some _ q) (Nat.le_refl _) (dt_new (P := X.prog) (w := X.w) (H := upd H t.heap.objs.size (dtO X.w t.heap.objs.size [])) t.heap I.big)
    have x0 : Ext X.kk g H g (upd H t.heap.objs.size (dtO X.w t.heap.objs.size [])) := Ext.new hp
    refine disp1 ?_
    refine thn (hk.run pins _ σ _ (fun u H1 => ∃ g1, Ext X.kk g (upd H t.heap.objs.size (dtO X.w t.heap.objs.size [])) g1 H1 ∧ SimS X.kk g1 s1 H1 ∧ Rep X.kk g1 H1 x u) I0 ⟨H0, g, env, s, x, s1, eo.ext x0, ss.new hp, h1, fun g1 H1 u e1 ss1 r1 => ⟨g1, e1, ss1, r1⟩⟩) fun kv t1 ⟨u, H1, I1, ru, g1, e1, ss1, r1⟩ => ?_
    refine thn (hv.run pins t1 σ H1 (fun u2 H2 => ∃ g2, Ext X.kk g1 H1 g2 H2 ∧ SimS X.kk g2 s' H2 ∧ Rep X.kk g2 H2 y u2) I1 ⟨H0, g1, env, s1, y, _, eo.ext (x0.trans e1), ss1, h2, fun g2 H2 u2 e2 ss2 r2 => ⟨g2, e2, ss2, r2⟩⟩) fun vv t2 ⟨u2, H2, I2, ru2, g2, e2, ss2, r2⟩ => ?_
    obtain ⟨ds, kk, rfl, q1, q2⟩ := keyT hx
    have r1' := Rep.ext e2 _ _ r1
    obtain ⟨_, b, xs, rfl, z2, z3⟩ := id r1'
    cases ru
    have nio : t.heap.objs.size ∉ g.io := ss.fresh_io hp
    have nz : ¬ g.Z t.heap.objs.size := ss.fresh_z hp
    have x12 := e1.trans e2
    have hat : H2 t.heap.objs.size = some (dtO X.w t.heap.objs.size []) := x12.keep _ _ upd_same nio
    have nio2 : t.heap.objs.size ∉ g2.io := fun z => (x12.ioN _ z).elim nio fun q => by rw [upd_same] at q; cases q
    have nz2 : ¬ g2.Z t.heap.objs.size := fun z => (x12.zN _ z).elim nz fun q => by rw [upd_same] at q; cases q
    obtain ⟨_, hsm, xs', pl, dd⟩ := dt_at (g := g2) (ks := []) (L := []) I2 hat rfl rfl (fun x hx => nomatch hx)
    cases pl
    refine ⟨b, kk, rfl, (by show X.A.units + 8 < cLine; omega), ⟨rep_nk I2 _ _ _ kk r1' rfl q1, q2⟩, dd, fun h' dd' hs => ?_⟩
    have he : ∃ q, h'.get? t.heap.objs.size = some q := let ⟨q, _, _, hq, _⟩ := dd'; ⟨q, hq⟩
    have nt : NT (dtO X.w t.heap.objs.size []) := ⟨fun _ => by simp [dtO], fun _ _ => by simp [dtO]⟩
    have kw : Kp X.kk g2 H2 g2 (upd H2 t.heap.objs.size (dtO X.w t.heap.objs.size [(kk, b, u2)])) := Kp.write nz2 hat nt
    refine ⟨.ref t.heap.objs.size, _, d_write I2 (by rw [hat]; exact True.intro) hs he (dt_ok (L := [(kk, b, u2)]) (by rw [sizeLine_eq]; simp) hsm (.cons ⟨rfl, rfl, ru2⟩ .nil) dd'), rfl, ?_⟩
    refine hq g2 _ _ _ ((x0.trans x12).write hp nz2 hat nt) (ss2.write nio2 nz2 hat nt) hp upd_same nio2 nz2 ⟨[.ref b], [u2], Reps.kp kw _ _ (Reps.one r1'), Reps.kp kw _ _ (Reps.one r2), [(kk, b, u2)], rfl, ?_, ?_, rfl, rfl⟩ (Nat.zero_le _)
    · exact nks_cons.mpr ⟨q1, rfl⟩
    · intro z hz; rw [List.mem_singleton] at hz; subst hz; exact q2
  · cases hev
end
section
variable {X : Cx} {e a b tg iter o : Expr} {pos apos p : Pos} {st : Stmt} {x : Str} {ev eva evb : Env → S → R D} {evt : Env → S → R Bool} {evi evf : Env → S → R (List D)} {evs evs1 evs2 : Env → S → R Fl} {W : WX}
/-- name = a fresh list -/
theorem ds_own {i : Nat} {te : TE} (h : PS X st (tAsg te (gName i))) (w : ∀ σ H Q, TFof X.kk evf σ H Q → te σ H Q) : PS X st (TSof X.kk W fun env s => (evf env s).bind fun xs s => .ok (.next (env.set i (some (.own xs)))) s) :=
  h.imp fun D' σ H ⟨g0, H0, g, env, s, x, eo, ss, h⟩ => by
    obtain ⟨ds, s1, h1, h2⟩ := h.ok
    refine w _ _ _ ⟨H0, g, env, s, ds, s1, eo, ss, h1, fun g1 H1 p xs x1 ss1 hp hl hio hz r1 hn => ?_⟩
    exact h2 g1 H1 _ x1.toKp (x.trans x1) (eo.putOwn x1 hp (x.live p hp) hl hio hz r1 hn) ss1
/-- name = a fresh dict -/
theorem ds_dic {i : Nat} {te : TE} {o : Oo} (h : PS X st (tAsg te (gName i))) (w : ∀ σ H Q, TDof X.kk (fun _ s => .ok o s) σ H Q → te σ H Q) : PS X st (TSof X.kk W fun env s => .ok (.next (env.set i (some (.obj o)))) s) :=
  h.imp fun D' σ H ⟨g0, H0, g, env, s, x, eo, ss, h⟩ => by
    refine w _ _ _ ⟨H0, g, env, s, o, s, eo, ss, rfl, fun g1 H1 p ho x1 ss1 hp hl hio hz r1 hn => ?_⟩
    exact h g1 H1 _ x1.toKp (x.trans x1) (eo.putObj x1 hp (x.live p hp) hl hio hz r1 hn) ss1
/-- name = value -/
theorem ds_name {i : Nat} {te : TE} (h : PS X st (tAsg te (gName i))) (w : ∀ σ H Q, TEof X.kk eva σ H Q → te σ H Q) : PS X st (TSof X.kk W fun env s => (eva env s).bind fun x s => (lift ((Tg.nm i).put x env) s).bind fun env s => .ok (.next env) s) :=
  h.imp fun D' σ H ⟨g0, H0, g, env, s, x, eo, ss, h⟩ => by
    obtain ⟨d, s1, h1, h2⟩ := h.ok
    exact w _ _ _ ⟨H0, g, env, s, d, s1, eo, ss, h1, fun g1 H1 v x1 ss1 r1 => h2 g1 H1 _ x1.toKp (x.trans x1) ((eo.ext x1).put r1) ss1⟩
/-- x.append(e), x.extend(e) -/
theorem few_one {e : Expr} {env : PySem.Env} {cpos : Pos} (hs : notStar e = true) : ((backTo cpos (starEach [e] env)).all (fun x => !x.1) && (backToKw cpos (keywordEach [] env)).all (fun x => x.1.isSome)
      && decide (([e] : List Expr).length + ([] : List Keyword).length + (if ([] : List Keyword).isEmpty then 0 else 1) < 30)) = true := by
  rw [star_ns hs]; rfl
theorem ds_app {i : Nat} {px : Pos} (hN : X.N[i]? = some x) (hv : Vis X.env.scope x) (hd : (x == ("__debug__" : Str)) = false) (hcd : (x == ("__classdict__" : Str)) = false) (ha : PE X a (TEof X.kk eva)) (hs : notStar a = true) (hline : (apos.endLine == p.line) = true) :
    PS X (.Expr (.Call (.Attribute (.Name x px) "append" apos) [a] [] p) pos) (TSof X.kk W fun env s => (eva env s).bind fun x s => (lift (getO env i) s).bind fun xs s =>
      if xs.length < lim then .ok (.next (env.set i (some (.own (xs ++ [x]))))) s else .no) :=
  (ps_expr (pe_bm PySem.F.plainAttrs_list PySem.F.slot_list_append PySem.F.type_list_append mt_append (pe_var hN hv hd hcd) (pa_cons ha pa_nil (star_ns hs)) rfl (few_one hs) hline (star_ns hs) rfl) rfl).imp fun D' σ H ⟨g0, H0, g, env, s, x0, eo, ss, h⟩ => by
    obtain ⟨d, s1, h1, h2⟩ := h.ok
    obtain ⟨ds, s2, h3, h4⟩ := h2.ok
    obtain ⟨h5, rfl⟩ := lift_ok h3
    obtain ⟨hi, ad, xs, e1, e2, e3, e4, e5, e6⟩ := eo.own h5
    refine ⟨.ref ad, e1, .inl ⟨rfl, xs, SqL.of e2⟩, H0, g, env, s, d, _, eo, ss, h1, fun g1 H1 v x1 ss1 r1 => ?_⟩
    obtain ⟨_, ad', xs', q1, q2, q3, q4, q5, q6⟩ := (eo.ext x1).own h5
    rw [e1] at q1
    cases q1
    split at h4
    · rename_i hlt
      have l := q3.length
      refine ⟨ad, xs', v, rfl, rfl, q2, by rw [l]; exact Nat.lt_of_lt_of_le hlt (line_lim (Nat.le_refl _)), ?_⟩
      refine h4 g1 _ σ (x1.toKp.trans (Kp.write q5 q2)) ((x0.trans x1).write q6 q5 q2) ((eo.ext x1).writeOwn hi e1 q2 q5 (q3.append (Reps.one r1)) ?_) (ss1.write q4 q5 q2)
      rw [List.length_append, List.length_singleton]
      exact line_lim hlt
    · exact h4.elim
theorem ds_ext {i : Nat} {px : Pos} (hN : X.N[i]? = some x) (hv : Vis X.env.scope x) (hd : (x == ("__debug__" : Str)) = false) (hcd : (x == ("__classdict__" : Str)) = false) (ha : PE X a (TEof X.kk eva)) (hs : notStar a = true) (hline : (apos.endLine == p.line) = true) :
    PS X (.Expr (.Call (.Attribute (.Name x px) "extend" apos) [a] [] p) pos) (TSof X.kk W fun env s => (eva env s).bind fun x s => (lift (getO env i) s).bind fun xs s => (lift (lstOf x) s).bind fun ys s =>
      if xs.length + ys.length ≤ lim then .ok (.next (env.set i (some (.own (xs ++ ys))))) s else .no) :=
  (ps_expr (pe_bm PySem.F.plainAttrs_list PySem.F.slot_list_extend PySem.F.type_list_extend mt_extend (pe_var hN hv hd hcd) (pa_cons ha pa_nil (star_ns hs)) rfl (few_one hs) hline (star_ns hs) rfl) rfl).imp fun D' σ H ⟨g0, H0, g, env, s, x0, eo, ss, h⟩ => by
    obtain ⟨d, s1, h1, h2⟩ := h.ok
    obtain ⟨ds, s2, h3, h4⟩ := h2.ok
    obtain ⟨h5, rfl⟩ := lift_ok h3
    obtain ⟨ys, s3, h6, h7⟩ := h4.ok
    obtain ⟨h8, rfl⟩ := lift_ok h6
    obtain ⟨hi, ad, xs, e1, e2, e3, e4, e5, e6⟩ := eo.own h5
    refine ⟨.ref ad, e1, .inl ⟨rfl, xs, SqL.of e2⟩, H0, g, env, s, d, _, eo, ss, h1, fun g1 H1 v x1 ss1 r1 => ?_⟩
    obtain ⟨_, ad', xs', q1, q2, q3, q4, q5, q6⟩ := (eo.ext x1).own h5
    rw [e1] at q1
    cases q1
    cases d with
    | lst zs =>
      cases h8
      obtain ⟨_, b, us, rfl, z1, z2, z3⟩ := r1
      split at h7
      · rename_i hlt
        have l := q3.length
        have l2 := z3.length
        refine ⟨ad, b, xs', us, rfl, rfl, q2, z2, by rw [l, l2]; exact line_lim hlt, ?_⟩
        refine h7 g1 _ σ (x1.toKp.trans (Kp.write q5 q2)) ((x0.trans x1).write q6 q5 q2) ((eo.ext x1).writeOwn hi e1 q2 q5 (q3.append z3) ?_) (ss1.write q4 q5 q2)
        rw [List.length_append]
        exact line_lim hlt
      · exact h7.elim
    | _ => cases h8
theorem sdf_m {px : Pos} (hsa : notStar a = true) (hsb : notStar b = true) (hline : (apos.endLine == p.line) = true) : M2 X (.Name x px) "setdefault" apos a b p where
  base := rfl
  line := hline
  few := by rw [star_ns hsa, star_ns hsb]; rfl
  trees := by rw [star_ns hsa, star_ns hsb]; rfl
/-- x[j] = e -/
def notSlice : Expr → Bool
  | .Slice .. => false
  | _ => true
def rSetA (K : KK) : TSet := fun o i v H Q => rSetL o i v H Q ∨ ∃ a g ks vs x d t kv w2 ho, o = .ref a ∧ H a = some ho ∧ Reps K g H ks kv ∧ Reps K g H vs w2 ∧ DH K.w a ks kv w2 ho t ∧ keyOk t x = true ∧ Rep K g H x i ∧ Rep K g H d v ∧ ks.length < lim ∧
  ∀ ho' kv' w2', Reps K g H (putKs ks x) kv' → Reps K g H (putVs ks vs x d) w2' → DH K.w a (putKs ks x) kv' w2' ho' t → Q (upd H a ho')
theorem set_any (hu : X.A.units + 66 < cLine) : PSet X (rSetA X.kk) := by
  intro pins s σ H o i v ov iv u Q I ro ri rv h
  rcases h with h | ⟨a, g, ks, vs, x, d, t, kv, w2, ho, rfl, e, rk, r2, dh, hx, rx, rd, hl, q⟩
  · exact set_list pins s σ H o i v ov iv u Q I ro ri rv h
  · cases ro
    exact dic_put hu I ri rv e rk r2 dh hx rx rd hl fun ho' kv' w2' s' q1 q2 q3 I' => ⟨_, I', q ho' kv' w2' q1 q2 q3⟩
/-- o[j] = v for one name: what is to be shown of the store -/
theorem gsub_st {i : Nat} (hN : X.N[i]? = some x) {g0 g : Gh} {H0 H : Hp} {env env' : Env} {σ : L2.St} {s s2 s3 : S} {d k : D} {v : V} {P : L2.St → Hp → Prop} {tv : TE} (htv : ∀ σ H Q, (∃ v, σ[i]? = some (some v) ∧ Q v H) → tv σ H Q) (eo : EnvOk X.kk g H H0 env σ) (ss : SimS X.kk g s H) (x0 : Ext X.kk g0 H0 g H) (r1 : Rep X.kk g H d v)
    (h3 : evb env s = .ok k s2) (hst : storeS env s2 i k d = .ok (.next env') s3) (h4 : ∀ g' H', Kp X.kk g H g' H' → Ext X.kk g0 H0 g' H' → EnvOk X.kk g' H' H0 env' σ → SimS X.kk g' s3 H' → P σ H') :
    gSub tv (TWof X.kk evb) (rSetA X.kk) v σ H P := by
  unfold storeS at hst
  split at hst
  · rename_i xs kk hi
    have h5 : getO env i = some xs := by unfold getO; rw [hi]
    obtain ⟨_, ad, us, e1, e2, e3, e4, e5, e6⟩ := eo.own h5
    refine htv _ _ _ ⟨.ref ad, e1, H0, g, env, s, _, s2, eo, ss, h3, fun g2 H2 w x2 ss2 r2 => ?_⟩
    cases r2.int
    obtain ⟨_, ad', us', q1, q2, q3, q4, q5, q6⟩ := (eo.ext x2).own h5
    rw [e1] at q1
    cases q1
    split at hst
    · rename_i m hm
      cases hst
      refine .inl ⟨ad, us', kk, m, rfl, rfl, q2, by rw [q3.length]; exact hm, ?_⟩
      refine h4 g2 _ (x2.toKp.trans (Kp.write q5 q2)) ((x0.trans x2).write q6 q5 q2) ((eo.ext x2).writeOwn hi e1 q2 q5 (q3.set (Rep.ext x2 _ _ r1)) ?_) (ss2.write q4 q5 q2)
      rw [List.length_set]
      exact (eo.ext x2).at_ i _ hi |>.elim fun _ z => z.2.1
    · cases hst
  · rename_i t ks vs hi
    obtain ⟨ad, ho, kv, w2, e1, _⟩ := eo.dicAt hi
    refine htv _ _ _ ⟨.ref ad, e1, H0, g, env, s, _, s2, eo, ss, h3, fun g2 H2 w x2 ss2 r2 => ?_⟩
    split at hst
    · rename_i hko
      cases hst
      rw [Bool.and_eq_true] at hko
      obtain ⟨ad', ho', kv', w2', q1, q2, q3, q4, q5, q6, q7, q8⟩ := (eo.ext x2).dicAt hi
      rw [e1] at q1
      cases q1
      have nt := q5.nt
      refine .inr ⟨ad, g2, ks, vs, _, d, t, kv', w2', ho', rfl, q2, q3, q4, q5, hko.1, r2.strict (keyOk_isO hko.1), Rep.ext x2 _ _ r1, of_decide_eq_true hko.2, fun ho2 kv2 w3 p1 p2 p3 => ?_⟩
      exact h4 g2 _ (x2.toKp.trans (Kp.write q7 q2 nt)) ((x0.trans x2).write q8 q7 q2 nt) ((eo.ext x2).writeObj hi e1 q2 q7 ⟨kv2, w3, p1, p2, p3⟩ (Nat.zero_le _)) (ss2.write q6 q7 q2 nt)
    · cases hst
  · rename_i n kk hi
    obtain ⟨w0, e1, ad, rfl, e2⟩ := eo.at_ i _ hi
    refine htv _ _ _ ⟨.ref ad, e1, H0, g, env, s, _, s2, eo, ss, h3, fun g2 H2 w x2 ss2 r2 => ?_⟩
    cases r2.int
    split at hst
    · rename_i xs hs
      split at hst
      · rename_i m hm
        cases hst
        obtain ⟨ad', ho, q1, q2, us, rfl, q4⟩ := ss2.obj n _ hs
        have e3 := x2.io n ad e2
        rw [e3] at q1
        cases q1
        have nz := ss2.nz ad (List.mem_of_getElem? e3)
        have hio := List.mem_of_getElem? e3
        refine .inl ⟨ad, us, kk, m, rfl, rfl, q2, by rw [q4.length]; exact hm, ?_⟩
        exact h4 g2 _ (x2.toKp.trans (Kp.write nz q2)) ((x0.trans x2).store hio nz q2) ((eo.ext x2).stored hio nz q2) (sim_store ss2 hs e3 q2 (q4.set (Rep.ext x2 _ _ r1)))
      · cases hst
    · cases hst
  · cases hst
theorem store_next {env : Env} {s : S} {i : Nat} {k v : D} {f : Fl} {s' : S} (h : storeS env s i k v = .ok f s') : ∃ env', f = .next env' := by
  unfold storeS at h
  split at h
  · split at h
    · cases h; exact ⟨_, rfl⟩
    · cases h
  · split at h
    · cases h; exact ⟨_, rfl⟩
    · cases h
  · split at h
    · split at h
      · cases h; exact ⟨_, rfl⟩
      · cases h
    · cases h
  · cases h
theorem ds_store (hu : X.A.units + 66 < cLine) {i : Nat} {px : Pos} (hN : X.N[i]? = some x) (hv : Vis X.env.scope x) (hd : (x == ("__debug__" : Str)) = false) (hcd : (x == ("__classdict__" : Str)) = false) (ha : PE X a (TEof X.kk eva)) (hb : PE X b (TWof X.kk evb)) (hns : notSlice b = true)
    (hsw : swapsWithSole [.Subscript (.Name x px) b p] a pos.line X.env = pure false) :
    PS X (.Assign [.Subscript (.Name x px) b p] a pos) (TSof X.kk W fun env s => (eva env s).bind fun v s => (evb env s).bind fun k s => storeS env s i k v) := by
  refine (ps_asg ha (pg_sub (pe_var hN hv hd hcd) hb (set_any hu) (by cases b <;> first | (intro _; rfl) | cases hns)) hsw rfl rfl).imp fun D' σ H ⟨g0, H0, g, env, s, x0, eo, ss, h⟩ => ?_
  obtain ⟨d, s1, h1, h2⟩ := h.ok
  obtain ⟨k, s2, h3, h4⟩ := h2.ok
  refine ⟨H0, g, env, s, d, s1, eo, ss, h1, fun g1 H1 v x1 ss1 r1 => ?_⟩
  cases q : storeS env s2 i k d with
  | no => rw [q] at h4; exact h4.elim
  | exn _ _ => rw [q] at h4; exact h4.elim
  | ok f s3 =>
    obtain ⟨env', rfl⟩ := store_next q
    rw [q] at h4
    exact gsub_st hN (fun _ _ _ z => z) (eo.ext x1) ss1 (x0.trans x1) r1 h3 q fun g' H' k1 k2 k3 k4 => h4 g' H' σ (x1.toKp.trans k1) k2 k3 k4
/-- x[j1], x[j2] = e1, e2 -/
theorem ds_st2 (hu : X.A.units + 66 < cLine) (hc : X.calm = true) {i : Nat} {a2 b2 : Expr} {eva2 evb2 : Env → S → R D} {px px2 p2 pt pv : Pos} {kt kv : Nat} (hN : X.N[i]? = some x) (hv : Vis X.env.scope x) (hd : (x == ("__debug__" : Str)) = false) (hcd : (x == ("__classdict__" : Str)) = false) (ha : PE X a (TEof X.kk eva)) (ha2 : PE X a2 (TEof X.kk eva2)) (hb : PE X b (TWof X.kk evb)) (hb2 : PE X b2 (TWof X.kk evb2)) (hns : notSlice b = true) (hns2 : notSlice b2 = true) (hsa : notStar a = true) (hsa2 : notStar a2 = true)
    (hsw : swappedStores [.Tuple [.Subscript (.Name x px) b p, .Subscript (.Name x px2) b2 p2] kt pt] (.Tuple [a, a2] kv pv) X.env = pure none) :
    PS X (.Assign [.Tuple [.Subscript (.Name x px) b p, .Subscript (.Name x px2) b2 p2] kt pt] (.Tuple [a, a2] kv pv) pos) (TSof X.kk W fun env s => (eva env s).bind fun v s => (eva2 env s).bind fun w s => (evb env s).bind fun k s => (storeS env s i k v).bind fun f s => match f with
      | .next env => (evb2 env s).bind fun k s => storeS env s i k w
      | _ => .no) := by
  have g1 := pg_sub (pos := p) (pe_var hN hv hd hcd (pos := px)) hb (set_any hu) (by cases b <;> first | (intro _; rfl) | cases hns)
  have g2 := pg_sub (pos := p2) (pe_var hN hv hd hcd (pos := px2)) hb2 (set_any hu) (by cases b2 <;> first | (intro _; rfl) | cases hns2)
  have ht : PE X (.Tuple [a, a2] kv pv) _ := pe_tup (pa_cons ha (pa_cons ha2 pa_nil (star_ns hsa2)) (star_ns hsa))
  have hg : PG X (.Tuple [.Subscript (.Name x px) b p, .Subscript (.Name x px2) b2 p2] kt pt) _ := pg_tup (n := 2) hc (pgs_cons g1 (pgs_cons g2 pgs_nil))
  refine (ps_asg ht hg rfl hsw rfl).imp fun D' σ H ⟨g0, H0, g, env, s, x0, eo, ss, h⟩ => ?_
  obtain ⟨d, s1, h1, h2⟩ := h.ok
  obtain ⟨e, s2, h3, h4⟩ := h2.ok
  obtain ⟨k, s3, h5, h6⟩ := h4.ok
  refine ⟨H0, g, env, s, d, s1, eo, ss, h1, fun g1 H1 v x1 ss1 r1 => ?_⟩
  refine ⟨H0, g1, env, s1, e, s2, eo.ext x1, ss1, h3, fun g2 H2 w x2 ss2 r2 => ?_⟩
  refine ⟨by rw [sizeLine_eq]; simp, fun q hq => ?_⟩
  have x3 : Ext X.kk g2 H2 g2 (upd H2 q (.tup [v, w])) := Ext.new hq
  have x123 := (x1.trans x2).trans x3
  refine ⟨q, [v, w], rfl, SqT.of upd_same, rfl, ?_⟩
  obtain ⟨f, s4, z, h8⟩ := h6.ok
  obtain ⟨env', rfl⟩ := store_next z
  dsimp only at h8
  obtain ⟨k2, s5, h7, h9⟩ := h8.ok
  cases z2 : storeS env' s5 i k2 e with
  | no => rw [z2] at h9; exact h9.elim
  | exn _ _ => rw [z2] at h9; exact h9.elim
  | ok f2 s6 =>
    obtain ⟨env2, rfl⟩ := store_next z2
    rw [z2] at h9
    refine ⟨v, [w], rfl, gsub_st hN (fun _ _ _ z => z) (eo.ext x123) (ss2.new hq) (x0.trans x123) (Rep.ext (x2.trans x3) _ _ r1) h5 z fun g' H' kk1 kk2 kk3 kk4 => ?_⟩
    refine ⟨w, [], rfl, gsub_st hN (fun _ _ _ z => z) kk3 kk4 kk2 (Rep.kp (x3.toKp.trans kk1) _ _ r2) h7 z2 fun g'' H'' l1 l2 l3 l4 => ⟨rfl, ?_⟩⟩
    exact h9 g'' H'' σ (x123.toKp.trans (kk1.trans l1)) l2 l3 l4
/-- x.setdefault(j, e) -/
theorem ds_sdf {i : Nat} {px : Pos} (hN : X.N[i]? = some x) (hv : Vis X.env.scope x) (hd : (x == ("__debug__" : Str)) = false) (hcd : (x == ("__classdict__" : Str)) = false) (ha : PE X a (TEof X.kk eva)) (hb : PE X b (TEof X.kk evb)) (hsa : notStar a = true) (hsb : notStar b = true) (hline : (apos.endLine == p.line) = true) :
    PS X (.Expr (.Call (.Attribute (.Name x px) "setdefault" apos) [a, b] [] p) pos) (TSof X.kk W fun env s => (eva env s).bind fun k s => (evb env s).bind fun v s => sdfS env s i k v) := by
  have m : M2 X (.Name x px) "setdefault" apos a b p := sdf_m hsa hsb hline
  refine (ps_expr (pe_dsetd (pe_var hN hv hd hcd) ha hb m) rfl).imp fun D' σ H ⟨g0, H0, g, env, s, x0, eo, ss, h⟩ => ?_
  obtain ⟨k, s1, h1, h2⟩ := h.ok
  obtain ⟨d, s2, h3, h4⟩ := h2.ok
  unfold sdfS at h4
  split at h4
  · rename_i ks vs hi
    obtain ⟨ad, ho, kv, w2, e1, e2, e3, e4, ⟨kvs0, rfl, e5⟩, _⟩ := eo.dicAt hi
    refine ⟨.ref ad, e1, ad, rfl, .inl ⟨kvs0, .inl e2⟩, H0, g, env, s, k, s1, eo, ss, h1, fun g1 H1 u x1 ss1 r1 => ?_⟩
    refine ⟨H0, g1, env, s1, d, s2, eo.ext x1, ss1, h3, fun g2 H2 w x2 ss2 r2 => ?_⟩
    split at h4
    · rename_i hko
      rw [Bool.and_eq_true] at hko
      obtain ⟨ad', ho', kv', w2', q1, q2, q3, q4, ⟨kvs, rfl, rfl, rfl⟩, q6, q7, q8⟩ := (eo.ext (x1.trans x2)).dicAt hi
      rw [e1] at q1
      cases q1
      obtain ⟨kk, rfl⟩ := keyF hko.1
      cases rep_key (Rep.ext x2 _ _ r1)
      have ek := keys_rep q3
      subst ek
      have hl : kvs.length < sizeLine := by
        have h9 := of_decide_eq_true hko.2
        simp only [List.length_map] at h9
        have h10 : lim ≤ sizeLine := by rw [sizeLine_eq]; decide
        omega
      refine ⟨kvs, kk, q2, rfl, hl, fun v hv => ?_, fun hn => ?_⟩
      · have hh : hasK (kvs.map fun p => keyD p.1) (keyD kk) = true := by rw [has_K, valV_any, hv]; rfl
        rw [if_pos hh] at h4
        exact h4 g2 H2 σ (x1.trans x2).toKp (x0.trans (x1.trans x2)) (eo.ext (x1.trans x2)) ss2
      · have hh : ¬ hasK (kvs.map fun p => keyD p.1) (keyD kk) = true := by rw [has_K, valV_any, hn]; simp
        rw [if_neg hh] at h4
        have nt : NT (.dK kvs) := ⟨fun _ => by simp, fun _ _ => by simp⟩
        have pk := put_K (x := kk) r2 q3 q4
        exact h4 g2 _ σ ((x1.trans x2).toKp.trans (Kp.write q7 q2 nt)) ((x0.trans (x1.trans x2)).write q8 q7 q2 nt) ((eo.ext (x1.trans x2)).writeObj hi e1 q2 q7 ⟨_, _, pk.1, pk.2, _, rfl, rfl, rfl⟩ (Nat.zero_le _)) (ss2.write q6 q7 q2 nt)
    · exact h4.elim
  · exact h4.elim
/-- x += e (ints) -/
theorem ds_aug {i : Nat} {px : Pos} (hN : X.N.Nodup) (hi : X.N[i]? = some x) (hx : Loc X.env.scope x) (hf : X.fn x = true ∨ X.env.scope.names.lookup x = some .local) (ha : PE X a (TWof X.kk eva)) :
    PS X (.AugAssign (.Name x px) .Add a pos) (TSof X.kk W fun env s => (lift (getV env i) s).bind fun x s => (eva env s).bind fun y s => match Operator.Add, x, y with
    | .Add, .int a, .int b => .ok (.next (env.set i (some (.val (.int (a + b)))))) s
    | _, _, _ => .no) :=
  (ps_aug hN hi hx ha ip_add hf).imp fun D' σ H ⟨g0, H0, g, env, s, x0, eo, ss, h⟩ => by
    obtain ⟨d, s1, h1, h2⟩ := h.ok
    obtain ⟨h5, rfl⟩ := lift_ok h1
    obtain ⟨y, s2, h3, h4⟩ := h2.ok
    obtain ⟨v, e1, e2⟩ := eo.val h5
    refine ⟨v, e1, H0, g, env, _, y, s2, eo, ss, h3, fun g1 H1 w x1 ss1 r1 => ?_⟩
    split at h4
    · cases (show v = _ from e2)
      cases r1.int
      exact ⟨_, _, rfl, rfl, h4 g1 H1 _ x1.toKp (x0.trans x1) ((eo.ext x1).put rfl) ss1⟩
    · exact h4.elim
/-- for -/
theorem ds_for {t : Tg} {body : List Stmt} (hps : PassesOwn (model X.prog X.w) X.A X.env X.xe) (hc : X.calm = true) (hi : PI X tg iter (TIof X.kk evi)) (hg : PG X tg (gT X.kk t)) (hb : PSs X body (TSof X.kk W evs)) (hs : ∀ x, foldedSetIterable iter X.env x = pure x) :
    PS X (.For tg iter body [] pos) (TSof X.kk W fun env s => (evi env s).bind fun items s => forL t.put evs items env s) := by
  refine (ps_for hps hc hi hg hb hs).imp fun D' σ H ⟨g0, H0, g, env, s, x0, eo, ss, h⟩ => ?_
  obtain ⟨items, s1, h1, h2⟩ := h.ok
  refine ⟨H0, g, env, s, items, s1, eo, ss, h1, fun g1 H1 J x1 ss1 wd => ?_⟩
  let Pv : Nat → L2.St → Hp → Prop := fun i σ2 H2 => ∃ g2 env2 s2, Kp X.kk g1 H1 g2 H2 ∧ Ext X.kk g0 H0 g2 H2 ∧ EnvOk X.kk g2 H2 H0 env2 σ2 ∧ SimS X.kk g2 s2 H2 ∧ OutS X.kk W g0 H0 g2 H2 D' (forL t.put evs (items.drop i) env2 s2)
  refine ⟨fun i m σ2 H2 => m = items.length - i ∧ i ≤ items.length ∧ Pv i σ2 H2, ⟨items.length, by simp, Nat.zero_le _, g1, env, s1, Kp.refl, x0.trans x1, eo.ext x1, ss1, by simpa using OutS.mono x1.toKp h2⟩, ?_⟩
  rintro i m σ2 H2 ⟨rfl, hi, g2, env2, s2, k2, x2, eo2, ss2, o2⟩
  by_cases hlt : i < items.length
  · refine .inr ⟨wd.go i g2 H2 k2 hlt, fun σ' H' => Pv (i + 1) σ' H', fun σ' H' p' => ⟨items.length - (i + 1), by omega, rfl, hlt, p'⟩, fun y H3 hy => ?_⟩
    obtain ⟨hH, ry⟩ := wd.yld i g2 H2 y H3 _ k2 (List.getElem?_eq_getElem hlt) hy
    rw [List.drop_eq_getElem_cons hlt] at o2
    have step : Ext X.kk g2 H2 g2 H3 ∧ SimS X.kk g2 s2 H3 := by
      rcases hH with rfl | ⟨p, o, hp, rfl⟩
      · exact ⟨Ext.refl, ss2⟩
      · exact ⟨Ext.new hp, ss2.new hp⟩
    obtain ⟨x3, ss3⟩ := step
    unfold forL at o2
    split at o2
    · exact o2.elim
    · rename_i env4 hput
      refine tg_ok t _ y env2 env4 σ2 _ hput (eo2.ext x3) ry fun σ4 eo4 _ => ?_
      refine ⟨g0, H0, g2, env4, s2, x2.trans x3, eo4, ss3, ?_⟩
      have o3 := OutS.mono x3.toKp o2
      have k3 := k2.trans x3.toKp
      cases q : evs env4 s2 with
      | no => rw [q] at o3; exact o3.elim
      | exn _ _ => rw [q] at o3; exact o3.elim
      | ok f s5 =>
        rw [q] at o3
        cases f with
        | next env5 => exact fun g6 H6 σ6 k6 x6 eo6 ss6 => ⟨g6, env5, s5, k3.trans k6, x6, eo6, ss6, OutS.mono k6 o3⟩
        | cont env5 => exact fun g6 H6 σ6 k6 x6 eo6 ss6 => ⟨g6, env5, s5, k3.trans k6, x6, eo6, ss6, OutS.mono k6 o3⟩
        | brk env5 => exact fun g6 H6 σ6 k6 x6 eo6 ss6 => o3 g6 H6 σ6 k6 x6 eo6 ss6
        | ret d => exact o3
        | exn x env5 => exact fun g6 H6 σ6 cls d k6 x6 eo6 ss6 rx => o3 g6 H6 σ6 cls d k6 x6 eo6 ss6 rx
  · have e : i = items.length := by omega
    subst e
    rw [List.drop_length] at o2
    exact .inl ⟨wd.stop g2 H2 k2, o2 g2 H2 σ2 Kp.refl x2 eo2 ss2⟩
theorem ds_while {body : List Stmt} (Wn : Nat) (hps : PassesOwn (model X.prog X.w) X.A X.env X.xe) (hc : PT X e (TTof X.kk evt)) (hb : PSs X body (TSof X.kk W evs)) : PS X (.While e body [] pos) (TSof X.kk W fun env s => whileL evt evs Wn env s) := by
  refine (ps_while hps hc hb).imp fun D' σ H ⟨g0, H0, g, env, s, x0, eo, ss, h⟩ => ?_
  refine ⟨fun n σ2 H2 => ∃ g2 env2 s2, Kp X.kk g H g2 H2 ∧ Ext X.kk g0 H0 g2 H2 ∧ EnvOk X.kk g2 H2 H0 env2 σ2 ∧ SimS X.kk g2 s2 H2 ∧ OutS X.kk W g0 H0 g2 H2 D' (whileL evt evs n env2 s2), ⟨Wn, g, env, s, Kp.refl, x0, eo, ss, h⟩, ?_⟩
  rintro n σ2 H2 ⟨g2, env2, s2, k2, x2, eo2, ss2, o2⟩
  cases n with
  | zero => exact o2.elim
  | succ n =>
    obtain ⟨b, s3, h3, h4⟩ := OutS.ok o2
    refine ⟨H0, g2, env2, s2, b, s3, eo2, ss2, h3, fun g4 H4 x4 ss4 => ?_⟩
    have o4 := OutS.mono x4.toKp h4
    cases b with
    | false =>
      refine iteF ?_
      simp only [Bool.false_eq_true, if_false] at o4
      exact o4 g4 H4 σ2 Kp.refl (x2.trans x4) (eo2.ext x4) ss4
    | true =>
      refine iteT ⟨fun σ' H' => ∃ g2 env2 s2, Kp X.kk g H g2 H' ∧ Ext X.kk g0 H0 g2 H' ∧ EnvOk X.kk g2 H' H0 env2 σ' ∧ SimS X.kk g2 s2 H' ∧ OutS X.kk W g0 H0 g2 H' D' (whileL evt evs n env2 s2), fun σ' H' q => ⟨n, Nat.lt_succ_self n, q⟩, ?_⟩
      simp only [if_true] at o4
      refine ⟨g0, H0, g4, env2, s3, x2.trans x4, eo2.ext x4, ss4, ?_⟩
      have k4 := k2.trans x4.toKp
      cases q : evs env2 s3 with
      | no => rw [q] at o4; exact o4.elim
      | exn _ _ => rw [q] at o4; exact o4.elim
      | ok f s5 =>
        rw [q] at o4
        cases f with
        | next env5 => exact fun g6 H6 σ6 k6 x6 eo6 ss6 => ⟨g6, env5, s5, k4.trans k6, x6, eo6, ss6, OutS.mono k6 o4⟩
        | cont env5 => exact fun g6 H6 σ6 k6 x6 eo6 ss6 => ⟨g6, env5, s5, k4.trans k6, x6, eo6, ss6, OutS.mono k6 o4⟩
        | brk env5 => exact fun g6 H6 σ6 k6 x6 eo6 ss6 => o4 g6 H6 σ6 k6 x6 eo6 ss6
        | ret d => exact o4
        | exn x env5 => exact fun g6 H6 σ6 cls d k6 x6 eo6 ss6 rx => o4 g6 H6 σ6 cls d k6 x6 eo6 ss6 rx
/-- a list of one's own is frozen: nothing runs -/
theorem dss_frz {sts : List Stmt} {i : Nat} (h : PSs X sts (TSof X.kk W evs)) : PSs X sts (TSof X.kk W fun env s => (match env[i]? with
    | some (some (.obj o)) => R.ok (Fl.next (env.set i (some (.val o.fz)))) s
    | some (some (.val _)) => .ok (.next env) s
    | _ => .no).bind fun f s => match f with
    | .next env => evs env s
    | f => .ok f s) :=
  h.imp fun D' σ H ⟨g0, H0, g, env, s, x0, eo, ss, h⟩ => by
    dsimp only at h
    split at h
    · rename_i xs hi
      obtain ⟨a, us, e1, e2, e3, eo2⟩ := eo.freeze hi
      exact ⟨g0, H0, g.frz a, _, s, x0.frz e3, eo2, ss.frz' e2 (by rw [e1]; simp), OutS.mono (Kp.frz a) h⟩
    · exact ⟨g0, H0, g, env, s, x0, eo, ss, h⟩
    · exact h.elim
end
/-! a tuple stored name by name, lists of their own among the parts -/
section
variable {K : KK} {g g' g1 : Gh} {H H' H0 H1 Hs : Hp} {env : Env} {σ : L2.St} {s : S}
def OwnAt (K : KK) (g : Gh) (H Hs : Hp) (ds : Oo) (v : V) : Prop := ds.sz ≤ sizeLine ∧ ∃ p xs, v = .ref p ∧ H p = some xs ∧ RepOo K g H p ds xs ∧ p ∉ g.io ∧ ¬ g.Z p ∧ Hs p = none
def NotOwn (v : V) : List Sl → List V → Prop
  | .obj _ :: r, w :: ws => w ≠ v ∧ NotOwn v r ws
  | .val _ :: r, _ :: ws => NotOwn v r ws
  | _, _ => True
def RepSls (K : KK) (g : Gh) (H Hs : Hp) : List Sl → List V → Prop
  | [], vs => vs = []
  | .val d :: r, vs => ∃ v w, vs = v :: w ∧ Rep K g H d v ∧ RepSls K g H Hs r w
  | .obj ds :: r, vs => ∃ v w, vs = v :: w ∧ OwnAt K g H Hs ds v ∧ NotOwn v r w ∧ RepSls K g H Hs r w
def TPof (K : KK) (ev : Env → S → R (List Sl)) : TA := fun σ H Q => At K (List Sl) (fun g s H sls => ∀ g' H' vs, Ext K g H g' H' → SimS K g' s H' → RepSls K g' H' H sls vs → Q vs H') ev σ H
theorem RepSls.base (hb : ∀ a, H1 a = none → Hs a = none) : ∀ {sls : List Sl} {vs : List V}, RepSls K g H H1 sls vs → RepSls K g H Hs sls vs
  | [], _, h => h
  | .val d :: r, _, ⟨v, w, e, h1, h2⟩ => ⟨v, w, e, h1, RepSls.base hb h2⟩
  | .obj ds :: r, _, ⟨v, w, e, ⟨n, p, xs, a1, a2, a3, a4, a5, a6⟩, h1, h2⟩ => ⟨v, w, e, ⟨n, p, xs, a1, a2, a3, a4, a5, hb p a6⟩, h1, RepSls.base hb h2⟩
theorem RepSls.notOwn {p : Addr} (hp : Hs p ≠ none) : ∀ {sls : List Sl} {vs : List V}, RepSls K g H Hs sls vs → NotOwn (.ref p) sls vs
  | [], _, h => by cases (show _ = [] from h); exact trivial
  | .val d :: r, _, ⟨v, w, e, h1, h2⟩ => by subst e; exact (RepSls.notOwn hp h2 : NotOwn (.ref p) r w)
  | .obj ds :: r, _, ⟨v, w, e, ⟨n, q, xs, a1, a2, a3, a4, a5, a6⟩, h1, h2⟩ => by
    subst e
    refine ⟨fun z => ?_, RepSls.notOwn hp h2⟩
    rw [a1] at z
    cases z
    exact hp a6
def Far (env : Env) (σ : L2.St) (v : V) : Prop := ∀ (m : Nat) zs, env[m]? = some (some (Sl.obj zs)) → σ[m]? ≠ some (some v)
theorem EnvOk.putFar {i : Nat} {v : V} {ds : Oo} (eo : EnvOk K g H H0 env σ) (o : OwnAt K g H H0 ds v) (far : Far env σ v) : EnvOk K g H H0 (env.set i (some (.obj ds))) (σ.set i (some v)) where
  len := by simpa using eo.len
  at_ := fun j y h => by
    have hj : j < env.length := by
      have := (List.getElem?_eq_some_iff.mp h).1
      simpa using this
    rcases set_own h with ⟨rfl, e⟩ | ⟨e, h⟩
    · cases e
      exact ⟨v, List.getElem?_set_self (by rw [eo.len]; exact hj), o⟩
    · obtain ⟨w, h1, h2⟩ := eo.at_ j y h
      exact ⟨w, by rw [List.getElem?_set_ne e]; exact h1, h2⟩
  inj := fun j k us ws h1 h2 h3 => by
    have hj : j < σ.length := by
      have := (List.getElem?_eq_some_iff.mp h1).1
      rw [eo.len]; simpa using this
    have hk : k < σ.length := by
      have := (List.getElem?_eq_some_iff.mp h2).1
      rw [eo.len]; simpa using this
    rcases set_own h1 with ⟨rfl, e1⟩ | ⟨e1, h1⟩
    · rcases set_own h2 with ⟨rfl, e2⟩ | ⟨e2, h2⟩
      · rfl
      · rw [List.getElem?_set_self hj, List.getElem?_set_ne e2] at h3
        exact absurd h3.symm (far k _ h2)
    · rcases set_own h2 with ⟨rfl, e2⟩ | ⟨e2, h2⟩
      · rw [List.getElem?_set_self hk, List.getElem?_set_ne e1] at h3
        exact absurd h3 (far j _ h1)
      · rw [List.getElem?_set_ne e1, List.getElem?_set_ne e2] at h3
        exact eo.inj j k us ws h1 h2 h3
def FarAll (env : Env) (σ : L2.St) : List Sl → List V → Prop
  | .obj _ :: r, v :: vs => Far env σ v ∧ FarAll env σ r vs
  | .val _ :: r, _ :: vs => FarAll env σ r vs
  | _, _ => True
theorem FarAll.set {i : Nat} {x : Sl} {v : V} (hi : i < σ.length) (hl : σ.length = env.length) : ∀ {sls : List Sl} {vs : List V}, FarAll env σ sls vs → ((∃ d, x = .val d) ∨ NotOwn v sls vs) → FarAll (env.set i (some x)) (σ.set i (some v)) sls vs
  | [], _, h, _ => by unfold FarAll; exact trivial
  | .val _ :: r, [], h, _ => by unfold FarAll; exact trivial
  | .obj _ :: r, [], h, _ => by unfold FarAll; exact trivial
  | .val _ :: r, w :: vs, h, n => FarAll.set (sls := r) hi hl h n
  | .obj _ :: r, w :: vs, h, n => by
    refine ⟨fun m zs hm => ?_, FarAll.set hi hl h.2 (n.imp id fun z => z.2)⟩
    rcases set_own hm with ⟨rfl, e⟩ | ⟨e, hm⟩
    · cases e
      rcases n with ⟨d, z⟩ | z
      · cases z
      · rw [List.getElem?_set_self hi]
        intro q
        cases q
        exact z.1 rfl
    · rw [List.getElem?_set_ne e]
      exact h.1 m zs hm
theorem EnvOk.putAll : ∀ {is : List Nat} {sls : List Sl} {vs : List V} {env : Env} {σ : L2.St}, EnvOk K g H H0 env σ → RepSls K g H H0 sls vs → FarAll env σ sls vs → (∀ i ∈ is, i < env.length) → EnvOk K g H H0 (setAll env is sls) (setAll σ is vs)
  | [], _, _, _, _, eo, _, _, _ => by unfold setAll; exact eo
  | i :: is, [], vs, _, _, eo, h, _, _ => by cases (show vs = [] from h); unfold setAll; exact eo
  | i :: is, .val d :: r, _, env, σ, eo, ⟨v, w, e, h1, h2⟩, f, hi => by
    subst e
    have hσ : i < σ.length := by rw [eo.len]; exact hi i (List.mem_cons_self ..)
    exact EnvOk.putAll (is := is) (eo.put h1) h2 (FarAll.set hσ eo.len (show FarAll env σ r w from f) (.inl ⟨d, rfl⟩)) fun j hj => by rw [List.length_set]; exact hi j (List.mem_cons_of_mem _ hj)
  | i :: is, .obj ds :: r, _, env, σ, eo, ⟨v, w, e, h0, h1, h2⟩, f, hi => by
    subst e
    have hσ : i < σ.length := by rw [eo.len]; exact hi i (List.mem_cons_self ..)
    exact EnvOk.putAll (is := is) (eo.putFar h0 f.1) h2 (FarAll.set hσ eo.len f.2 (.inr h1)) fun j hj => by rw [List.length_set]; exact hi j (List.mem_cons_of_mem _ hj)
theorem far_new (eo : EnvOk K g H H0 env σ) : ∀ {sls : List Sl} {vs : List V}, RepSls K g1 H1 H sls vs → FarAll env σ sls vs
  | [], _, _ => by unfold FarAll; exact trivial
  | .val d :: r, _, ⟨v, w, e, h1, h2⟩ => by subst e; exact far_new (sls := r) eo h2
  | .obj ds :: r, _, ⟨v, w, e, ⟨n, p, xs, a1, a2, a3, a4, a5, a6⟩, h1, h2⟩ => by
    subst e
    refine ⟨fun m zs hm q => ?_, far_new eo h2⟩
    obtain ⟨v', e1, _, a, xs', e2, e3, _⟩ := eo.at_ m _ hm
    rw [e1, a1] at q
    cases q
    cases e2
    rw [a6] at e3
    cases e3
end
section
variable {X : Cx} {e a b c : Expr} {es : List Expr} {pos : Pos} {ev : Env → S → R D} {evf : Env → S → R (List D)} {evs : Env → S → R (List Sl)} {W : WX}
theorem OwnAt.ext {K : KK} {g g' : Gh} {H H' Hs : Hp} {ds : Oo} {v : V} (o : OwnAt K g H Hs ds v) (x : Ext K g H g' H') : OwnAt K g' H' Hs ds v := by
  obtain ⟨n, p, xs, a1, a2, a3, a4, a5, a6⟩ := o
  refine ⟨n, p, xs, a1, x.keep _ _ a2 a4, RepOo.ext x a3, fun z => ?_, fun z => ?_, a6⟩
  · rcases x.ioN _ z with q | q
    · exact a4 q
    · rw [a2] at q; cases q
  · rcases x.zN _ z with q | q
    · exact a5 q
    · rw [a2] at q; cases q
theorem dp_nil : PA X [] (TPof X.kk fun _ s => .ok [] s) :=
  pa_nil.imp fun σ H Q ⟨H0, g, env, s, d, s', eo, ss, hev, hq⟩ => by
    cases hev
    exact hq g H [] Ext.refl ss rfl
theorem dp_v (h : PE X e (TEof X.kk ev)) (hs : notStar e = true) (r : PA X es (TPof X.kk evs)) : PA X (e :: es) (TPof X.kk fun env s => (ev env s).bind fun x s => (evs env s).bind fun ys s => .ok (.val x :: ys) s) :=
  (pa_cons h r (star_ns hs)).imp fun σ H Q ⟨H0, g, env, s, d, s', eo, ss, hev, hq⟩ => by
    obtain ⟨x, s1, h1, hev⟩ := R.bind_ok_iff hev
    obtain ⟨ys, s2, h2, hev⟩ := R.bind_ok_iff hev
    cases hev
    exact ⟨H0, g, env, s, x, s1, eo, ss, h1, fun g1 H1 v e1 ss1 r1 => ⟨H0, g1, env, s1, ys, _, eo.ext e1, ss1, h2, fun g2 H2 vs e2 ss2 r2 => hq g2 H2 _ (e1.trans e2) ss2 ⟨v, vs, rfl, Rep.ext e2 _ _ r1, r2.base e1.live⟩⟩⟩
theorem dp_o (h : PE X e (TFof X.kk evf)) (hs : notStar e = true) (r : PA X es (TPof X.kk evs)) : PA X (e :: es) (TPof X.kk fun env s => (evf env s).bind fun x s => (evs env s).bind fun ys s => .ok (.own x :: ys) s) :=
  (pa_cons h r (star_ns hs)).imp fun σ H Q ⟨H0, g, env, s, d, s', eo, ss, hev, hq⟩ => by
    obtain ⟨x, s1, h1, hev⟩ := R.bind_ok_iff hev
    obtain ⟨ys, s2, h2, hev⟩ := R.bind_ok_iff hev
    cases hev
    refine ⟨H0, g, env, s, x, s1, eo, ss, h1, fun g1 H1 p xs e1 ss1 hp hl hio hz r1 hn => ⟨H0, g1, env, s1, ys, _, eo.ext e1, ss1, h2, fun g2 H2 vs e2 ss2 r2 => hq g2 H2 _ (e1.trans e2) ss2 ?_⟩⟩
    have o : OwnAt X.kk g1 H1 H (.lst x) (.ref p) := ⟨hn, p, _, rfl, hl, ⟨xs, rfl, r1⟩, hio, hz, hp⟩
    exact ⟨.ref p, vs, rfl, o.ext e2, r2.notOwn (by rw [hl]; simp), r2.base e1.live⟩
theorem dp_d {evd : Env → S → R Oo} (h : PE X e (TDof X.kk evd)) (hs : notStar e = true) (r : PA X es (TPof X.kk evs)) : PA X (e :: es) (TPof X.kk fun env s => (evd env s).bind fun x s => (evs env s).bind fun ys s => .ok (.obj x :: ys) s) :=
  (pa_cons h r (star_ns hs)).imp fun σ H Q ⟨H0, g, env, s, d, s', eo, ss, hev, hq⟩ => by
    obtain ⟨x, s1, h1, hev⟩ := R.bind_ok_iff hev
    obtain ⟨ys, s2, h2, hev⟩ := R.bind_ok_iff hev
    cases hev
    refine ⟨H0, g, env, s, x, s1, eo, ss, h1, fun g1 H1 p ho e1 ss1 hp hl hio hz r1 hn => ⟨H0, g1, env, s1, ys, _, eo.ext e1, ss1, h2, fun g2 H2 vs e2 ss2 r2 => hq g2 H2 _ (e1.trans e2) ss2 ?_⟩⟩
    have o : OwnAt X.kk g1 H1 H x (.ref p) := ⟨hn, p, _, rfl, hl, r1, hio, hz, hp⟩
    exact ⟨.ref p, vs, rfl, o.ext e2, r2.notOwn (by rw [hl]; simp), r2.base e1.live⟩
theorem repSls_len {K : KK} {g : Gh} {H Hs : Hp} : ∀ {sls : List Sl} {vs : List V}, RepSls K g H Hs sls vs → vs.length = sls.length
  | [], _, h => by cases (show _ = [] from h); rfl
  | .val d :: r, _, ⟨v, w, e, h1, h2⟩ => by subst e; simp [repSls_len h2]
  | .obj ds :: r, _, ⟨v, w, e, _, h1, h2⟩ => by subst e; simp [repSls_len h2]
theorem RepSls.ext {K : KK} {g g' : Gh} {H H' Hs : Hp} (x : Ext K g H g' H') : ∀ {sls : List Sl} {vs : List V}, RepSls K g H Hs sls vs → RepSls K g' H' Hs sls vs
  | [], _, h => h
  | .val d :: r, _, ⟨v, w, e, h1, h2⟩ => ⟨v, w, e, Rep.ext x _ _ h1, RepSls.ext x h2⟩
  | .obj ds :: r, _, ⟨v, w, e, h0, h1, h2⟩ => ⟨v, w, e, h0.ext x, h1, RepSls.ext x h2⟩
/-- the store of the parts where the tuple is made -/
theorem ds_partsT {st : Stmt} {is : List Nat} {ta : TA} (h : PS X st (fun D' σ H => ta σ H fun vs H1 => vs.length ≤ sizeLine ∧ ∀ p, H1 p = none → vs.length = is.length ∧ D'.nx (setAll σ is vs) (upd H1 p (.tup vs)))) (w : ∀ σ H Q, TPof X.kk evs σ H Q → ta σ H Q) (hN : ∀ i ∈ is, i < X.N.length) (hz : is.length ≤ sizeLine)
    (hl : ∀ env s sls s', evs env s = .ok sls s' → sls.length = is.length) (hlen : ∀ pins σ H s, Inv X pins σ H s → σ.length = X.N.length) : PS X st (TSof X.kk W fun env s => (evs env s).bind fun sls s => .ok (.next (setAll env is sls)) s) := by
  refine ⟨fun pins s0 σ H D' I ⟨g0, H0, g, env, s, x, eo, ss, h0⟩ => h.run pins s0 σ H D' I ?_⟩
  obtain ⟨sls, s1, h1, h2⟩ := h0.ok
  refine w _ _ _ ⟨H0, g, env, s, sls, s1, eo, ss, h1, fun g1 H1 vs x1 ss1 r1 => ?_⟩
  have lv : vs.length = is.length := by rw [repSls_len r1]; exact hl _ _ _ _ h1
  refine ⟨by omega, fun p np => ⟨lv, ?_⟩⟩
  have x2 : Ext X.kk g1 H1 g1 (upd H1 p (.tup vs)) := Ext.new np
  have x3 := x1.trans x2
  refine h2 g1 _ _ x3.toKp (x.trans x3) (EnvOk.putAll (eo.ext x3) ((r1.ext x2).base x.live) ?_ fun i hi => ?_) (ss1.new np)
  · exact far_new eo (r1.ext x2)
  · rw [← eo.len, hlen _ _ _ _ I]; exact hN i hi
/-- the store of the parts -/
theorem ds_parts {st : Stmt} {is : List Nat} {ta : TA} (h : PS X st (fun D' σ H => ta σ H fun vs H1 => vs.length = is.length ∧ D'.nx (setAll σ is vs) H1)) (w : ∀ σ H Q, TPof X.kk evs σ H Q → ta σ H Q) (hN : ∀ i ∈ is, i < X.N.length)
    (hl : ∀ env s sls s', evs env s = .ok sls s' → sls.length = is.length) (hlen : ∀ pins σ H s, Inv X pins σ H s → σ.length = X.N.length) : PS X st (TSof X.kk W fun env s => (evs env s).bind fun sls s => .ok (.next (setAll env is sls)) s) := by
  refine ⟨fun pins s0 σ H D' I ⟨g0, H0, g, env, s, x, eo, ss, h0⟩ => h.run pins s0 σ H D' I ?_⟩
  obtain ⟨sls, s1, h1, h2⟩ := h0.ok
  refine w _ _ _ ⟨H0, g, env, s, sls, s1, eo, ss, h1, fun g1 H1 vs x1 ss1 r1 => ⟨?_, ?_⟩⟩
  · rw [repSls_len r1]; exact hl _ _ _ _ h1
  · refine h2 g1 H1 _ x1.toKp (x.trans x1) (EnvOk.putAll (eo.ext x1) (r1.base x.live) ?_ fun i hi => ?_) ss1
    · exact far_new eo r1
    · rw [← eo.len, hlen _ _ _ _ I]; exact hN i hi
end
end Fw
namespace Fw
open PySem PySem.Spec PyProof.Rows L2
/-! ## dict comprehensions, keys of either kind -/
section
variable {X : Cx} {pins : List (Addr × Obj)} {σ : L2.St} {H : Hp} {s : Shared} {g : Gh} {a : Addr} {ks vs : List D} {L : KL}
/-- a pair is put into a dict -/
theorem dic_set {v y : V} {vv uu : Value} {Q : Unit → Shared → Prop} {E : Value → Shared → Prop} {x d : D} {t : Bool} {kv w2 : List V} {ho : HO} (hu : X.A.units + 66 < cLine) (I : Inv X pins σ H s) (rx : RelV v vv) (ry : RelV y uu) (e : H a = some ho) (rk : Reps X.kk g H ks kv) (rv : Reps X.kk g H vs w2) (dh : DH X.w a ks kv w2 ho t) (hx : keyOk t x = true) (r1 : Rep X.kk g H x v)
    (r2 : Rep X.kk g H d y) (hl : ks.length < lim) (q : ∀ ho' kv' w2' s', Reps X.kk g H (putKs ks x) kv' → Reps X.kk g H (putVs ks vs x d) w2' → DH X.w a (putKs ks x) kv' w2' ho' t → Inv X pins σ (upd H a ho') s' → Q () s') : wpAny (model X.prog X.w) X.A (dictSet a vv uu) Q E s := by
  have hl1 : lim ≤ sizeLine := by rw [sizeLine_eq]; decide
  cases t with
  | true =>
    obtain ⟨L, rfl, hk, hd, rfl, rfl⟩ := dh
    obtain ⟨ds, k, rfl, q1, q2⟩ := keyT hx
    obtain ⟨_, b, xs, rfl, h2, h3⟩ := id r1
    cases rx
    obtain ⟨z, y', xs', p, dd⟩ := dt_at I e hk rk hd
    have key : (nestedKind X.prog X.w).is s.heap k b := ⟨rep_nk I _ _ _ k r1 rfl q1, q2⟩
    have room : (nestedKind X.prog X.w).room X.A := by show X.A.units + 8 < cLine; omega
    have ll : L.length = ks.length := by have := rk.length; simpa using this
    have pl := put_pl (k := k) (b := b) p ry
    have pk := put_keys (y := y) q1 r1 hk rk
    have hz : (putL L k b y).length ≤ sizeLine := by have := put_len L k b y; omega
    refine wpAny_dictSet_heap (hsz := by rw [← p.length]; omega) room key dd fun h' dd' hs => q (dtO X.w a (putL L k b y)) _ _ _ pk.2 (put_vals (b := b) q1 r2 hk rv) ⟨_, rfl, pk.1, put_depth hd q2, rfl, rfl⟩ ?_
    have he : ∃ q, h'.get? a = some q := let ⟨q, _, _, hq, _⟩ := dd'; ⟨q, hq⟩
    exact d_write I (by rw [e]; exact True.intro) hs he (dt_ok hz y' pl dd')
  | false =>
    obtain ⟨kvs, rfl, rfl, rfl⟩ := dh
    obtain ⟨k, rfl⟩ := keyF hx
    cases rep_key r1
    have ek := keys_rep rk
    subst ek
    have pk := put_K (x := k) r2 rk rv
    exact d_dictSet I e (by simp at hl; omega) rx ry fun s' I' => q _ _ _ s' pk.1 pk.2 ⟨_, rfl, rfl, rfl⟩ I'
end
def nilO (w : World) (p : Addr) : Bool → HO
  | true => dtO w p []
  | false => .dK []
/-- a pair may be put in, and then what is asked holds -/
def PutOk (K : KK) (t : Bool) (p : Addr) (y z : V) (H : Hp) (Nx : Hp → Prop) : Prop := ∃ (g : Gh) (ks vs : List D) (kv w2 : List V) (x d : D) (ho : HO), H p = some ho ∧ Reps K g H ks kv ∧ Reps K g H vs w2 ∧ DH K.w p ks kv w2 ho t ∧ keyOk t x = true ∧ Rep K g H x y ∧ Rep K g H d z ∧ ks.length < lim ∧
  ∀ ho' kv' w2', Reps K g H (putKs ks x) kv' → Reps K g H (putVs ks vs x d) w2' → DH K.w p (putKs ks x) kv' w2' ho' t → Nx (upd H p ho')
section
variable {X : Cx}
/-- {key: value for target in walk if test}; p the new dict -/
def tDcx (K : KK) (t : Bool) (walk : TI) (tgt : TG) (test : TT) (key val : TE) (vs : List Nat) : TE := fun σ H Q => walk σ H fun J Hw => ∀ p, Hw p = none →
  ∃ W : Nat → Nat → Hp → Prop, (∃ m, W 0 m (upd Hw p (nilO K.w p t))) ∧ ∀ i m Hi, W i m Hi → (J.stop i Hi ∧ Q (.ref p) Hi) ∨ (J.go i Hi ∧ ∃ Nx : Hp → Prop, (∀ Hn, Nx Hn → ∃ m', m' < m ∧ W (i + 1) m' Hn) ∧
    ∀ x Hy, J.yld i Hi x Hy → tgt x (wipe σ vs) Hy fun σt Ht => wipe σt vs = wipe σ vs ∧ test σt Ht fun b Hb => if b = true then key σt Hb fun y Hk => val σt Hk fun z Hv => PutOk K t p y z Hv Nx else Nx Hb)
theorem dcx_core {t : Bool} {pins : List (Addr × Obj)} {s : Shared} {σ : L2.St} {H : Hp} {Q : VK} {kx vx tg iter : Expr} {ifs : List Expr} {scope : Scope} {own : List (Str × Nat)} {pos pos' : Pos} {walk : TI} {tgt : TG} {test : TT} {key val : TE} {use : Option (Value → Sem Unit)} {Qf : Value → Shared → Prop}
    (hu : X.A.units + 66 < cLine) (hc : X.calm = true) (hN : X.N.Nodup) (I : Inv X pins σ H s) (hi : PI X tg iter walk) (ok : BlkOk X.N X.env.scope scope own)
    (hg : ∀ (s : Shared) (H : Hp) (C : Addr) (cl : List (Str × Addr)) (fp : List Addr), PG (X.blk s H scope (compEnvC scope cl C X.env) fp) tg tgt)
    (ht : ∀ (s : Shared) (H : Hp) (C : Addr) (cl : List (Str × Addr)) (fp : List Addr), PTs (X.blk s H scope (compEnvC scope cl C X.env) fp) ifs test)
    (hk : ∀ (s : Shared) (H : Hp) (C : Addr) (cl : List (Str × Addr)) (fp : List Addr), PE (X.blk s H scope (compEnvC scope cl C X.env) fp) kx key)
    (he : ∀ (s : Shared) (H : Hp) (C : Addr) (cl : List (Str × Addr)) (fp : List Addr), PE (X.blk s H scope (compEnvC scope cl C X.env) fp) vx val)
    (hs : ∀ x, foldedSetIterable iter X.env x = pure x)
    (h : tDcx X.kk t walk tgt test key val (own.map (·.2)) σ H Q)
    (hRR : ∀ p C s' m H', Inv X pins σ H' s' → Q (.ref p) H' → s'.heap.Ns C m → FpOk X pins H' C → compPost (model X.prog X.w) X.A X.xe use Qf (.ref p) C (.ok .next) s') :
    wpAny (model X.prog X.w) X.A (comprehension (.DictComp kx vx [⟨tg, iter, ifs, 0⟩] scope pos) scope X.env pos' newDict false (eval iter X.env) use) Qf X.xe s := by
  have free : ∀ y ∈ scope.names, y.2 = .free → ∃ c, X.env.cells.lookup y.1 = some c := fun y hy e => (ok.free y hy e).elim (fun q => I.ok.has _ (.inl q)) fun q => I.ok.has _ (.inr q)
  refine wpAny_comprehension_free (use := use) rfl hs (closure_ok free) ok.kind (fun y hy e => by rw [ok.uniq y hy, e]) (thn (hi.run pins s σ H _ I h) fun _ _ hx => thn hx fun _ sa ha => ?_)
  obtain ⟨it, fp, tn, J, Ha, e, Ia, T, sta, fa, q⟩ := ha
  subst e
  refine wpAny_newObj_type (newEnv_comp ?_)
  -- the new dict's place
  obtain ⟨p, hp⟩ : ∃ p, p = sa.heap.objs.size := ⟨_, rfl⟩
  have pn : Ha p = none := Ia.hok.fresh (Nat.le_of_eq hp.symm)
  obtain ⟨W, ⟨m0, w0⟩, turn⟩ := q p pn
  rw [← hp]
  obtain ⟨sb, hsb⟩ : ∃ sb : Shared, sb = { sa with heap := sa.heap.push { cls := .type "dict", data := .dict #[] } } := ⟨_, rfl⟩
  have hbH : sb.heap = sa.heap.push { cls := .type "dict", data := .dict #[] } := by rw [hsb]
  obtain ⟨Hb, hHb⟩ : ∃ Hb : Hp, Hb = upd Ha p (nilO X.w p t) := ⟨_, rfl⟩
  have w0 : W 0 m0 Hb := by rw [hHb]; exact w0
  have Ib : Inv X pins σ Hb sb := by
    rw [hsb, hHb]
    refine Ia.laid (t' := sa.toks) (fun _ _ z => Heap.get?_push_of_some _ z) (Nat.le_of_eq hp.symm) ?_
    rw [hp]
    cases t with
    | true => exact dt_new sa.heap Ia.big
    | false => exact dk_empty sa.heap Ia.big
  have small : ∀ b ∈ fp, b < sa.heap.objs.size := fun b hb => let ⟨_, z, _⟩ := T.obj _ _ sta b hb; Heap.lt_size z
  have fb : ∀ b ∈ fp, FpOk X pins Hb b ∧ b < sb.heap.objs.size := fun b hb => by
    have lt := small b hb
    refine ⟨⟨?_, (fa b hb).2⟩, by rw [hbH, Heap.size_push]; exact Nat.lt_succ_of_lt lt⟩
    rw [hHb, upd_ne (by rw [hp]; exact Nat.ne_of_lt lt)]
    exact (fa b hb).1
  have stb : tn 0 sb.heap := T.keep _ _ _ sta fun b _ o z => by rw [hbH]; exact Heap.get?_push_of_some _ z
  have Ic := block_start Ib ok hN fb
  rw [← hsb]
  -- the block's own names
  obtain ⟨ce, hce⟩ : ∃ ce, ce = compEnvC scope (cellsFrom (sb.heap.objs.size + 1) scope.names (cloFrom X.env.cells scope.names [])) sb.heap.objs.size X.env := ⟨_, rfl⟩
  have Pg := hg sb Hb sb.heap.objs.size (cellsFrom (sb.heap.objs.size + 1) scope.names (cloFrom X.env.cells scope.names [])) fp
  have Pt := ht sb Hb sb.heap.objs.size (cellsFrom (sb.heap.objs.size + 1) scope.names (cloFrom X.env.cells scope.names [])) fp
  have Pk := hk sb Hb sb.heap.objs.size (cellsFrom (sb.heap.objs.size + 1) scope.names (cloFrom X.env.cells scope.names [])) fp
  have Pv := he sb Hb sb.heap.objs.size (cellsFrom (sb.heap.objs.size + 1) scope.names (cloFrom X.env.cells scope.names [])) fp
  rw [← hce] at Ic Pg Pt Pk Pv
  have cl : ce.locals = sb.heap.objs.size := by rw [hce]; rfl
  obtain ⟨sc, hsc⟩ : ∃ sc : Shared, sc = { sb with heap := pushCells (sb.heap.push { cls := .type "dict", data := .dict #[] }) scope.names } := ⟨_, rfl⟩
  rw [← hsc] at Ic
  show codeAny _ _ (.compStart (.DictComp kx vx [⟨tg, iter, ifs, 0⟩] scope pos) 0 (.ref it) (.ref p) (compEnvC scope (cellsFrom (sb.heap.objs.size + 1) scope.names (cloFrom X.env.cells scope.names [])) sb.heap.objs.size X.env)) (compPost (model X.prog X.w) X.A X.xe use Qf (.ref p) sb.heap.objs.size) { sb with heap := pushCells (sb.heap.push { cls := .type "dict", data := .dict #[] }) scope.names }
  rw [← hce, ← hsc]
  have nofp : ∀ b ∈ fp, Hb b = none := fun b hb => (fb b hb).1.1
  have stc : tn 0 sc.heap := T.keep _ _ _ stb fun b _ o z => by rw [hsc]; exact pushCells_keeps _ _ _ _ (Heap.get?_push_of_some _ z)
  have stays : ∀ {σ' : L2.St} {H' : Hp} {s' : Shared}, Inv (X.blk sb Hb scope ce fp) [] σ' H' s' → (∀ b ∈ fp, H' b = none) → ∀ b ∈ fp, FpOk (X.blk sb Hb scope ce fp) [] H' b := fun {σ' H' s'} I' hn b hb =>
    ⟨hn b hb, (I'.ok.exf b hb).1, I'.ok.exfs b hb, .inl hb, fun x c z => (I'.ok.exf b hb).2 x c z, fun r hr => absurd (show r ∈ ([] : List (Addr × Obj)) ++ [] from hr) (by simp)⟩
  have loop : codeAny (model X.prog X.w) X.A (.compLoop (.DictComp kx vx [⟨tg, iter, ifs, 0⟩] scope pos) 0 (.ref it) (.ref p) ce) (compPost (model X.prog X.w) X.A X.xe use Qf (.ref p) sb.heap.objs.size) sc := by
    refine compLoop_anyD (fun n s' => ∃ i H', Inv (X.blk sb Hb scope ce fp) [] (wipe σ (own.map (·.2))) H' s' ∧ tn i s'.heap ∧ (∀ b ∈ fp, H' b = none) ∧ W i n H') ?_ m0 ⟨0, Hb, Ic, stc, nofp, w0⟩
    rintro n sd ⟨i, Hd, Id, std, nd, wd⟩
    rcases turn i n Hd wd with ⟨stop, qq⟩ | ⟨go, Nx, hNx, step⟩
    · refine thnF (T.done (X.blk sb Hb scope ce fp) rfl rfl rfl hc i [] sd _ Hd (fun _ _ => False) Id (stays Id nd) std stop) fun r se ⟨hr, Ie⟩ => ?_
      subst hr
      have Ix : Inv X pins σ Hd se := Ib.call' (ch := fp) Ie.os Ie.base Ie.hok Ie.bare fun b hb => let z := (fb b hb).1.2; ⟨z.2.2.1, z.1, z.2.2.2.1, z.2.2.2.2⟩
      have nC : Hd sb.heap.objs.size = none := by
        have z : Hd ce.locals = none := Ie.free
        rwa [cl] at z
      obtain ⟨m, hn, _⟩ := Ie.loc
      have hn : se.heap.Ns ce.locals m := hn
      rw [cl] at hn
      exact hRR p sb.heap.objs.size se m Hd Ix qq hn (Ib.fpOk (Nat.le_refl _) nC)
    · refine thnF (T.item (X.blk sb Hb scope ce fp) rfl rfl rfl hc i [] sd _ Hd (fun _ _ => False) Id (stays Id nd) std go) fun r se ⟨u, hr, ge⟩ => ?_
      subst hr
      refine thnF ge fun _ sf ⟨x, Hf, If, rf, yf, stf, nf⟩ => ?_
      refine thnF (Pg.run _ sf _ Hf x u _ (If.pinned (stays If nf) (T.obj _ _ stf)) rf (step x Hf yf)) fun _ sg ⟨σg, Hg, Ig, wg, qg⟩ => ?_
      refine thnF (Pt.run _ sg σg Hg _ Ig qg) fun b sh ⟨Hh, Ih, qh⟩ => ?_
      have fin : ∀ {s' : Shared} {H' : Hp}, Inv (X.blk sb Hb scope ce fp) ([] ++ pinsAt fp sf.heap) σg H' s' → Nx H' → ∃ m, m < n ∧ ∃ i H', Inv (X.blk sb Hb scope ce fp) [] (wipe σ (own.map (·.2))) H' s' ∧ tn i s'.heap ∧ (∀ b ∈ fp, H' b = none) ∧ W i m H' := fun {s' H'} I' nx => by
        obtain ⟨m', hm, w'⟩ := hNx H' nx
        have same : ∀ b ∈ fp, ∀ o, sf.heap.get? b = some o → s'.heap.get? b = some o ∧ H' b = none := fun b hb o z =>
          let v := I'.pin (b, o) (List.mem_append_right _ (List.mem_append_right _ (mem_pinsAt hb z))); ⟨v.1, v.2.1⟩
        refine ⟨m', hm, i + 1, H', (I'.unpinned (pins := [])).weak (by rw [← wg, wipe_length]) (fun j v z => ?_), T.keep _ _ _ stf fun b hb o z => (same b hb o z).1, fun b hb => ?_, w'⟩
        · rw [← wg] at z; exact (wipe_some z).1
        · obtain ⟨o, z, _⟩ := T.obj _ _ stf b hb; exact (same b hb o z).2
      cases b with
      | false =>
        simp only [Bool.false_eq_true, if_false] at qh ⊢
        exact fin Ih qh
      | true =>
        simp only [if_true] at qh ⊢
        refine thnF (Pk.run _ sh σg Hh _ Ih qh) fun _ si ⟨yk, Hi, Ii, ri, qi⟩ => ?_
        refine thnF (Pv.run _ si σg Hi _ Ii qi) fun _ sj ⟨yv, Hj, Ij, rj, gz, ks, vs, kv, w2, kd, vd, ho, z1, z2, z3, z4, z5, z6, z7, z8, z9⟩ => ?_
        exact dic_set (X := X.blk sb Hb scope ce fp) hu Ij ri rj z1 z2 z3 z4 z5 z6 z7 z8 fun ho' kv' w2' s' a1 a2 a3 I' => fin I' (z9 ho' kv' w2' a1 a2 a3)
  exact codeAny_compStart_dict loop (T.self X.A 0 _ _ _ stc loop)
/-- as a value -/
theorem pe_dcx {t : Bool} {kx vx tg iter : Expr} {ifs : List Expr} {scope : Scope} {own : List (Str × Nat)} {pos : Pos} {walk : TI} {tgt : TG} {test : TT} {key val : TE} (hu : X.A.units + 66 < cLine) (hc : X.calm = true) (hN : X.N.Nodup) (hi : PI X tg iter walk) (ok : BlkOk X.N X.env.scope scope own)
    (hg : ∀ (s : Shared) (H : Hp) (C : Addr) (cl : List (Str × Addr)) (fp : List Addr), PG (X.blk s H scope (compEnvC scope cl C X.env) fp) tg tgt)
    (ht : ∀ (s : Shared) (H : Hp) (C : Addr) (cl : List (Str × Addr)) (fp : List Addr), PTs (X.blk s H scope (compEnvC scope cl C X.env) fp) ifs test)
    (hk : ∀ (s : Shared) (H : Hp) (C : Addr) (cl : List (Str × Addr)) (fp : List Addr), PE (X.blk s H scope (compEnvC scope cl C X.env) fp) kx key)
    (he : ∀ (s : Shared) (H : Hp) (C : Addr) (cl : List (Str × Addr)) (fp : List Addr), PE (X.blk s H scope (compEnvC scope cl C X.env) fp) vx val) (hs : ∀ x, foldedSetIterable iter X.env x = pure x) :
    PE X (.DictComp kx vx [⟨tg, iter, ifs, 0⟩] scope pos) (tDcx X.kk t walk tgt test key val (own.map (·.2))) := ⟨fun pins s σ H Q I h => by
  rw [arm_eval_DictComp]
  exact dcx_core hu hc hN I hi ok hg ht hk he hs h fun p C s' m H' I' q hn ⟨f0, f1, _, f3, f4, f5⟩ => ⟨m, hn, fun h2 sb => ⟨.ref p, H', I'.turned (t' := s'.toks) (fun b o hb e => (sb.2 b hb).trans e) f0 f1 f3 f4 f5, rfl, q⟩⟩⟩
/-- given to a name, on one line -/
theorem ps_setDcx {t : Bool} {i : Nat} {y : Str} {py : Pos} {kx vx tg iter : Expr} {ifs : List Expr} {scope : Scope} {own : List (Str × Nat)} {pos spos : Pos} {walk : TI} {tgt : TG} {test : TT} {key val : TE} (hu : X.A.units + 66 < cLine) (hc : X.calm = true) (hN : X.N.Nodup) (hy : X.N[i]? = some y) (hyl : X.env.scope.names.lookup y = some .local)
    (hsw : swapsWith (.DictComp kx vx [⟨tg, iter, ifs, 0⟩] scope pos) (some (.Name y py)) spos.line X.env = pure true) (hi : PI X tg iter walk) (ok : BlkOk X.N X.env.scope scope own)
    (hg : ∀ (s : Shared) (H : Hp) (C : Addr) (cl : List (Str × Addr)) (fp : List Addr), PG (X.blk s H scope (compEnvC scope cl C X.env) fp) tg tgt)
    (ht : ∀ (s : Shared) (H : Hp) (C : Addr) (cl : List (Str × Addr)) (fp : List Addr), PTs (X.blk s H scope (compEnvC scope cl C X.env) fp) ifs test)
    (hk : ∀ (s : Shared) (H : Hp) (C : Addr) (cl : List (Str × Addr)) (fp : List Addr), PE (X.blk s H scope (compEnvC scope cl C X.env) fp) kx key)
    (he : ∀ (s : Shared) (H : Hp) (C : Addr) (cl : List (Str × Addr)) (fp : List Addr), PE (X.blk s H scope (compEnvC scope cl C X.env) fp) vx val) (hs : ∀ x, foldedSetIterable iter X.env x = pure x) :
    PS X (.Assign [.Name y py] (.DictComp kx vx [⟨tg, iter, ifs, 0⟩] scope pos) spos) (tAsg (tDcx X.kk t walk tgt test key val (own.map (·.2))) (gName i)) := ⟨fun pins s σ H D I h => by
  rw [exec_Assign_Name_used _ _ _ _ hsw]
  refine wpAny_bind (wpAny_standAt (wpAny_bind ?_))
  show wpAny _ X.A (do let _ ← comprehension (.DictComp kx vx [⟨tg, iter, ifs, 0⟩] scope pos) scope X.env (firstIterPos [⟨tg, iter, ifs, 0⟩] pos) newDict false (eval iter X.env) (some (assign (.Name y py) X.env))) _ _ s
  have h : tDcx X.kk t walk tgt test key val (own.map (·.2)) σ H (fun x Hx => gName i x σ Hx D.nx) := h
  refine wpAny_bind (thn (dcx_core (Qf := fun _ s' => SP X pins D .next s') hu hc hN I hi ok hg ht hk he hs h fun p C s' m H' I' q hn f => ?_) fun _ s' hq => wpAny_pure (wpAny_pure hq))
  show wpAny _ _ (assign (.Name y py) X.env (.ref p)) _ _ _
  refine wpAny_assign_Name (store_ok2 (v := V.ref p) I' hN hy (.inl hyl) rfl (fun s2 I2 ⟨a, sb, ha⟩ => ?_) (.inr hyl))
  obtain ⟨f0, f1, _, f3, f4, f5⟩ := f
  have hne : C ≠ a := ha.elim (fun z => by rw [z]; exact f1) fun z e => f4 y a z e.symm
  exact ⟨m, hn.sameBut sb hne, fun h3 sb3 => ⟨_, H', I2.turned (t' := s2.toks) (fun b o hb e => (sb3.2 b hb).trans e) f0 f1 f3 f4 f5, q⟩⟩⟩
end
section
variable {X : Cx} {evk evv : Env → S → R D} {evt : Env → S → R Bool} {evi : Env → S → R (List D)}
theorem dc_read {u : Bool} {t : Tg} {vs : List Nat} (hsl : ∀ i ∈ t.slots, i ∈ vs) (σ : L2.St) (H : Hp) (Q : VK)
    (h : TEof X.kk (fun env s => (evi env s).bind fun items s => (dcompL u (fun d => t.put d (wipeE env vs)) evt evk evv items [] [] s).bind fun p s => .ok (.dct u p.1 p.2) s) σ H Q) : tDcx X.kk u (TIof X.kk evi) (gT X.kk t) (TTof X.kk evt) (TEof X.kk evk) (TEof X.kk evv) vs σ H Q := by
  obtain ⟨H0, g, env, s, dd, s', eo, ss, hev, hq⟩ := h
  obtain ⟨items, s1, h1, hev2⟩ := R.bind_ok_iff hev
  obtain ⟨pr, s0, hev2, hev3⟩ := R.bind_ok_iff hev2
  cases hev3
  refine ⟨H0, g, env, s, items, s1, eo, ss, h1, fun g1 H1 J e1 ss1 wd => fun A hA => ?_⟩
  have eo1 := eo.ext e1
  let Pv : Nat → Hp → Prop := fun i H2 => ∃ g2 s2 ho ks ws kv w2, Ext X.kk g1 H1 g2 H2 ∧ SimS X.kk g2 s2 H2 ∧ H2 A = some ho ∧ A ∉ g2.io ∧ ¬ g2.Z A ∧ Reps X.kk g2 H2 ks kv ∧ Reps X.kk g2 H2 ws w2 ∧ DH X.w A ks kv w2 ho u ∧
    dcompL u (fun d => t.put d (wipeE env vs)) evt evk evv (items.drop i) ks ws s2 = .ok pr s'
  have hnil : DH X.w A [] [] [] (nilO X.w A u) u := by
    cases u with
    | true => exact ⟨[], rfl, rfl, (fun x hx => nomatch hx), rfl, rfl⟩
    | false => exact ⟨[], rfl, rfl, rfl⟩
  refine ⟨fun i m H2 => m = items.length - i ∧ i ≤ items.length ∧ Pv i H2, ⟨items.length, by simp, Nat.zero_le _, g1, s1, _, [], [], [], [], Ext.new hA, ss1.new hA, upd_same, ss1.fresh_io hA, ss1.fresh_z hA, rfl, rfl, hnil, by simpa using hev2⟩, ?_⟩
  rintro i m H2 ⟨rfl, hi, g2, s2, ho, ks, ws, kv, w2, x2, ss2, hA2, io2, z2, rk2, rv2, dh2, c2⟩
  have nt := dh2.nt
  by_cases hlt : i < items.length
  · refine .inr ⟨wd.go i g2 H2 x2.toKp hlt, fun H' => Pv (i + 1) H', fun H' p' => ⟨items.length - (i + 1), by omega, rfl, hlt, p'⟩, fun x H3 y => ?_⟩
    have hd := List.getElem?_eq_getElem hlt
    obtain ⟨hH, rx⟩ := wd.yld i g2 H2 x H3 _ x2.toKp hd y
    rw [List.drop_eq_getElem_cons hlt] at c2
    have step : Ext X.kk g2 H2 g2 H3 ∧ SimS X.kk g2 s2 H3 ∧ H3 A = some ho := by
      rcases hH with rfl | ⟨p, o, hp, rfl⟩
      · exact ⟨Ext.refl, ss2, hA2⟩
      · exact ⟨Ext.new hp, ss2.new hp, by rw [upd_ne (ne_of_none hA2 hp)]; exact hA2⟩
    obtain ⟨x3, ss3, hA3⟩ := step
    have eo3 : EnvOk X.kk g2 H3 H0 (wipeE env vs) (wipe σ vs) := (eo1.ext (x2.trans x3)).wipe vs
    unfold dcompL at c2
    split at c2
    · cases c2
    · rename_i env4 hput
      refine tg_ok t _ x _ env4 _ _ hput eo3 rx fun σ4 eo4 w4 => ?_
      refine ⟨by rw [w4 vs hsl]; exact wipe_idem σ vs, ?_⟩
      obtain ⟨b, s5, h5, c5⟩ := R.bind_ok_iff c2
      refine ⟨H0, g2, env4, s2, b, s5, eo4, ss3, h5, fun g5 H5 x5 ss5 => ?_⟩
      have keepA : ∀ {g6 H6}, Ext X.kk g2 H3 g6 H6 → H6 A = some ho ∧ A ∉ g6.io ∧ ¬ g6.Z A := fun x6 =>
        ⟨x6.keep A _ hA3 io2, fun q => (x6.ioN A q).elim io2 fun z => (by rw [z] at hA3; cases hA3), fun q => (x6.zN A q).elim z2 fun z => (by rw [z] at hA3; cases hA3)⟩
      cases b with
      | false =>
        simp only [Bool.false_eq_true, if_false] at c5 ⊢
        obtain ⟨a1, a2, a3⟩ := keepA x5
        exact ⟨g5, s5, ho, ks, ws, kv, w2, (x2.trans x3).trans x5, ss5, a1, a2, a3, Reps.ext (x3.trans x5) _ _ rk2, Reps.ext (x3.trans x5) _ _ rv2, dh2, c5⟩
      | true =>
        simp only [if_true] at c5 ⊢
        obtain ⟨z, s6, h6, c6⟩ := R.bind_ok_iff c5
        obtain ⟨z2', s7, h7, c7⟩ := R.bind_ok_iff c6
        split at c7
        · rename_i hok
          simp only [Bool.and_eq_true, decide_eq_true_eq] at hok
          refine ⟨H0, g5, env4, s5, z, s6, eo4.ext x5, ss5, h6, fun g6 H6 v x6 ss6 r6 => ?_⟩
          refine ⟨H0, g6, env4, s6, z2', s7, (eo4.ext x5).ext x6, ss6, h7, fun g7 H7 v2 x7 ss7 r7 => ?_⟩
          obtain ⟨a1, a2, a3⟩ := keepA ((x5.trans x6).trans x7)
          have xx := ((x3.trans x5).trans x6).trans x7
          refine ⟨g7, ks, ws, kv, w2, z, z2', ho, a1, Reps.ext xx _ _ rk2, Reps.ext xx _ _ rv2, dh2, hok.1, Rep.ext x7 _ _ r6, r7, hok.2, fun ho' kv' w2' b1 b2 b3 => ?_⟩
          exact ⟨g7, s7, ho', _, _, kv', w2', ((((x2.trans x3).trans x5).trans x6).trans x7).write hA a3 a1 nt, ss7.write a2 a3 a1 nt, upd_same, a2, a3, Reps.kp (Kp.write a3 a1 nt) _ _ b1, Reps.kp (Kp.write a3 a1 nt) _ _ b2, b3, c7⟩
        · cases c7
  · have e : i = items.length := by omega
    subst e
    refine .inl ⟨wd.stop g2 H2 x2.toKp, ?_⟩
    rw [List.drop_length] at c2
    cases c2
    exact hq (g2.frz A) H2 _ ((e1.trans x2).frz (e1.live A hA)) (ss2.frz' io2 (by rw [hA2]; simp)) ⟨A, ho, kv, w2, rfl, .inr rfl, hA2, Reps.kp (Kp.frz A) _ _ rk2, Reps.kp (Kp.frz A) _ _ rv2, dh2⟩
end
end Fw
namespace Fw
open PySem PySem.Spec PyProof.Rows L2
/-! ## plain objects: attributes read, objects made, methods called; list(d.values()) -/
def baseOk : Expr → Bool
  | .Name .. => true
  | .Subscript .. => true
  | .Attribute .. => true
  | .DictComp .. => true
  | .Constant .. => true
  | .Call _ (_ :: _) _ _ => true
  | _ => false
theorem baseOk_ok {e : Expr} {f : Str} {env : PySem.Env} (h : baseOk e = true) : attributeBase e f env (eval e env) = eval e env := by
  cases e with
  | Call a b c d =>
    cases b with
    | nil => cases h
    | cons b bs => cases a <;> rfl
  | _ => first | rfl | cases h
theorem look_rep {K : KK} {g : Gh} {H : Hp} {f : Str} {d : D} : ∀ {xs : List (Str × V)} {fs : List D}, Reps K g H fs (xs.map (·.2)) → lookD (xs.map (·.1)) fs f = some d → ∃ v, xs.lookup f = some v ∧ Rep K g H d v
  | [], fs, r, h => by cases fs <;> simp [lookD] at h
  | (n, v) :: xs, [], r, h => by simp [lookD] at h
  | (n, v) :: xs, e :: fs, r, h => by
    obtain ⟨v', r', e1, h1, h2⟩ := r
    cases e1
    simp only [List.map_cons, lookD] at h
    by_cases q : n = f
    · subst q
      rw [if_pos rfl] at h
      cases h
      exact ⟨v, by simp [List.lookup], h1⟩
    · rw [if_neg q] at h
      obtain ⟨w, q1, q2⟩ := look_rep h2 h
      refine ⟨w, ?_, q2⟩
      have : (f == n) = false := by simpa using fun z => q z.symm
      simp [List.lookup, this, q1]
theorem look_mem {f : Str} {d : D} : ∀ {ns : List Str} {fs : List D}, lookD ns fs f = some d → f ∈ ns
  | [], fs, h => by cases fs <;> simp [lookD] at h
  | n :: ns, [], h => by simp [lookD] at h
  | n :: ns, e :: fs, h => by
    simp only [lookD] at h
    by_cases q : n = f
    · subst q; simp
    · rw [if_neg q] at h
      exact List.mem_cons_of_mem _ (look_mem h)
theorem lookup_none {m : Str} : ∀ {xs : List (Str × V)}, m ∉ xs.map (·.1) → xs.lookup m = none
  | [], _ => rfl
  | (n, v) :: xs, h => by
    simp only [List.map_cons, List.mem_cons, not_or] at h
    have : (m == n) = false := by simpa using h.1
    simp only [List.lookup, this]
    exact lookup_none h.2
section
variable {X : Cx} {e a b c : Expr} {pos p : Pos} {x : Str} {ev eva evb evc : Env → S → R D} {eves : Env → S → R (List D)}
theorem d_att {f : Str} (ha : PE X a (TEof X.kk eva)) (hb : baseOk a = true) : PE X (.Attribute a f pos) (TEof X.kk fun env s => (eva env s).bind fun x s => lift (attD x f) s) :=
  (pe_fld ha (baseOk_ok hb)).imp fun σ H Q ⟨H0, g, env, s, d, s', eo, ss, hev, hq⟩ => by
    obtain ⟨y, s1, h1, hev⟩ := R.bind_ok_iff hev
    obtain ⟨h3, rfl⟩ := lift_ok hev
    refine ⟨H0, g, env, s, y, _, eo, ss, h1, fun g1 H1 v e1 ss1 r1 => ?_⟩
    cases y with
    | ins c ns fs =>
      obtain ⟨a, C, dx, xs, rfl, q2, q3, q4, q5, rfl, ys, rfl, q8⟩ := r1
      obtain ⟨w, l1, l2⟩ := look_rep q8 h3
      exact ⟨a, C, dx, xs, w, rfl, q3, q4.cl, q5 f (look_mem h3), l1, (hq.ext e1).here ss1 l2⟩
    | _ => cases h3
/-! methods -/
theorem d_meth {pg : Pg} {k k' f : Nat} {ad C : Addr} {fd : FuncData} {ps : List Str} {cn m : Str} {apos : Pos} (F : FnG X.prog X.w X.kk X.mg X.base k' ad fd ps (spD X.kk pg k f)) (hr : Room k' X.A) (hgd : X.A.guards = some []) (hC : PySem.W.nsIn X.kk mainGlobals cn = some (some (.ref C)))
    (hm : Meth X.K C m ad) (hb : Binds X.kk fd ps []) (ha : PE X a (TEof X.kk eva)) (hbs : baseOk a = true) (hline : (apos.endLine == pos.line) = true) :
    PE X (.Call (.Attribute a m apos) [] [] pos) (TEof X.kk fun env s => (eva env s).bind fun x s => if isInsD cn m x then callN pg k f [x] s else .no) := by
  refine ⟨fun pins s σ H Q I ⟨H0, g, env, s0, d, s', eo, ss, hev, hq⟩ => ?_⟩
  obtain ⟨y, s1, h1, hev⟩ := R.bind_ok_iff hev
  cases hi : isInsD cn m y with
  | false => rw [hi] at hev; cases hev
  | true =>
    rw [hi] at hev
    simp only [if_true] at hev
    cases y with
    | ins c ns fs =>
      simp only [isInsD, Bool.and_eq_true, decide_eq_true_eq, Bool.not_eq_true', decide_eq_false_iff_not] at hi
      obtain ⟨rfl, hi2⟩ := hi
      rw [arm_eval_Call, baseOk_ok hbs]
      refine wpAny_bind (wpAny_mono (ha.run pins s σ H (fun v H' => ∃ a dx xs, v = .ref a ∧ H' a = some (.ins C dx xs) ∧ Cls X.K C ∧ xs.lookup m = none ∧ spD X.kk pg k f [v] H' Q E0) I ⟨H0, g, env, s0, _, s1, eo, ss, h1, fun g1 H1 v e1 ss1 r1 => ?_⟩) (fun u t1 ⟨v, H2, I2, rv, a1, dx, xs, ev, e2, cl, hl, hsp⟩ => ?_) fun _ _ z => z)
      · have r2 := r1
        obtain ⟨a, C', dx, xs, rfl, q2, q3, q4, q5, q6, ys, q7, q8⟩ := r1
        have : C' = C := by
          have z := q4.at_
          rw [hC] at z
          cases z; rfl
        subst this
        subst q6
        exact ⟨a, dx, xs, rfl, q3, q4.cl, lookup_none hi2, g1, s1, _, Reps.one r2, ss1, by rw [hev]; exact hq.ext e1⟩
      · subst ev
        obtain rfl : u = Value.ref a1 := rv
        refine wpAny_bind (wpAny_standAt ?_)
        have hform : methodCallForm (([] : List Expr).length + ([] : List Keyword).length) (backTo pos (starEach [] X.env)) (backToKw pos (keywordEach [] X.env)) = true := rfl
        have hpos : methodCallPos true a X.env apos pos = pure pos := by unfold methodCallPos; simp [hline]
        unfold methodCall
        rw [hform]
        refine wpAny_bind (wpAny_holding (getmeth_ok I2 e2 cl hm hl ?_))
        refine wpAny_bind (wpAny_of_eq hpos ?_)
        exact PySem.W.callWith_K0 (first := [.ref a1]) I2.kIn hm.kp (run_g (us := [.ref a1]) (vs := [.ref a1]) F hr hgd hb I2 (.cons rfl .nil) hsp)
    | _ => cases hi
/-! list(d.values()) -/
theorem pl_vals : ∀ {L : KL} {xs : List (NestedKey × Addr × Value)}, PL L xs → Vals (L.map fun x => x.2.2) (xs.map fun x => x.2.2) := by
  intro L xs p
  induction p with
  | nil => exact .nil
  | @cons p q ps qs h t ih => exact .cons h.2.2 ih
theorem df_vals {apos mpos : Pos} (hc : X.calm = true) (hg : Gl X "list") (hm : X.mg "list" = none) (ha : PE X a (TWof X.kk eva)) (hbs : baseOk a = true) (hline : (apos.endLine == mpos.line) = true) :
    PE X (.Call (.Name "list" p) [.Call (.Attribute a "values" apos) [] [] mpos] [] pos) (TFof X.kk fun env s => (eva env s).bind fun x s => lift x.valued s) := by
  refine ⟨fun pins s σ H Q I ⟨H0, g, env, s0, ds, s', eo, ss, hev, hq⟩ => ?_⟩
  obtain ⟨y, s1, h1, hev⟩ := R.bind_ok_iff hev
  obtain ⟨h3, rfl⟩ := lift_ok hev
  cases y with
  | dct t ks vs =>
    obtain ⟨q1, q2⟩ := guardB_some h3
    rw [Bool.and_eq_true] at q1
    obtain ⟨rfl, q1⟩ := q1
    cases q2
    refine wpAny_Call_Name_kw (ld_blt I hg hm (u := .type "list") (by first | rfl | decide +kernel) ?_ (by first | decide +kernel | decide) (by first | decide +kernel | decide))
    refine PySem.callWith_type1 (wpAny_Call_method0_late (baseOk_ok hbs) hline (thn (ha.run pins s σ H (fun v H' => ∃ a L g', v = .ref a ∧ H' a = some (dtO X.w a L) ∧ Ext X.kk g H g' H' ∧ SimS X.kk g' s' H' ∧ Reps X.kk g' H' ds (L.map fun x => x.2.2)) I ⟨H0, g, env, s0, _, s', eo, ss, h1, fun g1 H1 v e1 ss1 r1 => ?_⟩) fun v s2 ⟨x, H1, I1, r1, ad, L, g1, ex, ha, e1, ss1, rv⟩ => ?_))
    · obtain ⟨ad, ho, kv, w2, rfl, e2, e3, e4, L, rfl, e5, e6, rfl, rfl⟩ := r1.dic
      exact ⟨ad, L, g1, rfl, e2, e1, ss1, e4⟩
    · subst ex
      obtain rfl : v = Value.ref ad := r1
      obtain ⟨⟨z, y, xs, r, o, es, ep, h1, h2, h3, h4, h5⟩, _⟩ := (show ObjOk X.prog X.w H1 s2.heap ad (dtO X.w ad L) from I1.hok ad _ ha)
      have hsz : es.size = L.length := by rw [r.length, ← Array.length_toList, h4, List.length_map]
      have raw : s2.heap.DictRaw ad es ep := ⟨o, h1, h2, h3⟩
      refine ⟨"dict", "dict.values", F.plainAttrs_dict, F.slot_dict_values, F.type_dict_values, ⟨o, h1, h2.1⟩, fun b e => ?_, Calls.callWith_builtin rfl (PySem.evalArgs_none ?_)⟩
      · cases e
        exact ⟨o, h1, h2.2.1⟩
      refine call_meetsIn F.slot_dict_values ⟨o, h1, h2.1⟩ F.entry_dict_values (F.args_dict_values_1 _) (meets_dict_values_raw ad y) ⟨⟨es, ep, raw⟩, ?_⟩
      have I2 : Inv X pins σ H1 { s2 with heap := s2.heap.push { cls := .type "dict_values", data := .fields #[.ref ad] } } := I1.kept (t' := s2.toks) fun b ob q => Heap.get?_push_of_some _ q
      refine PySem.W.kdl_call (KdlSrc.rawValues (r := s2.heap.objs.size) (es := es) (ep := ep)) (I.ok.hd hc) ⟨⟨_, Heap.get?_push_size _ rfl, rfl, rfl⟩, raw.push _⟩ (by rw [hsz]; exact z) fun h' tk acc c' hk hD hacc => ?_
      have hv : acc.toList = xs.map fun x => x.2.2 := by
        refine List.ext_getElem? fun j => ?_
        have hl : acc.toList.length = xs.length := by rw [Array.length_toList, hacc.1, hsz, r.length]
        by_cases hj : j < xs.length
        · have hja : j < acc.size := by rw [← Array.length_toList, hl]; exact hj
          obtain ⟨hi, e⟩ := hacc.2 j acc[j] (by rw [Array.getElem?_eq_getElem hja])
          have e2 : es[j].val = (xs[j]).2.2 := by
            have e3 : es.toList[j]? = some es[j] := by rw [Array.getElem?_toList, Array.getElem?_eq_getElem hi]
            rw [h4, List.getElem?_map, List.getElem?_eq_getElem hj] at e3
            rw [← Option.some.inj e3]
          rw [Array.getElem?_toList, Array.getElem?_eq_getElem hja, e, e2, List.getElem?_map, List.getElem?_eq_getElem hj]
          rfl
        · rw [List.getElem?_eq_none (by rw [hl]; omega), List.getElem?_eq_none (by rw [List.length_map]; omega)]
      have hp : H1 (s2.heap.push { cls := .type "dict_values", data := .fields #[.ref ad] }).objs.size = none := I2.hok.fresh (Nat.le_refl _)
      refine ⟨.ref _, upd H1 _ (.lst (L.map fun x => x.2.2)), I2.laid (t' := tk) hk (Nat.le_refl _)
        (show ObjOk X.prog X.w _ _ _ (.lst (L.map fun x => x.2.2)) from ⟨by rw [List.length_map]; exact z, acc.toList, c', by rw [hv]; exact pl_vals r, by rw [Array.toArray_toList]; exact hD⟩), rfl, ?_⟩
      exact hq.mk e1 ss1 hp rv (line_lim (of_decide_eq_true q1))
  | _ => cases h3
end
end Fw
namespace Fw
open PySem PySem.Spec PyProof.Rows L2
/-! ## own errors of one field: made, raised, caught -/
def scB (N ps : List Str) (sc : Scope) : Bool := decide (sc.kind = .function) && !sc.isCoroutine && !sc.isGenerator && decide N.Nodup && decide (N.take ps.length = ps) && ps.all (fun x => decide (sc.names.lookup x = some .local) || decide (sc.names.lookup x = some .cell)) && sc.names.all fun y => decide (y.2 ≠ .free)
theorem scB_ok {N ps : List Str} {sc : Scope} (h : scB N ps sc = true) : FnScope N ps sc := by
  unfold scB at h
  simp only [Bool.and_eq_true, decide_eq_true_eq, Bool.not_eq_true', List.all_eq_true, Bool.or_eq_true] at h
  obtain ⟨⟨⟨⟨⟨⟨h1, h2⟩, h3⟩, h4⟩, h5⟩, h6⟩, h7⟩ := h
  exact ⟨h1, h2, h3, h4, h5, h6, h7⟩
/-- the def kst_mem its one field -/
def xinB (f s v : Str) (st : Stmt) : Bool := scB [s, v] [s, v] (defScope st) && decide ((defScope st).names.lookup s = some .local) && decide ((defScope st).names.lookup v = some .local) && !(s == ("__debug__" : Str)) && !(s == ("__classdict__" : Str)) && !(v == ("__debug__" : Str)) && !(v == ("__classdict__" : Str)) && match defBody st with
  | [.Assign [.Attribute (.Name s' _) f' _] (.Name v' _) _] => decide (s' = s) && decide (v' = v) && decide (f' = f)
  | _ => false
def spXI (C : Addr) (f : Str) : Sp := fun vs H Q E => ∃ (a : Addr) (v : V), vs = [.ref a, v] ∧ H a = some (exo a C none) ∧ ∀ dx, H dx = none → dx ≠ a → Q .non (upd (upd H dx (exd dx [(f, v)])) a (exo a C (some dx)))
theorem xin_ok {P : Program} {w : World} {K : PySem.W.Frag} {mg : Str → Option Value} {base : Heap} {C fI : Addr} {fd : FuncData} {nm qual f s v : Str} {st : Stmt} {kws : List (Str × V)} (F : FunD K nm qual (defArgs st) (defBody st) (defScope st) [] kws fI fd) (T : OexC K C) (hno : PySem.W.findIn K (.ref C) f = some none)
    (h : xinB f s v st = true) : FnOk P w K mg base CX0 1 fI fd [s, v] (spXI C f) := by
  unfold xinB at h
  simp only [Bool.and_eq_true, decide_eq_true_eq, Bool.not_eq_true'] at h
  obtain ⟨⟨⟨⟨⟨⟨⟨h1, h2⟩, h3⟩, h4⟩, h5⟩, h6⟩, h7⟩, h8⟩ := h
  have sc := scB_ok h1
  refine F.ok (k := 0) sc (fun vs H Q E ⟨a, x, e, _⟩ => by rw [e]; rfl) fun cdv A outer s0 H vs Q E hr ⟨a, x, e, ha, q⟩ => ?_
  subst e
  generalize hb : defBody st = bo at h8
  split at h8
  · rename_i s' p1 f' p2 v' p3 p4
    simp only [Bool.and_eq_true, decide_eq_true_eq] at h8
    obtain ⟨⟨rfl, rfl⟩, rfl⟩ := h8
    refine ⟨_, pss_one (ps_ost (pe_var (i := 0) rfl (.inl h2) h4 h5) (pe_var (i := 1) rfl (.inl h3) h6 h7)), ?_⟩
    exact ⟨x, rfl, .ref a, rfl, a, C, rfl, T, hno, .inl ⟨ha, fun dx n ne => q dx n ne⟩⟩
  · cases h8
/-- what is told of an error class of one field -/
structure ExcOk (K : PySem.W.Frag) (mg : Str → Option Value) (cn f : Str) : Prop where
  ex : ∃ (C fI : Addr) (fd : FuncData) (qual s v : Str) (st : Stmt), PySem.W.nsIn K mainGlobals cn = some (some (.ref C)) ∧ mg cn = some (.ref C) ∧ OexC K C ∧ XfC K C ∧ PySem.W.findIn K (.ref C) f = some none ∧ PySem.W.findIn K (.ref C) "__init__" = some (some (.ref fI)) ∧
    PySem.W.typeIn K (.ref fI) = some (.type "function") ∧ FunD K "__init__" qual (defArgs st) (defBody st) (defScope st) [] [] fI fd ∧ xinB f s v st = true ∧ Binds K fd [s, v] []
/-- which classes a clause takes -/
def XmOk (K : PySem.W.Frag) (mg : Str → Option Value) (hc : Str) (xm : Str → Option Bool) : Prop := ∀ cn b, xm cn = some b → ∃ C1 C2, PySem.W.nsIn K mainGlobals cn = some (some (.ref C1)) ∧ mg hc = some (.ref C2) ∧ PySem.W.exmOne K (.ref C1) (.ref C2) = some b
end Fw
namespace Fw
open PySem PySem.Spec PyProof.Rows L2
/-! ## list(zip(a, b)) of two tuples -/
section
variable {prog : Program} {w : World} {A : Around} {E : Value → Shared → Prop} {s : Shared}
theorem zt_item_held {z TI TO T i1 i2 l1 l2 : Addr} {f : Bool} {oT : Obj} {k1 k2 : Nat} {xs ys : Array Value} {x y : Value} {Q : Value → Shared → Prop} (D : ZipApart z TI TO i1 i2 l1 l2)
    (hz : IsZipHeld s.heap z TI TO T f) (hT : s.heap.get? T = some oT) (hTI : IsPair s.heap TI (.ref i1) (.ref i2))
    (h1 : s.heap.IsTupleIter i1 l1 k1) (h2 : s.heap.IsTupleIter i2 l2 k2) (hl1 : s.heap.IsTuple l1 xs) (hl2 : s.heap.IsTuple l2 ys) (hx : xs[k1]? = some x) (hy : ys[k2]? = some y)
    (hQ : ∀ h', IsZipHeld h' z TI TO T true → h'.IsTupleIter i1 l1 (k1 + 1) → h'.IsTupleIter i2 l2 (k2 + 1) → IsPair h' s.heap.objs.size x y → h'.objs.size = s.heap.objs.size + 1 →
      (∀ c o, c ≠ z → c ≠ i1 → c ≠ i2 → s.heap.get? c = some o → h'.get? c = some o) → Q (.ref s.heap.objs.size) { s with heap := h' }) :
    wpAny (model prog w) A (Builtin.«zip.__next__» ⟨[.ref z], []⟩) (fun fin s' => ∃ v, fin = .done (.ret v) ∧ Q v s') E s := by
  show wpAny _ _ (field (.ref z) 2 >>= _) _ _ _
  refine wpAny_bind (wpAny_field hz rfl (x := .bool false) rfl ?_)
  show wpAny _ _ (field (.ref z) 3 >>= _) _ _ _
  refine wpAny_bind (wpAny_field hz rfl (x := .ref TI) rfl ?_)
  refine wpAny_bind (wpAny_seqItems hTI rfl ?_)
  show wpAny _ _ (Builtin.SmallTypes.ownedTupleIsFree (.ref z) >>= _) _ _ _
  refine wpAny_bind (wpAny_tupleHeld_zip hz hT fun h₁ hz₁ hs₁ => ?_)
  simp only [Bool.false_eq_true, if_false]
  refine wpAny_bind ?_
  rw [← Array.forIn_toList]
  simp only [List.forIn_cons, List.forIn_nil]
  refine wpAny_bind (wpAny_bind (wpAny_holding ?_))
  show wpAny _ _ (Builtin.SmallTypes.nextOf (.ref i1) >>= _) _ _ _
  refine wpAny_bind (RZ.nextOf_tuple_item (s := { s with heap := h₁ }) (h1.extBut hs₁.extBut D.i1z) (hl1.extBut hs₁.extBut D.l1z) hx fun h₂ h1₂ hs₂ => wpAny_pure ?_)
  refine wpAny_pure ?_
  refine wpAny_bind (wpAny_bind (wpAny_holding ?_))
  show wpAny _ _ (Builtin.SmallTypes.nextOf (.ref i2) >>= _) _ _ _
  refine wpAny_bind (RZ.nextOf_tuple_item (s := { s with heap := h₂ }) ((h2.extBut hs₁.extBut D.i2z).extBut hs₂.extBut D.i12.symm) ((hl2.extBut hs₁.extBut D.l2z).extBut hs₂.extBut D.l2i1) hy fun h₃ h2₃ hs₃ => wpAny_pure ?_)
  refine wpAny_pure (wpAny_pure ?_)
  show wpAny _ _ (newTuple [x, y] >>= _) _ _ _
  refine wpAny_bind (wpAny_newTuple ?_)
  have hsz : h₃.objs.size = s.heap.objs.size := by rw [hs₃.1, hs₂.1, hs₁.1]
  have hz₃ : IsZipHeld h₃ z TI TO T true := hs₃.extBut _ _ D.i2z.symm (hs₂.extBut _ _ D.i1z.symm hz₁)
  have hk : ∀ c o, c ≠ z → c ≠ i1 → c ≠ i2 → s.heap.get? c = some o → h₃.get? c = some o := fun c o c1 c2 c3 e => hs₃.extBut _ _ c3 (hs₂.extBut _ _ c2 (hs₁.extBut _ _ c1 e))
  have h1₃ : h₃.IsTupleIter i1 l1 (k1 + 1) := h1₂.extBut hs₃.extBut D.i12
  refine wpAny_pure ⟨_, rfl, ?_⟩
  show Q (.ref h₃.objs.size) _
  have hp : IsPair (h₃.push { cls := .type "tuple", data := .seq #[x, y] }) h₃.objs.size x y := Heap.get?_push_size _ rfl
  have hz4 : (h₃.push { cls := .type "tuple", data := .seq #[x, y] }).objs.size = h₃.objs.size + 1 := Heap.size_push ..
  rw [hsz] at hp hz4 ⊢
  exact hQ _ (Heap.get?_push_of_some _ hz₃) (h1₃.at fun o e => Heap.get?_push_of_some _ e) (h2₃.at fun o e => Heap.get?_push_of_some _ e) hp hz4 fun c o c1 c2 c3 e => Heap.get?_push_of_some _ (hk c o c1 c2 c3 e)
theorem zt_end_held {z TI TO T i1 i2 l1 l2 : Addr} {f : Bool} {oT : Obj} {k1 k2 : Nat} {xs ys : Array Value} {Q : Fin → Shared → Prop} (hh : A.handled = none) (D : ZipApart z TI TO i1 i2 l1 l2)
    (hz : IsZipHeld s.heap z TI TO T f) (hT : s.heap.get? T = some oT) (hTI : IsPair s.heap TI (.ref i1) (.ref i2))
    (h1 : s.heap.IsTupleIter i1 l1 k1) (h2 : s.heap.IsTupleIter i2 l2 k2) (hl1 : s.heap.IsTuple l1 xs) (hl2 : s.heap.IsTuple l2 ys) (hend : xs[k1]? = none ∨ ys[k2]? = none)
    (hE : ∀ h' e, (∀ c o, c ≠ z → c ≠ i1 → c ≠ i2 → s.heap.get? c = some o → h'.get? c = some o) → (∃ o, h'.get? e = some o ∧ o.cls = .type "StopIteration") → E (.ref e) { s with heap := h' }) :
    wpAny (model prog w) A (Builtin.«zip.__next__» ⟨[.ref z], []⟩) Q E s := by
  show wpAny _ _ (field (.ref z) 2 >>= _) _ _ _
  refine wpAny_bind (wpAny_field hz rfl (x := .bool false) rfl ?_)
  show wpAny _ _ (field (.ref z) 3 >>= _) _ _ _
  refine wpAny_bind (wpAny_field hz rfl (x := .ref TI) rfl ?_)
  refine wpAny_bind (wpAny_seqItems hTI rfl ?_)
  show wpAny _ _ (Builtin.SmallTypes.ownedTupleIsFree (.ref z) >>= _) _ _ _
  refine wpAny_bind (wpAny_tupleHeld_zip hz hT fun h₁ hz₁ hs₁ => ?_)
  simp only [Bool.false_eq_true, if_false]
  refine wpAny_bind ?_
  rw [← Array.forIn_toList]
  simp only [List.forIn_cons, List.forIn_nil]
  refine wpAny_bind (wpAny_bind (wpAny_holding ?_))
  show wpAny _ _ (Builtin.SmallTypes.nextOf (.ref i1) >>= _) _ _ _
  cases hx : xs[k1]? with
  | none =>
    refine wpAny_bind (RZ.nextOf_tuple_end (s := { s with heap := h₁ }) hh (h1.extBut hs₁.extBut D.i1z) (hl1.extBut hs₁.extBut D.l1z) hx fun h₂ e hs₂ he => ?_)
    exact hE h₂ e (fun c o c1 c2 _ x => hs₂ _ _ c2 (hs₁.extBut _ _ c1 x)) he
  | some x =>
    have hy : ys[k2]? = none := by rcases hend with h | h; rw [hx] at h; cases h; exact h
    refine wpAny_bind (RZ.nextOf_tuple_item (s := { s with heap := h₁ }) (h1.extBut hs₁.extBut D.i1z) (hl1.extBut hs₁.extBut D.l1z) hx fun h₂ h1₂ hs₂ => wpAny_pure ?_)
    refine wpAny_pure ?_
    refine wpAny_bind (wpAny_bind (wpAny_holding ?_))
    show wpAny _ _ (Builtin.SmallTypes.nextOf (.ref i2) >>= _) _ _ _
    refine wpAny_bind (RZ.nextOf_tuple_end (s := { s with heap := h₂ }) hh ((h2.extBut hs₁.extBut D.i2z).extBut hs₂.extBut D.i12.symm) ((hl2.extBut hs₁.extBut D.l2z).extBut hs₂.extBut D.l2i1) hy fun h₃ e hs₃ he => ?_)
    exact hE h₃ e (fun c o c1 c2 c3 x => hs₃ _ _ c3 (hs₂.extBut _ _ c2 (hs₁.extBut _ _ c1 x))) he
/-- a zip of two tuples, i pairs given out -/
structure ZS (z TI TO i1 i2 l1 l2 : Addr) (xs ys : Array Value) (i : Nat) (h : Heap) : Prop where
  own : (IsZip h z TI TO .none ∧ ∃ a b, IsPair h TO a b) ∨ ∃ T f oT, IsZipHeld h z TI TO T f ∧ h.get? T = some oT
  pti : IsPair h TI (.ref i1) (.ref i2)
  it1 : h.IsTupleIter i1 l1 i
  it2 : h.IsTupleIter i2 l2 i
  tp1 : h.IsTuple l1 xs
  tp2 : h.IsTuple l2 ys
variable {z TI TO i1 i2 l1 l2 : Addr} {xs ys : Array Value} {i : Nat}
theorem zs_item {x y : Value} {Q : Option Value → Shared → Prop} (D : ZipApart z TI TO i1 i2 l1 l2) (st : ZS z TI TO i1 i2 l1 l2 xs ys i s.heap) (hx : xs[i]? = some x) (hy : ys[i]? = some y)
    (hQ : ∀ h', ZS z TI TO i1 i2 l1 l2 xs ys (i + 1) h' → IsPair h' s.heap.objs.size x y → h'.objs.size = s.heap.objs.size + 1 → (∀ c o, c ≠ z → c ≠ TO → c ≠ i1 → c ≠ i2 → s.heap.get? c = some o → h'.get? c = some o) → Q (some (.ref s.heap.objs.size)) { s with heap := h' }) :
    wpAny (model prog w) A (pyNext (.ref z)) Q E s := by
  have tk : ∀ {l : Addr} {vs : Array Value} {h' : Heap}, l ≠ z → l ≠ TO → l ≠ i1 → l ≠ i2 → (∀ c o, c ≠ z → c ≠ TO → c ≠ i1 → c ≠ i2 → s.heap.get? c = some o → h'.get? c = some o) → s.heap.IsTuple l vs → h'.IsTuple l vs := fun a b c d k ⟨o, e, r⟩ => ⟨o, k _ _ a b c d e, r⟩
  rcases st.own with ⟨hz, a, b, hTO⟩ | ⟨T, f, oT, hz, hT⟩
  · exact RZ.pyNext_zipT_item D hz st.pti hTO st.it1 st.it2 st.tp1 st.tp2 hx hy fun h' a1 a2 a3 a4 a5 a6 a7 =>
      hQ h' ⟨.inr ⟨_, false, _, a1, a5⟩, a7 _ _ D.TIz D.TITO D.TIi1 D.TIi2 st.pti, a3, a4, tk D.l1z D.l1TO D.l1i1 D.l1i2 a7 st.tp1, tk D.l2z D.l2TO D.l2i1 D.l2i2 a7 st.tp2⟩ a5 a6 a7
  · have hTy : s.TypeIs (.ref z) "zip" := ⟨_, hz, rfl⟩
    unfold pyNext
    refine wpAny_bind (wpAny_attempt (wpAny_callSpecial?_slot (name := Str.ofString "__next__") hTy F.slot_zip_next
      (wpAny_call_entry F.slot_zip_next hTy F.entry_zip_next
        (zt_item_held D hz hT st.pti st.it1 st.it2 st.tp1 st.tp2 hx hy fun h' a1 a3 a4 a5 a6 a7 => wpAny_pure ?_) (F.args_zip_next_1 _))))
    have a8 : ∀ c o, c ≠ z → c ≠ TO → c ≠ i1 → c ≠ i2 → s.heap.get? c = some o → h'.get? c = some o := fun c o b1 _ b3 b4 e => a7 c o b1 b3 b4 e
    have hT' : ∃ o, h'.get? T = some o := by
      by_cases b1 : T = z
      · rw [b1]; exact ⟨_, a1⟩
      by_cases b2 : T = i1
      · obtain ⟨o, e, _⟩ := a3; rw [b2]; exact ⟨o, e⟩
      by_cases b3 : T = i2
      · obtain ⟨o, e, _⟩ := a4; rw [b3]; exact ⟨o, e⟩
      · exact ⟨_, a7 _ _ b1 b2 b3 hT⟩
    obtain ⟨oT', hT'⟩ := hT'
    exact hQ h' ⟨.inr ⟨T, true, _, a1, hT'⟩, a8 _ _ D.TIz D.TITO D.TIi1 D.TIi2 st.pti, a3, a4, tk D.l1z D.l1TO D.l1i1 D.l1i2 a8 st.tp1, tk D.l2z D.l2TO D.l2i1 D.l2i2 a8 st.tp2⟩ a5 a6 a8
theorem zs_end {Q : Option Value → Shared → Prop} (hh : A.handled = none) (D : ZipApart z TI TO i1 i2 l1 l2) (st : ZS z TI TO i1 i2 l1 l2 xs ys i s.heap) (hend : xs[i]? = none ∨ ys[i]? = none)
    (hQ : ∀ h', (∀ c o, c ≠ z → c ≠ TO → c ≠ i1 → c ≠ i2 → s.heap.get? c = some o → h'.get? c = some o) → Q none { s with heap := h' }) : wpAny (model prog w) A (pyNext (.ref z)) Q E s := by
  rcases st.own with ⟨hz, a, b, hTO⟩ | ⟨T, f, oT, hz, hT⟩
  · exact RZ.pyNext_zipT_end hh D hz st.pti hTO st.it1 st.it2 st.tp1 st.tp2 hend hQ
  · have hTy : s.TypeIs (.ref z) "zip" := ⟨_, hz, rfl⟩
    unfold pyNext
    refine wpAny_bind (wpAny_attempt (wpAny_callSpecial?_slot (name := Str.ofString "__next__") hTy F.slot_zip_next
      (wpAny_call_entry F.slot_zip_next hTy F.entry_zip_next (zt_end_held hh D hz hT st.pti st.it1 st.it2 st.tp1 st.tp2 hend fun h' e hk he => ?_) (F.args_zip_next_1 _))))
    obtain ⟨o, ho, hc⟩ := he
    refine wpAny_bind (wpAny_isInstance (T := "StopIteration") (b := true) ⟨o, ho, hc⟩ isSubtype_stop ?_)
    exact wpAny_pure (hQ _ fun c o b1 _ b3 b4 e => hk c o b1 b3 b4 e)
theorem ZS.upd {S : Addr} {h h' : Heap} (st : ZS z TI TO i1 i2 l1 l2 xs ys i h) (hS : S ≠ z ∧ S ≠ TI ∧ S ≠ TO ∧ S ≠ i1 ∧ S ≠ i2 ∧ S ≠ l1 ∧ S ≠ l2) (k : ∀ b o, b ≠ S → h.get? b = some o → h'.get? b = some o) (kS : ∃ o, h'.get? S = some o) : ZS z TI TO i1 i2 l1 l2 xs ys i h' := by
  obtain ⟨n1, n2, n3, n4, n5, n6, n7⟩ := hS
  refine ⟨?_, k _ _ n2.symm st.pti, st.it1.at fun o e => k _ o n4.symm e, st.it2.at fun o e => k _ o n5.symm e, ?_, ?_⟩
  · rcases st.own with ⟨hz, a, b, hTO⟩ | ⟨T, f, oT, hz, hT⟩
    · exact .inl ⟨k _ _ n1.symm hz, a, b, k _ _ n3.symm hTO⟩
    · by_cases e : T = S
      · obtain ⟨o, q⟩ := kS
        exact .inr ⟨T, f, o, k _ _ n1.symm hz, by rw [e]; exact q⟩
      · exact .inr ⟨T, f, oT, k _ _ n1.symm hz, k _ _ e hT⟩
  · obtain ⟨o, e, r⟩ := st.tp1; exact ⟨o, k _ _ n6.symm e, r⟩
  · obtain ⟨o, e, r⟩ := st.tp2; exact ⟨o, k _ _ n7.symm e, r⟩
theorem ne_lt {a z B : Nat} (h : z < B) (w : B ≤ a) : a ≠ z := Nat.ne_of_gt (Nat.lt_of_lt_of_le h w)
abbrev LstO (acc : Array Value) (c : Nat) : Obj := { cls := .type "list", dict := none, data := .seq acc c, slots := #[] }
/-- the tuples made -/
structure Made (xs ys : Array Value) (B : Nat) (S : Addr) (as : List Addr) (acc : Array Value) (h : Heap) : Prop where
  eq : acc.toList = as.map Value.ref
  pr : ∀ (j : Nat) a, as[j]? = some a → ∃ x y, xs[j]? = some x ∧ ys[j]? = some y ∧ IsPair h a x y
  ab : ∀ a ∈ as, B ≤ a ∧ a ≠ S ∧ a < h.objs.size
  nd : as.Nodup
theorem zt_loop {R : Result → Shared → Prop} {n B : Nat} {S : Addr} {res : Value} (hh : A.handled = none) (D : ZipApart z TI TO i1 i2 l1 l2) (hS : S ≠ z ∧ S ≠ TI ∧ S ≠ TO ∧ S ≠ i1 ∧ S ≠ i2 ∧ S ≠ l1 ∧ S ≠ l2) (hB : z < B ∧ TO < B ∧ i1 < B ∧ i2 < B) (hn : n ≤ sizeLine) (hx : xs.size = n) (hy : ys.size = n) :
    ∀ (k i : Nat) (s : Shared) (acc : Array Value) (c : Nat) (as : List Addr), n - i = k → i ≤ n → ZS z TI TO i1 i2 l1 l2 xs ys i s.heap → s.heap.get? S = some (LstO acc c) → as.length = i → Made xs ys B S as acc s.heap → B ≤ s.heap.objs.size →
    (∀ h' acc' c' as', (∀ b o, b ≠ S → b ≠ z → b ≠ TO → b ≠ i1 → b ≠ i2 → s.heap.get? b = some o → h'.get? b = some o) → h'.get? S = some (LstO acc' c') → as'.length = n → Made xs ys B S as' acc' h' → R (.ok (.ret res)) { s with heap := h' }) →
    codeAny (model prog w) A (.builtin "list.extend.loop" ⟨[.ref S, .ref z, res], []⟩) R s := by
  intro k
  induction k with
  | zero =>
    intro i s acc c as hk hi st hSo hl hm hb hR
    have hin : i = n := by omega
    refine codeAny_builtin F.entry_extend_loop ?_
    rw [Around.under_plainId F.plain_extend_loop _]
    show wpAny _ A.in1 (pyNext (.ref z) >>= _) _ _ s
    refine wpAny_bind (zs_end (A := A.in1) hh D st (.inl (by simp; omega)) fun h' hkp => ?_)
    have hsz : s.heap.objs.size ≤ h'.objs.size ∨ True := .inr trivial
    refine wpAny_pure (hR h' acc c as (fun b o b1 b2 b3 b4 b5 e => hkp b o b2 b3 b4 b5 e) (hkp _ _ hS.1 hS.2.2.1 hS.2.2.2.1 hS.2.2.2.2.1 hSo) (by omega) ⟨hm.eq, fun j a e => ?_, fun a ha => ?_, hm.nd⟩)
    · obtain ⟨x, y, q1, q2, q3⟩ := hm.pr j a e
      obtain ⟨w1, w2, w3⟩ := hm.ab a (List.mem_of_getElem? e)
      exact ⟨x, y, q1, q2, hkp _ _ (ne_lt hB.1 w1) (ne_lt hB.2.1 w1) (ne_lt hB.2.2.1 w1) (ne_lt hB.2.2.2 w1) q3⟩
    · obtain ⟨w1, w2, w3⟩ := hm.ab a ha
      obtain ⟨j, hj⟩ := List.getElem?_of_mem ha
      obtain ⟨x, y, q1, q2, q3⟩ := hm.pr j a hj
      exact ⟨w1, w2, Heap.lt_size (hkp _ _ (ne_lt hB.1 w1) (ne_lt hB.2.1 w1) (ne_lt hB.2.2.1 w1) (ne_lt hB.2.2.2 w1) q3)⟩
  | succ k ih =>
    intro i s acc c as hk hi st hSo hl hm hb hR
    have hlt : i < n := by omega
    have hal : acc.size = i := by rw [← Array.length_toList, hm.eq, List.length_map, hl]
    refine codeAny_builtin F.entry_extend_loop ?_
    rw [Around.under_plainId F.plain_extend_loop _]
    show wpAny _ A.in1 (pyNext (.ref z) >>= _) _ _ s
    refine wpAny_bind (zs_item D st (Array.getElem?_eq_getElem (by omega)) (Array.getElem?_eq_getElem (by omega)) fun h' st' hp hsz hkp => ?_)
    have hSlt : S < s.heap.objs.size := Heap.lt_size hSo
    have hS' := hkp _ _ hS.1 hS.2.2.1 hS.2.2.2.1 hS.2.2.2.2.1 hSo
    show wpAny _ A.in1 (updateSeq S (·.push (.ref s.heap.objs.size)) >>= _) _ _ _
    have up : ∀ b o, b ≠ S → h'.get? b = some o → (h'.update S (Obj.mapSeq (·.push (.ref s.heap.objs.size)))).get? b = some o := fun b o hb e => (Heap.get?_update_other _ _ (Ne.symm hb)).trans e
    have upS := Heap.get?_update_self (Obj.mapSeq (·.push (.ref s.heap.objs.size))) hS' rfl
    refine wpAny_bind ?_
    refine wpAny_updateSeq hS' rfl (wpAny_pure ⟨plainId_quiet F.plain_extend_loop _, ih (i + 1) { s with heap := h'.update S (Obj.mapSeq (·.push (.ref s.heap.objs.size))) } (acc.push (.ref s.heap.objs.size)) _ (as ++ [s.heap.objs.size]) (by omega) hlt (st'.upd hS up ⟨_, upS⟩) upS (by simp [hl]) ⟨?_, fun j a e => ?_, fun a ha => ?_, ?_⟩ ?_ fun h'' acc' c' as' kp hl1 hl2 hm2 => ?_⟩)
      (by rw [hal]; omega) (by show (acc.push _).size ≤ sizeLine + 1; rw [Array.size_push, hal]; omega)
    · rw [Array.toList_push, hm.eq, List.map_append]; rfl
    · rw [List.getElem?_append] at e
      split at e
      · obtain ⟨x, y, q1, q2, q3⟩ := hm.pr j a e
        obtain ⟨w1, w2, w3⟩ := hm.ab a (List.mem_of_getElem? e)
        exact ⟨x, y, q1, q2, up _ _ w2 (hkp _ _ (ne_lt hB.1 w1) (ne_lt hB.2.1 w1) (ne_lt hB.2.2.1 w1) (ne_lt hB.2.2.2 w1) q3)⟩
      · rename_i hj
        have : j = i := by
          have := List.getElem?_eq_some_iff.mp e
          obtain ⟨q, _⟩ := this
          simp at q
          omega
        subst this
        rw [hl, Nat.sub_self] at e
        cases e
        exact ⟨_, _, Array.getElem?_eq_getElem (by omega), Array.getElem?_eq_getElem (by omega), up _ _ (Nat.ne_of_gt hSlt) hp⟩
    · have e1 : (h'.update S (Obj.mapSeq (·.push (.ref s.heap.objs.size)))).objs.size = s.heap.objs.size + 1 := by rw [Heap.size_update, hsz]
      rw [e1]
      rcases List.mem_append.mp ha with ha | ha
      · obtain ⟨w1, w2, w3⟩ := hm.ab a ha
        exact ⟨w1, w2, Nat.lt_succ_of_lt w3⟩
      · simp at ha
        subst ha
        exact ⟨hb, Nat.ne_of_gt hSlt, Nat.lt_succ_self _⟩
    · rw [List.nodup_append]
      refine ⟨hm.nd, by simp, fun a ha b hb e => ?_⟩
      simp at hb
      obtain ⟨w1, w2, w3⟩ := hm.ab a ha
      subst hb
      exact Nat.lt_irrefl _ (by rw [e] at w3; exact w3)
    · show B ≤ (h'.update S _).objs.size
      rw [Heap.size_update, hsz]; omega
    · exact hR h'' acc' c' as' (fun b o b1 b2 b3 b4 b5 e => kp b o b1 b2 b3 b4 b5 (up _ _ b1 (hkp _ _ b2 b3 b4 b5 e))) hl1 hl2 hm2
theorem nolen_zip : typeLookup (.type "zip") "__len__" = pure none := by rw [typeLookup_type, builtinLookup_eq_fast]; kernel_rfl
theorem nohint_zip : typeLookup (.type "zip") "__length_hint__" = pure none := by rw [typeLookup_type, builtinLookup_eq_fast]; kernel_rfl
theorem zt_extend {R : Result → Shared → Prop} {n B : Nat} {S : Addr} {res : Value} {c₀ : Nat} {s : Shared} (hh : A.handled = none) (D : ZipApart z TI TO i1 i2 l1 l2) (hS : S ≠ z ∧ S ≠ TI ∧ S ≠ TO ∧ S ≠ i1 ∧ S ≠ i2 ∧ S ≠ l1 ∧ S ≠ l2) (hB : z < B ∧ TO < B ∧ i1 < B ∧ i2 < B) (hn : n ≤ sizeLine) (hx : xs.size = n) (hy : ys.size = n)
    (hz : IsZip s.heap z TI TO .none) (st : ZS z TI TO i1 i2 l1 l2 xs ys 0 s.heap) (hSo : s.heap.get? S = some (LstO #[] c₀)) (hb : B ≤ s.heap.objs.size)
    (hR : ∀ h' acc' c' as', (∀ b o, b ≠ S → b ≠ z → b ≠ TO → b ≠ i1 → b ≠ i2 → s.heap.get? b = some o → h'.get? b = some o) → h'.get? S = some (LstO acc' c') → as'.length = n → Made xs ys B S as' acc' h' → R (.ok (.ret res)) { s with heap := h' }) :
    wpAny (model prog w) A.in1 (Builtin.List.listExtendWith (.ref S) (.ref z) res)
      (fun fin s' => match fin with | .done f => R (.ok f) s' | .again c' => c'.quiet = true ∧ codeAny (model prog w) A c' R s') (fun e s' => R (.error e) s') s := by
  have hT : s.TypeIs (.ref z) "zip" := ⟨_, hz, rfl⟩
  unfold Builtin.List.listExtendWith
  refine wpAny_bind (wpAny_typeOf hT ?_)
  have h1 : Builtin.List.listSameRef (.ref S) (.ref z) = false := by simp [Builtin.List.listSameRef, hS.1]
  have h2 : (Value.type "zip" == Value.type "list") = false := by decide
  have h3 : (Value.type "zip" == Value.type "tuple") = false := by decide
  simp only [h1, h2, h3, Bool.or_false, Bool.false_eq_true, if_false]
  refine wpAny_bind (wpAny_pyIter_zip hz ?_)
  refine wpAny_bind (wpAny_holding ?_)
  unfold Builtin.List.listLengthHint
  refine wpAny_bind (wpAny_specialOf hT nolen_zip ?_)
  show wpAny _ A.in1 (specialOf (Value.ref z) (Str.ofString "__length_hint__") >>= _) _ _ _
  refine wpAny_bind (wpAny_specialOf hT nohint_zip ?_)
  refine wpAny_pure ?_
  show wpAny _ A.in1 (rule "list.extend.makes-room" >>= fun _ => Builtin.List.listTouch (.ref S) >>= fun _ =>
    again (.builtin "list.extend.loop" ⟨[.ref S, .ref z, res], []⟩)) _ _ _
  refine wpAny_bind (wpAny_rule ?_)
  refine wpAny_bind ?_
  show wpAny _ A.in1 (updateSeq S (·.push .none) >>= fun _ => updateSeq S (·.pop)) _ _ _
  refine wpAny_bind (wpAny_updateSeq hSo rfl ?_)
  have hS₂ := Heap.get?_update_self (Obj.mapSeq (·.push Value.none)) hSo rfl
  refine wpAny_updateSeq hS₂ rfl ?_
  have hS₃ := Heap.get?_update_self (Obj.mapSeq (·.pop)) hS₂ rfl
  have oth : ∀ b o, b ≠ S → s.heap.get? b = some o → ((s.heap.update S (Obj.mapSeq (·.push Value.none))).update S (Obj.mapSeq (·.pop))).get? b = some o :=
    fun b o hb e => (Heap.get?_update_other _ _ (Ne.symm hb)).trans ((Heap.get?_update_other _ _ (Ne.symm hb)).trans e)
  have sz : ((s.heap.update S (Obj.mapSeq (·.push Value.none))).update S (Obj.mapSeq (·.pop))).objs.size = s.heap.objs.size := by rw [Heap.size_update, Heap.size_update]
  refine wpAny_pure ⟨plainId_quiet F.plain_extend_loop _, zt_loop (B := B) hh D hS hB hn hx hy n 0 { s with heap := (s.heap.update S (Obj.mapSeq (·.push Value.none))).update S (Obj.mapSeq (·.pop)) } #[] _ [] (by omega) (Nat.zero_le _) (st.upd hS oth ⟨_, hS₃⟩) hS₃ rfl ⟨rfl, fun j a e => (by cases e), fun a ha => (by cases ha), .nil⟩ (by rw [sz]; exact hb) fun h' acc' c' as' kp hl1 hl2 hm => ?_⟩
  exact hR h' acc' c' as' (fun b o b1 b2 b3 b4 b5 e => kp b o b1 b2 b3 b4 b5 (oth b o b1 e)) hl1 hl2 hm
theorem zt_init {R : Result → Shared → Prop} {n B : Nat} {S : Addr} {s : Shared} (hh : A.handled = none) (D : ZipApart z TI TO i1 i2 l1 l2) (hS : S ≠ z ∧ S ≠ TI ∧ S ≠ TO ∧ S ≠ i1 ∧ S ≠ i2 ∧ S ≠ l1 ∧ S ≠ l2) (hB : z < B ∧ TO < B ∧ i1 < B ∧ i2 < B) (hn : n ≤ sizeLine) (hx : xs.size = n) (hy : ys.size = n)
    (hz : IsZip s.heap z TI TO .none) (st : ZS z TI TO i1 i2 l1 l2 xs ys 0 s.heap) (hSo : s.heap.get? S = some { cls := .type "list", data := .seq #[] }) (hb : B ≤ s.heap.objs.size)
    (hR : ∀ h' acc' c' as', (∀ b o, b ≠ S → b ≠ z → b ≠ TO → b ≠ i1 → b ≠ i2 → s.heap.get? b = some o → h'.get? b = some o) → h'.get? S = some (LstO acc' c') → as'.length = n → Made xs ys B S as' acc' h' → R (.ok (.ret .none)) { s with heap := h' }) :
    wpAny (model prog w) A.in1 (Builtin.«list.__init__» ⟨[.ref S, .ref z], []⟩)
      (fun fin s' => match fin with | .done f => R (.ok f) s' | .again c' => c'.quiet = true ∧ codeAny (model prog w) A c' R s') (fun e s' => R (.error e) s') s := by
  show wpAny _ _ (do let old ← Builtin.List.listItems (.ref S); Builtin.List.listUpdate (.ref S) (fun _ => #[]); letGo old.toList.reverse; Builtin.List.listExtendWith (.ref S) (.ref z) .none) _ _ s
  refine wpAny_bind ?_
  unfold Builtin.List.listItems
  refine wpAny_bind (wpAny_seqItems hSo rfl (wpAny_pure ?_))
  show wpAny _ _ (updateSeq S (fun _ => #[]) >>= fun _ => letGo (#[] : Array Value).toList.reverse >>= fun _ => Builtin.List.listExtendWith (.ref S) (.ref z) .none) _ _ s
  refine wpAny_bind (wpAny_updateSeq hSo rfl ?_)
  have hS₂ := Heap.get?_update_self (Obj.mapSeq (fun _ => (#[] : Array Value))) hSo rfl
  have oth : ∀ b o, b ≠ S → s.heap.get? b = some o → (s.heap.update S (Obj.mapSeq (fun _ => (#[] : Array Value)))).get? b = some o :=
    fun b o hb e => (Heap.get?_update_other _ _ (Ne.symm hb)).trans e
  refine wpAny_bind (wpAny_letGo ?_)
  refine zt_extend (B := B) hh D hS hB hn hx hy (oth _ _ hS.1.symm hz) (st.upd hS oth ⟨_, hS₂⟩) hS₂ (by show B ≤ (s.heap.update S _).objs.size; rw [Heap.size_update]; exact hb) fun h' acc' c' as' kp hl1 hl2 hm => ?_
  exact hR h' acc' c' as' (fun b o b1 b2 b3 b4 b5 e => kp b o b1 b2 b3 b4 b5 (oth b o b1 e)) hl1 hl2 hm
theorem zt_call {Q : Value → Shared → Prop} {n : Nat} {s : Shared} (hh : A.handled = none) (D : ZipApart z TI TO i1 i2 l1 l2) (hn : n ≤ sizeLine) (hx : xs.size = n) (hy : ys.size = n)
    (hz : IsZip s.heap z TI TO .none) (st : ZS z TI TO i1 i2 l1 l2 xs ys 0 s.heap) (hlt : z < s.heap.objs.size ∧ TI < s.heap.objs.size ∧ TO < s.heap.objs.size ∧ i1 < s.heap.objs.size ∧ i2 < s.heap.objs.size ∧ l1 < s.heap.objs.size ∧ l2 < s.heap.objs.size)
    (hQ : ∀ h' acc' c' as', (∀ b o, b ≠ z → b ≠ TO → b ≠ i1 → b ≠ i2 → s.heap.get? b = some o → h'.get? b = some o) → h'.get? s.heap.objs.size = some (LstO acc' c') → as'.length = n → Made xs ys s.heap.objs.size s.heap.objs.size as' acc' h' → Q (.ref s.heap.objs.size) { s with heap := h' }) :
    wpAny (model prog w) A (call (.type "list") [.ref z]) Q E s := by
  refine callType_codes (Q₁ := fun obj s₁ => obj = .ref s.heap.objs.size ∧ s₁ = { s with heap := s.heap.push { cls := .type "list", data := .seq #[] } }) PySem.F.called_list (PySem.F.typeCall_list_1 _) PySem.F.entry_list_init
    (code_list_new _ ⟨rfl, rfl⟩) fun obj s₁ h₁ => ?_
  obtain ⟨rfl, rfl⟩ := h₁
  have hS : (s.heap.push { cls := .type "list", data := .seq #[] }).get? s.heap.objs.size = some { cls := .type "list", data := .seq #[] } := Heap.get?_push_size _ rfl
  obtain ⟨q1, q2, q3, q4, q5, q6, q7⟩ := hlt
  have kp : ∀ b o, b ≠ s.heap.objs.size → s.heap.get? b = some o → (s.heap.push { cls := .type "list", data := .seq #[] }).get? b = some o := fun b o _ e => Heap.get?_push_of_some _ e
  refine ⟨⟨_, hS, rfl⟩, PySem.F.args_list_init_2 _ _, zt_init (A := A.in1) (B := s.heap.objs.size) hh D ⟨Nat.ne_of_gt q1, Nat.ne_of_gt q2, Nat.ne_of_gt q3, Nat.ne_of_gt q4, Nat.ne_of_gt q5, Nat.ne_of_gt q6, Nat.ne_of_gt q7⟩ ⟨q1, q3, q4, q5⟩ hn hx hy (Heap.get?_push_of_some _ hz)
    (st.upd ⟨Nat.ne_of_gt q1, Nat.ne_of_gt q2, Nat.ne_of_gt q3, Nat.ne_of_gt q4, Nat.ne_of_gt q5, Nat.ne_of_gt q6, Nat.ne_of_gt q7⟩ kp ⟨_, hS⟩) hS (by rw [Heap.size_push]; exact Nat.le_succ _) (fun h' acc' c' as' k2 hl1 hl2 hm => ?_)⟩
  exact ⟨rfl, hQ h' acc' c' as' (fun b o b2 b3 b4 b5 e => k2 b o (Nat.ne_of_lt (Heap.lt_size e)) b2 b3 b4 b5 (Heap.get?_push_of_some _ e)) hl1 hl2 hm⟩
end
/-- the tuples tracked at their addresses -/
def putZ : Hp → List Addr → List (V × V) → Hp
  | H, a :: as, p :: ps => putZ (upd H a (.tup [p.1, p.2])) as ps
  | H, _, _ => H
theorem putZ_off {b : Addr} : ∀ (as : List Addr) (ps : List (V × V)) (H : Hp), b ∉ as → putZ H as ps b = H b
  | [], _, _, _ => rfl
  | _ :: _, [], _, _ => rfl
  | a :: as, p :: ps, H, h => by
    show putZ (upd H a (.tup [p.1, p.2])) as ps b = H b
    rw [putZ_off as ps _ (fun z => h (List.mem_cons_of_mem _ z)), upd_ne (fun z => h (by rw [z]; exact List.mem_cons_self))]
theorem putZ_at : ∀ (as : List Addr) (ps : List (V × V)) (H : Hp), as.length = ps.length → as.Nodup → ∀ (j : Nat) a, as[j]? = some a → ∃ p, ps[j]? = some p ∧ putZ H as ps a = some (.tup [p.1, p.2])
  | [], _, _, _, _, j, a, h => by cases h
  | _ :: _, [], _, h, _, _, _, _ => by cases h
  | a :: as, p :: ps, H, h, hn, j, b, hj => by
    have hn' := List.nodup_cons.mp hn
    cases j with
    | zero =>
      cases hj
      refine ⟨p, rfl, ?_⟩
      show putZ (upd H a (.tup [p.1, p.2])) as ps a = _
      rw [putZ_off as ps _ hn'.1, upd_same]
    | succ j => exact putZ_at as ps (upd H a (.tup [p.1, p.2])) (Nat.succ.inj h) hn'.2 j b hj
section
variable {X : Cx} {pins : List (Addr × Obj)} {σ : L2.St} {H : Hp} {s : Shared}
theorem zip_laid {h' : Heap} {acc xs ys : Array Value} {c S : Nat} {as : List Addr} {vs ws : List V} (I : Inv X pins σ H s) (hz : vs.length ≤ sizeLine) (r1 : Vals vs xs.toList) (r2 : Vals ws ys.toList) (hvw : vs.length = ws.length) (hk : ∀ b o, s.heap.get? b = some o → h'.get? b = some o) (hge : s.heap.objs.size ≤ S)
    (hS : h'.get? S = some (LstO acc c)) (hl : as.length = vs.length) (hm : Made xs ys S S as acc h') :
    ∃ H' : Hp, (∀ b o, H b = some o → H' b = some o) ∧ (∀ b, b ∉ as → b ≠ S → H' b = H b) ∧ H S = none ∧ (∀ t ∈ as, H t = none) ∧ S ∉ as ∧ H' S = some (.lst (as.map V.ref)) ∧ (∀ (j : Nat) a, as[j]? = some a → ∃ v w, vs[j]? = some v ∧ ws[j]? = some w ∧ H' a = some (.tup [v, w])) ∧ Inv X pins σ H' { s with heap := h' } := by
  have ab : ∀ a ∈ as, S ≤ a ∧ a ≠ S := fun a ha => ⟨(hm.ab a ha).1, (hm.ab a ha).2.1⟩
  have hSn : S ∉ as := fun z => (ab _ z).2 rfl
  have new : ∀ t ∈ as, H t = none := fun t ht => I.hok.fresh (Nat.le_trans hge (ab t ht).1)
  have newS : H S = none := I.hok.fresh hge
  have lz : (vs.zip ws).length = vs.length := by rw [List.length_zip]; omega
  have atP := putZ_at as (vs.zip ws) (upd H S (.lst (as.map V.ref))) (by rw [lz]; exact hl) hm.nd
  have off : ∀ b, b ∉ as → b ≠ S → putZ (upd H S (.lst (as.map V.ref))) as (vs.zip ws) b = H b := fun b h1 h2 => by rw [putZ_off as _ _ h1, upd_ne h2]
  have low : ∀ b o, s.heap.get? b = some o → b ∉ as ∧ b ≠ S := fun b o e => by
    have q := Heap.lt_size e
    exact ⟨fun z => absurd q (Nat.not_lt.mpr (Nat.le_trans hge (ab b z).1)), Nat.ne_of_lt (Nat.lt_of_lt_of_le q hge)⟩
  have kp : ∀ b u, H b = some u → (putZ (upd H S (.lst (as.map V.ref))) as (vs.zip ws)) b = some u := fun b u e => by
    rw [off b (fun z => by rw [new b z] at e; cases e) (fun z => by rw [z, newS] at e; cases e)]
    exact e
  have eS : putZ (upd H S (.lst (as.map V.ref))) as (vs.zip ws) S = some (.lst (as.map V.ref)) := by rw [putZ_off as _ _ hSn, upd_same]
  have atV : ∀ (j : Nat) a, as[j]? = some a → ∃ v w, vs[j]? = some v ∧ ws[j]? = some w ∧ putZ (upd H S (.lst (as.map V.ref))) as (vs.zip ws) a = some (.tup [v, w]) := fun j a e => by
    obtain ⟨⟨v, w⟩, q1, q2⟩ := atP j a e
    rw [List.getElem?_zip_eq_some] at q1
    exact ⟨v, w, q1.1, q1.2, q2⟩
  refine ⟨putZ (upd H S (.lst (as.map V.ref))) as (vs.zip ws), kp, off, newS, new, hSn, eS, atV, ?_⟩
  refine I.call' (s' := { s with heap := h' }) (ch := []) rfl ⟨fun b o q _ _ _ => hk b o q, fun b o q _ _ _ => ⟨o.slots, hk b o q⟩, fun b o q n _ => ?_, fun b o q _ => ⟨o, hk b o q⟩, fun b xs q => kp b _ q, fun b o u q => kp b _ q, fun b ps q => ⟨#[], by rw [kp b _ q]; simp⟩⟩ (fun b u q => ?_) I.bare fun b z => by simp at z
  · obtain ⟨z1, z2⟩ := low b o q
    rw [off b z1 z2]
    exact n
  · by_cases hb : b ∈ as
    · obtain ⟨j, hj⟩ := List.getElem?_of_mem hb
      obtain ⟨v, w, e1, e2, e3⟩ := atV j b hj
      rw [e3] at q
      cases q
      obtain ⟨x, y, f1, f2, f3⟩ := hm.pr j b hj
      rw [← Array.getElem?_toList] at f1 f2
      obtain ⟨x', g1, g2⟩ := LiI.paired_get r1 e1
      obtain ⟨y', g3, g4⟩ := LiI.paired_get r2 e2
      rw [f1] at g1
      rw [f2] at g3
      cases g1
      cases g3
      exact ⟨by show 2 ≤ sizeLine; decide, [x, y], .cons g2 (.cons g4 .nil), ⟨_, f3, rfl, _, rfl⟩⟩
    · by_cases hb2 : b = S
      · subst hb2
        rw [eS] at q
        cases q
        refine ⟨by rw [List.length_map]; omega, acc.toList, c, by rw [hm.eq]; exact LiI.vals_refs as, ?_⟩
        rw [Array.toArray_toList]
        exact hS
      · rw [off b hb hb2] at q
        exact (I.hok b u q).stay (fun d v _ y => hk d v y) (fun d y => kp d _ y) fun d xs y => kp d _ y
end
section
variable {K : KK} {g : Gh} {H H' : Hp} {s : S}
theorem Ext.more (k : ∀ b o, H b = some o → H' b = some o) : Ext K g H g H' := by
  refine ⟨⟨fun _ _ h => h, fun _ h => h, fun a xs h => ?_, fun a u _ h => k a u h, fun a xs h => ?_⟩, fun _ h => .inl h, fun _ h => .inl h, fun a u h _ => k a u h, fun a h => ?_⟩
  · rcases h with (h | ⟨o', h⟩) | h
    · exact .inl (.inl (k _ _ h))
    · exact .inl (.inr ⟨o', k _ _ h⟩)
    · exact .inr h
  · rcases h with ⟨o', h⟩ | h
    · exact .inl ⟨o', k _ _ h⟩
    · exact .inr h
  · cases e : H a with
    | none => rfl
    | some o => rw [k a o e] at h; cases h
theorem SimS.more (w : SimS K g s H) (k : ∀ b o, H b = some o → H' b = some o) : SimS K g s H' := w.ext' (Ext.more k) fun a ho _ h => k a ho h
theorem zip_reps {as : List Addr} : ∀ {xs ys : List D} {vs ws : List V}, as.length = vs.length → vs.length = ws.length → Reps K g H xs vs → Reps K g H ys ws → (∀ (j : Nat) a, as[j]? = some a → ∃ v w, vs[j]? = some v ∧ ws[j]? = some w ∧ H a = some (.tup [v, w])) → Reps K g H (zipD xs ys) (as.map V.ref) := by
  induction as with
  | nil =>
    intro xs ys vs ws h1 h2 r1 r2 _
    have e1 := r1.length
    have : xs = [] := List.eq_nil_of_length_eq_zero (by simp at h1; omega)
    subst this
    exact rfl
  | cons a as ih =>
    intro xs ys vs ws h1 h2 r1 r2 hp
    cases vs with
    | nil => cases h1
    | cons v vs =>
      cases ws with
      | nil => cases h2
      | cons w ws =>
        cases xs with
        | nil => cases (show v :: vs = [] from r1)
        | cons x xs =>
          cases ys with
          | nil => cases (show w :: ws = [] from r2)
          | cons y ys =>
            obtain ⟨_, _, e1, p1, q1⟩ := r1
            obtain ⟨_, _, e2, p2, q2⟩ := r2
            cases e1; cases e2
            obtain ⟨v', w', f1, f2, f3⟩ := hp 0 a rfl
            cases f1; cases f2
            refine ⟨.ref a, as.map V.ref, rfl, ⟨by show 2 ≤ sizeLine; decide, a, [v, w], rfl, SqT.of f3, _, _, rfl, p1, _, _, rfl, p2, rfl⟩, ih (Nat.succ.inj h1) (Nat.succ.inj h2) q1 q2 fun j b e => hp (j + 1) b e⟩
end
section
variable {X : Cx} {a b : Expr} {pos p : Pos} {eva evb : Env → S → R D}
theorem df_listz (hc : X.calm = true) (hgl : Gl X "list") (hml : X.mg "list" = none) (hg : Gl X "zip") (hm : X.mg "zip" = none) (ha : PE X a (TEof X.kk eva)) (hb : PE X b (TEof X.kk evb)) (hna : notStar a = true) (hnb : notStar b = true) {p2 p3 : Pos} :
    PE X (.Call (.Name "list" p) [.Call (.Name "zip" p2) [a, b] [] p3] [] pos) (TFof X.kk fun env s => (eva env s).bind fun x s => (evb env s).bind fun y s => lzipR x y s) := by
  refine ⟨fun pins s σ H Q I ⟨H0, g, env, s0, ds, s', eo, ss, hev, hq⟩ => ?_⟩
  obtain ⟨x, s1, h1, hev⟩ := R.bind_ok_iff hev
  obtain ⟨y, s2, h2, hev⟩ := R.bind_ok_iff hev
  have hs : starEach [.Call (.Name "zip" p2) [a, b] [] p3] X.env = (false, eval (.Call (.Name "zip" p2) [a, b] [] p3) X.env) :: starEach [] X.env := rfl
  refine wpAny_Call_Name_kw (ld_blt I hgl hml (u := .type "list") (by first | rfl | decide +kernel) ?_ (by first | decide +kernel | decide) (by first | decide +kernel | decide))
  refine PyProof.Rows.callWith_type1 ?_ hs rfl
  rw [hs]
  show wpAny _ _ (spliced ((false, eval (.Call (.Name "zip" p2) [a, b] [] p3) X.env) :: backTo pos (starEach [] X.env))) _ _ s
  refine Calls.spliced_cons ?_
  have hA := pa_cons ha (pa_cons hb pa_nil (star_ns hnb)) (star_ns hna)
  refine Call_ (ld_blt I hg hm PyProof.Rows.boot_zip (PyProof.Rows.callWith_type1 (thn (hA.run p3 pins s σ H (fun vs H' => ∃ a1 b1 xs ys ws zs g', vs = [.ref a1, .ref b1] ∧ SqT X.K H' a1 ws ∧ SqT X.K H' b1 zs ∧ Reps X.kk g' H' xs ws ∧ Reps X.kk g' H' ys zs ∧ xs.length = ys.length ∧ xs.length ≤ sizeLine ∧ ds = zipD xs ys ∧ Ext X.kk g H g' H' ∧ SimS X.kk g' s' H') I ?_) fun us t1 ⟨vs, H1, I1, r1, q1⟩ => ?_) (star_ns hna) (any_ns (by rw [List.all_cons, hnb]; rfl))))
  · refine ⟨H0, g, env, s0, x, s1, eo, ss, h1, fun g1 H1 v e1 ss1 r1 => ⟨H0, g1, env, s1, y, _, eo.ext e1, ss1, h2, fun g2 H2 w e2 ss2 r2 => ?_⟩⟩
    have r1' := Rep.ext e2 _ _ r1
    cases x with
    | tup xs =>
      cases y with
      | tup ys =>
        unfold lzipR at hev
        dsimp only at hev
        split at hev
        · rename_i hxy
          cases hev
          obtain ⟨hl, ad, vs, rfl, a1, a2⟩ := r1'
          obtain ⟨hl2, bd, ws, rfl, b1, b2⟩ := r2
          exact ⟨ad, bd, xs, ys, vs, ws, g2, rfl, a1, b1, a2, b2, hxy, hl, rfl, e1.trans e2, ss2⟩
        · cases hev
      | _ => cases hev
    | _ => cases hev
  obtain ⟨a1, b1, xs, ys, ws, zs, g1, ev, hq1, hq2, rp1, rp2, hxy, hlz, hds, ex, ss1⟩ := q1
  subst ev
  have lw := rp1.length
  have lz := rp2.length
  cases r1 with
  | cons r rr =>
    cases rr with
    | cons r' rr =>
      cases rr
      cases r
      cases r'
      obtain ⟨its, rv, p1, _⟩ := I1.tuple hq1
      obtain ⟨its2, rv2, p2', _⟩ := I1.tuple hq2
      have lv := rv.length
      have lv2 := rv2.length
      obtain ⟨o1, ho1, _⟩ := id p1
      obtain ⟨o2, ho2, _⟩ := id p2'
      have la := Heap.lt_size ho1
      have lb := Heap.lt_size ho2
      refine RZ.call_zipT (show t1.heap.IsTuple a1 its.toArray from p1) (show t1.heap.IsTuple b1 its2.toArray from p2') fun h' hz hTI hTO i1 i2 hsz hk => ?_
      refine Calls.spliced_nil ?_
      have tk : ∀ {l : Addr} {vs : Array Value}, t1.heap.IsTuple l vs → h'.IsTuple l vs := fun ⟨o, e, r⟩ => ⟨o, hk _ _ e, r⟩
      have up : ∀ i, i < 5 → t1.heap.objs.size + i < h'.objs.size := fun i hi => by rw [hsz]; omega
      refine zt_call (n := ws.length) (s := { t1 with heap := h' }) (I1.ok.hd hc) (PySem.W.ktu_apart t1.heap.objs.size a1 b1 la lb) (by omega) (by rw [List.size_toArray]; omega) (by rw [List.size_toArray]; omega) hz ⟨.inl ⟨hz, _, _, hTO⟩, hTI, i1, i2, tk p1, tk p2'⟩
        ⟨up 4 (by decide), up 2 (by decide), up 3 (by decide), up 0 (by decide), up 1 (by decide), Nat.lt_trans la (up 0 (by decide)), Nat.lt_trans lb (up 0 (by decide))⟩ fun h2 acc c as hk2 hS hl hm => ?_
      have ne : ∀ (b : Addr) (i : Nat), b < t1.heap.objs.size → b ≠ t1.heap.objs.size + i := fun b i hb => Nat.ne_of_lt (Nat.lt_of_lt_of_le hb (Nat.le_add_right _ _))
      have hkk : ∀ b o, t1.heap.get? b = some o → h2.get? b = some o := fun b o e => by
        have q := Heap.lt_size e
        exact hk2 b o (ne b 4 q) (ne b 3 q) (ne b 0 q) (ne b 1 q) (hk b o e)
      have hge : t1.heap.objs.size ≤ h'.objs.size := Nat.le_of_lt (up 0 (by decide))
      obtain ⟨H', k1, koff, k2, k3, k4, k5, k6, J⟩ := zip_laid (acc := acc) (c := c) (S := h'.objs.size) (as := as) (vs := ws) (ws := zs) I1 (by omega) rv rv2 (by omega) hkk hge hS (by omega) hm
      refine ⟨.ref h'.objs.size, H', J, rfl, ?_⟩
      have e2 : Ext X.kk g1 H1 g1 H' := Ext.more k1
      have ss2 := ss1.more (K := X.kk) k1
      refine hq g1 H' h'.objs.size (as.map V.ref) (ex.trans e2) ss2 (ex.live _ k2) k5 (ss1.fresh_io k2) (ss1.fresh_z k2) ?_ ?_
      · rw [hds]
        exact zip_reps (by omega) (by omega) (Reps.ext e2 _ _ rp1) (Reps.ext e2 _ _ rp2) k6
      · rw [hds]
        simp only [zipD, List.length_zipWith]
        omega
end
/-! ## texts: joined, split -/
section
variable {X : Cx} {a b e : Expr} {pos apos p : Pos} {x f : Str} {eva evb : Env → S → R D} {W : WX}
theorem strs_rep {K : KK} {g : Gh} {H : Hp} : ∀ {ds : List D} {vs : List V} {ys : List Str}, Reps K g H ds vs → strsD ds = some ys → vs = ys.map V.str
  | [], vs, ys, r, h => by cases h; exact r
  | d :: ds, vs, ys, r, h => by
    obtain ⟨v, r', rfl, h1, h2⟩ := r
    cases d with
    | str z =>
      unfold strsD at h
      obtain ⟨zs, h3, rfl⟩ := Option.map_eq_some_iff.mp h
      rw [strs_rep h2 h3]
      cases (show v = _ from h1)
      rfl
    | _ => cases h
theorem reps_strs {K : KK} {g : Gh} {H : Hp} : ∀ ys : List Str, Reps K g H (ys.map D.str) (ys.map V.str)
  | [] => rfl
  | y :: ys => ⟨_, _, rfl, rfl, reps_strs ys⟩
theorem d_join (ha : PE X a (TWof X.kk eva)) (hb : PE X b (TWof X.kk evb)) (hbo : baseOk a = true) (hnb : notStar b = true) (hline : (apos.endLine == pos.line) = true) : PE X (.Call (.Attribute a "join" apos) [b] [] pos) (TEof X.kk fun env s => (eva env s).bind fun x s => (evb env s).bind fun y s => lift (joinD x y) s) :=
  (pe_join ha hb (star_ns hnb) (baseOk_ok hbo) hline).imp fun σ H Q ⟨H0, g, env, s, d, s', eo, ss, hev, hq⟩ => by
    obtain ⟨x, s1, h1, hev⟩ := R.bind_ok_iff hev
    obtain ⟨y, s2, h2, hev⟩ := R.bind_ok_iff hev
    obtain ⟨h3, rfl⟩ := lift_ok hev
    refine ⟨H0, g, env, s, x, _, eo, ss, h1, fun g1 H1 v e1 ss1 r1 => ?_⟩
    cases x with
    | str z =>
      cases y with
      | lst ds =>
        cases q : strsD ds with
        | none => unfold joinD at h3; dsimp only at h3; rw [q] at h3; cases h3
        | some ys =>
          unfold joinD at h3; dsimp only at h3
          rw [q] at h3
          obtain ⟨h4, h5⟩ := guardB_some h3
          cases h5
          cases r1.str
          refine ⟨⟨_, rfl⟩, H0, g1, env, s1, .lst ds, _, eo.ext e1, ss1, h2, fun g2 H2 w e2 ss2 r2 => ?_⟩
          obtain ⟨ad, vs, rfl, a1, a2⟩ := r2.seqL
          have e := strs_rep a2 q
          subst e
          exact ⟨_, ad, ys, rfl, rfl, .inl (SqL.of a1), Nat.le_trans (of_decide_eq_true h4) (by decide), (hq.ext (e1.trans e2)).here ss2 rfl⟩
      | _ => cases h3
    | _ => cases h3
theorem d_parti (ha : PE X a (TWof X.kk eva)) (hb : PE X b (TWof X.kk evb)) (hbo : baseOk a = true) (hnb : notStar b = true) (hline : (apos.endLine == pos.line) = true) : PE X (.Call (.Attribute a "partition" apos) [b] [] pos) (TEof X.kk fun env s => (eva env s).bind fun x s => (evb env s).bind fun y s => lift (partiD x y) s) :=
  (pe_partition ha hb (star_ns hnb) (baseOk_ok hbo) hline).imp fun σ H Q ⟨H0, g, env, s, d, s', eo, ss, hev, hq⟩ => by
    obtain ⟨x, s1, h1, hev⟩ := R.bind_ok_iff hev
    obtain ⟨y, s2, h2, hev⟩ := R.bind_ok_iff hev
    obtain ⟨h3, rfl⟩ := lift_ok hev
    refine ⟨H0, g, env, s, x, _, eo, ss, h1, fun g1 H1 v e1 ss1 r1 => ?_⟩
    cases x with
    | str z =>
      cases y with
      | str z2 =>
        unfold partiD at h3
        obtain ⟨h4, h5⟩ := guardB_some h3
        cases h5
        simp only [Bool.and_eq_true, Bool.not_eq_true', decide_eq_true_eq] at h4
        cases r1.str
        refine ⟨⟨_, rfl⟩, H0, g1, env, s1, .str z2, _, eo.ext e1, ss1, h2, fun g2 H2 w e2 ss2 r2 => ?_⟩
        cases r2.str
        exact ⟨_, _, rfl, rfl, h4.1, line_lim h4.2, fun p hp => (hq.ext (e1.trans e2)).tup ss2 hp (reps_strs [_, _, _]) (by show 3 ≤ sizeLine; decide)⟩
      | _ => cases h3
    | _ => cases h3
theorem df_split (ha : PE X a (TWof X.kk eva)) (hb : PE X b (TWof X.kk evb)) (hbo : baseOk a = true) (hnb : notStar b = true) (hline : (apos.endLine == pos.line) = true) : PE X (.Call (.Attribute a "split" apos) [b] [] pos) (TFof X.kk fun env s => (eva env s).bind fun x s => (evb env s).bind fun y s => lift (splitD x y) s) :=
  (pe_split ha hb (star_ns hnb) (baseOk_ok hbo) hline).imp fun σ H Q ⟨H0, g, env, s, d, s', eo, ss, hev, hq⟩ => by
    obtain ⟨x, s1, h1, hev⟩ := R.bind_ok_iff hev
    obtain ⟨y, s2, h2, hev⟩ := R.bind_ok_iff hev
    obtain ⟨h3, rfl⟩ := lift_ok hev
    refine ⟨H0, g, env, s, x, _, eo, ss, h1, fun g1 H1 v e1 ss1 r1 => ?_⟩
    cases x with
    | str z =>
      cases y with
      | str z2 =>
        unfold splitD at h3
        obtain ⟨h4, h5⟩ := guardB_some h3
        cases h5
        simp only [Bool.and_eq_true, Bool.not_eq_true', decide_eq_true_eq] at h4
        cases r1.str
        refine ⟨⟨_, rfl⟩, H0, g1, env, s1, .str z2, _, eo.ext e1, ss1, h2, fun g2 H2 w e2 ss2 r2 => ?_⟩
        cases r2.str
        exact ⟨_, _, rfl, rfl, h4.1.1, line_lim h4.1.2, fun p hp => hq.mk (e1.trans e2) ss2 hp (reps_strs _) (by rw [List.length_map]; exact line_lim h4.2)⟩
      | _ => cases h3
    | _ => cases h3
theorem Reps.erase {K : KK} {g : Gh} {H : Hp} : ∀ {ds : List D} {vs : List V} (k : Nat), Reps K g H ds vs → Reps K g H (ds.eraseIdx k) (vs.eraseIdx k)
  | [], vs, k, r => by cases (show vs = [] from r); exact rfl
  | d :: ds, vs, 0, r => by obtain ⟨v, r', rfl, h1, h2⟩ := r; exact h2
  | d :: ds, vs, k + 1, r => by obtain ⟨v, r', rfl, h1, h2⟩ := r; exact ⟨v, _, rfl, h1, Reps.erase k h2⟩
/-- xs.pop(k) of a list of its own -/
theorem pe_popK {i k j : Nat} {px pk : Pos} (hN : X.N[i]? = some x) (hv : Vis X.env.scope x) (hd : (x == ("__debug__" : Str)) = false) (hcd : (x == ("__classdict__" : Str)) = false) (hk : k < 1000) (hline : (apos.endLine == p.line) = true) :
    PE X (.Call (.Attribute (.Name x px) "pop" apos) [.Constant (.int (k : Int)) j pk] [] p) (fun σ H Q => ∃ ad xs y, σ[i]? = some (some (V.ref ad)) ∧ H ad = some (.lst xs) ∧ xs[k]? = some y ∧ Q y (upd H ad (.lst (xs.eraseIdx k)))) :=
  (pe_bm PySem.F.plainAttrs_list PySem.F.slot_list_pop PySem.F.type_list_pop mt_popAt (pe_var hN hv hd hcd) (pa_cons pe_int pa_nil rfl) rfl (few_one rfl) hline rfl rfl).imp fun σ H Q ⟨ad, xs, y, h1, h2, h4, h5⟩ => by
    have hk2 : k < xs.length := (List.getElem?_eq_some_iff.mp h4).1
    refine ⟨.ref ad, h1, .inl ⟨rfl, xs, SqL.of h2⟩, ?_⟩
    refine ⟨ad, xs, (k : Int), k, y, rfl, rfl, h2, by omega, by omega, ?_, h4, h5⟩
    unfold seqIndex?
    have e0 : (if ((k : Nat) : Int) < 0 then ((k : Nat) : Int) + (xs.length : Nat) else ((k : Nat) : Int)) = (k : Nat) := if_neg (by omega)
    rw [e0]
    simp only [Int.toNat_natCast]
    rw [if_pos]
    simp only [Bool.and_eq_true, decide_eq_true_eq]
    exact ⟨by omega, by omega⟩
end
end Fw
namespace Fw
open PySem PySem.Spec PyProof.Rows L2
/-! ## xs.pop(k), y = f(xs.pop(k)) -/
theorem EnvOk.ownLen {K : KK} {g : Gh} {H H0 : Hp} {env : Env} {σ : L2.St} (eo : EnvOk K g H H0 env σ) {i : Nat} {ds : List D} (h : getO env i = some ds) : ds.length ≤ sizeLine := by
  unfold getO at h
  split at h
  · rename_i e
    cases h
    obtain ⟨v, e1, e2, _⟩ := eo.at_ i _ e
    exact e2
  · cases h
section
variable {X : Cx} {a b e : Expr} {pos apos p pf py pos2 : Pos} {x f y : Str} {W : WX}
theorem ds_pop {i k j : Nat} {px pk : Pos} (hN : X.N[i]? = some x) (hv : Vis X.env.scope x) (hd : (x == ("__debug__" : Str)) = false) (hcd : (x == ("__classdict__" : Str)) = false) (hk : k < 1000) (hline : (apos.endLine == p.line) = true) :
    PS X (.Expr (.Call (.Attribute (.Name x px) "pop" apos) [.Constant (.int (k : Int)) j pk] [] p) pos) (TSof X.kk W fun env s => (lift (getO env i) s).bind fun xs s => if k < xs.length then .ok (.next (env.set i (some (.own (xs.eraseIdx k))))) s else .no) :=
  (ps_expr (pe_popK hN hv hd hcd hk hline) rfl).imp fun D' σ H ⟨g0, H0, g, env, s, x0, eo, ss, h⟩ => by
    obtain ⟨ds, s2, h3, h4⟩ := h.ok
    obtain ⟨h5, rfl⟩ := lift_ok h3
    obtain ⟨hi, ad, xs, e1, e2, e3, e4, e5, e6⟩ := eo.own h5
    split at h4
    · rename_i hlt
      have l := e3.length
      refine ⟨ad, xs, _, e1, e2, List.getElem?_eq_getElem (by omega), ?_⟩
      refine h4 g _ σ (Kp.write e5 e2) (x0.write e6 e5 e2) (eo.writeOwn hi e1 e2 e5 (Reps.erase k e3) ?_) (ss.write e4 e5 e2)
      have := List.length_eraseIdx_le ds k
      exact Nat.le_trans this (eo.ownLen h5)
    · exact h4.elim
/-- f(e) of one thing, where the argument changes a list of one's own -/
theorem d_call1 {pg : Pg} {k k' fi : Nat} {ad : Addr} {fd : FuncData} {ps : List Str} {te : TE} (F : FnG X.prog X.w X.kk X.mg X.base k' ad fd ps (spD X.kk pg k fi)) (hr : Room k' X.A) (hgd : X.A.guards = some []) (hg : Gl X f) (hm : X.mg f = some (.ref ad))
    (hk : PySem.W.keepIn X.kk (.ref ad) = true) (hb : Binds X.kk fd ps []) (ha : PE X a te) (hdb : (f == ("__debug__" : Str)) = false) (hns : notStar a = true) :
    PE X (.Call (.Name f p) [a] [] pos) (fun σ H Q => te σ H fun v H' => spD X.kk pg k fi [v] H' Q E0) := by
  refine ⟨fun pins s σ H Q I h => ?_⟩
  refine wpAny_Call_Name_kw (ld_glob I hg hm ?_ hdb)
  refine PySem.W.callWith_K (h₀ := X.base) I.ok.mod.kin hk (thn ((pa_cons ha pa_nil (star_ns hns)).run pos pins s σ H (fun vs H' => spD X.kk pg k fi vs H' Q E0) I h) fun us s2 ⟨vs, H2, I2, r2, q2⟩ => ⟨I2.kIn, ?_⟩) (star_ns hns) rfl
  exact run_g F hr hgd hb I2 r2 q2
def tPop (i k : Nat) : TE := fun σ H Q => ∃ ad xs y, σ[i]? = some (some (V.ref ad)) ∧ H ad = some (.lst xs) ∧ xs[k]? = some y ∧ Q y (upd H ad (.lst (xs.eraseIdx k)))
theorem ds_setpop {pg : Pg} {kk fi i k l : Nat} {st : Stmt} (h : PS X st (tAsg (fun σ H Q => tPop i k σ H fun v H' => spD X.kk pg kk fi [v] H' Q E0) (gName l))) :
    PS X st (TSof X.kk W fun env s => (lift (getO env i) s).bind fun xs s => (lift xs[k]? s).bind fun z s => (callN pg kk fi [z] s).bind fun d s => .ok (.next ((env.set i (some (.own (xs.eraseIdx k)))).set l (some (.val d)))) s) :=
  h.imp fun D' σ H ⟨g0, H0, g, env, s, x0, eo, ss, h⟩ => by
    obtain ⟨ds, s2, h3, h4⟩ := h.ok
    obtain ⟨h5, rfl⟩ := lift_ok h3
    obtain ⟨z, s3, h6, h7⟩ := h4.ok
    obtain ⟨h8, rfl⟩ := lift_ok h6
    obtain ⟨d, s4, h9, h10⟩ := h7.ok
    obtain ⟨hi, ad, xs, e1, e2, e3, e4, e5, e6⟩ := eo.own h5
    obtain ⟨v, hv1, hv2⟩ := e3.get h8
    refine ⟨ad, xs, v, e1, e2, hv1, ?_⟩
    have hle : (ds.eraseIdx k).length ≤ sizeLine := Nat.le_trans (List.length_eraseIdx_le ds k) (eo.ownLen h5)
    refine ⟨g, _, [z], Reps.one (Rep.kp (Kp.write e5 e2) _ _ hv2), ss.write e4 e5 e2, ?_⟩
    rw [h9]
    intro g' H' w x1 ss1 r1
    exact tg_ok (.nm l) d w _ _ σ _ rfl ((eo.writeOwn hi e1 e2 e5 (Reps.erase k e3) hle).ext x1) r1 fun σ2 eo2 _ => h10 g' H' σ2 ((Kp.write e5 e2).trans x1.toKp) ((x0.write e6 e5 e2).trans x1) eo2 ss1
end
end Fw
namespace Fw
open PySem PySem.Spec PyProof.Rows L2
/-! ## isinstance of a caught error, where it is true: whatever fields it has -/
theorem isi_yes {prog : Program} {w : World} {A : Around} {E : Value → Shared → Prop} {s : Shared} {Q : Value → Shared → Prop} {K : PySem.W.Frag} {x : Addr} {o : Obj} {t c : Value} (X : K.In s.heap) (ho : s.heap.get? x = some o) (hc : o.cls = t) (e : PySem.W.kitOne K t c = some true)
    (h : ∀ tk, Q (.bool true) { s with toks := tk }) : wpAny (model prog w) A (call (.builtin "isinstance") [.ref x, c]) Q E s := by
  refine call_isinstance_of ?_ (fun z => nomatch z)
  obtain ⟨h0, g, d, tt, os⟩ := s
  have LT : PySem.W.Looks (model prog w) h0 (typeOf (.ref x)) t := hc ▸ (PySem.W.Looks.ld ho).andThen .now
  unfold PySem.W.kitOne at e
  unfold Builtin.«isinstance.nested»
  refine wpAny_bind (LT.at ?_)
  by_cases q : (t == c) = true
  · rw [if_pos q]
    first
      | exact wpAny_bind (wpAny_rule (h tt))
      | exact wpAny_bind (wpAny_rule (wpAny_pure (h tt)))
  · rw [if_neg q] at e
    rw [if_neg q]
    obtain ⟨hty, his, hsub⟩ := PySem.W.kit_cls (M := model prog w) X e
    have LI : PySem.W.Looks (model prog w) h0 (isInstance (.ref x) c) true := LT.andThen hsub
    refine wpAny_bind (hty.at ?_)
    rw [if_pos (by decide)]
    k_delta "plainIsInstance"
    refine wpAny_bind (wpAny_bind (his.at ?_))
    simp only [Bool.not_true, Bool.false_eq_true, if_false]
    refine wpAny_bind (LI.at ?_)
    first
      | exact wpAny_pure (wpAny_pure (h tt))
      | (simp only [if_true]; first | exact wpAny_pure (wpAny_pure (h tt)) | exact wpAny_pure (h tt) | exact wpAny_bind (wpAny_pure (wpAny_pure (h tt))))
theorem exm_kit {K : PySem.W.Frag} {C1 C2 : Addr} (h : PySem.W.exmOne K (.ref C1) (.ref C2) = some true) : PySem.W.kitOne K (.ref C1) (.ref C2) = some true := by
  unfold PySem.W.kitOne
  split
  · rfl
  · unfold PySem.W.exmOne at h
    unfold PySem.W.kitCls
    split at h
    · exact h
    · cases h
/-- what the call asks and tells -/
def rIsT (a C : Addr) (C2 : Addr) (cls : Value) : List V → Hp → VK → Prop := fun xs H Q => xs = [.ref a, .ref C2] ∧ cls = .ref C ∧ Q (.bl true) H
theorem call_isT {X : Cx} {a C C2 : Addr} {oe : Obj} {cls : Value} {dd : Option Addr} {pn : List (Addr × Obj)} (hz : Zc cls dd oe) (e : PySem.W.kitOne X.kk (.ref C) (.ref C2) = some true) : CallR (X.suite a ((a, oe) :: pn)) (.builtin "isinstance") (rIsT a C C2 cls) := by
  intro pins s σ H xs us Q I r h
  obtain ⟨rfl, rfl, q⟩ := h
  cases r with
  | cons rx rr =>
    cases rr with
    | cons rt rr =>
      cases rr
      cases rx
      cases rt
      obtain ⟨hget, _⟩ := I.pin (a, oe) (List.mem_append.mpr (.inl List.mem_cons_self))
      exact isi_yes I.kIn hget hz.1 e fun tk => ⟨.bl true, H, I.kept (t' := tk) fun _ _ z => z, rfl, q⟩
end Fw
namespace Fw
open PySem PySem.Spec PyProof.Rows L2
/-! ## try with several clauses, each with a name or without -/
abbrev ClT : Type := Value × Option Nat × (Addr → Value → Option Addr → TS)
/-- what is wished of an exception that meets these clauses -/
def wCls (K : PySem.W.Frag) (W0 : WX) (D : Ends) : List ClT → WX
  | [] => W0
  | (c, none, t) :: r => fun cls d σ H => ∃ y, PySem.W.exmOne K cls c = some y ∧ (y = true → ∀ a, H a = none → t a cls d D σ H) ∧ (y = false → wCls K W0 D r cls d σ H)
  | (c, some j, t) :: r => fun cls d σ H => ∃ y, PySem.W.exmOne K cls c = some y ∧ (y = true → ∀ a, H a = none → t a cls d { nx := fun σ1 H1 => D.nx (σ1.set j none) H1, rt := D.rt, bk := fun σ1 H1 => D.bk (σ1.set j none) H1, ct := fun σ1 H1 => D.ct (σ1.set j none) H1 } (σ.set j (some (.ref a))) H) ∧ (y = false → wCls K W0 D r cls d σ H)
/-- a suite's promise -/
def SuT (X : Cx) (b : Stmt) (bs : List Stmt) (t : Addr → Value → Option Addr → TS) : Prop := ∀ (a : Addr) (oe : Obj) (cls : Value) (d : Option Addr) (pn : List (Addr × Obj)), Zc cls d oe → (∃ vs, oe.data = .fields vs) → PSs (X.suite a ((a, oe) :: pn)) (b :: bs) (t a cls d)
inductive ClsT (X : Cx) : List ExceptHandler → List ClT → Prop
  | nil : ClsT X [] []
  | bare {x : Str} {c : Value} {t : Addr → Value → Option Addr → TS} {b : Stmt} {bs : List Stmt} {p q : Pos} {hs : List ExceptHandler} {l : List ClT} (hc : Names X x c) (su : SuT X b bs t) (r : ClsT X hs l) : ClsT X (.ExceptHandler (some (.Name x p)) none (b :: bs) q :: hs) ((c, none, t) :: l)
  | named {x n : Str} {j : Nat} {c : Value} {t : Addr → Value → Option Addr → TS} {b : Stmt} {bs : List Stmt} {p q : Pos} {hs : List ExceptHandler} {l : List ClT} (hc : Names X x c) (hj : X.N[j]? = some n) (hl : X.env.kindOf n = some .local) (su : SuT X b bs t) (r : ClsT X hs l) :
      ClsT X (.ExceptHandler (some (.Name x p)) (some n) (b :: bs) q :: hs) ((c, some j, t) :: l)
section
variable {X : Cx} {pins : List (Addr × Obj)} {D : Ends}
theorem sp_un {f : Flow} {s1 : Shared} {xe1 : Value → Shared → Prop} (ok : X.Ok) (h : SP (X.tr (X.pn ++ pins) xe1) [] D f s1) : SP X pins D f s1 := by
  cases f with
  | ret u => obtain ⟨v, σ1, H1, J, r1, z⟩ := h; exact ⟨v, σ1, H1, J.ofTry ok, r1, z⟩
  | next => obtain ⟨σ1, H1, J, z⟩ := h; exact ⟨σ1, H1, J.ofTry ok, z⟩
  | brk => obtain ⟨σ1, H1, J, z⟩ := h; exact ⟨σ1, H1, J.ofTry ok, z⟩
  | cont => obtain ⟨σ1, H1, J, z⟩ := h; exact ⟨σ1, H1, J.ofTry ok, z⟩
theorem ps_tryN {body : List Stmt} {h0 : ExceptHandler} {hs : List ExceptHandler} {l : List ClT} {pos : Pos} {tb : WX → TS} {W0 : WX} (hst : X.stack = X.env :: X.outer) (hfr : X.env.frame = some X.env.locals) (hN : X.N.Nodup) (tk : Takes X W0)
    (hb : ∀ (W : WX) (pn : List (Addr × Obj)) (xe : Value → Shared → Prop), Takes (X.tr pn xe) W → PassesOwn (model X.prog X.w) X.A X.env xe → PSs (X.tr pn xe) body (tb W)) (hc : ClsT X (h0 :: hs) l) :
    PS X (.Try body (h0 :: hs) [] [] pos) (fun D σ H => tb (wCls X.K W0 D l) D σ H) := by
  refine ⟨fun pins s σ H D I hw => ?_⟩
  have ok := I.ok
  have hAf : X.A.frames = some (X.env :: X.outer) := ok.frames.trans (congrArg some hst)
  refine wpAny_Try_except (wpAny_mono ((hb (wCls X.K W0 D l) (X.pn ++ pins) (fun e t1 => wpAny (model X.prog X.w) X.A (noteFrame e X.env) (fun _ t2 => wpAny (model X.prog X.w) X.A (setFlight e none) (fun _ t3 =>
    wpAny (model X.prog X.w) X.A (handleBy e X.env (h0 :: hs)) (SP X pins D) X.xe t3) X.xe t2) X.xe t1) (fun u t xx => ?_) PassesOwn.looking).run [] s σ H D (I.toTry _) hw) (fun f t1 z => ?_) (fun _ _ z => z))
  · obtain ⟨a, B, sI, pp, σ1, H1, cls, d, rfl, J0, nb, up, sky, na, os, ag, w⟩ := xx
    have J : Inv X pins σ1 H1 sI := J0.ofTry ok
    have sky1 : Sky B (X.env :: X.outer) a (Zc cls d) X.env.locals t.heap := hst ▸ sky
    show wpAny (model X.prog X.w) X.A (noteFrame (.ref a) X.env) _ _ _
    refine Sky.land Zc.steady hAf hfr sky1 fun h3 fl up3 => ?_
    have J3 : Inv X pins σ1 H1 { t with heap := h3 } := J.landed nb fl.1 (up.trans up3) os ag
    obtain ⟨o3, v3, e3, z3, d3⟩ := fl.there
    have nof : a ∉ frs (X.env :: X.outer) := fun hm => by
      obtain ⟨_, o', e', nf⟩ := fl.2.2.1.mem hm
      rw [e3] at e'
      cases e'
      exact nf _ d3
    have nL : a ≠ X.env.locals := fun z => nof (List.mem_filterMap.mpr ⟨X.env, List.mem_cons_self, by rw [hfr, z]⟩)
    have nF : a ∉ X.fs := fun hm => by
      obtain ⟨e, he, q⟩ := List.mem_filterMap.mp hm
      exact nof (List.mem_filterMap.mpr ⟨e, List.mem_cons_of_mem _ he, q⟩)
    have S3 := J3.suite e3 d3 na nL nF
    have test : ∀ {x : Str} {c : Value} {p : Pos} {Q E : Value → Shared → Prop}, Names X x c → Q c { t with heap := h3 } → wpAny (model X.prog X.w) (X.A.mark (some (.ref a))) (eval (.Name x p) X.env) Q E { t with heap := h3 } := fun {x c p Q E} hn q => by
      obtain ⟨g1, g2, m1 | ⟨m1, m2, m3⟩⟩ := hn
      · exact ld_glob (X := X.suite a ((a, o3) :: (X.pn ++ pins))) S3 g1 m1 q g2
      · exact ld_blt (X := X.suite a ((a, o3) :: (X.pn ++ pins))) S3 g1 m1 m2 q m3 g2
    have look : ∀ {c : Value} {y : Bool}, PySem.W.exmOne X.K cls c = some y → _ := fun {c y} hy => PySem.W.exm_one (M := model X.prog X.w) J3.kIn (show PySem.W.Looks (model X.prog X.w) h3 (typeOf (.ref a)) cls from fun A Q E s k q => wpAny_typeOf_ref (k _ _ e3) (by rw [z3.1]; exact q)) hy
    have land4 : ∀ {P : Prop}, P → P := fun z => z
    have go : ∀ {hs1 : List ExceptHandler} {l1 : List ClT}, ClsT X hs1 l1 → wCls X.K W0 D l1 cls d σ1 H1 → wpAny (model X.prog X.w) X.A (handleBy (.ref a) X.env hs1) (SP X pins D) X.xe { t with heap := h3 } := by
      intro hs1 l1 hk
      induction hk with
      | nil =>
        intro w
        refine wpAny_handleBy_nil ?_
        obtain ⟨k1, k2, k3, oe, vs, T, oT, ts', he, hz, hd, h1, hr⟩ := id fl
        have fin : wpAny (model X.prog X.w) X.A (setFlight (.ref a) X.env.frame) (fun _ s4 => wpAny (model X.prog X.w) X.A (throw (.ref a) : Sem Flow) (SP X pins D) X.xe s4) X.xe { t with heap := h3 } :=
          hfr ▸ HandSPX.setFlight_upZ fl fun h4 q4 up4 => wpAny_throw (tk _ _ ⟨a, B, sI, pins, σ1, H1, cls, d, rfl, J, nb, (up.trans up3).trans up4, .inr (.inr (hst ▸ q4)), na, os, ag, w⟩)
        unfold PySem.passOn
        refine wpAny_bind (wpAny_field he hd h1 ?_)
        rw [if_neg (fun z => by simp at z : ¬ ((Value.ref T == Value.none) = true))]
        first | exact wpAny_bind fin | exact wpAny_bind (wpAny_pure (wpAny_bind fin))
      | @bare x c ts b bs p q hs2 l2 hn su r ih =>
        intro w
        obtain ⟨y, hy, w1, w0⟩ := w
        refine wpAny_handleBy_cons (codeAny_handlers_test (test hn ((look hy).here ?_))) (fun z => by cases z)
        cases y with
        | false => exact ih (w0 rfl)
        | true =>
          refine codeAny_handlers_suite (HandSPX.lands_againZ fl fun h4 fl4 up4 => ?_)
          have J4 : Inv X pins σ1 H1 { t with heap := h4 } := J.landed nb fl4.1 ((up.trans up3).trans up4) os ag
          obtain ⟨o4, v4, e4, z4, d4⟩ := fl4.there
          refine wpAny_mono ((su a o4 cls d (X.pn ++ pins) z4 ⟨_, d4⟩).run [] _ _ H1 _ (J4.suite e4 d4 na nL nF) (w1 rfl a na)) (fun f t6 z => ?_) (fun _ _ z => z.elim)
          cases f with
          | ret u => obtain ⟨v6, σ6, H6, S6, r6, q6⟩ := z; exact ⟨_, _, _, S6.unsuite ok, r6, q6⟩
          | next => obtain ⟨σ6, H6, S6, q6⟩ := z; exact ⟨_, _, S6.unsuite ok, q6⟩
          | brk => obtain ⟨σ6, H6, S6, q6⟩ := z; exact ⟨_, _, S6.unsuite ok, q6⟩
          | cont => obtain ⟨σ6, H6, S6, q6⟩ := z; exact ⟨_, _, S6.unsuite ok, q6⟩
      | @named x n j c ts b bs p q hs2 l2 hn hj hl su r ih =>
        intro w
        obtain ⟨y, hy, w1, w0⟩ := w
        refine wpAny_handleBy_cons (codeAny_handlers_test (test hn ((look hy).here ?_))) (fun z => by cases z)
        cases y with
        | false => exact ih (w0 rfl)
        | true =>
          refine codeAny_handlers_suite_as (HandSPX.lands_againZ fl fun h4 fl4 up4 => ?_)
          have J4 : Inv X pins σ1 H1 { t with heap := h4 } := J.landed nb fl4.1 ((up.trans up3).trans up4) os ag
          obtain ⟨o4, v4, e4, z4, d4⟩ := fl4.there
          refine store_ok (X := X.suite a ((a, o4) :: (X.pn ++ pins))) (v := .ref a) (J4.suite e4 d4 na nL nF) hN hj (.inl hl) rfl (fun t5 S5 => ?_) (.inr hl)
          refine wpAny_mono ((su a o4 cls d (X.pn ++ pins) z4 ⟨_, d4⟩).run [] t5 _ H1 _ S5 (w1 rfl a na)) (fun f t6 z => ?_) (fun _ _ z => z.elim)
          have gone : ∀ {σ6 : L2.St} {H6 : Hp} {Q : Shared → Prop}, Inv (X.suite a ((a, o4) :: (X.pn ++ pins))) [] σ6 H6 t6 → (∀ t7, Inv X pins (σ6.set j none) H6 t7 → Q t7) →
              wpAny (model X.prog X.w) X.A (do bindName X.env n .none; unbindBehindTheSuite X.env n q) (fun _ t7 => Q t7) X.xe t6 := fun {σ6 H6 Q} S6 hq => gone_ok (S6.unsuite ok) hN hj hl hq
          cases f with
          | ret u => obtain ⟨v6, σ6, H6, S6, r6, q6⟩ := z; exact gone S6 fun t7 J7 => ⟨_, _, _, J7, r6, q6⟩
          | next => obtain ⟨σ6, H6, S6, q6⟩ := z; exact gone S6 fun t7 J7 => ⟨_, _, J7, q6⟩
          | brk => obtain ⟨σ6, H6, S6, q6⟩ := z; exact gone S6 fun t7 J7 => ⟨_, _, J7, q6⟩
          | cont => obtain ⟨σ6, H6, S6, q6⟩ := z; exact gone S6 fun t7 J7 => ⟨_, _, J7, q6⟩
    exact go hc w
  · have z1 := sp_un ok z
    cases f with
    | next => obtain ⟨σ1, H1, J, q⟩ := z1; exact wpAny_execs_nil ⟨σ1, H1, J, q⟩
    | ret u => exact z1
    | brk => exact z1
    | cont => exact z1
end
end Fw
namespace Fw
open PySem PySem.Spec PyProof.Rows L2
/-! ## own errors without fields -/
/-- what is told of an error class without a field -/
def Exc0 (K : PySem.W.Frag) (mg : Str → Option Value) (cn : Str) : Prop := ∃ C : Addr, PySem.W.nsIn K mainGlobals cn = some (some (.ref C)) ∧ mg cn = some (.ref C) ∧ PySem.W.excIn K C [.type "ValueError", .type "Exception", .type "BaseException", .type "object"] "ValueError.__new__" = true ∧ PySem.W.keepIn K (.ref C) = true ∧
  PySem.W.subIn K (.ref C) (.type "BaseException") = some true ∧ PySem.W.typeIn K (.ref C) = some (.type "type")
theorem pmk_none {X : Cx} {C : Addr} {bm1 : List Value} {B newId initId : String} {x : Str} {p pos : Pos} (F : ExcBaseFacts B newId initId bm1) (q : PySem.W.excIn X.K C bm1 newId = true) (gC : X.mg x = some (.ref C)) (kC : PySem.W.keepIn X.K (.ref C) = true) (r : Raises X (.ref C)) (hg : Gl X x) (hdb : (x == ("__debug__" : Str)) = false) :
    PMk X (.Call (.Name x p) [] [] pos) (fun _ H Q => Q (.ref C) none H) := by
  intro pins s σ H Q I h
  refine wpAny_Call_Name_kw (ld_glob I hg gC (PySem.W.callWith_K0 I.kIn kC ?_) hdb)
  show wpAny _ _ (call (.ref C) []) _ _ _
  obtain ⟨bm, N, nm, qn, bs, hdct, sn, sub, ab, col, dd, k0, k1, k2, k3, k5, mN, hC, hN, hni, T⟩ := exc_obj I.kIn q
  refine wpAny_call_exc_subT F T hC hN hni (fun h' e hm => mk_of I hm r h (I.hok.gone hm.new)) (by show 0 ≤ sizeLine; omega)
end Fw
namespace Fw
open PySem PySem.Spec PyProof.Rows L2

/-! ## L. the guide fits the text -/
structure Cc where
  N : List Str
  sc : Scope
  fn : Str → Bool
def visB (sc : Scope) (x : Str) : Bool := match sc.names.lookup x with
  | some .local => true
  | some .cell => true
  | some .free => true
  | _ => false
theorem visB_ok {sc : Scope} {x : Str} (h : visB sc x = true) : Vis sc x := by
  unfold visB at h
  split at h
  · exact .inl (by assumption)
  · exact .inr (.inl (by assumption))
  · exact .inr (.inr (by assumption))
  · cases h
def nmOk (c : Cc) (i : Nat) (x : Str) : Bool := decide (c.N[i]? = some x) && visB c.sc x && !(x == ("__debug__" : Str)) && !(x == ("__classdict__" : Str))
def glB (c : Cc) (x : Str) : Bool := decide (c.sc.names.lookup x = some .globalImplicit) && !(x == ("__debug__" : Str))
def notSet : Expr → Bool
  | .Set .. => false
  | _ => true
def plainT : Expr → Bool
  | .UnaryOp .Not _ _ => false
  | .BoolOp .. => false
  | .IfExp .. => false
  | .Compare .. => false
  | _ => true
def strict : E → Bool
  | .pk _ => false
  | _ => true
def Es.len : Es → Nat
  | .nil => 0
  | .cons _ es => es.len + 1
def strictEs : Es → Bool
  | .nil => true
  | .cons e es => strict e && strictEs es
def isTup : Expr → Bool
  | .Tuple .. => true
  | _ => false
def ownOf (c : Cc) (vs : List Nat) : List (Str × Nat) := vs.map fun i => ((c.N[i]?).getD Str.empty, i)
def inner (c : Cc) (scope : Scope) : Cc := ⟨c.N, relS scope c.sc, fun x => scope.names.lookup x == some .cell⟩
section
variable (pg : Pg)
def blB (c : Cc) (x : Str) : Bool := glB c x && decide (x ∈ pg.bn)
def tyNm (c : Cc) : Expr → Bool
  | .Name x _ => blB pg c x
  | _ => false
def isiCls (c : Cc) (ts : List Ty) : Expr → Bool
  | .Name x _ => (match ts with
    | [t] => decide (x = Str.ofString t.name) && blB pg c x
    | _ => false)
  | .Tuple es _ _ => tyNames ts es && es.all (tyNm pg c) && decide (ts.length ≤ lim)
  | _ => false
def sameLit : E → D → Bool
  | .int a, .int b => decide (a = b)
  | .bl a, .bl b => a == b
  | .non, .non => true
  | _, _ => false
mutual
def chkE : E → Cc → Expr → Bool
  | .nm i, c, e => (match e with | .Name x _ => nmOk c i x | _ => false)
  | .pk i, c, e => (match e with | .Name x _ => nmOk c i x | _ => false)
  | .int n, _, e => (match e with | .Constant (.int m) _ _ => decide (n = m) | _ => false)
  | .bl b, _, e => (match e with | .Constant (.bool m) _ _ => b == m | _ => false)
  | .non, _, e => (match e with | .Constant .none _ _ => true | _ => false)
  | .str x, _, e => (match e with | .Constant (.str m) _ _ => decide (x = m) | _ => false)
  | .glob j, c, e => (match e with | .Name x _ => decide (pg.gn[j]? = some x) && glB c x | _ => false)
  | .tup es, c, e => (match e with | .Tuple xs _ _ => chkEs es c xs && strictEs es && decide (es.len ≤ lim) | _ => false)
  | .dict0, _, e => (match e with | .Dict [] [] _ => true | _ => false)
  | .frz f, c, e => chkF f c e
  | .bin o a b, c, e => (match e with | .BinOp x o' y _ => decide (o = o') && chkE a c x && chkE b c y | _ => false)
  | .un o a, c, e => (match e with | .UnaryOp o' x _ => decide (o = o') && chkE a c x | _ => false)
  | .cmp o a b, c, e => (match e with | .Compare x [o'] [y] _ => decide (o = o') && chkE a c x && chkE b c y && notSet y | _ => false)
  | .chain o1 o2 a b d, c, e => (match e with | .Compare x [p1, p2] [y, z] _ => decide (o1 = p1) && decide (o2 = p2) && chkE a c x && chkE b c y && chkE d c z && notSet z | _ => false)
  | .and es, c, e => (match e with | .BoolOp .And xs _ => chkEs es c xs && strictEs es && decide (0 < es.len) | _ => false)
  | .or es, c, e => (match e with | .BoolOp .Or xs _ => chkEs es c xs && strictEs es && decide (0 < es.len) | _ => false)
  | .not a, c, e => (match e with | .UnaryOp .Not x _ => chkE a c x && strict a | _ => false)
  | .ite t a b, c, e => (match e with | .IfExp y x z _ => chkT t c y && chkE a c x && chkE b c z && strict a && strict b | _ => false)
  | .call f es, c, e => (match e with | .Call (.Name x _) xs [] _ => (match pg.fns[f]? with | some fi => decide (fi.name = x) | none => false) && glB c x && chkEs es c xs && strictEs es && (pg.kw f).isNone && (pg.ms f).isNone | _ => false)
  | .callK f es a, c, e => (match e with
    | .Call (.Name x _) xs kws _ => (match pg.fns[f]? with | some fi => decide (fi.name = x) | none => false) && glB c x && chkEs es c xs && strictEs es && decide (0 < es.len) && (pg.ms f).isNone && (match pg.kw f with
      | some (kn, d) => (match kws with
        | [] => sameLit a d
        | [⟨some y, v, _⟩] => decide (y = kn) && chkE a c v && strict a
        | _ => false)
      | none => false)
    | _ => false)
  | .bi b es, c, e => (match e with | .Call (.Name x _) xs [] _ => decide (x = Str.ofString b.name) && blB pg c x && chkEs es c xs && decide (0 < es.len) | _ => false)
  | .isi a ts, c, e => (match e with | .Call (.Name x _) [y, z] [] _ => decide (x = Str.ofString "isinstance") && blB pg c x && chkE a c y && notStar y && isiCls pg c ts z | _ => false)
  | .sub a b, c, e => (match e with | .Subscript x y _ => chkE a c x && chkE b c y && notSlice y | _ => false)
  | .slice a lo hi, c, e => (match e with | .Subscript x (.Slice l h none _) _ => chkE a c x && chkO lo c l && chkO hi c h | _ => false)
  | .shr f, c, e => chkF f c e
  | .rev a, c, e => (match e with | .Subscript x (.Slice none none (some (.UnaryOp .USub (.Constant (.int 1) _ _) _)) _) _ => chkE a c x | _ => false)
  | .upper a, c, e => (match e with | .Call (.Attribute (.Name y py) m apos) [] [] p => decide (m = Str.ofString "upper") && chkE a c (.Name y py) && (apos.endLine == p.line) | _ => false)
  | .join a b, c, e => (match e with | .Call (.Attribute y m apos) [z] [] p => decide (m = Str.ofString "join") && chkE a c y && chkE b c z && baseOk y && notStar z && (apos.endLine == p.line) | _ => false)
  | .parti a b, c, e => (match e with | .Call (.Attribute y m apos) [z] [] p => decide (m = Str.ofString "partition") && chkE a c y && chkE b c z && baseOk y && notStar z && (apos.endLine == p.line) | _ => false)
  | .lset a, c, e => (match e with | .Call (.Name x _) [.Call (.Name x2 _) [y] [] _] [] _ => decide (x = Str.ofString "len") && blB pg c x && decide (x2 = Str.ofString "set") && blB pg c x2 && chkE a c y && notStar y | _ => false)
  | .tupR a b, c, e => (match e with | .Call (.Name x _) [.Call (.Name x2 _) [y, z] [] _] [] _ => decide (x = Str.ofString "tuple") && blB pg c x && decide (x2 = Str.ofString "range") && blB pg c x2 && chkE a c y && notStar y && chkE b c z && notStar z | _ => false)
  | .dcomp u g it ts key val vs, c, e => (match e with
    | .DictComp x y [⟨tg, iter, ifs, n⟩] scope _ => decide (n = 0) && blkC c.N c.sc scope (ownOf c vs) && chkTg c.N (relS scope c.sc) (inner c scope).fn g tg && g.slots.all (fun i => decide (i ∈ vs)) && chkI it c tg iter &&
        chkTs ts (inner c scope) ifs && decide (ifs.length ≤ 1) && chkE key (inner c scope) x && strict key && chkE val (inner c scope) y && strict val
    | _ => false)
  | .att a f, c, e => (match e with | .Attribute x g _ => decide (f = g) && chkE a c x && strict a && baseOk x | _ => false)
  | .new cn ns es, c, e => (match e with | .Call (.Name x _) xs [] _ => decide (x = cn) && glB c x && decide ((cn, ns) ∈ pg.cs) && chkEs es c xs && strictEs es && decide (0 < es.len) | _ => false)
  | .meth f cn m a, c, e => (match e with | .Call (.Attribute x m' apos) [] [] p => decide (m = m') && decide (pg.ms f = some (cn, m)) && chkE a c x && strict a && baseOk x && (apos.endLine == p.line) && (pg.kw f).isNone | _ => false)
  | .index a b, c, e => (match e with | .Call (.Attribute (.Name y py) m apos) [z] [] p => decide (m = Str.ofString "index") && chkE a c (.Name y py) && chkE b c z && notStar z && (apos.endLine == p.line) | _ => false)
def chkO : Eo → Cc → Option Expr → Bool
  | .no, _, o => (match o with | none => true | _ => false)
  | .so e, c, o => (match o with | some x => chkE e c x | _ => false)
def chkEs : Es → Cc → List Expr → Bool
  | .nil, _, xs => (match xs with | [] => true | _ => false)
  | .cons e es, c, xs => (match xs with | x :: r => chkE e c x && notStar x && chkEs es c r | _ => false)
def chkT : T → Cc → Expr → Bool
  | .val a, c, e => chkE a c e && plainT e
  | .cmp o a b, c, e => (match e with | .Compare x [o'] [y] _ => decide (o = o') && chkE a c x && chkE b c y && notSet y | _ => false)
  | .chain o1 o2 a b d, c, e => (match e with | .Compare x [p1, p2] [y, z] _ => decide (o1 = p1) && decide (o2 = p2) && chkE a c x && chkE b c y && chkE d c z && notSet z | _ => false)
  | .and ts, c, e => (match e with | .BoolOp .And xs _ => chkTs ts c xs && !xs.isEmpty | _ => false)
  | .or ts, c, e => (match e with | .BoolOp .Or xs _ => chkTs ts c xs && !xs.isEmpty | _ => false)
  | .not t, c, e => (match e with | .UnaryOp .Not x _ => chkT t c x | _ => false)
def chkTs : Ts → Cc → List Expr → Bool
  | .nil, _, xs => (match xs with | [] => true | _ => false)
  | .cons t ts, c, xs => (match xs with | x :: r => chkT t c x && chkTs ts c r | _ => false)
def chkI : I → Cc → Expr → Expr → Bool
  | .seq a, c, _, e => chkE a c e && strict a && notSet e
  | .range1 a, c, _, e => (match e with | .Call (.Name x _) [y] [] _ => decide (x = Str.ofString "range") && blB pg c x && chkE a c y && notStar y | _ => false)
  | .range2 a b, c, _, e => (match e with | .Call (.Name x _) [y, z] [] _ => decide (x = Str.ofString "range") && blB pg c x && chkE a c y && notStar y && chkE b c z && notStar z | _ => false)
  | .enum a, c, tg, e => (match e with | .Call (.Name x _) [y] [] _ => decide (x = Str.ofString "enumerate") && blB pg c x && chkE a c y && notStar y && strict a && isTup tg | _ => false)
  | .zip a b, c, tg, e => (match e with | .Call (.Name x _) [y, z] [] _ => decide (x = Str.ofString "zip") && blB pg c x && chkE a c y && notStar y && strict a && chkE b c z && notStar z && strict b && isTup tg | _ => false)
def chkF : F → Cc → Expr → Bool
  | .disp es, c, e => (match e with | .List xs _ => chkEs es c xs && strictEs es && decide (es.len ≤ lim) | _ => false)
  | .comp g it ts elt vs, c, e => (match e with
    | .ListComp x [⟨tg, iter, ifs, n⟩] scope _ => decide (n = 0) && blkC c.N c.sc scope (ownOf c vs) && chkTg c.N (relS scope c.sc) (inner c scope).fn g tg && g.slots.all (fun i => decide (i ∈ vs)) && chkI it c tg iter &&
        chkTs ts (inner c scope) ifs && decide (ifs.length ≤ 1) && chkE elt (inner c scope) x && strict elt
    | _ => false)
  | .list a, c, e => (match e with | .Call (.Name x _) [y] [] _ => decide (x = Str.ofString "list") && blB pg c x && chkE a c y && notStar y | _ => false)
  | .sorted a, c, e => (match e with | .Call (.Name x _) [y] [] _ => decide (x = Str.ofString "sorted") && blB pg c x && chkE a c y && notStar y | _ => false)
  | .vals a, c, e => (match e with | .Call (.Name x _) [.Call (.Attribute y m apos) [] [] p] [] _ => decide (x = Str.ofString "list") && blB pg c x && decide (m = Str.ofString "values") && chkE a c y && baseOk y && (apos.endLine == p.line) | _ => false)
  | .listz a b, c, e => (match e with | .Call (.Name x _) [.Call (.Name x2 _) [y, z] [] _] [] _ => decide (x = Str.ofString "list") && blB pg c x && decide (x2 = Str.ofString "zip") && blB pg c x2 && chkE a c y && strict a && notStar y && chkE b c z && strict b && notStar z | _ => false)
  | .split a b, c, e => (match e with | .Call (.Attribute y m apos) [z] [] p => decide (m = Str.ofString "split") && chkE a c y && chkE b c z && baseOk y && notStar z && (apos.endLine == p.line) | _ => false)
  | .listR a b, c, e => (match e with | .Call (.Name x _) [.Call (.Name x2 _) [y, z] [] _] [] _ => decide (x = Str.ofString "list") && blB pg c x && decide (x2 = Str.ofString "range") && blB pg c x2 && chkE a c y && notStar y && chkE b c z && notStar z | _ => false)
  | .listR1 a, c, e => (match e with | .Call (.Name x _) [.Call (.Name x2 _) [y] [] _] [] _ => decide (x = Str.ofString "list") && blB pg c x && decide (x2 = Str.ofString "range") && blB pg c x2 && chkE a c y && notStar y | _ => false)
  | .cat a b, c, e => (match e with | .BinOp x .Add y _ => chkE a c x && chkE b c y | _ => false)
  | .cut a lo hi, c, e => (match e with | .Subscript x (.Slice l h none _) _ => chkE a c x && chkO lo c l && chkO hi c h | _ => false)
  | .rep a b, c, e => (match e with | .BinOp x .Mult y _ => chkE a c x && chkE b c y | _ => false)
end
end
/-- where a def stands: at a name of the module, or in a class -/
def AtF (K : PySem.W.Frag) (mg : Str → Option Value) (name : Str) (ad : Addr) : Option (Str × Str) → Prop
  | none => mg name = some (.ref ad) ∧ PySem.W.keepIn K (.ref ad) = true
  | some (cn, m) => ∃ C, PySem.W.nsIn K mainGlobals cn = some (some (.ref C)) ∧ Meth K C m ad
/-- a class whose objects are made of their fields -/
structure ClsOk (P : Program) (w : World) (K : PySem.W.Frag) (mg : Str → Option Value) (base : Heap) (cn : Str) (ns : List Str) : Prop where
  ex : ∃ C fI fd ps, mg cn = some (.ref C) ∧ Mk K C fI ∧ InsK K cn C ∧ (∀ n ∈ ns, NoAttr K C n) ∧ Binds K fd ps [] ∧ FnOk P w K mg base CX0 1 fI fd ps (fun vs H Q _ => ∃ x C dx ys, vs = .ref x :: ys ∧ H x = some (.ins C dx []) ∧ Cls K C ∧ (∀ n ∈ ns, NoAttr K C n) ∧ ys.length = ns.length ∧ Q .non (upd H x (.ins C dx (ns.zip ys))))
/-- what the context gives -/
structure GX (pg : Pg) (k : Nat) (X : Cx) : Prop where
  calm : X.calm = true
  nd : X.N.Nodup
  room : Room (k + 3) X.A
  gd : X.A.guards = some []
  glob : ∀ (j : Nat) x d, pg.gn[j]? = some x → pg.gl[j]? = some d → ∃ u v, X.mg x = some u ∧ RelV v u ∧ ∀ g H, Rep X.kk g H d v
  blt : ∀ x ∈ pg.bn, X.mg x = none
  fns : ∀ (f : Nat) fi, pg.fns[f]? = some fi → ∃ ad fd ps, AtF X.kk X.mg fi.name ad (pg.ms f) ∧ FB X.kk fd ps (pg.kw f) ∧ FnG X.prog X.w X.kk X.mg X.base (k + 3) ad fd ps (spD X.kk pg k f)
  cls : ∀ cn ns, (cn, ns) ∈ pg.cs → ClsOk X.prog X.w X.kk X.mg X.base cn ns
  xs : ∀ cn f, (cn, f) ∈ pg.es → ExcOk X.kk X.mg cn f
  x0 : ∀ cn ∈ pg.e0, Exc0 X.kk X.mg cn
  xm : ∀ cn hc b, (cn, hc, b) ∈ pg.xm → ∃ C1 C2, PySem.W.nsIn X.kk mainGlobals cn = some (some (.ref C1)) ∧ X.mg hc = some (.ref C2) ∧ PySem.W.exmOne X.kk (.ref C1) (.ref C2) = some b
theorem GX.blk {pg : Pg} {k : Nat} {X : Cx} (h : GX pg k X) (s : Shared) (H : Hp) (scope : Scope) (cenv : PySem.Env) (fp : List Addr) : GX pg k (X.blk s H scope cenv fp) := ⟨h.calm, h.nd, h.room, h.gd, h.glob, h.blt, h.fns, h.cls, h.xs, h.x0, h.xm⟩
theorem GX.tr {pg : Pg} {k : Nat} {X : Cx} (h : GX pg k X) (pn : List (Addr × Obj)) (xe : Value → Shared → Prop) : GX pg k (X.tr pn xe) := ⟨h.calm, h.nd, h.room, h.gd, h.glob, h.blt, h.fns, h.cls, h.xs, h.x0, h.xm⟩
theorem GX.u66 {pg : Pg} {k : Nat} {X : Cx} (h : GX pg k X) : X.A.units + 66 < cLine := by have := h.room.un; omega
theorem GX.u70 {pg : Pg} {k : Nat} {X : Cx} (h : GX pg k X) : X.A.units + 70 < cLine := by have := h.room.un; omega
/-- the context is the one that was looked at -/
structure CX (c : Cc) (X : Cx) : Prop where
  N : X.N = c.N
  sc : X.env.scope = c.sc
  fn : X.fn = c.fn
section
variable {pg : Pg} {k : Nat} {X : Cx} {c : Cc} {x : Str}
theorem nmOk_ok (w : CX c X) {i : Nat} (h : nmOk c i x = true) : X.N[i]? = some x ∧ Vis X.env.scope x ∧ (x == ("__debug__" : Str)) = false ∧ (x == ("__classdict__" : Str)) = false := by
  unfold nmOk at h
  simp only [Bool.and_eq_true, decide_eq_true_eq, Bool.not_eq_true'] at h
  rw [w.N, w.sc]
  exact ⟨h.1.1.1, visB_ok h.1.1.2, h.1.2, h.2⟩
theorem glB_ok (w : CX c X) (h : glB c x = true) : Gl X x ∧ (x == ("__debug__" : Str)) = false := by
  unfold glB at h
  simp only [Bool.and_eq_true, decide_eq_true_eq, Bool.not_eq_true'] at h
  refine ⟨?_, h.2⟩
  show X.env.scope.names.lookup x = _
  rw [w.sc]; exact h.1
theorem blB_ok (gx : GX pg k X) (w : CX c X) (h : blB pg c x = true) : Gl X x ∧ X.mg x = none := by
  unfold blB at h
  simp only [Bool.and_eq_true, decide_eq_true_eq] at h
  exact ⟨(glB_ok w h.1).1, gx.blt x h.2⟩
theorem notSet_ok {op : CmpOp} {b : Expr} (h : notSet b = true) : behindInMarks op b = false := by cases b <;> first | rfl | cases h
theorem notSet_ok2 {o1 o2 : CmpOp} {b d : Expr} (h : notSet d = true) : lastMarks [o1, o2] [b, d] = false := notSet_ok h
theorem notSet_it {b : Expr} {env : PySem.Env} (h : notSet b = true) : ∀ x, foldedSetIterable b env x = pure x := by
  cases b <;> first | (intro _; rfl) | cases h
theorem plainT_ok {a : Expr} {env : PySem.Env} (h : plainT a = true) : ∀ whole, isTrue a env whole = (do let v ← whole; standAt a.pos; holding [v] (truthy v)) := by
  cases a with
  | UnaryOp o _ _ => cases o <;> first | (intro _; rfl) | cases h
  | BoolOp _ _ _ => cases h
  | IfExp _ _ _ _ => cases h
  | Compare _ _ _ _ => cases h
  | _ => intro _; rfl
theorem notSlice_ok {b : Expr} (h : notSlice b = true) : PlainIx b := by
  cases b <;> first | (intro _ _; rfl) | cases h
theorem evEs_len {gl : List D} {call : Nat → List D → S → R D} : ∀ {es : Es} {env : Env} {s : S} {ds : List D} {s' : S}, evEs gl call es env s = .ok ds s' → ds.length = es.len
  | .nil, env, s, ds, s', h => by cases h; rfl
  | .cons e es, env, s, ds, s', h => by
    unfold evEs at h
    obtain ⟨x, s1, h1, h⟩ := R.bind_ok_iff h
    obtain ⟨xs, s2, h2, h⟩ := R.bind_ok_iff h
    cases h
    simp [evEs_len h2, Es.len]
theorem weak_of {a : E} {e : Expr} {gl : List D} {call : Nat → List D → S → R D} (w : CX c X) (hc : chkE pg a c e = true) (h : strict a = true → PE X e (TEof X.kk (evE gl call a))) : PE X e (TWof X.kk (evE gl call a)) := by
  cases a with
  | pk i =>
    simp only [chkE] at hc
    split at hc
    · obtain ⟨h1, h2, h3, h4⟩ := nmOk_ok w hc
      exact d_pk h1 h2 h3 h4
    · cases hc
  | _ => exact weak (h rfl)
end
end Fw
namespace Fw
open PySem PySem.Spec PyProof.Rows L2
/-! ## objects made: __init__ kst_mem its fields, one behind another, to its parameters -/
def initB (c : Cc) : Nat → List Str → List Stmt → Bool
  | _, [], [] => true
  | i, f :: fs, .Assign [.Attribute (.Name y _) g _] (.Name z _) _ :: sts => nmOk c 0 y && nmOk c i z && decide (g = f) && initB c (i + 1) fs sts
  | _, _, _ => false
theorem initB_cons {c : Cc} {i : Nat} {f : Str} {fs : List Str} {sts : List Stmt} (h : initB c i (f :: fs) sts = true) : ∃ y py pa z pz ps rest, sts = .Assign [.Attribute (.Name y py) f pa] (.Name z pz) ps :: rest ∧ nmOk c 0 y = true ∧ nmOk c i z = true ∧ initB c (i + 1) fs rest = true := by
  cases sts with
  | nil => simp [initB] at h
  | cons st rest =>
    unfold initB at h
    split at h
    · rename_i q _; cases q
    · rename_i q q2
      cases q; cases q2
      simp only [Bool.and_eq_true, decide_eq_true_eq] at h
      obtain ⟨⟨⟨h1, h2⟩, rfl⟩, h3⟩ := h
      exact ⟨_, _, _, _, _, _, _, rfl, h1, h2, h3⟩
    · cases h
theorem putF_new {f : Str} {v : V} : ∀ {xs : List (Str × V)}, f ∉ xs.map (·.1) → putF f v xs = xs ++ [(f, v)]
  | [], _ => rfl
  | (n, y) :: xs, h => by
    simp only [List.map_cons, List.mem_cons, not_or] at h
    unfold putF
    rw [if_neg (fun z => h.1 z.symm), putF_new h.2]
    rfl
theorem upd_upd {H : Hp} {x : Addr} {a b : HO} : upd (upd H x a) x b = upd H x b := by
  funext y
  by_cases h : y = x
  · subst h; rw [upd_same, upd_same]
  · rw [upd_ne h, upd_ne h, upd_ne h]
theorem upd_id {H : Hp} {x : Addr} {a : HO} (h : H x = some a) : upd H x a = H := by
  funext y
  by_cases q : y = x
  · subst q; rw [upd_same, h]
  · rw [upd_ne q]
theorem init_run {X : Cx} {c : Cc} (w : CX c X) {x C dx : Addr} (cl : Cls X.K C) : ∀ (fs : List Str) (i : Nat) (sts : List Stmt), initB c i fs sts = true → ∃ t, PSs X sts t ∧ ∀ (σ : L2.St) (H : Hp) (done : List (Str × V)) (ys : List V) (D : Ends),
    σ[0]? = some (some (.ref x)) → (∀ j v, ys[j]? = some v → σ[i + j]? = some (some v)) → ys.length = fs.length → H x = some (.ins C dx done) → (∀ n ∈ fs, NoAttr X.K C n) → (done.map (·.1) ++ fs).Nodup → done.length + fs.length < 1000 →
    D.nx σ (upd H x (.ins C dx (done ++ fs.zip ys))) → t D σ H
  | [], i, sts, h => by
    cases sts with
    | cons _ _ => simp [initB] at h
    | nil =>
      refine ⟨_, pss_nil, fun σ H done ys D h0 h1 hl hx hn nd hz hd => ?_⟩
      rw [List.zip_nil_left, List.append_nil, upd_id hx] at hd
      exact hd
  | f :: fs, i, sts, h => by
    obtain ⟨y, py, pa, z, pz, ps, rest, rfl, h1, h2, h3⟩ := initB_cons h
    obtain ⟨a1, a2, a3, a4⟩ := nmOk_ok w h1
    obtain ⟨b1, b2, b3, b4⟩ := nmOk_ok w h2
    obtain ⟨t, p1, p2⟩ := init_run w (dx := dx) (x := x) cl fs (i + 1) rest h3
    refine ⟨_, pss_cons (ps_fld (pe_var a1 a2 a3 a4) (pe_var b1 b2 b3 b4) rfl) p1, fun σ H done ys D h0 h1 hl hx hn nd hz hd => ?_⟩
    cases ys with
    | nil => simp at hl
    | cons v ys =>
      have hnd := List.nodup_append.mp nd
      have hf : f ∉ done.map (·.1) := fun z => hnd.2.2 f z f (List.mem_cons_self ..) rfl
      refine ⟨v, by simpa using h1 0 v rfl, .ref x, h0, x, C, dx, done, rfl, hx, cl, hn f (List.mem_cons_self ..), by simp at hz; omega, ?_⟩
      rw [putF_new hf]
      refine p2 σ _ (done ++ [(f, v)]) ys D h0 (fun j v' e => ?_) (by simpa using hl) upd_same (fun n hn' => hn n (List.mem_cons_of_mem _ hn')) ?_ (by simp at hz ⊢; omega) ?_
      · have := h1 (j + 1) v' (by simpa using e)
        rwa [show i + (j + 1) = i + 1 + j by omega] at this
      · simpa [List.append_assoc] using nd
      · rw [upd_upd]
        simpa [List.append_assoc] using hd
def spI (K : PySem.W.Frag) (ns : List Str) : Sp := fun vs H Q _ => ∃ x C dx ys, vs = .ref x :: ys ∧ H x = some (.ins C dx []) ∧ Cls K C ∧ (∀ n ∈ ns, NoAttr K C n) ∧ ys.length = ns.length ∧ Q .non (upd H x (.ins C dx (ns.zip ys)))
theorem init_ok {P : Program} {w : World} {K : PySem.W.Frag} {mg : Str → Option Value} {base : Heap} {f : Addr} {fd : FuncData} {name qual : Str} {params : Arguments} {body : List Stmt} {scope : Scope} {N ns : List Str} {kws : List (Str × V)}
    (F : FunD K name qual params body scope [] kws f fd) (sc : FnScope N N scope) (hN : N.length = ns.length + 1) (nd : ns.Nodup) (hl : ns.length < 1000) (hb : initB ⟨N, scope, fun _ => true⟩ 1 ns body = true) :
    FnOk P w K mg base CX0 1 f fd N (spI K ns) := by
  refine FunD.ok (k := 0) F sc (fun vs H Q E ⟨x, C, dx, ys, e, _, _, _, l, _⟩ => by rw [e, hN, ← l]; rfl) fun cdv A outer s H vs Q E hr ⟨x, C, dx, ys, e, hx, cl, hn, l, q⟩ => ?_
  subst e
  obtain ⟨t, p1, p2⟩ := init_run (X := cxOf CX0 P w K mg base N qual scope f cdv A outer s H E) (c := ⟨N, scope, fun _ => true⟩) ⟨rfl, rfl, rfl⟩ (x := x) (dx := dx) cl ns 1 body hb
  refine ⟨t, p1, p2 _ H [] ys _ ?_ (fun j v hj => ?_) l hx hn (by simpa using nd) (by simpa using hl) (by simpa using q)⟩
  · unfold L2.start; simp
  · unfold L2.start
    have hlt : j < ys.length := by
      rcases Nat.lt_or_ge j ys.length with z | z
      · exact z
      · rw [List.getElem?_eq_none z] at hj; cases hj
    rw [List.getElem?_append_left (by simp; omega), Nat.add_comm 1 j]
    simp [hj]
section
variable {X : Cx} {e : Expr} {es : List Expr} {pos p : Pos} {cn : Str} {eves : Env → S → R (List D)} {C fI : Addr} {fd : FuncData} {ps ns : List Str}
theorem d_new (M : Mk X.K C fI) (F : FnOk X.prog X.w X.K X.mg X.base CX0 1 fI fd ps (spI X.K ns)) (hr : Room 2 X.A) (hg : Gl X cn) (hm : X.mg cn = some (.ref C)) (hb : Binds X.K fd ps []) (ik : InsK X.K cn C) (hna : ∀ n ∈ ns, NoAttr X.K C n)
    (ha : PA X (e :: es) (TAof X.kk eves)) (hdb : (cn == ("__debug__" : Str)) = false) (hns : (e :: es).all notStar = true) :
    PE X (.Call (.Name cn p) (e :: es) [] pos) (TEof X.kk fun env s => (eves env s).bind fun ds s => if ds.length = ns.length then .ok (.ins cn ns ds) s else .no) := by
  rw [List.all_cons, Bool.and_eq_true] at hns
  refine (pe_make (E := E0) M F hr hg hm hb .nil pass0 ha hdb (star_ns hns.1) (any_ns hns.2)).imp fun σ H Q ⟨H0, g, env, s, d, s', eo, ss, hev, hq⟩ => ?_
  obtain ⟨ds, s1, h1, hev⟩ := R.bind_ok_iff hev
  split at hev
  · rename_i hl
    cases hev
    refine ⟨H0, g, env, s, ds, _, eo, ss, h1, fun g1 H1 vs e1 ss1 r1 x dx hx hdx ne => ?_⟩
    have hvl : vs.length = ns.length := by rw [r1.length, hl]
    refine ⟨x, C, dx, vs ++ [], rfl, upd_same, ik.cl, hna, by rw [List.append_nil]; exact hvl, rfl, ?_⟩
    rw [List.append_nil, upd_upd]
    have x1 : Ext X.kk g1 H1 g1 (upd H1 dx (.own x)) := Ext.new hdx
    have hx2 : upd H1 dx (.own x) x = none := by rw [upd_ne (fun z => ne z.symm)]; exact hx
    have x2 : Ext X.kk g1 H1 g1 (upd (upd H1 dx (.own x)) x (.ins C dx (ns.zip vs))) := x1.trans (Ext.new hx2)
    have s2 := (ss1.new (o := .own x) hdx).new (o := .ins C dx (ns.zip vs)) hx2
    have x3 := Ext.frz x2 hx
    refine hq _ _ _ (e1.trans x3) (s2.frz' (fun z => ss1.fresh_io hx z) (by rw [upd_same]; simp)) ?_
    refine ⟨x, C, dx, ns.zip vs, rfl, .inr rfl, upd_same, ik, hna, ?_, vs, ?_, Reps.ext x3 _ _ r1⟩
    · rw [List.map_fst_zip]; omega
    · rw [List.map_snd_zip]; omega
  · cases hev
end
end Fw
namespace Fw
open PySem PySem.Spec PyProof.Rows L2
/-! ## M. expressions -/
section
variable {pg : Pg} {k : Nat}
theorem chkEs_ns : ∀ {es : Es} {c : Cc} {xs : List Expr}, chkEs pg es c xs = true → xs.all notStar = true
  | .nil, c, xs, h => by
    cases xs with
    | nil => rfl
    | cons _ _ => simp [chkEs] at h
  | .cons e es, c, xs, h => by
    cases xs with
    | nil => simp [chkEs] at h
    | cons x r =>
      simp only [chkEs, Bool.and_eq_true] at h
      rw [List.all_cons, h.1.2, chkEs_ns h.2]; rfl
mutual
theorem sndE : ∀ (a : E) (X : Cx) (c : Cc) (e : Expr), GX pg k X → CX c X → chkE pg a c e = true → strict a = true → PE X e (TEof X.kk (evE pg.gl (callN pg k) a))
  | .nm i, X, c, e, gx, w, h, _ => by
    simp only [chkE] at h
    split at h
    · obtain ⟨h1, h2, h3, h4⟩ := nmOk_ok w h
      exact d_nm h1 h2 h3 h4
    · cases h
  | .pk i, X, c, e, gx, w, h, hs => by cases hs
  | .int n, X, c, e, gx, w, h, _ => by
    simp only [chkE] at h
    split at h
    · cases of_decide_eq_true h
      exact d_const pe_int fun _ _ => rfl
    · cases h
  | .bl n, X, c, e, gx, w, h, _ => by
    simp only [chkE] at h
    split at h
    · cases eq_of_beq h
      exact d_const pe_bl fun _ _ => rfl
    · cases h
  | .non, X, c, e, gx, w, h, _ => by
    simp only [chkE] at h
    split at h
    · exact d_const pe_non fun _ _ => rfl
    · cases h
  | .str n, X, c, e, gx, w, h, _ => by
    simp only [chkE] at h
    split at h
    · cases of_decide_eq_true h
      exact d_const pe_str fun _ _ => rfl
    · cases h
  | .glob j, X, c, e, gx, w, h, _ => by
    simp only [chkE] at h
    split at h
    · rw [Bool.and_eq_true, decide_eq_true_eq] at h
      obtain ⟨h1, h2⟩ := glB_ok w h.2
      refine d_lift (d := .non) fun d hd => ?_
      obtain ⟨u, v, q1, q2, q3⟩ := gx.glob j _ d h.1 hd
      exact d_const (pe_glob h1 q1 q2 h2) q3
    · cases h
  | .tup es, X, c, e, gx, w, h, _ => by
    simp only [chkE] at h
    split at h
    · simp only [Bool.and_eq_true, decide_eq_true_eq] at h
      exact d_tup (sndEs es X c _ gx w h.1.1 h.1.2) fun env s ds s' q => by rw [evEs_len q]; exact h.2
    · cases h
  | .dict0, X, c, e, gx, w, h, _ => by
    simp only [chkE] at h
    split at h
    · exact d_dict0 (by have := gx.u66; omega)
    · cases h
  | .frz f, X, c, e, gx, w, h, _ => d_frz (sndF f X c e gx w h)
  | .bin o a b, X, c, e, gx, w, h, _ => by
    simp only [chkE] at h
    split at h
    · simp only [Bool.and_eq_true, decide_eq_true_eq] at h
      obtain ⟨⟨rfl, h1⟩, h2⟩ := h
      exact d_bin (weak_of w h1 (sndE a X c _ gx w h1)) (weak_of w h2 (sndE b X c _ gx w h2)) _
    · cases h
  | .un o a, X, c, e, gx, w, h, _ => by
    simp only [chkE] at h
    split at h
    · simp only [Bool.and_eq_true, decide_eq_true_eq] at h
      obtain ⟨rfl, h1⟩ := h
      exact d_un (weak_of w h1 (sndE a X c _ gx w h1)) _
    · cases h
  | .cmp o a b, X, c, e, gx, w, h, _ => by
    simp only [chkE] at h
    split at h
    · simp only [Bool.and_eq_true, decide_eq_true_eq] at h
      obtain ⟨⟨⟨rfl, h1⟩, h2⟩, h3⟩ := h
      exact d_cmp gx.u66 (weak_of w h1 (sndE a X c _ gx w h1)) (weak_of w h2 (sndE b X c _ gx w h2)) _ (notSet_ok h3)
    · cases h
  | .chain o1 o2 a b d, X, c, e, gx, w, h, _ => by
    simp only [chkE] at h
    split at h
    · simp only [Bool.and_eq_true, decide_eq_true_eq] at h
      obtain ⟨⟨⟨⟨⟨rfl, rfl⟩, h1⟩, h2⟩, h3⟩, h4⟩ := h
      exact d_chain gx.u66 (weak_of w h1 (sndE a X c _ gx w h1)) (weak_of w h2 (sndE b X c _ gx w h2)) (weak_of w h3 (sndE d X c _ gx w h3)) _ _ (notSet_ok2 h4)
    · cases h
  | .and es, X, c, e, gx, w, h, _ => by
    simp only [chkE] at h
    split at h
    · simp only [Bool.and_eq_true, decide_eq_true_eq] at h
      exact sndAnd es X c _ _ gx w h.1.1 h.1.2 h.2
    · cases h
  | .or es, X, c, e, gx, w, h, _ => by
    simp only [chkE] at h
    split at h
    · simp only [Bool.and_eq_true, decide_eq_true_eq] at h
      exact sndOr es X c _ _ gx w h.1.1 h.1.2 h.2
    · cases h
  | .not a, X, c, e, gx, w, h, _ => by
    simp only [chkE] at h
    split at h
    · simp only [Bool.and_eq_true] at h
      exact d_not (sndE a X c _ gx w h.1 h.2)
    · cases h
  | .ite t a b, X, c, e, gx, w, h, _ => by
    simp only [chkE] at h
    split at h
    · simp only [Bool.and_eq_true] at h
      exact d_ite (sndT t X c _ gx w h.1.1.1.1) (sndE a X c _ gx w h.1.1.1.2 h.1.2) (sndE b X c _ gx w h.1.1.2 h.2)
    · cases h
  | .call f es, X, c, e, gx, w, h, _ => by
    simp only [chkE] at h
    split at h
    · rename_i x px xs pos
      simp only [Bool.and_eq_true] at h
      obtain ⟨⟨⟨⟨⟨h1, h2⟩, h3⟩, h4⟩, h5⟩, h9⟩ := h
      split at h1
      · rename_i fi hfi
        cases of_decide_eq_true h1
        obtain ⟨ad, fd, ps, q1, q3, q4⟩ := gx.fns f fi hfi
        rw [Option.isNone_iff_eq_none.mp h9] at q1
        obtain ⟨q1, q2⟩ := q1
        rw [Option.isNone_iff_eq_none.mp h5] at q3
        obtain ⟨g1, g2⟩ := glB_ok w h2
        have hns := chkEs_ns h3
        have hA := sndEs es X c _ gx w h3 h4
        cases xs with
        | nil =>
          cases es with
          | nil => exact d_call0 q4 gx.room gx.gd g1 q1 q2 q3 g2
          | cons _ _ => simp [chkEs] at h3
        | cons y ys => exact d_callC q4 gx.room gx.gd g1 q1 q2 q3 hA g2 hns
      · cases h1
    · cases h
  | .callK f es a, X, c, e, gx, w, h, _ => by
    simp only [chkE] at h
    split at h
    · rename_i x px xs kws pos
      simp only [Bool.and_eq_true, decide_eq_true_eq] at h
      obtain ⟨⟨⟨⟨⟨⟨h1, h2⟩, h3⟩, h4⟩, h6⟩, h9⟩, h5⟩ := h
      split at h1
      · rename_i fi hfi
        cases of_decide_eq_true h1
        obtain ⟨ad, fd, ps, q1, q3, q4⟩ := gx.fns f fi hfi
        rw [Option.isNone_iff_eq_none.mp h9] at q1
        obtain ⟨q1, q2⟩ := q1
        obtain ⟨g1, g2⟩ := glB_ok w h2
        have hns := chkEs_ns h3
        have hA := sndEs es X c _ gx w h3 h4
        cases xs with
        | nil =>
          cases es with
          | nil => cases h6
          | cons _ _ => simp [chkEs] at h3
        | cons y ys =>
          split at h5
          · rename_i kn dd hkw
            rw [hkw] at q3
            split at h5
            · have key := d_callD (p := px) (pos := pos) q4 gx.room gx.gd g1 q1 q2 q3 hA g2 hns
              have e1 : ∀ (env : Env) (s : S), evE pg.gl (callN pg k) a env s = .ok dd s := fun env s => by
                unfold sameLit at h5
                split at h5
                · cases of_decide_eq_true h5; simp only [evE]
                · cases eq_of_beq h5; simp only [evE]
                · simp only [evE]
                · cases h5
              refine key.imp fun σ H Q z => ?_
              have e2 : (evE pg.gl (callN pg k) (.callK f es a)) = fun env s => (evEs pg.gl (callN pg k) es env s).bind fun ds s => callN pg k f (ds ++ [dd]) s := by
                funext env s
                simp only [evE]
                congr 1
                funext ds s
                rw [e1]; rfl
              rw [e2] at z
              exact z
            · rename_i y2 v vp
              simp only [Bool.and_eq_true, decide_eq_true_eq] at h5
              obtain ⟨⟨rfl, h7⟩, h8⟩ := h5
              have key := d_callK (p := px) (pos := pos) (kp := vp) q4 gx.room gx.gd g1 q1 q2 q3 hA (sndE a X c v gx w h7 h8) g2 hns
              refine key.imp fun σ H Q z => ?_
              simp only [evE] at z
              exact z
            · cases h5
          · cases h5
      · cases h1
    · cases h
  | .att a f, X, c, e, gx, w, h, _ => by
    simp only [chkE] at h
    split at h
    · simp only [Bool.and_eq_true, decide_eq_true_eq] at h
      obtain ⟨⟨⟨rfl, h1⟩, h2⟩, h3⟩ := h
      exact d_att (sndE a X c _ gx w h1 h2) h3
    · cases h
  | .new cn ns es, X, c, e, gx, w, h, _ => by
    simp only [chkE] at h
    split at h
    · rename_i x px xs pos
      simp only [Bool.and_eq_true, decide_eq_true_eq] at h
      obtain ⟨⟨⟨⟨⟨rfl, h2⟩, h3⟩, h4⟩, h5⟩, h6⟩ := h
      obtain ⟨C, fI, fd, ps, q1, q2, q3, q4, q5, q6⟩ := (gx.cls _ _ h3).ex
      obtain ⟨g1, g2⟩ := glB_ok w h2
      have hns := chkEs_ns h4
      have hA := sndEs es X c _ gx w h4 h5
      cases xs with
      | nil =>
        cases es with
        | nil => cases h6
        | cons _ _ => simp [chkEs] at h4
      | cons y ys => exact d_new q2 q6 (gx.room.mono (by omega)) g1 q1 q5 q3 q4 hA g2 hns
    · cases h
  | .meth f cn m a, X, c, e, gx, w, h, _ => by
    simp only [chkE] at h
    split at h
    · rename_i x m' apos p
      simp only [Bool.and_eq_true, decide_eq_true_eq] at h
      obtain ⟨⟨⟨⟨⟨⟨rfl, h2⟩, h3⟩, h4⟩, h5⟩, h6⟩, h7⟩ := h
      cases hfi : pg.fns[f]? with
      | none =>
        refine ⟨fun pins s σ H Q I ⟨H0, g, env, s0, d, s', eo, ss, hev, hq⟩ => ?_⟩
        simp only [evE] at hev
        obtain ⟨y, s1, _, hev⟩ := R.bind_ok_iff hev
        split at hev
        · cases k with
          | zero => cases hev
          | succ k => unfold callN at hev; rw [hfi] at hev; cases hev
        · cases hev
      | some fi =>
        obtain ⟨ad, fd, ps, q1, q3, q4⟩ := gx.fns f fi hfi
        rw [h2] at q1
        rw [Option.isNone_iff_eq_none.mp h7] at q3
        obtain ⟨C, q1, q2⟩ := q1
        exact d_meth q4 gx.room gx.gd q1 q2 q3 (sndE a X c _ gx w h3 h4) h5 h6
    · cases h
  | .bi b es, X, c, e, gx, w, h, _ => by
    simp only [chkE] at h
    split at h
    · simp only [Bool.and_eq_true, decide_eq_true_eq] at h
      obtain ⟨⟨⟨h1, h2⟩, h3⟩, h4⟩ := h
      obtain ⟨g1, g2⟩ := blB_ok gx w h2
      have hns := chkEs_ns h3
      have hA := sndWs es X c _ gx w h3
      rename_i xs _
      cases xs with
      | nil =>
        cases es with
        | nil => exact absurd h4 (by decide)
        | cons _ _ => simp [chkEs] at h3
      | cons y ys => exact d_bi gx.calm gx.gd gx.u70 b h1 g1 g2 hA hns
    · cases h
  | .isi a ts, X, c, e, gx, w, h, _ => by
    simp only [chkE] at h
    split at h
    · simp only [Bool.and_eq_true, decide_eq_true_eq] at h
      obtain ⟨⟨⟨⟨rfl, h2⟩, h3⟩, h4⟩, h5⟩ := h
      obtain ⟨g1, g2⟩ := blB_ok gx w h2
      have ha := weak_of w h3 (sndE a X c _ gx w h3)
      unfold isiCls at h5
      split at h5
      · split at h5
        · simp only [Bool.and_eq_true, decide_eq_true_eq] at h5
          obtain ⟨q1, q2⟩ := blB_ok gx w h5.2
          exact d_isi _ g1 g2 ha h5.1 q1 q2 h4
        · cases h5
      · simp only [Bool.and_eq_true, decide_eq_true_eq, List.all_eq_true] at h5
        obtain ⟨⟨q1, q2⟩, q3⟩ := h5
        rename_i es' _ _
        have all : ∀ x p, Expr.Name x p ∈ es' → Gl X x ∧ X.mg x = none := fun x p hm => blB_ok gx w (q2 _ hm)
        have mgs : ∀ (ts : List Ty) (es : List Expr), tyNames ts es = true → (∀ x p, Expr.Name x p ∈ es → Gl X x ∧ X.mg x = none) → ∀ t ∈ ts, X.mg (Str.ofString t.name) = none := by
          intro ts
          induction ts with
          | nil => intro es _ _ t ht; cases ht
          | cons t ts ih =>
            intro es hh hall u hu
            cases es with
            | nil => cases hh
            | cons y ys =>
              cases y with
              | Name z p =>
                have hh' : (decide (z = Str.ofString t.name) && tyNames ts ys) = true := hh
                rw [Bool.and_eq_true, decide_eq_true_eq] at hh'
                rcases List.mem_cons.mp hu with rfl | hu
                · have := (hall z p (List.mem_cons_self ..)).2
                  rw [hh'.1] at this; exact this
                · exact ih ys hh'.2 (fun x p hm => hall x p (List.mem_cons_of_mem _ hm)) u hu
              | _ => cases hh
        exact d_isiT' ts g1 g2 ha (mgs ts es' q1 all) q1 (fun x p hm => (all x p hm).1) q3 h4
      · cases h5
    · cases h
  | .sub a b, X, c, e, gx, w, h, _ => by
    simp only [chkE] at h
    split at h
    · simp only [Bool.and_eq_true] at h
      obtain ⟨⟨h1, h2⟩, h3⟩ := h
      exact d_sub gx.u66 (weak_of w h1 (sndE a X c _ gx w h1)) (weak_of w h2 (sndE b X c _ gx w h2)) (notSlice_ok h3)
    · cases h
  | .slice a lo hi, X, c, e, gx, w, h, _ => by
    simp only [chkE] at h
    split at h
    · simp only [Bool.and_eq_true] at h
      obtain ⟨⟨h1, h2⟩, h3⟩ := h
      exact d_slice (weak_of w h1 (sndE a X c _ gx w h1)) (sndO lo X c _ gx w h2) (sndO hi X c _ gx w h3)
    · cases h
  | .shr f, X, c, e, gx, w, h, _ => by
    simp only [chkE] at h
    exact d_shr (sndF f X c e gx w h)
  | .rev a, X, c, e, gx, w, h, _ => by
    simp only [chkE] at h
    split at h
    · exact d_rev (weak_of w h (sndE a X c _ gx w h))
    · cases h
  | .upper a, X, c, e, gx, w, h, _ => by
    simp only [chkE] at h
    split at h
    · simp only [Bool.and_eq_true, decide_eq_true_eq] at h
      obtain ⟨⟨rfl, h1⟩, h2⟩ := h
      exact d_upper (weak_of w h1 (sndE a X c _ gx w h1)) h2
    · cases h
  | .join a b, X, c, e, gx, w, h, _ => by
    simp only [chkE] at h
    split at h
    · simp only [Bool.and_eq_true, decide_eq_true_eq] at h
      obtain ⟨⟨⟨⟨⟨rfl, h1⟩, h2⟩, h3⟩, h4⟩, h5⟩ := h
      exact d_join (weak_of w h1 (sndE a X c _ gx w h1)) (weak_of w h2 (sndE b X c _ gx w h2)) h3 h4 h5
    · cases h
  | .parti a b, X, c, e, gx, w, h, _ => by
    simp only [chkE] at h
    split at h
    · simp only [Bool.and_eq_true, decide_eq_true_eq] at h
      obtain ⟨⟨⟨⟨⟨rfl, h1⟩, h2⟩, h3⟩, h4⟩, h5⟩ := h
      exact d_parti (weak_of w h1 (sndE a X c _ gx w h1)) (weak_of w h2 (sndE b X c _ gx w h2)) h3 h4 h5
    · cases h
  | .tupR a b, X, c, e, gx, w, h, _ => by
    simp only [chkE] at h
    split at h
    · simp only [Bool.and_eq_true, decide_eq_true_eq] at h
      obtain ⟨⟨⟨⟨⟨⟨⟨rfl, h1⟩, rfl⟩, h2⟩, h3⟩, h4⟩, h5⟩, h6⟩ := h
      obtain ⟨g1, g2⟩ := blB_ok gx w h1
      obtain ⟨g3, g4⟩ := blB_ok gx w h2
      exact d_tupR gx.calm g1 g2 g3 g4 (weak_of w h3 (sndE a X c _ gx w h3)) (weak_of w h5 (sndE b X c _ gx w h5)) h4 h6
    · cases h
  | .lset a, X, c, e, gx, w, h, _ => by
    simp only [chkE] at h
    split at h
    · simp only [Bool.and_eq_true, decide_eq_true_eq] at h
      obtain ⟨⟨⟨⟨⟨rfl, h1⟩, rfl⟩, h2⟩, h3⟩, h4⟩ := h
      obtain ⟨g1, g2⟩ := blB_ok gx w h1
      obtain ⟨g3, g4⟩ := blB_ok gx w h2
      exact d_lset gx.calm g1 g2 g3 g4 (weak_of w h3 (sndE a X c _ gx w h3)) h4
    · cases h
  | .dcomp u g it ts key val vs, X, c, e, gx, w, h, _ => by
    simp only [chkE] at h
    split at h
    · rename_i x1 x2 tg iter ifs n scope pos
      simp only [Bool.and_eq_true, decide_eq_true_eq] at h
      obtain ⟨⟨⟨⟨⟨⟨⟨⟨⟨⟨rfl, h1⟩, h2⟩, h3⟩, h4⟩, h5⟩, h6⟩, h7⟩, h8⟩, h9⟩, h10⟩ := h
      have hvs : (ownOf c vs).map (·.2) = vs := by unfold ownOf; rw [List.map_map]; simp [Function.comp_def]
      obtain ⟨hI, hset⟩ := sndI it X c tg iter gx w h4
      have wb : ∀ (s : Shared) (H : Hp) (C : Addr) (cl : List (Str × Addr)) (fp : List Addr), CX (inner c scope) (X.blk s H scope (compEnvC scope cl C X.env) fp) := fun s H C cl fp =>
        ⟨w.N, by show relS scope X.env.scope = relS scope c.sc; rw [w.sc], rfl⟩
      have r := pe_dcx (t := u) (pos := pos) (own := ownOf c vs) (tgt := gT X.kk g) (test := TTof X.kk (evTs pg.gl (callN pg k) true ts)) (key := TEof X.kk (evE pg.gl (callN pg k) key)) (val := TEof X.kk (evE pg.gl (callN pg k) val)) (ifs := ifs) gx.u66 gx.calm gx.nd hI (blkOk_by (by rw [w.N, w.sc]; exact h1))
        (fun s H C cl fp => pg_of (X := X.blk s H scope (compEnvC scope cl C X.env) fp) gx.calm gx.nd g tg (by
          have q := wb s H C cl fp
          rw [q.N, q.sc, q.fn]; exact h2))
        (fun s H C cl fp => by
          have gb := gx.blk s H scope (compEnvC scope cl C X.env) fp
          cases ts with
          | nil =>
            simp only [chkTs] at h5
            split at h5
            · exact pts_nil.imp' fun σ H Q ⟨H0, g, env, s, b, s', eo, ss, hev, hq⟩ => by cases hev; exact hq g H Ext.refl ss
            · cases h5
          | cons t ts' =>
            simp only [chkTs] at h5
            split at h5
            · simp only [Bool.and_eq_true] at h5
              rename_i y r
              cases r with
              | cons _ _ => simp at h6
              | nil =>
                cases ts' with
                | cons _ _ => simp [chkTs] at h5
                | nil =>
                  exact (pts_one (sndT t _ _ y gb (wb s H C cl fp) h5.1)).imp' fun σ H Q ⟨H0, g, env, s, b, s', eo, ss, hev, hq⟩ => by
                    obtain ⟨z, s1, h1, hev2⟩ := R.bind_ok_iff hev
                    cases z <;> (simp [evTs] at hev2; obtain ⟨rfl, rfl⟩ := hev2; exact ⟨H0, g, env, s, _, _, eo, ss, h1, hq⟩)
            · cases h5)
        (fun s H C cl fp => sndE key _ _ x1 (gx.blk s H scope (compEnvC scope cl C X.env) fp) (wb s H C cl fp) h7 h8)
        (fun s H C cl fp => sndE val _ _ x2 (gx.blk s H scope (compEnvC scope cl C X.env) fp) (wb s H C cl fp) h9 h10) hset
      rw [hvs] at r
      exact r.imp fun σ H Q h => dc_read (fun i hi => of_decide_eq_true (List.all_eq_true.mp h3 i hi)) σ H Q h
    · cases h
  | .index a b, X, c, e, gx, w, h, _ => by
    simp only [chkE] at h
    split at h
    · simp only [Bool.and_eq_true, decide_eq_true_eq] at h
      obtain ⟨⟨⟨⟨rfl, h1⟩, h2⟩, h3⟩, h4⟩ := h
      exact d_index gx.u66 (weak_of w h1 (sndE a X c _ gx w h1)) (weak_of w h2 (sndE b X c _ gx w h2)) h4 h3 (few_one h3)
    · cases h
theorem sndO : ∀ (a : Eo) (X : Cx) (c : Cc) (o : Option Expr), GX pg k X → CX c X → chkO pg a c o = true → PO X o (TOof X.kk (evO pg.gl (callN pg k) a))
  | .no, X, c, o, gx, w, h => by
    simp only [chkO] at h
    split at h
    · exact do_no
    · cases h
  | .so a, X, c, o, gx, w, h => by
    simp only [chkO] at h
    split at h
    · exact do_so (weak_of w h (sndE a X c _ gx w h))
    · cases h
theorem sndEs : ∀ (es : Es) (X : Cx) (c : Cc) (xs : List Expr), GX pg k X → CX c X → chkEs pg es c xs = true → strictEs es = true → PA X xs (TAof X.kk (evEs pg.gl (callN pg k) es))
  | .nil, X, c, xs, gx, w, h, _ => by
    simp only [chkEs] at h
    split at h
    · exact da_nil
    · cases h
  | .cons a es, X, c, xs, gx, w, h, hs => by
    simp only [chkEs] at h
    simp only [strictEs, Bool.and_eq_true] at hs
    split at h
    · simp only [Bool.and_eq_true] at h
      exact da_cons (sndE a X c _ gx w h.1.1 hs.1) (sndEs es X c _ gx w h.2 hs.2) (star_ns h.1.2)
    · cases h
theorem sndWs : ∀ (es : Es) (X : Cx) (c : Cc) (xs : List Expr), GX pg k X → CX c X → chkEs pg es c xs = true → PA X xs (TAWof X.kk (evEs pg.gl (callN pg k) es))
  | .nil, X, c, xs, gx, w, h => by
    simp only [chkEs] at h
    split at h
    · exact daw_nil
    · cases h
  | .cons a es, X, c, xs, gx, w, h => by
    simp only [chkEs] at h
    split at h
    · simp only [Bool.and_eq_true] at h
      exact daw_cons (weak_of w h.1.1 (sndE a X c _ gx w h.1.1)) (sndWs es X c _ gx w h.2) (star_ns h.1.2)
    · cases h
theorem sndAnd : ∀ (es : Es) (X : Cx) (c : Cc) (xs : List Expr) (pos : Pos), GX pg k X → CX c X → chkEs pg es c xs = true → strictEs es = true → 0 < es.len → PE X (.BoolOp .And xs pos) (TEof X.kk (evAnd pg.gl (callN pg k) es))
  | .nil, X, c, xs, pos, gx, w, h, _, hl => absurd hl (by decide)
  | .cons a .nil, X, c, xs, pos, gx, w, h, hs, _ => by
    simp only [chkEs] at h
    simp only [strictEs, Bool.and_eq_true] at hs
    split at h
    · simp only [Bool.and_eq_true] at h
      obtain ⟨h1, h2⟩ := h
      split at h2
      · exact d_one (sndE a X c _ gx w h1.1 hs.1)
      · cases h2
    · cases h
  | .cons a (.cons b es), X, c, xs, pos, gx, w, h, hs, _ => by
    simp only [chkEs] at h
    simp only [strictEs, Bool.and_eq_true] at hs
    split at h
    · simp only [Bool.and_eq_true] at h
      obtain ⟨h1, h2⟩ := h
      split at h2
      · have h3 := sndAnd (.cons b es) X c (_ :: _) pos gx w (by simp only [chkEs]; exact h2) (by simp only [strictEs, Bool.and_eq_true]; exact hs.2) (Nat.succ_pos _)
        exact d_and (sndE a X c _ gx w h1.1 hs.1) h3
      · cases h2
    · cases h
theorem sndOr : ∀ (es : Es) (X : Cx) (c : Cc) (xs : List Expr) (pos : Pos), GX pg k X → CX c X → chkEs pg es c xs = true → strictEs es = true → 0 < es.len → PE X (.BoolOp .Or xs pos) (TEof X.kk (evOr pg.gl (callN pg k) es))
  | .nil, X, c, xs, pos, gx, w, h, _, hl => absurd hl (by decide)
  | .cons a .nil, X, c, xs, pos, gx, w, h, hs, _ => by
    simp only [chkEs] at h
    simp only [strictEs, Bool.and_eq_true] at hs
    split at h
    · simp only [Bool.and_eq_true] at h
      obtain ⟨h1, h2⟩ := h
      split at h2
      · exact d_one (sndE a X c _ gx w h1.1 hs.1)
      · cases h2
    · cases h
  | .cons a (.cons b es), X, c, xs, pos, gx, w, h, hs, _ => by
    simp only [chkEs] at h
    simp only [strictEs, Bool.and_eq_true] at hs
    split at h
    · simp only [Bool.and_eq_true] at h
      obtain ⟨h1, h2⟩ := h
      split at h2
      · have h3 := sndOr (.cons b es) X c (_ :: _) pos gx w (by simp only [chkEs]; exact h2) (by simp only [strictEs, Bool.and_eq_true]; exact hs.2) (Nat.succ_pos _)
        exact d_or (sndE a X c _ gx w h1.1 hs.1) h3
      · cases h2
    · cases h
theorem sndT : ∀ (t : T) (X : Cx) (c : Cc) (e : Expr), GX pg k X → CX c X → chkT pg t c e = true → PT X e (TTof X.kk (evT pg.gl (callN pg k) t))
  | .val a, X, c, e, gx, w, h => by
    simp only [chkT, Bool.and_eq_true] at h
    exact dt_val (weak_of w h.1 (sndE a X c _ gx w h.1)) (plainT_ok h.2)
  | .cmp o a b, X, c, e, gx, w, h => by
    simp only [chkT] at h
    split at h
    · simp only [Bool.and_eq_true, decide_eq_true_eq] at h
      obtain ⟨⟨⟨rfl, h1⟩, h2⟩, h3⟩ := h
      exact dt_cmp gx.u66 (weak_of w h1 (sndE a X c _ gx w h1)) (weak_of w h2 (sndE b X c _ gx w h2)) _ (notSet_ok h3)
    · cases h
  | .chain o1 o2 a b d, X, c, e, gx, w, h => by
    simp only [chkT] at h
    split at h
    · simp only [Bool.and_eq_true, decide_eq_true_eq] at h
      obtain ⟨⟨⟨⟨⟨rfl, rfl⟩, h1⟩, h2⟩, h3⟩, h4⟩ := h
      exact dt_chain gx.u66 (weak_of w h1 (sndE a X c _ gx w h1)) (weak_of w h2 (sndE b X c _ gx w h2)) (weak_of w h3 (sndE d X c _ gx w h3)) _ _ (notSet_ok2 h4)
    · cases h
  | .and ts, X, c, e, gx, w, h => by
    simp only [chkT] at h
    split at h
    · simp only [Bool.and_eq_true] at h
      exact (sndTA ts X c _ _ gx w h.1 h.2).pt
    · cases h
  | .or ts, X, c, e, gx, w, h => by
    simp only [chkT] at h
    split at h
    · simp only [Bool.and_eq_true] at h
      exact (sndTO ts X c _ _ gx w h.1 h.2).pt
    · cases h
  | .not t, X, c, e, gx, w, h => by
    simp only [chkT] at h
    split at h
    · exact dt_not (sndT t X c _ gx w h)
    · cases h
theorem sndTA : ∀ (ts : Ts) (X : Cx) (c : Cc) (xs : List Expr) (pos : Pos), GX pg k X → CX c X → chkTs pg ts c xs = true → (!xs.isEmpty) = true → PW X (.BoolOp .And xs pos) (TTof X.kk (evTs pg.gl (callN pg k) true ts))
  | .nil, X, c, xs, pos, gx, w, h, hn => by
    simp only [chkTs] at h
    split at h
    · cases hn
    · cases h
  | .cons t .nil, X, c, xs, pos, gx, w, h, _ => by
    simp only [chkTs] at h
    split at h
    · simp only [Bool.and_eq_true] at h
      obtain ⟨h1, h2⟩ := h
      split at h2
      · exact dt_and1 (sndT t X c _ gx w h1)
      · cases h2
    · cases h
  | .cons t (.cons u ts), X, c, xs, pos, gx, w, h, _ => by
    simp only [chkTs] at h
    split at h
    · simp only [Bool.and_eq_true] at h
      obtain ⟨h1, h2⟩ := h
      split at h2
      · have h3 := sndTA (.cons u ts) X c (_ :: _) pos gx w (by simp only [chkTs]; exact h2) rfl
        exact dt_and (sndT t X c _ gx w h1) h3
      · cases h2
    · cases h
theorem sndTO : ∀ (ts : Ts) (X : Cx) (c : Cc) (xs : List Expr) (pos : Pos), GX pg k X → CX c X → chkTs pg ts c xs = true → (!xs.isEmpty) = true → PW X (.BoolOp .Or xs pos) (TTof X.kk (evTs pg.gl (callN pg k) false ts))
  | .nil, X, c, xs, pos, gx, w, h, hn => by
    simp only [chkTs] at h
    split at h
    · cases hn
    · cases h
  | .cons t .nil, X, c, xs, pos, gx, w, h, _ => by
    simp only [chkTs] at h
    split at h
    · simp only [Bool.and_eq_true] at h
      obtain ⟨h1, h2⟩ := h
      split at h2
      · exact dt_or1 (sndT t X c _ gx w h1)
      · cases h2
    · cases h
  | .cons t (.cons u ts), X, c, xs, pos, gx, w, h, _ => by
    simp only [chkTs] at h
    split at h
    · simp only [Bool.and_eq_true] at h
      obtain ⟨h1, h2⟩ := h
      split at h2
      · have h3 := sndTO (.cons u ts) X c (_ :: _) pos gx w (by simp only [chkTs]; exact h2) rfl
        exact dt_or (sndT t X c _ gx w h1) h3
      · cases h2
    · cases h
theorem sndI : ∀ (it : I) (X : Cx) (c : Cc) (tg e : Expr), GX pg k X → CX c X → chkI pg it c tg e = true → PI X tg e (TIof X.kk (evI pg.gl (callN pg k) it)) ∧ ∀ x, foldedSetIterable e X.env x = pure x
  | .seq a, X, c, tg, e, gx, w, h => by
    simp only [chkI, Bool.and_eq_true] at h
    exact ⟨di_seq (sndE a X c _ gx w h.1.1 h.1.2), notSet_it h.2⟩
  | .range1 a, X, c, tg, e, gx, w, h => by
    simp only [chkI] at h
    split at h
    · simp only [Bool.and_eq_true, decide_eq_true_eq] at h
      obtain ⟨⟨⟨rfl, h1⟩, h2⟩, h3⟩ := h
      obtain ⟨g1, g2⟩ := blB_ok gx w h1
      exact ⟨di_range1 g1 g2 (weak_of w h2 (sndE a X c _ gx w h2)) h3, notSet_it rfl⟩
    · cases h
  | .range2 a b, X, c, tg, e, gx, w, h => by
    simp only [chkI] at h
    split at h
    · simp only [Bool.and_eq_true, decide_eq_true_eq] at h
      obtain ⟨⟨⟨⟨⟨rfl, h1⟩, h2⟩, h3⟩, h4⟩, h5⟩ := h
      obtain ⟨g1, g2⟩ := blB_ok gx w h1
      exact ⟨di_range2 g1 g2 (weak_of w h2 (sndE a X c _ gx w h2)) (weak_of w h4 (sndE b X c _ gx w h4)) h3 h5, notSet_it rfl⟩
    · cases h
  | .enum a, X, c, tg, e, gx, w, h => by
    simp only [chkI] at h
    split at h
    · simp only [Bool.and_eq_true, decide_eq_true_eq] at h
      obtain ⟨⟨⟨⟨⟨rfl, h1⟩, h2⟩, h3⟩, h4⟩, h5⟩ := h
      obtain ⟨g1, g2⟩ := blB_ok gx w h1
      cases tg with
      | Tuple es kk tp => exact ⟨di_enum g1 g2 (sndE a X c _ gx w h2 h4) h3, notSet_it rfl⟩
      | _ => cases h5
    · cases h
  | .zip a b, X, c, tg, e, gx, w, h => by
    simp only [chkI] at h
    split at h
    · simp only [Bool.and_eq_true, decide_eq_true_eq] at h
      obtain ⟨⟨⟨⟨⟨⟨⟨⟨rfl, h1⟩, h2⟩, h3⟩, h4⟩, h5⟩, h6⟩, h7⟩, h8⟩ := h
      obtain ⟨g1, g2⟩ := blB_ok gx w h1
      cases tg with
      | Tuple es kk tp => exact ⟨di_zip g1 g2 (sndE a X c _ gx w h2 h4) (sndE b X c _ gx w h5 h7) h3 h6, notSet_it rfl⟩
      | _ => cases h8
    · cases h
theorem sndF : ∀ (f : F) (X : Cx) (c : Cc) (e : Expr), GX pg k X → CX c X → chkF pg f c e = true → PE X e (TFof X.kk (evF pg.gl (callN pg k) f))
  | .disp es, X, c, e, gx, w, h => by
    simp only [chkF] at h
    split at h
    · simp only [Bool.and_eq_true, decide_eq_true_eq] at h
      exact df_disp (sndEs es X c _ gx w h.1.1 h.1.2) fun env s ds s' q => by rw [evEs_len q]; exact h.2
    · cases h
  | .comp g it ts elt vs, X, c, e, gx, w, h => by
    simp only [chkF] at h
    split at h
    · rename_i x tg iter ifs n scope pos
      simp only [Bool.and_eq_true, decide_eq_true_eq] at h
      obtain ⟨⟨⟨⟨⟨⟨⟨⟨rfl, h1⟩, h2⟩, h3⟩, h4⟩, h5⟩, h6⟩, h7⟩, h8⟩ := h
      have hvs : (ownOf c vs).map (·.2) = vs := by unfold ownOf; rw [List.map_map]; simp [Function.comp_def]
      obtain ⟨hI, hset⟩ := sndI it X c tg iter gx w h4
      have wb : ∀ (s : Shared) (H : Hp) (C : Addr) (cl : List (Str × Addr)) (fp : List Addr), CX (inner c scope) (X.blk s H scope (compEnvC scope cl C X.env) fp) := fun s H C cl fp =>
        ⟨w.N, by show relS scope X.env.scope = relS scope c.sc; rw [w.sc], rfl⟩
      have r := df_comp (pos := pos) (t := g) (own := ownOf c vs) (evt := evTs pg.gl (callN pg k) true ts) (eve := evE pg.gl (callN pg k) elt) (ifs := ifs) gx.calm gx.nd hI (blkOk_by (by rw [w.N, w.sc]; exact h1))
        (fun s H C cl fp => pg_of (X := X.blk s H scope (compEnvC scope cl C X.env) fp) gx.calm gx.nd g tg (by
          have q := wb s H C cl fp
          rw [q.N, q.sc, q.fn]; exact h2))
        (fun s H C cl fp => by
          have gb := gx.blk s H scope (compEnvC scope cl C X.env) fp
          cases ts with
          | nil =>
            simp only [chkTs] at h5
            split at h5
            · exact pts_nil.imp' fun σ H Q ⟨H0, g, env, s, b, s', eo, ss, hev, hq⟩ => by cases hev; exact hq g H Ext.refl ss
            · cases h5
          | cons t ts' =>
            simp only [chkTs] at h5
            split at h5
            · simp only [Bool.and_eq_true] at h5
              rename_i y r
              cases r with
              | cons _ _ => simp at h6
              | nil =>
                cases ts' with
                | cons _ _ => simp [chkTs] at h5
                | nil =>
                  exact (pts_one (sndT t _ _ y gb (wb s H C cl fp) h5.1)).imp' fun σ H Q ⟨H0, g, env, s, b, s', eo, ss, hev, hq⟩ => by
                    obtain ⟨z, s1, h1, hev2⟩ := R.bind_ok_iff hev
                    cases z <;> (simp [evTs] at hev2; obtain ⟨rfl, rfl⟩ := hev2; exact ⟨H0, g, env, s, _, _, eo, ss, h1, hq⟩)
            · cases h5)
        (fun s H C cl fp => sndE elt _ _ x (gx.blk s H scope (compEnvC scope cl C X.env) fp) (wb s H C cl fp) h7 h8) hset
        (fun i hi => by rw [hvs]; exact of_decide_eq_true (List.all_eq_true.mp h3 i hi))
      rw [hvs] at r
      exact r
    · cases h
  | .list a, X, c, e, gx, w, h => by
    simp only [chkF] at h
    split at h
    · simp only [Bool.and_eq_true, decide_eq_true_eq] at h
      obtain ⟨⟨⟨rfl, h1⟩, h2⟩, h3⟩ := h
      obtain ⟨g1, g2⟩ := blB_ok gx w h1
      exact df_list gx.calm g1 g2 (weak_of w h2 (sndE a X c _ gx w h2)) h3
    · cases h
  | .sorted a, X, c, e, gx, w, h => by
    simp only [chkF] at h
    split at h
    · simp only [Bool.and_eq_true, decide_eq_true_eq] at h
      obtain ⟨⟨⟨rfl, h1⟩, h2⟩, h3⟩ := h
      obtain ⟨g1, g2⟩ := blB_ok gx w h1
      exact df_sorted g1 g2 (weak_of w h2 (sndE a X c _ gx w h2)) h3
    · cases h
  | .vals a, X, c, e, gx, w, h => by
    simp only [chkF] at h
    split at h
    · simp only [Bool.and_eq_true, decide_eq_true_eq] at h
      obtain ⟨⟨⟨⟨⟨rfl, h1⟩, rfl⟩, h2⟩, h3⟩, h4⟩ := h
      obtain ⟨g1, g2⟩ := blB_ok gx w h1
      exact df_vals gx.calm g1 g2 (weak_of w h2 (sndE a X c _ gx w h2)) h3 h4
    · cases h
  | .listz a b, X, c, e, gx, w, h => by
    simp only [chkF] at h
    split at h
    · simp only [Bool.and_eq_true, decide_eq_true_eq] at h
      obtain ⟨⟨⟨⟨⟨⟨⟨⟨⟨rfl, h1⟩, rfl⟩, h2⟩, h3⟩, h4⟩, h5⟩, h6⟩, h7⟩, h8⟩ := h
      obtain ⟨g1, g2⟩ := blB_ok gx w h1
      obtain ⟨g3, g4⟩ := blB_ok gx w h2
      exact df_listz gx.calm g1 g2 g3 g4 (sndE a X c _ gx w h3 h4) (sndE b X c _ gx w h6 h7) h5 h8
    · cases h
  | .split a b, X, c, e, gx, w, h => by
    simp only [chkF] at h
    split at h
    · simp only [Bool.and_eq_true, decide_eq_true_eq] at h
      obtain ⟨⟨⟨⟨⟨rfl, h1⟩, h2⟩, h3⟩, h4⟩, h5⟩ := h
      exact df_split (weak_of w h1 (sndE a X c _ gx w h1)) (weak_of w h2 (sndE b X c _ gx w h2)) h3 h4 h5
    · cases h
  | .listR a b, X, c, e, gx, w, h => by
    simp only [chkF] at h
    split at h
    · simp only [Bool.and_eq_true, decide_eq_true_eq] at h
      obtain ⟨⟨⟨⟨⟨⟨⟨rfl, h1⟩, rfl⟩, h2⟩, h3⟩, h4⟩, h5⟩, h6⟩ := h
      obtain ⟨g1, g2⟩ := blB_ok gx w h1
      obtain ⟨g3, g4⟩ := blB_ok gx w h2
      exact df_listR gx.calm g1 g2 g3 g4 (weak_of w h3 (sndE a X c _ gx w h3)) (weak_of w h5 (sndE b X c _ gx w h5)) h4 h6
    · cases h
  | .listR1 a, X, c, e, gx, w, h => by
    simp only [chkF] at h
    split at h
    · simp only [Bool.and_eq_true, decide_eq_true_eq] at h
      obtain ⟨⟨⟨⟨⟨rfl, h1⟩, rfl⟩, h2⟩, h3⟩, h4⟩ := h
      obtain ⟨g1, g2⟩ := blB_ok gx w h1
      obtain ⟨g3, g4⟩ := blB_ok gx w h2
      exact df_listR1 gx.calm g1 g2 g3 g4 (weak_of w h3 (sndE a X c _ gx w h3)) h4
    · cases h
  | .cat a b, X, c, e, gx, w, h => by
    simp only [chkF] at h
    split at h
    · simp only [Bool.and_eq_true] at h
      exact df_cat (weak_of w h.1 (sndE a X c _ gx w h.1)) (weak_of w h.2 (sndE b X c _ gx w h.2))
    · cases h
  | .cut a lo hi, X, c, e, gx, w, h => by
    simp only [chkF] at h
    split at h
    · simp only [Bool.and_eq_true] at h
      exact df_cut (weak_of w h.1.1 (sndE a X c _ gx w h.1.1)) (sndO lo X c _ gx w h.1.2) (sndO hi X c _ gx w h.2)
    · cases h
  | .rep a b, X, c, e, gx, w, h => by
    simp only [chkF] at h
    split at h
    · simp only [Bool.and_eq_true] at h
      exact df_rep (weak_of w h.1 (sndE a X c _ gx w h.1)) (weak_of w h.2 (sndE b X c _ gx w h.2))
    · cases h
end
end
end Fw
namespace Fw
open PySem PySem.Spec PyProof.Rows L2
/-! ## N. statements of the text -/
def noComp : Expr → Bool
  | .ListComp .. => false
  | .SetComp .. => false
  | .DictComp .. => false
  | _ => true
theorem noComp_ok {e : Expr} {t : Option Expr} {l : Nat} {env : PySem.Env} (h : noComp e = true) : swapsWith e t l env = pure false := by
  cases e <;> first | rfl | cases h
def swB (sc : Scope) (e : Expr) (y : Str) (line : Nat) : Bool := match e with
  | .ListComp _ _ s pos => decide (sc.names.lookup y = some .local) && (line == pos.line) && !(s.names.any fun (n, k) => n == y && (k == .local || k == .cell))
  | .SetComp .. => true
  | .DictComp _ _ _ s pos => decide (sc.names.lookup y = some .local) && (line == pos.line) && !(s.names.any fun (n, k) => n == y && (k == .local || k == .cell))
  | _ => false
def okSet : Expr → Bool
  | .SetComp .. => false
  | _ => true
theorem block_fn {env : PySem.Env} (hk : env.scope.kind = .function) : env.blockKind = .function := by
  unfold Env.blockKind
  rw [hk]; rfl
theorem swB_ok {sc : Scope} {e : Expr} {y : Str} {py : Pos} {l : Nat} {env : PySem.Env} (hsc : env.scope = sc) (hk : sc.kind = .function) (h : okSet e = true) :
    swapsWith e (some (.Name y py)) l env = pure (swB sc e y py.line) := by
  subst hsc
  cases e with
  | ListComp x gs s pos =>
    have hb := block_fn hk
    have ky : env.kindOf y = env.scope.names.lookup y := rfl
    unfold swapsWith swB
    simp only [hb, ky, Expr.pos]
    by_cases q : env.scope.names.lookup y = some .local
    · simp [q]
    · simp [q]
      cases z : env.scope.names.lookup y with
      | none => rfl
      | some k => cases k <;> first | rfl | exact absurd z q
  | SetComp _ _ _ _ => cases h
  | DictComp x x2 gs s pos =>
    have hb := block_fn hk
    have ky : env.kindOf y = env.scope.names.lookup y := rfl
    unfold swapsWith swB
    simp only [hb, ky, Expr.pos]
    by_cases q : env.scope.names.lookup y = some .local
    · simp [q]
    · simp [q]
      cases z : env.scope.names.lookup y with
      | none => rfl
      | some k => cases k <;> first | rfl | exact absurd z q
  | _ => rfl
/-- the stores of a tuple of names from a tuple written out -/
def swp (sc : Scope) (ts : List Expr) (value : Expr) : Option (Option (List Str)) := match value with
  | .Tuple vs _ _ =>
    if !(ts.length == 2 || ts.length == 3) || vs.length != ts.length then some none
    else if vs.any fun | .Starred .. => true | _ => false then some none
    else
      let line := (ts.head?.map (·.pos.line)).getD 0
      let names := ts.filterMap fun
        | .Name id pos => if sc.names.lookup id == some .local && pos.line == line then some id else none
        | _ => none
      if names.length != ts.length || names.eraseDups.length != names.length then some none
      else if vs.all (foldedForSure 8) then some none
      else if vs.all (constantsAlone 8) then none
      else some (some names)
  | _ => some none
theorem swp_ok {sc : Scope} {ts : List Expr} {kt : Nat} {pt : Pos} {value : Expr} {env : PySem.Env} {r : Option (List Str)} (hsc : env.scope = sc) (hk : sc.kind = .function) (h : swp sc ts value = some r) : swappedStores [.Tuple ts kt pt] value env = pure r := by
  subst hsc
  have hb := block_fn hk
  cases value with
  | Tuple vs k2 p2 =>
    unfold swp at h
    unfold swappedStores
    simp only [hb]
    simp only at h
    split at h
    · rename_i c1
      cases h
      simp only [bne_self_eq_false, Bool.or_false, c1, if_true]
    · rename_i c1
      split at h
      · rename_i c2
        cases h
        simp only [bne_self_eq_false, Bool.or_false, c1, if_false, Bool.false_eq_true]
        exact if_pos c2
      · rename_i c2
        split at h
        · rename_i c3
          cases h
          simp only [bne_self_eq_false, Bool.or_false, c1, if_false, Bool.false_eq_true]
          refine (if_neg c2).trans ?_
          exact if_pos c3
        · rename_i c3
          split at h
          · rename_i c4
            cases h
            simp only [bne_self_eq_false, Bool.or_false, c1, if_false, Bool.false_eq_true]
            refine (if_neg c2).trans ?_
            refine (if_neg c3).trans ?_
            exact if_pos c4
          · rename_i c4
            split at h
            · cases h
            · rename_i c5
              cases h
              simp only [bne_self_eq_false, Bool.or_false, c1, if_false, Bool.false_eq_true]
              refine (if_neg c2).trans ?_
              refine (if_neg c3).trans ?_
              refine (if_neg c4).trans ?_
              exact if_neg c5
  | _ => cases h; rfl
end Fw
namespace Fw
open PySem PySem.Spec PyProof.Rows L2
/-! ## own errors of one field: made, raised, caught -/
section
variable {X : Cx} {W : WX} {e a : Expr} {x f : Str} {p pos pos2 : Pos} {eva : Env → S → R D}
theorem ds_rais (hc : X.calm = true) (tk : Takes X W) (ok : ExcOk X.kk X.mg x f) (hr : Room 2 X.A) (hg : Gl X x) (hdb : (x == ("__debug__" : Str)) = false) (hns : notStar a = true) (ha : PE X a (TEof X.kk eva)) :
    PS X (.Raise (some (.Call (.Name x p) [a] [] pos)) none pos2) (TSof X.kk W fun env s => (eva env s).bind fun d s => .ok (.exn (.ins x [f] [d]) env) s) := by
  obtain ⟨C, fI, fd, qual, s, v, st, h1, h2, h3, h4, h5, h6, h7, h8, h9, h10⟩ := ok.ex
  refine (ps_raise hc tk (pmk_oex (k := 1) (dvs := []) (ds := []) h3 h6 h7 (xin_ok h8 h3 h5 h9) hr h10 .nil pass0 hg h2 (pa_cons ha pa_nil (star_ns hns)) hdb (star_ns hns) rfl)).imp fun D' σ H ⟨g0, H0, g, env, s, x0, eo, ss, h⟩ => ?_
  obtain ⟨d, s1, e1, h⟩ := h.ok
  refine ⟨H0, g, env, s, d, s1, eo, ss, e1, fun g1 H1 w x1 ss1 r1 => ⟨(by show 1 ≤ 1000; decide), fun a0 na => ⟨a0, w, rfl, upd_same, fun dx nd ne => ⟨rfl, dx, [(f, w)], upd_same, ?_, ?_, ?_⟩⟩⟩⟩
  · rw [upd_ne ne, upd_same]
  · rw [upd_ne ne] at nd; exact nd
  · rw [upd_ne ne] at nd
    have ee : upd (del (upd (upd (upd H1 a0 (exo a0 C none)) dx (exd dx [(f, w)])) a0 (exo a0 C (some dx))) a0) dx (.xd [(f, w)]) = upd H1 dx (.xd [(f, w)]) := by
      funext b
      by_cases hb : b = dx
      · subst hb; rw [upd_same, upd_same]
      · rw [upd_ne hb, upd_ne hb]
        by_cases hb2 : b = a0
        · subst hb2; rw [del_same, na]
        · rw [del_ne hb2, upd_ne hb2, upd_ne hb, upd_ne hb2]
    rw [ee]
    have x2 : Ext X.kk g1 H1 g1 (upd H1 dx (.xd [(f, w)])) := Ext.new nd
    exact h g1 _ σ _ _ (x1.trans x2).toKp (x0.trans (x1.trans x2)) (eo.ext (x1.trans x2)) (ss1.new nd) ⟨C, h1, rfl, .inr ⟨f, d, dx, w, rfl, rfl, rfl, upd_same, Rep.ext x2 _ _ r1⟩⟩
/-! calls that may raise -/
def TXof (K : KK) (W : WX) (ev : Env → S → R D) : TE := fun σ H Q => ∃ H0 g env s, EnvOk K g H H0 env σ ∧ SimS K g s H ∧ OutD K g H Q (fun cls d H' => W cls d σ H') (ev env s)
theorem run_gX {k : Nat} {f : Addr} {fd : FuncData} {ps : List Str} {sp : List V → Hp → VK → XK → Prop} {pins : List (Addr × Obj)} {σ : L2.St} {H : Hp} {s : Shared} {Q : VK} {us : List Value} {vs : List V}
    (F : FnG X.prog X.w X.kk X.mg X.base k f fd ps sp) (hr : Room k X.A) (hg : X.A.guards = some []) (hb : Binds X.kk fd ps []) (tk : Takes X W) (I : Inv X pins σ H s) (r : Vals vs us) (h : sp vs H Q fun cls d H' => W cls d σ H') : wpAny (model X.prog X.w) X.A (call (.ref f) us) (EP X pins σ Q) X.xe s := by
  have hl : us.length = ps.length := by rw [← r.length]; exact F.len _ _ _ _ h
  have hbb := hb s us I.kIn (by simpa using hl)
  rw [List.append_nil] at hbb
  refine wpAny_call (codeAny_mono (F.run X.A X.stack s H ⟨us, []⟩ us vs Q _ hr hg I.env0 hbb r h) fun r s' hq => ?_)
  cases r with
  | error e => exact tk e s' (XE.of_call I (fun _ _ _ h => h) hq)
  | ok fl =>
    cases fl with
    | ret u => exact I.after hq
    | next => exact False.elim hq
    | brk => exact False.elim hq
    | cont => exact False.elim hq
theorem OutD.ext {K : KK} {g g' : Gh} {H H' : Hp} {Q : VK} {E : XK} {r : R D} (h : OutD K g H Q E r) (e : Ext K g H g' H') : OutD K g' H' Q E r := by
  cases r with
  | ok d s => exact Want.ext h e
  | exn x s => exact WantX.ext h e
  | no => exact h
theorem stop_ok {α β : Type} {r : R α} {f : α → S → R β} {K : KK} {g : Gh} {H : Hp} {P : R β → Prop} (hn : ¬ P .no) (h : P (r.stop.bind f)) : ∃ x s, r = .ok x s ∧ P (f x s) := by
  cases r with
  | ok x s => exact ⟨x, s, rfl, h⟩
  | exn x s => exact (hn h).elim
  | no => exact (hn h).elim
theorem d_callX {pg : Pg} {k k' f : Nat} {es : List Expr} {ad : Addr} {fd : FuncData} {ps : List Str} {eves : Env → S → R (List D)} (F : FnG X.prog X.w X.kk X.mg X.base k' ad fd ps (spD X.kk pg k f)) (hr : Room k' X.A) (hgd : X.A.guards = some []) (tk : Takes X W) (hg : Gl X x) (hm : X.mg x = some (.ref ad))
    (hk : PySem.W.keepIn X.kk (.ref ad) = true) (hb : Binds X.kk fd ps []) (ha : PA X (e :: es) (TAof X.kk eves)) (hdb : (x == ("__debug__" : Str)) = false) (hns : (e :: es).all notStar = true) :
    PE X (.Call (.Name x p) (e :: es) [] pos) (TXof X.kk W fun env s => (eves env s).stop.bind fun ds s => callN pg k f ds s) := by
  refine ⟨fun pins s σ H Q I ⟨H0, g, env, s0, eo, ss, hq⟩ => ?_⟩
  obtain ⟨ds, s1, h1, hq⟩ := stop_ok (K := X.kk) (g := g) (H := H) (P := OutD X.kk g H Q fun cls d H' => W cls d σ H') (fun z => z) hq
  refine wpAny_Call_Name_kw (ld_glob I hg hm ?_ hdb)
  rw [List.all_cons, Bool.and_eq_true] at hns
  refine PySem.W.callWith_K (h₀ := X.base) I.ok.mod.kin hk (thn (ha.run pos pins s σ H (fun vs H' => spD X.kk pg k f vs H' Q fun cls d H' => W cls d σ H') I ⟨H0, g, env, s0, ds, s1, eo, ss, h1, fun g1 H1 vs e1 ss1 r1 => ⟨g1, s1, ds, r1, ss1, hq.ext e1⟩⟩) fun us s2 ⟨vs, H2, I2, r2, q2⟩ => ⟨I2.kIn, ?_⟩) (star_ns hns.1) (any_ns hns.2)
  exact run_gX F hr hgd hb tk I2 r2 q2
/-- the value of a call as a statement takes it -/
theorem TXof.to {ev : Env → S → R D} {kk : D → Env → S → R Fl} {D' : Ends} {σ : L2.St} {H : Hp} {Q : VK} (h : TSof X.kk W (fun env s => xres (ev env s) env fun d s => kk d env s) D' σ H)
    (hq : ∀ (g0 : Gh) (H0 : Hp) (g : Gh) (env : Env) (d : D) (s : S), Ext X.kk g0 H0 g H → EnvOk X.kk g H H0 env σ → OutS X.kk W g0 H0 g H D' (kk d env s) → Want X.kk g s H d Q) : TXof X.kk W ev σ H Q := by
  obtain ⟨g0, H0, g, env, s, x, eo, ss, h⟩ := h
  refine ⟨H0, g, env, s, eo, ss, ?_⟩
  dsimp only at h
  cases q : ev env s with
  | no => rw [q] at h; exact h.elim
  | ok d s1 =>
    rw [q] at h
    exact hq g0 H0 g env d s1 x eo h
  | exn y s1 =>
    rw [q] at h
    exact fun g1 H1 cls d e1 ss1 r1 => h g1 H1 σ cls d e1.toKp (x.trans e1) (eo.ext e1) ss1 r1
theorem ds_xdrop (ha : PE X a (TXof X.kk W eva)) (hs : swapsWith a none pos.line X.env = pure false) : PS X (.Expr a pos) (TSof X.kk W fun env s => xres (eva env s) env fun _ s => .ok (.next env) s) :=
  (ps_expr ha hs).imp fun D' σ H h => TXof.to h fun g0 H0 g env d s x eo h g1 H1 v x1 ss1 r1 => h g1 H1 σ x1.toKp (x.trans x1) (eo.ext x1) ss1
theorem ds_xret (ha : PE X a (TXof X.kk W eva)) : PS X (.Return (some a) pos) (TSof X.kk W fun env s => xres (eva env s) env fun d s => .ok (.ret d) s) :=
  (ps_ret ha).imp fun D' σ H h => TXof.to (kk := fun d env s => .ok (.ret d) s) h fun g0 H0 g env d s x eo h g1 H1 v x1 ss1 r1 => h g1 H1 v (x.trans x1) ss1 r1
theorem ds_xretL {z : Str} {j : Nat} {p2 p3 : Pos} (ha : PE X a (TXof X.kk W eva)) (hns : notStar a = true) : PS X (.Return (some (.List [.Constant (.str z) j p2, a] p3)) pos) (TSof X.kk W fun env s => xres (eva env s) env fun d s => .ok (.ret (.lst [.str z, d])) s) :=
  (ps_ret (pe_lst (pa_cons pe_str (pa_cons ha pa_nil (star_ns hns)) rfl))).imp fun D' σ H h => TXof.to (kk := fun d env s => .ok (.ret (.lst [.str z, d])) s) h fun g0 H0 g env d s x eo h g1 H1 v x1 ss1 r1 => by
    refine ⟨by show 2 ≤ sizeLine; decide, fun p hp => ?_⟩
    have x2 : Ext X.kk g1 H1 g1 (upd H1 p (.lst [.str z, v])) := Ext.new hp
    have x3 := Ext.frz x2 hp
    exact h (g1.frz p) _ _ (x.trans (x1.trans x3)) ((ss1.new hp).frz' (ss1.fresh_io hp) (by rw [upd_same]; simp)) ⟨by show 2 ≤ sizeLine; decide, p, _, rfl, .inr rfl, upd_same, ⟨_, _, rfl, rfl, v, _, rfl, Rep.ext x3 _ _ r1, rfl⟩⟩
/-! try: .. except C as e: return .. -/
end
def tHx (C : Addr) (i : Nat) (a : Addr) (cls : Value) (d : Option Addr) : Hx → TE
  | .fld f => tXf a cls d C f (tVar i)
  | .str x => tC (.str x)
  | .isT _ s1 _ => fun σ H Q => tVar i σ H fun x H1 => x = .ref a ∧ cls = .ref C ∧ Q (.str s1) H1
def tHxs (C : Addr) (i : Nat) (a : Addr) (cls : Value) (d : Option Addr) : List Hx → TA
  | [] => tNil
  | h :: hs => tCons (tHx C i a cls d h) (tHxs C i a cls d hs)
def chkHx (P : Str → Bool) (n f0 : Str) : Hx → Expr → Bool
  | .isT m s1 s2, .IfExp (.Call (.Name f _) [.Name n' _, .Name m' _] [] _) (.Constant (.str a) _ _) (.Constant (.str b) _ _) _ => decide (f = Str.ofString "isinstance") && decide (n' = n) && decide (m' = m) && decide (a = s1) && decide (b = s2) && P m
  | .fld f, .Attribute (.Name n' _) f' _ => decide (n' = n) && decide (f' = f) && decide (f = f0)
  | .str x, .Constant (.str x') _ _ => decide (x' = x)
  | _, _ => false
def chkHxs (P : Str → Bool) (n f0 : Str) : List Hx → List Expr → Bool
  | [], [] => true
  | h :: hs, e :: es => chkHx P n f0 h e && chkHxs P n f0 hs es
  | _, _ => false
def chkHb (P : Str → Bool) (n f0 : Str) : Hb → Expr → Bool
  | .one h, e => chkHx P n f0 h e
  | .list hs, .List es _ => chkHxs P n f0 hs es && decide (hs.length ≤ 1000)
  | _, _ => false
def tHb (C : Addr) (i : Nat) (a : Addr) (cls : Value) (d : Option Addr) : Hb → TE
  | .one h => tHx C i a cls d h
  | .list hs => tLst (tHxs C i a cls d hs)
section
variable {X : Cx} {W : WX} {e a : Expr} {x f : Str} {p pos pos2 : Pos} {eva : Env → S → R D}
theorem hx_ok {K : KK} {g : Gh} {H : Hp} {C a : Addr} {cn : Str} {y d : D} {cls : Value} {dd : Option Addr} {σ : L2.St} {i : Nat} {Q : VK} (hC : PySem.W.nsIn K mainGlobals cn = some (some (.ref C))) (r : RepX K g H y cls dd) (ha : σ[i]? = some (some (.ref a))) :
    ∀ {h : Hx}, evHx y cn h = some d → (∀ v, Rep K g H d v → Q v H) → tHx C i a cls dd h σ H Q
  | .str x, e, q => by cases e; exact q _ rfl
  | .isT m s1 s2, e, q => by
    cases y with
    | ins c ns fs =>
      simp only [evHx] at e
      by_cases hc : c = cn
      · subst hc
        rw [if_pos rfl] at e
        cases e
        obtain ⟨C', h1, rfl, h⟩ := r
        rw [hC] at h1
        cases h1
        exact ⟨_, ha, rfl, rfl, q _ rfl⟩
      · rw [if_neg hc] at e; cases e
    | _ => cases e
  | .fld f, e, q => by
    cases y with
    | ins c ns fs =>
      simp only [evHx] at e
      by_cases hc : c = cn
      · subst hc
        rw [if_pos rfl] at e
        obtain ⟨C', h1, rfl, h⟩ := r
        rw [hC] at h1
        cases h1
        rcases h with ⟨rfl, rfl, rfl⟩ | ⟨f', z, d0, v, rfl, rfl, rfl, h2, h3⟩
        · simp [lookD] at e
        · simp only [lookD] at e
          split at e
          · rename_i hf
            subst hf
            cases e
            exact ⟨_, ha, rfl, rfl, d0, _, v, rfl, h2, by simp [List.lookup], q v h3⟩
          · cases e
      · rw [if_neg hc] at e; cases e
    | _ => cases e
theorem hxs_ok {K : KK} {g : Gh} {H : Hp} {C a : Addr} {cn : Str} {y : D} {cls : Value} {dd : Option Addr} {σ : L2.St} {i : Nat} (hC : PySem.W.nsIn K mainGlobals cn = some (some (.ref C))) (r : RepX K g H y cls dd) (ha : σ[i]? = some (some (.ref a))) :
    ∀ {hs : List Hx} {ds : List D} {Q : List V → Hp → Prop}, evHxs y cn hs = some ds → (∀ vs, Reps K g H ds vs → Q vs H) → tHxs C i a cls dd hs σ H Q
  | [], ds, Q, e, q => by cases e; exact q [] rfl
  | h :: hs, ds, Q, e, q => by
    simp only [evHxs, Option.bind_eq_some_iff] at e
    obtain ⟨d, e1, ds', e2, e3⟩ := e
    cases e3
    exact hx_ok hC r ha e1 fun v rv => hxs_ok hC r ha e2 fun vs rvs => q (v :: vs) ⟨v, vs, rfl, rv, rvs⟩
theorem pe_hx {a C : Addr} {oe : Obj} {cls : Value} {dd : Option Addr} {pn : List (Addr × Obj)} {n : Str} {i : Nat} (T : XfC X.kk C) (hno : PySem.W.findIn X.kk (.ref C) f = some none) (hi : X.N[i]? = some n) (hv : Vis X.env.scope n) (hd : (n == ("__debug__" : Str)) = false) (hcd : (n == ("__classdict__" : Str)) = false)
    (hz : Zc cls dd oe) (hf : ∃ vs, oe.data = .fields vs) {P : Str → Bool} (hP : ∀ m, P m = true → ∃ C2, Gl X "isinstance" ∧ X.mg "isinstance" = none ∧ Gl X m ∧ X.mg m = some (.ref C2) ∧ (m == ("__debug__" : Str)) = false ∧ PySem.W.kitOne X.kk (.ref C) (.ref C2) = some true) {h : Hx} {e : Expr} (hc : chkHx P n f h e = true) : PE (X.suite a ((a, oe) :: pn)) e (tHx C i a cls dd h) := by
  unfold chkHx at hc
  split at hc
  · simp only [Bool.and_eq_true, decide_eq_true_eq] at hc
    obtain ⟨⟨⟨⟨⟨rfl, rfl⟩, rfl⟩, rfl⟩, rfl⟩, hm⟩ := hc
    obtain ⟨C2, q1, q2, q3, q4, q5, q6⟩ := hP _ hm
    refine (pe_ifExp (pt_val (pe_callB (X := X.suite a ((a, oe) :: pn)) (call_isT hz q6) q1 q2 (by decide +kernel) (pa_cons (pe_var (X := X.suite a ((a, oe) :: pn)) hi hv hd hcd) (pa_cons (pe_glob (X := X.suite a ((a, oe) :: pn)) (v := V.ref C2) q3 q4 rfl q5) pa_nil rfl) rfl) (by decide +kernel) (by decide +kernel) rfl rfl)) pe_str pe_str).imp fun σ H Q ⟨x, h1, h2, h3, h4⟩ => ?_
    subst h2
    exact ⟨_, h1, ⟨rfl, h3, true, rfl, iteT h4⟩⟩
  · simp only [Bool.and_eq_true, decide_eq_true_eq] at hc
    obtain ⟨⟨rfl, rfl⟩, rfl⟩ := hc
    exact pe_xf (X := X) T hno hz hf (pe_var (X := X.suite a ((a, oe) :: pn)) hi hv hd hcd) rfl
  · simp only [decide_eq_true_eq] at hc
    subst hc
    exact pe_str
  · cases hc
theorem chk_ns {P : Str → Bool} {n f0 : Str} {h : Hx} {e : Expr} (hc : chkHx P n f0 h e = true) : notStar e = true := by
  unfold chkHx at hc
  split at hc <;> first | rfl | cases hc
theorem pa_hxs {a C : Addr} {oe : Obj} {cls : Value} {dd : Option Addr} {pn : List (Addr × Obj)} {n : Str} {i : Nat} (T : XfC X.kk C) (hno : PySem.W.findIn X.kk (.ref C) f = some none) (hi : X.N[i]? = some n) (hv : Vis X.env.scope n) (hd : (n == ("__debug__" : Str)) = false) (hcd : (n == ("__classdict__" : Str)) = false)
    (hz : Zc cls dd oe) (hf : ∃ vs, oe.data = .fields vs) {P : Str → Bool} (hP : ∀ m, P m = true → ∃ C2, Gl X "isinstance" ∧ X.mg "isinstance" = none ∧ Gl X m ∧ X.mg m = some (.ref C2) ∧ (m == ("__debug__" : Str)) = false ∧ PySem.W.kitOne X.kk (.ref C) (.ref C2) = some true) : ∀ {hs : List Hx} {es : List Expr}, chkHxs P n f hs es = true → PA (X.suite a ((a, oe) :: pn)) es (tHxs C i a cls dd hs)
  | [], [], _ => pa_nil
  | h :: hs, e :: es, hc => by
    simp only [chkHxs, Bool.and_eq_true] at hc
    exact pa_cons (pe_hx T hno hi hv hd hcd hz hf hP hc.1) (pa_hxs T hno hi hv hd hcd hz hf hP hc.2) (star_ns (chk_ns hc.1))
  | [], _ :: _, hc => by cases hc
  | _ :: _, [], hc => by cases hc
theorem evHxs_len {y : D} {cn : Str} : ∀ {hs : List Hx} {ds : List D}, evHxs y cn hs = some ds → ds.length = hs.length
  | [], ds, e => by cases e; rfl
  | h :: hs, ds, e => by
    simp only [evHxs, Option.bind_eq_some_iff] at e
    obtain ⟨d, e1, ds', e2, e3⟩ := e
    cases e3
    simp [evHxs_len e2]
theorem chkHb_len {P : Str → Bool} {n f0 : Str} {hs : List Hx} {e : Expr} (h : chkHb P n f0 (.list hs) e = true) : hs.length ≤ 1000 := by
  unfold chkHb at h
  split at h
  · rename_i q; cases q
  · rename_i q; cases q
    simp only [Bool.and_eq_true, decide_eq_true_eq] at h
    exact h.2
  · cases h
theorem ds_try {evs : Env → S → R Fl} {body : List Stmt} {hc n : Str} {np pos' : Pos} {i : Nat} {he : Expr} {hb : Hb} {xm : Str → Option Bool} (ok : ExcOk X.kk X.mg hc f) (xok : XmOk X.kk X.mg hc xm) (hs : X.stack = X.env :: X.outer) (hf : X.env.frame = some X.env.locals) (hN : X.N.Nodup)
    (hi : X.N[i]? = some n) (hln : X.env.kindOf n = some .local) (hd : (n == ("__debug__" : Str)) = false) (hcd : (n == ("__classdict__" : Str)) = false) (hg : Gl X hc) (hgd : (hc == ("__debug__" : Str)) = false) (tk : Takes X W) {P : Str → Bool} (hP : ∀ m, P m = true → ∃ C2, Gl X "isinstance" ∧ X.mg "isinstance" = none ∧ Gl X m ∧ X.mg m = some (.ref C2) ∧ (m == ("__debug__" : Str)) = false ∧ ∀ C, PySem.W.nsIn X.kk mainGlobals hc = some (some (.ref C)) → PySem.W.kitOne X.kk (.ref C) (.ref C2) = some true) (hck : chkHb P n f hb he = true)
    (hbody : ∀ (W : WX) (pn : List (Addr × Obj)) (xe : Value → Shared → Prop), Takes (X.tr pn xe) W → PassesOwn (model X.prog X.w) X.A X.env xe → PSs (X.tr pn xe) body (TSof X.kk W evs)) :
    PS X (.Try body [.ExceptHandler (some (.Name hc np)) (some n) [.Return (some he) pos2] pos'] [] [] pos) (TSof X.kk W fun env s => tryR i (evs env s) xm fun y => evHb y hc hb) := by
  obtain ⟨C, fI, fd, qual, s0, v0, st, h1, h2, h3, h4, h5, h6, h7, h8, h9, h10⟩ := ok.ex
  have hv : Vis X.env.scope n := .inl hln
  refine (ps_try_as (c := .ref C) (ts := fun a cls d => tRet (tHb C i a cls d hb)) hs hf hN hi hln ⟨hg, hgd, .inl h2⟩ tk hbody fun a oe cls d pn hz hfl => pss_one (ps_ret ?_)).imp fun D' σ H ⟨g0, H0, g, env, s, x0, eo, ss, h⟩ => ⟨g0, H0, g, env, s, x0, eo, ss, ?_⟩
  · cases hb with
    | one h => exact pe_hx h4 h5 hi hv hd hcd hz hfl (fun m hm => let ⟨C2, q1, q2, q3, q4, q5, q6⟩ := hP m hm; ⟨C2, q1, q2, q3, q4, q5, q6 C h1⟩) hck
    | list hs =>
      unfold chkHb at hck
      split at hck
      · rename_i q; cases q
      · rename_i q; cases q
        simp only [Bool.and_eq_true] at hck
        exact pe_lst (pa_hxs h4 h5 hi hv hd hcd hz hfl (fun m hm => let ⟨C2, q1, q2, q3, q4, q5, q6⟩ := hP m hm; ⟨C2, q1, q2, q3, q4, q5, q6 C h1⟩) hck.1)
      · cases hck
  · dsimp only at h
    cases q : evs env s with
    | no => rw [q] at h; exact h.elim
    | exn x s1 => rw [q] at h; exact h.elim
    | ok fl s1 =>
      rw [q] at h
      cases fl with
      | next env1 => exact h
      | ret d => exact h
      | brk env1 => exact h
      | cont env1 => exact h
      | exn y env1 =>
        cases y with
        | ins cn ns fs =>
          intro g1 H1 σ1 cls d k1 x1 eo1 ss1 r1
          simp only [tryR] at h
          cases e : xm cn with
          | none => rw [e] at h; exact h.elim
          | some b =>
            rw [e] at h
            obtain ⟨C1, C2, c1, c2, c3⟩ := xok cn b e
            rw [h2] at c2
            cases c2
            have r2 := r1
            obtain ⟨C', c4, rfl, _⟩ := r1
            rw [c1] at c4
            cases c4
            refine ⟨b, c3, fun hb1 a0 na => ?_, fun hb1 => ?_⟩
            · subst hb1
              simp only at h
              cases e3 : guardB (decide (i < env1.length)) (evHb (.ins cn ns fs) hc hb) with
              | none => rw [e3] at h; exact h.elim
              | some y =>
                rw [e3] at h
                obtain ⟨hlt, e2⟩ := guardB_some e3
                have hlt : i < σ1.length := by rw [eo1.len]; exact of_decide_eq_true hlt
                have hσ : (σ1.set i (some (V.ref a0)))[i]? = some (some (.ref a0)) := List.getElem?_set_self hlt
                cases hb with
                | one hx => exact hx_ok h1 r2 hσ e2 fun v rv => h g1 H1 v x1 ss1 rv
                | list hs =>
                  simp only [evHb, Option.map_eq_some_iff] at e2
                  obtain ⟨ds, e2, rfl⟩ := e2
                  refine hxs_ok h1 r2 hσ e2 fun vs rvs => ?_
                  have hl : ds.length ≤ sizeLine := by
                    have := chkHb_len hck
                    rw [evHxs_len e2, sizeLine_eq]
                    omega
                  refine ⟨by rw [rvs.length]; exact hl, fun p hp => ?_⟩
                  have x2 : Ext X.kk g1 H1 g1 (upd H1 p (.lst vs)) := Ext.new hp
                  have x3 := Ext.frz x2 hp
                  exact h (g1.frz p) _ _ (x1.trans x3) ((ss1.new hp).frz' (ss1.fresh_io hp) (by rw [upd_same]; simp)) ⟨hl, p, vs, rfl, .inr rfl, upd_same, Reps.ext x3 _ _ rvs⟩
            · subst hb1
              exact h g1 H1 σ1 _ d k1 x1 eo1 ss1 r2
        | _ => exact h.elim
theorem ds_xsetn {i : Nat} {st : Stmt} {te : TE} {ev : Env → S → R D} (h : PS X st (tAsg te (gName i))) (w : ∀ σ H Q, TXof X.kk W ev σ H Q → te σ H Q) : PS X st (TSof X.kk W fun env s => xres (ev env s) env fun d s => (lift ((Tg.nm i).put d env) s).bind fun env s => .ok (.next env) s) :=
  h.imp fun D' σ H h => w _ _ _ (TXof.to (kk := fun d env s => (lift ((Tg.nm i).put d env) s).bind fun env s => .ok (.next env) s) h fun g0 H0 g env d s x eo h g1 H1 v x1 ss1 r1 => by
    obtain ⟨env1, s2, h3, h4⟩ := h.ok
    obtain ⟨h5, rfl⟩ := lift_ok h3
    exact tg_ok (.nm i) d v env env1 σ _ h5 (eo.ext x1) r1 fun σ2 eo2 _ => h4 g1 H1 σ2 x1.toKp (x.trans x1) eo2 ss1)
theorem mem_lookup {α β : Type} [BEq α] [LawfulBEq α] {l : List (α × β)} {x : α} {y : β} (h : l.lookup x = some y) : (x, y) ∈ l := by
  induction l with
  | nil => cases h
  | cons p l ih =>
    obtain ⟨a, b⟩ := p
    simp only [List.lookup] at h
    split at h
    · rename_i e
      cases h
      have := eq_of_beq e
      subst this
      exact List.mem_cons_self ..
    · exact List.mem_cons_of_mem _ (ih h)
end
end Fw
namespace Fw
open PySem PySem.Spec PyProof.Rows L2
/-! ## try with several clauses; errors without fields -/
def chkHy (P : Str → Bool) (n f0 : Option Str) : Hx → Expr → Bool
  | .isT m s1 s2, .IfExp (.Call (.Name f _) [.Name n' _, .Name m' _] [] _) (.Constant (.str a) _ _) (.Constant (.str b) _ _) _ => decide (f = Str.ofString "isinstance") && decide (n = some n') && decide (m' = m) && decide (a = s1) && decide (b = s2) && P m
  | .fld f, .Attribute (.Name n' _) f' _ => decide (n = some n') && decide (f' = f) && decide (f0 = some f)
  | .str x, .Constant (.str x') _ _ => decide (x' = x)
  | _, _ => false
def chkHys (P : Str → Bool) (n f0 : Option Str) : List Hx → List Expr → Bool
  | [], [] => true
  | h :: hs, e :: es => chkHy P n f0 h e && chkHys P n f0 hs es
  | _, _ => false
def chkHyb (P : Str → Bool) (n f0 : Option Str) : Hb → Expr → Bool
  | .one h, e => chkHy P n f0 h e
  | .list hs, .List es _ => chkHys P n f0 hs es && decide (hs.length ≤ 1000)
  | _, _ => false
/-- what is known of an own name of an error class in isinstance -/
def IsiP (X : Cx) (C : Addr) (P : Str → Bool) : Prop := ∀ m, P m = true → ∃ C2, Gl X "isinstance" ∧ X.mg "isinstance" = none ∧ Gl X m ∧ X.mg m = some (.ref C2) ∧ (m == ("__debug__" : Str)) = false ∧ PySem.W.kitOne X.kk (.ref C) (.ref C2) = some true
/-- what is known of the clause's name -/
def NmP (X : Cx) (i : Nat) (n : Option Str) : Prop := ∀ x, n = some x → X.N[i]? = some x ∧ X.env.kindOf x = some .local ∧ (x == ("__debug__" : Str)) = false ∧ (x == ("__classdict__" : Str)) = false
def FdP (X : Cx) (C : Addr) (f0 : Option Str) : Prop := ∀ f, f0 = some f → XfC X.kk C ∧ PySem.W.findIn X.kk (.ref C) f = some none
section
variable {X : Cx} {W : WX} {e a : Expr} {x f : Str} {p pos pos2 : Pos} {eva : Env → S → R D}
theorem pe_hy {a C : Addr} {oe : Obj} {cls : Value} {dd : Option Addr} {pn : List (Addr × Obj)} {n f0 : Option Str} {i : Nat} (hn : NmP X i n) (hf0 : FdP X C f0) (hz : Zc cls dd oe) (hf : ∃ vs, oe.data = .fields vs) {P : Str → Bool} (hP : IsiP X C P) {h : Hx} {e : Expr} (hc : chkHy P n f0 h e = true) : PE (X.suite a ((a, oe) :: pn)) e (tHx C i a cls dd h) := by
  unfold chkHy at hc
  split at hc
  · simp only [Bool.and_eq_true, decide_eq_true_eq] at hc
    obtain ⟨⟨⟨⟨⟨rfl, h0⟩, rfl⟩, rfl⟩, rfl⟩, hm⟩ := hc
    obtain ⟨C2, q1, q2, q3, q4, q5, q6⟩ := hP _ hm
    obtain ⟨n1, n2, n3, n4⟩ := hn _ h0
    refine (pe_ifExp (pt_val (pe_callB (X := X.suite a ((a, oe) :: pn)) (call_isT hz q6) q1 q2 (by decide +kernel) (pa_cons (pe_var (X := X.suite a ((a, oe) :: pn)) n1 (.inl n2) n3 n4) (pa_cons (pe_glob (X := X.suite a ((a, oe) :: pn)) (v := V.ref C2) q3 q4 rfl q5) pa_nil rfl) rfl) (by decide +kernel) (by decide +kernel) rfl rfl)) pe_str pe_str).imp fun σ H Q ⟨x, h1, h2, h3, h4⟩ => ?_
    subst h2
    exact ⟨_, h1, ⟨rfl, h3, true, rfl, iteT h4⟩⟩
  · simp only [Bool.and_eq_true, decide_eq_true_eq] at hc
    obtain ⟨⟨h0, rfl⟩, h1⟩ := hc
    obtain ⟨n1, n2, n3, n4⟩ := hn _ h0
    obtain ⟨T, hno⟩ := hf0 _ h1
    exact pe_xf (X := X) T hno hz hf (pe_var (X := X.suite a ((a, oe) :: pn)) n1 (.inl n2) n3 n4) rfl
  · simp only [decide_eq_true_eq] at hc
    subst hc
    exact pe_str
  · cases hc
theorem chky_ns {P : Str → Bool} {n f0 : Option Str} {h : Hx} {e : Expr} (hc : chkHy P n f0 h e = true) : notStar e = true := by
  unfold chkHy at hc
  split at hc <;> first | rfl | cases hc
theorem pa_hys {a C : Addr} {oe : Obj} {cls : Value} {dd : Option Addr} {pn : List (Addr × Obj)} {n f0 : Option Str} {i : Nat} (hn : NmP X i n) (hf0 : FdP X C f0) (hz : Zc cls dd oe) (hf : ∃ vs, oe.data = .fields vs) {P : Str → Bool} (hP : IsiP X C P) : ∀ {hs : List Hx} {es : List Expr}, chkHys P n f0 hs es = true → PA (X.suite a ((a, oe) :: pn)) es (tHxs C i a cls dd hs)
  | [], [], _ => pa_nil
  | h :: hs, e :: es, hc => by
    simp only [chkHys, Bool.and_eq_true] at hc
    exact pa_cons (pe_hy hn hf0 hz hf hP hc.1) (pa_hys hn hf0 hz hf hP hc.2) (star_ns (chky_ns hc.1))
  | [], _ :: _, hc => by cases hc
  | _ :: _, [], hc => by cases hc
theorem chkHyb_len {P : Str → Bool} {n f0 : Option Str} {hs : List Hx} {e : Expr} (h : chkHyb P n f0 (.list hs) e = true) : hs.length ≤ 1000 := by
  unfold chkHyb at h
  split at h
  · rename_i q; cases q
  · rename_i q; cases q
    simp only [Bool.and_eq_true, decide_eq_true_eq] at h
    exact h.2
  · cases h
theorem pe_hyb {a C : Addr} {oe : Obj} {cls : Value} {dd : Option Addr} {pn : List (Addr × Obj)} {n f0 : Option Str} {i : Nat} (hn : NmP X i n) (hf0 : FdP X C f0) (hz : Zc cls dd oe) (hf : ∃ vs, oe.data = .fields vs) {P : Str → Bool} (hP : IsiP X C P) {hb : Hb} {e : Expr} (hc : chkHyb P n f0 hb e = true) : PE (X.suite a ((a, oe) :: pn)) e (tHb C i a cls dd hb) := by
  cases hb with
  | one h => exact pe_hy hn hf0 hz hf hP hc
  | list hs =>
    unfold chkHyb at hc
    split at hc
    · rename_i q; cases q
    · rename_i q; cases q
      simp only [Bool.and_eq_true] at hc
      exact pe_lst (pa_hys hn hf0 hz hf hP hc.1)
    · cases hc
/-- what is known of a clause of the text -/
structure ClF (X : Cx) (k : Cl) (no : Option Str) (he : Expr) (C : Addr) (f0 : Option Str) (P : Str → Bool) : Prop where
  ns : PySem.W.nsIn X.kk mainGlobals k.hc = some (some (.ref C))
  mg : X.mg k.hc = some (.ref C)
  gl : Gl X k.hc
  db : (k.hc == ("__debug__" : Str)) = false
  nm : no.isSome = k.nm
  no_ : NmP X k.i no
  fd : FdP X C f0
  isi : IsiP X C P
  ck : chkHyb P no f0 k.h he = true
  xm : XmOk X.kk X.mg k.hc fun cn => k.xm.lookup cn
inductive ClsF (X : Cx) : List Cl → List ExceptHandler → Prop
  | nil : ClsF X [] []
  | cons {k : Cl} {no : Option Str} {he : Expr} {C : Addr} {f0 : Option Str} {P : Str → Bool} {p p2 p3 : Pos} {r : List Cl} {hs : List ExceptHandler} (h : ClF X k no he C f0 P) (t : ClsF X r hs) : ClsF X (k :: r) (.ExceptHandler (some (.Name k.hc p)) no [.Return (some he) p2] p3 :: hs)
theorem cls_of {cl : List Cl} {hs : List ExceptHandler} (h : ClsF X cl hs) : ∃ l, ClsT X hs l ∧ ∀ {g0 : Gh} {H0 : Hp} {g : Gh} {H : Hp} {D' : Ends} {cn : Str} {ns : List Str} {fs : List D} {env : Env} {s : S} {g1 : Gh} {H1 : Hp} {σ1 : L2.St} {cls : Value} {d : Option Addr}, Kp X.kk g H g1 H1 → Ext X.kk g0 H0 g1 H1 → EnvOk X.kk g1 H1 H0 env σ1 → SimS X.kk g1 s H1 → RepX X.kk g1 H1 (.ins cn ns fs) cls d →
    OutS X.kk W g0 H0 g H D' (clsR cn ns fs env s cl) → wCls X.kk W D' l cls d σ1 H1 := by
  induction h with
  | nil => exact ⟨[], .nil, fun k1 x1 eo1 ss1 r1 h => h _ _ _ _ _ k1 x1 eo1 ss1 r1⟩
  | @cons k no he C f0 P p p2 p3 r hs h t ih =>
    obtain ⟨l, hl, hw⟩ := ih
    have hN : Names X k.hc (.ref C) := ⟨h.gl, h.db, .inl h.mg⟩
    -- what the clause does with an error that it looks at
    have look : ∀ {g0 : Gh} {H0 : Hp} {g : Gh} {H : Hp} {D' : Ends} {cn : Str} {ns : List Str} {fs : List D} {env : Env} {s : S} {g1 : Gh} {H1 : Hp} {σ1 : L2.St} {cls : Value} {d : Option Addr}, Kp X.kk g H g1 H1 → Ext X.kk g0 H0 g1 H1 → EnvOk X.kk g1 H1 H0 env σ1 → SimS X.kk g1 s H1 → RepX X.kk g1 H1 (.ins cn ns fs) cls d →
        OutS X.kk W g0 H0 g H D' (clsR cn ns fs env s (k :: r)) → ∃ y, PySem.W.exmOne X.K cls (.ref C) = some y ∧
          (y = true → ∃ dd, (!k.nm || decide (k.i < σ1.length)) = true ∧ evHb (.ins cn ns fs) k.hc k.h = some dd ∧ ∀ g2 H2 v, Ext X.kk g1 H1 g2 H2 → SimS X.kk g2 s H2 → Rep X.kk g2 H2 dd v → D'.rt v H2) ∧ (y = false → wCls X.kk W D' l cls d σ1 H1) := by
      intro g0 H0 g H D' cn ns fs env s g1 H1 σ1 cls d k1 x1 eo1 ss1 r1 q
      simp only [clsR] at q
      cases e : k.xm.lookup cn with
      | none => rw [e] at q; exact q.elim
      | some b =>
        rw [e] at q
        obtain ⟨C1, C2, c1, c2, c3⟩ := h.xm cn b e
        rw [h.mg] at c2
        cases c2
        have r2 := r1
        obtain ⟨C', c4, rfl, _⟩ := r2
        rw [c1] at c4
        cases c4
        refine ⟨b, c3, fun hb => ?_, fun hb => ?_⟩
        · subst hb
          simp only at q
          cases e3 : guardB (!k.nm || decide (k.i < env.length)) (evHb (.ins cn ns fs) k.hc k.h) with
          | none => rw [e3] at q; exact q.elim
          | some dd =>
            rw [e3] at q
            obtain ⟨hlt, e2⟩ := guardB_some e3
            exact ⟨dd, by rw [eo1.len]; exact hlt, e2, fun g2 H2 v x2 ss2 rv => q g2 H2 v (x1.trans x2) ss2 rv⟩
        · subst hb
          exact hw k1 x1 eo1 ss1 r1 q
    have fin : ∀ {D' : Ends} {cn : Str} {ns : List Str} {fs : List D} {s : S} {g1 : Gh} {H1 : Hp} {σ2 : L2.St} {cls : Value} {d : Option Addr} {a0 : Addr} {dd : D}, RepX X.kk g1 H1 (.ins cn ns fs) cls d → SimS X.kk g1 s H1 → (∀ n, no = some n → σ2[k.i]? = some (some (.ref a0))) → evHb (.ins cn ns fs) k.hc k.h = some dd →
        (∀ g2 H2 v, Ext X.kk g1 H1 g2 H2 → SimS X.kk g2 s H2 → Rep X.kk g2 H2 dd v → D'.rt v H2) → tHb C k.i a0 cls d k.h σ2 H1 fun v H2 => D'.rt v H2 := by
      intro D' cn ns fs s g1 H1 σ2 cls d a0 dd r1 ss1 hσ e2 q
      have hck := h.ck
      -- where the clause has no name its slot is not asked
      have one : ∀ {hx : Hx} {e : Expr} {Q : VK} {d0 : D}, chkHy P no f0 hx e = true → evHx (.ins cn ns fs) k.hc hx = some d0 → (∀ v, Rep X.kk g1 H1 d0 v → Q v H1) → tHx C k.i a0 cls d hx σ2 H1 Q := by
        intro hx e Q d0 c0 e0 q0
        cases no with
        | some n => exact hx_ok h.ns r1 (hσ n rfl) e0 q0
        | none =>
          unfold chkHy at c0
          split at c0
          · simp at c0
          · simp at c0
          · cases e0; exact q0 _ rfl
          · cases c0
      cases hb : k.h with
      | one hx =>
        rw [hb] at e2 hck
        exact one hck e2 fun v rv => q g1 H1 v Ext.refl ss1 rv
      | list hxs =>
        rw [hb] at e2 hck
        simp only [evHb, Option.map_eq_some_iff] at e2
        obtain ⟨ds, e2, rfl⟩ := e2
        have hlen := chkHyb_len hck
        have all : ∀ {hs : List Hx} {es : List Expr} {ds : List D} {Q : List V → Hp → Prop}, chkHys P no f0 hs es = true → evHxs (.ins cn ns fs) k.hc hs = some ds → (∀ vs, Reps X.kk g1 H1 ds vs → Q vs H1) → tHxs C k.i a0 cls d hs σ2 H1 Q := by
          intro hs
          induction hs with
          | nil => intro es ds Q c0 e0 q0; cases e0; exact q0 [] rfl
          | cons hx hs ih2 =>
            intro es ds Q c0 e0 q0
            cases es with
            | nil => simp [chkHys] at c0
            | cons e1 es =>
              simp only [chkHys, Bool.and_eq_true] at c0
              simp only [evHxs, Option.bind_eq_some_iff] at e0
              obtain ⟨d1, e1', ds', e2', e3⟩ := e0
              cases e3
              exact one c0.1 e1' fun v rv => ih2 c0.2 e2' fun vs rvs => q0 (v :: vs) ⟨v, vs, rfl, rv, rvs⟩
        unfold chkHyb at hck
        split at hck
        · rename_i q; cases q
        · rename_i qq; cases qq
          simp only [Bool.and_eq_true] at hck
          refine all hck.1 e2 fun vs rvs => ?_
          have hl : ds.length ≤ sizeLine := by rw [evHxs_len e2, sizeLine_eq]; omega
          refine ⟨by rw [rvs.length]; exact hl, fun p hp => ?_⟩
          have x2 : Ext X.kk g1 H1 g1 (upd H1 p (.lst vs)) := Ext.new hp
          have x3 := Ext.frz x2 hp
          exact q (g1.frz p) _ _ x3 ((ss1.new hp).frz' (ss1.fresh_io hp) (by rw [upd_same]; simp)) ⟨hl, p, vs, rfl, .inr rfl, upd_same, Reps.ext x3 _ _ rvs⟩
        · cases hck
    have su : SuT X (.Return (some he) p2) [] (fun a cls d => tRet (tHb C k.i a cls d k.h)) := fun a oe cls d pn hz hfl => pss_one (ps_ret (pe_hyb h.no_ h.fd hz hfl h.isi h.ck))
    cases no with
    | none =>
      refine ⟨(.ref C, none, fun a cls d => tRet (tHb C k.i a cls d k.h)) :: l, .bare hN su hl, fun {g0 H0 g H D' cn ns fs env s g1 H1 σ1 cls d} k1 x1 eo1 ss1 r1 q => ?_⟩
      obtain ⟨y, hy, h1, h0⟩ := look k1 x1 eo1 ss1 r1 q
      refine ⟨y, hy, fun hb a0 na => ?_, h0⟩
      obtain ⟨dd, _, e2, q2⟩ := h1 hb
      exact fin (D' := D') r1 ss1 (fun n z => nomatch z) e2 q2
    | some n =>
      obtain ⟨n1, n2, n3, n4⟩ := h.no_ n rfl
      refine ⟨(.ref C, some k.i, fun a cls d => tRet (tHb C k.i a cls d k.h)) :: l, .named hN n1 n2 su hl, fun {g0 H0 g H D' cn ns fs env s g1 H1 σ1 cls d} k1 x1 eo1 ss1 r1 q => ?_⟩
      obtain ⟨y, hy, h1, h0⟩ := look k1 x1 eo1 ss1 r1 q
      refine ⟨y, hy, fun hb a0 na => ?_, h0⟩
      obtain ⟨dd, hlt, e2, q2⟩ := h1 hb
      have hnm : k.nm = true := h.nm.symm
      rw [hnm] at hlt
      exact fin (D' := { nx := fun σ1 H1 => D'.nx (σ1.set k.i none) H1, rt := D'.rt, bk := fun σ1 H1 => D'.bk (σ1.set k.i none) H1, ct := fun σ1 H1 => D'.ct (σ1.set k.i none) H1 }) r1 ss1 (fun n _ => List.getElem?_set_self (by simpa using hlt)) e2 q2
theorem ds_tryN {evs : Env → S → R Fl} {body : List Stmt} {h0 : ExceptHandler} {hs : List ExceptHandler} {cl : List Cl} (hst : X.stack = X.env :: X.outer) (hfr : X.env.frame = some X.env.locals) (hN : X.N.Nodup) (tk : Takes X W) (hc : ClsF X cl (h0 :: hs))
    (hbody : ∀ (W : WX) (pn : List (Addr × Obj)) (xe : Value → Shared → Prop), Takes (X.tr pn xe) W → PassesOwn (model X.prog X.w) X.A X.env xe → PSs (X.tr pn xe) body (TSof X.kk W evs)) :
    PS X (.Try body (h0 :: hs) [] [] pos) (TSof X.kk W fun env s => trysR (evs env s) cl) := by
  obtain ⟨l, hl, hw⟩ := cls_of (W := W) hc
  refine (ps_tryN hst hfr hN tk hbody hl).imp fun D' σ H ⟨g0, H0, g, env, s, x0, eo, ss, h⟩ => ⟨g0, H0, g, env, s, x0, eo, ss, ?_⟩
  dsimp only at h
  cases q : evs env s with
  | no => rw [q] at h; exact h.elim
  | exn x s1 => rw [q] at h; exact h.elim
  | ok fl s1 =>
    rw [q] at h
    cases fl with
    | next env1 => exact h
    | ret d => exact h
    | brk env1 => exact h
    | cont env1 => exact h
    | exn y env1 =>
      cases y with
      | ins cn ns fs => exact fun g1 H1 σ1 cls d k1 x1 eo1 ss1 r1 => hw k1 x1 eo1 ss1 r1 h
      | _ => exact h.elim
theorem ds_rais0 (hc : X.calm = true) (tk : Takes X W) (ok : Exc0 X.kk X.mg x) (hg : Gl X x) (hdb : (x == ("__debug__" : Str)) = false) : PS X (.Raise (some (.Call (.Name x p) [] [] pos)) none pos2) (TSof X.kk W fun env s => .ok (.exn (.ins x [] []) env) s) := by
  obtain ⟨C, h1, h2, h3, h4, h5, h6⟩ := ok
  exact (ps_raise hc tk (pmk_none PySem.F.excBase_ValueError h3 h2 h4 (raises_own h5 h6) hg hdb)).imp fun D' σ H ⟨g0, H0, g, env, s, x0, eo, ss, h⟩ => h g H σ _ _ Kp.refl x0 eo ss ⟨C, h1, rfl, .inl ⟨rfl, rfl, rfl⟩⟩
end
end Fw
namespace Fw
open PySem PySem.Spec PyProof.Rows L2
def isComp : F → Bool
  | .comp .. => true
  | _ => false
def isFrzComp : E → Bool
  | .frz f => isComp f
  | .dcomp .. => true
  | _ => false
def locNm (c : Cc) (i : Nat) (y : Str) : Bool := decide (c.N[i]? = some y) && (decide (c.sc.names.lookup y = some .local) || (decide (c.sc.names.lookup y = some .cell) && c.fn y))
def par2 (c : Cc) (g : Tg) (e : E) (ts : List Expr) (x : Expr) : Bool := match g, e, ts, x with
  | .tup (.cons (.nm i) (.cons (.nm j) .nil)), .tup (.cons _ (.cons _ .nil)), [.Name y1 _, .Name y2 _], .Tuple [_, _] _ _ =>
    decide (i ≠ j) && decide (c.N[i]? = some y1) && decide (c.N[j]? = some y2) && decide (c.sc.names.lookup y1 = some .local) && decide (c.sc.names.lookup y2 = some .local) && decide (swp c.sc ts x = some (some [y1, y2]))
  | _, _, _, _ => false
section
variable (pg : Pg)
def chkPs : List Pc → Cc → List Expr → Bool
  | [], _, es => (match es with | [] => true | _ => false)
  | .o f :: r, c, es => (match es with | e :: es => chkF pg f c e && notStar e && chkPs r c es | _ => false)
  | .v a :: r, c, es => (match es with | e :: es => chkE pg a c e && strict a && notStar e && chkPs r c es | _ => false)
  | .d0 _ :: r, c, es => (match es with | .Dict [] [] _ :: es => chkPs r c es | _ => false)
  | .d1 t a b :: r, c, es => (match es with | .Dict [some x] [y] _ :: es => t && chkE pg a c x && strict a && chkE pg b c y && strict b && chkPs r c es | _ => false)
def parB (c : Cc) (is : List Nat) (ts : List Expr) (x : Expr) : Bool := match is, ts with
  | [i, j], [.Name y1 _, .Name y2 _] => decide (i ≠ j) && decide (c.N[i]? = some y1) && decide (c.N[j]? = some y2) && decide (c.sc.names.lookup y1 = some .local) && decide (c.sc.names.lookup y2 = some .local) && decide (swp c.sc ts x = some (some [y1, y2]))
  | [i, j, l], [.Name y1 _, .Name y2 _, .Name y3 _] => decide (i ≠ j) && decide (i ≠ l) && decide (j ≠ l) && decide (c.N[i]? = some y1) && decide (c.N[j]? = some y2) && decide (c.N[l]? = some y3)
    && decide (c.sc.names.lookup y1 = some .local) && decide (c.sc.names.lookup y2 = some .local) && decide (c.sc.names.lookup y3 = some .local) && decide (swp c.sc ts x = some (some [y1, y2, y3]))
  | [i, j, l, m], [.Name y1 _, .Name y2 _, .Name y3 _, .Name y4 _] => decide (c.N[i]? = some y1) && decide (c.N[j]? = some y2) && decide (c.N[l]? = some y3) && decide (c.N[m]? = some y4)
    && decide (c.sc.names.lookup y1 = some .local) && decide (c.sc.names.lookup y2 = some .local) && decide (c.sc.names.lookup y3 = some .local) && decide (c.sc.names.lookup y4 = some .local) && decide (swp c.sc ts x = some none)
  | _, _ => false
/-- the same where the tuple is made: names of the frame, cells among them -/
def parT (c : Cc) (is : List Nat) (ts : List Expr) (x : Expr) : Bool := match is, ts with
  | [i, j], [.Name y1 _, .Name y2 _] => locNm c i y1 && locNm c j y2 && decide (swp c.sc ts x = some none)
  | [i, j, l], [.Name y1 _, .Name y2 _, .Name y3 _] => locNm c i y1 && locNm c j y2 && locNm c l y3 && decide (swp c.sc ts x = some none)
  | _, _ => false
/-- a call whose value a statement takes -/
def callB (c : Cc) (f : Nat) (es : Es) (e : Expr) : Bool := match e with
  | .Call (.Name x _) xs [] _ => (match pg.fns[f]? with | some fi => decide (fi.name = x) | none => false) && glB c x && chkEs pg es c xs && strictEs es && (pg.kw f).isNone && (pg.ms f).isNone && !xs.isEmpty
  | _ => false
/-- the clauses of a try -/
def chkCl (c : Cc) : List Cl → List ExceptHandler → Bool
  | [], [] => true
  | k :: r, .ExceptHandler (some (.Name x _)) no [.Return (some he) _] _ :: hs => decide (x = k.hc) && glB c k.hc && (no.isSome == k.nm) && (match no with
      | none => true
      | some n => decide (c.N[k.i]? = some n) && decide (c.sc.names.lookup n = some .local) && !(n == ("__debug__" : Str)) && !(n == ("__classdict__" : Str))) &&
    ((pg.es.any fun q => decide (q.1 = k.hc) && chkHyb (fun m => blB pg c (Str.ofString "isinstance") && glB c m && pg.xm.contains (k.hc, m, true)) no (some q.2) k.h he) || (pg.e0.contains k.hc && chkHyb (fun m => blB pg c (Str.ofString "isinstance") && glB c m && pg.xm.contains (k.hc, m, true)) no none k.h he)) &&
    (k.xm.all fun q => pg.xm.contains (q.1, k.hc, q.2)) && chkCl c r hs
  | _, _ => false
mutual
def chkC : C → Cc → Stmt → Bool
  | .rais0 cn, c, st => (match st with
    | .Raise (some (.Call (.Name x _) [] [] _)) none _ => decide (x = cn) && glB c x && pg.e0.contains cn
    | _ => false)
  | .trym b cl, c, st => (match st with
    | .Try body hs [] [] _ => !hs.isEmpty && chkCl pg c cl hs && chkCs b c body
    | _ => false)
  | .rais cn f e, c, st => (match st with
    | .Raise (some (.Call (.Name x _) [a] [] _)) none _ => decide (x = cn) && glB c x && notStar a && chkE pg e c a && strict e && pg.es.contains (cn, f)
    | _ => false)
  | .xcl t f es, c, st => (match t, st with
    | .drop, .Expr (.Call x y z p) _ => callB pg c f es (.Call x y z p) && noComp (.Call x y z p)
    | .ret, .Return (some x) _ => callB pg c f es x
    | .retL z, .Return (some (.List [.Constant (.str z') _ _, x] _)) _ => decide (z' = z) && callB pg c f es x && notStar x
    | .set (.nm i), .Assign [.Name y py] x _ => callB pg c f es x && locNm c i y && okSet x && !(swB c.sc x y py.line)
    | _, _ => false)
  | .tryx b i hc xm hb, c, st => (match st with
    | .Try body [.ExceptHandler (some (.Name x _)) (some n) [.Return (some he) _] _] [] [] _ => decide (x = hc) && glB c x && decide (c.N[i]? = some n) && decide (c.sc.names.lookup n = some .local) && !(n == ("__debug__" : Str)) && !(n == ("__classdict__" : Str)) && (pg.es.any fun q => decide (q.1 = hc) && chkHb (fun m => blB pg c (Str.ofString "isinstance") && glB c m && pg.xm.contains (hc, m, true)) n q.2 hb he) && (xm.all fun q => pg.xm.contains (q.1, hc, q.2)) && chkCs b c body
    | _ => false)
  | .par is ps, c, st => (match st with
    | .Assign [.Tuple ts _ _] (.Tuple es k p) _ => chkPs pg ps c es && decide (es.length = is.length) && (parB c is ts (.Tuple es k p) || parT c is ts (.Tuple es k p))
    | _ => false)
  | .expr e, c, st => (match st with | .Expr x _ => chkE pg e c x && noComp x | _ => false)
  | .set g e, c, st => (match st with
    | .Assign [.Name y py] x _ => (match g with
      | .nm i => chkE pg e c x && strict e && locNm c i y && okSet x && (!(swB c.sc x y py.line) || isFrzComp e)
      | _ => false)
    | .Assign [.Tuple ts _ _] x _ => chkE pg e c x && strict e && ((chkTg c.N c.sc c.fn g (.Tuple ts 0 ⟨0, 0, 0, 0⟩) && decide (swp c.sc ts x = some none)) || par2 c g e ts x)
    | _ => false)
  | .own i f, c, st => (match st with
    | .Assign [.Name y py] x _ => chkF pg f c x && locNm c i y && okSet x && (!(swB c.sc x y py.line) || isComp f)
    | _ => false)
  | .dic i _, c, st => (match st with
    | .Assign [.Name y py] (.Dict [] [] p) _ => locNm c i y && !(swB c.sc (.Dict [] [] p) y py.line)
    | _ => false)
  | .frz _, _, _ => false
  | .app i e, c, st => (match st with
    | .Expr (.Call (.Attribute (.Name x _) m apos) [y] [] p) _ => decide (m = Str.ofString "append") && nmOk c i x && chkE pg e c y && strict e && notStar y && (apos.endLine == p.line)
    | _ => false)
  | .ext i e, c, st => (match st with
    | .Expr (.Call (.Attribute (.Name x _) m apos) [y] [] p) _ => decide (m = Str.ofString "extend") && nmOk c i x && chkE pg e c y && strict e && notStar y && (apos.endLine == p.line)
    | _ => false)
  | .pop i k, c, st => (match st with
    | .Expr (.Call (.Attribute (.Name x _) m apos) [.Constant (.int n) _ _] [] p) _ => decide (m = Str.ofString "pop") && nmOk c i x && decide (n = (k : Int)) && decide (k < 1000) && (apos.endLine == p.line)
    | _ => false)
  | .setpop l f i k, c, st => (match st with
    | .Assign [.Name y _] (.Call (.Name fx _) [.Call (.Attribute (.Name x _) m apos) [.Constant (.int n) _ _] [] p] [] _) _ => (match pg.fns[f]? with | some fi => decide (fi.name = fx) | none => false) && glB c fx && (pg.kw f).isNone && (pg.ms f).isNone && decide (m = Str.ofString "pop") && nmOk c i x && decide (n = (k : Int)) && decide (k < 1000) && (apos.endLine == p.line) && locNm c l y
    | _ => false)
  | .store i j e, c, st => (match st with
    | .Assign [.Subscript (.Name x _) y _] z _ => nmOk c i x && chkE pg j c y && notSlice y && chkE pg e c z && strict e && noComp z
    | _ => false)
  | .sdf i j e, c, st => (match st with
    | .Expr (.Call (.Attribute (.Name x _) m apos) [y, z] [] p) _ => decide (m = Str.ofString "setdefault") && nmOk c i x && chkE pg j c y && strict j && chkE pg e c z && strict e && notStar y && notStar z && (apos.endLine == p.line)
    | _ => false)
  | .st2 i j1 j2 e1 e2, c, st => (match st with
    | .Assign [.Tuple [.Subscript (.Name x p1) y1 q1, .Subscript (.Name x2 p2) y2 q2] kt pt] (.Tuple [z1, z2] kv pv) _ => decide (x = x2) && nmOk c i x && chkE pg j1 c y1 && notSlice y1 && chkE pg j2 c y2 && notSlice y2 && chkE pg e1 c z1 && strict e1 && chkE pg e2 c z2 && strict e2 && notStar z1 && notStar z2
      && decide (swp c.sc [.Subscript (.Name x p1) y1 q1, .Subscript (.Name x2 p2) y2 q2] (.Tuple [z1, z2] kv pv) = some none)
    | _ => false)
  | .aug i o e, c, st => (match st with
    | .AugAssign (.Name x _) o' y _ => decide (o = .Add) && decide (o' = .Add) && locNm c i x && chkE pg e c y
    | _ => false)
  | .ret e, c, st => (match st with | .Return (some x) _ => chkE pg e c x && strict e | _ => false)
  | .retN, _, st => (match st with | .Return none _ => true | _ => false)
  | .pass, _, st => (match st with | .Pass _ => true | _ => false)
  | .brk, _, st => (match st with | .Break _ => true | _ => false)
  | .cont, _, st => (match st with | .Continue _ => true | _ => false)
  | .raise, _, _ => true
  | .ifs t a b, c, st => (match st with | .If x xs ys _ => chkT pg t c x && chkCs a c xs && chkCs b c ys | _ => false)
  | .fors g it b, c, st => (match st with | .For tg iter body [] _ => chkTg c.N c.sc c.fn g tg && chkI pg it c tg iter && chkCs b c body | _ => false)
  | .whiles t b, c, st => (match st with | .While x body [] _ => chkT pg t c x && chkCs b c body | _ => false)
def chkCs : Cs → Cc → List Stmt → Bool
  | .nil, _, sts => (match sts with | [] => true | _ => false)
  | .cons cm cs, c, sts => (match cm with
    | .frz _ => chkCs cs c sts
    | cm => (match sts with | st :: r => chkC cm c st && chkCs cs c r | _ => false))
end
end
section
variable {pg : Pg} {k : Nat} {X : Cx} {c : Cc}
theorem chkCs_cons {cm : C} {cs : Cs} {sts : List Stmt} (h : chkCs pg (.cons cm cs) c sts = true) : (∃ i, cm = .frz i ∧ chkCs pg cs c sts = true) ∨ ∃ st r, sts = st :: r ∧ chkC pg cm c st = true ∧ chkCs pg cs c r = true := by
  cases cm with
  | frz i => simp only [chkCs] at h; exact .inl ⟨i, rfl, h⟩
  | _ =>
    cases sts with
    | nil => simp [chkCs] at h
    | cons st r =>
      simp only [chkCs, Bool.and_eq_true] at h
      exact .inr ⟨st, r, rfl, h.1, h.2⟩
theorem locNm_ok (w : CX c X) {i : Nat} {y : Str} (h : locNm c i y = true) : X.N[i]? = some y ∧ Loc X.env.scope y ∧ (X.fn y = true ∨ X.env.scope.names.lookup y = some .local) := by
  unfold locNm at h
  simp only [Bool.and_eq_true, Bool.or_eq_true, decide_eq_true_eq] at h
  rw [w.N, w.sc, w.fn]
  exact ⟨h.1, h.2.elim .inl fun z => .inr z.1, h.2.elim .inr fun z => .inl z.2⟩
/-- name = value, by whichever way the compiler stores -/
theorem set_name (gx : GX pg k X) (w : CX c X) (hk : c.sc.kind = .function) {f : F} {x : Expr} {y : Str} {py pos : Pos} {i : Nat} (hf : chkF pg f c x = true) (hl : locNm c i y = true) (ho : okSet x = true) (hs : (!(swB c.sc x y py.line) || isComp f) = true) :
    ∃ te, PS X (.Assign [.Name y py] x pos) (tAsg te (gName i)) ∧ ∀ σ H Q, TFof X.kk (evF pg.gl (callN pg k) f) σ H Q → te σ H Q := by
  obtain ⟨n1, n2, n3⟩ := locNm_ok w hl
  have hsw := swB_ok (l := pos.line) (py := py) (y := y) (env := X.env) w.sc hk ho
  cases q : swB c.sc x y py.line with
  | false =>
    rw [q] at hsw
    exact ⟨_, ps_set gx.nd n1 n2 (sndF f X c x gx w hf) hsw n3, fun σ H Q h => h⟩
  | true =>
    rw [q] at hs hsw
    cases f with
    | comp g it ts elt vs =>
      simp only [chkF] at hf
      split at hf
      · rename_i x tg iter ifs n scope pos
        simp only [Bool.and_eq_true, decide_eq_true_eq] at hf
        obtain ⟨⟨⟨⟨⟨⟨⟨⟨rfl, h1⟩, h2⟩, h3⟩, h4⟩, h5⟩, h6⟩, h7⟩, h8⟩ := hf
        have hvs : (ownOf c vs).map (·.2) = vs := by unfold ownOf; rw [List.map_map]; simp [Function.comp_def]
        obtain ⟨hI, hset⟩ := sndI it X c tg iter gx w h4
        have wb : ∀ (s : Shared) (H : Hp) (C : Addr) (cl : List (Str × Addr)) (fp : List Addr), CX (inner c scope) (X.blk s H scope (compEnvC scope cl C X.env) fp) := fun s H C cl fp =>
          ⟨w.N, by show relS scope X.env.scope = relS scope c.sc; rw [w.sc], rfl⟩
        have hloc : X.env.scope.names.lookup y = some .local := by
          unfold swB at q
          simp only [Bool.and_eq_true, decide_eq_true_eq] at q
          rw [w.sc]; exact q.1.1
        refine ⟨_, ps_setLc (own := ownOf c vs) (g := gT X.kk g) (tt := TTof X.kk (evTs pg.gl (callN pg k) true ts)) (te := TEof X.kk (evE pg.gl (callN pg k) elt)) gx.calm gx.nd n1 hloc hsw hI (blkOk_by (by rw [w.N, w.sc]; exact h1)) ?_ ?_ ?_ hset, fun σ H Q h => ?_⟩
        · exact fun s H C cl fp => pg_of (X := X.blk s H scope (compEnvC scope cl C X.env) fp) gx.calm gx.nd g tg (by
            have q := wb s H C cl fp
            rw [q.N, q.sc, q.fn]; exact h2)
        · intro s H C cl fp
          have gb := gx.blk s H scope (compEnvC scope cl C X.env) fp
          cases ts with
          | nil =>
            simp only [chkTs] at h5
            split at h5
            · exact pts_nil.imp' fun σ H Q ⟨H0, g, env, s, b, s', eo, ss, hev, hq⟩ => by cases hev; exact hq g H Ext.refl ss
            · cases h5
          | cons t ts' =>
            simp only [chkTs] at h5
            split at h5
            · simp only [Bool.and_eq_true] at h5
              rename_i y r
              cases r with
              | cons _ _ => simp at h6
              | nil =>
                cases ts' with
                | cons _ _ => simp [chkTs] at h5
                | nil =>
                  exact (pts_one (sndT t _ _ y gb (wb s H C cl fp) h5.1)).imp' fun σ H Q ⟨H0, g, env, s, b, s', eo, ss, hev, hq⟩ => by
                    obtain ⟨z, s1, h1, hev2⟩ := R.bind_ok_iff hev
                    cases z <;> (simp [evTs] at hev2; obtain ⟨rfl, rfl⟩ := hev2; exact ⟨H0, g, env, s, _, _, eo, ss, h1, hq⟩)
            · cases h5
        · exact fun s H C cl fp => sndE elt _ _ x (gx.blk s H scope (compEnvC scope cl C X.env) fp) (wb s H C cl fp) h7 h8
        · refine comp_read (t := g) (fun i hi => by rw [hvs]; exact of_decide_eq_true (List.all_eq_true.mp h3 i hi)) σ H Q ?_
          rw [hvs]
          exact h
      · cases hf
    | _ => cases hs
end
section
variable {pg : Pg} {k : Nat}
theorem sndPs {X : Cx} {c : Cc} (gx : GX pg k X) (w : CX c X) : ∀ {ps : List Pc} {es : List Expr}, chkPs pg ps c es = true → PA X es (TPof X.kk (evPs pg.gl (callN pg k) ps))
  | [], es, h => by
    unfold chkPs at h
    split at h
    · exact dp_nil
    · cases h
  | .o f :: r, es, h => by
    unfold chkPs at h
    split at h
    · simp only [Bool.and_eq_true] at h
      exact dp_o (sndF f X c _ gx w h.1.1) h.1.2 (sndPs gx w h.2)
    · cases h
  | .v a :: r, es, h => by
    unfold chkPs at h
    split at h
    · simp only [Bool.and_eq_true] at h
      exact dp_v (sndE a X c _ gx w h.1.1.1 h.1.1.2) h.1.2 (sndPs gx w h.2)
    · cases h
  | .d0 t :: r, es, h => by
    unfold chkPs at h
    split at h
    · exact dp_d (dd_dic0 t) rfl (sndPs gx w h)
    · cases h
  | .d1 t a b :: r, es, h => by
    unfold chkPs at h
    split at h
    · simp only [Bool.and_eq_true] at h
      obtain ⟨⟨⟨⟨⟨rfl, h1⟩, h2⟩, h3⟩, h4⟩, h5⟩ := h
      refine (dp_d (dd_dic1 gx.u66 (sndE a X c _ gx w h1 h2) (sndE b X c _ gx w h3 h4)) rfl (sndPs gx w h5)).imp fun σ H Q ⟨H0, g, env, s, d, s', eo, ss, hev, hq⟩ => ⟨H0, g, env, s, d, s', eo, ss, ?_, hq⟩
      unfold evPs at hev
      obtain ⟨x, s1, q1, hev⟩ := R.bind_ok_iff hev
      obtain ⟨y, s2, q2, hev⟩ := R.bind_ok_iff hev
      dsimp only
      rw [q1, R.bind_ok, q2, R.bind_ok]
      split at hev
      · rename_i hx
        rw [if_pos hx]
        exact hev
      · cases hev
    · cases h
theorem evPs_len {gl : List D} {call : Nat → List D → S → R D} {c : Cc} : ∀ {ps : List Pc} {es : List Expr}, chkPs pg ps c es = true → ∀ {env : Env} {s s' : S} {sls : List Sl}, evPs gl call ps env s = .ok sls s' → sls.length = es.length
  | [], es, h, _, _, _, _, e => by
    unfold chkPs at h
    split at h
    · cases e; rfl
    · cases h
  | .o f :: r, es, h, _, _, _, _, e => by
    unfold chkPs at h
    split at h
    · simp only [Bool.and_eq_true] at h
      unfold evPs at e
      obtain ⟨x, s1, h1, e⟩ := R.bind_ok_iff e
      obtain ⟨ys, s2, h2, e⟩ := R.bind_ok_iff e
      cases e
      simp [evPs_len h.2 h2]
    · cases h
  | .v a :: r, es, h, _, _, _, _, e => by
    unfold chkPs at h
    split at h
    · simp only [Bool.and_eq_true] at h
      unfold evPs at e
      obtain ⟨x, s1, h1, e⟩ := R.bind_ok_iff e
      obtain ⟨ys, s2, h2, e⟩ := R.bind_ok_iff e
      cases e
      simp [evPs_len h.2 h2]
    · cases h
  | .d0 t :: r, es, h, _, _, _, _, e => by
    unfold chkPs at h
    split at h
    · unfold evPs at e
      obtain ⟨ys, s2, h2, e⟩ := R.bind_ok_iff e
      cases e
      simp [evPs_len h h2]
    · cases h
  | .d1 t a b :: r, es, h, _, _, _, _, e => by
    unfold chkPs at h
    split at h
    · simp only [Bool.and_eq_true] at h
      unfold evPs at e
      obtain ⟨x, s1, h1, e⟩ := R.bind_ok_iff e
      obtain ⟨y, s2, h2, e⟩ := R.bind_ok_iff e
      split at e
      · obtain ⟨ys, s3, h3, e⟩ := R.bind_ok_iff e
        cases e
        simp [evPs_len h.2 h3]
      · cases e
    · cases h
theorem lt_of {α : Type} {l : List α} {i : Nat} {x : α} (h : l[i]? = some x) : i < l.length := (List.getElem?_eq_some_iff.mp h).1
theorem snd_parT {W : WX} {X : Cx} {c : Cc} {is : List Nat} {ps : List Pc} {ts es : List Expr} {kt ke : Nat} {pt pe pos : Pos} (gx : GX pg k X) (w : CX c X) (hk : c.sc.kind = .function) (h1 : chkPs pg ps c es = true) (h2 : es.length = is.length) (h3 : parT c is ts (.Tuple es ke pe) = true) : PS X (.Assign [.Tuple ts kt pt] (.Tuple es ke pe) pos) (TSof X.kk W (evC pg.gl (callN pg k) pg.W (.par is ps))) := by
  have hP := sndPs gx w h1
  have hl : ∀ env s sls s', evPs pg.gl (callN pg k) ps env s = .ok sls s' → sls.length = is.length := fun env s sls s' e => by rw [evPs_len h1 e, h2]
  unfold parT at h3
  split at h3
  · rename_i i j y1 p1 y2 p2
    simp only [Bool.and_eq_true, decide_eq_true_eq] at h3
    obtain ⟨⟨q1, q2⟩, q7⟩ := h3
    obtain ⟨a1, b1, c1⟩ := locNm_ok w q1
    obtain ⟨a2, b2, c2⟩ := locNm_ok w q2
    have hG : PG X (.Tuple [.Name y1 p1, .Name y2 p2] kt pt) (gTup X.kk 2 (gCons (gName i) (gCons (gName j) gNil))) :=
      pg_tup gx.calm (pgs_cons (pg_name gx.nd a1 b1 c1) (pgs_cons (pg_name gx.nd a2 b2 c2) pgs_nil))
    have base := ps_asg (pos := pos) (pe_tup (x1 := ke) (pos := pe) hP) hG rfl (swp_ok (kt := kt) (pt := pt) w.sc hk q7) rfl
    refine ds_partsT (is := [i, j]) (ta := TPof X.kk (evPs pg.gl (callN pg k) ps)) (base.imp fun D' σ H z => ?_) (fun σ H Q z => z) (fun q hq => ?_) (by rw [sizeLine_eq]; simp) hl fun _ _ _ _ I => I.len
    · obtain ⟨H0, g, env, s, d, s', eo, ss, hev, hq⟩ := z
      refine ⟨H0, g, env, s, d, s', eo, ss, hev, fun g1 H1 vs x1 ss1 r1 => ?_⟩
      obtain ⟨l1, l2⟩ := hq g1 H1 vs x1 ss1 r1
      refine ⟨l1, fun p np => ?_⟩
      obtain ⟨l3, l4⟩ := l2 p np
      match vs, l3, l4 with
      | [v1, v2], _, l4 => exact ⟨p, _, rfl, SqT.of upd_same, rfl, v1, _, rfl, v2, _, rfl, rfl, l4⟩
    · simp only [List.mem_cons, List.not_mem_nil, or_false] at hq
      rcases hq with rfl | rfl
      · exact lt_of a1
      · exact lt_of a2
  · rename_i i j l y1 p1 y2 p2 y3 p3
    simp only [Bool.and_eq_true, decide_eq_true_eq] at h3
    obtain ⟨⟨⟨q1, q2⟩, q3⟩, q7⟩ := h3
    obtain ⟨a1, b1, c1⟩ := locNm_ok w q1
    obtain ⟨a2, b2, c2⟩ := locNm_ok w q2
    obtain ⟨a3, b3, c3⟩ := locNm_ok w q3
    have hG : PG X (.Tuple [.Name y1 p1, .Name y2 p2, .Name y3 p3] kt pt) (gTup X.kk 3 (gCons (gName i) (gCons (gName j) (gCons (gName l) gNil)))) :=
      pg_tup gx.calm (pgs_cons (pg_name gx.nd a1 b1 c1) (pgs_cons (pg_name gx.nd a2 b2 c2) (pgs_cons (pg_name gx.nd a3 b3 c3) pgs_nil)))
    have base := ps_asg (pos := pos) (pe_tup (x1 := ke) (pos := pe) hP) hG rfl (swp_ok (kt := kt) (pt := pt) w.sc hk q7) rfl
    refine ds_partsT (is := [i, j, l]) (ta := TPof X.kk (evPs pg.gl (callN pg k) ps)) (base.imp fun D' σ H z => ?_) (fun σ H Q z => z) (fun q hq => ?_) (by rw [sizeLine_eq]; simp) hl fun _ _ _ _ I => I.len
    · obtain ⟨H0, g, env, s, d, s', eo, ss, hev, hq⟩ := z
      refine ⟨H0, g, env, s, d, s', eo, ss, hev, fun g1 H1 vs x1 ss1 r1 => ?_⟩
      obtain ⟨l1, l2⟩ := hq g1 H1 vs x1 ss1 r1
      refine ⟨l1, fun p np => ?_⟩
      obtain ⟨l3, l4⟩ := l2 p np
      match vs, l3, l4 with
      | [v1, v2, v3], _, l4 => exact ⟨p, _, rfl, SqT.of upd_same, rfl, v1, _, rfl, v2, _, rfl, v3, _, rfl, rfl, l4⟩
    · simp only [List.mem_cons, List.not_mem_nil, or_false] at hq
      rcases hq with rfl | rfl | rfl
      · exact lt_of a1
      · exact lt_of a2
      · exact lt_of a3
  · cases h3
theorem snd_par {W : WX} {X : Cx} {c : Cc} {is : List Nat} {ps : List Pc} {st : Stmt} (gx : GX pg k X) (w : CX c X) (hk : c.sc.kind = .function) (h : chkC pg (.par is ps) c st = true) : PS X st (TSof X.kk W (evC pg.gl (callN pg k) pg.W (.par is ps))) := by
  simp only [chkC] at h
  split at h
  · rename_i ts kt pt es ke pe pos
    simp only [Bool.and_eq_true, decide_eq_true_eq] at h
    obtain ⟨⟨h1, h2⟩, h3⟩ := h
    rw [Bool.or_eq_true] at h3
    rcases h3 with h3 | h3
    case inr => exact snd_parT gx w hk h1 h2 h3
    have hP := sndPs gx w h1
    have hl : ∀ env s sls s', evPs pg.gl (callN pg k) ps env s = .ok sls s' → sls.length = is.length := fun env s sls s' e => by rw [evPs_len h1 e, h2]
    unfold parB at h3
    split at h3
    · rename_i i j y1 p1 y2 p2
      simp only [Bool.and_eq_true, decide_eq_true_eq] at h3
      obtain ⟨⟨⟨⟨⟨q1, q2⟩, q3⟩, q4⟩, q5⟩, q6⟩ := h3
      rw [← w.N] at q2 q3
      match es, h2 with
      | [a, b], _ =>
        have base := ps_par (pos := pos) gx.calm gx.nd q2 q3 q1 (by rw [w.sc]; exact q4) (by rw [w.sc]; exact q5) hP (swp_ok (kt := kt) (pt := pt) w.sc hk q6)
        refine ds_parts (is := [i, j]) (ta := TPof X.kk (evPs pg.gl (callN pg k) ps)) (base.imp fun D' σ H z => ?_) (fun σ H Q z => z) (fun m hm => ?_) hl fun _ _ _ _ I => I.len
        · obtain ⟨H0, g, env, s, d, s', eo, ss, hev, hq⟩ := z
          refine ⟨H0, g, env, s, d, s', eo, ss, hev, fun g1 H1 vs x1 ss1 r1 => ?_⟩
          obtain ⟨l1, l2⟩ := hq g1 H1 vs x1 ss1 r1
          match vs, l1 with
          | [v1, v2], _ => exact ⟨v1, v2, rfl, l2⟩
        · simp only [List.mem_cons, List.not_mem_nil, or_false] at hm
          rcases hm with rfl | rfl
          · exact lt_of q2
          · exact lt_of q3
    · rename_i i j l y1 p1 y2 p2 y3 p3
      simp only [Bool.and_eq_true, decide_eq_true_eq] at h3
      obtain ⟨⟨⟨⟨⟨⟨⟨⟨⟨a1, a2⟩, a3⟩, q1⟩, q2⟩, q3⟩, q4⟩, q5⟩, q6⟩, q7⟩ := h3
      rw [← w.N] at q1 q2 q3
      match es, h2 with
      | [a, b, d], _ =>
        have base := ps_par3 (pos := pos) gx.calm gx.nd q1 q2 q3 a1 a2 a3 (by rw [w.sc]; exact q4) (by rw [w.sc]; exact q5) (by rw [w.sc]; exact q6) hP (swp_ok (kt := kt) (pt := pt) w.sc hk q7)
        refine ds_parts (is := [i, j, l]) (ta := TPof X.kk (evPs pg.gl (callN pg k) ps)) (base.imp fun D' σ H z => ?_) (fun σ H Q z => z) (fun m hm => ?_) hl fun _ _ _ _ I => I.len
        · obtain ⟨H0, g, env, s, d, s', eo, ss, hev, hq⟩ := z
          refine ⟨H0, g, env, s, d, s', eo, ss, hev, fun g1 H1 vs x1 ss1 r1 => ?_⟩
          obtain ⟨l1, l2⟩ := hq g1 H1 vs x1 ss1 r1
          match vs, l1 with
          | [v1, v2, v3], _ => exact ⟨v1, v2, v3, rfl, l2⟩
        · simp only [List.mem_cons, List.not_mem_nil, or_false] at hm
          rcases hm with rfl | rfl | rfl
          · exact lt_of q1
          · exact lt_of q2
          · exact lt_of q3
    · rename_i i j l m y1 p1 y2 p2 y3 p3 y4 p4
      simp only [Bool.and_eq_true, decide_eq_true_eq] at h3
      obtain ⟨⟨⟨⟨⟨⟨⟨⟨q1, q2⟩, q3⟩, q4⟩, n1⟩, n2⟩, n3⟩, n4⟩, q7⟩ := h3
      rw [← w.N] at q1 q2 q3 q4
      have lc : ∀ {y : Str}, c.sc.names.lookup y = some .local → X.env.scope.names.lookup y = some .local := fun h => by rw [w.sc]; exact h
      have hG : PG X (.Tuple [.Name y1 p1, .Name y2 p2, .Name y3 p3, .Name y4 p4] kt pt) (gTup X.kk 4 (gCons (gName i) (gCons (gName j) (gCons (gName l) (gCons (gName m) gNil))))) :=
        pg_tup gx.calm (pgs_cons (pg_name gx.nd q1 (.inl (lc n1)) (.inr (lc n1))) (pgs_cons (pg_name gx.nd q2 (.inl (lc n2)) (.inr (lc n2))) (pgs_cons (pg_name gx.nd q3 (.inl (lc n3)) (.inr (lc n3))) (pgs_cons (pg_name gx.nd q4 (.inl (lc n4)) (.inr (lc n4))) pgs_nil))))
      have base := ps_asg (pos := pos) (pe_tup (x1 := ke) (pos := pe) hP) hG rfl (swp_ok (kt := kt) (pt := pt) w.sc hk q7) rfl
      refine ds_partsT (is := [i, j, l, m]) (ta := TPof X.kk (evPs pg.gl (callN pg k) ps)) (base.imp fun D' σ H z => ?_) (fun σ H Q z => z) (fun q hq => ?_) (by rw [sizeLine_eq]; simp) hl fun _ _ _ _ I => I.len
      · obtain ⟨H0, g, env, s, d, s', eo, ss, hev, hq⟩ := z
        refine ⟨H0, g, env, s, d, s', eo, ss, hev, fun g1 H1 vs x1 ss1 r1 => ?_⟩
        obtain ⟨l1, l2⟩ := hq g1 H1 vs x1 ss1 r1
        refine ⟨l1, fun p np => ?_⟩
        obtain ⟨l3, l4⟩ := l2 p np
        match vs, l3, l4 with
        | [v1, v2, v3, v4], _, l4 => exact ⟨p, _, rfl, SqT.of upd_same, rfl, v1, _, rfl, v2, _, rfl, v3, _, rfl, v4, _, rfl, rfl, l4⟩
      · simp only [List.mem_cons, List.not_mem_nil, or_false] at hq
        rcases hq with rfl | rfl | rfl | rfl
        · exact lt_of q1
        · exact lt_of q2
        · exact lt_of q3
        · exact lt_of q4
    · cases h3
  · cases h
structure SX (X : Cx) : Prop where
  stk : X.stack = X.env :: X.outer
  frm : X.env.frame = some X.env.locals
theorem snd_call {W : WX} {X : Cx} {c : Cc} {f : Nat} {es : Es} {e : Expr} (gx : GX pg k X) (w : CX c X) (tk : Takes X W) (h : callB pg c f es e = true) : PE X e (TXof X.kk W fun env s => (evEs pg.gl (callN pg k) es env s).stop.bind fun ds s => callN pg k f ds s) := by
  unfold callB at h
  split at h
  · rename_i x px xs pos
    simp only [Bool.and_eq_true] at h
    obtain ⟨⟨⟨⟨⟨⟨h1, h2⟩, h3⟩, h4⟩, h5⟩, h9⟩, h10⟩ := h
    split at h1
    · rename_i fi hfi
      cases of_decide_eq_true h1
      obtain ⟨ad, fd, ps, q1, q3, q4⟩ := gx.fns f fi hfi
      rw [Option.isNone_iff_eq_none.mp h9] at q1
      obtain ⟨q1, q2⟩ := q1
      rw [Option.isNone_iff_eq_none.mp h5] at q3
      obtain ⟨g1, g2⟩ := glB_ok w h2
      have hns := chkEs_ns h3
      have hA := sndEs es X c _ gx w h3 h4
      cases xs with
      | nil => cases h10
      | cons y ys => exact d_callX q4 gx.room gx.gd tk g1 q1 q2 q3 hA g2 hns
    · cases h1
  · cases h
theorem clsF_of (gx : GX pg k X) (w : CX c X) : ∀ {cl : List Cl} {hs : List ExceptHandler}, chkCl pg c cl hs = true → ClsF X cl hs
  | [], [], _ => .nil
  | k :: r, h0 :: hs, h => by
    unfold chkCl at h
    split at h
    · rename_i q; cases q
    · rename_i q1 q2
      cases q1; cases q2
      rename_i p1 no he p2 p3 
      simp only [Bool.and_eq_true, decide_eq_true_eq, Bool.or_eq_true, List.any_eq_true, beq_iff_eq] at h
      obtain ⟨⟨⟨⟨⟨⟨rfl, h1⟩, h2⟩, h3⟩, h4⟩, h5⟩, h6⟩ := h
      obtain ⟨g1, g2⟩ := glB_ok w h1
      have hn : NmP X k.i no := fun x e => by
        subst e
        simp only [Bool.and_eq_true, decide_eq_true_eq, Bool.not_eq_true'] at h3
        exact ⟨by rw [w.N]; exact h3.1.1.1, by show X.env.scope.names.lookup _ = _; rw [w.sc]; exact h3.1.1.2, h3.1.2, h3.2⟩
      have hx : XmOk X.kk X.mg k.hc fun cn => k.xm.lookup cn := fun cn b e => gx.xm _ _ _ (List.contains_iff_mem.mp (List.all_eq_true.mp h5 (cn, b) (mem_lookup e)))
      have isi : ∀ {C : Addr}, PySem.W.nsIn X.kk mainGlobals k.hc = some (some (.ref C)) → IsiP X C (fun m => blB pg c (Str.ofString "isinstance") && glB c m && pg.xm.contains (k.hc, m, true)) := fun {C} hC m hm => by
        simp only [Bool.and_eq_true] at hm
        obtain ⟨⟨p1, p2⟩, p3⟩ := hm
        obtain ⟨q1, q2⟩ := blB_ok gx w p1
        obtain ⟨q3, q4⟩ := glB_ok w p2
        obtain ⟨C1, C2, r1, r2, r3⟩ := gx.xm _ _ _ (List.contains_iff_mem.mp p3)
        rw [r1] at hC
        cases hC
        exact ⟨C2, q1, q2, q3, r2, q4, exm_kit r3⟩
      rcases h4 with ⟨⟨hc', f⟩, hm, rfl, h4⟩ | ⟨h4, h4'⟩
      · obtain ⟨C, fI, fd, qual, s0, v0, st, e1, e2, e3, e4, e5, _⟩ := (gx.xs _ _ hm).ex
        exact .cons (C := C) ⟨e1, e2, g1, g2, h2, hn, fun f' e => by cases e; exact ⟨e4, e5⟩, isi e1, h4, hx⟩ (clsF_of gx w h6)
      · obtain ⟨C, e1, e2, _⟩ := gx.x0 _ (List.contains_iff_mem.mp h4)
        exact .cons (C := C) ⟨e1, e2, g1, g2, h2, hn, (fun f' e => by cases e), isi e1, h4', hx⟩ (clsF_of gx w h6)
    · cases h
  | [], _ :: _, h => by simp [chkCl] at h
  | _ :: _, [], h => by simp [chkCl] at h
mutual
theorem sndC : ∀ (cm : C) (X : Cx) (W : WX) (c : Cc) (st : Stmt), GX pg k X → CX c X → c.sc.kind = .function → PassesOwn (model X.prog X.w) X.A X.env X.xe → Takes X W → SX X → chkC pg cm c st = true → PS X st (TSof X.kk W (evC pg.gl (callN pg k) pg.W cm))
  | .rais cn f e, X, W, c, st, gx, w, hk, hxe, tk, sx, h => by
    simp only [chkC] at h
    split at h
    · simp only [Bool.and_eq_true, decide_eq_true_eq] at h
      obtain ⟨⟨⟨⟨⟨rfl, h1⟩, h2⟩, h3⟩, h4⟩, h5⟩ := h
      obtain ⟨g1, g2⟩ := glB_ok w h1
      exact ds_rais gx.calm tk (gx.xs _ _ (List.contains_iff_mem.mp h5)) (gx.room.mono (by omega)) g1 g2 h2 (sndE e X c _ gx w h3 h4)
    · cases h
  | .rais0 cn, X, W, c, st, gx, w, hk, hxe, tk, sx, h => by
    simp only [chkC] at h
    split at h
    · simp only [Bool.and_eq_true, decide_eq_true_eq] at h
      obtain ⟨⟨rfl, h1⟩, h5⟩ := h
      obtain ⟨g1, g2⟩ := glB_ok w h1
      exact ds_rais0 gx.calm tk (gx.x0 _ (List.contains_iff_mem.mp h5)) g1 g2
    · cases h
  | .trym b cl, X, W, c, st, gx, w, hk, hxe, tk, sx, h => by
    simp only [chkC] at h
    split at h
    · rename_i body hs pos
      simp only [Bool.and_eq_true, Bool.not_eq_true'] at h
      obtain ⟨⟨h1, h2⟩, h3⟩ := h
      cases hs with
      | nil => simp at h1
      | cons h0 hs => exact ds_tryN sx.stk sx.frm gx.nd tk (clsF_of gx w h2) fun W pn xe tk2 hx2 => sndCs b (X.tr pn xe) W c _ (gx.tr pn xe) ⟨w.N, w.sc, w.fn⟩ hk hx2 tk2 ⟨sx.stk, sx.frm⟩ h3
    · cases h
  | .xcl t f es, X, W, c, st, gx, w, hk, hxe, tk, sx, h => by
    simp only [chkC] at h
    split at h
    · simp only [Bool.and_eq_true] at h
      exact ds_xdrop (snd_call gx w tk h.1) (noComp_ok h.2)
    · exact ds_xret (snd_call gx w tk h)
    · simp only [Bool.and_eq_true, decide_eq_true_eq] at h
      obtain ⟨⟨rfl, h1⟩, h2⟩ := h
      exact ds_xretL (snd_call gx w tk h1) h2
    · rename_i i y py x pos
      simp only [Bool.and_eq_true, Bool.not_eq_true'] at h
      obtain ⟨⟨⟨h1, h2⟩, h3⟩, h4⟩ := h
      obtain ⟨n1, n2, n3⟩ := locNm_ok w h2
      have hsw := swB_ok (l := pos.line) (py := py) (y := y) (env := X.env) w.sc hk h3
      rw [h4] at hsw
      exact ds_xsetn (ps_set gx.nd n1 n2 (snd_call gx w tk h1) hsw n3) fun σ H Q z => z
    · cases h
  | .tryx b i hc xm hb, X, W, c, st, gx, w, hk, hxe, tk, sx, h => by
    simp only [chkC] at h
    split at h
    · simp only [Bool.and_eq_true, decide_eq_true_eq, Bool.not_eq_true', List.any_eq_true] at h
      obtain ⟨⟨⟨⟨⟨⟨⟨⟨rfl, h1⟩, h2⟩, h3⟩, h4⟩, h5⟩, ⟨⟨hc', f⟩, hm, rfl, h6⟩⟩, h7⟩, h8⟩ := h
      obtain ⟨g1, g2⟩ := glB_ok w h1
      refine ds_try (gx.xs _ _ hm) (fun cn b e => ?_) sx.stk sx.frm gx.nd (by rw [w.N]; exact h2) (by show X.env.scope.names.lookup _ = _; rw [w.sc]; exact h3) h4 h5 g1 g2 tk (fun m hm => ?_) h6 fun W pn xe tk2 hx2 => sndCs b (X.tr pn xe) W c _ (gx.tr pn xe) ⟨w.N, w.sc, w.fn⟩ hk hx2 tk2 ⟨sx.stk, sx.frm⟩ h8
      · have := List.all_eq_true.mp h7 (cn, b) (mem_lookup e)
        exact gx.xm _ _ _ (List.contains_iff_mem.mp this)
      · simp only [Bool.and_eq_true] at hm
        obtain ⟨⟨p1, p2⟩, p3⟩ := hm
        obtain ⟨q1, q2⟩ := blB_ok gx w p1
        obtain ⟨q3, q4⟩ := glB_ok w p2
        obtain ⟨C1, C2, r1, r2, r3⟩ := gx.xm _ _ _ (List.contains_iff_mem.mp p3)
        exact ⟨C2, q1, q2, q3, r2, q4, fun C hC => by rw [r1] at hC; cases hC; exact exm_kit r3⟩
    · cases h
  | .par is ps, X, W, c, st, gx, w, hk, hxe, tk, sx, h => snd_par gx w hk h
  | .expr e, X, W, c, st, gx, w, hk, hxe, tk, sx, h => by
    simp only [chkC] at h
    split at h
    · simp only [Bool.and_eq_true] at h
      exact ds_expr (weak_of w h.1 (sndE e X c _ gx w h.1)) (noComp_ok h.2)
    · cases h
  | .set g e, X, W, c, st, gx, w, hk, hxe, tk, sx, h => by
    simp only [chkC] at h
    split at h
    · rename_i y py x pos
      split at h
      · rename_i i
        simp only [Bool.and_eq_true] at h
        obtain ⟨⟨⟨⟨h1, h2⟩, h3⟩, h4⟩, h5⟩ := h
        obtain ⟨n1, n2, n3⟩ := locNm_ok w h3
        cases q : swB c.sc x y py.line with
        | false =>
          have hsw := swB_ok (l := pos.line) (py := py) (y := y) (env := X.env) w.sc hk h4
          rw [q] at hsw
          exact ds_name (ps_set gx.nd n1 n2 (sndE e X c x gx w h1 h2) hsw n3) fun σ H Q z => z
        | true =>
          rw [q] at h5
          cases e with
          | frz f =>
            obtain ⟨te, p1, p2⟩ := set_name (pos := pos) (py := py) (y := y) (i := i) gx w hk (f := f) (x := x) h1 h3 h4 (by rw [q]; exact h5)
            refine ds_name p1 fun σ H Q z => p2 σ H Q ?_
            obtain ⟨H0, g, env, s, d, s', eo, ss, hev, hq⟩ := z
            obtain ⟨ds, s1, e1, hev2⟩ := R.bind_ok_iff (show ((evF pg.gl (callN pg k) f env s).bind fun ds s => R.ok (D.lst ds) s) = .ok d s' from hev)
            cases hev2
            exact ⟨H0, g, env, s, ds, _, eo, ss, e1, fun g1 H1 p xs x1 ss1 hp hl hio hz r1 hn => hq (g1.frz p) H1 _ (x1.frz hp) (ss1.frz' hio (by rw [hl]; simp)) ⟨hn, p, xs, rfl, .inr rfl, hl, Reps.kp (Kp.frz p) _ _ r1⟩⟩
          | dcomp u g it ts key val vs =>
            simp only [chkE] at h1
            split at h1
            · rename_i x1 x2 tg iter ifs n scope pos2
              simp only [Bool.and_eq_true, decide_eq_true_eq] at h1
              obtain ⟨⟨⟨⟨⟨⟨⟨⟨⟨⟨rfl, h1⟩, h2⟩, h3'⟩, h4'⟩, h5⟩, h6⟩, h7⟩, h8⟩, h9⟩, h10⟩ := h1
              have hsw := swB_ok (l := pos.line) (py := py) (y := y) (env := X.env) w.sc hk h4
              rw [q] at hsw
              have hvs : (ownOf c vs).map (·.2) = vs := by unfold ownOf; rw [List.map_map]; simp [Function.comp_def]
              obtain ⟨hI, hset⟩ := sndI it X c tg iter gx w h4'
              have wb : ∀ (s : Shared) (H : Hp) (C : Addr) (cl : List (Str × Addr)) (fp : List Addr), CX (inner c scope) (X.blk s H scope (compEnvC scope cl C X.env) fp) := fun s H C cl fp =>
                ⟨w.N, by show relS scope X.env.scope = relS scope c.sc; rw [w.sc], rfl⟩
              have hloc : X.env.scope.names.lookup y = some .local := by
                unfold swB at q
                simp only [Bool.and_eq_true, decide_eq_true_eq] at q
                rw [w.sc]; exact q.1.1
              have r := ps_setDcx (t := u) (pos := pos2) (spos := pos) (own := ownOf c vs) (tgt := gT X.kk g) (test := TTof X.kk (evTs pg.gl (callN pg k) true ts)) (key := TEof X.kk (evE pg.gl (callN pg k) key)) (val := TEof X.kk (evE pg.gl (callN pg k) val)) (ifs := ifs) gx.u66 gx.calm gx.nd n1 hloc hsw hI (blkOk_by (by rw [w.N, w.sc]; exact h1))
                (fun s H C cl fp => pg_of (X := X.blk s H scope (compEnvC scope cl C X.env) fp) gx.calm gx.nd g tg (by
                    have q := wb s H C cl fp
                    rw [q.N, q.sc, q.fn]; exact h2))
                  (fun s H C cl fp => by
                    have gb := gx.blk s H scope (compEnvC scope cl C X.env) fp
                    cases ts with
                    | nil =>
                      simp only [chkTs] at h5
                      split at h5
                      · exact pts_nil.imp' fun σ H Q ⟨H0, g, env, s, b, s', eo, ss, hev, hq⟩ => by cases hev; exact hq g H Ext.refl ss
                      · cases h5
                    | cons t ts' =>
                      simp only [chkTs] at h5
                      split at h5
                      · simp only [Bool.and_eq_true] at h5
                        rename_i y r
                        cases r with
                        | cons _ _ => simp at h6
                        | nil =>
                          cases ts' with
                          | cons _ _ => simp [chkTs] at h5
                          | nil =>
                            exact (pts_one (sndT t _ _ y gb (wb s H C cl fp) h5.1)).imp' fun σ H Q ⟨H0, g, env, s, b, s', eo, ss, hev, hq⟩ => by
                              obtain ⟨z, s1, h1, hev2⟩ := R.bind_ok_iff hev
                              cases z <;> (simp [evTs] at hev2; obtain ⟨rfl, rfl⟩ := hev2; exact ⟨H0, g, env, s, _, _, eo, ss, h1, hq⟩)
                      · cases h5)
                  (fun s H C cl fp => sndE key _ _ x1 (gx.blk s H scope (compEnvC scope cl C X.env) fp) (wb s H C cl fp) h7 h8)
                  (fun s H C cl fp => sndE val _ _ x2 (gx.blk s H scope (compEnvC scope cl C X.env) fp) (wb s H C cl fp) h9 h10) hset
              rw [hvs] at r
              exact ds_name r fun σ H Q z => dc_read (fun i hi => of_decide_eq_true (List.all_eq_true.mp h3' i hi)) σ H Q z
            · cases h1
          | _ => cases h5
      · cases h
    · rename_i ts kt pt x pos
      simp only [Bool.and_eq_true, Bool.or_eq_true, decide_eq_true_eq] at h
      obtain ⟨⟨h1, h2⟩, h3⟩ := h
      rcases h3 with ⟨h4, h5⟩ | h4
      · have h4' : chkTg X.N X.env.scope X.fn g (.Tuple ts kt pt) = true := by
          rw [w.N, w.sc, w.fn]
          cases g with
          | nm i => cases h4
          | tup tt => exact h4
        exact ds_set (sndE e X c x gx w h1 h2) (pg_of gx.calm gx.nd g _ h4') (by cases x <;> rfl) (swp_ok w.sc hk h5) rfl
      · unfold par2 at h4
        split at h4
        · simp only [Bool.and_eq_true, decide_eq_true_eq] at h4
          obtain ⟨⟨⟨⟨⟨q1, q2⟩, q3⟩, q4⟩, q5⟩, q6⟩ := h4
          simp only [chkE, Bool.and_eq_true, decide_eq_true_eq] at h1
          exact ds_par gx.calm gx.nd (by rw [w.N]; exact q2) (by rw [w.N]; exact q3) q1 (by rw [w.sc]; exact q4) (by rw [w.sc]; exact q5) (sndEs _ X c _ gx w h1.1.1 h1.1.2) (swp_ok w.sc hk q6) (fun env s ds s' q => by rw [evEs_len q]; rfl)
        · cases h4
    · cases h
  | .own i f, X, W, c, st, gx, w, hk, hxe, tk, sx, h => by
    simp only [chkC] at h
    split at h
    · simp only [Bool.and_eq_true] at h
      obtain ⟨⟨⟨h1, h3⟩, h4⟩, h5⟩ := h
      obtain ⟨te, p1, p2⟩ := set_name gx w hk h1 h3 h4 h5
      exact ds_own p1 p2
    · cases h
  | .dic i t, X, W, c, st, gx, w, hk, hxe, tk, sx, h => by
    simp only [chkC] at h
    split at h
    · rename_i y py p pos
      simp only [Bool.and_eq_true, Bool.not_eq_true'] at h
      obtain ⟨n1, n2, n3⟩ := locNm_ok w h.1
      have hsw := swB_ok (l := pos.line) (py := py) (y := y) (e := .Dict [] [] p) (env := X.env) w.sc hk rfl
      rw [h.2] at hsw
      exact ds_dic (ps_set gx.nd n1 n2 (dd_dic0 t) hsw n3) fun σ H Q z => z
    · cases h
  | .frz i, X, W, c, st, gx, w, hk, hxe, tk, sx, h => by simp [chkC] at h
  | .app i e, X, W, c, st, gx, w, hk, hxe, tk, sx, h => by
    simp only [chkC] at h
    split at h
    · simp only [Bool.and_eq_true, decide_eq_true_eq] at h
      obtain ⟨⟨⟨⟨⟨rfl, h1⟩, h2⟩, h3⟩, h4⟩, h5⟩ := h
      obtain ⟨n1, n2, n3, n4⟩ := nmOk_ok w h1
      exact ds_app n1 n2 n3 n4 (sndE e X c _ gx w h2 h3) h4 h5
    · cases h
  | .pop i k, X, W, c, st, gx, w, hk, hxe, tk, sx, h => by
    simp only [chkC] at h
    split at h
    · simp only [Bool.and_eq_true, decide_eq_true_eq] at h
      obtain ⟨⟨⟨⟨rfl, h1⟩, rfl⟩, h3⟩, h4⟩ := h
      obtain ⟨n1, n2, n3, n4⟩ := nmOk_ok w h1
      exact ds_pop n1 n2 n3 n4 h3 h4
    · cases h
  | .setpop l f i k, X, W, c, st, gx, w, hk, hxe, tk, sx, h => by
    simp only [chkC] at h
    split at h
    · simp only [Bool.and_eq_true, decide_eq_true_eq] at h
      obtain ⟨⟨⟨⟨⟨⟨⟨⟨⟨h1, h2⟩, h5⟩, h9⟩, rfl⟩, h6⟩, rfl⟩, h7⟩, h8⟩, h10⟩ := h
      split at h1
      · rename_i fi hfi
        cases of_decide_eq_true h1
        obtain ⟨ad, fd, ps, q1, q3, q4⟩ := gx.fns f fi hfi
        rw [Option.isNone_iff_eq_none.mp h9] at q1
        obtain ⟨q1, q2⟩ := q1
        rw [Option.isNone_iff_eq_none.mp h5] at q3
        obtain ⟨g1, g2⟩ := glB_ok w h2
        obtain ⟨n1, n2, n3, n4⟩ := nmOk_ok w h6
        obtain ⟨m1, m2, m3⟩ := locNm_ok w h10
        exact ds_setpop (ps_set gx.nd m1 m2 (d_call1 q4 gx.room gx.gd g1 q1 q2 q3 (pe_popK n1 n2 n3 n4 h7 h8) g2 rfl) rfl m3)
      · cases h1
    · cases h
  | .ext i e, X, W, c, st, gx, w, hk, hxe, tk, sx, h => by
    simp only [chkC] at h
    split at h
    · simp only [Bool.and_eq_true, decide_eq_true_eq] at h
      obtain ⟨⟨⟨⟨⟨rfl, h1⟩, h2⟩, h3⟩, h4⟩, h5⟩ := h
      obtain ⟨n1, n2, n3, n4⟩ := nmOk_ok w h1
      exact ds_ext n1 n2 n3 n4 (sndE e X c _ gx w h2 h3) h4 h5
    · cases h
  | .store i j e, X, W, c, st, gx, w, hk, hxe, tk, sx, h => by
    simp only [chkC] at h
    split at h
    · simp only [Bool.and_eq_true] at h
      obtain ⟨⟨⟨⟨⟨h1, h2⟩, h3⟩, h4⟩, h5⟩, h6⟩ := h
      obtain ⟨n1, n2, n3, n4⟩ := nmOk_ok w h1
      exact ds_store gx.u66 n1 n2 n3 n4 (sndE e X c _ gx w h4 h5) (weak_of w h2 (sndE j X c _ gx w h2)) h3 (by unfold swapsWithSole; exact noComp_ok h6)
    · cases h
  | .sdf i j e, X, W, c, st, gx, w, hk, hxe, tk, sx, h => by
    simp only [chkC] at h
    split at h
    · simp only [Bool.and_eq_true, decide_eq_true_eq] at h
      obtain ⟨⟨⟨⟨⟨⟨⟨⟨rfl, h1⟩, h2⟩, h3⟩, h4⟩, h5⟩, h6⟩, h7⟩, h8⟩ := h
      obtain ⟨n1, n2, n3, n4⟩ := nmOk_ok w h1
      exact ds_sdf n1 n2 n3 n4 (sndE j X c _ gx w h2 h3) (sndE e X c _ gx w h4 h5) h6 h7 h8
    · cases h
  | .st2 i j1 j2 e1 e2, X, W, c, st, gx, w, hk, hxe, tk, sx, h => by
    simp only [chkC] at h
    split at h
    · simp only [Bool.and_eq_true, decide_eq_true_eq] at h
      obtain ⟨⟨⟨⟨⟨⟨⟨⟨⟨⟨⟨⟨rfl, h1⟩, h2⟩, h3⟩, h4⟩, h5⟩, h6⟩, h7⟩, h8⟩, h9⟩, h10⟩, h11⟩, h12⟩ := h
      obtain ⟨n1, n2, n3, n4⟩ := nmOk_ok w h1
      exact ds_st2 gx.u66 gx.calm n1 n2 n3 n4 (sndE e1 X c _ gx w h6 h7) (sndE e2 X c _ gx w h8 h9) (weak_of w h2 (sndE j1 X c _ gx w h2)) (weak_of w h4 (sndE j2 X c _ gx w h4)) h3 h5 h10 h11 (swp_ok w.sc hk h12)
    · cases h
  | .aug i o e, X, W, c, st, gx, w, hk, hxe, tk, sx, h => by
    simp only [chkC] at h
    split at h
    · simp only [Bool.and_eq_true, decide_eq_true_eq] at h
      obtain ⟨⟨⟨rfl, rfl⟩, h3⟩, h4⟩ := h
      obtain ⟨n1, n2, n3⟩ := locNm_ok w h3
      exact ds_aug gx.nd n1 n2 n3 (weak_of w h4 (sndE e X c _ gx w h4))
    · cases h
  | .ret e, X, W, c, st, gx, w, hk, hxe, tk, sx, h => by
    simp only [chkC] at h
    split at h
    · simp only [Bool.and_eq_true] at h
      exact ds_ret (sndE e X c _ gx w h.1 h.2)
    · cases h
  | .retN, X, W, c, st, gx, w, hk, hxe, tk, sx, h => by
    simp only [chkC] at h
    split at h
    · exact ds_retN
    · cases h
  | .pass, X, W, c, st, gx, w, hk, hxe, tk, sx, h => by
    simp only [chkC] at h
    split at h
    · exact ds_pass
    · cases h
  | .brk, X, W, c, st, gx, w, hk, hxe, tk, sx, h => by
    simp only [chkC] at h
    split at h
    · exact ds_brk
    · cases h
  | .raise, X, W, c, st, gx, w, hk, hxe, tk, sx, h => ⟨fun pins s σ H D' I ⟨g0, H0, g, env, s0, x, eo, ss, z⟩ => z.elim⟩
  | .cont, X, W, c, st, gx, w, hk, hxe, tk, sx, h => by
    simp only [chkC] at h
    split at h
    · exact ds_cont
    · cases h
  | .ifs t a b, X, W, c, st, gx, w, hk, hxe, tk, sx, h => by
    simp only [chkC] at h
    split at h
    · simp only [Bool.and_eq_true] at h
      exact ds_if (sndT t X c _ gx w h.1.1) (sndCs a X W c _ gx w hk hxe tk sx h.1.2) (sndCs b X W c _ gx w hk hxe tk sx h.2)
    · cases h
  | .fors g it b, X, W, c, st, gx, w, hk, hxe, tk, sx, h => by
    simp only [chkC] at h
    split at h
    · simp only [Bool.and_eq_true] at h
      obtain ⟨hI, hset⟩ := sndI it X c _ _ gx w h.1.2
      exact ds_for hxe gx.calm hI (pg_of gx.calm gx.nd g _ (by rw [w.N, w.sc, w.fn]; exact h.1.1)) (sndCs b X W c _ gx w hk hxe tk sx h.2) hset
    · cases h
  | .whiles t b, X, W, c, st, gx, w, hk, hxe, tk, sx, h => by
    simp only [chkC] at h
    split at h
    · simp only [Bool.and_eq_true] at h
      exact ds_while pg.W hxe (sndT t X c _ gx w h.1) (sndCs b X W c _ gx w hk hxe tk sx h.2)
    · cases h
theorem sndCs : ∀ (cs : Cs) (X : Cx) (W : WX) (c : Cc) (sts : List Stmt), GX pg k X → CX c X → c.sc.kind = .function → PassesOwn (model X.prog X.w) X.A X.env X.xe → Takes X W → SX X → chkCs pg cs c sts = true → PSs X sts (TSof X.kk W (evCs pg.gl (callN pg k) pg.W cs))
  | .nil, X, W, c, sts, gx, w, hk, hxe, tk, sx, h => by
    simp only [chkCs] at h
    split at h
    · exact ds_nil
    · cases h
  | .cons cm cs, X, W, c, sts, gx, w, hk, hxe, tk, sx, h => by
    rcases chkCs_cons h with ⟨i, hc, h1⟩ | ⟨st, r, hs, h1, h2⟩
    · rw [hc]; exact dss_frz (sndCs cs X W c sts gx w hk hxe tk sx h1)
    · rw [hs]; exact ds_cons (sndC cm X W c st gx w hk hxe tk sx h1) (sndCs cs X W c r gx w hk hxe tk sx h2)
end
end
end Fw
namespace Fw
open PySem PySem.Spec PyProof.Rows L2
/-! ## P. defs -/
theorem fnG_of {P : Program} {w : World} {K : PySem.W.Frag} {mg : Str → Option Value} {base : Heap} {k : Nat} {f : Addr} {fd : FuncData} {name qual : Str} {params : Arguments} {body : List Stmt} {scope : Scope} {N ps : List Str} {sp : List V → Hp → VK → XK → Prop}
    {kws : List (Str × V)} (F : FunD K name qual params body scope [] kws f fd) (sc : FnScope N ps scope) (len : ∀ vs H Q E, sp vs H Q E → vs.length = ps.length)
    (hbody : ∀ (cdv : Value) (A : Around) (outer : List PySem.Env) (s : Shared) (H : Hp) (vs : List V) (Q : VK) (E : XK), Room k (A.deeper (envOfC qual scope s.heap.objs.size f cdv)) → A.guards = some [] → sp vs H Q E →
      ∃ t, PSs (cxOf (L2.CX P w) P w K mg base N qual scope f cdv A outer s H E) body t ∧ t { nx := fun _ H' => Q .non H', rt := Q } (start N vs) H) :
    FnG P w K mg base (k + 1) f fd ps sp := by
  obtain ⟨oc, od, dV, kV, doc, pm, an, cdv, ct, osl, rfl, lk, hcd, _, _⟩ := F.ex
  refine ⟨len, fun A outer s H args us vs Q E hr hgd e0 hb r hsp => ?_⟩
  have inK : K.In s.heap := e0.mod.kin.keeps fun b o e => (e0.bs b o e).1
  have nol : s.heap.NoLimit := e0.mod.nolimit.keeps fun b o e => (e0.bs b o e).1
  refine codeAny_call_function hr.depth (inK _ _ lk) rfl sc.co sc.gen rfl (PySem.W.codeRec_of inK hcd) (hb _ _ _ _ ?_)
  refine wpAny_newFunctionEnv_cells sc.kind (fun ⟨n, v⟩ hy => ?_) fun env he s1 x => ?_
  · rcases sc.par n (List.of_mem_zip hy).1 with q | q
    · exact .inl q
    · exact .inr ⟨q, PySem.W.cellsFrom_some _ _ _ (.inl q)⟩
  subst he
  refine ⟨nol.keeps x.toInCall.keep, codeAny_func ?_⟩
  obtain ⟨t, ht, hq⟩ := hbody cdv A outer s H vs Q E (hr.deeper _) hgd hsp
  have I : Inv (cxOf (L2.CX P w) P w K mg base N qual scope f cdv A outer s H E) [] (start N vs) H s1 := inv_start sc hr.hd e0 (len _ _ _ _ hsp) r x
  refine wpAny_mono (ht.run [] s1 (start N vs) H _ I hq) (fun fl s' hs => ?_) fun e s' hs => hs
  cases fl with
  | ret u => obtain ⟨v, σ', H', J, rv, q⟩ := hs; exact ⟨v, H', J.os, J.bare, J.base, J.hok, rv, q⟩
  | next => obtain ⟨σ', H', J, q⟩ := hs; exact ⟨V.non, H', J.os, J.bare, J.base, J.hok, rfl, q⟩
  | brk => exact hs.elim fun _ z => z.elim fun _ z => z.2.elim
  | cont => exact hs.elim fun _ z => z.elim fun _ z => z.2.elim
def chkFn (pg : Pg) (fi : Fn) (N ps : List Str) (st : Stmt) : Bool := scB N ps (defScope st) && decide (fi.nn = N.length) && decide (fi.np = ps.length) && chkCs pg fi.body ⟨N, defScope st, fun _ => true⟩ (defBody st)
/-- the module as the program tells it -/
structure PgOk (pg : Pg) (K : PySem.W.Frag) (mg : Str → Option Value) : Prop where
  glob : ∀ (j : Nat) x d, pg.gn[j]? = some x → pg.gl[j]? = some d → ∃ u v, mg x = some u ∧ RelV v u ∧ ∀ w g H, Rep ⟨K, w⟩ g H d v
  blt : ∀ x ∈ pg.bn, mg x = none
  fns : ∀ (f : Nat) fi, pg.fns[f]? = some fi → ∃ ad fd ps N st, AtF K mg fi.name ad (pg.ms f) ∧ (∃ nm qual kws, FunD K nm qual (defArgs st) (defBody st) (defScope st) [] kws ad fd) ∧ FB K fd ps (pg.kw f) ∧ chkFn pg fi N ps st = true
  cls : ∀ cn ns, (cn, ns) ∈ pg.cs → ∀ (P : Program) (w : World) (base : Heap), ClsOk P w K mg base cn ns
  xs : ∀ cn f, (cn, f) ∈ pg.es → ExcOk K mg cn f
  x0 : ∀ cn ∈ pg.e0, Exc0 K mg cn
  xm : ∀ cn hc b, (cn, hc, b) ∈ pg.xm → ∃ C1 C2, PySem.W.nsIn K mainGlobals cn = some (some (.ref C1)) ∧ mg hc = some (.ref C2) ∧ PySem.W.exmOne K (.ref C1) (.ref C2) = some b
theorem start_ok {K : KK} {g : Gh} {H H0 : Hp} {N : List Str} {nn : Nat} {ds : List D} {vs : List V} (r : Reps K g H ds vs) (hn : nn = N.length) : EnvOk K g H H0 (startE nn ds) (start N vs) := by
  have hl := r.length
  refine ⟨?_, fun i x h => ?_, fun i j xs ys h1 h2 => ?_⟩
  · unfold startE L2.start
    simp [hl, hn]
  · unfold startE at h
    unfold L2.start
    by_cases hi : i < ds.length
    · rw [List.getElem?_append_left (by simpa using hi), List.getElem?_map] at h
      rw [List.getElem?_append_left (by simpa [← hl] using hi), List.getElem?_map]
      obtain ⟨d, hd⟩ : ∃ d, ds[i]? = some d := ⟨_, List.getElem?_eq_getElem hi⟩
      rw [hd] at h
      cases h
      obtain ⟨v, hv, rv⟩ := r.get hd
      exact ⟨v, by rw [hv]; rfl, rv⟩
    · rw [List.getElem?_append_right (by simpa using hi), List.getElem?_replicate] at h
      split at h <;> cases h
  · unfold startE at h1
    by_cases hi : i < ds.length
    · rw [List.getElem?_append_left (by simpa using hi), List.getElem?_map] at h1
      rw [List.getElem?_eq_getElem hi] at h1
      cases h1
    · rw [List.getElem?_append_right (by simpa using hi), List.getElem?_replicate] at h1
      split at h1 <;> cases h1
theorem fns_ok {pg : Pg} {P : Program} {w : World} {K : PySem.W.Frag} {mg : Str → Option Value} (ok : PgOk pg K mg) : ∀ (k f : Nat) fi, pg.fns[f]? = some fi →
    ∃ ad fd ps, AtF K mg fi.name ad (pg.ms f) ∧ FB K fd ps (pg.kw f) ∧ ∀ base : Heap, FnG P w K mg base (k + 3) ad fd ps (spD ⟨K, w⟩ pg k f)
  | 0, f, fi, hf => by
    obtain ⟨ad, fd, ps, N, st, h1, ⟨nm, qual, kws, h2⟩, h3, h4⟩ := ok.fns f fi hf
    have no : ∀ {vs : List V} {H : Hp} {Q : VK} {E : XK}, ¬ spD ⟨K, w⟩ pg 0 f vs H Q E := fun ⟨g, s, ds, _, _, h⟩ => h
    exact ⟨ad, fd, ps, h1, h3, fun base => ⟨fun vs H Q E h => (no h).elim, fun A outer s H args us vs Q E _ _ _ _ _ h => (no h).elim⟩⟩
  | k + 1, f, fi, hf => by
    obtain ⟨ad, fd, ps, N, st, h1, ⟨nm, qual, kws, h2⟩, h3, h4⟩ := ok.fns f fi hf
    unfold chkFn at h4
    simp only [Bool.and_eq_true, decide_eq_true_eq] at h4
    obtain ⟨⟨⟨c1, c2⟩, c3⟩, c4⟩ := h4
    have sc := scB_ok c1
    have call : ∀ {ds : List D} {s : S} {H : Hp} {g : Gh} {Q : VK} {E : XK}, OutD ⟨K, w⟩ g H Q E (callN pg (k + 1) f ds s) → ds.length = fi.np ∧ OutD ⟨K, w⟩ g H Q E ((evCs pg.gl (callN pg k) pg.W fi.body (startE fi.nn ds) s).stop.bind outF) := by
      intro ds s H g Q E h
      unfold callN at h
      rw [hf] at h
      simp only at h
      split at h
      · exact ⟨by assumption, h⟩
      · exact h.elim
    refine ⟨ad, fd, ps, h1, h3, fun base => fnG_of (k := k + 3) h2 sc (fun vs H Q E ⟨g, s, ds, r, _, h⟩ => ?_) fun cdv A outer s0 H vs Q E hr hgd ⟨g, s, ds, r, ss, h⟩ => ?_⟩
    · rw [r.length, (call h).1, c3]
    · have gx : GX pg k (cxOf (L2.CX P w) P w K mg base N qual (defScope st) ad cdv A outer s0 H E) := ⟨rfl, sc.nd, hr, hgd, (fun j x d h1 h2 => let ⟨u, v, a1, a2, a3⟩ := ok.glob j x d h1 h2; ⟨u, v, a1, a2, fun g H => a3 w g H⟩), ok.blt, fun f fi hf => by
        obtain ⟨a1, a2, a3, a4, a6, a7⟩ := fns_ok ok k f fi hf
        exact ⟨a1, a2, a3, a4, a6, a7 base⟩, fun cn ns hc => ok.cls cn ns hc P w base, ok.xs, ok.x0, ok.xm⟩
      refine ⟨_, sndCs fi.body _ (fun cls d _ H => E cls d H) _ _ gx ⟨rfl, rfl, rfl⟩ sc.kind (passes_of rfl) (takes_of rfl rfl rfl rfl) ⟨rfl, rfl⟩ c4, ?_⟩
      refine ⟨g, H, g, startE fi.nn ds, s, Ext.refl, start_ok r c2, ss, ?_⟩
      have h2 := (call h).2
      cases e1 : evCs pg.gl (callN pg k) pg.W fi.body (startE fi.nn ds) s with
      | no => rw [e1] at h2; exact h2.elim
      | exn x s1 => rw [e1] at h2; exact h2.elim
      | ok fl s1 =>
        rw [e1] at h2
        cases fl with
        | ret x => exact fun g1 H1 v x ss1 r1 => h2 g1 H1 v x ss1 r1
        | next env => exact fun g1 H1 σ _ x eo ss1 => h2 g1 H1 _ x ss1 rfl
        | brk _ => exact h2.elim
        | cont _ => exact h2.elim
        | exn x env => exact fun g1 H1 σ cls d _ x eo ss1 rx => h2 g1 H1 cls d x ss1 rx
end Fw
namespace Fw
open PySem PySem.Spec PyProof.Rows L2
/-! ## Q. the law's end -/
theorem not_nil {b : Addr} (z : b ∈ ([] : List Addr)) : False := by cases z
section
variable {P : Program} {w : World} {K : PySem.W.Frag} {mg mb : Str → Option Value} {k : Nat} {fa a : Addr} {fd : FuncData} {ps : List Str} {sp : List V → Hp → VK → XK → Prop} {t : Shared} {us : List Value} {ns : List Int}
theorem end_core (inK : K.In t.heap) (nsG : t.heap.Ns mainGlobals mg) (nsB : t.heap.Ns builtinsNs mb) (boot : ∀ x : Str, x ≠ "__name__" → mb x = bootBuiltins x) (nol : t.heap.NoLimit) (nog : t.gens = #[])
    (ha : t.heap.get? a = some { cls := .type "list", data := .seq us.toArray }) (hr : Room k callerA) (F : ∀ base : Heap, FnG P w K mg base k fa fd ps sp) (hb : Binds K fd ps [])
    {H : Hp} (only : Only H) (hsp : sp [.ref a] H (fun v _ => v = .bl true) E0) (hok : HOk P w H t.heap) (sole : ∀ b, H b ≠ none → b = a) (offK : H a ≠ none → K.lookup a = none) :
    codeAny (model P w) callerA (.call (.ref fa) ⟨[.ref a], []⟩) (fun r t' => r = .ok (.ret (.bool true)) ∧ OldK t.heap t'.heap ∧ t'.os = t.os ∧ AllBare t'.gens) t := by
  have dictN : ∀ {b : Addr} {o : Obj} {es : Array DictEntry} {ep : Nat}, t.heap.get? b = some o → o.data = .dict es ep → H b = none := by
    intro b o es ep e d
    cases q : H b with
    | none => rfl
    | some z =>
      obtain rfl : b = a := sole b (by simp [q])
      rw [ha] at e; cases e
      cases (show Data.seq us.toArray _ = Data.dict es ep from d)
  have nsH : ∀ {b : Addr} {m : Str → Option Value}, t.heap.Ns b m → (hidT t.heap H).Ns b m := fun ⟨o, es, ep, e, d, r⟩ => ⟨o, es, ep, hidT_get e (dictN e d), d, r⟩
  have inB : K.In (hidT t.heap H) := by
    intro b o e
    refine hidT_get (inK b o e) ?_
    cases q : H b with
    | none => rfl
    | some z =>
      obtain rfl : b = a := sole b (by simp [q])
      rw [offK (by simp [q])] at e; cases e
  obtain ⟨mc, c1, c2⟩ := nol
  have md : Mod K mg (hidT t.heap H) := ⟨inB, nsH nsG, ⟨mb, nsH nsB, boot⟩, ⟨mc, nsH c1, c2⟩⟩
  have e0 : Env0 P w K mg (hidT t.heap H) callerA [] t H := ⟨rfl, md, fun _ _ e => of_hidT e, Nat.le_of_eq (hidT_size _ _), trivial, fun b z => (not_nil z).elim, hok, .of_eq nog⟩
  have bd : BindsTo t fd ⟨[.ref a], []⟩ (ps.zip [.ref a]) := hb t [.ref a] inK (by rw [List.append_nil]; exact (F t.heap).len _ _ _ _ hsp)
  refine codeAny_mono ((F _).run callerA [] t H ⟨[.ref a], []⟩ [.ref a] [.ref a] _ E0 hr rfl e0 bd (.cons rfl .nil) hsp) fun r t' h => ?_
  cases r with
  | error e =>
    obtain ⟨_, _, _, _, _, _, _, _, _, _, _, _, z⟩ := h
    exact z.elim
  | ok fl =>
    cases fl with
    | ret u =>
      obtain ⟨v, H', h1, h2, un, ok', r', rfl⟩ := h
      obtain rfl : u = Value.bool true := r'
      refine ⟨rfl, OldK.of_keep fun b o e => ?_, h1, h2⟩
      cases q : H b with
      | none => exact un.keep b o e q (fun z => not_nil z) (by simp)
      | some z =>
        rcases only b with z2 | ⟨ob, xs, z2⟩
        · rw [q] at z2; cases z2
        · obtain ⟨y1, _⟩ := hok b _ z2
          obtain ⟨y2, _⟩ := ok' b _ (un.frzs b ob _ z2)
          rw [e] at y1; cases y1
          exact y2
    | next => exact h.elim
    | brk => exact h.elim
    | cont => exact h.elim
theorem end_call (inK : K.In t.heap) (nsG : t.heap.Ns mainGlobals mg) (nsB : t.heap.Ns builtinsNs mb) (boot : ∀ x : Str, x ≠ "__name__" → mb x = bootBuiltins x) (nol : t.heap.NoLimit) (nog : t.gens = #[])
    (ha : t.heap.get? a = some { cls := .type "list", data := .seq us.toArray }) (hi : IntsAre us ns) (hl : ns.length ≤ sizeLine) (hr : Room k callerA) (F : ∀ base : Heap, FnG P w K mg base k fa fd ps sp)
    (hb : Binds K fd ps []) (hsp : ∀ H : Hp, FzL ⟨K, w⟩ H a (ns.map V.int) → sp [.ref a] H (fun v _ => v = .bl true) E0) :
    codeAny (model P w) callerA (.call (.ref fa) ⟨[.ref a], []⟩) (fun r t' => r = .ok (.ret (.bool true)) ∧ OldK t.heap t'.heap ∧ t'.os = t.os ∧ AllBare t'.gens) t := by
  have rv := vals_ints hi
  have lv := hi.length
  cases hk : K.lookup a with
  | some o =>
    have e := inK a o hk
    rw [ha] at e
    cases e
    exact end_core inK nsG nsB boot nol nog ha hr F hb (H := fun _ => none) (fun _ => .inl rfl) (hsp _ (.inr ⟨_, us.toArray, _, hk, rfl, rfl, rfl, by rw [List.size_toArray, lv]; exact hl, by simpa using rv⟩))
      (fun b u z => by cases (show (none : Option HO) = some u from z)) (fun b z => (z rfl).elim) fun z => (z rfl).elim
  | none =>
    refine end_core inK nsG nsB boot nol nog ha hr F hb (H := fun b => if b = a then some (.frz { cls := .type "list", data := .seq us.toArray } (.lst (ns.map V.int))) else none) (fun b => ?_) (hsp _ (.inl ⟨_, if_pos rfl⟩)) (fun b u z => ?_) (fun b z => ?_) fun _ => hk
    · by_cases q : b = a
      · exact .inr ⟨_, _, if_pos q⟩
      · exact .inl (if_neg q)
    · by_cases q : b = a
      · subst q
        cases (if_pos rfl).symm.trans z
        exact ⟨ha, by rw [List.length_map]; exact hl, us, _, rv, ha⟩
      · cases (if_neg q).symm.trans z
    · by_cases q : b = a
      · exact q
      · exact (z (if_neg q)).elim
end
/-- a law over a program that is known -/
theorem walk_G {l : PySem.W.OpenLaw} {n k : Nat} {q : Program} {loose : List Str} {XP : (Str → Option Value) → Heap → Prop} {YP : World → Heap → Prop} {d : DefRec} {pg : Pg} {f : Nat} {fi : Fn}
    (hn : l.most = some n) (hn2 : n ≤ sizeLine) (hdf : d.params.defaults = []) (hr : Room (k + 3) callerA) (hf : pg.fns[f]? = some fi) (hkw : pg.kw f = none) (hms : pg.ms f = none) (hfn : d.name = fi.name)
    (F : ∀ (w : World) (mg : Str → Option Value) (h : Heap), YP w h → h.Ns mainGlobals mg → ∃ K : PySem.W.Frag, K.In h ∧ PgOk pg K mg)
    (law : ∀ ns : List Int, ns.length ≤ n → (∀ z ∈ ns, Builtin.Int.intBits z ≤ 1048576) → ∃ s', callN pg k f [.scr ns] [] = .ok (.bl true) s') :
    PySem.W.WalkO q loose XP YP l.row.toRowW d [] (fun f vs => PySem.call f vs) := by
  refine Att.attach_callB hn hdf fun w t0 t mg mb fa o pm cd doc a us ns G Y ho hd hcd hmg hobj hints hlen hbits hg => ?_
  obtain ⟨K, inK, ok⟩ := F w mg _ Y G.T.g
  obtain ⟨ad, fd, ps, h1, h3, h4⟩ := fns_ok (P := l.prog) (w := w) ok k f fi hf
  rw [hms] at h1
  obtain ⟨h1, h2⟩ := h1
  rw [hfn, h1] at hmg
  cases hmg
  rw [hkw] at h3
  obtain ⟨s', e⟩ := law ns hlen hbits
  exact end_call inK G.T.g G.T.b G.T.builtins G.T.nolimit hg hobj hints (Nat.le_trans hlen hn2) hr h4 h3 fun H hz =>
    ⟨⟨[], fun _ => False⟩, [], [.scr ns], ⟨_, _, rfl, ⟨a, rfl, hz⟩, rfl⟩, ⟨rfl, List.nodup_nil, fun _ z => (not_nil z).elim, fun _ z => z.elim, fun n o z => by simp at z⟩, by rw [e]; exact fun g' H' v _ _ r => r⟩
/-! ## the head -/
mutual
def repB (K : PySem.W.Frag) : D → Value → Bool
  | .non, u => (match u with | .none => true | _ => false)
  | .bl b, u => (match u with | .bool c => b == c | _ => false)
  | .int i, u => (match u with | .int j _ => decide (i = j) | _ => false)
  | .str x, u => (match u with | .str y _ => decide (x = y) | _ => false)
  | .tup ds, u => (match u with
    | .ref a => (match K.lookup a with
      | some ⟨.type c, _, .seq its _, _⟩ => decide (c = "tuple") && decide (its.size ≤ sizeLine) && repBs K ds its.toList
      | _ => false)
    | _ => false)
  | _, _ => false
def repBs (K : PySem.W.Frag) : List D → List Value → Bool
  | [], us => (match us with | [] => true | _ => false)
  | d :: ds, us => (match us with | u :: r => repB K d u && repBs K ds r | _ => false)
end
mutual
theorem repB_ok {K : PySem.W.Frag} : ∀ (d : D) (u : Value), repB K d u = true → ∃ v, RelV v u ∧ ∀ w g H, Rep ⟨K, w⟩ g H d v
  | .non, u, h => by cases u with
    | none => exact ⟨.non, rfl, fun _ _ _ => rfl⟩
    | _ => cases h
  | .bl b, u, h => by cases u with
    | bool c => exact ⟨.bl b, by rw [eq_of_beq (show (b == c) = true from h)]; rfl, fun _ _ _ => rfl⟩
    | _ => cases h
  | .int i, u, h => by cases u with
    | int j z => exact ⟨.int i, ⟨z, by rw [of_decide_eq_true (show decide (i = j) = true from h)]⟩, fun _ _ _ => rfl⟩
    | _ => cases h
  | .str x, u, h => by cases u with
    | str j z => exact ⟨.str x, ⟨z, by rw [of_decide_eq_true (show decide (x = j) = true from h)]⟩, fun _ _ _ => rfl⟩
    | _ => cases h
  | .tup ds, u, h => by
    simp only [repB] at h
    split at h
    · split at h
      · rename_i a o c dd its nn sl hk
        simp only [Bool.and_eq_true, decide_eq_true_eq] at h
        obtain ⟨⟨rfl, h2⟩, h3⟩ := h
        obtain ⟨vs, r1, r2⟩ := repBs_ok ds _ h3
        refine ⟨.ref a, rfl, fun w g H => ⟨?_, a, vs, rfl, .inr ⟨_, its, nn, hk, rfl, rfl, h2, r1⟩, r2 w g H⟩⟩
        have q := (r2 w g H).length
        have q2 := r1.length
        rw [← q, q2]; simpa using h2
      · cases h
    · cases h
  | .lst _, _, h => by simp [repB] at h
  | .dct _ _ _, _, h => by simp [repB] at h
  | .ref _, _, h => by simp [repB] at h
  | .scr _, _, h => by simp [repB] at h
  | .ins _ _ _, _, h => by simp [repB] at h
theorem repBs_ok {K : PySem.W.Frag} : ∀ (ds : List D) (us : List Value), repBs K ds us = true → ∃ vs, Vals vs us ∧ ∀ w g H, Reps ⟨K, w⟩ g H ds vs
  | [], us, h => by cases us with
    | nil => exact ⟨[], .nil, fun _ _ _ => rfl⟩
    | cons _ _ => cases h
  | d :: ds, us, h => by cases us with
    | nil => cases h
    | cons u r =>
      simp only [repBs, Bool.and_eq_true] at h
      obtain ⟨v, r1, r2⟩ := repB_ok d u h.1
      obtain ⟨vs, q1, q2⟩ := repBs_ok ds r h.2
      exact ⟨v :: vs, .cons r1 q1, fun w g H => ⟨v, vs, rfl, r2 w g H, q2 w g H⟩⟩
end
def globB (K : PySem.W.Frag) (x : Str) (d : D) : Bool := match PySem.W.nsIn K mainGlobals x with
  | some (some u) => repB K d u
  | _ => false
/-- a def of the table: what the guide has, its names, its parameters, its text -/
structure Ent where
  fn : Fn
  N : List Str
  ps : List Str
  st : Stmt
  kw : Option (Str × D)
  ms : Option (Str × Str)
  qual : Str
/-- a class: its name, its fields, the parameters of its __init__, the text of this, its full name -/
structure CEnt where
  cn : Str
  ns : List Str
  ps : List Str
  st : Stmt
  qual : Str
def dvOf : D → He.Dv
  | .int i => .int i
  | .bl b => .bl b
  | _ => .non
def litD : D → Bool
  | .int _ => true
  | .bl _ => true
  | .non => true
  | _ => false
def Ent.kwd (e : Ent) : List (Str × He.Dv) := match e.kw with
  | none => []
  | some (kn, d) => [(kn, dvOf d)]
def Ent.at_ (e : Ent) : Str × Option Str := match e.ms with
  | none => (e.fn.name, none)
  | some (cn, m) => (cn, some m)
def Ent.d (e : Ent) : He.DefD := ⟨e.at_, e.fn.name, e.qual, defArgs e.st, defBody e.st, defScope e.st, [], e.kwd⟩
def kwOf (tb : List Ent) (f : Nat) : Option (Str × D) := match tb[f]? with
  | some e => e.kw
  | none => none
def msOf (tb : List Ent) (f : Nat) : Option (Str × Str) := match tb[f]? with
  | some e => e.ms
  | none => none
def CEnt.d (e : CEnt) : He.DefD := ⟨(e.cn, some "__init__"), "__init__", e.qual, defArgs e.st, defBody e.st, defScope e.st, [], []⟩
def CEnt.B (e : CEnt) : Prop := ∀ (kV doc pm : Value) (an : Option Addr) (cdv ct : Value) (us : List Value), us.length = e.ps.length → bindArgs (PySem.W.fnOf "__init__" e.qual (defArgs e.st) (defBody e.st) (defScope e.st) .none kV doc pm an cdv ct) ⟨us, []⟩ = pure (e.ps.zip us)
def CBAll : List CEnt → Prop
  | [] => True
  | e :: r => e.B ∧ CBAll r
theorem CBAll.get : ∀ {tc : List CEnt} {e : CEnt}, CBAll tc → e ∈ tc → e.B
  | [], _, _, h => by cases h
  | _ :: _, _, b, h => by
    rcases List.mem_cons.mp h with rfl | h
    · exact b.1
    · exact CBAll.get b.2 h
/-- what must be so of the text of a class -/
def CEnt.ok (e : CEnt) : Bool := scB e.ps e.ps (defScope e.st) && decide (e.ps.length = e.ns.length + 1) && decide e.ns.Nodup && decide (e.ns.length < 1000) && initB ⟨e.ps, defScope e.st, fun _ => true⟩ 1 e.ns (defBody e.st)
/-- what must be so of the class in the heap -/
def clsB (K : PySem.W.Frag) (e : CEnt) : Bool := (He.Fa.glo e.cn).ok K && (He.Fa.cls e.cn).ok K && (He.Fa.mkr e.cn).ok K && (e.ns.all fun n => (He.Fa.noat e.cn n).ok K) &&
  decide (PySem.W.findIn K (.ref (He.ga K e.cn)) "__class__" = some (some (.builtin "object.__class__"))) && decide (PySem.W.specialIn K (.builtin "object.__class__") "__get__" = some (some (.builtin "getset_descriptor.__get__"))) &&
  decide (PySem.W.takesIn K (.builtin "object.__class__") = some true) && decide (PySem.W.mroIn K (He.ga K e.cn) (.type "object") = some true) && [Ty.int, .bool, .str, .tuple, .list, .dict].all fun t => decide (PySem.W.kitOne K (.ref (He.ga K e.cn)) (.type t.name) = some false)
/-- an error class of one field: its name, the field, the two parameters of its __init__, the text of this, its full name -/
structure XEnt where
  cn : Str
  f : Str
  s : Str
  v : Str
  st : Stmt
  qual : Str
/-- the error classes; which except takes which -/
structure XT where
  es : List XEnt
  xm : List (Str × Str × Bool)
  e0 : List Str := []
def XEnt.d (e : XEnt) : He.DefD := ⟨(e.cn, some "__init__"), "__init__", e.qual, defArgs e.st, defBody e.st, defScope e.st, [], []⟩
def XEnt.B (e : XEnt) : Prop := ∀ (kV doc pm : Value) (an : Option Addr) (cdv ct : Value) (us : List Value), us.length = ([e.s, e.v] : List Str).length → bindArgs (PySem.W.fnOf "__init__" e.qual (defArgs e.st) (defBody e.st) (defScope e.st) .none kV doc pm an cdv ct) ⟨us, []⟩ = pure (([e.s, e.v] : List Str).zip us)
def XBAll : List XEnt → Prop
  | [] => True
  | e :: r => e.B ∧ XBAll r
theorem XBAll.get : ∀ {tx : List XEnt} {e : XEnt}, XBAll tx → e ∈ tx → e.B
  | [], _, _, h => by cases h
  | _ :: _, _, b, h => by
    rcases List.mem_cons.mp h with rfl | h
    · exact b.1
    · exact XBAll.get b.2 h
def oexcB (K : PySem.W.Frag) (C : Addr) : Bool := (match K.lookup C with
  | some ⟨.type "type", _, .cls cd, sl⟩ => (match cd.mro, sl.toList with
    | .ref C' :: bm, [_, _, _, _, some (.builtin n), _] => C' == C && n == "ValueError.__new__" && !cd.hasDel && cd.hasDict && PySem.HandSPX.refsVE bm
    | _, _ => false)
  | _ => false) && (decide (PySem.W.findIn K (.ref C) "__setattr__" = some (some (.builtin "object.__setattr__"))) && (decide (PySem.W.subIn K (.ref C) (.type "BaseException") = some true) && (decide (PySem.W.typeIn K (.ref C) = some (.type "type")) && PySem.W.keepIn K (.ref C))))
theorem oexcB_ok {K : PySem.W.Frag} {C : Addr} (h : oexcB K C = true) : OexC K C := by
  unfold oexcB at h
  rw [Bool.and_eq_true] at h
  obtain ⟨q, h⟩ := h
  simp only [Bool.and_eq_true, decide_eq_true_eq] at h
  obtain ⟨h1, h2, h3, h4⟩ := h
  refine ⟨?_, h1, h2, h3, h4⟩
  split at q
  · rename_i dd cd sl ho
    split at q
    · rename_i C' bm k0 k1 k2 k3 n k5 hm hs
      simp only [Bool.and_eq_true, beq_iff_eq, Bool.not_eq_true'] at q
      obtain ⟨⟨⟨⟨rfl, rfl⟩, hdel⟩, hdc⟩, ht⟩ := q
      obtain ⟨nm, bs, mro, ns, qn, hd, sn, sub, ab, col, del⟩ := cd
      dsimp only at hm hdel hdc
      subst hm hdel hdc
      have hsl : sl = #[k0, k1, k2, k3, some (.builtin "ValueError.__new__"), k5] := by
        obtain ⟨l⟩ := sl
        simp only at hs
        rw [hs]
      subst hsl
      exact ⟨nm, qn, ns, bs, bm, sn, sub, ab, col, dd, k0, k1, k2, k3, k5, ho, ht⟩
    · cases q
  · cases q
def xexB (K : PySem.W.Frag) (e : XEnt) : Bool := (He.Fa.glo e.cn).ok K && oexcB K (He.ga K e.cn) && xfB K (He.ga K e.cn) && (He.Fa.noat e.cn e.f).ok K && decide (PySem.W.findIn K (.ref (He.ga K e.cn)) "__init__" = some (some (.ref (He.ma K (He.ga K e.cn) "__init__")))) && decide (PySem.W.typeIn K (.ref (He.ma K (He.ga K e.cn) "__init__")) = some (.type "function"))
def xmB (K : PySem.W.Frag) (q : Str × Str × Bool) : Bool := (He.Fa.glo q.1).ok K && (He.Fa.glo q.2.1).ok K && decide (PySem.W.exmOne K (.ref (He.ga K q.1)) (.ref (He.ga K q.2.1)) = some q.2.2)
def x0B (K : PySem.W.Frag) (cn : Str) : Bool := (He.Fa.glo cn).ok K && PySem.W.excIn K (He.ga K cn) [.type "ValueError", .type "Exception", .type "BaseException", .type "object"] "ValueError.__new__" && PySem.W.keepIn K (.ref (He.ga K cn)) && decide (PySem.W.subIn K (.ref (He.ga K cn)) (.type "BaseException") = some true) && decide (PySem.W.typeIn K (.ref (He.ga K cn)) = some (.type "type"))
def XT.ok (tx : XT) (K : PySem.W.Frag) : Bool := tx.es.all (xexB K) && (tx.xm.all (xmB K) && tx.e0.all (x0B K))
def Ent.B0 (e : Ent) : Prop := ∀ (kV doc pm : Value) (an : Option Addr) (cdv ct : Value) (us : List Value), us.length = e.ps.length → bindArgs (PySem.W.fnOf e.fn.name e.qual (defArgs e.st) (defBody e.st) (defScope e.st) .none kV doc pm an cdv ct) ⟨us, []⟩ = pure (e.ps.zip us)
def Ent.B1 (e : Ent) (kn : Str) : Prop := ∀ (A : Addr) (doc pm : Value) (an : Option Addr) (cdv ct : Value) (us : List Value) (u : Value), us.length + 1 = e.ps.length → KwChain A [(kn, u)] (bindArgs (PySem.W.fnOf e.fn.name e.qual (defArgs e.st) (defBody e.st) (defScope e.st) .none (.ref A) doc pm an cdv ct) ⟨us, []⟩) (e.ps.zip (us ++ [u]))
def Ent.B2 (e : Ent) (kn : Str) : Prop := ∀ (kV doc pm : Value) (an : Option Addr) (cdv ct : Value) (us : List Value) (u : Value), us.length + 1 = e.ps.length → bindArgs (PySem.W.fnOf e.fn.name e.qual (defArgs e.st) (defBody e.st) (defScope e.st) .none kV doc pm an cdv ct) ⟨us, [(kn, u)]⟩ = pure (e.ps.zip (us ++ [u]))
def Ent.B (e : Ent) : Prop := match e.kw with
  | none => e.B0
  | some (kn, d) => litD d = true ∧ 0 < e.ps.length ∧ e.B1 kn ∧ e.B2 kn
theorem Ent.fb {e : Ent} {K : PySem.W.Frag} {fd : FuncData} {f : Addr} (F : FunD K e.d.name e.d.qual e.d.params e.d.body e.d.scope (e.d.dvs K) (e.d.kws K) f fd) (h : e.B) : FB K fd e.ps e.kw := by
  unfold Ent.B at h
  cases hk : e.kw with
  | none =>
    rw [hk] at h
    exact FunD.bindsN (kws := e.d.kws K) F h
  | some q =>
    obtain ⟨kn, d⟩ := q
    rw [hk] at h
    obtain ⟨hl, hp, h1, h2⟩ := h
    have hkw : e.d.kws K = [(kn, (dvOf d).v K)] := by unfold He.DefD.kws Ent.d Ent.kwd; rw [hk]; rfl
    rw [hkw] at F
    refine ⟨?_, e.ps.length - 1, by omega, ⟨fun s us ws X l1 l2 => ?_, fun r1 r2 => r1.append r2⟩⟩
    · obtain ⟨ds, r, b⟩ := FunD.binds0 (ps := e.ps) (kws := [(kn, (dvOf d).v K)]) F (e.ps.length - 1) (by simp) (by simp; omega) fun A doc pm an cdv ct us ks l1 l2 => by
        match ks, l2 with
        | [u], _ => exact h1 A doc pm an cdv ct us u (by omega)
      cases r with
      | cons ru rn =>
        cases rn
        refine ⟨_, _, ru, fun w g H => ?_, b⟩
        cases d <;> first | rfl | cases hl
    · match ws, l2 with
      | [u], _ =>
        obtain ⟨oc, od, dV, kV, doc, pm, an, cdv, ct, osl, e1, lk, hcd, hD, hK⟩ := F.ex
        rcases hD with ⟨_, e2⟩ | ⟨e2, _⟩
        · subst e1 e2
          exact .of_eq (h2 kV doc pm an cdv ct us u (by omega))
        · exact absurd rfl e2
def BAll : List Ent → Prop
  | [] => True
  | e :: r => e.B ∧ BAll r
theorem BAll.get : ∀ {tb : List Ent} {e : Ent} {i : Nat}, BAll tb → tb[i]? = some e → e.B
  | [], _, _, _, h => by simp at h
  | _ :: _, _, 0, b, h => by simp at h; subst h; exact b.1
  | _ :: _, _, i + 1, b, h => by simp at h; exact BAll.get b.2 h
def Ent.fa (e : Ent) : He.Fa := match e.ms with
  | none => .glo e.fn.name
  | some (cn, m) => .meth cn m
def facts (tb : List Ent) (bn : List Str) : List He.Fa := tb.map Ent.fa ++ bn.map .free
def defs (tb : List Ent) (tc : List CEnt) (tx : XT) : List He.DefD := tb.map Ent.d ++ (tc.map CEnt.d ++ tx.es.map XEnt.d)
abbrev ObT : Type := Bool × He.AlD
def obsT (gs : List (Str × D)) (tc : List CEnt) (tx : XT) (fa : List He.Fa) (fn : List He.DefD) (K : PySem.W.Frag) : ObT := ((gs.all fun p => globB K p.1 p.2) && (tc.all (clsB K) && tx.ok K), He.obsD fa fn K)
def obsTG (n : Nat) (gs : List (Str × D)) (tc : List CEnt) (tx : XT) (fa : List He.Fa) (fn : List He.DefD) (g : Addr → Option Obj) : ObT := obsT gs tc tx fa fn (He.frG g (He.asD g n))
def hookT (n : Nat) (gs : List (Str × D)) (tc : List CEnt) (tx : XT) (fa : List He.Fa) (fn : List He.DefD) : PySem.W.Hook where
  α := ObT
  obs := fun s => obsTG n gs tc tx fa fn s.heap.get?
  val := fun _ => (true, He.valD fn)
  says := fun _ h => ∃ K : PySem.W.Frag, K.In h ∧ obsT gs tc tx fa fn K = (true, He.valD fn)
  of := fun _ _ e => ⟨_, He.frG_in, e⟩
  keeps := fun _ _ _ ⟨K, hK, c⟩ k => ⟨K, PySem.W.Frag.In.keeps hK k, c⟩
theorem obsTG_eq {n : Nat} {gs : List (Str × D)} {tc : List CEnt} {tx : XT} {fa : List He.Fa} {fn : List He.DefD} {g : Addr → Option Obj} {s : Shared} (h : ∀ a, g a = s.heap.get? a) : obsTG n gs tc tx fa fn g = (hookT n gs tc tx fa fn).obs s := by
  rw [show g = s.heap.get? from funext h]; rfl
theorem insK_of {K : PySem.W.Frag} {h : Heap} {mg : Str → Option Value} {e : CEnt} (c : clsB K e = true) : InsK K e.cn (He.ga K e.cn) ∧ Mk K (He.ga K e.cn) (He.ma K (He.ga K e.cn) "__init__") ∧ (∀ n ∈ e.ns, NoAttr K (He.ga K e.cn) n) ∧ (He.Fa.glo e.cn).ok K = true := by
  unfold clsB at c
  simp only [Bool.and_eq_true, decide_eq_true_eq, List.all_eq_true] at c
  obtain ⟨⟨⟨⟨⟨⟨⟨⟨c1, c2⟩, c3⟩, c4⟩, c5⟩, c6⟩, c7⟩, c8⟩, c9⟩ := c
  refine ⟨⟨He.eqO_ok c1, He.cls_ok c2, c5, c6, c7, c8, fun t => c9 t (by cases t <;> decide)⟩, He.mkr_ok c3, fun n hn => He.noat_ok (c4 n hn), c1⟩
theorem pgOk_of {pg : Pg} {tb : List Ent} {tc : List CEnt} {tx : XT} {gs : List (Str × D)} {K : PySem.W.Frag} {mg : Str → Option Value} {h : Heap} (X : K.In h) (G : h.Ns mainGlobals mg) (c : obsT gs tc tx (facts tb pg.bn) (defs tb tc tx) K = (true, He.valD (defs tb tc tx)))
    (h1 : pg.fns = tb.map (·.fn)) (h2 : pg.gn = gs.map (·.1)) (h3 : pg.gl = gs.map (·.2)) (h5 : pg.kw = kwOf tb) (h6 : pg.ms = msOf tb) (h7 : pg.cs = tc.map fun e => (e.cn, e.ns)) (h8 : pg.es = tx.es.map fun e => (e.cn, e.f)) (h9 : pg.xm = tx.xm) (h10 : pg.e0 = tx.e0) (hxt : (tx.es.all fun e => xinB e.f e.s e.v e.st) = true) (hxb : XBAll tx.es) (hct : tc.all CEnt.ok = true) (hcb : CBAll tc) (htb : (tb.all fun e => match e.ms with | none => true | some (cn, _) => tc.any fun x => decide (x.cn = cn)) = true) (hc : (tb.all fun e => chkFn pg e.fn e.N e.ps e.st) = true) (hb : BAll tb) : PgOk pg K mg := by
  have c0 : ((gs.all fun p => globB K p.1 p.2) && (tc.all (clsB K) && tx.ok K)) = true := congrArg Prod.fst c
  unfold XT.ok at c0
  rw [Bool.and_eq_true, Bool.and_eq_true, Bool.and_eq_true, Bool.and_eq_true] at c0
  obtain ⟨c1, c3, c4, c5, c6⟩ := c0
  have c2 : He.SaysD (facts tb pg.bn) (defs tb tc tx) K := congrArg Prod.snd c
  refine ⟨fun j x d e1 e2 => ?_, fun x hx => ?_, fun f fi e => ?_, fun cn ns hcs P w base => ?_, fun cn f hes => ?_, fun cn h0 => ?_, fun cn hc b hxm => ?_⟩
  · rw [h2, List.getElem?_map] at e1
    rw [h3, List.getElem?_map] at e2
    cases q : gs[j]? with
    | none => rw [q] at e1; cases e1
    | some p =>
      rw [q] at e1 e2
      cases e1; cases e2
      have z := List.all_eq_true.mp c1 p (List.mem_of_getElem? q)
      unfold globB at z
      split at z
      · rename_i u hu
        obtain ⟨v, r1, r2⟩ := repB_ok _ _ z
        exact ⟨u, v, (PySem.W.mg_of X G hu), r1, r2⟩
      · cases z
  · obtain ⟨i, hi⟩ := List.mem_iff_getElem?.mp hx
    have q : (facts tb pg.bn)[tb.length + i]? = some (.free x) := by
      unfold facts
      rw [List.getElem?_append_right (by simp)]
      simp [hi]
    exact He.free_ok X G (c2.fact _ q)
  · rw [h1, List.getElem?_map] at e
    cases q : tb[f]? with
    | none => rw [q] at e; cases e
    | some en =>
      rw [q] at e
      cases e
      have hl : f < tb.length := by
        rcases Nat.lt_or_ge f tb.length with z | z
        · exact z
        · rw [List.getElem?_eq_none z] at q; cases q
      have q1 : (facts tb pg.bn)[f]? = some en.fa := by
        unfold facts
        rw [List.getElem?_append_left (by simpa using hl)]
        simp [q]
      have q2 : (defs tb tc tx)[f]? = some en.d := by
        unfold defs
        rw [List.getElem?_append_left (by simpa using hl)]
        simp [q]
      obtain ⟨fd, F⟩ := c2.def_ f q2
      refine ⟨_, fd, en.ps, en.N, en.st, ?_, ⟨_, _, _, F⟩, by rw [h5]; unfold kwOf; rw [q]; exact Ent.fb F (hb.get q), List.all_eq_true.mp hc en (List.mem_of_getElem? q)⟩
      have hms : pg.ms f = en.ms := by rw [h6]; unfold msOf; rw [q]
      rw [hms]
      have q3 := c2.fact f q1
      have q4 := List.all_eq_true.mp htb en (List.mem_of_getElem? q)
      cases hm : en.ms with
      | none =>
        have e1 : en.fa = .glo en.fn.name := by unfold Ent.fa; rw [hm]
        have e2 : en.d.at_ = (en.fn.name, none) := by unfold Ent.d Ent.at_; rw [hm]
        rw [e1] at q3
        rw [e2] at F
        rw [e2]
        exact ⟨He.glo_ok X G q3, F.kp⟩
      | some p =>
        obtain ⟨cn, m⟩ := p
        have e1 : en.fa = .meth cn m := by unfold Ent.fa; rw [hm]
        have e2 : en.d.at_ = (cn, some m) := by unfold Ent.d Ent.at_; rw [hm]
        rw [e1] at q3
        rw [hm] at q4
        rw [e2]
        obtain ⟨x, hx, hxc⟩ := List.any_eq_true.mp q4
        cases of_decide_eq_true hxc
        have ik := insK_of (h := h) (mg := mg) (List.all_eq_true.mp c3 x hx)
        exact ⟨_, ik.1.at_, He.meth_ok q3⟩
  · rw [h7] at hcs
    obtain ⟨x, hx, e⟩ := List.mem_map.mp hcs
    cases e
    have ik := insK_of (h := h) (mg := mg) (List.all_eq_true.mp c3 x hx)
    have ok := List.all_eq_true.mp hct x hx
    unfold CEnt.ok at ok
    simp only [Bool.and_eq_true, decide_eq_true_eq] at ok
    obtain ⟨⟨⟨⟨o1, o2⟩, o3⟩, o4⟩, o5⟩ := ok
    obtain ⟨i, hi⟩ := List.mem_iff_getElem?.mp hx
    have q2 : (defs tb tc tx)[tb.length + i]? = some x.d := by
      unfold defs
      have hl : i < tc.length := (List.getElem?_eq_some_iff.mp hi).1
      rw [List.getElem?_append_right (by simp), List.getElem?_append_left (by simp; omega)]
      simp [hi]
    obtain ⟨fd, F⟩ := c2.def_ _ q2
    have hB : Binds K fd x.ps [] := FunD.bindsN (kws := x.d.kws K) F (hcb.get hx)
    exact ⟨_, _, fd, x.ps, He.glo_ok X G ik.2.2.2, ik.2.1, ik.1, ik.2.2.1, hB, init_ok F (scB_ok o1) o2 o3 o4 o5⟩
  · rw [h8] at hes
    obtain ⟨x, hx, e⟩ := List.mem_map.mp hes
    cases e
    have z := List.all_eq_true.mp c4 x hx
    unfold xexB at z
    simp only [Bool.and_eq_true, decide_eq_true_eq] at z
    obtain ⟨⟨⟨⟨⟨z1, z2⟩, z3⟩, z4⟩, z5⟩, z6⟩ := z
    obtain ⟨i, hi⟩ := List.mem_iff_getElem?.mp hx
    have q2 : (defs tb tc tx)[tb.length + (tc.length + i)]? = some x.d := by
      unfold defs
      rw [List.getElem?_append_right (by simp), List.getElem?_append_right (by simp)]
      simp [hi]
    obtain ⟨fd, F⟩ := c2.def_ _ q2
    exact ⟨_, _, fd, _, x.s, x.v, x.st, He.eqO_ok z1, He.glo_ok X G z1, oexcB_ok z2, xfB_ok z3, He.noat_ok z4, z5, z6, F, List.all_eq_true.mp hxt x hx, FunD.bindsN (kws := x.d.kws K) F (hxb.get hx)⟩
  · rw [h10] at h0
    have z := List.all_eq_true.mp c6 cn h0
    unfold x0B at z
    simp only [Bool.and_eq_true, decide_eq_true_eq] at z
    obtain ⟨⟨⟨⟨z1, z2⟩, z3⟩, z4⟩, z5⟩ := z
    exact ⟨_, He.eqO_ok z1, He.glo_ok X G z1, z2, z3, z4, z5⟩
  · rw [h9] at hxm
    have z := List.all_eq_true.mp c5 _ hxm
    unfold xmB at z
    simp only [Bool.and_eq_true, decide_eq_true_eq] at z
    obtain ⟨⟨z1, z2⟩, z3⟩ := z
    exact ⟨_, _, He.eqO_ok z1, He.glo_ok X G z2, z3⟩
end Fw
namespace K46
open PySem Fw
def top (i : Nat) : Stmt := PySem.Challenge.pw_lateposts_k46_what_a_log_makes_sure.main.body.getD i (.Pass ⟨0, 0, 0, 0⟩)
def b_merged : Cs := (.cons (.own 2 (.disp .nil)) (.cons (.set (.tup (.cons (.nm 3) (.cons (.nm 4) .nil))) (.tup (.cons (.int 0) (.cons (.int 0) .nil)))) (.cons (.whiles (.and (.cons (.cmp .Lt (.nm 3) (.bi .len (.cons (.nm 0) .nil))) (.cons (.cmp .Lt (.nm 4) (.bi .len (.cons (.nm 1) .nil))) .nil))) (.cons (.ifs (.cmp .Lt (.sub (.nm 1) (.nm 4)) (.sub (.nm 0) (.nm 3))) (.cons (.app 2 (.sub (.nm 1) (.nm 4))) (.cons (.aug 4 .Add (.int 1)) .nil)) (.cons (.aug 4 .Add (.bi .int (.cons (.cmp .Eq (.sub (.nm 0) (.nm 3)) (.sub (.nm 1) (.nm 4))) .nil))) (.cons (.app 2 (.sub (.nm 0) (.nm 3))) (.cons (.aug 3 .Add (.int 1)) .nil)))) .nil)) (.cons (.ret (.frz (.cat (.frz (.cat (.pk 2) (.slice (.nm 0) (.so (.nm 3)) .no))) (.slice (.nm 1) (.so (.nm 4)) .no)))) .nil))))
def b_in_order : Cs := (.cons (.set (.nm 1) (.frz (.comp (.nm 4) (.seq (.nm 0)) .nil (.frz (.disp (.cons (.nm 4) .nil))) [4]))) (.cons (.whiles (.cmp .Gt (.bi .len (.cons (.nm 1) .nil)) (.int 1)) (.cons (.set (.nm 2) (.bin .FloorDiv (.bi .len (.cons (.nm 1) .nil)) (.int 2))) (.cons (.set (.nm 3) (.slice (.nm 1) (.so (.bin .Mult (.int 2) (.nm 2))) .no)) (.cons (.set (.nm 1) (.frz (.cat (.frz (.comp (.tup (.cons (.nm 5) (.cons (.nm 6) .nil))) (.zip (.slice (.nm 1) .no (.so (.nm 2))) (.slice (.nm 1) (.so (.nm 2)) (.so (.bin .Mult (.int 2) (.nm 2))))) .nil (.call 0 (.cons (.nm 5) (.cons (.nm 6) .nil))) [5, 6])) (.nm 3)))) .nil)))) (.cons (.ret (.ite (.cmp .NotEq (.nm 1) (.frz (.disp .nil))) (.bi .tuple (.cons (.sub (.nm 1) (.int 0)) .nil)) (.tup .nil))) .nil)))
def b_rest_of : Cs := (.cons (.set (.tup (.cons (.nm 1) (.cons (.nm 2) (.cons (.nm 3) .nil)))) (.nm 0)) (.cons (.ret (.ite (.cmp .Is (.nm 3) .non) (.tup (.cons (.nm 1) .nil)) (.tup (.cons (.nm 1) (.cons (.bin .Sub (.nm 3) (.nm 2)) .nil))))) .nil))
def b_lies_in : Cs := (.cons (.set (.tup (.cons (.nm 2) (.cons (.nm 3) .nil))) (.nm 1)) (.cons (.ret (.and (.cons (.or (.cons (.cmp .Is (.nm 2) .non) (.cons (.cmp .LtE (.nm 2) (.nm 0)) .nil))) (.cons (.or (.cons (.cmp .Is (.nm 3) .non) (.cons (.cmp .LtE (.nm 0) (.nm 3)) .nil))) .nil)))) .nil))
def b_counting_row : Cs := (.cons (.fors (.tup (.cons (.nm 3) (.cons (.nm 4) .nil))) (.enum (.sub (.nm 0) (.sub (.nm 1) (.int 0)))) (.cons (.set (.tup (.cons (.nm 5) (.cons (.nm 6) (.cons (.nm 7) (.cons (.nm 8) .nil))))) (.nm 4)) (.cons (.ifs (.val (.call 3 (.cons (.nm 2) (.cons (.nm 5) .nil)))) (.cons (.ifs (.or (.cons (.cmp .Is (.nm 6) .non) (.cons (.and (.cons (.cmp .Eq (.bi .len (.cons (.nm 1) .nil)) (.int 2)) (.cons (.val (.call 3 (.cons (.bin .Sub (.nm 2) (.sub (.nm 1) (.int 1))) (.cons (.nm 6) .nil)))) .nil))) .nil))) (.cons (.ret (.nm 3)) .nil) .nil) .nil) .nil) .nil))) (.cons (.ret .non) .nil))
def b_step_from : Cs := (.cons (.set (.nm 3) (.call 4 (.cons (.nm 0) (.cons (.nm 1) (.cons (.nm 2) .nil))))) (.cons (.ifs (.cmp .Is (.nm 3) .non) (.cons (.ret (.tup (.cons (.bl false) (.cons (.nm 1) .nil)))) .nil) .nil) (.cons (.set (.tup (.cons (.nm 4) (.cons (.nm 5) .nil))) (.slice (.sub (.sub (.nm 0) (.sub (.nm 1) (.int 0))) (.nm 3)) (.so (.int 2)) .no)) (.cons (.ifs (.cmp .Eq (.nm 4) (.str "take")) (.cons (.ret (.tup (.cons (.bl true) (.cons (.tup (.cons (.nm 5) .nil)) .nil)))) .nil) .nil) (.cons (.ifs (.cmp .Eq (.nm 4) (.str "keep")) (.cons (.ret (.tup (.cons (.bl false) (.cons (.tup (.cons (.nm 5) (.cons (.nm 2) .nil))) .nil)))) .nil) .nil) (.cons (.ret (.tup (.cons (.bl false) (.cons (.ite (.cmp .Eq (.nm 4) (.str "drop")) (.tup (.cons (.nm 5) .nil)) (.bin .Add (.tup (.cons (.nm 5) .nil)) (.slice (.nm 1) (.so (.int 1)) .no))) .nil)))) .nil))))))
def b_hear : Cs := (.cons (.set (.nm 3) (.sub (.nm 1) (.int 1))) (.cons (.set (.tup (.cons (.nm 4) (.cons (.nm 5) .nil))) (.call 5 (.cons (.nm 0) (.cons (.call 2 (.cons (.nm 1) .nil)) (.cons (.bin .Sub (.nm 2) (.nm 3)) .nil))))) (.cons (.ifs (.val (.nm 4)) (.cons (.ret (.tup (.cons (.bl true) (.cons (.tup (.cons (.sub (.nm 5) (.int 0)) (.cons (.nm 2) (.cons .non .nil)))) .nil)))) .nil) .nil) (.cons (.ret (.tup (.cons (.bl false) (.cons (.tup (.cons (.sub (.nm 5) (.int 0)) (.cons (.nm 3) (.cons (.ite (.cmp .Eq (.bi .len (.cons (.nm 5) .nil)) (.int 2)) (.bin .Add (.nm 3) (.sub (.nm 5) (.int 1))) .non) .nil)))) .nil)))) .nil))))
def b_beginning : Cs := (.cons (.ret (.tup (.cons (.int 0) (.cons (.nm 0) (.cons .non .nil))))) .nil)
def b_walked : Cs := (.cons (.set (.nm 3) (.call 7 (.cons (.nm 2) .nil))) (.cons (.own 4 (.disp .nil)) (.cons (.fors (.nm 5) (.seq (.nm 1)) (.cons (.set (.tup (.cons (.nm 6) (.cons (.nm 3) .nil))) (.call 6 (.cons (.nm 0) (.cons (.nm 3) (.cons (.nm 5) .nil))))) (.cons (.app 4 (.nm 6)) .nil))) (.cons (.ret (.tup (.cons (.bi .tuple (.cons (.pk 4) .nil)) (.cons (.nm 3) .nil)))) .nil))))
def b_answers : Cs := (.cons (.ret (.sub (.call 8 (.cons (.nm 0) (.cons (.nm 1) (.cons (.nm 2) .nil)))) (.int 0))) .nil)
def b_stretches : Cs := (.cons (.own 1 (.disp .nil)) (.cons (.fors (.tup (.cons (.nm 5) (.cons (.nm 6) .nil))) (.seq (.nm 0)) (.cons (.ext 1 (.frz (.comp (.nm 7) (.range2 (.bin .Sub (.int 0) (.glob 0)) (.bin .Add (.glob 0) (.int 1))) .nil (.bin .Sub (.nm 5) (.nm 7)) [7]))) .nil)) (.cons (.own 2 (.disp .nil)) (.cons (.set (.nm 3) .non) (.cons (.frz 1) (.cons (.fors (.nm 4) (.seq (.call 1 (.cons (.nm 1) .nil))) (.cons (.ifs (.or (.cons (.cmp .Is (.nm 3) .non) (.cons (.cmp .Lt (.nm 3) (.nm 4)) .nil))) (.cons (.app 2 (.tup (.cons (.nm 3) (.cons (.bin .Sub (.nm 4) (.int 1)) .nil)))) .nil) .nil) (.cons (.app 2 (.tup (.cons (.nm 4) (.cons (.nm 4) .nil)))) (.cons (.set (.nm 3) (.bin .Add (.nm 4) (.int 1))) .nil)))) (.cons (.ret (.frz (.cat (.pk 2) (.frz (.disp (.cons (.tup (.cons (.nm 3) (.cons .non .nil))) .nil)))))) .nil)))))))
def b_one_of : Cs := (.cons (.set (.tup (.cons (.nm 1) (.cons (.nm 2) .nil))) (.nm 0)) (.cons (.ifs (.cmp .IsNot (.nm 1) .non) (.cons (.ret (.nm 1)) .nil) .nil) (.cons (.ret (.ite (.cmp .Is (.nm 2) .non) (.int 0) (.nm 2))) .nil)))
def b_joined : Cs := (.cons (.set (.nm 1) (.tup .nil)) (.cons (.fors (.tup (.cons (.nm 2) (.cons (.nm 3) .nil))) (.seq (.nm 0)) (.cons (.ifs (.and (.cons (.cmp .NotEq (.nm 1) (.tup .nil)) (.cons (.cmp .Eq (.bin .Add (.sub (.sub (.nm 1) (.un .USub (.int 1))) (.int 1)) (.int 1)) (.nm 2)) .nil))) (.cons (.set (.nm 1) (.bin .Add (.slice (.nm 1) .no (.so (.un .USub (.int 1)))) (.tup (.cons (.tup (.cons (.sub (.sub (.nm 1) (.un .USub (.int 1))) (.int 0)) (.cons (.nm 3) .nil))) .nil)))) .nil) (.cons (.set (.nm 1) (.bin .Add (.nm 1) (.tup (.cons (.tup (.cons (.nm 2) (.cons (.nm 3) .nil))) .nil)))) .nil)) .nil)) (.cons (.ret (.nm 1)) .nil)))
def b_fits : Cs := (.cons (.set (.nm 2) (.bi .tuple (.cons (.frz (.comp (.nm 4) (.seq (.nm 1)) .nil (.sub (.nm 4) (.int 0)) [4])) .nil))) (.cons (.set (.nm 3) (.bi .tuple (.cons (.frz (.comp (.nm 4) (.seq (.nm 1)) .nil (.sub (.nm 4) (.int 1)) [4])) .nil))) (.cons (.ret (.call 12 (.cons (.frz (.comp (.nm 5) (.seq (.call 10 (.cons (.nm 1) .nil))) (.cons (.cmp .Eq (.callK 9 (.cons (.nm 0) (.cons (.nm 2) .nil)) (.call 11 (.cons (.nm 5) .nil))) (.nm 3)) .nil) (.nm 5) [5])) .nil))) .nil)))
def b_sure_of : Cs := (.cons (.set (.tup (.cons (.nm 3) (.cons (.nm 4) .nil))) (.frz (.comp (.nm 5) (.seq (.tup (.cons (.bl true) (.cons (.bl false) .nil)))) .nil (.cmp .NotEq (.call 13 (.cons (.nm 0) (.cons (.bin .Add (.nm 1) (.tup (.cons (.tup (.cons (.nm 2) (.cons (.nm 5) .nil))) .nil))) .nil))) (.tup .nil)) [5]))) (.cons (.ifs (.and (.cons (.not (.val (.nm 3))) (.cons (.not (.val (.nm 4))) .nil))) (.cons (.rais0 "NoFit") .nil) .nil) (.cons (.ret (.ite (.and (.cons (.val (.nm 3)) (.cons (.val (.nm 4)) .nil))) .non (.nm 3))) .nil)))
def b__law_spring : Cs := (.cons (.set (.tup (.cons (.nm 2) (.cons (.nm 3) .nil))) (.tup (.cons (.int 0) (.cons (.int 2925) .nil)))) (.cons (.fors (.nm 1) (.seq (.slice (.nm 0) .no (.so (.int 63)))) (.cons (.set (.nm 4) (.bin .Add (.bin .Add (.bin .Mult (.int 2) (.bi .abs (.cons (.nm 1) .nil))) (.bi .int (.cons (.cmp .Lt (.nm 1) (.int 0)) .nil))) (.int 1))) (.cons (.set (.nm 3) (.bin .Mod (.bi .int (.cons (.bin .Add (.bin .Mult (.nm 3) (.int 6364136223846793005)) (.nm 4)) .nil)) (.int 2305843009213693951))) (.cons (.ifs (.cmp .GtE (.bi .abs (.cons (.nm 1) .nil)) (.bin .Pow (.int 10) (.int 18))) (.cons (.set (.nm 2) (.bin .Add (.bin .Mult (.nm 2) (.int 37)) (.bi .abs (.cons (.nm 1) .nil)))) .nil) .nil) .nil)))) (.cons (.ret (.shr (.disp (.cons (.nm 2) (.cons (.nm 3) (.cons (.int 0) .nil)))))) .nil)))
def b__law_dip : Cs := (.cons (.ifs (.cmp .Gt (.sub (.nm 0) (.int 0)) (.int 0)) (.cons (.set (.nm 3) (.bin .Mod (.bi .int (.cons (.sub (.nm 0) (.int 0)) .nil)) (.nm 1))) (.cons (.store 0 (.int 0) (.bin .FloorDiv (.sub (.nm 0) (.int 0)) (.nm 1))) (.cons (.ret (.nm 3)) .nil))) .nil) (.cons (.store 0 (.int 2) (.bin .Add (.sub (.nm 0) (.int 2)) (.int 1))) (.cons (.set (.nm 2) (.bin .Add (.bin .Mult (.int 3202034522624059733) (.sub (.nm 0) (.int 2))) (.int 29))) (.cons (.store 0 (.int 1) (.bin .Mod (.bi .int (.cons (.bin .Add (.bin .Mult (.sub (.nm 0) (.int 1)) (.int 2862933555777941757)) (.nm 2)) .nil)) (.int 2305843009213693951))) (.cons (.ret (.bin .Mod (.bi .int (.cons (.bin .FloorDiv (.bin .Mod (.bi .int (.cons (.bin .Mult (.sub (.nm 0) (.int 1)) (.sub (.nm 0) (.int 1))) .nil)) (.int 2305843009213693951)) (.int 131071)) .nil)) (.nm 1))) .nil)))))
def b__law_pick : Cs := (.cons (.ret (.sub (.nm 1) (.call 16 (.cons (.nm 0) (.cons (.bi .len (.cons (.nm 1) .nil)) .nil))))) .nil)
def b__law_range : Cs := (.cons (.set (.nm 1) (.call 16 (.cons (.nm 0) (.cons (.int 9) .nil)))) (.cons (.set (.nm 2) (.ite (.cmp .Lt (.nm 1) (.int 6)) (.bin .Sub (.call 16 (.cons (.nm 0) (.cons (.int 13) .nil))) (.int 6)) (.bin .Add (.int 1) (.call 16 (.cons (.nm 0) (.cons (.int 6) .nil)))))) (.cons (.ifs (.cmp .Lt (.nm 1) (.int 3)) (.cons (.ret (.sub (.frz (.disp (.cons (.tup (.cons .non (.cons (.nm 2) .nil))) (.cons (.tup (.cons (.nm 2) (.cons .non .nil))) (.cons (.tup (.cons .non (.cons .non .nil))) .nil))))) (.nm 1))) .nil) .nil) (.cons (.ret (.tup (.cons (.nm 2) (.cons (.bin .Add (.nm 2) (.call 16 (.cons (.nm 0) (.cons (.bin .Sub (.int 7) (.nm 2)) .nil)))) .nil)))) .nil))))
def b__law_row : Cs := (.cons (.set (.tup (.cons (.nm 3) (.cons (.nm 4) .nil))) (.tup (.cons (.call 18 (.cons (.nm 0) .nil)) (.cons .non .nil)))) (.cons (.ifs (.cmp .Eq (.call 16 (.cons (.nm 0) (.cons (.int 3) .nil))) (.int 0)) (.cons (.set (.nm 4) (.call 17 (.cons (.nm 0) (.cons (.frz (.disp (.cons (.tup (.cons (.int 1) (.cons (.int 1) .nil))) (.cons (.tup (.cons (.int 1) (.cons (.int 2) .nil))) (.cons (.tup (.cons (.int 0) (.cons (.int 0) .nil))) (.cons (.tup (.cons (.un .USub (.int 1)) (.cons (.int 1) .nil))) (.cons (.call 18 (.cons (.nm 0) .nil)) .nil))))))) .nil)))) .nil) .nil) (.cons (.set (.nm 2) (.call 17 (.cons (.nm 0) (.cons (.frz (.disp (.cons (.str "take") (.cons (.str "take") (.cons (.str "keep") (.cons (.str "keep") (.cons (.str "leave") (.cons (.str "drop") .nil)))))))) .nil)))) (.cons (.ifs (.and (.cons (.cmp .Eq (.nm 2) (.str "keep")) (.cons (.cmp .In .non (.nm 3)) .nil))) (.cons (.set (.nm 2) (.str "leave")) .nil) .nil) (.cons (.ret (.tup (.cons (.nm 3) (.cons (.nm 4) (.cons (.nm 2) (.cons (.call 16 (.cons (.nm 0) (.cons (.nm 1) .nil))) .nil)))))) .nil)))))
def b__law_window : Cs := (.cons (.ret (.tup (.cons (.tup (.cons (.tup (.cons (.tup (.cons (.int 1) (.cons (.nm 0) .nil))) (.cons .non (.cons (.str "take") (.cons (.int 0) .nil))))) .nil)) .nil))) .nil)
def b__law_paired : Cs := (.cons (.par [4, 5] [(.v (.tup (.cons (.bin .Add (.nm 0) (.int 1)) (.cons (.nm 1) .nil)))), (.o (.disp .nil))]) (.cons (.fors (.nm 3) (.range1 (.nm 2)) (.cons (.own 6 (.disp (.cons (.tup (.cons (.tup (.cons (.int 1) (.cons (.nm 0) .nil))) (.cons .non (.cons (.str "take") (.cons (.int 0) .nil))))) .nil))) (.cons (.ifs (.cmp .Gt (.nm 3) (.int 0)) (.cons (.app 6 (.ite (.cmp .Eq (.nm 3) (.bin .Sub (.nm 2) (.int 1))) (.tup (.cons (.nm 4) (.cons (.tup (.cons (.int 1) (.cons (.int 1) .nil))) (.cons (.str "take") (.cons (.int 0) .nil))))) (.tup (.cons (.nm 4) (.cons (.tup (.cons (.int 1) (.cons (.int 1) .nil))) (.cons (.str "keep") (.cons (.bin .Add (.nm 3) (.int 1)) .nil))))))) .nil) .nil) (.cons (.app 5 (.bi .tuple (.cons (.frz (.cat (.pk 6) (.frz (.disp (.cons (.tup (.cons (.nm 4) (.cons .non (.cons (.str "keep") (.cons (.int 1) .nil))))) .nil))))) .nil))) .nil)))) (.cons (.ret (.bi .tuple (.cons (.pk 5) .nil))) .nil)))
def b__law_receiver : Cs := (.cons (.set (.nm 3) (.call 16 (.cons (.nm 0) (.cons (.int 8) .nil)))) (.cons (.ifs (.cmp .Eq (.nm 3) (.int 0)) (.cons (.ret (.call 20 (.cons (.bin .Add (.int 1) (.call 16 (.cons (.nm 0) (.cons (.int 6) .nil)))) .nil))) .nil) .nil) (.cons (.ifs (.and (.cons (.cmp .Eq (.nm 3) (.int 1)) (.cons (.cmp .Gt (.nm 1) (.int 1)) (.cons (.cmp .Gt (.nm 2) (.int 2)) .nil)))) (.cons (.set (.nm 7) (.bin .Add (.int 1) (.call 16 (.cons (.nm 0) (.cons (.int 5) .nil))))) (.cons (.ret (.call 21 (.cons (.nm 7) (.cons (.bin .Add (.bin .Add (.nm 7) (.int 1)) (.call 16 (.cons (.nm 0) (.cons (.bin .Sub (.int 6) (.nm 7)) .nil)))) (.cons (.bin .Add (.int 2) (.call 16 (.cons (.nm 0) (.cons (.bin .Sub (.nm 1) (.int 1)) .nil)))) .nil))))) .nil)) .nil) (.cons (.set (.nm 4) (.bin .Add (.int 1) (.call 16 (.cons (.nm 0) (.cons (.nm 1) .nil))))) (.cons (.own 5 (.disp .nil)) (.cons (.fors (.nm 6) (.range1 (.nm 4)) (.cons (.app 5 (.bi .tuple (.cons (.frz (.comp (.nm 8) (.range1 (.call 16 (.cons (.nm 0) (.cons (.bin .Add (.nm 2) (.int 1)) .nil)))) .nil (.call 19 (.cons (.nm 0) (.cons (.nm 4) .nil))) [8])) .nil))) .nil)) (.cons (.ret (.bi .tuple (.cons (.pk 5) .nil))) .nil)))))))
def b__law_lies : Cs := (.cons (.ret (.and (.cons (.or (.cons (.cmp .Is (.sub (.nm 1) (.int 0)) .non) (.cons (.cmp .GtE (.nm 0) (.sub (.nm 1) (.int 0))) .nil))) (.cons (.or (.cons (.cmp .Is (.sub (.nm 1) (.int 1)) .non) (.cons (.cmp .LtE (.nm 0) (.sub (.nm 1) (.int 1))) .nil))) .nil)))) .nil)
def b__law_counting : Cs := (.cons (.fors (.nm 3) (.range1 (.bi .len (.cons (.sub (.nm 0) (.sub (.nm 1) (.int 0))) .nil))) (.cons (.set (.tup (.cons (.nm 4) (.cons (.nm 5) .nil))) (.slice (.sub (.sub (.nm 0) (.sub (.nm 1) (.int 0))) (.nm 3)) .no (.so (.int 2)))) (.cons (.ifs (.val (.call 23 (.cons (.nm 2) (.cons (.nm 4) .nil)))) (.cons (.ifs (.or (.cons (.cmp .Is (.nm 5) .non) (.cons (.and (.cons (.cmp .Gt (.bi .len (.cons (.nm 1) .nil)) (.int 1)) (.cons (.val (.call 23 (.cons (.bin .Sub (.nm 2) (.sub (.nm 1) (.int 1))) (.cons (.nm 5) .nil)))) .nil))) .nil))) (.cons (.ret (.nm 3)) .nil) .nil) .nil) .nil) .nil))) (.cons (.ret .non) .nil))
def b__law_step : Cs := (.cons (.set (.nm 3) (.call 24 (.cons (.nm 0) (.cons (.nm 1) (.cons (.nm 2) .nil))))) (.cons (.ifs (.cmp .Is (.nm 3) .non) (.cons (.ret (.tup (.cons (.bl false) (.cons (.nm 1) .nil)))) .nil) .nil) (.cons (.set (.tup (.cons (.nm 4) (.cons (.nm 5) .nil))) (.slice (.sub (.sub (.nm 0) (.sub (.nm 1) (.int 0))) (.nm 3)) (.so (.int 2)) .no)) (.cons (.ifs (.cmp .Eq (.nm 4) (.str "keep")) (.cons (.ret (.tup (.cons (.bl false) (.cons (.tup (.cons (.nm 5) (.cons (.nm 2) .nil))) .nil)))) .nil) .nil) (.cons (.ret (.tup (.cons (.cmp .Eq (.nm 4) (.str "take")) (.cons (.bin .Add (.tup (.cons (.nm 5) .nil)) (.ite (.cmp .Eq (.nm 4) (.str "leave")) (.slice (.nm 1) (.so (.int 1)) .no) (.tup .nil))) .nil)))) .nil)))))
def b__law_rest : Cs := (.cons (.ret (.ite (.cmp .Is (.sub (.nm 0) (.int 2)) .non) (.tup (.cons (.sub (.nm 0) (.int 0)) .nil)) (.tup (.cons (.sub (.nm 0) (.int 0)) (.cons (.bin .Sub (.sub (.nm 0) (.int 2)) (.sub (.nm 0) (.int 1))) .nil))))) .nil)
def b__law_heard : Cs := (.cons (.set (.tup (.cons (.nm 4) (.cons (.nm 5) .nil))) (.call 25 (.cons (.nm 0) (.cons (.call 26 (.cons (.nm 1) .nil)) (.cons (.bin .Sub (.nm 2) (.sub (.nm 1) (.int 1))) .nil))))) (.cons (.set (.nm 3) (.ite (.val (.nm 4)) (.nm 2) (.sub (.nm 1) (.int 1)))) (.cons (.ret (.tup (.cons (.nm 4) (.cons (.tup (.cons (.sub (.nm 5) (.int 0)) (.cons (.nm 3) (.cons (.ite (.cmp .Eq (.bi .len (.cons (.nm 5) .nil)) (.int 1)) .non (.bin .Add (.nm 3) (.sub (.nm 5) (.int 1)))) .nil)))) .nil)))) .nil)))
def b__law_walk : Cs := (.cons (.par [4, 5] [(.v (.tup (.cons (.int 0) (.cons (.nm 1) (.cons .non .nil))))), (.o (.disp .nil))]) (.cons (.fors (.nm 3) (.seq (.nm 2)) (.cons (.set (.tup (.cons (.nm 6) (.cons (.nm 4) .nil))) (.call 27 (.cons (.nm 0) (.cons (.nm 4) (.cons (.nm 3) .nil))))) (.cons (.app 5 (.nm 6)) .nil))) (.cons (.ret (.tup (.cons (.bi .tuple (.cons (.pk 5) .nil)) (.cons (.nm 4) .nil)))) .nil)))
def b__law_numbers : Cs := (.cons (.par [5, 6] [(.v (.tup (.cons (.int 0) (.cons (.nm 2) (.cons .non .nil))))), (.o (.disp .nil))]) (.cons (.fors (.nm 4) (.range1 (.call 16 (.cons (.nm 0) (.cons (.bin .Add (.nm 3) (.int 1)) .nil)))) (.cons (.set (.nm 7) (.call 16 (.cons (.nm 0) (.cons (.int 9) .nil)))) (.cons (.ifs (.cmp .Eq (.nm 7) (.int 0)) (.cons (.set (.nm 8) (.bin .Add (.sub (.nm 5) (.int 1)) (.call 17 (.cons (.nm 0) (.cons (.frz (.disp (.cons (.un .USub (.bin .Pow (.int 10) (.int 20))) (.cons (.un .USub (.int 14)) (.cons (.un .USub (.int 13)) (.cons (.un .USub (.int 7)) (.cons (.int 7) (.cons (.int 13) (.cons (.int 14) (.cons (.bin .Pow (.int 10) (.int 20)) .nil)))))))))) .nil))))) .nil) (.cons (.ifs (.and (.cons (.cmp .Eq (.nm 7) (.int 1)) (.cons (.cmp .NotEq (.pk 6) (.frz (.disp .nil))) .nil))) (.cons (.set (.nm 8) (.sub (.pk 6) (.un .USub (.int 1)))) .nil) (.cons (.ifs (.and (.cons (.cmp .Lt (.nm 7) (.int 4)) (.cons (.cmp .IsNot (.sub (.nm 5) (.int 2)) .non) .nil))) (.cons (.set (.nm 8) (.bin .Sub (.bin .Add (.sub (.nm 5) (.int 2)) (.call 16 (.cons (.nm 0) (.cons (.int 5) .nil)))) (.int 1))) .nil) (.cons (.set (.nm 8) (.bin .Add (.sub (.nm 5) (.int 1)) (.ite (.cmp .Lt (.nm 7) (.int 6)) (.bin .Sub (.call 16 (.cons (.nm 0) (.cons (.int 15) .nil))) (.int 7)) (.bin .Add (.int 1) (.call 16 (.cons (.nm 0) (.cons (.int 7) .nil))))))) .nil)) .nil)) .nil)) (.cons (.app 6 (.nm 8)) (.cons (.set (.nm 5) (.sub (.call 27 (.cons (.nm 1) (.cons (.nm 5) (.cons (.nm 8) .nil)))) (.int 1))) .nil))))) (.cons (.ret (.bi .tuple (.cons (.pk 6) .nil))) .nil)))
def b__law_last : Cs := (.cons (.ret (.call 17 (.cons (.nm 0) (.cons (.frz (.disp (.cons (.int 0) (.cons (.int 0) (.cons (.int 7) (.cons (.un .USub (.int 3)) (.cons (.bin .Pow (.int 10) (.int 30)) (.cons (.un .USub (.bin .Pow (.int 10) (.int 30))) (.cons (.int 5) .nil))))))))) .nil)))) .nil)
def b__law_spots : Cs := (.cons (.own 1 (.disp .nil)) (.cons (.fors (.nm 2) (.seq (.nm 0)) (.cons (.ext 1 (.frz (.comp (.nm 6) (.range2 (.un .USub (.int 13)) (.int 14)) .nil (.bi .int (.cons (.bin .Add (.nm 2) (.nm 6)) .nil)) [6]))) .nil)) (.cons (.par [4, 5] [(.o (.disp .nil)), (.v .non)]) (.cons (.frz 1) (.cons (.fors (.nm 3) (.seq (.frz (.sorted (.frz (.comp (.nm 3) (.seq (.nm 1)) .nil (.bi .int (.cons (.nm 3) .nil)) [3]))))) (.cons (.ifs (.cmp .Is (.nm 5) .non) (.cons (.app 4 (.tup (.cons .non (.cons (.bin .Sub (.nm 3) (.int 1)) (.cons (.bin .Sub (.nm 3) (.int 1)) .nil))))) .nil) (.cons (.ifs (.cmp .Gt (.nm 3) (.bin .Add (.nm 5) (.int 1))) (.cons (.app 4 (.tup (.cons (.bin .Add (.nm 5) (.int 1)) (.cons (.bin .Sub (.nm 3) (.int 1)) (.cons (.bin .Add (.nm 5) (.int 1)) .nil))))) .nil) .nil) .nil)) (.cons (.ifs (.or (.cons (.cmp .Is (.nm 5) .non) (.cons (.cmp .Gt (.nm 3) (.nm 5)) .nil))) (.cons (.app 4 (.tup (.cons (.nm 3) (.cons (.nm 3) (.cons (.nm 3) .nil))))) (.cons (.set (.nm 5) (.nm 3)) .nil)) .nil) .nil))) (.cons (.ret (.frz (.cat (.pk 4) (.frz (.disp (.cons (.tup (.cons (.ite (.cmp .Is (.nm 5) .non) .non (.bin .Add (.nm 5) (.int 1))) (.cons .non (.cons (.ite (.cmp .Is (.nm 5) .non) (.int 0) (.bin .Add (.nm 5) (.int 1))) .nil)))) .nil)))))) .nil))))))
def b__law_log_fits : Cs := (.cons (.ret (.cmp .Eq (.sub (.call 28 (.cons (.nm 0) (.cons (.nm 2) (.cons (.frz (.comp (.nm 3) (.seq (.nm 1)) .nil (.sub (.nm 3) (.int 0)) [3])) .nil)))) (.int 0)) (.bi .tuple (.cons (.frz (.comp (.nm 3) (.seq (.nm 1)) .nil (.sub (.nm 3) (.int 1)) [3])) .nil)))) .nil)
def b__law_log : Cs := (.cons (.set (.nm 3) (.call 30 (.cons (.nm 0) .nil))) (.cons (.set (.nm 4) (.call 29 (.cons (.nm 0) (.cons (.nm 1) (.cons (.nm 3) (.cons (.nm 2) .nil)))))) (.cons (.own 5 (.listz (.nm 4) (.sub (.call 28 (.cons (.nm 1) (.cons (.nm 3) (.cons (.nm 4) .nil)))) (.int 0)))) (.cons (.fors (.nm 6) (.range1 (.bin .Mult (.bi .int (.cons (.cmp .NotEq (.pk 5) (.frz (.disp .nil))) .nil)) (.bi .int (.cons (.cmp .Eq (.call 16 (.cons (.nm 0) (.cons (.int 4) .nil))) (.int 0)) .nil)))) (.cons (.set (.nm 7) (.call 16 (.cons (.nm 0) (.cons (.bi .len (.cons (.pk 5) .nil)) .nil)))) (.cons (.store 5 (.nm 7) (.call 17 (.cons (.nm 0) (.cons (.frz (.disp (.cons (.tup (.cons (.sub (.sub (.pk 5) (.nm 7)) (.int 0)) (.cons (.not (.sub (.sub (.pk 5) (.nm 7)) (.int 1))) .nil))) (.cons (.tup (.cons (.bin .Add (.sub (.sub (.pk 5) (.nm 7)) (.int 0)) (.int 1)) (.cons (.sub (.sub (.pk 5) (.nm 7)) (.int 1)) .nil))) .nil)))) .nil)))) .nil))) (.cons (.ret (.bi .tuple (.cons (.pk 5) .nil))) .nil)))))
def b__law_due : Cs := (.cons (.par [3, 4] [(.v (.frz (.comp (.nm 8) (.seq (.nm 1)) .nil (.sub (.nm 8) (.int 0)) [8]))), (.o (.disp .nil))]) (.cons (.fors (.tup (.cons (.nm 5) (.cons (.nm 6) (.cons (.nm 7) .nil)))) (.seq (.call 31 (.cons (.frz (.cat (.nm 3) (.frz (.disp (.cons (.nm 2) .nil))))) .nil))) (.cons (.ifs (.val (.call 32 (.cons (.nm 0) (.cons (.nm 1) (.cons (.nm 7) .nil))))) (.cons (.app 4 (.sub (.call 27 (.cons (.nm 0) (.cons (.sub (.call 28 (.cons (.nm 0) (.cons (.nm 7) (.cons (.nm 3) .nil)))) (.int 1)) (.cons (.nm 2) .nil)))) (.int 0))) .nil) .nil) .nil)) (.cons (.ifs (.cmp .Eq (.pk 4) (.frz (.disp .nil))) (.cons (.ret (.str "no fit")) .nil) .nil) (.cons (.ret (.ite (.or (.cons (.cmp .NotIn (.bl true) (.pk 4)) (.cons (.cmp .NotIn (.bl false) (.pk 4)) .nil))) (.sub (.pk 4) (.int 0)) .non)) .nil))))
def b__law_told : Cs := (.cons (.trym (.cons (.xcl .ret 14 (.cons (.nm 0) (.cons (.nm 1) (.cons (.nm 2) .nil)))) .nil) [⟨3, true, "NoFit", [("NoFit", true)], (.one (.isT "PostError" "no fit" "other"))⟩]) .nil)
def b_law : Cs := (.cons (.set (.nm 1) (.call 15 (.cons (.nm 0) .nil))) (.cons (.fors (.nm 2) (.range1 (.int 4)) (.cons (.set (.nm 3) (.call 22 (.cons (.nm 1) (.cons (.int 3) (.cons (.int 4) .nil))))) (.cons (.set (.nm 4) (.call 33 (.cons (.nm 1) (.cons (.nm 3) (.cons (.ite (.cmp .Gt (.nm 2) (.int 0)) (.int 6) (.int 40)) .nil))))) (.cons (.set (.nm 5) (.ite (.cmp .NotEq (.nm 4) (.tup .nil)) (.sub (.sub (.nm 4) (.un .USub (.int 1))) (.int 0)) (.int 0))) (.cons (.set (.nm 6) (.frz (.disp (.cons (.bin .Add (.bin .Add (.nm 5) (.int 1)) (.call 16 (.cons (.nm 1) (.cons (.int 7) .nil)))) (.cons (.bin .Sub (.bin .Add (.nm 5) (.call 16 (.cons (.nm 1) (.cons (.int 13) .nil)))) (.int 6)) (.cons (.bin .Add (.nm 5) (.int 14)) .nil)))))) (.cons (.fors (.nm 7) (.seq (.frz (.cat (.nm 6) (.frz (.disp (.cons (.call 30 (.cons (.nm 1) .nil)) .nil)))))) (.cons (.fors (.nm 8) (.seq (.frz (.disp (.cons (.nm 4) (.cons (.slice (.nm 4) .no (.so (.int 1))) .nil))))) (.cons (.ifs (.cmp .NotEq (.bi .repr (.cons (.call 35 (.cons (.nm 3) (.cons (.nm 8) (.cons (.nm 7) .nil)))) .nil)) (.bi .repr (.cons (.call 34 (.cons (.nm 3) (.cons (.nm 8) (.cons (.nm 7) .nil)))) .nil))) (.cons (.ret (.bl false)) .nil) .nil) .nil)) .nil)) .nil)))))) (.cons (.ret (.bl true)) .nil)))
def e_merged : Ent := ⟨⟨"merged", 5, 2, b_merged⟩, ["one", "other", "found", "left", "right"], ["one", "other"], top 5, none, none, "merged"⟩
def e_in_order : Ent := ⟨⟨"in_order", 7, 1, b_in_order⟩, ["rows", "parts", "half", "rest", "row", "one", "other"], ["rows"], top 6, none, none, "in_order"⟩
def e_rest_of : Ent := ⟨⟨"rest_of", 4, 1, b_rest_of⟩, ["stand", "state", "last", "kept"], ["stand"], top 8, none, none, "rest_of"⟩
def e_lies_in : Ent := ⟨⟨"lies_in", 4, 2, b_lies_in⟩, ["number", "own", "low", "high"], ["number", "own"], top 9, none, none, "lies_in"⟩
def e_counting_row : Ent := ⟨⟨"counting_row", 9, 3, b_counting_row⟩, ["receiver", "rest", "step", "index", "row", "ahead", "after", "deed", "behind"], ["receiver", "rest", "step"], top 10, none, none, "counting_row"⟩
def e_step_from : Ent := ⟨⟨"step_from", 6, 3, b_step_from⟩, ["receiver", "rest", "step", "index", "deed", "behind"], ["receiver", "rest", "step"], top 11, none, none, "step_from"⟩
def e_hear : Ent := ⟨⟨"hear", 6, 3, b_hear⟩, ["receiver", "stand", "number", "last", "taken", "rest"], ["receiver", "stand", "number"], top 13, none, none, "hear"⟩
def e_beginning : Ent := ⟨⟨"beginning", 1, 1, b_beginning⟩, ["last"], ["last"], top 14, none, none, "beginning"⟩
def e_walked : Ent := ⟨⟨"walked", 7, 3, b_walked⟩, ["receiver", "numbers", "last", "stand", "found", "number", "taken"], ["receiver", "numbers", "last"], top 15, none, none, "walked"⟩
def e_answers : Ent := ⟨⟨"answers", 3, 3, b_answers⟩, ["receiver", "numbers", "last"], ["receiver", "numbers", "last"], top 16, (some ("last", (.int 0))), none, "answers"⟩
def e_stretches : Ent := ⟨⟨"stretches", 8, 1, b_stretches⟩, ["log", "marks", "found", "low", "mark", "number", "taken", "far"], ["log"], top 18, none, none, "stretches"⟩
def e_one_of : Ent := ⟨⟨"one_of", 3, 1, b_one_of⟩, ["stretch", "low", "high"], ["stretch"], top 19, none, none, "one_of"⟩
def e_joined : Ent := ⟨⟨"joined", 4, 1, b_joined⟩, ["found", "rows", "low", "high"], ["found"], top 20, none, none, "joined"⟩
def e_fits : Ent := ⟨⟨"fits", 6, 2, b_fits⟩, ["receiver", "log", "numbers", "told", "pair", "own"], ["receiver", "log"], top 21, none, none, "fits"⟩
def e_sure_of : Ent := ⟨⟨"sure_of", 6, 3, b_sure_of⟩, ["receiver", "log", "number", "may", "may_not", "taken"], ["receiver", "log", "number"], top 22, none, none, "sure_of"⟩
def e__law_spring : Ent := ⟨⟨"_law_spring", 5, 1, b__law_spring⟩, ["_law_script", "_law_cell", "_law_great", "_law_mixed", "_law_more"], ["_law_script"], top 24, none, none, "_law_spring"⟩
def e__law_dip : Ent := ⟨⟨"_law_dip", 4, 2, b__law_dip⟩, ["_law_spring_here", "_law_many", "_law_more", "_law_digit"], ["_law_spring_here", "_law_many"], top 25, none, none, "_law_dip"⟩
def e__law_pick : Ent := ⟨⟨"_law_pick", 2, 2, b__law_pick⟩, ["_law_spring_here", "_law_some"], ["_law_spring_here", "_law_some"], top 26, none, none, "_law_pick"⟩
def e__law_range : Ent := ⟨⟨"_law_range", 3, 1, b__law_range⟩, ["_law_spring_here", "_law_way", "_law_low"], ["_law_spring_here"], top 27, none, none, "_law_range"⟩
def e__law_row : Ent := ⟨⟨"_law_row", 5, 2, b__law_row⟩, ["_law_spring_here", "_law_many", "_law_deed", "_law_ahead", "_law_after"], ["_law_spring_here", "_law_many"], top 28, none, none, "_law_row"⟩
def e__law_window : Ent := ⟨⟨"_law_window", 1, 1, b__law_window⟩, ["_law_size"], ["_law_size"], top 29, none, none, "_law_window"⟩
def e__law_paired : Ent := ⟨⟨"_law_paired", 7, 3, b__law_paired⟩, ["_law_size", "_law_wide", "_law_times", "_law_k", "_law_zone", "_law_found", "_law_rows"], ["_law_size", "_law_wide", "_law_times"], top 30, none, none, "_law_paired"⟩
def e__law_receiver : Ent := ⟨⟨"_law_receiver", 9, 3, b__law_receiver⟩, ["_law_spring_here", "_law_states", "_law_rows", "_law_way", "_law_many", "_law_found", "_law_state", "_law_size", "_law_k"], ["_law_spring_here", "_law_states", "_law_rows"], top 31, none, none, "_law_receiver"⟩
def e__law_lies : Ent := ⟨⟨"_law_lies", 2, 2, b__law_lies⟩, ["_law_number", "_law_own"], ["_law_number", "_law_own"], top 32, none, none, "_law_lies"⟩
def e__law_counting : Ent := ⟨⟨"_law_counting", 6, 3, b__law_counting⟩, ["_law_receiver_here", "_law_rest_here", "_law_step_here", "_law_k", "_law_ahead", "_law_after"], ["_law_receiver_here", "_law_rest_here", "_law_step_here"], top 33, none, none, "_law_counting"⟩
def e__law_step : Ent := ⟨⟨"_law_step", 6, 3, b__law_step⟩, ["_law_receiver_here", "_law_rest_here", "_law_step_here", "_law_k", "_law_deed", "_law_behind"], ["_law_receiver_here", "_law_rest_here", "_law_step_here"], top 34, none, none, "_law_step"⟩
def e__law_rest : Ent := ⟨⟨"_law_rest", 1, 1, b__law_rest⟩, ["_law_stand"], ["_law_stand"], top 35, none, none, "_law_rest"⟩
def e__law_heard : Ent := ⟨⟨"_law_heard", 6, 3, b__law_heard⟩, ["_law_receiver_here", "_law_stand", "_law_number", "_law_origin", "_law_taken", "_law_rest_here"], ["_law_receiver_here", "_law_stand", "_law_number"], top 36, none, none, "_law_heard"⟩
def e__law_walk : Ent := ⟨⟨"_law_walk", 7, 3, b__law_walk⟩, ["_law_receiver_here", "_law_origin", "_law_numbers_here", "_law_number", "_law_stand", "_law_found", "_law_taken"], ["_law_receiver_here", "_law_origin", "_law_numbers_here"], top 37, none, none, "_law_walk"⟩
def e__law_numbers : Ent := ⟨⟨"_law_numbers", 9, 4, b__law_numbers⟩, ["_law_spring_here", "_law_receiver_here", "_law_origin", "_law_many", "_law_k", "_law_stand", "_law_found", "_law_way", "_law_number"], ["_law_spring_here", "_law_receiver_here", "_law_origin", "_law_many"], top 38, none, none, "_law_numbers"⟩
def e__law_last : Ent := ⟨⟨"_law_last", 1, 1, b__law_last⟩, ["_law_spring_here"], ["_law_spring_here"], top 39, none, none, "_law_last"⟩
def e__law_spots : Ent := ⟨⟨"_law_spots", 7, 1, b__law_spots⟩, ["_law_numbers_here", "_law_points", "_law_number", "_law_point", "_law_found", "_law_ahead", "_law_far"], ["_law_numbers_here"], top 40, none, none, "_law_spots"⟩
def e__law_log_fits : Ent := ⟨⟨"_law_log_fits", 4, 3, b__law_log_fits⟩, ["_law_receiver_here", "_law_log_here", "_law_origin", "_law_pair"], ["_law_receiver_here", "_law_log_here", "_law_origin"], top 41, none, none, "_law_log_fits"⟩
def e__law_log : Ent := ⟨⟨"_law_log", 8, 3, b__law_log⟩, ["_law_spring_here", "_law_receiver_here", "_law_many", "_law_origin", "_law_numbers_here", "_law_log_here", "_law_k", "_law_at"], ["_law_spring_here", "_law_receiver_here", "_law_many"], top 42, none, none, "_law_log"⟩
def e__law_due : Ent := ⟨⟨"_law_due", 9, 3, b__law_due⟩, ["_law_receiver_here", "_law_log_here", "_law_number", "_law_numbers_here", "_law_found", "_law_low", "_law_high", "_law_origin", "_law_pair"], ["_law_receiver_here", "_law_log_here", "_law_number"], top 43, none, none, "_law_due"⟩
def e__law_told : Ent := ⟨⟨"_law_told", 4, 3, b__law_told⟩, ["_law_receiver_here", "_law_log_here", "_law_number", "error"], ["_law_receiver_here", "_law_log_here", "_law_number"], top 44, none, none, "_law_told"⟩
def e_law : Ent := ⟨⟨"law", 9, 1, b_law⟩, ["_law_script", "_law_spring_here", "_law_turn", "_law_receiver_here", "_law_log_here", "_law_ahead", "_law_numbers_here", "_law_number", "_law_some"], ["_law_script"], top 45, none, none, "law"⟩
def tb : List Ent := [e_merged, e_in_order, e_rest_of, e_lies_in, e_counting_row, e_step_from, e_hear, e_beginning, e_walked, e_answers, e_stretches, e_one_of, e_joined, e_fits, e_sure_of, e__law_spring, e__law_dip, e__law_pick, e__law_range, e__law_row, e__law_window, e__law_paired, e__law_receiver, e__law_lies, e__law_counting, e__law_step, e__law_rest, e__law_heard, e__law_walk, e__law_numbers, e__law_last, e__law_spots, e__law_log_fits, e__law_log, e__law_due, e__law_told, e_law]
def tc : List CEnt := []
def tx : XT := ⟨[], [("NoFit", "PostError", true), ("NoFit", "NoFit", true)], ["NoFit"]⟩
def gs : List (Str × D) := [("MAX_BOUND", (.int 6))]
def bn : List Str := ["abs", "enumerate", "int", "isinstance", "len", "list", "range", "repr", "sorted", "tuple", "zip"]
def pg : Pg := ⟨tb.map (·.fn), gs.map (·.1), gs.map (·.2), bn, 100000, kwOf tb, msOf tb, (tc.map fun e => (e.cn, e.ns)), (tx.es.map fun e => (e.cn, e.f)), tx.xm, tx.e0⟩
theorem chk : (tb.all fun e => chkFn pg e.fn e.N e.ps e.st) = true := by decide +kernel
theorem bal : BAll tb := ⟨fun _ _ _ _ _ _ us hl => (match us, hl with | [_, _], _ => rfl), ⟨fun _ _ _ _ _ _ us hl => (match us, hl with | [_], _ => rfl), ⟨fun _ _ _ _ _ _ us hl => (match us, hl with | [_], _ => rfl), ⟨fun _ _ _ _ _ _ us hl => (match us, hl with | [_, _], _ => rfl), ⟨fun _ _ _ _ _ _ us hl => (match us, hl with | [_, _, _], _ => rfl), ⟨fun _ _ _ _ _ _ us hl => (match us, hl with | [_, _, _], _ => rfl), ⟨fun _ _ _ _ _ _ us hl => (match us, hl with | [_, _, _], _ => rfl), ⟨fun _ _ _ _ _ _ us hl => (match us, hl with | [_], _ => rfl), ⟨fun _ _ _ _ _ _ us hl => (match us, hl with | [_, _, _], _ => rfl), ⟨⟨rfl, by decide, fun _ _ _ _ _ _ us u hl => (match us, hl with | [_, _], _ => ⟨_, _, _, _, _, _, rfl, rfl, rfl⟩), fun _ _ _ _ _ _ us u hl => (match us, hl with | [_, _], _ => rfl)⟩, ⟨fun _ _ _ _ _ _ us hl => (match us, hl with | [_], _ => rfl), ⟨fun _ _ _ _ _ _ us hl => (match us, hl with | [_], _ => rfl), ⟨fun _ _ _ _ _ _ us hl => (match us, hl with | [_], _ => rfl), ⟨fun _ _ _ _ _ _ us hl => (match us, hl with | [_, _], _ => rfl), ⟨fun _ _ _ _ _ _ us hl => (match us, hl with | [_, _, _], _ => rfl), ⟨fun _ _ _ _ _ _ us hl => (match us, hl with | [_], _ => rfl), ⟨fun _ _ _ _ _ _ us hl => (match us, hl with | [_, _], _ => rfl), ⟨fun _ _ _ _ _ _ us hl => (match us, hl with | [_, _], _ => rfl), ⟨fun _ _ _ _ _ _ us hl => (match us, hl with | [_], _ => rfl), ⟨fun _ _ _ _ _ _ us hl => (match us, hl with | [_, _], _ => rfl), ⟨fun _ _ _ _ _ _ us hl => (match us, hl with | [_], _ => rfl), ⟨fun _ _ _ _ _ _ us hl => (match us, hl with | [_, _, _], _ => rfl), ⟨fun _ _ _ _ _ _ us hl => (match us, hl with | [_, _, _], _ => rfl), ⟨fun _ _ _ _ _ _ us hl => (match us, hl with | [_, _], _ => rfl), ⟨fun _ _ _ _ _ _ us hl => (match us, hl with | [_, _, _], _ => rfl), ⟨fun _ _ _ _ _ _ us hl => (match us, hl with | [_, _, _], _ => rfl), ⟨fun _ _ _ _ _ _ us hl => (match us, hl with | [_], _ => rfl), ⟨fun _ _ _ _ _ _ us hl => (match us, hl with | [_, _, _], _ => rfl), ⟨fun _ _ _ _ _ _ us hl => (match us, hl with | [_, _, _], _ => rfl), ⟨fun _ _ _ _ _ _ us hl => (match us, hl with | [_, _, _, _], _ => rfl), ⟨fun _ _ _ _ _ _ us hl => (match us, hl with | [_], _ => rfl), ⟨fun _ _ _ _ _ _ us hl => (match us, hl with | [_], _ => rfl), ⟨fun _ _ _ _ _ _ us hl => (match us, hl with | [_, _, _], _ => rfl), ⟨fun _ _ _ _ _ _ us hl => (match us, hl with | [_, _, _], _ => rfl), ⟨fun _ _ _ _ _ _ us hl => (match us, hl with | [_, _, _], _ => rfl), ⟨fun _ _ _ _ _ _ us hl => (match us, hl with | [_, _, _], _ => rfl), ⟨fun _ _ _ _ _ _ us hl => (match us, hl with | [_], _ => rfl), trivial⟩⟩⟩⟩⟩⟩⟩⟩⟩⟩⟩⟩⟩⟩⟩⟩⟩⟩⟩⟩⟩⟩⟩⟩⟩⟩⟩⟩⟩⟩⟩⟩⟩⟩⟩⟩⟩
theorem cbal : CBAll tc := trivial
theorem xbal : XBAll tx.es := trivial

abbrev row : PySem.W.OpenRow := PySem.W.OpenLaw.row PySem.Challenge.rw_lateposts_k46_what_a_log_makes_sure
abbrev hk : PySem.W.Hook := hookT 4 gs tc tx (facts tb bn) (defs tb tc tx)
def ob (s : PySem.W.SharedT) : ObT := obsTG 4 gs tc tx (facts tb bn) (defs tb tc tx) (HandSHeadRun.getT s)
theorem ob_eq (s : PySem.W.SharedT) : ob s = hk.obs s.abs := obsTG_eq (HandSHeadRun.getT_eq s)
def loose : List Str := [("MAX_BOUND" : Str), ("__name__" : Str), ("PostError" : Str), ("NoFit" : Str), ("merged" : Str), ("in_order" : Str), ("rest_of" : Str), ("lies_in" : Str), ("counting_row" : Str), ("step_from" : Str), ("hear" : Str), ("beginning" : Str), ("walked" : Str), ("answers" : Str), ("stretches" : Str), ("one_of" : Str), ("joined" : Str), ("fits" : Str), ("sure_of" : Str), ("_law_spring" : Str), ("_law_dip" : Str), ("_law_pick" : Str), ("_law_range" : Str), ("_law_row" : Str), ("_law_window" : Str), ("_law_paired" : Str), ("_law_receiver" : Str), ("_law_lies" : Str), ("_law_counting" : Str), ("_law_step" : Str), ("_law_rest" : Str), ("_law_heard" : Str), ("_law_walk" : Str), ("_law_numbers" : Str), ("_law_last" : Str), ("_law_spots" : Str), ("_law_log_fits" : Str), ("_law_log" : Str), ("_law_due" : Str), ("_law_told" : Str)]
theorem run (w : World) : HandSHeadRun.RunEq row (PySem.W.view row.prog [45]) hk ob 3000 loose w := by
  intro os
  kernel_rfl
theorem holds_of (law : ∀ ns : List Int, ns.length ≤ 63 → (∀ z ∈ ns, Builtin.Int.intBits z ≤ 1048576) → ∃ s', callN pg 40 36 [.scr ns] [] = .ok (.bl true) s') : PySem.Challenge.rw_lateposts_k46_what_a_log_makes_sure.Holds := by
  open PySem.W PySem.Calls PyProof.Rows in
  w_on; o_law
  refine HandSHeadRun.head_any (r := row) (q := PySem.W.view row.prog [45]) (H := hk) (ob := ob) (M := 3000) (loose := loose) (d := HandSHeadRun.topDef row.prog 45) (kwd := []) ob_eq
    (by kernel_rfl) (fun s => by kernel_rfl) run (by kernel_rfl) (by kernel_rfl) (by kernel_rfl) (by rfl) (by first | assumption | decide +kernel) (by decide +kernel) ⟨rfl, rfl, rfl, rfl, rfl, by decide +kernel⟩ ?hw ?hc
  case hw => w_witness2
  case hc =>
    exact walk_G (l := PySem.Challenge.rw_lateposts_k46_what_a_log_makes_sure) (n := 63) (k := 40) (pg := pg) (f := 36) rfl (by decide) (by kernel_rfl) ⟨rfl, by decide, by decide⟩ rfl rfl rfl (by kernel_rfl)
      (fun w mg h Y G => by
        obtain ⟨K, X, c⟩ := Y
        exact ⟨K, X, pgOk_of X G c rfl rfl rfl rfl rfl rfl rfl rfl rfl (by decide +kernel) xbal (by decide +kernel) cbal (by decide +kernel) chk bal⟩) law
end K46
namespace Fw
open PySem
/-! ## R. what an evaluation brings -/
def R.wp {α : Type} (r : R α) (Q : α → S → Prop) : Prop := match r with
  | .ok a s => Q a s
  | .exn _ _ => False
  | .no => False
theorem wp_ok {α : Type} (a : α) (s : S) (Q : α → S → Prop) : (R.ok a s).wp Q ↔ Q a s := Iff.rfl
theorem wp_bind {α β : Type} (r : R α) (f : α → S → R β) (Q : β → S → Prop) : (r.bind f).wp Q ↔ r.wp fun a s => (f a s).wp Q := by cases r <;> rfl
theorem wp_lift {α : Type} (o : Option α) (s : S) (Q : α → S → Prop) : (lift o s).wp Q ↔ ∃ a, o = some a ∧ Q a s := by cases o <;> simp [lift, R.wp]
theorem R.wp.mono {α : Type} {r : R α} {Q Q' : α → S → Prop} (h : r.wp Q) (w : ∀ a s, Q a s → Q' a s) : r.wp Q' := by cases r with
  | ok a s => exact w a s h
  | exn _ _ => exact h
  | no => exact h
theorem R.wp.ex {α : Type} {r : R α} {Q : α → S → Prop} (h : r.wp Q) : ∃ a s, r = .ok a s ∧ Q a s := by cases r with
  | ok a s => exact ⟨a, s, rfl, h⟩
  | exn _ _ => exact h.elim
  | no => exact h.elim
theorem wp_stop {α : Type} (r : R α) (Q : α → S → Prop) : r.stop.wp Q ↔ r.wp Q := by cases r <;> rfl
theorem callN_wp {pg : Pg} {k f : Nat} {fi : Fn} {ds : List D} {s : S} {Q : D → S → Prop} (hf : pg.fns[f]? = some fi) (hl : ds.length = fi.np)
    (h : (evCs pg.gl (callN pg k) pg.W fi.body (startE fi.nn ds) s).wp fun fl s => (outF fl s).wp Q) : (callN pg (k + 1) f ds s).wp Q := by
  unfold callN
  rw [hf]
  simp only [hl, if_true]
  rw [wp_bind, wp_stop]
  exact h
/-- a loop: I at the rest of the items -/
theorem forL_wp {put : D → Env → Option Env} {body : Env → S → R Fl} (I : List D → Env → S → Prop) {Q : Fl → S → Prop} (step : ∀ d ds env s, I (d :: ds) env s → ∃ env1, put d env = some env1 ∧ (body env1 s).wp fun f s => match f with
      | .next env => I ds env s
      | .cont env => I ds env s
      | .brk env => Q (.next env) s
      | .ret x => Q (.ret x) s
      | .exn x env => Q (.exn x env) s)
    (last : ∀ env s, I [] env s → Q (.next env) s) : ∀ (items : List D) (env : Env) (s : S), I items env s → (forL put body items env s).wp Q
  | [], env, s, h => last env s h
  | d :: ds, env, s, h => by
    obtain ⟨env1, h1, h2⟩ := step d ds env s h
    unfold forL
    rw [h1]
    show ((body env1 s).bind _).wp Q
    rw [wp_bind]
    refine h2.mono fun f s hf => ?_
    cases f with
    | next env => exact forL_wp I step last ds env s hf
    | cont env => exact forL_wp I step last ds env s hf
    | brk env => exact hf
    | ret x => exact hf
    | exn x env => exact hf
theorem compL_wp {put : D → Option Env} {t : Env → S → R Bool} {e : Env → S → R D} (I : List D → S → Prop) (P : D → Prop) {Q : List D → S → Prop} (hs : ∀ d ds s, I (d :: ds) s → ∃ env1, put d = some env1 ∧ (t env1 s).wp fun b s => if b then (e env1 s).wp fun x s => P x ∧ I ds s else I ds s)
    : ∀ (items : List D) (s : S), I items s → (∀ xs s, I [] s → xs.length ≤ items.length → (∀ x ∈ xs, P x) → Q xs s) → (compL put t e items s).wp Q
  | [], s, h, hq => hq [] s h (Nat.le_refl _) (fun _ z => by cases z)
  | d :: ds, s, h, hq => by
    obtain ⟨env1, h1, h2⟩ := hs d ds s h
    unfold compL
    rw [h1]
    show ((t env1 s).bind _).wp Q
    rw [wp_bind]
    refine h2.mono fun b s hb => ?_
    cases b with
    | true =>
      simp only [if_true] at hb ⊢
      rw [wp_bind]
      refine hb.mono fun x s ⟨hx, hi⟩ => ?_
      rw [wp_bind]
      refine compL_wp I P hs ds s hi fun xs s hi hl hp => hq (x :: xs) s hi (by simp; omega) fun y hy => ?_
      rcases List.mem_cons.mp hy with rfl | hy
      · exact hx
      · exact hp y hy
    | false =>
      simp only [Bool.false_eq_true, if_false] at hb ⊢
      exact compL_wp I P hs ds s hb fun xs s hi hl hp => hq xs s hi (by simp; omega) hp
inductive All2 {α β : Type} (P : α → β → Prop) : List α → List β → Prop
  | nil : All2 P [] []
  | cons {a b as bs} : P a b → All2 P as bs → All2 P (a :: as) (b :: bs)
/-! rules, one a construct -/
structure Ps where
  nx : Env → S → Prop
  rt : D → S → Prop
  bk : Env → S → Prop := fun _ _ => False
  ct : Env → S → Prop := fun _ _ => False
def Fl.to (p : Ps) : Fl → S → Prop
  | .next env, s => p.nx env s
  | .ret d, s => p.rt d s
  | .brk env, s => p.bk env s
  | .cont env, s => p.ct env s
  | .exn _ _, _ => False
def R.wc (r : R Fl) (p : Ps) : Prop := r.wp fun f s => f.to p s
section
variable {gl : List D} {call : Nat → List D → S → R D} {W : Nat} {env : Env} {s : S} {Q : D → S → Prop} {p : Ps}
theorem e_nm {i : Nat} (h : ∃ d, getV env i = some d ∧ Q d s) : (evE gl call (.nm i) env s).wp Q := by simp only [evE, wp_lift]; exact h
theorem e_pk {i : Nat} (h : ∃ d, getW env i = some d ∧ Q d s) : (evE gl call (.pk i) env s).wp Q := by simp only [evE, wp_lift]; exact h
theorem e_int {n : Int} (h : Q (.int n) s) : (evE gl call (.int n) env s).wp Q := by simp only [evE]; exact h
theorem e_bl {n : Bool} (h : Q (.bl n) s) : (evE gl call (.bl n) env s).wp Q := by simp only [evE]; exact h
theorem e_non (h : Q .non s) : (evE gl call .non env s).wp Q := by simp only [evE]; exact h
theorem e_str {x : Str} (h : Q (.str x) s) : (evE gl call (.str x) env s).wp Q := by simp only [evE]; exact h
theorem e_glob {j : Nat} (h : ∃ d, gl[j]? = some d ∧ Q d s) : (evE gl call (.glob j) env s).wp Q := by simp only [evE, wp_lift]; exact h
theorem e_tup {es : Es} (h : (evEs gl call es env s).wp fun ds s => Q (.tup ds) s) : (evE gl call (.tup es) env s).wp Q := by simp only [evE, wp_bind]; exact h
theorem e_dict0 (h : Q (.dct false [] []) s) : (evE gl call .dict0 env s).wp Q := by simp only [evE]; exact h
theorem e_frz {f : F} (h : (evF gl call f env s).wp fun ds s => Q (.lst ds) s) : (evE gl call (.frz f) env s).wp Q := by simp only [evE, wp_bind]; exact h
theorem e_shr {f : F} (h : (evF gl call f env s).wp fun ds s => Q (.ref s.length) (s ++ [.lst ds])) : (evE gl call (.shr f) env s).wp Q := by simp only [evE, wp_bind]; exact h
theorem e_bin {o : Operator} {a b : E} (h : (evE gl call a env s).wp fun x s => (evE gl call b env s).wp fun y s => ∃ d, binop o x y = some d ∧ Q d s) : (evE gl call (.bin o a b) env s).wp Q := by simp only [evE, wp_bind, wp_lift]; exact h
theorem e_un {o : UnaryOp} {a : E} (h : (evE gl call a env s).wp fun x s => ∃ d, unop o x = some d ∧ Q d s) : (evE gl call (.un o a) env s).wp Q := by simp only [evE, wp_bind, wp_lift]; exact h
theorem lift_bl {o : Option Bool} (h : ∃ b, o = some b ∧ Q (.bl b) s) : (lift (o.map D.bl) s).wp Q := by obtain ⟨b, rfl, h⟩ := h; exact h
theorem e_cmp {o : CmpOp} {a b : E} (h : (evE gl call a env s).wp fun x s => (evE gl call b env s).wp fun y s => ∃ k, cmpop o x y = some k ∧ Q (.bl k) s) : (evE gl call (.cmp o a b) env s).wp Q := by
  simp only [evE, wp_bind]; exact h.mono fun x s h => h.mono fun y s h => lift_bl h
theorem e_chain {o o' : CmpOp} {a b c : E} (h : (evE gl call a env s).wp fun x s => (evE gl call b env s).wp fun y s => ∃ k, cmpop o x y = some k ∧ (k = true → (evE gl call c env s).wp fun z s => ∃ k, cmpop o' y z = some k ∧ Q (.bl k) s) ∧ (k = false → Q (.bl false) s)) : (evE gl call (.chain o o' a b c) env s).wp Q := by
  simp only [evE, wp_bind, wp_lift]
  refine h.mono fun x s h => h.mono fun y s ⟨k, h1, h2, h3⟩ => ⟨k, h1, ?_⟩
  cases k with
  | true => simp only [if_true, wp_bind]; exact (h2 rfl).mono fun z s h => lift_bl h
  | false => exact h3 rfl
theorem e_and1 {e : E} (h : (evE gl call e env s).wp Q) : (evE gl call (.and (.cons e .nil)) env s).wp Q := by simp only [evE, evAnd]; exact h
theorem e_and {e e2 : E} {es : Es} (h : (evE gl call e env s).wp fun x s => ∃ b, x = .bl b ∧ (b = true → (evE gl call (.and (.cons e2 es)) env s).wp Q) ∧ (b = false → Q (.bl false) s)) : (evE gl call (.and (.cons e (.cons e2 es))) env s).wp Q := by
  simp only [evE, evAnd, wp_bind] at h ⊢
  refine h.mono fun x s ⟨b, e, h1, h2⟩ => ?_
  subst e
  cases b with
  | true => exact h1 rfl
  | false => exact h2 rfl
theorem e_or1 {e : E} (h : (evE gl call e env s).wp Q) : (evE gl call (.or (.cons e .nil)) env s).wp Q := by simp only [evE, evOr]; exact h
theorem e_or {e e2 : E} {es : Es} (h : (evE gl call e env s).wp fun x s => ∃ b, x = .bl b ∧ (b = false → (evE gl call (.or (.cons e2 es)) env s).wp Q) ∧ (b = true → Q (.bl true) s)) : (evE gl call (.or (.cons e (.cons e2 es))) env s).wp Q := by
  simp only [evE, evOr, wp_bind] at h ⊢
  refine h.mono fun x s ⟨b, e, h1, h2⟩ => ?_
  subst e
  cases b with
  | true => exact h2 rfl
  | false => exact h1 rfl
theorem e_not {e : E} (h : (evE gl call e env s).wp fun x s => ∃ b, x = .bl b ∧ Q (.bl !b) s) : (evE gl call (.not e) env s).wp Q := by
  simp only [evE, wp_bind]
  refine h.mono fun x s ⟨b, e, h⟩ => ?_
  subst e
  exact h
theorem e_ite {t : T} {a b : E} (h : (evT gl call t env s).wp fun k s => (k = true → (evE gl call a env s).wp Q) ∧ (k = false → (evE gl call b env s).wp Q)) : (evE gl call (.ite t a b) env s).wp Q := by
  simp only [evE, wp_bind]
  refine h.mono fun k s ⟨h1, h2⟩ => ?_
  cases k with
  | true => exact h1 rfl
  | false => exact h2 rfl
theorem e_call {f : Nat} {es : Es} (h : (evEs gl call es env s).wp fun ds s => (call f ds s).wp Q) : (evE gl call (.call f es) env s).wp Q := by simp only [evE, wp_bind]; exact h
theorem e_callK {f : Nat} {es : Es} {e : E} (h : (evEs gl call es env s).wp fun ds s => (evE gl call e env s).wp fun x s => (call f (ds ++ [x]) s).wp Q) : (evE gl call (.callK f es e) env s).wp Q := by simp only [evE, wp_bind]; exact h
theorem e_bi {b : Bi} {es : Es} (h : (evEs gl call es env s).wp fun ds s => ∃ d, bi b ds = some d ∧ Q d s) : (evE gl call (.bi b es) env s).wp Q := by simp only [evE, wp_bind, wp_lift]; exact h
theorem e_isi {a : E} {ts : List Ty} (h : (evE gl call a env s).wp fun x s => Q (.bl (isiD s x ts)) s) : (evE gl call (.isi a ts) env s).wp Q := by simp only [evE, wp_bind]; exact h
theorem e_sub {a b : E} (h : (evE gl call a env s).wp fun x s => (evE gl call b env s).wp fun y s => ∃ d, subS s x y = some d ∧ Q d s) : (evE gl call (.sub a b) env s).wp Q := by simp only [evE, wp_bind, wp_lift]; exact h
theorem e_slice {a : E} {lo hi : Eo} (h : (evE gl call a env s).wp fun x s => (evO gl call lo env s).wp fun l s => (evO gl call hi env s).wp fun h s => ∃ d, sliceD x l h = some d ∧ Q d s) : (evE gl call (.slice a lo hi) env s).wp Q := by simp only [evE, wp_bind, wp_lift]; exact h
theorem e_rev {a : E} (h : (evE gl call a env s).wp fun x s => ∃ d, revD x = some d ∧ Q d s) : (evE gl call (.rev a) env s).wp Q := by simp only [evE, wp_bind, wp_lift]; exact h
theorem e_upper {a : E} (h : (evE gl call a env s).wp fun x s => ∃ d, upperD x = some d ∧ Q d s) : (evE gl call (.upper a) env s).wp Q := by simp only [evE, wp_bind, wp_lift]; exact h
theorem e_index {a b : E} (h : (evE gl call a env s).wp fun x s => (evE gl call b env s).wp fun y s => ∃ d, indexD x y = some d ∧ Q d s) : (evE gl call (.index a b) env s).wp Q := by simp only [evE, wp_bind, wp_lift]; exact h
theorem o_no {Q : Option Int → S → Prop} (h : Q none s) : (evO gl call .no env s).wp Q := by simp only [evO]; exact h
theorem o_so {Q : Option Int → S → Prop} {e : E} (h : (evE gl call e env s).wp fun x s => ∃ i, intOf x = some i ∧ Q (some i) s) : (evO gl call (.so e) env s).wp Q := by simp only [evO, wp_bind, wp_lift, wp_ok]; exact h
theorem es_nil {Q : List D → S → Prop} (h : Q [] s) : (evEs gl call .nil env s).wp Q := by simp only [evEs]; exact h
theorem es_cons {Q : List D → S → Prop} {e : E} {es : Es} (h : (evE gl call e env s).wp fun x s => (evEs gl call es env s).wp fun xs s => Q (x :: xs) s) : (evEs gl call (.cons e es) env s).wp Q := by simp only [evEs, wp_bind, wp_ok]; exact h
theorem t_val {Q : Bool → S → Prop} {e : E} (h : (evE gl call e env s).wp fun x s => ∃ b, truth x = some b ∧ Q b s) : (evT gl call (.val e) env s).wp Q := by simp only [evT, wp_bind, wp_lift]; exact h
theorem t_cmp {Q : Bool → S → Prop} {o : CmpOp} {a b : E} (h : (evE gl call a env s).wp fun x s => (evE gl call b env s).wp fun y s => ∃ k, cmpop o x y = some k ∧ Q k s) : (evT gl call (.cmp o a b) env s).wp Q := by simp only [evT, wp_bind, wp_lift]; exact h
theorem t_chain {Q : Bool → S → Prop} {o o' : CmpOp} {a b c : E} (h : (evE gl call a env s).wp fun x s => (evE gl call b env s).wp fun y s => ∃ k, cmpop o x y = some k ∧ (k = true → (evE gl call c env s).wp fun z s => ∃ k, cmpop o' y z = some k ∧ Q k s) ∧ (k = false → Q false s)) : (evT gl call (.chain o o' a b c) env s).wp Q := by
  simp only [evT, wp_bind, wp_lift]
  refine h.mono fun x s h => h.mono fun y s ⟨k, h1, h2, h3⟩ => ⟨k, h1, ?_⟩
  cases k with
  | true => simp only [if_true, wp_bind, wp_lift]; exact h2 rfl
  | false => exact h3 rfl
theorem t_not {Q : Bool → S → Prop} {t : T} (h : (evT gl call t env s).wp fun b s => Q (!b) s) : (evT gl call (.not t) env s).wp Q := by simp only [evT, wp_bind]; exact h
theorem t_and0 {Q : Bool → S → Prop} (h : Q true s) : (evT gl call (.and .nil) env s).wp Q := by simp only [evT, evTs]; exact h
theorem t_and {Q : Bool → S → Prop} {t : T} {ts : Ts} (h : (evT gl call t env s).wp fun b s => (b = true → (evT gl call (.and ts) env s).wp Q) ∧ (b = false → Q false s)) : (evT gl call (.and (.cons t ts)) env s).wp Q := by
  simp only [evT, evTs, wp_bind] at h ⊢
  refine h.mono fun b s ⟨h1, h2⟩ => ?_
  cases b with
  | true => exact h1 rfl
  | false => exact h2 rfl
theorem t_or0 {Q : Bool → S → Prop} (h : Q false s) : (evT gl call (.or .nil) env s).wp Q := by simp only [evT, evTs]; exact h
theorem t_or {Q : Bool → S → Prop} {t : T} {ts : Ts} (h : (evT gl call t env s).wp fun b s => (b = false → (evT gl call (.or ts) env s).wp Q) ∧ (b = true → Q true s)) : (evT gl call (.or (.cons t ts)) env s).wp Q := by
  simp only [evT, evTs, wp_bind] at h ⊢
  refine h.mono fun b s ⟨h1, h2⟩ => ?_
  cases b with
  | true => exact h2 rfl
  | false => exact h1 rfl
theorem i_seq {Q : List D → S → Prop} {e : E} (h : (evE gl call e env s).wp fun x s => ∃ d, x.itemsS = some d ∧ Q d s) : (evI gl call (.seq e) env s).wp Q := by simp only [evI, wp_bind, wp_lift]; exact h
theorem i_range1 {Q : List D → S → Prop} {e : E} (h : (evE gl call e env s).wp fun x s => ∃ d, range2D (.int 0) x = some d ∧ Q d s) : (evI gl call (.range1 e) env s).wp Q := by simp only [evI, wp_bind, wp_lift]; exact h
theorem i_range2 {Q : List D → S → Prop} {a b : E} (h : (evE gl call a env s).wp fun x s => (evE gl call b env s).wp fun y s => ∃ d, range2D x y = some d ∧ Q d s) : (evI gl call (.range2 a b) env s).wp Q := by simp only [evI, wp_bind, wp_lift]; exact h
theorem i_enum {Q : List D → S → Prop} {e : E} (h : (evE gl call e env s).wp fun x s => ∃ d, x.items.map enumD = some d ∧ Q d s) : (evI gl call (.enum e) env s).wp Q := by simp only [evI, wp_bind, wp_lift]; exact h
theorem f_disp {Q : List D → S → Prop} {es : Es} (h : (evEs gl call es env s).wp Q) : (evF gl call (.disp es) env s).wp Q := by simp only [evF]; exact h
theorem f_comp {Q : List D → S → Prop} {g : Tg} {it : I} {t : Ts} {elt : E} {vs : List Nat} (h : (evI gl call it env s).wp fun items s => (compL (fun d => g.put d (wipeE env vs)) (evTs gl call true t) (evE gl call elt) items s).wp Q) : (evF gl call (.comp g it t elt vs) env s).wp Q := by simp only [evF, wp_bind]; exact h
theorem f_list {Q : List D → S → Prop} {e : E} (h : (evE gl call e env s).wp fun x s => ∃ d, x.listed = some d ∧ Q d s) : (evF gl call (.list e) env s).wp Q := by simp only [evF, wp_bind, wp_lift]; exact h
theorem f_listR {Q : List D → S → Prop} {a b : E} (h : (evE gl call a env s).wp fun x s => (evE gl call b env s).wp fun y s => ∃ d, range2D x y = some d ∧ Q d s) : (evF gl call (.listR a b) env s).wp Q := by simp only [evF, wp_bind, wp_lift]; exact h
theorem f_listR1 {Q : List D → S → Prop} {b : E} (h : (evE gl call b env s).wp fun y s => ∃ d, range2D (.int 0) y = some d ∧ Q d s) : (evF gl call (.listR1 b) env s).wp Q := by simp only [evF, wp_bind, wp_lift]; exact h
theorem f_cat {Q : List D → S → Prop} {a b : E} (h : (evE gl call a env s).wp fun x s => (evE gl call b env s).wp fun y s => ∃ xs ys, x = .lst xs ∧ y = .lst ys ∧ xs.length + ys.length ≤ lim ∧ Q (xs ++ ys) s) : (evF gl call (.cat a b) env s).wp Q := by
  simp only [evF, wp_bind]
  refine h.mono fun x s h => h.mono fun y s ⟨xs, ys, e1, e2, h1, h2⟩ => ?_
  subst e1 e2
  simp only [wp_lift]
  exact ⟨_, by rw [decide_eq_true h1]; rfl, h2⟩
theorem f_sorted {Q : List D → S → Prop} {a : E} (h : (evE gl call a env s).wp fun x s => ∃ d, sortedD x = some d ∧ Q d s) : (evF gl call (.sorted a) env s).wp Q := by simp only [evF, wp_bind, wp_lift]; exact h
theorem e_lset {a : E} (h : (evE gl call a env s).wp fun x s => ∃ d, lsetD x = some d ∧ Q d s) : (evE gl call (.lset a) env s).wp Q := by simp only [evE, wp_bind, wp_lift]; exact h
theorem f_rep {Q : List D → S → Prop} {a b : E} (h : (evE gl call a env s).wp fun x s => (evE gl call b env s).wp fun y s => ∃ xs k, x = .lst xs ∧ y = .int k ∧ (-(2 ^ 63) ≤ k ∧ k < 2 ^ 63 ∧ xs.length * k.toNat ≤ lim) ∧ Q (repL xs k) s) : (evF gl call (.rep a b) env s).wp Q := by
  simp only [evF, wp_bind]
  refine h.mono fun x s h => h.mono fun y s ⟨xs, ys, e1, e2, h1, h2⟩ => ?_
  subst e1 e2
  simp only [wp_lift]
  exact ⟨_, by rw [decide_eq_true h1]; rfl, h2⟩
/-! statements -/
theorem c_nil (h : p.nx env s) : (evCs gl call W .nil env s).wc p := by unfold R.wc; simp only [evCs]; exact h
theorem c_cons {c : C} {cs : Cs} (h : (evC gl call W c env s).wc ⟨fun env s => (evCs gl call W cs env s).wc p, p.rt, p.bk, p.ct⟩) : (evCs gl call W (.cons c cs) env s).wc p := by
  unfold R.wc at h ⊢
  simp only [evCs, wp_bind]
  refine h.mono fun f s h => ?_
  cases f <;> exact h
theorem c_expr {e : E} (h : (evE gl call e env s).wp fun _ s => p.nx env s) : (evC gl call W (.expr e) env s).wc p := by unfold R.wc; simp only [evC, wp_bind]; exact h
theorem c_setn {i : Nat} {e : E} (h : (evE gl call e env s).wp fun x s => p.nx (env.set i (some (.val x))) s) : (evC gl call W (.set (.nm i) e) env s).wc p := by
  unfold R.wc; simp only [evC, wp_bind, wp_lift, Tg.put]; exact h.mono fun x s h => ⟨_, rfl, h⟩
theorem c_set {g : Tg} {e : E} (h : (evE gl call e env s).wp fun x s => ∃ env1, g.put x env = some env1 ∧ p.nx env1 s) : (evC gl call W (.set g e) env s).wc p := by
  unfold R.wc; simp only [evC, wp_bind, wp_lift]; exact h
theorem c_own {i : Nat} {f : F} (h : (evF gl call f env s).wp fun x s => p.nx (env.set i (some (.own x))) s) : (evC gl call W (.own i f) env s).wc p := by unfold R.wc; simp only [evC, wp_bind]; exact h
theorem c_frz {i : Nat} (h : ∃ xs, getO env i = some xs ∧ p.nx (env.set i (some (.val (.lst xs)))) s) : (evC gl call W (.frz i) env s).wc p := by
  obtain ⟨xs, h1, h2⟩ := h
  unfold getO at h1
  unfold R.wc
  simp only [evC]
  split at h1
  · rename_i e
    cases h1
    rw [e]
    exact h2
  · cases h1
theorem c_dic {i : Nat} {t : Bool} (h : p.nx (env.set i (some (.obj (.dic t [] [])))) s) : (evC gl call W (.dic i t) env s).wc p := by unfold R.wc; simp only [evC]; exact h
theorem c_sdf {i : Nat} {j e : E} (h : (evE gl call j env s).wp fun k s => (evE gl call e env s).wp fun v s => (sdfS env s i k v).wc p) : (evC gl call W (.sdf i j e) env s).wc p := by unfold R.wc at h ⊢; simp only [evC, wp_bind]; exact h
theorem c_st2 {i : Nat} {j1 j2 e1 e2 : E} (h : (evE gl call e1 env s).wp fun x s => (evE gl call e2 env s).wp fun y s => (evE gl call j1 env s).wp fun k s => (storeS env s i k x).wc ⟨fun env s => (evE gl call j2 env s).wp fun k s => (storeS env s i k y).wc p, fun _ _ => False, fun _ _ => False, fun _ _ => False⟩) : (evC gl call W (.st2 i j1 j2 e1 e2) env s).wc p := by
  unfold R.wc at h ⊢
  simp only [evC, wp_bind]
  refine h.mono fun x s h => h.mono fun y s h => h.mono fun k s h => R.wp.mono h fun f s h => ?_
  cases f with
  | next env => simp only [wp_bind]; exact h
  | _ => exact h.elim
theorem c_app {i : Nat} {e : E} (h : (evE gl call e env s).wp fun x s => ∃ xs, getO env i = some xs ∧ xs.length < lim ∧ p.nx (env.set i (some (.own (xs ++ [x])))) s) : (evC gl call W (.app i e) env s).wc p := by
  unfold R.wc; simp only [evC, wp_bind, wp_lift]
  refine h.mono fun x s ⟨xs, h1, h2, h3⟩ => ⟨xs, h1, ?_⟩
  rw [if_pos h2]
  exact h3
theorem c_ext {i : Nat} {e : E} (h : (evE gl call e env s).wp fun x s => ∃ xs ys, getO env i = some xs ∧ lstOf x = some ys ∧ xs.length + ys.length ≤ lim ∧ p.nx (env.set i (some (.own (xs ++ ys)))) s) : (evC gl call W (.ext i e) env s).wc p := by
  unfold R.wc; simp only [evC, wp_bind, wp_lift]
  refine h.mono fun x s ⟨xs, ys, h1, h0, h2, h3⟩ => ⟨xs, h1, ys, h0, ?_⟩
  rw [if_pos h2]
  exact h3
theorem c_store {i : Nat} {j e : E} (h : (evE gl call e env s).wp fun v s => (evE gl call j env s).wp fun k s => (storeS env s i k v).wc p) : (evC gl call W (.store i j e) env s).wc p := by unfold R.wc at h ⊢; simp only [evC, wp_bind]; exact h
theorem c_aug {i : Nat} {e : E} (h : ∃ x : Int, getV env i = some (.int x) ∧ (evE gl call e env s).wp fun y s => ∃ z : Int, y = .int z ∧ p.nx (env.set i (some (.val (.int (x + z))))) s) : (evC gl call W (.aug i .Add e) env s).wc p := by
  obtain ⟨x, h1, h2⟩ := h
  unfold R.wc; simp only [evC, wp_bind, wp_lift]
  refine ⟨_, h1, h2.mono fun y s ⟨z, e, h⟩ => ?_⟩
  subst e
  exact h
theorem c_ret {e : E} (h : (evE gl call e env s).wp fun x s => p.rt x s) : (evC gl call W (.ret e) env s).wc p := by unfold R.wc; simp only [evC, wp_bind]; exact h
theorem c_retN (h : p.rt .non s) : (evC gl call W .retN env s).wc p := by unfold R.wc; simp only [evC]; exact h
theorem c_pass (h : p.nx env s) : (evC gl call W .pass env s).wc p := by unfold R.wc; simp only [evC]; exact h
theorem c_brk (h : p.bk env s) : (evC gl call W .brk env s).wc p := by unfold R.wc; simp only [evC]; exact h
theorem c_cont (h : p.ct env s) : (evC gl call W .cont env s).wc p := by unfold R.wc; simp only [evC]; exact h
theorem c_ifs {t : T} {a b : Cs} (h : (evT gl call t env s).wp fun k s => (k = true → (evCs gl call W a env s).wc p) ∧ (k = false → (evCs gl call W b env s).wc p)) : (evC gl call W (.ifs t a b) env s).wc p := by
  unfold R.wc at h ⊢
  simp only [evC, wp_bind]
  refine h.mono fun k s ⟨h1, h2⟩ => ?_
  cases k with
  | true => exact h1 rfl
  | false => exact h2 rfl
theorem c_par {is : List Nat} {ps : List Pc} (h : (evPs gl call ps env s).wp fun sls s => p.nx (setAll env is sls) s) : (evC gl call W (.par is ps) env s).wc p := by unfold R.wc; simp only [evC, wp_bind]; exact h
theorem p_nil {Q : List Sl → S → Prop} (h : Q [] s) : (evPs gl call [] env s).wp Q := by simp only [evPs]; exact h
theorem p_o {Q : List Sl → S → Prop} {f : F} {r : List Pc} (h : (evF gl call f env s).wp fun x s => (evPs gl call r env s).wp fun ys s => Q (.own x :: ys) s) : (evPs gl call (.o f :: r) env s).wp Q := by simp only [evPs, wp_bind, wp_ok]; exact h
theorem p_v {Q : List Sl → S → Prop} {f : E} {r : List Pc} (h : (evE gl call f env s).wp fun x s => (evPs gl call r env s).wp fun ys s => Q (.val x :: ys) s) : (evPs gl call (.v f :: r) env s).wp Q := by simp only [evPs, wp_bind, wp_ok]; exact h
theorem p_d0 {Q : List Sl → S → Prop} {t : Bool} {r : List Pc} (h : (evPs gl call r env s).wp fun ys s => Q (.obj (.dic t [] []) :: ys) s) : (evPs gl call (.d0 t :: r) env s).wp Q := by simp only [evPs, wp_bind, wp_ok]; exact h
theorem p_d1 {Q : List Sl → S → Prop} {t : Bool} {k v : E} {r : List Pc} (h : (evE gl call k env s).wp fun x s => (evE gl call v env s).wp fun y s => keyOk t x = true ∧ (evPs gl call r env s).wp fun ys s => Q (.obj (.dic t [x] [y]) :: ys) s) : (evPs gl call (.d1 t k v :: r) env s).wp Q := by
  simp only [evPs, wp_bind]
  refine h.mono fun x s h => h.mono fun y s ⟨h1, h2⟩ => ?_
  rw [if_pos h1]
  simp only [wp_bind, wp_ok]
  exact h2
/-- for: I at the rest of the items -/
theorem c_for {g : Tg} {it : I} {b : Cs} (h : (evI gl call it env s).wp fun items s => (forL g.put (evCs gl call W b) items env s).wc p) : (evC gl call W (.fors g it b) env s).wc p := by unfold R.wc at h ⊢; simp only [evC, wp_bind]; exact h
theorem forL_wc {put : D → Env → Option Env} {body : Env → S → R Fl} (I : List D → Env → S → Prop) (step : ∀ d ds env s, I (d :: ds) env s → ∃ env1, put d env = some env1 ∧ (body env1 s).wc ⟨fun env s => I ds env s, p.rt, p.nx, fun env s => I ds env s⟩)
    (last : ∀ env s, I [] env s → p.nx env s) (items : List D) (env : Env) (s : S) (h : I items env s) : (forL put body items env s).wc p := by
  unfold R.wc
  refine forL_wp I (fun d ds env s h => ?_) last items env s h
  obtain ⟨env1, h1, h2⟩ := step d ds env s h
  refine ⟨env1, h1, R.wp.mono h2 fun f s h => ?_⟩
  cases f <;> exact h
/-- while: I with n turns left at most -/
theorem c_while {t : T} {b : Cs} (I : Nat → Env → S → Prop) (step : ∀ n env s, I (n + 1) env s → (evT gl call t env s).wp fun k s => (k = true → (evCs gl call W b env s).wc ⟨fun env s => I n env s, p.rt, p.nx, fun env s => I n env s⟩) ∧ (k = false → p.nx env s))
    (no : ∀ env s, ¬ I 0 env s) (h : I W env s) : (evC gl call W (.whiles t b) env s).wc p := by
  unfold R.wc
  simp only [evC]
  have key : ∀ n env s, I n env s → (whileL (evT gl call t) (evCs gl call W b) n env s).wp fun f s => f.to p s := by
    intro n
    induction n with
    | zero => intro env s h; exact (no _ _ h).elim
    | succ n ih =>
      intro env s h
      unfold whileL
      rw [wp_bind]
      refine (step n env s h).mono fun k s ⟨h1, h2⟩ => ?_
      cases k with
      | false => exact h2 rfl
      | true =>
        simp only [if_true]
        rw [wp_bind]
        refine R.wp.mono (h1 rfl) fun f s hf => ?_
        cases f with
        | next env => exact ih env s hf
        | cont env => exact ih env s hf
        | brk env => exact hf
        | ret x => exact hf
        | exn x env => exact hf
  exact key W env s h
end
theorem callN_wc {pg : Pg} {k f : Nat} {nm : Str} {nn np : Nat} {body : Cs} {ds : List D} {s : S} {Q : D → S → Prop} (hf : pg.fns[f]? = some ⟨nm, nn, np, body⟩) (hl : ds.length = np)
    (h : (evCs pg.gl (callN pg k) pg.W body (startE nn ds) s).wc ⟨fun _ s => Q .non s, Q, fun _ _ => False, fun _ _ => False⟩) : (callN pg (k + 1) f ds s).wp Q := by
  refine callN_wp hf hl (R.wp.mono h fun fl s h => ?_)
  cases fl <;> exact h
theorem s_ref {env : Env} {s : S} {i : Nat} {k : Int} {v : D} {p : Ps} (h : ∃ n xs m, env[i]? = some (some (.val (.ref n))) ∧ s[n]? = some (.lst xs) ∧ L2.ixN xs.length k = some m ∧ p.nx env (s.set n (.lst (xs.set m v)))) : (storeS env s i (.int k) v).wc p := by
  obtain ⟨n, xs, m, h1, h2, h3, h4⟩ := h
  unfold R.wc storeS
  rw [h1]
  simp only [h2, h3]
  exact h4
theorem s_own {env : Env} {s : S} {i : Nat} {k : Int} {v : D} {p : Ps} (h : ∃ xs m, env[i]? = some (some (.own xs)) ∧ L2.ixN xs.length k = some m ∧ p.nx (env.set i (some (.own (xs.set m v)))) s) : (storeS env s i (.int k) v).wc p := by
  obtain ⟨xs, m, h1, h3, h4⟩ := h
  unfold R.wc storeS
  rw [h1]
  simp only [h3]
  exact h4
theorem gB {α : Type} {b : Bool} {o : Option α} {P : α → Prop} (hb : b = true) (h : ∃ a, o = some a ∧ P a) : ∃ a, guardB b o = some a ∧ P a := by subst hb; exact h
section
variable {A B : Prop} {b : Bool} {P : Prop} [Decidable P]
theorem andT (hb : b = true) (h : A) : (b = true → A) ∧ (b = false → B) := ⟨fun _ => h, fun z => by rw [hb] at z; cases z⟩
theorem andF (hb : b = false) (h : B) : (b = true → A) ∧ (b = false → B) := ⟨fun z => (by rw [hb] at z; cases z), fun _ => h⟩
theorem orF (hb : b = false) (h : A) : (b = false → A) ∧ (b = true → B) := ⟨fun _ => h, fun z => by rw [hb] at z; cases z⟩
theorem orT (hb : b = true) (h : B) : (b = false → A) ∧ (b = true → B) := ⟨fun z => (by rw [hb] at z; cases z), fun _ => h⟩
theorem andD (h1 : P → A) (h2 : ¬ P → B) : (decide P = true → A) ∧ (decide P = false → B) := ⟨fun z => h1 (of_decide_eq_true z), fun z => h2 (of_decide_eq_false z)⟩
theorem orD (h1 : ¬ P → A) (h2 : P → B) : (decide P = false → A) ∧ (decide P = true → B) := ⟨fun z => h1 (of_decide_eq_false z), fun z => h2 (of_decide_eq_true z)⟩
theorem andN (h1 : b = false → A) (h2 : b = true → B) : ((!b) = true → A) ∧ ((!b) = false → B) := by cases b <;> simp_all
end
theorem rng_wp {a b : Int} {Q : List D → Prop} (h1 : -400000 ≤ a ∧ a ≤ 400000) (h2 : -400000 ≤ b ∧ b ≤ 400000) (h : Q (rngD a b)) : ∃ d, range2D (.int a) (.int b) = some d ∧ Q d := by
  refine ⟨_, ?_, h⟩
  unfold range2D
  have e : (small62 a && small62 b && decide ((b - a).toNat ≤ lim)) = true := by
    unfold small62 lim
    simp only [Bool.and_eq_true, decide_eq_true_eq]
    omega
  simp only [e, guardB_true]
theorem rng_length {a b : Int} : (rngD a b).length = (b - a).toNat := by unfold rngD; simp
/-! exceptions: a body that may end in one -/
def R.wx (r : R Fl) (p : Ps) (X : D → Env → S → Prop) : Prop := r.wp fun f s => match f with
  | .exn x env => X x env s
  | f => f.to p s
def R.we (r : R D) (Q X : D → S → Prop) : Prop := match r with
  | .ok d s => Q d s
  | .exn x s => X x s
  | .no => False
section
variable {gl : List D} {call : Nat → List D → S → R D} {W : Nat} {env : Env} {s : S} {p : Ps} {X : D → Env → S → Prop}
theorem wx_of {r : R Fl} (h : r.wc p) : r.wx p X := R.wp.mono h fun f s h => by cases f <;> first | exact h | exact h.elim
theorem we_of {r : R D} {Q X : D → S → Prop} (h : r.wp Q) : r.we Q X := by cases r <;> first | exact h | exact h.elim
theorem we_stop {α : Type} {r : R α} {f : α → S → R D} {Q X : D → S → Prop} (h : r.wp fun a s => (f a s).we Q X) : (r.stop.bind f).we Q X := by cases r <;> first | exact h | exact h.elim
theorem x_cons {c : C} {cs : Cs} (h : (evC gl call W c env s).wx ⟨fun env s => (evCs gl call W cs env s).wx p X, p.rt, p.bk, p.ct⟩ X) : (evCs gl call W (.cons c cs) env s).wx p X := by
  unfold R.wx at h ⊢
  simp only [evCs, wp_bind]
  refine h.mono fun f s h => ?_
  cases f <;> exact h
theorem x_ifs {t : T} {a b : Cs} (h : (evT gl call t env s).wp fun k s => (k = true → (evCs gl call W a env s).wx p X) ∧ (k = false → (evCs gl call W b env s).wx p X)) : (evC gl call W (.ifs t a b) env s).wx p X := by
  unfold R.wx at h ⊢
  simp only [evC, wp_bind]
  refine h.mono fun k s ⟨h1, h2⟩ => ?_
  cases k with
  | true => exact h1 rfl
  | false => exact h2 rfl
theorem x_for {g : Tg} {it : I} {b : Cs} (h : (evI gl call it env s).wp fun items s => (forL g.put (evCs gl call W b) items env s).wx p X) : (evC gl call W (.fors g it b) env s).wx p X := by unfold R.wx at h ⊢; simp only [evC, wp_bind]; exact h
theorem x_rais {cn f : Str} {e : E} (h : (evE gl call e env s).wp fun d s => X (.ins cn [f] [d]) env s) : (evC gl call W (.rais cn f e) env s).wx p X := by unfold R.wx; simp only [evC, wp_bind]; exact h
theorem xres_wx {r : R D} {k : D → S → R Fl} (h : r.we (fun d s => (k d s).wx p X) fun x s => X x env s) : (xres r env k).wx p X := by cases r <;> exact h
theorem x_drop {f : Nat} {es : Es} (h : (evEs gl call es env s).wp fun ds s => (call f ds s).we (fun _ s => p.nx env s) fun x s => X x env s) : (evC gl call W (.xcl .drop f es) env s).wx p X := by
  simp only [evC]
  exact xres_wx (we_stop h)
theorem x_ret {f : Nat} {es : Es} (h : (evEs gl call es env s).wp fun ds s => (call f ds s).we (fun d s => p.rt d s) fun x s => X x env s) : (evC gl call W (.xcl .ret f es) env s).wx p X := by
  simp only [evC]
  exact xres_wx (we_stop h)
theorem x_setn {i f : Nat} {es : Es} (h : (evEs gl call es env s).wp fun ds s => (call f ds s).we (fun d s => p.nx (env.set i (some (.val d))) s) fun x s => X x env s) : (evC gl call W (.xcl (.set (.nm i)) f es) env s).wx p X := by
  simp only [evC]
  exact xres_wx (we_stop h)
/-- .. where nothing is raised -/
theorem c_drop {f : Nat} {es : Es} (h : (evEs gl call es env s).wp fun ds s => (call f ds s).wp fun _ s => p.nx env s) : (evC gl call W (.xcl .drop f es) env s).wc p := by
  have z := x_drop (X := fun _ _ _ => False) (W := W) (h.mono fun ds s h => we_of (X := fun _ _ => False) h)
  exact R.wp.mono z fun f s h => by cases f <;> first | exact h | exact h.elim
theorem c_xret {f : Nat} {es : Es} (h : (evEs gl call es env s).wp fun ds s => (call f ds s).wp fun d s => p.rt d s) : (evC gl call W (.xcl .ret f es) env s).wc p := by
  have z := x_ret (X := fun _ _ _ => False) (p := p) (W := W) (h.mono fun ds s h => we_of (X := fun _ _ => False) h)
  exact R.wp.mono z fun f s h => by cases f <;> first | exact h | exact h.elim
theorem c_xset {i f : Nat} {es : Es} (h : (evEs gl call es env s).wp fun ds s => (call f ds s).wp fun d s => p.nx (env.set i (some (.val d))) s) : (evC gl call W (.xcl (.set (.nm i)) f es) env s).wc p := by
  have z := x_setn (X := fun _ _ _ => False) (p := p) (W := W) (h.mono fun ds s h => we_of (X := fun _ _ => False) h)
  exact R.wp.mono z fun f s h => by cases f <;> first | exact h | exact h.elim
/-- try: what comes of it -/
theorem c_try {b : Cs} {i : Nat} {hc : Str} {xm : List (Str × Bool)} {hb : Hb} (h : (evCs gl call W b env s).wx p fun x env s => ∃ cn ns fs d, x = .ins cn ns fs ∧ xm.lookup cn = some true ∧ i < env.length ∧ evHb (.ins cn ns fs) hc hb = some d ∧ p.rt d s) : (evC gl call W (.tryx b i hc xm hb) env s).wc p := by
  unfold R.wx at h
  unfold R.wc
  simp only [evC]
  obtain ⟨f, s1, e, h⟩ := h.ex
  rw [e]
  cases f with
  | exn x env1 =>
    obtain ⟨cn, ns, fs, d, rfl, h1, h2, h3, h4⟩ := h
    simp only [tryR, h1, h2, h3, decide_true, guardB_true]
    exact h4
  | _ => exact h
theorem c_tryN {b : Cs} {cl : List Cl} (h : (evCs gl call W b env s).wx p fun x env s => ∃ cn ns fs d, x = .ins cn ns fs ∧ clsR cn ns fs env s cl = .ok (.ret d) s ∧ p.rt d s) : (evC gl call W (.trym b cl) env s).wc p := by
  unfold R.wx at h
  unfold R.wc
  simp only [evC]
  obtain ⟨f, s1, e, h⟩ := h.ex
  rw [e]
  cases f with
  | exn x env1 =>
    obtain ⟨cn, ns, fs, d, rfl, h1, h4⟩ := h
    simp only [trysR, h1]
    exact h4
  | _ => exact h
theorem x_rais0 {cn : Str} (h : X (.ins cn [] []) env s) : (evC gl call W (.rais0 cn) env s).wx p X := by unfold R.wx; simp only [evC]; exact h
theorem we_mono {r : R D} {Q Q' Y Y' : D → S → Prop} (h : r.we Q Y) (w : ∀ d s, Q d s → Q' d s) (w2 : ∀ d s, Y d s → Y' d s) : r.we Q' Y' := by
  cases r with
  | ok d s => exact w d s h
  | exn x s => exact w2 x s h
  | no => exact h
end
theorem callN_we {pg : Pg} {k f : Nat} {nm : Str} {nn np : Nat} {body : Cs} {ds : List D} {s : S} {Q X : D → S → Prop} (hf : pg.fns[f]? = some ⟨nm, nn, np, body⟩) (hl : ds.length = np)
    (h : (evCs pg.gl (callN pg k) pg.W body (startE nn ds) s).wx ⟨fun _ s => Q .non s, Q, fun _ _ => False, fun _ _ => False⟩ fun x _ s => X x s) : (callN pg (k + 1) f ds s).we Q X := by
  unfold R.wx at h
  obtain ⟨fl, s1, e, h⟩ := h.ex
  unfold callN
  rw [hf]
  simp only [hl, if_true]
  rw [e]
  cases fl <;> first | exact h | exact h.elim
end Fw
namespace Fw
open PySem
section
variable {gl : List D} {call : Nat → List D → S → R D} {W : Nat} {env : Env} {s : S} {p : Ps}
/-- while: n0 turns at most -/
theorem c_whileN {n0 : Nat} (hw : n0 ≤ W) {t : T} {b : Cs} (I : Nat → Env → S → Prop) (step : ∀ n env s, I (n + 1) env s → (evT gl call t env s).wp fun k s => (k = true → (evCs gl call W b env s).wc ⟨fun env s => I n env s, p.rt, p.nx, fun env s => I n env s⟩) ∧ (k = false → p.nx env s))
    (no : ∀ env s, ¬ I 0 env s) (h : I n0 env s) : (evC gl call W (.whiles t b) env s).wc p := by
  refine c_while (fun m env s => ∃ n, n ≤ m ∧ I n env s) (fun n env s ⟨q, hq, h⟩ => ?_) (fun env s ⟨q, hq, h⟩ => ?_) ⟨n0, hw, h⟩
  · cases q with
    | zero => exact (no _ _ h).elim
    | succ q =>
      refine (step q env s h).mono fun k s ⟨h1, h2⟩ => ⟨fun e => ?_, h2⟩
      refine R.wp.mono (h1 e) fun f s hf => ?_
      cases f with
      | next env => exact ⟨q, by omega, hf⟩
      | cont env => exact ⟨q, by omega, hf⟩
      | brk env => exact hf
      | ret x => exact hf
      | exn _ _ => exact hf.elim
  · have : q = 0 := by omega
    subst this
    exact no _ _ h
end
section
variable {gl : List D} {call : Nat → List D → S → R D} {env : Env} {s : S} {Q : D → S → Prop}
theorem e_att {a : E} {f : Str} (h : (evE gl call a env s).wp fun x s => ∃ d, attD x f = some d ∧ Q d s) : (evE gl call (.att a f) env s).wp Q := by simp only [evE, wp_bind, wp_lift]; exact h
theorem f_listz {Q : List D → S → Prop} {a b : E} (h : (evE gl call a env s).wp fun x s => (evE gl call b env s).wp fun y s => ∃ xs ys, x = .tup xs ∧ y = .tup ys ∧ xs.length = ys.length ∧ Q (zipD xs ys) s) : (evF gl call (.listz a b) env s).wp Q := by
  simp only [evF, wp_bind]
  refine h.mono fun x s h => h.mono fun y s ⟨xs, ys, e1, e2, e3, e4⟩ => ?_
  subst e1 e2
  unfold lzipR
  simp only [if_pos e3]
  exact e4
end
theorem lst_ok {xs : List D} (h : (D.lst xs).dat = true) : eqOk (.lst xs) (.lst []) = true := by
  show ((D.lst xs).dat && (D.lst []).dat && decide (min (D.lst xs).py.depth (D.lst []).py.depth ≤ 64)) = true
  rw [h]
  simp only [D.dat, D.dats, D.py, D.pys, PyData.depth, PyData.depthAll, Bool.true_and, decide_eq_true_eq]
  omega
theorem ne_lst (xs : List D) (h : (D.lst xs).dat = true) : cmpop .NotEq (.lst xs) (.lst []) = guardB (eqOk (.lst xs) (.lst [])) (some (!(D.lst xs).eqv (.lst []))) := by
  cases xs with
  | nil => rfl
  | cons x xs => rw [lst_ok h]; rfl
/-- a list and no list -/
theorem lst_nil_eq (xs : List D) : cmpop .Eq (.lst xs) (.lst []) = some xs.isEmpty := by
  cases xs with
  | nil => decide +kernel
  | cons x xs => rfl
end Fw
local macro_rules | `(tactic| ksw_less) => `(tactic| repeat (first | with_reducible refine Fw.c_cons ?_ | with_reducible refine Fw.c_nil ?_ | with_reducible refine Fw.c_setn ?_ | with_reducible refine Fw.c_set ?_ | with_reducible refine Fw.c_own ?_ | with_reducible refine Fw.c_frz ?_ | with_reducible refine Fw.c_expr ?_ | with_reducible refine Fw.c_app ?_ | with_reducible refine Fw.c_ext ?_ | with_reducible refine Fw.c_store ?_ | with_reducible refine Fw.c_aug ?_ | with_reducible refine Fw.c_ret ?_ | with_reducible refine Fw.c_retN ?_ | with_reducible refine Fw.c_pass ?_ | with_reducible refine Fw.c_brk ?_ | with_reducible refine Fw.c_cont ?_ | with_reducible refine Fw.c_ifs ?_ | with_reducible refine Fw.c_par ?_ | with_reducible refine Fw.p_nil ?_ | with_reducible refine Fw.p_o ?_ | with_reducible refine Fw.p_v ?_ | with_reducible refine Fw.c_for ?_ | with_reducible refine Fw.c_st2 ?_ | with_reducible refine Fw.c_drop ?_ | with_reducible refine Fw.c_xret ?_ | with_reducible refine Fw.c_xset ?_ | with_reducible refine Fw.c_try ?_ | with_reducible refine Fw.x_ifs ?_ | with_reducible refine Fw.x_rais ?_ | with_reducible refine Fw.x_drop ?_ | with_reducible refine Fw.x_ret ?_ | with_reducible refine Fw.x_setn ?_ | with_reducible refine Fw.x_for ?_ | with_reducible refine Fw.f_sorted ?_ | with_reducible refine Fw.e_lset ?_ | with_reducible refine Fw.c_dic ?_ | with_reducible refine Fw.c_sdf ?_ | with_reducible refine Fw.p_d0 ?_ | with_reducible refine Fw.p_d1 ?_ | with_reducible refine Fw.e_nm ?_ | with_reducible refine Fw.e_pk ?_ | with_reducible refine Fw.e_int ?_ | with_reducible refine Fw.e_bl ?_ | with_reducible refine Fw.e_non ?_ | with_reducible refine Fw.e_str ?_ | with_reducible refine Fw.e_glob ?_ | with_reducible refine Fw.e_tup ?_ | with_reducible refine Fw.e_dict0 ?_ | with_reducible refine Fw.e_frz ?_ | with_reducible refine Fw.e_shr ?_ | with_reducible refine Fw.e_bin ?_ | with_reducible refine Fw.e_un ?_ | with_reducible refine Fw.e_cmp ?_ | with_reducible refine Fw.e_chain ?_ | with_reducible refine Fw.e_and1 ?_ | with_reducible refine Fw.e_and ?_ | with_reducible refine Fw.e_or1 ?_ | with_reducible refine Fw.e_or ?_ | with_reducible refine Fw.e_not ?_ | with_reducible refine Fw.e_ite ?_ | with_reducible refine Fw.e_call ?_ | with_reducible refine Fw.e_callK ?_ | with_reducible refine Fw.e_bi ?_ | with_reducible refine Fw.e_isi ?_ | with_reducible refine Fw.e_sub ?_ | with_reducible refine Fw.e_slice ?_ | with_reducible refine Fw.e_rev ?_ | with_reducible refine Fw.e_upper ?_ | with_reducible refine Fw.e_index ?_ | with_reducible refine Fw.o_no ?_ | with_reducible refine Fw.o_so ?_ | with_reducible refine Fw.es_nil ?_ | with_reducible refine Fw.es_cons ?_ | with_reducible refine Fw.t_val ?_ | with_reducible refine Fw.t_cmp ?_ | with_reducible refine Fw.t_chain ?_ | with_reducible refine Fw.t_not ?_ | with_reducible refine Fw.t_and0 ?_ | with_reducible refine Fw.t_and ?_ | with_reducible refine Fw.t_or0 ?_ | with_reducible refine Fw.t_or ?_ | with_reducible refine Fw.i_seq ?_ | with_reducible refine Fw.i_range1 ?_ | with_reducible refine Fw.i_range2 ?_ | with_reducible refine Fw.i_enum ?_ | with_reducible refine Fw.f_disp ?_ | with_reducible refine Fw.f_comp ?_ | with_reducible refine Fw.f_list ?_ | with_reducible refine Fw.f_listR ?_ | with_reducible refine Fw.f_listR1 ?_ | with_reducible refine Fw.f_cat ?_ | with_reducible refine Fw.f_rep ?_ | refine ⟨_, rfl, ?_⟩ | refine Fw.andT rfl ?_ | refine Fw.andF rfl ?_ | refine Fw.orF rfl ?_ | refine Fw.orT rfl ?_))
local macro_rules | `(tactic| kd_adr) => `(tactic| simp only [Fw.startE, List.map_cons, List.map_nil, List.length_cons, List.length_nil, Nat.reduceAdd, Nat.reduceSub, Nat.zero_add, Nat.sub_self, List.replicate_succ, List.replicate_zero, List.cons_append, List.nil_append, List.append_nil])
local macro_rules | `(tactic| kst_mem) => `(tactic| simp only [List.set_cons_zero, List.set_cons_succ])
local macro_rules | `(tactic| kd_mem) => `(tactic| repeat (first | with_reducible refine Fw.c_nil ?_ | with_reducible refine Fw.c_setn ?_ | with_reducible refine Fw.c_set ?_ | with_reducible refine Fw.c_own ?_ | with_reducible refine Fw.c_frz ?_ | with_reducible refine Fw.c_expr ?_ | with_reducible refine Fw.c_app ?_ | with_reducible refine Fw.c_ext ?_ | with_reducible refine Fw.c_store ?_ | with_reducible refine Fw.c_aug ?_ | with_reducible refine Fw.c_ret ?_ | with_reducible refine Fw.c_retN ?_ | with_reducible refine Fw.c_pass ?_ | with_reducible refine Fw.c_brk ?_ | with_reducible refine Fw.c_cont ?_ | with_reducible refine Fw.c_ifs ?_ | with_reducible refine Fw.c_par ?_ | with_reducible refine Fw.p_nil ?_ | with_reducible refine Fw.p_o ?_ | with_reducible refine Fw.p_v ?_ | with_reducible refine Fw.c_for ?_ | with_reducible refine Fw.c_st2 ?_ | with_reducible refine Fw.c_drop ?_ | with_reducible refine Fw.c_xret ?_ | with_reducible refine Fw.c_xset ?_ | with_reducible refine Fw.c_try ?_ | with_reducible refine Fw.x_ifs ?_ | with_reducible refine Fw.x_rais ?_ | with_reducible refine Fw.x_drop ?_ | with_reducible refine Fw.x_ret ?_ | with_reducible refine Fw.x_setn ?_ | with_reducible refine Fw.x_for ?_ | with_reducible refine Fw.f_sorted ?_ | with_reducible refine Fw.e_lset ?_ | with_reducible refine Fw.c_dic ?_ | with_reducible refine Fw.c_sdf ?_ | with_reducible refine Fw.p_d0 ?_ | with_reducible refine Fw.p_d1 ?_ | with_reducible refine Fw.e_nm ?_ | with_reducible refine Fw.e_pk ?_ | with_reducible refine Fw.e_int ?_ | with_reducible refine Fw.e_bl ?_ | with_reducible refine Fw.e_non ?_ | with_reducible refine Fw.e_str ?_ | with_reducible refine Fw.e_glob ?_ | with_reducible refine Fw.e_tup ?_ | with_reducible refine Fw.e_dict0 ?_ | with_reducible refine Fw.e_frz ?_ | with_reducible refine Fw.e_shr ?_ | with_reducible refine Fw.e_bin ?_ | with_reducible refine Fw.e_un ?_ | with_reducible refine Fw.e_cmp ?_ | with_reducible refine Fw.e_chain ?_ | with_reducible refine Fw.e_and1 ?_ | with_reducible refine Fw.e_and ?_ | with_reducible refine Fw.e_or1 ?_ | with_reducible refine Fw.e_or ?_ | with_reducible refine Fw.e_not ?_ | with_reducible refine Fw.e_ite ?_ | with_reducible refine Fw.e_call ?_ | with_reducible refine Fw.e_callK ?_ | with_reducible refine Fw.e_bi ?_ | with_reducible refine Fw.e_isi ?_ | with_reducible refine Fw.e_sub ?_ | with_reducible refine Fw.e_slice ?_ | with_reducible refine Fw.e_rev ?_ | with_reducible refine Fw.e_upper ?_ | with_reducible refine Fw.e_index ?_ | with_reducible refine Fw.o_no ?_ | with_reducible refine Fw.o_so ?_ | with_reducible refine Fw.es_nil ?_ | with_reducible refine Fw.es_cons ?_ | with_reducible refine Fw.t_val ?_ | with_reducible refine Fw.t_cmp ?_ | with_reducible refine Fw.t_chain ?_ | with_reducible refine Fw.t_not ?_ | with_reducible refine Fw.t_and0 ?_ | with_reducible refine Fw.t_and ?_ | with_reducible refine Fw.t_or0 ?_ | with_reducible refine Fw.t_or ?_ | with_reducible refine Fw.i_seq ?_ | with_reducible refine Fw.i_range1 ?_ | with_reducible refine Fw.i_range2 ?_ | with_reducible refine Fw.i_enum ?_ | with_reducible refine Fw.f_disp ?_ | with_reducible refine Fw.f_comp ?_ | with_reducible refine Fw.f_list ?_ | with_reducible refine Fw.f_listR ?_ | with_reducible refine Fw.f_listR1 ?_ | with_reducible refine Fw.f_cat ?_ | with_reducible refine Fw.f_rep ?_ | refine ⟨_, rfl, ?_⟩ | refine Fw.andT rfl ?_ | refine Fw.andF rfl ?_ | refine Fw.orF rfl ?_ | refine Fw.orT rfl ?_))
namespace Fw
open PySem
def springB : Cs := (.cons (.set (.tup (.cons (.nm 2) (.cons (.nm 3) .nil))) (.tup (.cons (.int 0) (.cons (.int 2925) .nil)))) (.cons (.fors (.nm 1) (.seq (.slice (.nm 0) .no (.so (.int 63)))) (.cons (.set (.nm 4) (.bin .Add (.bin .Add (.bin .Mult (.int 2) (.bi .abs (.cons (.nm 1) .nil))) (.bi .int (.cons (.cmp .Lt (.nm 1) (.int 0)) .nil))) (.int 1))) (.cons (.set (.nm 3) (.bin .Mod (.bi .int (.cons (.bin .Add (.bin .Mult (.nm 3) (.int 6364136223846793005)) (.nm 4)) .nil)) (.int 2305843009213693951))) (.cons (.ifs (.cmp .GtE (.bi .abs (.cons (.nm 1) .nil)) (.bin .Pow (.int 10) (.int 18))) (.cons (.set (.nm 2) (.bin .Add (.bin .Mult (.nm 2) (.int 37)) (.bi .abs (.cons (.nm 1) .nil)))) .nil) .nil) .nil)))) (.cons (.ret (.shr (.disp (.cons (.nm 2) (.cons (.nm 3) (.cons (.int 0) .nil)))))) .nil)))
def dipB : Cs := (.cons (.ifs (.cmp .Gt (.sub (.nm 0) (.int 0)) (.int 0)) (.cons (.set (.nm 3) (.bin .Mod (.bi .int (.cons (.sub (.nm 0) (.int 0)) .nil)) (.nm 1))) (.cons (.store 0 (.int 0) (.bin .FloorDiv (.sub (.nm 0) (.int 0)) (.nm 1))) (.cons (.ret (.nm 3)) .nil))) .nil) (.cons (.store 0 (.int 2) (.bin .Add (.sub (.nm 0) (.int 2)) (.int 1))) (.cons (.set (.nm 2) (.bin .Add (.bin .Mult (.int 3202034522624059733) (.sub (.nm 0) (.int 2))) (.int 29))) (.cons (.store 0 (.int 1) (.bin .Mod (.bi .int (.cons (.bin .Add (.bin .Mult (.sub (.nm 0) (.int 1)) (.int 2862933555777941757)) (.nm 2)) .nil)) (.int 2305843009213693951))) (.cons (.ret (.bin .Mod (.bi .int (.cons (.bin .FloorDiv (.bin .Mod (.bi .int (.cons (.bin .Mult (.sub (.nm 0) (.int 1)) (.sub (.nm 0) (.int 1))) .nil)) (.int 2305843009213693951)) (.int 131071)) .nil)) (.nm 1))) .nil)))))
def pickB (dip : Nat) : Cs := (.cons (.ret (.sub (.nm 1) (.call dip (.cons (.nm 0) (.cons (.bi .len (.cons (.nm 1) .nil)) .nil))))) .nil)
/-- the spring: one shared list of three numbers -/
def Spr (s : S) : Prop := ∃ g m c : Int, s = [.lst [.int g, .int m, .int c]] ∧ 0 ≤ m ∧ m < 2305843009213693951
theorem mulOk_l {i j : Int} (h : -(2 ^ 64) < i ∧ i < 2 ^ 64) : mulOk i j = true := by unfold mulOk; simp only [Bool.or_eq_true, decide_eq_true_eq]; exact .inl (.inl h)
theorem mulOk_r {i j : Int} (h : -(2 ^ 64) < j ∧ j < 2 ^ 64) : mulOk i j = true := by unfold mulOk; simp only [Bool.or_eq_true, decide_eq_true_eq]; exact .inl (.inr h)
section
variable {pg : Pg} {k : Nat}
theorem dip_wp {f : Nat} {nm : Str} (hf : pg.fns[f]? = some ⟨nm, 4, 2, dipB⟩) {s : S} (hs : Spr s) {n : Int} (h1 : 0 < n) (h2 : n < 1073741824) :
    (callN pg (k + 1) f [.ref 0, .int n] s).wp fun d s' => (∃ i : Int, d = .int i ∧ 0 ≤ i ∧ i < n) ∧ Spr s' := by
  obtain ⟨g, m, c, rfl, m1, m2⟩ := hs
  refine callN_wc hf rfl ?_
  unfold dipB
  kd_adr
  ksw_less
  refine ⟨fun hg => ?_, fun hg => ?_⟩
  · ksw_less
    refine gB (decide_eq_true h1) ⟨_, rfl, ?_⟩
    ksw_less
    refine gB (decide_eq_true ⟨h1, h2⟩) ⟨_, rfl, ?_⟩
    ksw_less
    refine s_ref ⟨_, _, _, rfl, rfl, rfl, ?_⟩
    ksw_less
    exact ⟨⟨_, rfl, Int.emod_nonneg _ (by omega), Int.emod_lt_of_pos _ h1⟩, _, _, _, rfl, m1, m2⟩
  · ksw_less
    refine s_ref ⟨_, _, _, rfl, rfl, rfl, ?_⟩
    ksw_less
    refine gB (mulOk_l ?_) ⟨_, rfl, ?_⟩
    · omega
    ksw_less
    refine s_ref ⟨_, _, _, rfl, rfl, rfl, ?_⟩
    ksw_less
    have e1 : ∀ x : Int, 0 ≤ x % 2305843009213693951 ∧ x % 2305843009213693951 < 2305843009213693951 := fun x => ⟨Int.emod_nonneg _ (by omega), Int.emod_lt_of_pos _ (by omega)⟩
    refine gB (mulOk_l ?_) ⟨_, rfl, ?_⟩
    · have := e1 (m * 2862933555777941757 + (3202034522624059733 * (c + 1) + 29))
      omega
    ksw_less
    refine gB (decide_eq_true h1) ⟨_, rfl, ?_⟩
    ksw_less
    exact ⟨⟨_, rfl, Int.emod_nonneg _ (by omega), Int.emod_lt_of_pos _ h1⟩, _, _, _, rfl, e1 _⟩
theorem pick_wp {f dip : Nat} {nm nm' : Str} (hd : pg.fns[dip]? = some ⟨nm, 4, 2, dipB⟩) (hf : pg.fns[f]? = some ⟨nm', 2, 2, pickB dip⟩) {s : S} (hs : Spr s) {xs : List D} (h1 : xs ≠ []) (h2 : xs.length ≤ lim) :
    (callN pg (k + 2) f [.ref 0, .lst xs] s).wp fun d s' => d ∈ xs ∧ Spr s' := by
  refine callN_wc hf rfl ?_
  unfold pickB
  kd_adr
  ksw_less
  have hl : 0 < xs.length := List.length_pos_iff.mpr h1
  unfold lim at h2
  refine (dip_wp hd hs (n := (xs.length : Nat)) (by omega) (by omega)).mono fun d s ⟨⟨i, e, i1, i2⟩, hs⟩ => ?_
  subst e
  have hi : L2.ixN xs.length i = some i.toNat := by unfold L2.ixN; rw [if_pos i1, if_pos i2]
  have hlt : i.toNat < xs.length := by omega
  refine ⟨xs[i.toNat], ?_, List.getElem_mem hlt, hs⟩
  show L2.atI xs i = _
  unfold L2.atI
  rw [hi]
  exact List.getElem?_eq_getElem hlt
theorem spring_wp {f : Nat} {nm : Str} (hf : pg.fns[f]? = some ⟨nm, 5, 1, springB⟩) {ns : List Int} (h : ns.length ≤ 63) : (callN pg (k + 1) f [.scr ns] []).wp fun d s' => d = .ref 0 ∧ Spr s' := by
  refine callN_wc hf rfl ?_
  unfold springB
  kd_adr
  ksw_less
  refine gB (decide_eq_true (by unfold lim; omega)) ⟨_, rfl, ?_⟩
  ksw_less
  refine forL_wc (fun ds env s => (∃ ms : List Int, ds = ms.map D.int) ∧ s = [] ∧ ∃ a c : Option Sl, ∃ g m : Int, env = [some (.val (.scr ns)), a, some (.val (.int g)), some (.val (.int m)), c] ∧ 0 ≤ m ∧ m < 2305843009213693951) ?_ ?_ _ _ _ ?_
  · rintro d ds env s ⟨⟨ms, hm⟩, rfl, a, c, g, m, rfl, m1, m2⟩
    cases ms with
    | nil => cases hm
    | cons z ms =>
      cases hm
      refine ⟨_, rfl, ?_⟩
      kst_mem
      ksw_less
      refine gB (mulOk_l ?_) ⟨_, rfl, ?_⟩
      · omega
      ksw_less
      have e1 : ∀ x : Int, 0 ≤ x % 2305843009213693951 ∧ x % 2305843009213693951 < 2305843009213693951 := fun x => ⟨Int.emod_nonneg _ (by omega), Int.emod_lt_of_pos _ (by omega)⟩
      refine ⟨fun hg => ?_, fun hg => ?_⟩
      · ksw_less
        refine gB (mulOk_r ?_) ⟨_, rfl, ?_⟩
        · omega
        ksw_less
        exact ⟨⟨ms, rfl⟩, rfl, _, _, _, _, rfl, e1 _⟩
      · ksw_less
        exact ⟨⟨ms, rfl⟩, rfl, _, _, _, _, rfl, e1 _⟩
  · rintro env s ⟨_, rfl, a, c, g, m, rfl, m1, m2⟩
    ksw_less
    exact ⟨rfl, g, m, 0, rfl, m1, m2⟩
  · refine ⟨⟨cutD ns none (some 63), ?_⟩, rfl, _, _, _, _, rfl, by omega, by omega⟩
    unfold cutD
    simp [List.map_drop, List.map_take]
end
end Fw
namespace Fw
open PySem
/-! ## T. values within bounds -/
mutual
def D.vl (m : Nat) : D → Bool
  | .non => true
  | .bl _ => true
  | .int i => decide (i.natAbs < 10 ^ m)
  | .str x => x.cps.toList.all fun c => decide (c < 128)
  | .tup xs => D.vls m xs
  | .lst xs => D.vls m xs
  | .dct t ks vs => !t && ks.isEmpty && vs.isEmpty
  | .ref _ => false
  | .scr _ => false
  | .ins _ _ _ => false
def D.vls (m : Nat) : List D → Bool
  | [] => true
  | x :: xs => x.vl m && D.vls m xs
end
/-- ints below 10^m, texts plain, at most n within, at most e deep -/
structure Vl (m n e : Nat) (d : D) : Prop where
  ok : d.vl m = true
  bk : d.py.bulk ≤ n
  dp : d.py.depth ≤ e
structure Vls (m n e : Nat) (ds : List D) : Prop where
  ok : ∀ d ∈ ds, d.vl m = true
  bk : (ds.map fun d => d.py.bulk + 1).sum ≤ n
  dp : ∀ d ∈ ds, d.py.depth ≤ e
def vlB (m n e : Nat) (d : D) : Bool := d.vl m && decide (d.py.bulk ≤ n) && decide (d.py.depth ≤ e)
theorem vlB_ok {m n e : Nat} {d : D} (h : vlB m n e d = true) : Vl m n e d := by
  unfold vlB at h
  simp only [Bool.and_eq_true, decide_eq_true_eq] at h
  exact ⟨h.1.1, h.1.2, h.2⟩
theorem vls_iff {m : Nat} : ∀ {xs : List D}, D.vls m xs = true ↔ ∀ x ∈ xs, x.vl m = true
  | [] => by simp [D.vls]
  | x :: xs => by simp [D.vls, vls_iff (xs := xs)]
theorem dps_iff {e : Nat} : ∀ {xs : List D}, PyData.depthAll (D.pys xs) ≤ e ↔ ∀ x ∈ xs, x.py.depth ≤ e
  | [] => by simp [D.pys, PyData.depthAll]
  | x :: xs => by
    have := dps_iff (e := e) (xs := xs)
    simp only [D.pys, PyData.depthAll, List.mem_cons, forall_eq_or_imp, ← this]
    omega
theorem bks_eq : ∀ {xs : List D}, PyData.bulkAll (D.pys xs) = (xs.map fun d => d.py.bulk + 1).sum
  | [] => rfl
  | x :: xs => by simp only [D.pys, PyData.bulkAll, List.map_cons, List.sum_cons, bks_eq (xs := xs)]
section
variable {m m' n n' e e' : Nat} {d : D} {xs ys : List D}
theorem Vl.tup_iff : Vl m n (e + 1) (.tup xs) ↔ Vls m n e xs := by
  constructor
  · intro ⟨h1, h2, h3⟩
    simp only [D.vl, D.py, PyData.bulk, PyData.depth] at h1 h2 h3
    exact ⟨vls_iff.mp h1, by rw [← bks_eq]; exact h2, dps_iff.mp (by omega)⟩
  · intro ⟨h1, h2, h3⟩
    refine ⟨by simp only [D.vl]; exact vls_iff.mpr h1, ?_, ?_⟩
    · simp only [D.py, PyData.bulk]; rw [bks_eq]; exact h2
    · simp only [D.py, PyData.depth]; have := dps_iff.mpr h3; omega
/-- a tuple's items: it is deeper than them -/
theorem Vl.items (h : Vl m n e (.tup xs)) : ∃ e', e = e' + 1 ∧ Vls m n e' xs := by
  have h3 := h.dp
  simp only [D.py, PyData.depth] at h3
  exact ⟨e - 1, by omega, Vl.tup_iff.mp (by rw [show e - 1 + 1 = e by omega]; exact h)⟩
mutual
theorem vl_mono (h : m ≤ m') : ∀ d : D, d.vl m = true → d.vl m' = true
  | .non, _ => rfl
  | .bl _, _ => rfl
  | .int i, q => by
    simp only [D.vl, decide_eq_true_eq] at q ⊢
    exact Nat.lt_of_lt_of_le q (Nat.pow_le_pow_right (by omega) h)
  | .str x, q => q
  | .tup xs, q => by simp only [D.vl] at q ⊢; exact vls_mono h xs q
  | .lst xs, q => by simp only [D.vl] at q ⊢; exact vls_mono h xs q
  | .dct _ _ _, q => q
  | .ref _, q => q
  | .scr _, q => q
  | .ins _ _ _, q => q
theorem vls_mono (h : m ≤ m') : ∀ ds : List D, D.vls m ds = true → D.vls m' ds = true
  | [], _ => rfl
  | d :: ds, q => by
    simp only [D.vls, Bool.and_eq_true] at q ⊢
    exact ⟨vl_mono h d q.1, vls_mono h ds q.2⟩
end
theorem Vl.mono (h : Vl m n e d) (h1 : m ≤ m') (h2 : n ≤ n') (h3 : e ≤ e') : Vl m' n' e' d := ⟨vl_mono h1 d h.ok, by have := h.bk; omega, by have := h.dp; omega⟩
theorem Vls.mono (h : Vls m n e xs) (h1 : m ≤ m') (h2 : n ≤ n') (h3 : e ≤ e') : Vls m' n' e' xs := ⟨fun d hd => vl_mono h1 d (h.ok d hd), by have := h.bk; omega, fun d hd => by have := h.dp d hd; omega⟩
theorem Vls.nil : Vls m n e [] := ⟨(fun _ h => by cases h), (by simp), (fun _ h => by cases h)⟩
theorem Vls.cons (h : Vl m n e d) (r : Vls m n' e xs) : Vls m (n + n' + 1) e (d :: xs) := by
  refine ⟨fun x hx => ?_, ?_, fun x hx => ?_⟩
  · rcases List.mem_cons.mp hx with rfl | hx
    · exact h.ok
    · exact r.ok x hx
  · simp only [List.map_cons, List.sum_cons]
    have := h.bk; have := r.bk; omega
  · rcases List.mem_cons.mp hx with rfl | hx
    · exact h.dp
    · exact r.dp x hx
theorem Vls.one (h : Vl m n e d) : Vls m (n + 1) e [d] := Vls.cons (n' := 0) h Vls.nil
theorem Vls.append (h : Vls m n e xs) (r : Vls m n' e ys) : Vls m (n + n') e (xs ++ ys) := by
  refine ⟨fun x hx => ?_, ?_, fun x hx => ?_⟩
  · exact (List.mem_append.mp hx).elim (h.ok x) (r.ok x)
  · rw [List.map_append, List.sum_append]
    have := h.bk; have := r.bk; omega
  · exact (List.mem_append.mp hx).elim (h.dp x) (r.dp x)
theorem sum_sub {f : D → Nat} {xs ys : List D} (h : xs.Sublist ys) : (xs.map f).sum ≤ (ys.map f).sum := by
  induction h with
  | slnil => simp
  | cons _ _ ih => simp only [List.map_cons, List.sum_cons]; omega
  | cons_cons _ _ ih => simp only [List.map_cons, List.sum_cons]; omega
theorem Vls.sub (h : Vls m n e ys) (s : xs.Sublist ys) : Vls m n e xs := ⟨fun x hx => h.ok x (s.subset hx), Nat.le_trans (sum_sub s) h.bk, fun x hx => h.dp x (s.subset hx)⟩
theorem Vls.mem (h : Vls m n e xs) (hx : d ∈ xs) : Vl m n e d ∧ d.py.bulk + 1 ≤ n := by
  have : d.py.bulk + 1 ≤ (xs.map fun d => d.py.bulk + 1).sum := by
    have q := sum_sub (f := fun d : D => d.py.bulk + 1) (List.singleton_sublist.mpr hx)
    simpa using q
  have := h.bk
  exact ⟨⟨h.ok d hx, by omega, h.dp d hx⟩, by omega⟩
theorem sum_rev {f : D → Nat} : ∀ xs : List D, (xs.reverse.map f).sum = (xs.map f).sum
  | [] => rfl
  | x :: xs => by simp only [List.reverse_cons, List.map_append, List.sum_append, List.map_cons, List.sum_cons, List.map_nil, List.sum_nil, sum_rev xs]; omega
theorem Vls.rev (h : Vls m n e xs) : Vls m n e xs.reverse := ⟨fun x hx => h.ok x (by simpa using hx), by rw [sum_rev]; exact h.bk, fun x hx => h.dp x (by simpa using hx)⟩
theorem Vls.len (h : Vls m n e xs) : xs.length ≤ n := by
  have : ∀ ys : List D, ys.length ≤ (ys.map fun d => d.py.bulk + 1).sum := fun ys => by
    induction ys with
    | nil => simp
    | cons y ys ih => simp only [List.length_cons, List.map_cons, List.sum_cons]; omega
  exact Nat.le_trans (this xs) h.bk
theorem Vls.all (hb : ∀ d ∈ xs, Vl m n e d) : Vls m ((n + 1) * xs.length) e xs := by
  refine ⟨fun d hd => (hb d hd).ok, ?_, fun d hd => (hb d hd).dp⟩
  induction xs with
  | nil => simp
  | cons x xs ih =>
    have h1 := (hb x (List.mem_cons_self ..)).bk
    have h2 := ih fun d hd => hb d (List.mem_cons_of_mem _ hd)
    simp only [List.map_cons, List.sum_cons, List.length_cons, Nat.mul_add, Nat.mul_one]
    omega
/-! the text of such a value -/
theorem log_lt {i : Nat} (h : i < 10 ^ 500) : i.log2 < 1920 := by
  by_cases z : i = 0
  · subst z; decide
  · refine (Nat.log2_lt z).mpr (Nat.lt_of_lt_of_le h ?_)
    decide +kernel
mutual
theorem vl_short (hm : m ≤ 500) : ∀ d : D, d.vl m = true → d.shw = true ∧ d.py.leavesShort 600 = true
  | .non, _ => ⟨rfl, rfl⟩
  | .bl _, _ => ⟨rfl, rfl⟩
  | .int i, q => by
    simp only [D.vl, decide_eq_true_eq] at q
    have q2 : i.natAbs < 10 ^ 500 := Nat.lt_of_lt_of_le q (Nat.pow_le_pow_right (by omega) hm)
    refine ⟨by simp only [D.shw, decide_eq_true_eq]; exact log_lt q2, ?_⟩
    simp only [D.py, PyData.leavesShort, decide_eq_true_eq]
    show (Str.ofString (toString i)).length ≤ 600
    have := int_text_length_le10 (a := i) (k := 500) (by omega) q2
    rw [ofString_length]; omega
  | .str x, q => by
    simp only [D.vl, List.all_eq_true, decide_eq_true_eq] at q
    refine ⟨rfl, ?_⟩
    simp only [D.py, PyData.leavesShort, List.all_eq_true, decide_eq_true_eq]
    intro c hc
    have := q c hc
    omega
  | .tup xs, q => by simp only [D.vl] at q; simp only [D.shw, D.py, PyData.leavesShort]; exact vls_short hm xs q
  | .lst xs, q => by simp only [D.vl] at q; simp only [D.shw, D.py, PyData.leavesShort]; exact vls_short hm xs q
  | .dct t ks vs, q => by
    simp only [D.vl, Bool.and_eq_true, List.isEmpty_iff, Bool.not_eq_true'] at q
    obtain ⟨⟨rfl, rfl⟩, rfl⟩ := q
    exact ⟨rfl, rfl⟩
  | .ref _, q => by cases q
  | .scr _, q => by cases q
  | .ins _ _ _, q => by cases q
theorem vls_short (hm : m ≤ 500) : ∀ ds : List D, D.vls m ds = true → D.shws ds = true ∧ PyData.leavesShortAll 600 (D.pys ds) = true
  | [], _ => ⟨rfl, rfl⟩
  | d :: ds, q => by
    simp only [D.vls, Bool.and_eq_true] at q
    have h1 := vl_short hm d q.1
    have h2 := vls_short hm ds q.2
    simp only [D.shws, D.pys, PyData.leavesShortAll, h1, h2, Bool.and_self, and_self]
end
theorem Vl.repr (h : Vl m n e d) (hm : m ≤ 500) (hn : n ≤ 25000) (he : e ≤ 64) : reprD d = some (.str d.py.shown) := by
  obtain ⟨h1, h2⟩ := vl_short hm d h.ok
  have h3 := PyData.shown_le_bulk 600 (by omega) d.py h2
  have h4 := h.bk
  have h5 := h.dp
  unfold reprD
  have e1 : (d.shw && decide (d.py.depth ≤ 64) && decide (d.py.shown.length ≤ 16000000)) = true := by
    simp only [Bool.and_eq_true, decide_eq_true_eq]
    refine ⟨⟨h1, by omega⟩, ?_⟩
    have : (600 + 2) * d.py.bulk ≤ 602 * 25000 := Nat.mul_le_mul (by omega) (by omega)
    omega
  rw [e1]
  rfl
end
theorem cut_take {α : Type} (xs : List α) {i : Int} (h : 0 ≤ i) : cutD xs none (some i) = xs.take i.toNat := by
  unfold cutD
  have e1 : HT.sIx xs.length 0 none = 0 := rfl
  have e2 : HT.sIx xs.length xs.length (some i) = min i.toNat xs.length := by
    show (if i < 0 then (i + (xs.length : Int)).toNat else min i.toNat xs.length) = _
    rw [if_neg (by omega)]
  rw [e1, e2, List.drop_zero, Nat.sub_zero]
  by_cases q : i.toNat ≤ xs.length
  · rw [Nat.min_eq_left q]
  · rw [Nat.min_eq_right (by omega), List.take_length, List.take_of_length_le (by omega)]
theorem cut_drop {α : Type} (xs : List α) {i : Int} (h : 0 ≤ i) : cutD xs (some i) none = xs.drop i.toNat := by
  unfold cutD
  have e1 : HT.sIx xs.length xs.length none = xs.length := rfl
  have e2 : HT.sIx xs.length 0 (some i) = min i.toNat xs.length := by
    show (if i < 0 then (i + (xs.length : Int)).toNat else min i.toNat xs.length) = _
    rw [if_neg (by omega)]
  rw [e1, e2]
  by_cases q : i.toNat ≤ xs.length
  · rw [Nat.min_eq_left q, List.take_of_length_le (by simp)]
  · rw [Nat.min_eq_right (by omega), Nat.sub_self, List.take_zero, List.drop_of_length_le (by omega)]
end Fw
namespace Fw
open PySem
def oddB (pick : Nat) : Cs := (.cons (.set (.nm 1) (.frz (.disp (.cons .non (.cons (.bl true) (.cons (.bl false) (.cons (.int 0) (.cons (.int 1) (.cons (.un .USub (.int 1)) (.cons (.int 2) (.cons (.int 6) (.cons (.int 7) (.cons (.str "") (.cons (.str "take") (.cons (.str "leaves") (.cons (.tup .nil) (.cons (.frz (.disp .nil)) (.cons .dict0 (.cons (.tup (.cons (.tup .nil) .nil)) (.cons (.tup (.cons (.int 0) .nil)) .nil)))))))))))))))))))) (.cons (.set (.nm 1) (.frz (.cat (.nm 1) (.frz (.disp (.cons (.tup (.cons .non .nil)) (.cons (.tup (.cons (.int 1) (.cons (.int 2) .nil))) (.cons (.tup (.cons (.int 2) (.cons (.int 1) .nil))) (.cons (.tup (.cons (.int 1) (.cons (.int 2) (.cons (.int 3) .nil)))) (.cons (.frz (.disp (.cons (.int 1) (.cons (.int 2) .nil)))) (.cons (.bin .Pow (.int 10) (.int 39)) (.cons (.tup (.cons (.bl true) (.cons (.int 2) .nil))) (.cons (.str "a b") (.cons (.tup (.cons .non (.cons .non .nil))) .nil)))))))))))))) (.cons (.ret (.call pick (.cons (.nm 0) (.cons (.frz (.cat (.nm 1) (.frz (.disp (.cons (.tup (.cons (.tup (.cons (.int 1) (.cons (.int 2) .nil))) (.cons .non (.cons (.str "take") (.cons (.int 0) .nil))))) (.cons (.tup (.cons (.tup (.cons (.tup (.cons (.int 1) (.cons (.int 2) .nil))) (.cons .non (.cons (.str "take") (.cons (.int 0) .nil))))) .nil)) .nil)))))) .nil)))) .nil)))
def otherB (dip odd : Nat) : Cs := (.cons (.set (.nm 2) (.call dip (.cons (.nm 0) (.cons (.int 6) .nil)))) (.cons (.ifs (.and (.cons (.val (.isi (.nm 1) [.int])) (.cons (.not (.val (.isi (.nm 1) [.bool]))) (.cons (.cmp .Lt (.nm 2) (.int 4)) .nil)))) (.cons (.ret (.bin .Add (.nm 1) (.sub (.frz (.disp (.cons (.int 1) (.cons (.un .USub (.int 1)) (.cons (.int 7) (.cons (.un .USub (.int 13)) .nil)))))) (.nm 2)))) .nil) .nil) (.cons (.ifs (.and (.cons (.val (.isi (.nm 1) [.tuple])) (.cons (.cmp .Lt (.nm 2) (.int 5)) .nil))) (.cons (.ifs (.cmp .Eq (.nm 2) (.int 0)) (.cons (.ret (.frz (.list (.nm 1)))) .nil) .nil) (.cons (.ifs (.and (.cons (.cmp .Lt (.nm 2) (.int 3)) (.cons (.cmp .NotEq (.nm 1) (.tup .nil)) .nil))) (.cons (.set (.nm 3) (.call dip (.cons (.nm 0) (.cons (.bi .len (.cons (.nm 1) .nil)) .nil)))) (.cons (.ret (.ite (.cmp .Eq (.nm 2) (.int 1)) (.bin .Add (.slice (.nm 1) .no (.so (.nm 3))) (.slice (.nm 1) (.so (.bin .Add (.nm 3) (.int 1))) .no)) (.bin .Add (.nm 1) (.tup (.cons (.sub (.nm 1) (.nm 3)) .nil))))) .nil)) .nil) (.cons (.ret (.ite (.cmp .Eq (.nm 2) (.int 3)) (.bin .Add (.nm 1) (.tup (.cons (.call odd (.cons (.nm 0) .nil)) .nil))) (.rev (.nm 1)))) .nil))) .nil) (.cons (.ifs (.and (.cons (.val (.isi (.nm 1) [.str])) (.cons (.cmp .Lt (.nm 2) (.int 3)) .nil))) (.cons (.ret (.sub (.frz (.disp (.cons (.bin .Add (.nm 1) (.str "s")) (.cons (.slice (.nm 1) .no (.so (.int 1))) (.cons (.upper (.nm 1)) .nil))))) (.nm 2))) .nil) .nil) (.cons (.ret (.call odd (.cons (.nm 0) .nil))) .nil)))))
def spoiltB (dip other spoilt : Nat) : Cs := (.cons (.ifs (.and (.cons (.val (.isi (.nm 1) [.tuple])) (.cons (.cmp .NotEq (.nm 1) (.tup .nil)) (.cons (.cmp .Gt (.call dip (.cons (.nm 0) (.cons (.int 5) .nil))) (.int 0)) .nil)))) (.cons (.set (.nm 2) (.call dip (.cons (.nm 0) (.cons (.bi .len (.cons (.nm 1) .nil)) .nil)))) (.cons (.ret (.bin .Add (.bin .Add (.slice (.nm 1) .no (.so (.nm 2))) (.tup (.cons (.call spoilt (.cons (.nm 0) (.cons (.sub (.nm 1) (.nm 2)) .nil))) .nil))) (.slice (.nm 1) (.so (.bin .Add (.nm 2) (.int 1))) .no))) .nil)) .nil) (.cons (.ret (.call other (.cons (.nm 0) (.cons (.nm 1) .nil)))) .nil))
/-- the defs that draw -/
structure Draw (pg : Pg) (dip pick : Nat) : Prop where
  hd : ∃ nm, pg.fns[dip]? = some ⟨nm, 4, 2, dipB⟩
  hp : ∃ nm, pg.fns[pick]? = some ⟨nm, 2, 2, pickB dip⟩
theorem Draw.dip_wp {pg : Pg} {dip pick k : Nat} (w : Draw pg dip pick) {s : S} (hs : Spr s) {n : Int} (h1 : 0 < n) (h2 : n < 1073741824) : (callN pg (k + 1) dip [.ref 0, .int n] s).wp fun d s' => (∃ i : Int, d = .int i ∧ 0 ≤ i ∧ i < n) ∧ Spr s' := by
  obtain ⟨nm, h⟩ := w.hd
  exact Fw.dip_wp h hs h1 h2
theorem Draw.pick_wp {pg : Pg} {dip pick k : Nat} (w : Draw pg dip pick) {s : S} (hs : Spr s) {xs : List D} (h1 : xs ≠ []) (h2 : xs.length ≤ lim) : (callN pg (k + 2) pick [.ref 0, .lst xs] s).wp fun d s' => d ∈ xs ∧ Spr s' := by
  obtain ⟨nm, h⟩ := w.hd
  obtain ⟨nm', h'⟩ := w.hp
  exact Fw.pick_wp h h' hs h1 h2
section
variable {pg : Pg} {k dip pick odd other spoilt : Nat} {nm : Str} {s : S}
/-- the defs that spoil -/
structure Spoil (pg : Pg) (dip pick odd other spoilt : Nat) : Prop extends Draw pg dip pick where
  ho : ∃ nm, pg.fns[odd]? = some ⟨nm, 2, 1, oddB pick⟩
  ht : ∃ nm, pg.fns[other]? = some ⟨nm, 4, 2, otherB dip odd⟩
  hx : ∃ nm, pg.fns[spoilt]? = some ⟨nm, 3, 2, spoiltB dip other spoilt⟩
end
end Fw
namespace Fw
open PySem
theorem eqv_int {i j : Int} : D.eqv (.int i) (.int j) = decide (i = j) := by
  unfold D.eqv
  simp only [D.py, PyData.eqv]
  first | rfl | (by_cases h : i = j <;> simp [h])
theorem eqv_str {x : Str} : D.eqv (.str x) (.str x) = true := by
  unfold D.eqv
  simp [D.py, PyData.eqv]
/-! ## V. receivers as the law draws them -/
inductive Deed where
  | take | keep | leave | drop
  deriving DecidableEq
def Deed.x : Deed → Str
  | .take => "take"
  | .keep => "keep"
  | .leave => "leave"
  | .drop => "drop"
def Deed.d (a : Deed) : D := .str a.x
def ob : Option Int → D
  | none => .non
  | some i => .int i
abbrev Rg := Option Int × Option Int
def Rg.d (r : Rg) : D := .tup [ob r.1, ob r.2]
def Rg.ok (r : Rg) : Prop := (∀ i, r.1 = some i → -6 ≤ i ∧ i ≤ 6) ∧ (∀ i, r.2 = some i → -6 ≤ i ∧ i ≤ 6) ∧ ∀ i j, r.1 = some i → r.2 = some j → i ≤ j
structure Row where
  ah : Rg
  af : Option Rg
  dd : Deed
  nx : Nat
def oR : Option Rg → D
  | none => .non
  | some r => r.d
def Row.d (r : Row) : D := .tup [r.ah.d, oR r.af, r.dd.d, .int r.nx]
structure Row.ok (n : Nat) (r : Row) : Prop where
  ah : r.ah.ok
  af : ∀ a, r.af = some a → a.ok
  kp : r.dd = .keep → (∃ i, r.ah.1 = some i) ∧ ∃ j, r.ah.2 = some j
  nx : r.nx < n
abbrev Rc := List (List Row)
def stD (st : List Row) : D := .tup (st.map Row.d)
def Rc.d (R : Rc) : D := .tup (R.map stD)
structure Rc.ok (m k : Nat) (R : Rc) : Prop where
  pos : 1 ≤ R.length
  len : R.length ≤ m
  row : ∀ st ∈ R, st.length ≤ k
  ok : ∀ st ∈ R, ∀ r ∈ st, r.ok R.length
def l_rangeB (fdip : Nat) : Cs := (.cons (.set (.nm 1) (.call fdip (.cons (.nm 0) (.cons (.int 9) .nil)))) (.cons (.set (.nm 2) (.ite (.cmp .Lt (.nm 1) (.int 6)) (.bin .Sub (.call fdip (.cons (.nm 0) (.cons (.int 13) .nil))) (.int 6)) (.bin .Add (.int 1) (.call fdip (.cons (.nm 0) (.cons (.int 6) .nil)))))) (.cons (.ifs (.cmp .Lt (.nm 1) (.int 3)) (.cons (.ret (.sub (.frz (.disp (.cons (.tup (.cons .non (.cons (.nm 2) .nil))) (.cons (.tup (.cons (.nm 2) (.cons .non .nil))) (.cons (.tup (.cons .non (.cons .non .nil))) .nil))))) (.nm 1))) .nil) .nil) (.cons (.ret (.tup (.cons (.nm 2) (.cons (.bin .Add (.nm 2) (.call fdip (.cons (.nm 0) (.cons (.bin .Sub (.int 7) (.nm 2)) .nil)))) .nil)))) .nil))))
def l_rowB (fdip fpick frange : Nat) : Cs := (.cons (.set (.tup (.cons (.nm 3) (.cons (.nm 4) .nil))) (.tup (.cons (.call frange (.cons (.nm 0) .nil)) (.cons .non .nil)))) (.cons (.ifs (.cmp .Eq (.call fdip (.cons (.nm 0) (.cons (.int 3) .nil))) (.int 0)) (.cons (.set (.nm 4) (.call fpick (.cons (.nm 0) (.cons (.frz (.disp (.cons (.tup (.cons (.int 1) (.cons (.int 1) .nil))) (.cons (.tup (.cons (.int 1) (.cons (.int 2) .nil))) (.cons (.tup (.cons (.int 0) (.cons (.int 0) .nil))) (.cons (.tup (.cons (.un .USub (.int 1)) (.cons (.int 1) .nil))) (.cons (.call frange (.cons (.nm 0) .nil)) .nil))))))) .nil)))) .nil) .nil) (.cons (.set (.nm 2) (.call fpick (.cons (.nm 0) (.cons (.frz (.disp (.cons (.str "take") (.cons (.str "take") (.cons (.str "keep") (.cons (.str "keep") (.cons (.str "leave") (.cons (.str "drop") .nil)))))))) .nil)))) (.cons (.ifs (.and (.cons (.cmp .Eq (.nm 2) (.str "keep")) (.cons (.cmp .In .non (.nm 3)) .nil))) (.cons (.set (.nm 2) (.str "leave")) .nil) .nil) (.cons (.ret (.tup (.cons (.nm 3) (.cons (.nm 4) (.cons (.nm 2) (.cons (.call fdip (.cons (.nm 0) (.cons (.nm 1) .nil))) .nil)))))) .nil)))))
def l_windowB : Cs := (.cons (.ret (.tup (.cons (.tup (.cons (.tup (.cons (.tup (.cons (.int 1) (.cons (.nm 0) .nil))) (.cons .non (.cons (.str "take") (.cons (.int 0) .nil))))) .nil)) .nil))) .nil)
def l_pairedB : Cs := (.cons (.par [4, 5] [(.v (.tup (.cons (.bin .Add (.nm 0) (.int 1)) (.cons (.nm 1) .nil)))), (.o (.disp .nil))]) (.cons (.fors (.nm 3) (.range1 (.nm 2)) (.cons (.own 6 (.disp (.cons (.tup (.cons (.tup (.cons (.int 1) (.cons (.nm 0) .nil))) (.cons .non (.cons (.str "take") (.cons (.int 0) .nil))))) .nil))) (.cons (.ifs (.cmp .Gt (.nm 3) (.int 0)) (.cons (.app 6 (.ite (.cmp .Eq (.nm 3) (.bin .Sub (.nm 2) (.int 1))) (.tup (.cons (.nm 4) (.cons (.tup (.cons (.int 1) (.cons (.int 1) .nil))) (.cons (.str "take") (.cons (.int 0) .nil))))) (.tup (.cons (.nm 4) (.cons (.tup (.cons (.int 1) (.cons (.int 1) .nil))) (.cons (.str "keep") (.cons (.bin .Add (.nm 3) (.int 1)) .nil))))))) .nil) .nil) (.cons (.app 5 (.bi .tuple (.cons (.frz (.cat (.pk 6) (.frz (.disp (.cons (.tup (.cons (.nm 4) (.cons .non (.cons (.str "keep") (.cons (.int 1) .nil))))) .nil))))) .nil))) .nil)))) (.cons (.ret (.bi .tuple (.cons (.pk 5) .nil))) .nil)))
def l_receiverB (fdip frow fwindow fpaired : Nat) : Cs := (.cons (.set (.nm 3) (.call fdip (.cons (.nm 0) (.cons (.int 8) .nil)))) (.cons (.ifs (.cmp .Eq (.nm 3) (.int 0)) (.cons (.ret (.call fwindow (.cons (.bin .Add (.int 1) (.call fdip (.cons (.nm 0) (.cons (.int 6) .nil)))) .nil))) .nil) .nil) (.cons (.ifs (.and (.cons (.cmp .Eq (.nm 3) (.int 1)) (.cons (.cmp .Gt (.nm 1) (.int 1)) (.cons (.cmp .Gt (.nm 2) (.int 2)) .nil)))) (.cons (.set (.nm 7) (.bin .Add (.int 1) (.call fdip (.cons (.nm 0) (.cons (.int 5) .nil))))) (.cons (.ret (.call fpaired (.cons (.nm 7) (.cons (.bin .Add (.bin .Add (.nm 7) (.int 1)) (.call fdip (.cons (.nm 0) (.cons (.bin .Sub (.int 6) (.nm 7)) .nil)))) (.cons (.bin .Add (.int 2) (.call fdip (.cons (.nm 0) (.cons (.bin .Sub (.nm 1) (.int 1)) .nil)))) .nil))))) .nil)) .nil) (.cons (.set (.nm 4) (.bin .Add (.int 1) (.call fdip (.cons (.nm 0) (.cons (.nm 1) .nil))))) (.cons (.own 5 (.disp .nil)) (.cons (.fors (.nm 6) (.range1 (.nm 4)) (.cons (.app 5 (.bi .tuple (.cons (.frz (.comp (.nm 8) (.range1 (.call fdip (.cons (.nm 0) (.cons (.bin .Add (.nm 2) (.int 1)) .nil)))) .nil (.call frow (.cons (.nm 0) (.cons (.nm 4) .nil))) [8])) .nil))) .nil)) (.cons (.ret (.bi .tuple (.cons (.pk 5) .nil))) .nil)))))))
def l_lastB (fpick : Nat) : Cs := (.cons (.ret (.call fpick (.cons (.nm 0) (.cons (.frz (.disp (.cons (.int 0) (.cons (.int 0) (.cons (.int 7) (.cons (.un .USub (.int 3)) (.cons (.bin .Pow (.int 10) (.int 30)) (.cons (.un .USub (.bin .Pow (.int 10) (.int 30))) (.cons (.int 5) .nil))))))))) .nil)))) .nil)
/-- one behind another, by what stands between -/
theorem c_seq {gl : List D} {call : Nat → List D → S → R D} {W : Nat} {env : Env} {s : S} {p : Ps} {c : C} {cs : Cs} (M : Env → S → Prop) (h1 : (evC gl call W c env s).wc ⟨M, p.rt, p.bk, p.ct⟩) (h2 : ∀ env s, M env s → (evCs gl call W cs env s).wc p) : (evCs gl call W (.cons c cs) env s).wc p := by
  refine c_cons ?_
  unfold R.wc at h1 ⊢
  refine h1.mono fun f s h => ?_
  cases f with
  | next env => exact h2 env s h
  | ret d => exact h
  | brk env => exact h
  | cont env => exact h
  | exn _ _ => exact h.elim
theorem rngD_cons {i b : Int} (h : i < b) : rngD i b = .int i :: rngD (i + 1) b := by
  unfold rngD
  obtain ⟨n, hn⟩ : ∃ n : Nat, (b - i).toNat = n + 1 := ⟨(b - i).toNat - 1, by omega⟩
  have h2 : (b - (i + 1)).toNat = n := by omega
  rw [hn, h2, List.range_succ_eq_map, List.map_cons, List.map_map]
  congr 1
  · simp
  · apply List.map_congr_left
    intro x _
    simp only [Function.comp_apply, Nat.succ_eq_add_one]
    congr 1
    omega
theorem rngD_nil {i b : Int} (h : b ≤ i) : rngD i b = [] := by
  unfold rngD
  rw [show (b - i).toNat = 0 by omega]; rfl
theorem for_rng {p : Ps} {put : D → Env → Option Env} {body : Env → S → R Fl} {a b : Int} {env : Env} {s : S} (I : Int → Env → S → Prop) (hab : a ≤ b) (h : I a env s) (step : ∀ i env s, a ≤ i → i < b → I i env s → ∃ env1, put (.int i) env = some env1 ∧ (body env1 s).wc ⟨I (i + 1), p.rt, p.nx, I (i + 1)⟩)
    (last : ∀ env s, I b env s → p.nx env s) : (forL put body (rngD a b) env s).wc p := by
  refine forL_wc (fun ds env s => ∃ i, a ≤ i ∧ i ≤ b ∧ ds = rngD i b ∧ I i env s) (fun d ds env s ⟨i, h1, h2, h3, h4⟩ => ?_) (fun env s ⟨i, h1, h2, h3, h4⟩ => ?_) _ _ _ ⟨a, Int.le_refl _, hab, rfl, h⟩
  · by_cases hi : i < b
    · rw [rngD_cons hi] at h3
      cases h3
      obtain ⟨env1, e1, e2⟩ := step i env s h1 hi h4
      refine ⟨env1, e1, ?_⟩
      unfold R.wc at e2 ⊢
      refine e2.mono fun f s hf => ?_
      cases f with
      | next env => exact ⟨i + 1, by omega, by omega, rfl, hf⟩
      | cont env => exact ⟨i + 1, by omega, by omega, rfl, hf⟩
      | ret d => exact hf
      | brk env => exact hf
      | exn _ _ => exact hf.elim
    · rw [rngD_nil (by omega)] at h3
      cases h3
  · by_cases hi : i < b
    · rw [rngD_cons hi] at h3
      cases h3
    · have : i = b := by omega
      subst this
      exact last env s h4
section
variable {pg : Pg} {k dip pick : Nat} {nm : Str} {s : S}
theorem range_wp {f : Nat} (w : Draw pg dip pick) (hf : ∃ nm, pg.fns[f]? = some ⟨nm, 3, 1, l_rangeB dip⟩) (hs : Spr s) : (callN pg (k + 2) f [.ref 0] s).wp fun d s' => (∃ r : Rg, d = r.d ∧ r.ok) ∧ Spr s' := by
  obtain ⟨nm, hf⟩ := hf
  refine callN_wc hf rfl ?_
  unfold l_rangeB
  kd_adr
  ksw_less
  refine (w.dip_wp hs (by decide) (by decide)).mono fun _ s ⟨⟨way, ew, y1, y2⟩, hs⟩ => ?_
  subst ew
  ksw_less
  kst_mem
  have rest : ∀ (low : Int) (s : S), Spr s → -6 ≤ low → low ≤ 6 → (callN pg (k + 1) dip [.ref 0, .int (7 - low)] s).wp fun d s' => ∃ z : Int, d = .int z ∧ 0 ≤ z ∧ low + z ≤ 6 ∧ Spr s' := fun low s hs h1 h2 =>
    (w.dip_wp hs (by omega) (by omega)).mono fun d s ⟨⟨z, e, z1, z2⟩, hs⟩ => ⟨z, e, z1, by omega, hs⟩
  have two : ∀ (low z : Int), -6 ≤ low → low ≤ 6 → 0 ≤ z → low + z ≤ 6 → ∃ r : Rg, D.tup [.int low, .int (low + z)] = r.d ∧ r.ok := fun low z h1 h2 h3 h4 =>
    ⟨(some low, some (low + z)), rfl, fun i e => (by cases e; omega), fun i e => (by cases e; omega), fun i j e e' => (by cases e; cases e'; omega)⟩
  refine andD (fun h6 => ?_) (fun h6 => ?_)
  · ksw_less
    refine (w.dip_wp hs (by decide) (by decide)).mono fun _ s ⟨⟨l, el, l1, l2⟩, hs⟩ => ?_
    subst el
    ksw_less
    kst_mem
    refine andD (fun h3 => ?_) (fun h3 => ?_)
    · have hw : way = 0 ∨ way = 1 ∨ way = 2 := by omega
      rcases hw with rfl | rfl | rfl <;> ksw_less
      · exact ⟨⟨(none, some (l - 6)), rfl, fun i e => (by cases e), fun i e => (by cases e; omega), fun i j e => (by cases e)⟩, hs⟩
      · exact ⟨⟨(some (l - 6), none), rfl, fun i e => (by cases e; omega), fun i e => (by cases e), fun i j _ e => (by cases e)⟩, hs⟩
      · exact ⟨⟨(none, none), rfl, fun i e => (by cases e), fun i e => (by cases e), fun i j e => (by cases e)⟩, hs⟩
    · ksw_less
      refine (rest (l - 6) s hs (by omega) (by omega)).mono fun d s ⟨z, e, z1, z2, hs⟩ => ?_
      subst e
      ksw_less
      exact ⟨two _ _ (by omega) (by omega) z1 z2, hs⟩
  · ksw_less
    refine (w.dip_wp hs (by decide) (by decide)).mono fun _ s ⟨⟨l, el, l1, l2⟩, hs⟩ => ?_
    subst el
    ksw_less
    kst_mem
    refine andD (fun h3 => by omega) (fun h3 => ?_)
    ksw_less
    refine (rest (1 + l) s hs (by omega) (by omega)).mono fun d s ⟨z, e, z1, z2, hs⟩ => ?_
    subst e
    ksw_less
    exact ⟨two _ _ (by omega) (by omega) z1 z2, hs⟩
theorem rg_lit {a b : Int} (h : -6 ≤ a ∧ a ≤ b ∧ b ≤ 6) : ∃ r : Rg, D.tup [.int a, .int b] = r.d ∧ r.ok := ⟨(some a, some b), rfl, fun i e => (by cases e; omega), fun i e => (by cases e; omega), fun i j e e' => (by cases e; cases e'; omega)⟩
theorem deed_eq (a b : Deed) : D.eqv a.d b.d = decide (a = b) := by cases a <;> cases b <;> decide +kernel
theorem non_in (r : Rg) : ∃ b, cmpop .In .non r.d = some b ∧ (b = false → (∃ i, r.1 = some i) ∧ ∃ j, r.2 = some j) := by
  obtain ⟨a, b⟩ := r
  cases a <;> cases b
  · exact ⟨true, rfl, by simp⟩
  · exact ⟨true, rfl, by simp⟩
  · exact ⟨true, rfl, by simp⟩
  · exact ⟨false, rfl, fun _ => ⟨⟨_, rfl⟩, ⟨_, rfl⟩⟩⟩
theorem row_wp {f rg : Nat} {n : Int} (w : Draw pg dip pick) (hr : ∃ nm, pg.fns[rg]? = some ⟨nm, 3, 1, l_rangeB dip⟩) (hf : ∃ nm, pg.fns[f]? = some ⟨nm, 5, 2, l_rowB dip pick rg⟩) (hs : Spr s) (h1 : 0 < n) (h2 : n < 1000) :
    (callN pg (k + 3) f [.ref 0, .int n] s).wp fun d s' => (∃ r : Row, d = r.d ∧ r.ok n.toNat) ∧ Spr s' := by
  obtain ⟨nm, hf⟩ := hf
  refine callN_wc hf rfl ?_
  unfold l_rowB
  kd_adr
  refine c_cons ?_
  kd_mem
  refine (range_wp w hr hs).mono fun d s ⟨⟨ra, ed, hra⟩, hs⟩ => ?_
  subst ed
  kd_mem
  kst_mem
  refine c_seq (fun env s => Spr s ∧ ∃ af, env = [some (.val (.ref 0)), some (.val (.int n)), none, some (.val ra.d), some (.val (oR af))] ∧ ∀ a, af = some a → a.ok) ?_ ?_
  · kd_mem
    refine (w.dip_wp hs (by decide) (by decide)).mono fun _ s ⟨⟨i, ei, i1, i2⟩, hs⟩ => ?_
    subst ei
    kd_mem
    rw [eqv_int]
    refine andD (fun _ => ?_) (fun _ => ?_)
    · ksw_less
      refine (range_wp w hr hs).mono fun d s ⟨⟨rb, ed, hrb⟩, hs⟩ => ?_
      subst ed
      ksw_less
      refine (w.pick_wp hs (by simp) (by simp [lim])).mono fun d s ⟨hd, hs⟩ => ?_
      have hd' : ∃ r : Rg, d = r.d ∧ r.ok := by
        simp only [List.mem_cons, List.not_mem_nil, or_false] at hd
        rcases hd with rfl | rfl | rfl | rfl | rfl
        · exact rg_lit (by decide)
        · exact rg_lit (by decide)
        · exact rg_lit (by decide)
        · exact rg_lit (by decide)
        · exact ⟨rb, rfl, hrb⟩
      obtain ⟨r, rfl, hr⟩ := hd'
      ksw_less
      exact ⟨hs, some r, rfl, fun a e => by cases e; exact hr⟩
    · ksw_less
      exact ⟨hs, none, rfl, fun a e => by cases e⟩
  rintro env s ⟨hs, af, rfl, haf⟩
  refine c_cons ?_
  kd_mem
  refine (w.pick_wp hs (by simp) (by simp [lim])).mono fun d s ⟨hd, hs⟩ => ?_
  have hd' : ∃ dd : Deed, d = dd.d := by
    simp only [List.mem_cons, List.not_mem_nil, or_false] at hd
    rcases hd with rfl | rfl | rfl | rfl | rfl | rfl
    · exact ⟨.take, rfl⟩
    · exact ⟨.take, rfl⟩
    · exact ⟨.keep, rfl⟩
    · exact ⟨.keep, rfl⟩
    · exact ⟨.leave, rfl⟩
    · exact ⟨.drop, rfl⟩
  obtain ⟨dd, rfl⟩ := hd'
  kst_mem
  refine c_seq (fun env s => Spr s ∧ ∃ dd : Deed, env = [some (.val (.ref 0)), some (.val (.int n)), some (.val dd.d), some (.val ra.d), some (.val (oR af))] ∧ (dd = .keep → (∃ i, ra.1 = some i) ∧ ∃ j, ra.2 = some j)) ?_ ?_
  · refine c_ifs (t_and (t_cmp (e_nm ⟨_, rfl, e_str ⟨decide (dd = .keep), ?_, ?_⟩⟩)))
    · show guardB true (some (D.eqv dd.d Deed.keep.d)) = _
      rw [deed_eq]; rfl
    · refine andD (fun hk => ?_) (fun hk => ?_)
      · subst hk
        obtain ⟨b, hb, hb2⟩ := non_in ra
        refine t_and (t_cmp (e_non (e_nm ⟨_, rfl, b, hb, ?_⟩)))
        cases b with
        | true => ksw_less; exact ⟨hs, .leave, rfl, fun e => by cases e⟩
        | false => ksw_less; exact ⟨hs, .keep, rfl, fun _ => hb2 rfl⟩
      · ksw_less
        exact ⟨hs, dd, rfl, fun e => absurd e hk⟩
  rintro env s ⟨hs, dd, rfl, hk⟩
  ksw_less
  refine (w.dip_wp hs h1 (by omega)).mono fun _ s ⟨⟨j, ej, j1, j2⟩, hs⟩ => ?_
  subst ej
  ksw_less
  refine ⟨⟨⟨ra, af, dd, j.toNat⟩, ?_, hra, haf, hk, by show j.toNat < n.toNat; omega⟩, hs⟩
  show D.tup _ = D.tup _
  rw [Int.toNat_of_nonneg j1]
theorem window_wp {f : Nat} {n : Int} (hf : ∃ nm, pg.fns[f]? = some ⟨nm, 1, 1, l_windowB⟩) : (callN pg (k + 1) f [.int n] s).wp fun d s' => d = Rc.d [[⟨(some 1, some n), none, .take, 0⟩]] ∧ s' = s := by
  obtain ⟨nm, hf⟩ := hf
  refine callN_wc hf rfl ?_
  unfold l_windowB
  kd_adr
  ksw_less
  exact ⟨rfl, rfl⟩
theorem paired_wp {f : Nat} {a b t : Int} (hf : ∃ nm, pg.fns[f]? = some ⟨nm, 7, 3, l_pairedB⟩) (h1 : 1 ≤ a) (h2 : a + 1 ≤ b) (h3 : b ≤ 6) (h4 : 2 ≤ t) (h5 : t ≤ 100) :
    (callN pg (k + 1) f [.int a, .int b, .int t] s).wp fun d s' => (∃ R : Rc, d = R.d ∧ R.length = t.toNat ∧ ∀ st ∈ R, st.length ≤ 3 ∧ ∀ r ∈ st, r.ok t.toNat) ∧ s' = s := by
  obtain ⟨nm, hf⟩ := hf
  refine callN_wc hf rfl ?_
  unfold l_pairedB
  kd_adr
  ksw_less
  simp only [setAll]
  kst_mem
  refine rng_wp (by omega) (by omega) ?_
  refine for_rng (fun i env s' => s' = s ∧ ∃ R : Rc, R.length = i.toNat ∧ (∀ st ∈ R, st.length ≤ 3 ∧ ∀ r ∈ st, r.ok t.toNat) ∧ ∃ x3 x6, env = [some (.val (.int a)), some (.val (.int b)), some (.val (.int t)), x3, some (.val (.tup [.int (a + 1), .int b])), some (.own (R.map stD)), x6]) (by omega)
    ⟨rfl, [], rfl, (fun _ h => by cases h), _, _, rfl⟩ ?_ ?_
  · rintro i env s' i1 i2 ⟨rfl, R, hR, hok, x3, x6, rfl⟩
    refine ⟨_, rfl, ?_⟩
    have z1 : Rg.ok (some (a + 1), some b) := ⟨fun i e => by cases e; omega, fun i e => by cases e; omega, fun i j e e' => by cases e; cases e'; omega⟩
    have z2 : Rg.ok (some 1, some a) := ⟨fun i e => by cases e; omega, fun i e => by cases e; omega, fun i j e e' => by cases e; cases e'; omega⟩
    have z3 : Rg.ok (some 1, some 1) := ⟨fun i e => by cases e; omega, fun i e => by cases e; omega, fun i j e e' => by cases e; cases e'; omega⟩
    have r0 : Row.ok t.toNat ⟨(some 1, some a), none, .take, 0⟩ := ⟨z2, fun _ e => (by cases e), fun e => (by cases e), by show 0 < t.toNat; omega⟩
    have rz : Row.ok t.toNat ⟨(some (a + 1), some b), none, .keep, 1⟩ := ⟨z1, fun _ e => (by cases e), fun _ => ⟨⟨_, rfl⟩, ⟨_, rfl⟩⟩, by show 1 < t.toNat; omega⟩
    have fin : ∀ (rs : List Row) (x6 : Option Sl), rs.length ≤ 2 → (∀ r ∈ rs, r.ok t.toNat) → ∃ R' : Rc, R'.length = (i + 1).toNat ∧ (∀ st ∈ R', st.length ≤ 3 ∧ ∀ r ∈ st, r.ok t.toNat) ∧ R'.map stD = R.map stD ++ [D.tup (rs.map Row.d ++ [D.tup [.tup [.int (a + 1), .int b], .non, .str "keep", .int 1]])] := fun rs x6 hl hr => by
      refine ⟨R ++ [rs ++ [⟨(some (a + 1), some b), none, .keep, 1⟩]], by simp [hR]; omega, fun st hst => ?_, by simp [stD]; rfl⟩
      rcases List.mem_append.mp hst with h | h
      · exact hok st h
      · simp only [List.mem_cons, List.not_mem_nil, or_false] at h
        subst h
        refine ⟨by simp; omega, fun r hr' => ?_⟩
        rcases List.mem_append.mp hr' with h | h
        · exact hr r h
        · simp only [List.mem_cons, List.not_mem_nil, or_false] at h
          subst h
          exact rz
    have hRl : (R.map stD).length < lim := by unfold lim; simp [hR]; omega
    kst_mem
    refine c_cons ?_
    kd_mem
    kst_mem
    refine c_seq (fun env s'' => s'' = s' ∧ ∃ rs : List Row, rs.length ≤ 2 ∧ (∀ r ∈ rs, r.ok t.toNat) ∧ env = [some (.val (.int a)), some (.val (.int b)), some (.val (.int t)), some (.val (.int i)), some (.val (.tup [.int (a + 1), .int b])), some (.own (R.map stD)), some (.own (rs.map Row.d))]) ?_ ?_
    · kd_mem
      refine andD (fun hi => ?_) (fun hi => ?_)
      · ksw_less
        rw [eqv_int]
        refine andD (fun hk => ?_) (fun hk => ?_)
        · ksw_less
          refine ⟨by simp [lim], ?_⟩
          ksw_less
          refine ⟨rfl, [⟨(some 1, some a), none, .take, 0⟩, ⟨(some (a + 1), some b), some (some 1, some 1), .take, 0⟩], by simp, fun r hr => ?_, rfl⟩
          simp only [List.mem_cons, List.not_mem_nil, or_false] at hr
          rcases hr with rfl | rfl
          · exact r0
          · exact ⟨z1, fun _ e => by cases e; exact z3, fun e => (by cases e), by show 0 < t.toNat; omega⟩
        · ksw_less
          refine ⟨by simp [lim], ?_⟩
          ksw_less
          refine ⟨rfl, [⟨(some 1, some a), none, .take, 0⟩, ⟨(some (a + 1), some b), some (some 1, some 1), .keep, (i + 1).toNat⟩], by simp, fun r hr => ?_, ?_⟩
          · simp only [List.mem_cons, List.not_mem_nil, or_false] at hr
            rcases hr with rfl | rfl
            · exact r0
            · exact ⟨z1, fun _ e => by cases e; exact z3, fun _ => ⟨⟨_, rfl⟩, ⟨_, rfl⟩⟩, by show (i + 1).toNat < t.toNat; omega⟩
          · have e1 : ((i + 1).toNat : Int) = i + 1 := Int.toNat_of_nonneg (by omega)
            show _ = [_, _, _, _, _, _, some (Sl.own [_, D.tup [_, _, _, D.int ((i + 1).toNat : Int)]])]
            rw [e1]; rfl
      · ksw_less
        exact ⟨rfl, [⟨(some 1, some a), none, .take, 0⟩], by simp, fun r hr => (by simp only [List.mem_cons, List.not_mem_nil, or_false] at hr; subst hr; exact r0), rfl⟩
    rintro env s' ⟨rfl, rs, hl, hr, rfl⟩
    ksw_less
    refine ⟨_, _, rfl, rfl, by simp [lim]; omega, ?_⟩
    ksw_less
    refine ⟨hRl, ?_⟩
    ksw_less
    obtain ⟨R', e1, e2, e3⟩ := fin rs none hl hr
    exact ⟨rfl, R', e1, e2, _, _, by rw [e3]; rfl⟩
  · rintro env s' ⟨rfl, R, hR, hok, x3, x6, rfl⟩
    ksw_less
    exact ⟨⟨R, rfl, hR, hok⟩, rfl⟩
/-- the defs that draw receivers -/
structure Recv (pg : Pg) (dip pick rg row win par rcv : Nat) : Prop extends Draw pg dip pick where
  hr : ∃ nm, pg.fns[rg]? = some ⟨nm, 3, 1, l_rangeB dip⟩
  hw : ∃ nm, pg.fns[row]? = some ⟨nm, 5, 2, l_rowB dip pick rg⟩
  hi : ∃ nm, pg.fns[win]? = some ⟨nm, 1, 1, l_windowB⟩
  ha : ∃ nm, pg.fns[par]? = some ⟨nm, 7, 3, l_pairedB⟩
  hv : ∃ nm, pg.fns[rcv]? = some ⟨nm, 9, 3, l_receiverB dip row win par⟩
theorem receiver_wp {rg row win par rcv : Nat} {m n : Int} (w : Recv pg dip pick rg row win par rcv) (hs : Spr s) (m1 : 1 ≤ m) (m2 : m ≤ 50) (n1 : 1 ≤ n) (n2 : n ≤ 50) :
    (callN pg (k + 4) rcv [.ref 0, .int m, .int n] s).wp fun d s' => (∃ R : Rc, d = R.d ∧ R.ok m.toNat n.toNat) ∧ Spr s' := by
  obtain ⟨nm, hf⟩ := w.hv
  refine callN_wc hf rfl ?_
  unfold l_receiverB
  kd_adr
  refine c_cons ?_
  kd_mem
  refine (w.toDraw.dip_wp hs (by decide) (by decide)).mono fun _ s ⟨⟨way, ew, y1, y2⟩, hs⟩ => ?_
  subst ew
  kst_mem
  refine c_cons ?_
  kd_mem
  rw [eqv_int]
  refine andD (fun hw => ?_) (fun hw => ?_)
  · ksw_less
    refine (w.toDraw.dip_wp hs (by decide) (by decide)).mono fun _ s ⟨⟨z, ez, z1, z2⟩, hs⟩ => ?_
    subst ez
    ksw_less
    refine (window_wp w.hi).mono fun d s' ⟨ed, es⟩ => ?_
    subst ed es
    refine ⟨⟨_, rfl, by simp, by simp; omega, fun st hst => ?_, fun st hst r hr => ?_⟩, hs⟩
    · simp only [List.mem_cons, List.not_mem_nil, or_false] at hst
      subst hst; simp; omega
    · simp only [List.mem_cons, List.not_mem_nil, or_false] at hst
      subst hst
      simp only [List.mem_cons, List.not_mem_nil, or_false] at hr
      subst hr
      exact ⟨⟨fun i e => by cases e; omega, fun i e => by cases e; omega, fun i j e e' => by cases e; cases e'; omega⟩, fun _ e => (by cases e), fun e => (by cases e), by simp⟩
  refine c_nil ?_
  refine c_seq (fun env s => Spr s ∧ env = [some (.val (.ref 0)), some (.val (.int m)), some (.val (.int n)), some (.val (.int way)), none, none, none, none, none]) ?_ ?_
  · kd_mem
    rw [eqv_int]
    refine andD (fun hw => ?_) (fun hw => ?_)
    · kd_mem
      refine andD (fun hm => ?_) (fun hm => ?_)
      · kd_mem
        refine andD (fun hn => ?_) (fun hn => ?_)
        · ksw_less
          refine (w.toDraw.dip_wp hs (by decide) (by decide)).mono fun _ s ⟨⟨z, ez, z1, z2⟩, hs⟩ => ?_
          subst ez
          ksw_less
          refine (w.toDraw.dip_wp hs (n := 6 - (1 + z)) (by omega) (by omega)).mono fun _ s ⟨⟨u, eu, u1, u2⟩, hs⟩ => ?_
          subst eu
          ksw_less
          refine (w.toDraw.dip_wp hs (n := m - 1) (by omega) (by omega)).mono fun _ s ⟨⟨v, ev, v1, v2⟩, hs⟩ => ?_
          subst ev
          ksw_less
          refine (paired_wp w.ha (by omega) (by omega) (by omega) (by omega) (by omega)).mono fun d s' ⟨⟨R, ed, h1, h2⟩, es⟩ => ?_
          subst ed es
          exact ⟨⟨R, rfl, by omega, by omega, fun st hst => by have := (h2 st hst).1; omega, fun st hst r hr => by rw [h1]; exact (h2 st hst).2 r hr⟩, hs⟩
        · ksw_less; exact ⟨hs, rfl⟩
      · ksw_less; exact ⟨hs, rfl⟩
    · ksw_less; exact ⟨hs, rfl⟩
  rintro env s ⟨hs, rfl⟩
  refine c_cons ?_
  kd_mem
  refine (w.toDraw.dip_wp hs (by omega) (by omega)).mono fun _ s ⟨⟨z, ez, z1, z2⟩, hs⟩ => ?_
  subst ez
  kd_mem
  kst_mem
  refine c_cons ?_
  kd_mem
  kst_mem
  refine c_cons ?_
  kd_mem
  refine rng_wp (by omega) (by omega) ?_
  refine for_rng (fun i env s => Spr s ∧ ∃ R : Rc, R.length = i.toNat ∧ (∀ st ∈ R, st.length ≤ n.toNat ∧ ∀ r ∈ st, r.ok (1 + z).toNat) ∧ ∃ x6 x7 x8, env = [some (.val (.ref 0)), some (.val (.int m)), some (.val (.int n)), some (.val (.int way)), some (.val (.int (1 + z))), some (.own (R.map stD)), x6, x7, x8]) (by omega)
    ⟨hs, [], rfl, (fun _ h => by cases h), _, _, _, rfl⟩ ?_ ?_
  · rintro i env s i1 i2 ⟨hs, R, hR, hok, x6, x7, x8, rfl⟩
    refine ⟨_, rfl, ?_⟩
    kst_mem
    ksw_less
    refine (w.toDraw.dip_wp hs (by omega) (by omega)).mono fun _ s ⟨⟨u, eu, u1, u2⟩, hs⟩ => ?_
    subst eu
    ksw_less
    refine rng_wp (by omega) (by omega) ?_
    refine compL_wp (fun _ s => Spr s) (fun d => ∃ r : Row, d = r.d ∧ r.ok (1 + z).toNat) (fun d ds s hs => ⟨_, rfl, ?_⟩) _ _ hs fun xs s hs hlen hx => ?_
    · simp only [evTs, wp_ok, if_true]
      ksw_less
      exact row_wp w.toDraw w.hr w.hw hs (by omega) (by omega)
    rw [rng_length] at hlen
    have hrows : ∃ rs : List Row, xs = rs.map Row.d ∧ ∀ r ∈ rs, r.ok (1 + z).toNat := by
      clear hlen
      induction xs with
      | nil => exact ⟨[], rfl, fun _ h => by cases h⟩
      | cons x xs ih =>
        obtain ⟨r, e, hr⟩ := hx x (List.mem_cons_self ..)
        obtain ⟨rs, e2, hrs⟩ := ih fun y hy => hx y (List.mem_cons_of_mem _ hy)
        exact ⟨r :: rs, by rw [e, e2]; rfl, fun q hq => (List.mem_cons.mp hq).elim (fun h => h ▸ hr) (hrs q)⟩
    obtain ⟨rs, rfl, hrs⟩ := hrows
    ksw_less
    refine ⟨by unfold lim; simp [hR]; omega, ?_⟩
    ksw_less
    refine ⟨hs, R ++ [rs], by simp [hR]; omega, fun st hst => ?_, some (.val (.int i)), x7, x8, by simp [stD]⟩
    rcases List.mem_append.mp hst with h | h
    · exact hok st h
    · simp only [List.mem_cons, List.not_mem_nil, or_false] at h
      subst h
      exact ⟨by simp at hlen; omega, hrs⟩
  · rintro env s ⟨hs, R, hR, hok, x6, x7, x8, rfl⟩
    ksw_less
    exact ⟨⟨R, rfl, by omega, by omega, fun st hst => (hok st hst).1, fun st hst r hr => by rw [hR]; exact (hok st hst).2 r hr⟩, hs⟩
end
end Fw
namespace Fw
open PySem
def wholeB : Cs := (.cons (.ret (.and (.cons (.isi (.nm 0) [.int]) (.cons (.not (.isi (.nm 0) [.bool])) .nil)))) .nil)
def whole : D → Bool
  | .int _ => true
  | _ => false
end Fw
namespace Fw
open PySem
/-! ## Y. rests and steps -/
section
variable {α : Type} {p : Ps} {put : D → Env → Option Env} {body : Env → S → R Fl} {env : Env} {s : S}
theorem for_map {f : α → D} {xs : List α} (I : Nat → Env → S → Prop) (h : I 0 env s) (step : ∀ i x env s, xs[i]? = some x → I i env s → ∃ env1, put (f x) env = some env1 ∧ (body env1 s).wc ⟨I (i + 1), p.rt, p.nx, I (i + 1)⟩)
    (last : ∀ env s, I xs.length env s → p.nx env s) : (forL put body (xs.map f) env s).wc p := by
  refine forL_wc (fun ds env s => ∃ i, i ≤ xs.length ∧ ds = (xs.drop i).map f ∧ I i env s) (fun d ds env s ⟨i, h1, h3, h4⟩ => ?_) (fun env s ⟨i, h1, h3, h4⟩ => ?_) _ _ _ ⟨0, Nat.zero_le _, rfl, h⟩
  · by_cases hi : i < xs.length
    · rw [List.drop_eq_getElem_cons hi, List.map_cons] at h3
      cases h3
      obtain ⟨env1, e1, e2⟩ := step i _ env s (List.getElem?_eq_getElem hi) h4
      refine ⟨env1, e1, ?_⟩
      unfold R.wc at e2 ⊢
      refine e2.mono fun f s hf => ?_
      cases f with
      | next env => exact ⟨i + 1, by omega, rfl, hf⟩
      | cont env => exact ⟨i + 1, by omega, rfl, hf⟩
      | ret d => exact hf
      | brk env => exact hf
      | exn _ _ => exact hf.elim
    · rw [List.drop_of_length_le (by omega)] at h3
      cases h3
  · by_cases hi : i < xs.length
    · rw [List.drop_eq_getElem_cons hi] at h3
      cases h3
    · have : i = xs.length := by omega
      subst this
      exact last env s h4
theorem enum_at {xs : List D} {i : Nat} : (enumD xs)[i]? = (xs[i]?).map fun x => D.tup [.int i, x] := by
  unfold enumD
  rw [List.getElem?_zipWith]
  by_cases h : i < xs.length
  · rw [List.getElem?_range h, List.getElem?_eq_getElem h]; rfl
  · rw [List.getElem?_eq_none (by simpa using h), List.getElem?_eq_none (by simpa using h)]; rfl
theorem for_list {xs : List D} (I : Nat → Env → S → Prop) (h : I 0 env s) (step : ∀ i x env s, xs[i]? = some x → I i env s → ∃ env1, put x env = some env1 ∧ (body env1 s).wc ⟨I (i + 1), p.rt, p.nx, I (i + 1)⟩)
    (last : ∀ env s, I xs.length env s → p.nx env s) : (forL put body xs env s).wc p := by
  have := for_map (f := id) (xs := xs) (put := put) (body := body) I h step last
  rwa [List.map_id] at this
theorem for_enum {f : α → D} {xs : List α} (I : Nat → Env → S → Prop) (h : I 0 env s) (step : ∀ i x env s, xs[i]? = some x → I i env s → ∃ env1, put (.tup [.int i, f x]) env = some env1 ∧ (body env1 s).wc ⟨I (i + 1), p.rt, p.nx, I (i + 1)⟩)
    (last : ∀ env s, I xs.length env s → p.nx env s) : (forL put body (enumD (xs.map f)) env s).wc p := by
  refine for_list I h (fun i x env s hx hI => ?_) (fun env s hI => last env s ?_)
  · rw [enum_at, List.getElem?_map] at hx
    cases e : xs[i]? with
    | none => rw [e] at hx; cases hx
    | some y => rw [e] at hx; cases hx; exact step i y env s e hI
  · have : (enumD (xs.map f)).length = xs.length := by unfold enumD; simp
    rwa [this] at hI
end
structure Rst where
  st : Nat
  gap : Option Int
  deriving DecidableEq
def Rst.d (r : Rst) : D := match r.gap with
  | none => .tup [.int r.st]
  | some g => .tup [.int r.st, .int g]
def geL (l : Option Int) (n : Int) : Bool := match l with
  | none => true
  | some i => decide (i ≤ n)
def leH (n : Int) (h : Option Int) : Bool := match h with
  | none => true
  | some i => decide (n ≤ i)
def inR (n : Int) (r : Rg) : Bool := geL r.1 n && leH n r.2
def afSo (gap : Option Int) (x : Int) (af : Option Rg) : Bool := match af with
  | none => true
  | some a => match gap with
    | none => false
    | some g => inR (x - g) a
def rowSo (gap : Option Int) (x : Int) (r : Row) : Bool := inR x r.ah && afSo gap x r.af
def rowsAt (R : Rc) (i : Nat) : List Row := (R[i]?).getD []
def cntRow (R : Rc) (t : Rst) (x : Int) : Option Nat := (rowsAt R t.st).findIdx? (rowSo t.gap x)
def afterRow (t : Rst) (x : Int) (r : Row) : Bool × Rst := match r.dd with
  | .take => (true, ⟨r.nx, none⟩)
  | .keep => (false, ⟨r.nx, some x⟩)
  | .leave => (false, ⟨r.nx, t.gap⟩)
  | .drop => (false, ⟨r.nx, none⟩)
def stepF (R : Rc) (t : Rst) (x : Int) : Bool × Rst := match (rowsAt R t.st).find? (rowSo t.gap x) with
  | none => (false, t)
  | some r => afterRow t x r
def tsD (a : Bool × Rst) : D := .tup [.bl a.1, a.2.d]
structure Std where
  st : Nat
  last : Int
  kept : Option Int
def Std.d (x : Std) : D := .tup [.int x.st, .int x.last, ob x.kept]
def Std.rest (x : Std) : Rst := ⟨x.st, x.kept.map (· - x.last)⟩
def hearF (R : Rc) (x : Std) (n : Int) : Bool × Std :=
  let a := stepF R x.rest (n - x.last)
  if a.1 then (true, ⟨a.2.st, n, none⟩) else (false, ⟨a.2.st, x.last, a.2.gap.map (x.last + ·)⟩)
def hsD (a : Bool × Std) : D := .tup [.bl a.1, a.2.d]
def onD : Option Nat → D
  | none => .non
  | some i => .int i
def rest_ofB : Cs := (.cons (.set (.tup (.cons (.nm 1) (.cons (.nm 2) (.cons (.nm 3) .nil)))) (.nm 0)) (.cons (.ret (.ite (.cmp .Is (.nm 3) .non) (.tup (.cons (.nm 1) .nil)) (.tup (.cons (.nm 1) (.cons (.bin .Sub (.nm 3) (.nm 2)) .nil))))) .nil))
def lies_inB : Cs := (.cons (.set (.tup (.cons (.nm 2) (.cons (.nm 3) .nil))) (.nm 1)) (.cons (.ret (.and (.cons (.or (.cons (.cmp .Is (.nm 2) .non) (.cons (.cmp .LtE (.nm 2) (.nm 0)) .nil))) (.cons (.or (.cons (.cmp .Is (.nm 3) .non) (.cons (.cmp .LtE (.nm 0) (.nm 3)) .nil))) .nil)))) .nil))
def counting_rowB (fliesin : Nat) : Cs := (.cons (.fors (.tup (.cons (.nm 3) (.cons (.nm 4) .nil))) (.enum (.sub (.nm 0) (.sub (.nm 1) (.int 0)))) (.cons (.set (.tup (.cons (.nm 5) (.cons (.nm 6) (.cons (.nm 7) (.cons (.nm 8) .nil))))) (.nm 4)) (.cons (.ifs (.val (.call fliesin (.cons (.nm 2) (.cons (.nm 5) .nil)))) (.cons (.ifs (.or (.cons (.cmp .Is (.nm 6) .non) (.cons (.and (.cons (.cmp .Eq (.bi .len (.cons (.nm 1) .nil)) (.int 2)) (.cons (.val (.call fliesin (.cons (.bin .Sub (.nm 2) (.sub (.nm 1) (.int 1))) (.cons (.nm 6) .nil)))) .nil))) .nil))) (.cons (.ret (.nm 3)) .nil) .nil) .nil) .nil) .nil))) (.cons (.ret .non) .nil))
def step_fromB (fcountingrow : Nat) : Cs := (.cons (.set (.nm 3) (.call fcountingrow (.cons (.nm 0) (.cons (.nm 1) (.cons (.nm 2) .nil))))) (.cons (.ifs (.cmp .Is (.nm 3) .non) (.cons (.ret (.tup (.cons (.bl false) (.cons (.nm 1) .nil)))) .nil) .nil) (.cons (.set (.tup (.cons (.nm 4) (.cons (.nm 5) .nil))) (.slice (.sub (.sub (.nm 0) (.sub (.nm 1) (.int 0))) (.nm 3)) (.so (.int 2)) .no)) (.cons (.ifs (.cmp .Eq (.nm 4) (.str "take")) (.cons (.ret (.tup (.cons (.bl true) (.cons (.tup (.cons (.nm 5) .nil)) .nil)))) .nil) .nil) (.cons (.ifs (.cmp .Eq (.nm 4) (.str "keep")) (.cons (.ret (.tup (.cons (.bl false) (.cons (.tup (.cons (.nm 5) (.cons (.nm 2) .nil))) .nil)))) .nil) .nil) (.cons (.ret (.tup (.cons (.bl false) (.cons (.ite (.cmp .Eq (.nm 4) (.str "drop")) (.tup (.cons (.nm 5) .nil)) (.bin .Add (.tup (.cons (.nm 5) .nil)) (.slice (.nm 1) (.so (.int 1)) .no))) .nil)))) .nil))))))
def hearB (frestof fstepfrom : Nat) : Cs := (.cons (.set (.nm 3) (.sub (.nm 1) (.int 1))) (.cons (.set (.tup (.cons (.nm 4) (.cons (.nm 5) .nil))) (.call fstepfrom (.cons (.nm 0) (.cons (.call frestof (.cons (.nm 1) .nil)) (.cons (.bin .Sub (.nm 2) (.nm 3)) .nil))))) (.cons (.ifs (.val (.nm 4)) (.cons (.ret (.tup (.cons (.bl true) (.cons (.tup (.cons (.sub (.nm 5) (.int 0)) (.cons (.nm 2) (.cons .non .nil)))) .nil)))) .nil) .nil) (.cons (.ret (.tup (.cons (.bl false) (.cons (.tup (.cons (.sub (.nm 5) (.int 0)) (.cons (.nm 3) (.cons (.ite (.cmp .Eq (.bi .len (.cons (.nm 5) .nil)) (.int 2)) (.bin .Add (.nm 3) (.sub (.nm 5) (.int 1))) .non) .nil)))) .nil)))) .nil))))
def l_liesB : Cs := (.cons (.ret (.and (.cons (.or (.cons (.cmp .Is (.sub (.nm 1) (.int 0)) .non) (.cons (.cmp .GtE (.nm 0) (.sub (.nm 1) (.int 0))) .nil))) (.cons (.or (.cons (.cmp .Is (.sub (.nm 1) (.int 1)) .non) (.cons (.cmp .LtE (.nm 0) (.sub (.nm 1) (.int 1))) .nil))) .nil)))) .nil)
def l_countingB (flies : Nat) : Cs := (.cons (.fors (.nm 3) (.range1 (.bi .len (.cons (.sub (.nm 0) (.sub (.nm 1) (.int 0))) .nil))) (.cons (.set (.tup (.cons (.nm 4) (.cons (.nm 5) .nil))) (.slice (.sub (.sub (.nm 0) (.sub (.nm 1) (.int 0))) (.nm 3)) .no (.so (.int 2)))) (.cons (.ifs (.val (.call flies (.cons (.nm 2) (.cons (.nm 4) .nil)))) (.cons (.ifs (.or (.cons (.cmp .Is (.nm 5) .non) (.cons (.and (.cons (.cmp .Gt (.bi .len (.cons (.nm 1) .nil)) (.int 1)) (.cons (.val (.call flies (.cons (.bin .Sub (.nm 2) (.sub (.nm 1) (.int 1))) (.cons (.nm 5) .nil)))) .nil))) .nil))) (.cons (.ret (.nm 3)) .nil) .nil) .nil) .nil) .nil))) (.cons (.ret .non) .nil))
def l_stepB (fcounting : Nat) : Cs := (.cons (.set (.nm 3) (.call fcounting (.cons (.nm 0) (.cons (.nm 1) (.cons (.nm 2) .nil))))) (.cons (.ifs (.cmp .Is (.nm 3) .non) (.cons (.ret (.tup (.cons (.bl false) (.cons (.nm 1) .nil)))) .nil) .nil) (.cons (.set (.tup (.cons (.nm 4) (.cons (.nm 5) .nil))) (.slice (.sub (.sub (.nm 0) (.sub (.nm 1) (.int 0))) (.nm 3)) (.so (.int 2)) .no)) (.cons (.ifs (.cmp .Eq (.nm 4) (.str "keep")) (.cons (.ret (.tup (.cons (.bl false) (.cons (.tup (.cons (.nm 5) (.cons (.nm 2) .nil))) .nil)))) .nil) .nil) (.cons (.ret (.tup (.cons (.cmp .Eq (.nm 4) (.str "take")) (.cons (.bin .Add (.tup (.cons (.nm 5) .nil)) (.ite (.cmp .Eq (.nm 4) (.str "leave")) (.slice (.nm 1) (.so (.int 1)) .no) (.tup .nil))) .nil)))) .nil)))))
def l_restB : Cs := (.cons (.ret (.ite (.cmp .Is (.sub (.nm 0) (.int 2)) .non) (.tup (.cons (.sub (.nm 0) (.int 0)) .nil)) (.tup (.cons (.sub (.nm 0) (.int 0)) (.cons (.bin .Sub (.sub (.nm 0) (.int 2)) (.sub (.nm 0) (.int 1))) .nil))))) .nil)
def l_heardB (fstep frest : Nat) : Cs := (.cons (.set (.tup (.cons (.nm 4) (.cons (.nm 5) .nil))) (.call fstep (.cons (.nm 0) (.cons (.call frest (.cons (.nm 1) .nil)) (.cons (.bin .Sub (.nm 2) (.sub (.nm 1) (.int 1))) .nil))))) (.cons (.set (.nm 3) (.ite (.val (.nm 4)) (.nm 2) (.sub (.nm 1) (.int 1)))) (.cons (.ret (.tup (.cons (.nm 4) (.cons (.tup (.cons (.sub (.nm 5) (.int 0)) (.cons (.nm 3) (.cons (.ite (.cmp .Eq (.bi .len (.cons (.nm 5) .nil)) (.int 1)) .non (.bin .Add (.nm 3) (.sub (.nm 5) (.int 1)))) .nil)))) .nil)))) .nil)))
section
variable {pg : Pg} {k : Nat} {s : S}
theorem rest_of_wp {f : Nat} {x : Std} (hf : ∃ nm, pg.fns[f]? = some ⟨nm, 4, 1, rest_ofB⟩) : (callN pg (k + 1) f [x.d] s).wp fun d s' => d = x.rest.d ∧ s' = s := by
  obtain ⟨nm, hf⟩ := hf
  obtain ⟨st, last, kept⟩ := x
  refine callN_wc hf rfl ?_
  unfold rest_ofB
  kd_adr
  cases kept <;> ksw_less <;> exact ⟨rfl, rfl⟩
theorem l_rest_wp {f : Nat} {x : Std} (hf : ∃ nm, pg.fns[f]? = some ⟨nm, 1, 1, l_restB⟩) : (callN pg (k + 1) f [x.d] s).wp fun d s' => d = x.rest.d ∧ s' = s := by
  obtain ⟨nm, hf⟩ := hf
  obtain ⟨st, last, kept⟩ := x
  refine callN_wc hf rfl ?_
  unfold l_restB
  kd_adr
  cases kept <;> ksw_less <;> exact ⟨rfl, rfl⟩
theorem lies_in_wp {f : Nat} {n : Int} {r : Rg} (hf : ∃ nm, pg.fns[f]? = some ⟨nm, 4, 2, lies_inB⟩) : (callN pg (k + 1) f [.int n, r.d] s).wp fun d s' => d = .bl (inR n r) ∧ s' = s := by
  obtain ⟨nm, hf⟩ := hf
  obtain ⟨a, b⟩ := r
  refine callN_wc hf rfl ?_
  unfold lies_inB
  kd_adr
  cases a <;> cases b <;> ksw_less
  · exact ⟨rfl, rfl⟩
  · exact ⟨rfl, rfl⟩
  · refine ⟨fun h => ?_, fun h => ?_⟩
    · ksw_less; exact ⟨by simp [inR, geL, leH, h], rfl⟩
    · exact ⟨by simp [inR, geL, leH, h], rfl⟩
  · refine ⟨fun h => ?_, fun h => ?_⟩
    · ksw_less; exact ⟨by simp [inR, geL, leH, h], rfl⟩
    · exact ⟨by simp [inR, geL, leH, h], rfl⟩
theorem l_lies_wp {f : Nat} {n : Int} {r : Rg} (hf : ∃ nm, pg.fns[f]? = some ⟨nm, 2, 2, l_liesB⟩) : (callN pg (k + 1) f [.int n, r.d] s).wp fun d s' => d = .bl (inR n r) ∧ s' = s := by
  obtain ⟨nm, hf⟩ := hf
  obtain ⟨a, b⟩ := r
  refine callN_wc hf rfl ?_
  unfold l_liesB
  kd_adr
  cases a <;> cases b <;> ksw_less
  · exact ⟨rfl, rfl⟩
  · exact ⟨rfl, rfl⟩
  · refine ⟨fun h => ?_, fun h => ?_⟩
    · ksw_less; exact ⟨by simp [inR, geL, leH, h], rfl⟩
    · exact ⟨by simp [inR, geL, leH, h], rfl⟩
  · refine ⟨fun h => ?_, fun h => ?_⟩
    · ksw_less; exact ⟨by simp [inR, geL, leH, h], rfl⟩
    · exact ⟨by simp [inR, geL, leH, h], rfl⟩
theorem Rst.sub0 (t : Rst) : subS s t.d (.int 0) = some (.int t.st) := by
  obtain ⟨a, g⟩ := t
  cases g <;> rfl
theorem atI_nat {xs : List D} {i : Nat} : L2.atI xs (i : Int) = xs[i]? := by
  unfold L2.atI L2.ixN
  rw [if_pos (by omega)]
  by_cases h : i < xs.length
  · rw [if_pos (by omega)]
    show xs[(i : Int).toNat]? = _
    rw [Int.toNat_natCast]
  · rw [if_neg (by omega), List.getElem?_eq_none (by omega)]; rfl
theorem Rc.sub {R : Rc} {i : Nat} (h : i < R.length) : subS s R.d (.int i) = some (stD (rowsAt R i)) := by
  show L2.atI (R.map stD) (i : Int) = _
  rw [atI_nat, List.getElem?_map, List.getElem?_eq_getElem h]
  unfold rowsAt
  rw [List.getElem?_eq_getElem h]
  rfl
theorem findIdx_none {α : Type} {p : α → Bool} {xs : List α} (h : ∀ j x, j < xs.length → xs[j]? = some x → p x = false) : xs.findIdx? p = none := by
  rw [List.findIdx?_eq_none_iff]
  intro x hx
  obtain ⟨j, hj, e⟩ := List.getElem_of_mem hx
  exact h j x hj (by rw [List.getElem?_eq_getElem hj, e])
theorem findIdx_some {α : Type} {p : α → Bool} {xs : List α} {i : Nat} {x : α} (h : ∀ j x, j < i → xs[j]? = some x → p x = false) (hx : xs[i]? = some x) (hp : p x = true) : xs.findIdx? p = some i := by
  obtain ⟨hi, e⟩ := List.getElem?_eq_some_iff.mp hx
  rw [List.findIdx?_eq_some_iff_getElem]
  refine ⟨hi, by rw [e]; exact hp, fun j hj => ?_⟩
  have := h j xs[j] hj (List.getElem?_eq_getElem (by omega))
  simp [this]
theorem counting_row_wp {f li : Nat} {R : Rc} {t : Rst} {x : Int} (hl : ∃ nm, pg.fns[li]? = some ⟨nm, 4, 2, lies_inB⟩) (hf : ∃ nm, pg.fns[f]? = some ⟨nm, 9, 3, counting_rowB li⟩) (ht : t.st < R.length) :
    (callN pg (k + 2) f [R.d, t.d, .int x] s).wp fun d s' => d = onD (cntRow R t x) ∧ s' = s := by
  obtain ⟨nm, hf⟩ := hf
  refine callN_wc hf rfl ?_
  unfold counting_rowB
  kd_adr
  ksw_less
  refine ⟨_, Rst.sub0 t, ?_⟩
  refine ⟨_, Rc.sub ht, ?_⟩
  refine ⟨_, rfl, ?_⟩
  refine for_enum (f := Row.d) (xs := rowsAt R t.st) (fun i env s' => s' = s ∧ (∀ j r, j < i → (rowsAt R t.st)[j]? = some r → rowSo t.gap x r = false) ∧ ∃ a b c d e g, env = [some (.val R.d), some (.val t.d), some (.val (.int x)), a, b, c, d, e, g]) ⟨rfl, fun j r h => absurd h (by omega), _, _, _, _, _, _, rfl⟩ ?_ ?_
  · rintro i r env s' hr ⟨rfl, hb, a, b, c, d, e, g, rfl⟩
    refine ⟨_, rfl, ?_⟩
    kst_mem
    have next : rowSo t.gap x r = false → ∀ j q, j < i + 1 → (rowsAt R t.st)[j]? = some q → rowSo t.gap x q = false := fun h j q hj hq => by
      by_cases hji : j = i
      · subst hji; rw [hr] at hq; cases hq; exact h
      · exact hb j q (by omega) hq
    ksw_less
    refine (lies_in_wp hl).mono fun d s'' ⟨e1, e2⟩ => ?_
    subst e1 e2
    ksw_less
    refine ⟨fun h1 => ?_, fun h1 => ?_⟩
    · have fin : afSo t.gap x r.af = true → D.int (i : Int) = onD (cntRow R t x) := fun h2 => by
        unfold cntRow
        rw [findIdx_some hb hr (by unfold rowSo; rw [h1, h2]; rfl)]
        rfl
      have go : afSo t.gap x r.af = false → rowSo t.gap x r = false := fun h2 => by unfold rowSo; rw [h1, h2]; rfl
      obtain ⟨st, gap⟩ := t
      obtain ⟨ah, af, dd, nx⟩ := r
      cases af with
      | none => ksw_less; exact ⟨fin rfl, rfl⟩
      | some a =>
        cases gap with
        | none => ksw_less; exact ⟨rfl, next (go rfl), _, _, _, _, _, _, rfl⟩
        | some g =>
          ksw_less
          refine (lies_in_wp hl).mono fun d s'' ⟨e1, e2⟩ => ?_
          subst e1 e2
          ksw_less
          refine ⟨fun h2 => ?_, fun h2 => ?_⟩
          · ksw_less
            exact ⟨fin h2, rfl⟩
          · ksw_less
            exact ⟨rfl, next (go h2), _, _, _, _, _, _, rfl⟩
    · ksw_less
      exact ⟨rfl, next (by unfold rowSo; rw [h1]; rfl), _, _, _, _, _, _, rfl⟩
  · rintro env s' ⟨rfl, hb, a, b, c, d, e, g, rfl⟩
    ksw_less
    refine ⟨?_, rfl⟩
    unfold cntRow
    rw [findIdx_none (fun j r h1 h2 => hb j r h1 h2)]
    rfl
theorem l_counting_wp {f li : Nat} {R : Rc} {t : Rst} {x : Int} (hl : ∃ nm, pg.fns[li]? = some ⟨nm, 2, 2, l_liesB⟩) (hf : ∃ nm, pg.fns[f]? = some ⟨nm, 6, 3, l_countingB li⟩) (ht : t.st < R.length) (hlen : (rowsAt R t.st).length ≤ 1000) :
    (callN pg (k + 2) f [R.d, t.d, .int x] s).wp fun d s' => d = onD (cntRow R t x) ∧ s' = s := by
  obtain ⟨nm, hf⟩ := hf
  refine callN_wc hf rfl ?_
  unfold l_countingB
  kd_adr
  ksw_less
  refine ⟨_, Rst.sub0 t, ?_⟩
  refine ⟨_, Rc.sub ht, ?_⟩
  ksw_less
  refine rng_wp (by omega) (by simp; omega) ?_
  refine for_rng (fun i env s' => s' = s ∧ (∀ j r, j < i.toNat → (rowsAt R t.st)[j]? = some r → rowSo t.gap x r = false) ∧ ∃ a b c, env = [some (.val R.d), some (.val t.d), some (.val (.int x)), a, b, c]) (by omega) ⟨rfl, fun j r h => absurd h (by omega), _, _, _, rfl⟩ ?_ ?_
  · rintro i env s' i1 i2 ⟨rfl, hb, a, b, c, rfl⟩
    simp only [List.length_map] at i2
    obtain ⟨i, rfl⟩ : ∃ n : Nat, i = (n : Int) := ⟨i.toNat, by omega⟩
    have hi : i < (rowsAt R t.st).length := by omega
    obtain ⟨r, hr⟩ : ∃ r, (rowsAt R t.st)[i]? = some r := ⟨_, List.getElem?_eq_getElem hi⟩
    refine ⟨_, rfl, ?_⟩
    kst_mem
    simp only [Int.toNat_natCast] at hb
    have en : ((i : Int) + 1).toNat = i + 1 := by omega
    simp only [en]
    have next : rowSo t.gap x r = false → ∀ j q, j < i + 1 → (rowsAt R t.st)[j]? = some q → rowSo t.gap x q = false := fun h j q hj hq => by
      by_cases hji : j = i
      · subst hji; rw [hr] at hq; cases hq; exact h
      · exact hb j q (by omega) hq
    ksw_less
    refine ⟨_, Rst.sub0 t, ?_⟩
    refine ⟨_, Rc.sub ht, ?_⟩
    ksw_less
    refine ⟨r.d, ?_, ?_⟩
    · show L2.atI ((rowsAt R t.st).map Row.d) (i : Int) = _
      rw [atI_nat, List.getElem?_map, hr]; rfl
    ksw_less
    refine (l_lies_wp (r := r.ah) hl).mono fun d s'' ⟨e1, e2⟩ => ?_
    subst e1 e2
    ksw_less
    refine ⟨fun h1 => ?_, fun h1 => ?_⟩
    · have fin : afSo t.gap x r.af = true → D.int (i : Int) = onD (cntRow R t x) := fun h2 => by
        unfold cntRow
        rw [findIdx_some hb hr (by unfold rowSo; rw [h1, h2]; rfl)]
        rfl
      have go : afSo t.gap x r.af = false → rowSo t.gap x r = false := fun h2 => by unfold rowSo; rw [h1, h2]; rfl
      obtain ⟨st, gap⟩ := t
      obtain ⟨ah, af, dd, nx⟩ := r
      cases af with
      | none => ksw_less; exact ⟨fin rfl, rfl⟩
      | some a =>
        cases gap with
        | none => ksw_less; exact ⟨rfl, next (go rfl), _, _, _, rfl⟩
        | some g =>
          ksw_less
          refine (l_lies_wp (r := a) hl).mono fun d s'' ⟨e1, e2⟩ => ?_
          subst e1 e2
          ksw_less
          refine ⟨fun h2 => ?_, fun h2 => ?_⟩
          · ksw_less
            exact ⟨fin h2, rfl⟩
          · ksw_less
            exact ⟨rfl, next (go h2), _, _, _, rfl⟩
    · ksw_less
      exact ⟨rfl, next (by unfold rowSo; rw [h1]; rfl), _, _, _, rfl⟩
  · rintro env s' ⟨rfl, hb, a, b, c, rfl⟩
    ksw_less
    refine ⟨?_, rfl⟩
    unfold cntRow
    rw [findIdx_none (fun j r h1 h2 => hb j r (by simp; omega) h2)]
    rfl
theorem cnt_step (R : Rc) (t : Rst) (x : Int) : (cntRow R t x = none ∧ stepF R t x = (false, t)) ∨ ∃ i r, cntRow R t x = some i ∧ (rowsAt R t.st)[i]? = some r ∧ rowSo t.gap x r = true ∧ stepF R t x = afterRow t x r := by
  unfold cntRow stepF
  cases h : (rowsAt R t.st).findIdx? (rowSo t.gap x) with
  | none =>
    refine .inl ⟨rfl, ?_⟩
    have : (rowsAt R t.st).find? (rowSo t.gap x) = none := by
      rw [List.find?_eq_none]
      intro y hy
      have := List.findIdx?_eq_none_iff.mp h y hy
      simp [this]
    rw [this]
  | some i =>
    obtain ⟨hi, h1, h2⟩ := List.findIdx?_eq_some_iff_getElem.mp h
    refine .inr ⟨i, (rowsAt R t.st)[i], rfl, List.getElem?_eq_getElem hi, h1, ?_⟩
    have : (rowsAt R t.st).find? (rowSo t.gap x) = some (rowsAt R t.st)[i] := by
      rw [List.find?_eq_some_iff_getElem]
      exact ⟨h1, i, hi, rfl, fun j hj => by have := h2 j hj; simpa using this⟩
    rw [this]
theorem row_at {R : Rc} {t : Rst} {i : Nat} {r : Row} (hr : (rowsAt R t.st)[i]? = some r) : subS s (stD (rowsAt R t.st)) (.int i) = some r.d := by
  show L2.atI ((rowsAt R t.st).map Row.d) (i : Int) = _
  rw [atI_nat, List.getElem?_map, hr]; rfl
theorem step_core {R : Rc} {t : Rst} {x : Int} {f c : Nat} (hf : ∃ nm, pg.fns[f]? = some ⟨nm, 6, 3, step_fromB c⟩) (ht : t.st < R.length) (hc : (callN pg (k + 2) c [R.d, t.d, .int x] s).wp fun d s' => d = onD (cntRow R t x) ∧ s' = s) :
    (callN pg (k + 3) f [R.d, t.d, .int x] s).wp fun d s' => d = tsD (stepF R t x) ∧ s' = s := by
  obtain ⟨nm, hf⟩ := hf
  refine callN_wc hf rfl ?_
  unfold step_fromB
  kd_adr
  refine c_cons ?_
  kd_mem
  refine hc.mono fun d s' ⟨e1, e2⟩ => ?_
  subst e1 e2
  rcases cnt_step R t x with ⟨e1, e2⟩ | ⟨i, r, e1, hr, hp, e2⟩
  · rw [e1, e2]
    ksw_less
    exact ⟨rfl, rfl⟩
  · rw [e1, e2]
    ksw_less
    refine ⟨_, Rst.sub0 t, ?_⟩
    refine ⟨_, Rc.sub ht, ?_⟩
    refine ⟨_, row_at hr, ?_⟩
    obtain ⟨ah, af, dd, nx⟩ := r
    obtain ⟨st, gap⟩ := t
    cases dd <;> ksw_less
    · exact ⟨rfl, rfl⟩
    · exact ⟨rfl, rfl⟩
    · cases gap <;> ksw_less <;> exact ⟨rfl, rfl⟩
    · exact ⟨rfl, rfl⟩
theorem l_step_core {R : Rc} {t : Rst} {x : Int} {f c : Nat} (hf : ∃ nm, pg.fns[f]? = some ⟨nm, 6, 3, l_stepB c⟩) (ht : t.st < R.length) (hc : (callN pg (k + 2) c [R.d, t.d, .int x] s).wp fun d s' => d = onD (cntRow R t x) ∧ s' = s) :
    (callN pg (k + 3) f [R.d, t.d, .int x] s).wp fun d s' => d = tsD (stepF R t x) ∧ s' = s := by
  obtain ⟨nm, hf⟩ := hf
  refine callN_wc hf rfl ?_
  unfold l_stepB
  kd_adr
  refine c_cons ?_
  kd_mem
  refine hc.mono fun d s' ⟨e1, e2⟩ => ?_
  subst e1 e2
  rcases cnt_step R t x with ⟨e1, e2⟩ | ⟨i, r, e1, hr, hp, e2⟩
  · rw [e1, e2]
    ksw_less
    exact ⟨rfl, rfl⟩
  · rw [e1, e2]
    ksw_less
    refine ⟨_, Rst.sub0 t, ?_⟩
    refine ⟨_, Rc.sub ht, ?_⟩
    refine ⟨_, row_at hr, ?_⟩
    obtain ⟨ah, af, dd, nx⟩ := r
    obtain ⟨st, gap⟩ := t
    cases dd <;> ksw_less
    · exact ⟨rfl, rfl⟩
    · exact ⟨rfl, rfl⟩
    · cases gap <;> ksw_less <;> exact ⟨rfl, rfl⟩
    · exact ⟨rfl, rfl⟩
/-- the program's defs of steps -/
structure StepP (pg : Pg) (ro li co st : Nat) : Prop where
  h1 : ∃ nm, pg.fns[ro]? = some ⟨nm, 4, 1, rest_ofB⟩
  h2 : ∃ nm, pg.fns[li]? = some ⟨nm, 4, 2, lies_inB⟩
  h3 : ∃ nm, pg.fns[co]? = some ⟨nm, 9, 3, counting_rowB li⟩
  h4 : ∃ nm, pg.fns[st]? = some ⟨nm, 6, 3, step_fromB co⟩
/-- the law's -/
structure StepL (pg : Pg) (li co st : Nat) : Prop where
  h2 : ∃ nm, pg.fns[li]? = some ⟨nm, 2, 2, l_liesB⟩
  h3 : ∃ nm, pg.fns[co]? = some ⟨nm, 6, 3, l_countingB li⟩
  h4 : ∃ nm, pg.fns[st]? = some ⟨nm, 6, 3, l_stepB co⟩
variable {ro li co st : Nat} {R : Rc}
theorem StepP.step_wp {x : Int} {t : Rst} (w : StepP pg ro li co st) (ht : t.st < R.length) : (callN pg (k + 3) st [R.d, t.d, .int x] s).wp fun d s' => d = tsD (stepF R t x) ∧ s' = s := step_core w.h4 ht (counting_row_wp w.h2 w.h3 ht)
theorem StepL.step_wp {x : Int} {t : Rst} (w : StepL pg li co st) (ht : t.st < R.length) (hlen : ∀ st ∈ R, st.length ≤ 1000) : (callN pg (k + 3) st [R.d, t.d, .int x] s).wp fun d s' => d = tsD (stepF R t x) ∧ s' = s :=
  l_step_core w.h4 ht (l_counting_wp w.h2 w.h3 ht (by unfold rowsAt; rw [List.getElem?_eq_getElem ht]; exact hlen _ (List.getElem_mem ht)))
theorem hear_wp {f : Nat} {x : Std} {n : Int} (w : StepP pg ro li co st) (hf : ∃ nm, pg.fns[f]? = some ⟨nm, 6, 3, hearB ro st⟩) (ht : x.st < R.length) : (callN pg (k + 4) f [R.d, x.d, .int n] s).wp fun d s' => d = hsD (hearF R x n) ∧ s' = s := by
  obtain ⟨nm, hf⟩ := hf
  refine callN_wc hf rfl ?_
  unfold hearB
  kd_adr
  refine c_cons ?_
  kd_mem
  kst_mem
  refine c_cons ?_
  kd_mem
  refine (rest_of_wp (k := k + 2) w.h1).mono fun d s' ⟨e1, e2⟩ => ?_
  subst e1 e2
  kd_mem
  refine (w.step_wp (t := x.rest) ht).mono fun d s' ⟨e1, e2⟩ => ?_
  subst e1 e2
  unfold hearF
  obtain ⟨b, u, g⟩ := stepF R x.rest (n - x.last)
  ksw_less
  cases b with
  | true => cases g <;> ksw_less <;> exact ⟨rfl, rfl⟩
  | false => cases g <;> ksw_less <;> exact ⟨rfl, rfl⟩
theorem l_heard_wp {f lr : Nat} {x : Std} {n : Int} (w : StepL pg li co st) (hr : ∃ nm, pg.fns[lr]? = some ⟨nm, 1, 1, l_restB⟩) (hf : ∃ nm, pg.fns[f]? = some ⟨nm, 6, 3, l_heardB st lr⟩) (ht : x.st < R.length) (hlen : ∀ st ∈ R, st.length ≤ 1000) : (callN pg (k + 4) f [R.d, x.d, .int n] s).wp fun d s' => d = hsD (let a := stepF R x.rest (n - x.last); let o := if a.1 then n else x.last; (a.1, ⟨a.2.st, o, a.2.gap.map (o + ·)⟩)) ∧ s' = s := by
  obtain ⟨nm, hf⟩ := hf
  refine callN_wc hf rfl ?_
  unfold l_heardB
  kd_adr
  refine c_cons ?_
  kd_mem
  refine (l_rest_wp (k := k + 2) hr).mono fun d s' ⟨e1, e2⟩ => ?_
  subst e1 e2
  kd_mem
  refine (w.step_wp (t := x.rest) ht hlen).mono fun d s' ⟨e1, e2⟩ => ?_
  subst e1 e2
  obtain ⟨b, u, g⟩ := stepF R x.rest (n - x.last)
  ksw_less
  cases b with
  | true => cases g <;> ksw_less <;> exact ⟨rfl, rfl⟩
  | false => cases g <;> ksw_less <;> exact ⟨rfl, rfl⟩
/-! alike of a value and itself -/
mutual
def D.pln : D → Bool
  | .non => true
  | .bl _ => true
  | .int _ => true
  | .str _ => true
  | .tup xs => D.plns xs && decide (xs.length ≤ 100000)
  | _ => false
def D.plns : List D → Bool
  | [] => true
  | x :: xs => x.pln && D.plns xs
end
theorem plns_iff : ∀ {xs : List D}, D.plns xs = true ↔ ∀ x ∈ xs, x.pln = true
  | [] => by simp [D.plns]
  | x :: xs => by simp [D.plns, plns_iff (xs := xs)]
theorem Rst.pln (t : Rst) : t.d.pln = true := by obtain ⟨a, g⟩ := t; cases g <;> rfl
theorem Std.pln (t : Std) : t.d.pln = true := by obtain ⟨a, b, g⟩ := t; cases g <;> rfl
end
end Fw
namespace Fw
open PySem
/-! ## Z. what is no receiver -/
abbrev deedsD : List D := [.str "take", .str "keep", .str "leave", .str "drop"]
def is_boundB (fisinteger gMAX_BOUND : Nat) : Cs := (.cons (.ret (.or (.cons (.cmp .Is (.nm 0) .non) (.cons (.and (.cons (.call fisinteger (.cons (.nm 0) .nil)) (.cons (.chain .LtE .LtE (.bin .Sub (.int 0) (.glob gMAX_BOUND)) (.nm 0) (.glob gMAX_BOUND)) .nil))) .nil)))) .nil)
def is_rangeB (fisbound : Nat) : Cs := (.cons (.ifs (.or (.cons (.not (.val (.isi (.nm 0) [.tuple]))) (.cons (.cmp .NotEq (.bi .len (.cons (.nm 0) .nil)) (.int 2)) (.cons (.not (.val (.call fisbound (.cons (.sub (.nm 0) (.int 0)) .nil)))) (.cons (.not (.val (.call fisbound (.cons (.sub (.nm 0) (.int 1)) .nil)))) .nil))))) (.cons (.ret (.bl false)) .nil) .nil) (.cons (.ret (.or (.cons (.cmp .Is (.sub (.nm 0) (.int 0)) .non) (.cons (.cmp .Is (.sub (.nm 0) (.int 1)) .non) (.cons (.cmp .LtE (.sub (.nm 0) (.int 0)) (.sub (.nm 0) (.int 1))) .nil))))) .nil))
def is_deedB (gDEEDS : Nat) : Cs := (.cons (.ret (.and (.cons (.isi (.nm 0) [.str]) (.cons (.cmp .In (.nm 0) (.glob gDEEDS)) .nil)))) .nil)
def row_wordB (fisinteger fisrange fisdeed : Nat) : Cs := (.cons (.ifs (.or (.cons (.not (.val (.isi (.nm 0) [.tuple]))) (.cons (.cmp .NotEq (.bi .len (.cons (.nm 0) .nil)) (.int 4)) .nil))) (.cons (.ret (.str "row")) .nil) .nil) (.cons (.set (.tup (.cons (.nm 2) (.cons (.nm 3) (.cons (.nm 4) (.cons (.nm 5) .nil))))) (.nm 0)) (.cons (.ifs (.not (.val (.call fisrange (.cons (.nm 2) .nil)))) (.cons (.ret (.str "ahead")) .nil) .nil) (.cons (.ifs (.and (.cons (.cmp .IsNot (.nm 3) .non) (.cons (.not (.val (.call fisrange (.cons (.nm 3) .nil)))) .nil))) (.cons (.ret (.str "after")) .nil) .nil) (.cons (.ifs (.not (.val (.call fisdeed (.cons (.nm 4) .nil)))) (.cons (.ret (.str "deed")) .nil) .nil) (.cons (.ifs (.or (.cons (.not (.val (.call fisinteger (.cons (.nm 5) .nil)))) (.cons (.not (.chain .LtE .Lt (.int 0) (.nm 5) (.nm 1))) .nil))) (.cons (.ret (.str "next")) .nil) .nil) (.cons (.ret (.ite (.and (.cons (.cmp .Eq (.nm 4) (.str "keep")) (.cons (.cmp .In .non (.nm 2)) .nil))) (.str "keep") .non)) .nil)))))))
def state_errorB (frowword gMAX_ROWS : Nat) : Cs := (.cons (.ifs (.or (.cons (.not (.val (.isi (.nm 0) [.tuple]))) (.cons (.cmp .Gt (.bi .len (.cons (.nm 0) .nil)) (.glob gMAX_ROWS)) .nil))) (.cons (.ret (.tup (.cons (.tup (.cons (.nm 1) .nil)) (.cons (.str "state") .nil)))) .nil) .nil) (.cons (.fors (.tup (.cons (.nm 3) (.cons (.nm 4) .nil))) (.enum (.nm 0)) (.cons (.set (.nm 5) (.call frowword (.cons (.nm 4) (.cons (.nm 2) .nil)))) (.cons (.ifs (.cmp .IsNot (.nm 5) .non) (.cons (.ret (.tup (.cons (.tup (.cons (.nm 1) (.cons (.nm 3) .nil))) (.cons (.nm 5) .nil)))) .nil) .nil) .nil))) (.cons (.ret .non) .nil)))
def receiver_errorB (fstateerror gMAX_STATES : Nat) : Cs := (.cons (.ifs (.or (.cons (.not (.val (.isi (.nm 0) [.tuple]))) (.cons (.not (.chain .LtE .LtE (.int 1) (.bi .len (.cons (.nm 0) .nil)) (.glob gMAX_STATES))) .nil))) (.cons (.ret (.tup (.cons (.tup .nil) (.cons (.str "receiver") .nil)))) .nil) .nil) (.cons (.fors (.tup (.cons (.nm 1) (.cons (.nm 2) .nil))) (.enum (.nm 0)) (.cons (.set (.nm 3) (.call fstateerror (.cons (.nm 2) (.cons (.nm 1) (.cons (.bi .len (.cons (.nm 0) .nil)) .nil))))) (.cons (.ifs (.cmp .IsNot (.nm 3) .non) (.cons (.ret (.nm 3)) .nil) .nil) .nil))) (.cons (.ret .non) .nil)))
def l_is_rangeB (fiswhole : Nat) : Cs := (.cons (.ifs (.or (.cons (.not (.val (.isi (.nm 0) [.tuple]))) (.cons (.cmp .NotEq (.bi .len (.cons (.nm 0) .nil)) (.int 2)) .nil))) (.cons (.ret (.bl false)) .nil) .nil) (.cons (.fors (.nm 1) (.seq (.nm 0)) (.cons (.ifs (.and (.cons (.cmp .IsNot (.nm 1) .non) (.cons (.or (.cons (.not (.val (.call fiswhole (.cons (.nm 1) .nil)))) (.cons (.not (.chain .LtE .LtE (.un .USub (.int 6)) (.nm 1) (.int 6))) .nil))) .nil))) (.cons (.ret (.bl false)) .nil) .nil) .nil)) (.cons (.ret (.or (.cons (.cmp .In .non (.nm 0)) (.cons (.cmp .LtE (.sub (.nm 0) (.int 0)) (.sub (.nm 0) (.int 1))) .nil)))) .nil)))
def l_row_wordB (fiswhole fisrange : Nat) : Cs := (.cons (.ifs (.or (.cons (.not (.val (.isi (.nm 0) [.tuple]))) (.cons (.cmp .NotEq (.bi .len (.cons (.nm 0) .nil)) (.int 4)) .nil))) (.cons (.ret (.str "row")) .nil) .nil) (.cons (.set (.nm 2) (.frz (.disp (.cons (.str "take") (.cons (.str "keep") (.cons (.str "leave") (.cons (.str "drop") .nil))))))) (.cons (.own 3 (.disp (.cons (.call fisrange (.cons (.sub (.nm 0) (.int 0)) .nil)) (.cons (.or (.cons (.cmp .Is (.sub (.nm 0) (.int 1)) .non) (.cons (.call fisrange (.cons (.sub (.nm 0) (.int 1)) .nil)) .nil))) .nil)))) (.cons (.app 3 (.and (.cons (.isi (.sub (.nm 0) (.int 2)) [.str]) (.cons (.cmp .In (.sub (.nm 0) (.int 2)) (.nm 2)) .nil)))) (.cons (.app 3 (.and (.cons (.call fiswhole (.cons (.sub (.nm 0) (.int 3)) .nil)) (.cons (.chain .LtE .Lt (.int 0) (.sub (.nm 0) (.int 3)) (.nm 1)) .nil)))) (.cons (.ifs (.cmp .In (.bl false) (.pk 3)) (.cons (.ret (.sub (.frz (.disp (.cons (.str "ahead") (.cons (.str "after") (.cons (.str "deed") (.cons (.str "next") .nil)))))) (.index (.pk 3) (.bl false)))) .nil) .nil) (.cons (.ret (.ite (.and (.cons (.cmp .Eq (.sub (.nm 0) (.int 2)) (.str "keep")) (.cons (.cmp .In .non (.sub (.nm 0) (.int 0))) .nil))) (.str "keep") .non)) .nil)))))))
def l_receiver_errorB (frowword : Nat) : Cs := (.cons (.ifs (.or (.cons (.not (.val (.isi (.nm 0) [.tuple]))) (.cons (.not (.chain .LtE .LtE (.int 1) (.bi .len (.cons (.nm 0) .nil)) (.int 4))) .nil))) (.cons (.ret (.tup (.cons (.tup .nil) (.cons (.str "receiver") .nil)))) .nil) .nil) (.cons (.fors (.nm 1) (.range1 (.bi .len (.cons (.nm 0) .nil))) (.cons (.ifs (.or (.cons (.not (.val (.isi (.sub (.nm 0) (.nm 1)) [.tuple]))) (.cons (.cmp .Gt (.bi .len (.cons (.sub (.nm 0) (.nm 1)) .nil)) (.int 6)) .nil))) (.cons (.ret (.tup (.cons (.tup (.cons (.nm 1) .nil)) (.cons (.str "state") .nil)))) .nil) .nil) (.cons (.fors (.nm 2) (.range1 (.bi .len (.cons (.sub (.nm 0) (.nm 1)) .nil))) (.cons (.set (.nm 3) (.call frowword (.cons (.sub (.sub (.nm 0) (.nm 1)) (.nm 2)) (.cons (.bi .len (.cons (.nm 0) .nil)) .nil)))) (.cons (.ifs (.cmp .IsNot (.nm 3) .non) (.cons (.ret (.tup (.cons (.tup (.cons (.nm 1) (.cons (.nm 2) .nil))) (.cons (.nm 3) .nil)))) .nil) .nil) .nil))) .nil))) (.cons (.ret .non) .nil)))
section
variable {pg : Pg} {k m : Nat} {s : S}
structure RcP (pg : Pg) (ii ib ir de rw se re g6 gd gr gs : Nat) : Prop where
  hii : ∃ nm, pg.fns[ii]? = some ⟨nm, 1, 1, wholeB⟩
  hib : ∃ nm, pg.fns[ib]? = some ⟨nm, 1, 1, is_boundB ii g6⟩
  hir : ∃ nm, pg.fns[ir]? = some ⟨nm, 1, 1, is_rangeB ib⟩
  hid : ∃ nm, pg.fns[de]? = some ⟨nm, 1, 1, is_deedB gd⟩
  hrw : ∃ nm, pg.fns[rw]? = some ⟨nm, 6, 2, row_wordB ii ir de⟩
  hse : ∃ nm, pg.fns[se]? = some ⟨nm, 6, 3, state_errorB rw gr⟩
  hre : ∃ nm, pg.fns[re]? = some ⟨nm, 4, 1, receiver_errorB se gs⟩
  hg6 : pg.gl[g6]? = some (.int 6)
  hgd : pg.gl[gd]? = some (.tup deedsD)
  hgr : pg.gl[gr]? = some (.int 6)
  hgs : pg.gl[gs]? = some (.int 4)
variable {ii ib ir de rw se re g6 gd gr gs : Nat}
end
end Fw
namespace Fw
open PySem
theorem stepF_taken {R : Rc} {t : Rst} {x : Int} (h : (stepF R t x).1 = true) : (stepF R t x).2.gap = none := by
  unfold stepF at h ⊢
  split
  · rename_i e; rw [e] at h; cases h
  · rename_i r e
    rw [e] at h
    simp only at h ⊢
    unfold afterRow at h ⊢
    cases hd : r.dd <;> rw [hd] at h <;> first | rfl | cases h
theorem heard_eq {R : Rc} {x : Std} {n : Int} : (let a := stepF R x.rest (n - x.last); let o := if a.1 then n else x.last; ((a.1, ⟨a.2.st, o, a.2.gap.map (o + ·)⟩) : Bool × Std)) = hearF R x n := by
  unfold hearF
  simp only
  cases h : (stepF R x.rest (n - x.last)).1 with
  | true => simp [stepF_taken h]
  | false => simp
def Std.moved (x : Std) (b : Int) : Std := ⟨x.st, x.last + b, x.kept.map (· + b)⟩
theorem rest_moved (x : Std) (b : Int) : (x.moved b).rest = x.rest := by
  obtain ⟨st, last, kept⟩ := x
  cases kept with
  | none => rfl
  | some k => simp [Std.moved, Std.rest]; omega
theorem hear_moved (R : Rc) (x : Std) (n b : Int) : hearF R (x.moved b) (n + b) = ((hearF R x n).1, (hearF R x n).2.moved b) := by
  unfold hearF
  rw [rest_moved]
  have e : n + b - (x.moved b).last = n - x.last := by show n + b - (x.last + b) = _; omega
  rw [e]
  cases h : (stepF R x.rest (n - x.last)).1 with
  | true => simp [h, Std.moved]
  | false =>
    simp [h, Std.moved]
    cases (stepF R x.rest (n - x.last)).2.gap <;> simp; omega
section
variable {pg : Pg} {k dip pick : Nat} {s : S}
theorem last_wp {f : Nat} (w : Draw pg dip pick) (hf : ∃ nm, pg.fns[f]? = some ⟨nm, 1, 1, l_lastB pick⟩) (hs : Spr s) : (callN pg (k + 3) f [.ref 0] s).wp fun d s' => (∃ i : Int, d = .int i ∧ i.natAbs < 10 ^ 38) ∧ Spr s' := by
  obtain ⟨nm, hf⟩ := hf
  refine callN_wc hf rfl ?_
  unfold l_lastB
  kd_adr
  ksw_less
  refine (w.pick_wp hs (by simp) (by simp [lim])).mono fun d s ⟨hd, hs⟩ => ⟨?_, hs⟩
  simp only [List.mem_cons, List.not_mem_nil, or_false] at hd
  rcases hd with rfl | rfl | rfl | rfl | rfl | rfl | rfl <;> exact ⟨_, rfl, by decide +kernel⟩
end
end Fw
namespace Fw
open PySem
theorem hear_rest (R : Rc) (x : Std) (n : Int) : ((hearF R x n).1, (hearF R x n).2.rest) = stepF R x.rest (n - x.last) := by
  unfold hearF
  simp only
  cases h : (stepF R x.rest (n - x.last)).1 with
  | true =>
    have := stepF_taken h
    generalize stepF R x.rest (n - x.last) = a at *
    obtain ⟨b, st, g⟩ := a
    simp only at h this
    subst h this
    rfl
  | false =>
    generalize stepF R x.rest (n - x.last) = a at *
    obtain ⟨b, st, g⟩ := a
    simp only at h
    subst h
    cases g with
    | none => rfl
    | some g => simp [Std.rest]; omega
def Rst.ok (m : Nat) (t : Rst) : Prop := t.st < m ∧ ∀ g, t.gap = some g → -6 ≤ g ∧ g ≤ 6
theorem Rc.ok.at {R : Rc} {m n : Nat} (h : R.ok m n) {i : Nat} {r : Row} (hr : r ∈ rowsAt R i) : r.ok R.length := by
  unfold rowsAt at hr
  cases e : R[i]? with
  | none => rw [e] at hr; cases hr
  | some st => rw [e] at hr; exact h.ok st (List.mem_of_getElem? e) r hr
theorem keep_in {r : Row} {n : Nat} (h : r.ok n) (hk : r.dd = .keep) {x : Int} (hx : inR x r.ah = true) : -6 ≤ x ∧ x ≤ 6 := by
  obtain ⟨⟨i, hi⟩, ⟨j, hj⟩⟩ := h.kp hk
  have a1 := h.ah.1 i hi
  have a2 := h.ah.2.1 j hj
  unfold inR geL leH at hx
  rw [hi, hj] at hx
  simp only [Bool.and_eq_true, decide_eq_true_eq] at hx
  omega
theorem stepF_ok {R : Rc} {m n : Nat} (hR : R.ok m n) {t : Rst} (ht : t.ok R.length) (x : Int) : (stepF R t x).2.ok R.length := by
  unfold stepF
  cases ef : (rowsAt R t.st).find? (rowSo t.gap x) with
  | none => exact ht
  | some r =>
    have hm := List.mem_of_find?_eq_some ef
    have hp := List.find?_some ef
    have hr := hR.at hm
    show (afterRow t x r).2.ok R.length
    unfold afterRow
    cases hd : r.dd with
    | keep =>
      unfold rowSo at hp
      simp only [Bool.and_eq_true] at hp
      have := keep_in hr hd hp.1
      exact ⟨hr.nx, fun g hg => by cases hg; exact this⟩
    | take => exact ⟨hr.nx, fun g hg => by cases hg⟩
    | drop => exact ⟨hr.nx, fun g hg => by cases hg⟩
    | leave => exact ⟨hr.nx, fun g hg => ht.2 g hg⟩
end Fw
namespace Fw
open PySem
section
variable {pg : Pg} {k m : Nat} {s : S}
structure RcL (pg : Pg) (iw ir rw re : Nat) : Prop where
  hiw : ∃ nm, pg.fns[iw]? = some ⟨nm, 1, 1, wholeB⟩
  hir : ∃ nm, pg.fns[ir]? = some ⟨nm, 2, 1, l_is_rangeB iw⟩
  hrw : ∃ nm, pg.fns[rw]? = some ⟨nm, 4, 2, l_row_wordB iw ir⟩
  hre : ∃ nm, pg.fns[re]? = some ⟨nm, 4, 1, l_receiver_errorB rw⟩
variable {iw ir rw re : Nat}
end
end Fw
namespace Fw
open PySem
theorem vl_sm {i : Int} (h : i.natAbs ≤ 100) : Vl 40 0 0 (.int i) := ⟨by simp only [D.vl, decide_eq_true_eq]; exact Nat.lt_of_le_of_lt h (by decide), by simp [D.py, PyData.bulk], by simp [D.py, PyData.depth]⟩
theorem ob_vl {a : Option Int} (h : ∀ i, a = some i → -6 ≤ i ∧ i ≤ 6) : Vl 40 0 0 (ob a) := by
  cases a with
  | none => exact vlB_ok rfl
  | some i => have := h i rfl; exact vl_sm (by omega)
theorem Rg.vl {r : Rg} (h : r.ok) : Vl 40 2 1 r.d := Vl.tup_iff.mpr (Vls.cons (n := 0) (n' := 1) (ob_vl h.1) (Vls.one (ob_vl h.2.1)))
theorem Deed.vl (a : Deed) : Vl 40 5 0 a.d := by cases a <;> exact vlB_ok (by decide +kernel)
theorem Row.vl {r : Row} {n : Nat} (h : r.ok n) (hn : n ≤ 100) : Vl 40 13 2 r.d := by
  have h1 : Vl 40 2 1 (oR r.af) := by
    cases e : r.af with
    | none => exact vlB_ok rfl
    | some a => exact Rg.vl (h.af a e)
  have h2 := h.nx
  exact Vl.tup_iff.mpr (Vls.cons (n := 2) (n' := 10) (Rg.vl h.ah) (Vls.cons (n := 2) (n' := 7) h1 (Vls.cons (n := 5) (n' := 1) (r.dd.vl.mono (by omega) (by omega) (by omega)) (Vls.one (n := 0) ((vl_sm (by omega)).mono (by omega) (by omega) (by omega))))))
theorem Rc.vl {R : Rc} {m n : Nat} (h : R.ok m n) (hm : m ≤ 10) (hn : n ≤ 10) : Vl 40 1410 4 R.d := by
  have h1 : ∀ st ∈ R, Vl 40 140 3 (stD st) := fun st hst => by
    have hl := h.row st hst
    have : Vls 40 ((13 + 1) * (st.map Row.d).length) 2 (st.map Row.d) := Vls.all fun d hd => by
      obtain ⟨r, hr, rfl⟩ := List.mem_map.mp hd
      exact Row.vl (h.ok st hst r hr) (by have := h.len; omega)
    exact Vl.tup_iff.mpr (this.mono (by omega) (by simp; omega) (by omega))
  have : Vls 40 ((140 + 1) * (R.map stD).length) 3 (R.map stD) := Vls.all fun d hd => by
    obtain ⟨st, hst, rfl⟩ := List.mem_map.mp hd
    exact h1 st hst
  have hl := h.len
  exact Vl.tup_iff.mpr (this.mono (by omega) (by simp; omega) (by omega))
section
variable {pg : Pg} {k m : Nat} {s : S}
end
end Fw
namespace Fw
open PySem
def beginningB : Cs := (.cons (.ret (.tup (.cons (.int 0) (.cons (.nm 0) (.cons .non .nil))))) .nil)
def walkedB (fhear fbeginning : Nat) : Cs := (.cons (.set (.nm 3) (.call fbeginning (.cons (.nm 2) .nil))) (.cons (.own 4 (.disp .nil)) (.cons (.fors (.nm 5) (.seq (.nm 1)) (.cons (.set (.tup (.cons (.nm 6) (.cons (.nm 3) .nil))) (.call fhear (.cons (.nm 0) (.cons (.nm 3) (.cons (.nm 5) .nil))))) (.cons (.app 4 (.nm 6)) .nil))) (.cons (.ret (.tup (.cons (.bi .tuple (.cons (.pk 4) .nil)) (.cons (.nm 3) .nil)))) .nil))))
def answersB (fwalked : Nat) : Cs := (.cons (.ret (.sub (.call fwalked (.cons (.nm 0) (.cons (.nm 1) (.cons (.nm 2) .nil)))) (.int 0))) .nil)
def l_walkB (fheard : Nat) : Cs := (.cons (.par [4, 5] [(.v (.tup (.cons (.int 0) (.cons (.nm 1) (.cons .non .nil))))), (.o (.disp .nil))]) (.cons (.fors (.nm 3) (.seq (.nm 2)) (.cons (.set (.tup (.cons (.nm 6) (.cons (.nm 4) .nil))) (.call fheard (.cons (.nm 0) (.cons (.nm 4) (.cons (.nm 3) .nil))))) (.cons (.app 5 (.nm 6)) .nil))) (.cons (.ret (.tup (.cons (.bi .tuple (.cons (.pk 5) .nil)) (.cons (.nm 4) .nil)))) .nil)))
def l_numbersB (fdip fpick fheard : Nat) : Cs := (.cons (.par [5, 6] [(.v (.tup (.cons (.int 0) (.cons (.nm 2) (.cons .non .nil))))), (.o (.disp .nil))]) (.cons (.fors (.nm 4) (.range1 (.call fdip (.cons (.nm 0) (.cons (.bin .Add (.nm 3) (.int 1)) .nil)))) (.cons (.set (.nm 7) (.call fdip (.cons (.nm 0) (.cons (.int 9) .nil)))) (.cons (.ifs (.cmp .Eq (.nm 7) (.int 0)) (.cons (.set (.nm 8) (.bin .Add (.sub (.nm 5) (.int 1)) (.call fpick (.cons (.nm 0) (.cons (.frz (.disp (.cons (.un .USub (.bin .Pow (.int 10) (.int 20))) (.cons (.un .USub (.int 14)) (.cons (.un .USub (.int 13)) (.cons (.un .USub (.int 7)) (.cons (.int 7) (.cons (.int 13) (.cons (.int 14) (.cons (.bin .Pow (.int 10) (.int 20)) .nil)))))))))) .nil))))) .nil) (.cons (.ifs (.and (.cons (.cmp .Eq (.nm 7) (.int 1)) (.cons (.cmp .NotEq (.pk 6) (.frz (.disp .nil))) .nil))) (.cons (.set (.nm 8) (.sub (.pk 6) (.un .USub (.int 1)))) .nil) (.cons (.ifs (.and (.cons (.cmp .Lt (.nm 7) (.int 4)) (.cons (.cmp .IsNot (.sub (.nm 5) (.int 2)) .non) .nil))) (.cons (.set (.nm 8) (.bin .Sub (.bin .Add (.sub (.nm 5) (.int 2)) (.call fdip (.cons (.nm 0) (.cons (.int 5) .nil)))) (.int 1))) .nil) (.cons (.set (.nm 8) (.bin .Add (.sub (.nm 5) (.int 1)) (.ite (.cmp .Lt (.nm 7) (.int 6)) (.bin .Sub (.call fdip (.cons (.nm 0) (.cons (.int 15) .nil))) (.int 7)) (.bin .Add (.int 1) (.call fdip (.cons (.nm 0) (.cons (.int 7) .nil))))))) .nil)) .nil)) .nil)) (.cons (.app 6 (.nm 8)) (.cons (.set (.nm 5) (.sub (.call fheard (.cons (.nm 1) (.cons (.nm 5) (.cons (.nm 8) .nil)))) (.int 1))) .nil))))) (.cons (.ret (.bi .tuple (.cons (.pk 6) .nil))) .nil)))
def walkF (R : Rc) : Std → List Int → List Bool × Std
  | x, [] => ([], x)
  | x, n :: ns => ((hearF R x n).1 :: (walkF R (hearF R x n).2 ns).1, (walkF R (hearF R x n).2 ns).2)
theorem walkF_append (R : Rc) : ∀ (ms ns : List Int) (x : Std), walkF R x (ms ++ ns) = ((walkF R x ms).1 ++ (walkF R (walkF R x ms).2 ns).1, (walkF R (walkF R x ms).2 ns).2)
  | [], ns, x => rfl
  | m :: ms, ns, x => by simp only [List.cons_append, walkF, walkF_append R ms ns]
theorem walkF_moved (R : Rc) (b : Int) : ∀ (ns : List Int) (x : Std), walkF R (x.moved b) (ns.map (· + b)) = ((walkF R x ns).1, (walkF R x ns).2.moved b)
  | [], x => rfl
  | n :: ns, x => by simp only [List.map_cons, walkF, hear_moved, walkF_moved R b ns]
theorem walkF_len (R : Rc) : ∀ (ns : List Int) (x : Std), (walkF R x ns).1.length = ns.length
  | [], x => rfl
  | n :: ns, x => by simp only [walkF, List.length_cons, walkF_len R ns]
def beg (o : Int) : Std := ⟨0, o, none⟩
def wD (a : List Bool × Std) : D := .tup [.tup (a.1.map D.bl), a.2.d]
theorem bls_dep {bs : List Bool} : (D.tup (bs.map D.bl)).py.depth ≤ 1 := by
  have : PyData.depthAll (D.pys (bs.map D.bl)) ≤ 0 := dps_iff.mpr fun x hx => by obtain ⟨b, _, rfl⟩ := List.mem_map.mp hx; simp [D.py, PyData.depth]
  simp only [D.py, PyData.depth]
  omega
theorem hearF_ok {R : Rc} {m n : Nat} (hR : R.ok m n) {x : Std} (hx : x.rest.ok R.length) (z : Int) : (hearF R x z).2.rest.ok R.length := by
  have := hear_rest R x z
  rw [show (hearF R x z).2.rest = (stepF R x.rest (z - x.last)).2 from congrArg Prod.snd this]
  exact stepF_ok hR hx _
theorem walkF_ok {R : Rc} {m n : Nat} (hR : R.ok m n) : ∀ (ns : List Int) {x : Std}, x.rest.ok R.length → (walkF R x ns).2.rest.ok R.length
  | [], x, h => h
  | z :: ns, x, h => walkF_ok hR ns (hearF_ok hR h z)
theorem beg_ok {R : Rc} {m n : Nat} (hR : R.ok m n) (o : Int) : (beg o).rest.ok R.length := ⟨hR.pos, fun g hg => by cases hg⟩
theorem walk_take {R : Rc} {x : Std} {ns : List Int} {i : Nat} {z : Int} (h : ns[i]? = some z) : walkF R x (ns.take (i + 1)) = ((walkF R x (ns.take i)).1 ++ [(hearF R (walkF R x (ns.take i)).2 z).1], (hearF R (walkF R x (ns.take i)).2 z).2) := by
  rw [List.take_add_one, h]
  show walkF R x (ns.take i ++ [z]) = _
  rw [walkF_append]
  rfl
section
variable {pg : Pg} {k m n : Nat} {s : S} {R : Rc} {ro li co st : Nat}
/-- the program's defs of hearing -/
structure HearP (pg : Pg) (ro li co st he be wa : Nat) : Prop extends StepP pg ro li co st where
  h5 : ∃ nm, pg.fns[he]? = some ⟨nm, 6, 3, hearB ro st⟩
  h6 : ∃ nm, pg.fns[be]? = some ⟨nm, 1, 1, beginningB⟩
  h7 : ∃ nm, pg.fns[wa]? = some ⟨nm, 7, 3, walkedB he be⟩
variable {he be wa : Nat}
theorem HearP.walked (w : HearP pg ro li co st he be wa) (hR : R.ok m n) {ns : List Int} (hn : ns.length ≤ 100000) {o : Int} : (callN pg (k + 5) wa [R.d, .tup (ns.map D.int), .int o] s).wp fun d s' => d = wD (walkF R (beg o) ns) ∧ s' = s := by
  obtain ⟨nm, hf⟩ := w.h7
  refine callN_wc hf rfl ?_
  unfold walkedB
  kd_adr
  refine c_cons ?_
  kd_mem
  have hb : (callN pg (k + 4) be [.int o] s).wp fun d s' => d = (beg o).d ∧ s' = s := by
    obtain ⟨nm, hf⟩ := w.h6
    refine callN_wc hf rfl ?_
    unfold beginningB
    kd_adr
    ksw_less
    exact ⟨rfl, rfl⟩
  refine hb.mono fun d s' ⟨e1, e2⟩ => ?_
  subst e1 e2
  kst_mem
  refine c_cons ?_
  kd_mem
  kst_mem
  refine c_cons ?_
  kd_mem
  refine for_map (f := D.int) (xs := ns) (fun i env s'' => s'' = s' ∧ ∃ a5 a6, env = [some (.val R.d), some (.val (.tup (ns.map D.int))), some (.val (.int o)), some (.val (walkF R (beg o) (ns.take i)).2.d), some (.own ((walkF R (beg o) (ns.take i)).1.map D.bl)), a5, a6]) ⟨rfl, _, _, rfl⟩ ?_ ?_
  · rintro i z env s'' hz ⟨rfl, a5, a6, rfl⟩
    refine ⟨_, rfl, ?_⟩
    kst_mem
    refine c_cons ?_
    kd_mem
    refine (hear_wp w.toStepP w.h5 (walkF_ok hR _ (beg_ok hR o)).1).mono fun d s' ⟨e1, e2⟩ => ?_
    subst e1 e2
    kd_mem
    kst_mem
    refine c_cons ?_
    kd_mem
    have hl : i < ns.length := (List.getElem?_eq_some_iff.mp hz).1
    refine ⟨by simp only [List.length_map, walkF_len, List.length_take, lim]; omega, ?_⟩
    refine ⟨rfl, some (.val (.int z)), some (.val (.bl (hearF R (walkF R (beg o) (ns.take i)).2 z).1)), ?_⟩
    rw [walk_take hz]
    simp only [List.map_append, List.map_cons, List.map_nil]
    rfl
  · rintro env s'' ⟨rfl, a5, a6, rfl⟩
    rw [List.take_length]
    ksw_less
    exact ⟨rfl, rfl⟩
theorem HearP.answers (w : HearP pg ro li co st he be wa) {f : Nat} (hf : ∃ nm, pg.fns[f]? = some ⟨nm, 3, 3, answersB wa⟩) (hR : R.ok m n) {ns : List Int} (hn : ns.length ≤ 100000) {o : Int} : (callN pg (k + 6) f [R.d, .tup (ns.map D.int), .int o] s).wp fun d s' => d = .tup ((walkF R (beg o) ns).1.map D.bl) ∧ s' = s := by
  obtain ⟨nm, hf⟩ := hf
  refine callN_wc hf rfl ?_
  unfold answersB
  kd_adr
  refine c_cons ?_
  kd_mem
  refine (w.walked hR hn).mono fun d s' ⟨e1, e2⟩ => ?_
  subst e1 e2
  kd_mem
  exact ⟨rfl, rfl⟩
/-- the law's -/
structure HearL (pg : Pg) (li co st re he : Nat) : Prop extends StepL pg li co st where
  h5 : ∃ nm, pg.fns[re]? = some ⟨nm, 1, 1, l_restB⟩
  h6 : ∃ nm, pg.fns[he]? = some ⟨nm, 6, 3, l_heardB st re⟩
variable {re : Nat}
theorem HearL.heard (w : HearL pg li co st re he) {x : Std} (hR : R.ok m n) (hn : n ≤ 1000) (hx : x.st < R.length) {z : Int} : (callN pg (k + 4) he [R.d, x.d, .int z] s).wp fun d s' => d = hsD (hearF R x z) ∧ s' = s := by
  rw [← heard_eq]
  exact l_heard_wp w.toStepL w.h5 w.h6 hx fun st h => by have := hR.row st h; omega
theorem HearL.walk (w : HearL pg li co st re he) {f : Nat} (hf : ∃ nm, pg.fns[f]? = some ⟨nm, 7, 3, l_walkB he⟩) (hR : R.ok m n) (hm : n ≤ 1000) {ns : List Int} (hn : ns.length ≤ 100000) {o : Int} : (callN pg (k + 5) f [R.d, .int o, .tup (ns.map D.int)] s).wp fun d s' => d = wD (walkF R (beg o) ns) ∧ s' = s := by
  obtain ⟨nm, hf⟩ := hf
  refine callN_wc hf rfl ?_
  unfold l_walkB
  kd_adr
  refine c_cons ?_
  kd_mem
  simp only [setAll]
  kst_mem
  refine c_cons ?_
  kd_mem
  refine for_map (f := D.int) (xs := ns) (fun i env s'' => s'' = s ∧ ∃ a5 a6, env = [some (.val R.d), some (.val (.int o)), some (.val (.tup (ns.map D.int))), a5, some (.val (walkF R (beg o) (ns.take i)).2.d), some (.own ((walkF R (beg o) (ns.take i)).1.map D.bl)), a6]) ⟨rfl, _, _, rfl⟩ ?_ ?_
  · rintro i z env s'' hz ⟨rfl, a5, a6, rfl⟩
    refine ⟨_, rfl, ?_⟩
    kst_mem
    refine c_cons ?_
    kd_mem
    refine (w.heard hR hm (walkF_ok hR _ (beg_ok hR o)).1).mono fun d s' ⟨e1, e2⟩ => ?_
    subst e1 e2
    kd_mem
    kst_mem
    refine c_cons ?_
    kd_mem
    have hl : i < ns.length := (List.getElem?_eq_some_iff.mp hz).1
    refine ⟨by simp only [List.length_map, walkF_len, List.length_take, lim]; omega, ?_⟩
    refine ⟨rfl, some (.val (.int z)), some (.val (.bl (hearF R (walkF R (beg o) (ns.take i)).2 z).1)), ?_⟩
    rw [walk_take hz]
    simp only [List.map_append, List.map_cons, List.map_nil]
    rfl
  · rintro env s'' ⟨rfl, a5, a6, rfl⟩
    rw [List.take_length]
    ksw_less
    exact ⟨rfl, rfl⟩
theorem ints_ne_nil {ns : List Int} : cmpop .NotEq (.lst (ns.map D.int)) (.lst []) = some (!ns.isEmpty) := by
  have hd : D.dats (ns.map D.int) = true := by
    induction ns with
    | nil => rfl
    | cons x xs ih => simp only [List.map_cons, D.dats, ih, D.dat, Bool.and_self]
  have e1 : eqOk (.lst (ns.map D.int)) (.lst []) = true := by
    show ((D.lst (ns.map D.int)).dat && (D.lst []).dat && decide (min (D.lst (ns.map D.int)).py.depth (D.lst []).py.depth ≤ 64)) = true
    simp only [D.dat, hd, D.dats, D.py, D.pys, PyData.depth, PyData.depthAll, Bool.true_and, decide_eq_true_eq]
    omega
  rw [ne_lst _ (by simp only [D.dat]; exact hd), e1]
  cases ns with
  | nil => decide +kernel
  | cons x xs => rfl
end
end Fw
namespace Fw
open PySem
/-- a comprehension without a test whose item leaves the store -/
theorem comp_map {α : Type} {gl : List D} {call : Nat → List D → S → R D} {put : D → Option Env} {e : Env → S → R D} {f g : α → D} {s : S} : ∀ {xs : List α} {Q : List D → S → Prop}, (∀ x ∈ xs, ∃ env1, put (f x) = some env1 ∧ (e env1 s).wp fun r s' => r = g x ∧ s' = s) → Q (xs.map g) s → (compL put (evTs gl call true .nil) e (xs.map f) s).wp Q
  | [], Q, _, hq => hq
  | x :: xs, Q, h, hq => by
    obtain ⟨env1, h1, h2⟩ := h x (List.mem_cons_self ..)
    rw [List.map_cons]
    unfold compL
    rw [h1]
    simp only [evTs, R.bind_ok, if_true]
    rw [wp_bind]
    refine h2.mono fun r s' ⟨e1, e2⟩ => ?_
    subst e1 e2
    rw [wp_bind]
    have := comp_map (gl := gl) (call := call) (put := put) (e := e) (f := f) (g := g) (s := s') (xs := xs) (Q := fun ys s => Q (g x :: ys) s) (fun y hy => h y (List.mem_cons_of_mem _ hy)) hq
    simp only [evTs] at this
    exact this
/-! mirrored -/
theorem Rc.pln {R : Rc} {m n : Nat} (h : R.ok m n) (hm : m ≤ 10) (hn : n ≤ 10) : R.d.pln = true := by
  have hr : ∀ r : Row, r.d.pln = true := fun r => by
    obtain ⟨⟨a, b⟩, af, dd, nx⟩ := r
    have o : ∀ a : Option Int, (ob a).pln = true := fun a => by cases a <;> rfl
    have e1 : (Rg.d (a, b)).pln = true := by simp [Rg.d, D.pln, D.plns, o]
    have e2 : (oR af).pln = true := by
      cases af with
      | none => rfl
      | some a => simp [oR, Rg.d, D.pln, D.plns, o]
    simp [Row.d, D.pln, D.plns, e1, e2, Deed.d]
  have hl := h.len
  unfold Rc.d
  simp only [D.pln, Bool.and_eq_true, decide_eq_true_eq, List.length_map]
  refine ⟨plns_iff.mpr fun x hx => ?_, by omega⟩
  obtain ⟨st, hst, rfl⟩ := List.mem_map.mp hx
  have hl := h.row st hst
  unfold stD
  simp only [D.pln, Bool.and_eq_true, decide_eq_true_eq, List.length_map]
  refine ⟨plns_iff.mpr fun x hx => ?_, by omega⟩
  obtain ⟨r, hr', rfl⟩ := List.mem_map.mp hx
  exact hr r
def turned_boundB : Cs := (.cons (.ret (.ite (.cmp .Is (.nm 0) .non) .non (.bin .Sub (.int 0) (.nm 0)))) .nil)
def turned_rangeB (fturnedbound : Nat) : Cs := (.cons (.ret (.ite (.cmp .Is (.nm 0) .non) .non (.tup (.cons (.call fturnedbound (.cons (.sub (.nm 0) (.int 1)) .nil)) (.cons (.call fturnedbound (.cons (.sub (.nm 0) (.int 0)) .nil)) .nil))))) .nil)
def mirroredB (fturnedrange : Nat) : Cs := (.cons (.own 1 (.disp .nil)) (.cons (.fors (.nm 2) (.seq (.nm 0)) (.cons (.app 1 (.bi .tuple (.cons (.frz (.comp (.nm 3) (.seq (.nm 2)) .nil (.bin .Add (.tup (.cons (.call fturnedrange (.cons (.sub (.nm 3) (.int 0)) .nil)) (.cons (.call fturnedrange (.cons (.sub (.nm 3) (.int 1)) .nil)) .nil))) (.slice (.nm 3) (.so (.int 2)) .no)) [3])) .nil))) .nil)) (.cons (.ret (.bi .tuple (.cons (.pk 1) .nil))) .nil)))
section
variable {pg : Pg} {k : Nat} {s : S}
structure MirP (pg : Pg) (tb tr mi : Nat) : Prop where
  h1 : ∃ nm, pg.fns[tb]? = some ⟨nm, 1, 1, turned_boundB⟩
  h2 : ∃ nm, pg.fns[tr]? = some ⟨nm, 1, 1, turned_rangeB tb⟩
  h3 : ∃ nm, pg.fns[mi]? = some ⟨nm, 4, 1, mirroredB tr⟩
variable {tb tr mi : Nat}
end
end Fw
namespace Fw
open PySem
/-! ## things that compare -/
/-- things of a kind that stand as data, with their order -/
structure Kind (α : Type) [DecidableEq α] where
  f : α → D
  lt : α → α → Bool
  cmp : ∀ a b, cmpop .Lt (f a) (f b) = some (lt a b)
  eq : ∀ a b, cmpop .Eq (f a) (f b) = some (decide (a = b))
  irr : ∀ a, lt a a = false
  trans : ∀ {a b c}, lt a b = true → lt b c = true → lt a c = true
  total : ∀ {a b}, lt a b = false → a ≠ b → lt b a = true
  dat : ∀ a, (f a).dat = true
section
variable {α : Type} [DecidableEq α]
def mrg (K : Kind α) : List α → List α → List α
  | [], ys => ys
  | x :: xs, [] => x :: xs
  | x :: xs, y :: ys => if K.lt y x then y :: mrg K (x :: xs) ys else x :: mrg K xs (if x = y then ys else y :: ys)
termination_by xs ys => xs.length + ys.length
decreasing_by all_goals (simp only [List.length_cons]; first | omega | (split <;> (try simp only [List.length_cons]) <;> omega))
theorem mrg_lt {K : Kind α} {x y : α} {xs ys : List α} (h : K.lt y x = true) : mrg K (x :: xs) (y :: ys) = y :: mrg K (x :: xs) ys := by
  conv => lhs; unfold mrg
  rw [if_pos h]
theorem mrg_ge {K : Kind α} {x y : α} {xs ys : List α} (h : K.lt y x = false) : mrg K (x :: xs) (y :: ys) = x :: mrg K xs (if x = y then ys else y :: ys) := by
  conv => lhs; unfold mrg
  rw [if_neg (show ¬ K.lt y x = true by rw [h]; simp)]
/-- strictly ascending -/
def Asc (K : Kind α) : List α → Prop
  | [] => True
  | x :: xs => (∀ y ∈ xs, K.lt x y = true) ∧ Asc K xs
theorem mrg_mem (K : Kind α) : ∀ (xs ys : List α) (z : α), z ∈ mrg K xs ys ↔ z ∈ xs ∨ z ∈ ys
  | [], ys, z => by unfold mrg; simp
  | x :: xs, [], z => by unfold mrg; simp
  | x :: xs, y :: ys, z => by
    unfold mrg
    split
    · rw [List.mem_cons, mrg_mem K (x :: xs) ys z]
      simp only [List.mem_cons]
      grind
    · rw [List.mem_cons, mrg_mem K xs _ z]
      split
      · rename_i h
        subst h
        simp only [List.mem_cons]
        constructor
        · rintro (h | h | h) <;> simp [h]
        · rintro ((h | h) | (h | h)) <;> simp [h]
      · simp only [List.mem_cons]
        constructor
        · rintro (h | h | h | h) <;> simp [h]
        · rintro ((h | h) | (h | h)) <;> simp [h]
termination_by xs ys => xs.length + ys.length
decreasing_by all_goals (simp only [List.length_cons]; first | omega | (split <;> (try simp only [List.length_cons]) <;> omega))
theorem mrg_asc (K : Kind α) : ∀ (xs ys : List α), Asc K xs → Asc K ys → Asc K (mrg K xs ys)
  | [], ys, _, h => by unfold mrg; exact h
  | x :: xs, [], h, _ => by unfold mrg; exact h
  | x :: xs, y :: ys, h1, h2 => by
    unfold mrg
    split
    · rename_i h
      refine ⟨fun z hz => ?_, mrg_asc K (x :: xs) ys h1 h2.2⟩
      rcases (mrg_mem K _ _ z).mp hz with hz | hz
      · rcases List.mem_cons.mp hz with rfl | hz
        · exact h
        · exact K.trans h (h1.1 z hz)
      · exact h2.1 z hz
    · rename_i h
      have h : K.lt y x = false := by simpa using h
      have hrest : ∀ z ∈ (if x = y then ys else y :: ys), K.lt x z = true := fun z hz => by
        split at hz
        · rename_i e
          subst e
          exact h2.1 z hz
        · rename_i e
          have hxy : K.lt x y = true := K.total h (fun q => e q.symm)
          rcases List.mem_cons.mp hz with rfl | hz
          · exact hxy
          · exact K.trans hxy (h2.1 z hz)
      refine ⟨fun z hz => ?_, mrg_asc K xs _ h1.2 ?_⟩
      · rcases (mrg_mem K _ _ z).mp hz with hz | hz
        · exact h1.1 z hz
        · exact hrest z hz
      · split
        · exact h2.2
        · exact h2
termination_by xs ys => xs.length + ys.length
decreasing_by all_goals (simp only [List.length_cons]; first | omega | (split <;> (try simp only [List.length_cons]) <;> omega))
theorem mrg_len (K : Kind α) : ∀ (xs ys : List α), (mrg K xs ys).length ≤ xs.length + ys.length
  | [], ys => by unfold mrg; simp
  | x :: xs, [] => by unfold mrg; simp
  | x :: xs, y :: ys => by
    unfold mrg
    split
    · have := mrg_len K (x :: xs) ys
      simp only [List.length_cons] at this ⊢; omega
    · have := mrg_len K xs (if x = y then ys else y :: ys)
      have h2 : (if x = y then ys else y :: ys).length ≤ ys.length + 1 := by split <;> simp
      simp only [List.length_cons] at this ⊢; omega
termination_by xs ys => xs.length + ys.length
decreasing_by all_goals (simp only [List.length_cons]; first | omega | (split <;> (try simp only [List.length_cons]) <;> omega))
end
def mergedB : Cs := (.cons (.own 2 (.disp .nil)) (.cons (.set (.tup (.cons (.nm 3) (.cons (.nm 4) .nil))) (.tup (.cons (.int 0) (.cons (.int 0) .nil)))) (.cons (.whiles (.and (.cons (.cmp .Lt (.nm 3) (.bi .len (.cons (.nm 0) .nil))) (.cons (.cmp .Lt (.nm 4) (.bi .len (.cons (.nm 1) .nil))) .nil))) (.cons (.ifs (.cmp .Lt (.sub (.nm 1) (.nm 4)) (.sub (.nm 0) (.nm 3))) (.cons (.app 2 (.sub (.nm 1) (.nm 4))) (.cons (.aug 4 .Add (.int 1)) .nil)) (.cons (.aug 4 .Add (.bi .int (.cons (.cmp .Eq (.sub (.nm 0) (.nm 3)) (.sub (.nm 1) (.nm 4))) .nil))) (.cons (.app 2 (.sub (.nm 0) (.nm 3))) (.cons (.aug 3 .Add (.int 1)) .nil)))) .nil)) (.cons (.ret (.frz (.cat (.frz (.cat (.pk 2) (.slice (.nm 0) (.so (.nm 3)) .no))) (.slice (.nm 1) (.so (.nm 4)) .no)))) .nil))))
def in_orderB (fmerged : Nat) : Cs := (.cons (.set (.nm 1) (.frz (.comp (.nm 4) (.seq (.nm 0)) .nil (.frz (.disp (.cons (.nm 4) .nil))) [4]))) (.cons (.whiles (.cmp .Gt (.bi .len (.cons (.nm 1) .nil)) (.int 1)) (.cons (.set (.nm 2) (.bin .FloorDiv (.bi .len (.cons (.nm 1) .nil)) (.int 2))) (.cons (.set (.nm 3) (.slice (.nm 1) (.so (.bin .Mult (.int 2) (.nm 2))) .no)) (.cons (.set (.nm 1) (.frz (.cat (.frz (.comp (.tup (.cons (.nm 5) (.cons (.nm 6) .nil))) (.zip (.slice (.nm 1) .no (.so (.nm 2))) (.slice (.nm 1) (.so (.nm 2)) (.so (.bin .Mult (.int 2) (.nm 2))))) .nil (.call fmerged (.cons (.nm 5) (.cons (.nm 6) .nil))) [5, 6])) (.nm 3)))) .nil)))) (.cons (.ret (.ite (.cmp .NotEq (.nm 1) (.frz (.disp .nil))) (.bi .tuple (.cons (.sub (.nm 1) (.int 0)) .nil)) (.tup .nil))) .nil)))
theorem at_natL {s : S} {xs : List D} {i : Nat} {x : D} (h : xs[i]? = some x) : subS s (.lst xs) (.int i) = some x := by
  show L2.atI xs (i : Int) = _
  rw [atI_nat, h]
section
variable {α : Type} [DecidableEq α] {K : Kind α} {pg : Pg} {k : Nat} {s : S}
theorem i_zip {gl : List D} {call : Nat → List D → S → R D} {env : Env} {Q : List D → S → Prop} {a b : E} (h : (evE gl call a env s).wp fun x s => (evE gl call b env s).wp fun y s => ∃ xs ys, (x = .lst xs ∧ y = .lst ys ∨ x = .tup xs ∧ y = .tup ys) ∧ Q (zipD xs ys) s) : (evI gl call (.zip a b) env s).wp Q := by
  simp only [evI, wp_bind]
  refine h.mono fun x s h => h.mono fun y s ⟨xs, ys, h1, h2⟩ => ?_
  rcases h1 with ⟨rfl, rfl⟩ | ⟨rfl, rfl⟩
  · exact h2
  · exact h2
theorem zip_map {β γ : Type} {f : β → D} {g : γ → D} : ∀ {as : List β} {bs : List γ}, zipD (as.map f) (bs.map g) = (as.zip bs).map fun p => D.tup [f p.1, g p.2]
  | [], _ => by simp [zipD]
  | _ :: _, [] => by simp [zipD]
  | a :: as, b :: bs => by
    have := zip_map (f := f) (g := g) (as := as) (bs := bs)
    unfold zipD at this ⊢
    simp only [List.map_cons, List.zipWith_cons_cons, List.zip_cons_cons, this]
theorem cut_mid {β : Type} (xs : List β) {i j : Nat} (h1 : i ≤ j) (h2 : j ≤ xs.length) : cutD xs (some (i : Int)) (some (j : Int)) = (xs.drop i).take (j - i) := by
  unfold cutD
  have e1 : HT.sIx xs.length 0 (some (i : Int)) = i := by
    show (if (i : Int) < 0 then ((i : Int) + (xs.length : Int)).toNat else min (i : Int).toNat xs.length) = _
    rw [if_neg (by omega)]; omega
  have e2 : HT.sIx xs.length xs.length (some (j : Int)) = j := by
    show (if (j : Int) < 0 then ((j : Int) + (xs.length : Int)).toNat else min (j : Int).toNat xs.length) = _
    rw [if_neg (by omega)]; omega
  rw [e1, e2]
theorem ne_nilL {xs : List D} (hd : D.dats xs = true) : cmpop .NotEq (.lst xs) (.lst []) = some (!xs.isEmpty) := by
  have e1 : eqOk (.lst xs) (.lst []) = true := by
    show ((D.lst xs).dat && (D.lst []).dat && decide (min (D.lst xs).py.depth (D.lst []).py.depth ≤ 64)) = true
    simp only [D.dat, hd, D.dats, D.py, D.pys, PyData.depth, PyData.depthAll, Bool.true_and, decide_eq_true_eq]
    omega
  rw [ne_lst _ (by simp only [D.dat]; exact hd), e1]
  cases xs with
  | nil => decide +kernel
  | cons x xs => rfl
theorem dats_iff : ∀ {xs : List D}, D.dats xs = true ↔ ∀ x ∈ xs, x.dat = true
  | [] => by simp [D.dats]
  | x :: xs => by simp [D.dats, dats_iff (xs := xs)]
theorem sum_mem {β : Type} {g : β → Nat} {b : β} : ∀ {l : List β}, b ∈ l → g b ≤ (l.map g).sum
  | [], h => by cases h
  | x :: l, h => by
    simp only [List.map_cons, List.sum_cons]
    rcases List.mem_cons.mp h with rfl | h
    · omega
    · have := sum_mem (g := g) h; omega
theorem zip_sum {g : List α → Nat} {mg : List α → List α → List α} (hg : ∀ a b, g (mg a b) ≤ g a + g b) : ∀ (A B : List (List α)), (((A.zip B).map fun p => mg p.1 p.2).map g).sum ≤ (A.map g).sum + (B.map g).sum
  | [], B => by simp
  | a :: A, [] => by simp
  | a :: A, b :: B => by
    have := zip_sum hg A B
    have := hg a b
    simp only [List.zip_cons_cons, List.map_cons, List.sum_cons]
    omega
theorem zip_mem_l {β γ : Type} : ∀ {A : List β} {B : List γ}, A.length ≤ B.length → ∀ a ∈ A, ∃ b ∈ B, (a, b) ∈ A.zip B
  | [], _, _, a, h => by cases h
  | x :: A, [], h, _, _ => by simp at h
  | x :: A, y :: B, h, a, ha => by
    rcases List.mem_cons.mp ha with rfl | ha
    · exact ⟨y, List.mem_cons_self .., by simp⟩
    · obtain ⟨b, hb, hz⟩ := zip_mem_l (A := A) (B := B) (by simpa using h) a ha
      exact ⟨b, List.mem_cons_of_mem _ hb, by rw [List.zip_cons_cons]; exact List.mem_cons_of_mem _ hz⟩
theorem zip_mem_r {β γ : Type} : ∀ {A : List β} {B : List γ}, B.length ≤ A.length → ∀ b ∈ B, ∃ a ∈ A, (a, b) ∈ A.zip B
  | _, [], _, a, h => by cases h
  | [], x :: B, h, _, _ => by simp at h
  | x :: A, y :: B, h, b, hb => by
    rcases List.mem_cons.mp hb with rfl | hb
    · exact ⟨x, List.mem_cons_self .., by simp⟩
    · obtain ⟨a, ha, hz⟩ := zip_mem_r (A := A) (B := B) (by simpa using h) b hb
      exact ⟨a, List.mem_cons_of_mem _ ha, by rw [List.zip_cons_cons]; exact List.mem_cons_of_mem _ hz⟩
end
end Fw
namespace Fw
open PySem
/-! ## rests as things that compare -/
def Rst.ns (t : Rst) : List Int := match t.gap with
  | none => [t.st]
  | some g => [t.st, g]
section
variable {pg : Pg} {k : Nat} {s : S}
end
/-! ## the rests that are met -/
@[irreducible] def steps : List Int := (List.range 27).map fun (i : Nat) => (i : Int) - 13
def addR (l : List Rst) (t : Rst) : List Rst := if t ∈ l then l else l ++ [t]
def passTo (R : Rc) (l : List Rst) (t : Rst) (xs : List Int) : List Rst := xs.foldl (fun l x => addR l (stepF R t x).2) l
def mstep (R : Rc) (i : Nat) (l : List Rst) : List Rst := match l[i]? with
  | none => l
  | some t => passTo R l t steps
def metA0 (R : Rc) : Nat → List Rst
  | 0 => [⟨0, none⟩]
  | i + 1 => mstep R i (metA0 R i)
@[irreducible] def metAt (R : Rc) (i : Nat) : List Rst := metA0 R i
@[irreducible] def metF (R : Rc) : List Rst := metAt R 200
/-- what is known of such a list -/
structure Met (R : Rc) (l : List Rst) : Prop where
  nd : l.Nodup
  ok : ∀ t ∈ l, t.ok R.length
/-- come to from the beginning -/
inductive Come (R : Rc) : Rst → Prop
  | zero : Come R ⟨0, none⟩
  | step {t : Rst} (x : Int) : Come R t → Come R (stepF R t x).2
end Fw
namespace Fw
open PySem
def all_stepsB (gFAR : Nat) : Cs := (.cons (.ret (.frz (.listR (.bin .Sub (.int 0) (.glob gFAR)) (.bin .Add (.glob gFAR) (.int 1))))) .nil)
def rests_metB (fstepfrom fallsteps : Nat) : Cs := (.cons (.own 1 (.disp (.cons (.tup (.cons (.int 0) .nil)) .nil))) (.cons (.set (.nm 2) (.int 0)) (.cons (.whiles (.cmp .Lt (.nm 2) (.bi .len (.cons (.pk 1) .nil))) (.cons (.fors (.nm 3) (.seq (.call fallsteps .nil)) (.cons (.set (.nm 4) (.sub (.call fstepfrom (.cons (.nm 0) (.cons (.sub (.pk 1) (.nm 2)) (.cons (.nm 3) .nil)))) (.int 1))) (.cons (.ifs (.cmp .NotIn (.nm 4) (.pk 1)) (.cons (.app 1 (.nm 4)) .nil) .nil) .nil))) (.cons (.aug 2 .Add (.int 1)) .nil))) (.cons (.frz 1) (.cons (.ret (.nm 1)) .nil)))))
def l_restsB (fstep : Nat) : Cs := (.cons (.par [1, 2] [(.o (.disp (.cons (.tup (.cons (.int 0) .nil)) .nil))), (.v (.int 0))]) (.cons (.whiles (.cmp .Lt (.nm 2) (.bi .len (.cons (.pk 1) .nil))) (.cons (.fors (.nm 3) (.range2 (.un .USub (.int 13)) (.int 14)) (.cons (.set (.nm 4) (.sub (.call fstep (.cons (.nm 0) (.cons (.sub (.pk 1) (.nm 2)) (.cons (.nm 3) .nil)))) (.int 1))) (.cons (.ifs (.cmp .NotIn (.nm 4) (.pk 1)) (.cons (.app 1 (.nm 4)) .nil) .nil) .nil))) (.cons (.set (.nm 2) (.bin .Add (.nm 2) (.int 1))) .nil))) (.cons (.frz 1) (.cons (.ret (.nm 1)) .nil))))
def l_chartB (fstep frests : Nat) : Cs := (.cons (.par [2, 3] [(.v (.call frests (.cons (.nm 0) .nil))), (.o (.disp .nil))]) (.cons (.fors (.nm 1) (.seq (.nm 2)) (.cons (.app 3 (.frz (.comp (.nm 4) (.range2 (.un .USub (.int 13)) (.int 14)) .nil (.call fstep (.cons (.nm 0) (.cons (.nm 1) (.cons (.nm 4) .nil)))) [4]))) .nil)) (.cons (.frz 3) (.cons (.ret (.tup (.cons (.nm 3) (.cons (.nm 2) .nil)))) .nil))))
section
variable {pg : Pg} {k m n : Nat} {s : S} {R : Rc} {ro li co st : Nat}
structure MetP (pg : Pg) (li co st al rm g : Nat) : Prop where
  h2 : ∃ nm, pg.fns[li]? = some ⟨nm, 4, 2, lies_inB⟩
  h3 : ∃ nm, pg.fns[co]? = some ⟨nm, 9, 3, counting_rowB li⟩
  h4 : ∃ nm, pg.fns[st]? = some ⟨nm, 6, 3, step_fromB co⟩
  h5 : ∃ nm, pg.fns[al]? = some ⟨nm, 0, 0, all_stepsB g⟩
  h6 : ∃ nm, pg.fns[rm]? = some ⟨nm, 5, 1, rests_metB st al⟩
  hg : pg.gl[g]? = some (.int 13)
variable {al rm g : Nat}
end
end Fw
namespace Fw
open PySem
theorem ts_one {gl : List D} {call : Nat → List D → S → R D} {t : T} {env : Env} {s : S} {Q : Bool → S → Prop} (h : (evT gl call t env s).wp Q) : (evTs gl call true (.cons t .nil) env s).wp Q := by
  simp only [evTs, wp_bind]
  refine h.mono fun b s h => ?_
  cases b with
  | true => exact h
  | false => exact h
/-- a comprehension with a test -/
theorem comp_filter {α : Type} {put : D → Option Env} {t : Env → S → R Bool} {e : Env → S → R D} {f g : α → D} {p : α → Bool} {s : S} : ∀ {xs : List α} {Q : List D → S → Prop}, (∀ x ∈ xs, ∃ env1, put (f x) = some env1 ∧ ((t env1 s).wp fun b s' => b = p x ∧ s' = s) ∧ (p x = true → (e env1 s).wp fun r s' => r = g x ∧ s' = s)) → Q ((xs.filter p).map g) s → (compL put t e (xs.map f) s).wp Q
  | [], Q, _, hq => hq
  | x :: xs, Q, h, hq => by
    obtain ⟨env1, h1, h2, h3⟩ := h x (List.mem_cons_self ..)
    rw [List.map_cons]
    unfold compL
    rw [h1]
    simp only
    rw [wp_bind]
    refine h2.mono fun b s' ⟨e1, e2⟩ => ?_
    subst e1 e2
    rw [List.filter_cons] at hq
    cases hp : p x with
    | true =>
      rw [hp, if_pos rfl] at hq
      simp only [if_true]
      rw [wp_bind]
      refine (h3 hp).mono fun r s'' ⟨e1, e2⟩ => ?_
      subst e1 e2
      rw [wp_bind]
      exact comp_filter (Q := fun ys s => Q (g x :: ys) s) (fun y hy => h y (List.mem_cons_of_mem _ hy)) hq
    | false =>
      rw [hp] at hq
      simp only [Bool.false_eq_true, if_false] at hq ⊢
      exact comp_filter (fun y hy => h y (List.mem_cons_of_mem _ hy)) hq
section
variable {α : Type} [DecidableEq α] {K : Kind α} {pg : Pg} {k : Nat} {s : S}
end
/-! ## from where something is taken -/
def takes (R : Rc) (t : Rst) : Bool := steps.any fun x => (stepF R t x).1
inductive Lv (R : Rc) : Rst → Prop
  | here {t : Rst} : takes R t = true → Lv R t
  | far {t : Rst} (x : Int) : x ∈ steps → Lv R (stepF R t x).2 → Lv R t
structure Opn (R : Rc) (M op : List Rst) : Prop where
  nd : op.Nodup
  sub : ∀ t ∈ op, t ∈ M
  lv : ∀ t ∈ op, Lv R t
  base : ∀ t ∈ M, takes R t = true → t ∈ op
end Fw
namespace Fw
open PySem
/-! ## forms -/
/-- things whose data are equal only if they are the same -/
structure EqK (α : Type) [DecidableEq α] where
  f : α → D
  eqv : ∀ a b, D.eqv (f a) (f b) = decide (a = b)
  dat : ∀ a, (f a).dat = true
  dep : ∀ a, (f a).py.depth ≤ 8
  ne : ∀ a, f a ≠ .tup []
section
variable {α : Type} [DecidableEq α]
theorem eqOk_dat {a b : D} (h1 : a.dat = true) (h2 : b.dat = true) (hd : min a.py.depth b.py.depth ≤ 64) : eqOk a b = true := by
  unfold eqOk
  split
  · rfl
  · simp [h1, h2, hd]
theorem cmp_eq {a b : D} (hn : b ≠ .tup []) (ha : a.dat = true) : cmpop .Eq a b = guardB (eqOk a b) (some (a.eqv b)) := by
  unfold cmpop
  split
  · simp_all
  · simp_all
  · rw [lst_ok ha]; rfl
  all_goals simp_all
abbrev Sign := List (Bool × Nat)
/-- signs that are not empty -/
structure SgN where
  g : Sign
  ne : g ≠ []
  deriving DecidableEq
def place_ofB : Cs := (.cons (.fors (.tup (.cons (.nm 2) (.cons (.nm 3) .nil))) (.enum (.nm 0)) (.cons (.ifs (.cmp .Eq (.nm 3) (.nm 1)) (.cons (.ret (.nm 2)) .nil) .nil) .nil)) (.cons (.ret .non) .nil))
variable {pg : Pg} {k : Nat} {s : S}
end
end Fw
namespace Fw
open PySem
section
variable {α β : Type} [DecidableEq α] [DecidableEq β]
theorem nodup_sub : ∀ {l m : List α}, l.Nodup → (∀ x ∈ l, x ∈ m) → l.length ≤ m.length
  | [], m, _, _ => by simp
  | x :: l, m, hn, hs => by
    have hx := hs x (List.mem_cons_self ..)
    rw [List.nodup_cons] at hn
    have := nodup_sub (l := l) (m := m.erase x) hn.2 fun y hy => by
      have h1 := hs y (List.mem_cons_of_mem _ hy)
      have h2 : y ≠ x := fun e => by subst e; exact hn.1 hy
      exact (List.mem_erase_of_ne h2).mpr h1
    rw [List.length_erase_of_mem hx] at this
    have : 0 < m.length := List.length_pos_of_mem hx
    simp only [List.length_cons]
    omega
def addX (l : List α) (x : α) : List α := if x ∈ l then l else l ++ [x]
/-- each thing once, as it first comes -/
def ded (l : List α) : List α := l.foldl addX []
end
/-! ## tables and their classes -/
abbrev Tab := List Sign
structure TabOk (T : Tab) : Prop where
  pos : 0 < T.length
  len : T.length ≤ 140
  row : ∀ g ∈ T, g.length = 27
  to : ∀ g ∈ T, ∀ p ∈ g, p.2 < T.length
def pairAt (T : Tab) (i x : Nat) : Bool × Nat := (((T[i]?).getD [])[x]?).getD (false, 0)
def outT (T : Tab) (i x : Nat) : Bool := (pairAt T i x).1
def nxtT (T : Tab) (i x : Nat) : Nat := (pairAt T i x).2
def runT (T : Tab) : Nat → List Nat → Nat
  | i, [] => i
  | i, x :: w => runT T (nxtT T i x) w
/-- two places answer alike for ever -/
def Bis (T : Tab) (i j : Nat) : Prop := ∀ w : List Nat, (∀ x ∈ w, x < 27) → ∀ x, x < 27 → outT T (runT T i w) x = outT T (runT T j w) x
theorem Bis.refl (T : Tab) (i : Nat) : Bis T i i := fun _ _ _ _ => rfl
def cAt (c : List Nat) (i : Nat) : Nat := (c[i]?).getD 0
def sgOf (c : List Nat) (g : Sign) : Sign := g.map fun p => (p.1, cAt c p.2)
def mkS (g : Sign) : SgN := if h : g ≠ [] then ⟨g, h⟩ else ⟨[(false, 0)], by simp⟩
def sgS (T : Tab) (c : List Nat) : List SgN := T.map fun g => mkS (sgOf c g)
def rnd (T : Tab) (c : List Nat) : List Nat := (sgS T c).map fun g => (ded (sgS T c)).idxOf g
def cls (T : Tab) : Nat → List Nat
  | 0 => T.map fun _ => 0
  | i + 1 => rnd T (cls T i)
end Fw
namespace Fw
open PySem
def table_ofB (fplaceof fstepfrom fallsteps frestsmet : Nat) : Cs := (.cons (.set (.nm 1) (.call frestsmet (.cons (.nm 0) .nil))) (.cons (.own 2 (.disp .nil)) (.cons (.fors (.nm 3) (.seq (.nm 1)) (.cons (.set (.nm 4) (.frz (.comp (.nm 5) (.seq (.call fallsteps .nil)) .nil (.call fstepfrom (.cons (.nm 0) (.cons (.nm 3) (.cons (.nm 5) .nil)))) [5]))) (.cons (.app 2 (.frz (.comp (.tup (.cons (.nm 6) (.cons (.nm 7) .nil))) (.seq (.nm 4)) .nil (.tup (.cons (.nm 6) (.cons (.call fplaceof (.cons (.nm 1) (.cons (.nm 7) .nil))) .nil))) [6, 7]))) .nil))) (.cons (.frz 2) (.cons (.ret (.nm 2)) .nil)))))
def classes_ofB (fplaceof : Nat) : Cs := (.cons (.set (.nm 1) (.frz (.comp (.nm 6) (.seq (.nm 0)) .nil (.int 0) [6]))) (.cons (.set (.nm 2) (.int 0)) (.cons (.own 3 (.disp (.cons (.tup .nil) .nil))) (.cons (.frz 3) (.cons (.whiles (.cmp .Lt (.nm 2) (.bi .len (.cons (.nm 3) .nil))) (.cons (.set (.nm 2) (.bi .len (.cons (.nm 3) .nil))) (.cons (.set (.nm 4) (.frz (.comp (.nm 6) (.seq (.nm 0)) .nil (.bi .tuple (.cons (.frz (.comp (.tup (.cons (.nm 7) (.cons (.nm 8) .nil))) (.seq (.nm 6)) .nil (.tup (.cons (.nm 7) (.cons (.sub (.nm 1) (.nm 8)) .nil))) [7, 8])) .nil)) [6, 8, 7]))) (.cons (.own 3 (.disp .nil)) (.cons (.fors (.nm 5) (.seq (.nm 4)) (.cons (.ifs (.cmp .NotIn (.nm 5) (.pk 3)) (.cons (.app 3 (.nm 5)) .nil) .nil) .nil)) (.cons (.frz 3) (.cons (.set (.nm 1) (.frz (.comp (.nm 5) (.seq (.nm 4)) .nil (.call fplaceof (.cons (.nm 3) (.cons (.nm 5) .nil))) [5]))) .nil))))))) (.cons (.ret (.nm 1)) .nil))))))
/-- the table of a receiver -/
def tabF (R : Rc) : Tab := (metF R).map fun t => steps.map fun x => ((stepF R t x).1, (metF R).idxOf (stepF R t x).2)
section
variable {pg : Pg} {k m n : Nat} {s : S} {R : Rc} {li co st al rm g : Nat}
/-- what the classes of a table are -/
structure Cls (T : Tab) (c : List Nat) : Prop where
  len : c.length = T.length
  eq : ∀ i j, i < T.length → j < T.length → (cAt c i = cAt c j ↔ Bis T i j)
end
end Fw
namespace Fw
open PySem
/-! ## runs -/
def runs_ofB (fallsteps : Nat) : Cs := (.cons (.set (.nm 1) (.tup .nil)) (.cons (.fors (.tup (.cons (.nm 2) (.cons (.tup (.cons (.nm 3) (.cons (.nm 4) .nil))) .nil))) (.zip (.call fallsteps .nil) (.nm 0)) (.cons (.ifs (.and (.cons (.cmp .NotEq (.nm 1) (.tup .nil)) (.cons (.cmp .Eq (.slice (.sub (.nm 1) (.un .USub (.int 1))) (.so (.int 1)) .no) (.tup (.cons (.nm 3) (.cons (.nm 4) .nil)))) .nil))) (.cons (.set (.nm 1) (.slice (.nm 1) .no (.so (.un .USub (.int 1))))) .nil) .nil) (.cons (.set (.nm 1) (.bin .Add (.nm 1) (.tup (.cons (.tup (.cons (.nm 2) (.cons (.nm 3) (.cons (.nm 4) .nil)))) .nil)))) .nil))) (.cons (.ret (.bin .Add (.slice (.nm 1) .no (.so (.un .USub (.int 1)))) (.tup (.cons (.bin .Add (.tup (.cons .non .nil)) (.slice (.sub (.nm 1) (.un .USub (.int 1))) (.so (.int 1)) .no)) .nil)))) .nil)))
def run_atB : Cs := (.cons (.fors (.tup (.cons (.nm 3) (.cons (.nm 4) (.cons (.nm 5) .nil)))) (.seq (.sub (.nm 0) (.nm 1))) (.cons (.ifs (.or (.cons (.cmp .Is (.nm 3) .non) (.cons (.cmp .LtE (.nm 2) (.nm 3)) .nil))) (.cons (.ret (.tup (.cons (.nm 4) (.cons (.nm 5) .nil)))) .nil) .nil) .nil)) (.cons (.ret .non) .nil))
structure Run where
  hi : Option Int
  to : Bool × Nat
  deriving DecidableEq
def Run.d (r : Run) : D := .tup [ob r.hi, .bl r.to.1, .int r.to.2]
abbrev Form := List (List Run)
def plcD (rs : List Run) : D := .tup (rs.map Run.d)
def Form.d (F : Form) : D := .tup (F.map plcD)
/-- the run that covers a step -/
def atF (rs : List Run) (x : Int) : Option (Bool × Nat) := (rs.find? fun r => leH x r.hi).map (·.to)
section
variable {pg : Pg} {k : Nat} {s : S}
end
/-- a run with its bound -/
abbrev Rn := Int × (Bool × Nat)
def Rn.d (r : Rn) : D := .tup [.int r.1, .bl r.2.1, .int r.2.2]
def pushR (l : List Rn) (r : Rn) : List Rn := (match l.getLast? with
  | some q => if q.2 = r.2 then l.dropLast else l
  | none => l) ++ [r]
def runs0 (xs : List (Int × (Bool × Nat))) : List Rn := xs.foldl pushR []
def endR (l : List Rn) : List Run := l.dropLast.map (fun r => ⟨some r.1, r.2⟩) ++ (match l.getLast? with
  | some q => [⟨none, q.2⟩]
  | none => [])
def runsF (row : Sign) : List Run := endR (runs0 (steps.zip row))
def lookR (l : List Rn) (x : Int) : Option (Bool × Nat) := (l.find? fun r => decide (x ≤ r.1)).map (·.2)
/-- what stands behind the first i pairs of a row -/
structure RunI (row : Sign) (i : Nat) (l : List Rn) : Prop where
  nil : i = 0 → l = []
  ne : 0 < i → ∃ (init : List Rn) (p : Bool × Nat), row[i - 1]? = some p ∧ l = init ++ [((i : Int) - 14, p)] ∧ ∀ r ∈ init, r.1 < (i : Int) - 14
  look : ∀ (x : Int) (j : Nat) p, 0 < i → x ≤ (i : Int) - 14 → row[j]? = some p → (j = if x < -13 then 0 else (x + 13).toNat) → lookR l x = some p
end Fw
namespace Fw
open PySem
section
variable {pg : Pg} {k : Nat} {s : S}
end
/-! ## the least form of a table -/
def least_ofB (fplaceof fclassesof frunsof : Nat) : Cs := (.cons (.set (.nm 1) (.call fclassesof (.cons (.nm 0) .nil))) (.cons (.own 2 (.disp (.cons (.sub (.nm 1) (.int 0)) .nil))) (.cons (.own 3 (.disp .nil)) (.cons (.whiles (.cmp .Lt (.bi .len (.cons (.pk 3) .nil)) (.bi .len (.cons (.pk 2) .nil))) (.cons (.set (.nm 4) (.frz (.comp (.tup (.cons (.nm 5) (.cons (.nm 7) .nil))) (.seq (.sub (.nm 0) (.call fplaceof (.cons (.nm 1) (.cons (.sub (.pk 2) (.bi .len (.cons (.pk 3) .nil))) .nil))))) .nil (.tup (.cons (.nm 5) (.cons (.sub (.nm 1) (.nm 7)) .nil))) [5, 7]))) (.cons (.app 3 (.nm 4)) (.cons (.fors (.tup (.cons (.nm 5) (.cons (.nm 6) .nil))) (.seq (.nm 4)) (.cons (.ifs (.cmp .NotIn (.nm 6) (.pk 2)) (.cons (.app 2 (.nm 6)) .nil) .nil) .nil)) .nil)))) (.cons (.frz 3) (.cons (.frz 2) (.cons (.ret (.bi .tuple (.cons (.frz (.comp (.nm 4) (.seq (.nm 3)) .nil (.call frunsof (.cons (.frz (.comp (.tup (.cons (.nm 5) (.cons (.nm 6) .nil))) (.seq (.nm 4)) .nil (.tup (.cons (.nm 5) (.cons (.call fplaceof (.cons (.nm 2) (.cons (.nm 6) .nil))) .nil))) [5, 6])) .nil)) [4, 6, 5])) .nil))) .nil)))))))
def form_ofB (ftableof fleastof : Nat) : Cs := (.cons (.ret (.call fleastof (.cons (.call ftableof (.cons (.nm 0) .nil)) .nil))) .nil)
/-- the row of a class -/
def rowC (T : Tab) (c : List Nat) (a : Nat) : Sign := sgOf c ((T[c.idxOf a]?).getD [])
def ostep (T : Tab) (c : List Nat) (i : Nat) (o : List Nat) : List Nat := match o[i]? with
  | none => o
  | some a => ((rowC T c a).map (·.2)).foldl addX o
def ordA0 (T : Tab) (c : List Nat) : Nat → List Nat
  | 0 => [cAt c 0]
  | i + 1 => ostep T c i (ordA0 T c i)
@[irreducible] def ordAt (T : Tab) (c : List Nat) (i : Nat) : List Nat := ordA0 T c i
@[irreducible] def ordF (T : Tab) (c : List Nat) : List Nat := ordAt T c 200
/-- the form -/
def leastF (T : Tab) (c : List Nat) : Form := (ordF T c).map fun a => runsF ((rowC T c a).map fun p => (p.1, (ordF T c).idxOf p.2))
structure OrdI (T : Tab) (c o : List Nat) : Prop where
  nd : o.Nodup
  sub : ∀ a ∈ o, a ∈ c
end Fw
namespace Fw
open PySem
section
variable {pg : Pg} {k m n : Nat} {s : S} {R : Rc} {li co st al rm g : Nat}
/-- the program's defs of forms -/
structure FormP (pg : Pg) (pl li co st al rm ta cl ru le fo g : Nat) : Prop extends MetP pg li co st al rm g where
  hpl : ∃ nm, pg.fns[pl]? = some ⟨nm, 4, 2, place_ofB⟩
  hta : ∃ nm, pg.fns[ta]? = some ⟨nm, 8, 1, table_ofB pl st al rm⟩
  hcl : ∃ nm, pg.fns[cl]? = some ⟨nm, 9, 1, classes_ofB pl⟩
  hru : ∃ nm, pg.fns[ru]? = some ⟨nm, 5, 1, runs_ofB al⟩
  hle : ∃ nm, pg.fns[le]? = some ⟨nm, 8, 1, least_ofB pl cl ru⟩
  hfo : ∃ nm, pg.fns[fo]? = some ⟨nm, 1, 1, form_ofB ta le⟩
variable {pl ta cl ru le fo : Nat}
end
end Fw
namespace Fw
open PySem
/-! ## a form answers as its receiver -/
section
variable {R : Rc} {m n : Nat} {c : List Nat}
end
theorem hear_last (R : Rc) (x : Std) (z : Int) : (hearF R x z).2.last = if (hearF R x z).1 then z else x.last := by
  unfold hearF
  by_cases h : (stepF R x.rest (z - x.last)).1 = true
  · simp [h]
  · simp [h]
section
variable {pg : Pg} {k m n : Nat} {s : S} {R : Rc} {c : List Nat}
end
end Fw
namespace Fw
open PySem
/-! ## the least form does not hang on the classes' numbers -/
section
variable {T : Tab} {c c' : List Nat}
end
end Fw
namespace Fw
open PySem
open Classical in
/-- the least form of a table -/
noncomputable def leastT (T : Tab) : Form := if h : ∃ c, Cls T c then leastF T h.choose else []
/-- the form of a receiver -/
noncomputable def formF (R : Rc) : Form := leastT (tabF R)
section
variable {pg : Pg} {k m n : Nat} {s : S} {R : Rc} {pl li co st al rm ta cl ru le fo g : Nat}
end
end Fw
namespace Fw
open PySem
/-! dicts whose keys are rests -/
/-! the ways to the rests -/
/-- a way to each rest -/
structure Ways (R : Rc) (M : List Rst) (W : Rst → List Int) (b : Nat) : Prop where
  rest : ∀ t ∈ M, (walkF R (beg 0) (W t)).2.rest = t
  len : ∀ t ∈ M, (W t).length ≤ b
section
variable {pg : Pg} {k m n : Nat} {s : S} {R : Rc} {li co st re he wa f : Nat}
theorem asc_nd {α : Type} [DecidableEq α] {K : Kind α} : ∀ {xs : List α}, Asc K xs → xs.Nodup
  | [], _ => List.nodup_nil
  | x :: xs, h => List.nodup_cons.mpr ⟨(fun hx => by have := h.1 x hx; rw [K.irr] at this; cases this), asc_nd h.2⟩
end
end Fw
namespace Fw
open PySem
/-! dicts as lists of pairs -/
section
variable {α β : Type} [DecidableEq α] {f : α → D} {g : β → D}
end
/-! the law's own reading of a form -/
section
variable {pg : Pg} {k m n : Nat} {s : S} {R : Rc} {c : List Nat}
end
end Fw
namespace Fw
open PySem
/-! ## the text of a list of pairs tells the list -/
section
open TL
end
/-! ## things each once, under a map -/
section
variable {α β : Type} [DecidableEq α] [DecidableEq β]
end
/-! ## dicts as functions of their keys -/
section
variable {α : Type} [DecidableEq α] {f : α → D} {g : α → D}
end
end Fw
namespace Fw
open PySem
/-! ## the law's own form of a receiver -/
def l_paired_upB : Cs := (.cons (.dic 2 true) (.cons (.fors (.nm 3) (.range1 (.bi .len (.cons (.nm 0) .nil))) (.cons (.store 2 (.sub (.nm 0) (.nm 3)) (.sub (.nm 1) (.nm 3))) .nil)) (.cons (.frz 2) (.cons (.ret (.nm 2)) .nil))))
def l_kindsB (fpairedup : Nat) : Cs := (.cons (.set (.tup (.cons (.nm 2) (.cons (.nm 3) .nil))) (.tup (.cons (.frz (.rep (.frz (.disp (.cons (.int 0) .nil))) (.bi .len (.cons (.nm 1) .nil)))) (.cons (.int 0) .nil)))) (.cons (.whiles (.cmp .Lt (.nm 3) (.lset (.nm 2))) (.cons (.set (.nm 3) (.lset (.nm 2))) (.cons (.set (.nm 4) (.call fpairedup (.cons (.nm 1) (.cons (.nm 2) .nil)))) (.cons (.set (.nm 5) (.frz (.comp (.nm 8) (.seq (.nm 0)) .nil (.bi .str (.cons (.frz (.comp (.tup (.cons (.nm 9) (.cons (.nm 10) .nil))) (.seq (.nm 8)) .nil (.tup (.cons (.nm 9) (.cons (.sub (.nm 4) (.nm 10)) .nil))) [9, 10])) .nil)) [8, 10, 9]))) (.cons (.dic 6 false) (.cons (.fors (.nm 7) (.seq (.nm 5)) (.cons (.sdf 6 (.nm 7) (.bi .len (.cons (.pk 6) .nil))) .nil)) (.cons (.set (.nm 2) (.frz (.comp (.nm 7) (.seq (.nm 5)) .nil (.sub (.pk 6) (.nm 7)) [7]))) .nil))))))) (.cons (.ret (.nm 2)) .nil)))
def l_runsB : Cs := (.cons (.own 1 (.disp .nil)) (.cons (.fors (.nm 2) (.range1 (.bi .len (.cons (.nm 0) .nil))) (.cons (.ifs (.or (.cons (.cmp .Eq (.nm 2) (.bin .Sub (.bi .len (.cons (.nm 0) .nil)) (.int 1))) (.cons (.cmp .NotEq (.sub (.nm 0) (.nm 2)) (.sub (.nm 0) (.bin .Add (.nm 2) (.int 1)))) .nil))) (.cons (.app 1 (.bin .Add (.tup (.cons (.ite (.cmp .Eq (.nm 2) (.bin .Sub (.bi .len (.cons (.nm 0) .nil)) (.int 1))) .non (.bin .Sub (.nm 2) (.int 13))) .nil)) (.sub (.nm 0) (.nm 2)))) .nil) .nil) .nil)) (.cons (.ret (.bi .tuple (.cons (.pk 1) .nil))) .nil)))
def l_formB (fchart fpairedup fkinds fruns : Nat) : Cs := (.cons (.set (.tup (.cons (.nm 3) (.cons (.nm 4) .nil))) (.call fchart (.cons (.nm 0) .nil))) (.cons (.set (.nm 1) (.call fkinds (.cons (.nm 3) (.cons (.nm 4) .nil)))) (.cons (.set (.nm 2) (.call fpairedup (.cons (.nm 4) (.cons (.nm 1) .nil)))) (.cons (.par [5, 6, 7] [(.o (.disp (.cons (.sub (.nm 1) (.int 0)) .nil))), (.v (.int 0)), (.o (.disp .nil))]) (.cons (.whiles (.cmp .Lt (.nm 6) (.bi .len (.cons (.pk 5) .nil))) (.cons (.set (.nm 8) (.frz (.comp (.tup (.cons (.nm 9) (.cons (.nm 11) .nil))) (.seq (.sub (.nm 3) (.index (.nm 1) (.sub (.pk 5) (.nm 6))))) .nil (.tup (.cons (.nm 9) (.cons (.sub (.nm 2) (.nm 11)) .nil))) [9, 11]))) (.cons (.fors (.tup (.cons (.nm 9) (.cons (.nm 10) .nil))) (.seq (.nm 8)) (.cons (.ifs (.cmp .NotIn (.nm 10) (.pk 5)) (.cons (.app 5 (.nm 10)) .nil) .nil) .nil)) (.cons (.app 7 (.nm 8)) (.cons (.set (.nm 6) (.bin .Add (.nm 6) (.int 1))) .nil))))) (.cons (.frz 7) (.cons (.ret (.bi .tuple (.cons (.frz (.comp (.nm 8) (.seq (.nm 7)) .nil (.call fruns (.cons (.frz (.comp (.tup (.cons (.nm 9) (.cons (.nm 10) .nil))) (.seq (.nm 8)) .nil (.tup (.cons (.nm 9) (.cons (.index (.pk 5) (.nm 10)) .nil))) [9, 10])) .nil)) [8, 10, 9])) .nil))) .nil)))))))
section
variable {pg : Pg} {k m n : Nat} {s : S} {R : Rc} {li co st : Nat}
/-! the runs of a row -/
end
end Fw
namespace Fw
open PySem
section
variable {pg : Pg} {k m n : Nat} {s : S} {R : Rc} {li co st : Nat}
/-- the law's own defs of forms -/
structure FormL (pg : Pg) (li co st re ch pu ki ru fo : Nat) : Prop extends StepL pg li co st where
  hre : ∃ nm, pg.fns[re]? = some ⟨nm, 5, 1, l_restsB st⟩
  hch : ∃ nm, pg.fns[ch]? = some ⟨nm, 5, 1, l_chartB st re⟩
  hpu : ∃ nm, pg.fns[pu]? = some ⟨nm, 4, 2, l_paired_upB⟩
  hki : ∃ nm, pg.fns[ki]? = some ⟨nm, 11, 2, l_kindsB pu⟩
  hru : ∃ nm, pg.fns[ru]? = some ⟨nm, 3, 1, l_runsB⟩
  hfo : ∃ nm, pg.fns[fo]? = some ⟨nm, 12, 1, l_formB ch pu ki ru⟩
end
end Fw
namespace Fw
open PySem
/-! ## receivers in another shape; rows taken out -/
theorem Rc.ok.mono {R : Rc} {m n m' n' : Nat} (h : R.ok m n) (h1 : m ≤ m') (h2 : n ≤ n') : R.ok m' n' := ⟨h.pos, by have := h.len; omega, fun st hs => by have := h.row st hs; omega, h.ok⟩
section
variable {gl : List D} {call : Nat → List D → S → R D} {W : Nat} {env : Env} {s : S}
end
section
variable {pg : Pg} {k m n : Nat} {s : S} {R : Rc}
/-! all rows, by their indexes -/
/-! a receiver without one of its rows -/
end
end Fw
namespace Fw
open PySem
section
variable {pg : Pg} {k m n : Nat} {s : S} {R : Rc}
end
end Fw
namespace Fw
open PySem
section
variable {pg : Pg} {k : Nat} {s : S} {R : Rc} {dip pick rg rw wd pr rcv : Nat}
end
end Fw
namespace Fw
open PySem
/-! ## forms told apart -/
theorem tups_eqv {α : Type} [DecidableEq α] {f : α → D} (h : ∀ a b, D.eqv (f a) (f b) = decide (a = b)) : ∀ xs ys : List α, PyData.eqvAll (D.pys (xs.map f)) (D.pys (ys.map f)) = decide (xs = ys)
  | [], [] => by simp [D.pys, PyData.eqvAll]
  | [], _ :: _ => by simp [D.pys, PyData.eqvAll]
  | _ :: _, [] => by simp [D.pys, PyData.eqvAll]
  | x :: xs, y :: ys => by
    have e := h x y
    unfold D.eqv at e
    simp only [List.map_cons, D.pys, PyData.eqvAll, tups_eqv h xs ys, e]
    by_cases h1 : x = y <;> by_cases h2 : xs = ys <;> simp [h1, h2]
theorem tup_eqv {α : Type} [DecidableEq α] {f : α → D} (h : ∀ a b, D.eqv (f a) (f b) = decide (a = b)) (xs ys : List α) : D.eqv (.tup (xs.map f)) (.tup (ys.map f)) = decide (xs = ys) := by
  unfold D.eqv
  show PyData.eqv (.tuple _) (.tuple _) = _
  simp only [PyData.eqv]
  exact tups_eqv h xs ys
/-! ## spare rows -/
section
variable {pg : Pg} {k m n : Nat} {s : S} {R : Rc} {pl li co st al rm ta cl ru le fo g : Nat}
end
end Fw
namespace Fw
open PySem
/-! ## lean receivers -/
section
variable {pg : Pg} {k m n : Nat} {s : S} {R : Rc} {pl li co st al rm ta cl ru le fo g : Nat}
end
section
variable {pg : Pg} {k m n : Nat} {s : S} {R : Rc} {li co st re ch pu ki ru fo : Nat}
end
end Fw
namespace Fw
open PySem
/-! ## rows that count -/
section
variable {pg : Pg} {k m n : Nat} {s : S} {R : Rc} {li co st al rm g mf io : Nat}
end
end Fw
namespace Fw
open PySem
/-! ## tables that answer alike have the same least form -/
section
variable {T T' : Tab} {c c' : List Nat}
end
/-! ## the table of a least form -/
section
variable {T : Tab} {c : List Nat}
end
end Fw
namespace Fw
open PySem
/-! ## what is a form -/
/-- a run of a form of so many places -/
def RunOk (many : Nat) (e : Bool) (r : Run) : Prop := r.to.2 < many ∧ if e = true then r.hi = none else ∃ y, r.hi = some y ∧ -13 ≤ y ∧ y < 13
section
variable {pg : Pg} {k m : Nat} {s : S}
end
structure PlcOk (many : Nat) (rs : List Run) : Prop where
  ne : rs ≠ []
  run : ∀ i r, rs[i]? = some r → RunOk many (decide (i + 1 = rs.length)) r
  asc : ∀ i r q y z, rs[i]? = some r → rs[i + 1]? = some q → r.hi = some y → q.hi = some z → y < z
section
variable {pg : Pg} {k m : Nat} {s : S}
end
/-! the table that a form tells -/
structure FormOk (F : Form) : Prop where
  ne : F ≠ []
  len : F.length ≤ 56
  plc : ∀ rs ∈ F, PlcOk F.length rs
section
variable {pg : Pg} {k m : Nat} {s : S} {pl li co st al rm ta cl ru le fo g : Nat}
end
end Fw
namespace Fw
open PySem
/-! ## the least form is a form -/
section
variable {T : Tab} {c : List Nat}
end
end Fw
namespace Fw
open PySem
/-! ## whether two values are the same -/
theorem eqv_bl (a b : Bool) : D.eqv (.bl a) (.bl b) = decide (a = b) := by cases a <;> cases b <;> decide +kernel
/-- may be compared: texts with texts alone -/
inductive Kin : D → D → Prop
  | str (x y : Str) : Kin (.str x) (.str y)
  | oth (a b : D) : (∀ x, a ≠ .str x) → (∀ x, b ≠ .str x) → (∀ xs, a ≠ .tup xs) → Kin a b
  | oth2 (a b : D) : (∀ x, a ≠ .str x) → (∀ x, b ≠ .str x) → (∀ xs, b ≠ .tup xs) → Kin a b
  | len (xs ys : List D) : xs.length ≠ ys.length → Kin (.tup xs) (.tup ys)
  | tup (xs ys : List D) : xs.length = ys.length → (∀ (i : Nat) x y, xs[i]? = some x → ys[i]? = some y → Kin x y) → Kin (.tup xs) (.tup ys)
section
variable {pg : Pg} {k : Nat} {s : S}
end
end Fw
namespace Fw
open PySem
/-! ## rows in the same order -/
section
variable {pg : Pg} {k : Nat} {s : S}
end
end Fw
namespace Fw
open PySem
/-! ## a row that never counts is spare -/
/-! ## receivers with the same form answer alike -/
/-! ## the rows of the lean receiver are some of the receiver's -/
end Fw
namespace Fw
open PySem
/-! ## walks through all that can be reached -/
section
variable {γ : Type} [DecidableEq γ]
/-- what is reached from a beginning -/
inductive Reach (nx : γ → List γ) (c0 : γ) : γ → Prop
  | beg : Reach nx c0 c0
  | on {c d : γ} : Reach nx c0 c → d ∈ nx c → Reach nx c0 d
end
/-! ## two machines side by side -/
/-- a move: the answers of both, what lies behind -/
abbrev Mv (γ : Type) := Bool × Bool × γ
def agr {γ : Type} (ms : List (Mv γ)) : List γ := (ms.filter fun m => m.1 == m.2.1).map (·.2.2)
/-- the one takes alone -/
def bad {γ : Type} (m : Mv γ) : Bool := m.1 && !m.2.1
end Fw
namespace Fw
open PySem
/-! ## two receivers side by side, as the law walks them -/
abbrev Lc := Rst × Rst × Int
def fromS (up : Bool) (h : Int) : Int := if up then (if 13 < h + 1 then 13 else h + 1) else -13
def intsR (a : Int) : List Int := (List.range (14 - a).toNat).map fun i : Nat => a + (i : Int)
def mv1 (up : Bool) (R R' : Rc) (c : Lc) (x : Int) : Mv Lc := ((stepF R c.1 x).1, (stepF R' c.2.1 x).1, ((stepF R c.1 x).2, (stepF R' c.2.1 x).2, if (stepF R c.1 x).1 || !up then 0 else x))
def mvL (up : Bool) (R R' : Rc) (c : Lc) : List (Mv Lc) := (intsR (fromS up c.2.2)).map (mv1 up R R' c)
def lc0 : Lc := (⟨0, none⟩, ⟨0, none⟩, 0)
/-- pairs of rests that can come -/
structure LcV (R R' : Rc) (c : Lc) : Prop where
  l : c.1 ∈ metF R
  r : c.2.1 ∈ metF R'
  h0 : 0 ≤ c.2.2
  h1 : c.2.2 ≤ 13
section
variable {R R' : Rc} {m n m' n' : Nat} {up : Bool}
end
section
variable {pg : Pg} {k m n m' n' : Nat} {s : S} {R R' : Rc} {up : Bool} {li co st : Nat}
end
end Fw
namespace Fw
open PySem
section
variable {pg : Pg} {k n n' : Nat} {s : S} {R R' : Rc} {up : Bool} {li co st : Nat}
end
end Fw
namespace Fw
open PySem
/-! ## two forms side by side, as the program walks them -/
def lesserB : Cs := (.cons (.ret (.ite (.cmp .Lt (.nm 0) (.nm 1)) (.nm 0) (.nm 1))) .nil)
def greaterB : Cs := (.cons (.ret (.ite (.cmp .Lt (.nm 0) (.nm 1)) (.nm 1) (.nm 0))) .nil)
def next_stepsB (flesser fallsteps gFAR : Nat) : Cs := (.cons (.ret (.ite (.val (.nm 1)) (.frz (.listR (.call flesser (.cons (.bin .Add (.nm 0) (.int 1)) (.cons (.glob gFAR) .nil))) (.bin .Add (.glob gFAR) (.int 1)))) (.call fallsteps .nil))) .nil)
def ahead_behindB (fgreater : Nat) : Cs := (.cons (.ret (.ite (.val (.nm 2)) (.int 0) (.call fgreater (.cons (.nm 0) (.cons (.nm 1) .nil))))) .nil)
abbrev Pk := Nat × Nat × Int
def pkD (c : Pk) : D := .tup [.int c.1, .int c.2.1, .int c.2.2]
def atP (F : Form) (i : Nat) (x : Int) : Bool × Nat := (atF ((F[i]?).getD []) x).getD (false, 0)
def mp1 (up : Bool) (F F' : Form) (c : Pk) (x : Int) : Mv Pk := ((atP F c.1 x).1, (atP F' c.2.1 x).1, ((atP F c.1 x).2, (atP F' c.2.1 x).2, if up then (if (atP F c.1 x).1 then 0 else (if c.2.2 < x then x else c.2.2)) else 0))
def mvP (up : Bool) (F F' : Form) (c : Pk) : List (Mv Pk) := (intsR (fromS up c.2.2)).map (mp1 up F F' c)
def pk0 : Pk := (0, 0, 0)
/-- keys that can come -/
structure PkV (up : Bool) (F F' : Form) (c : Pk) : Prop where
  l : c.1 < F.length
  r : c.2.1 < F'.length
  h0 : 0 ≤ c.2.2
  h1 : c.2.2 ≤ 13
  fl : up = false → c.2.2 = 0
section
variable {up : Bool} {F F' : Form}
end
end Fw
namespace Fw
open PySem
section
variable {pg : Pg} {k : Nat} {s : S} {up : Bool} {F F' : Form}
end
end Fw
namespace Fw
open PySem
/-- the state of the program's walk: what is known, what is looked at next -/
structure BelI {γ : Type} (mv : γ → List (Mv γ)) (c0 : γ) (Fo L : List γ) : Prop where
  nd : (Fo ++ L).Nodup
  reach : ∀ c ∈ Fo ++ L, Reach (fun c => agr (mv c)) c0 c
  beg : c0 ∈ Fo ++ L
  good : ∀ c ∈ Fo, (mv c).any bad = false
  cl : ∀ c ∈ Fo, ∀ d ∈ agr (mv c), d ∈ Fo ++ L
section
variable {γ : Type} [DecidableEq γ] {mv : γ → List (Mv γ)} {c0 : γ}
end
section
variable {pg : Pg} {k n n' : Nat} {s : S} {up : Bool} {R R' : Rc} {pl li co st al rm ta cl ru le fo g : Nat}
end
end Fw
namespace Fw
open PySem
/-! ## receivers near another one -/
section
variable {pg : Pg} {k dip pick rg rw wd pr rcv : Nat} {s : S} {R : Rc}
end
end Fw
namespace Fw
open PySem
/-! ## nodes: two forms walked side by side, with the way to each pair of places -/
def numbers_byB (fgreater gFAR : Nat) : Cs := (.cons (.set (.nm 1) (.int 0)) (.cons (.set (.nm 2) (.int 0)) (.cons (.own 3 (.disp .nil)) (.cons (.fors (.tup (.cons (.nm 4) (.cons (.nm 5) .nil))) (.seq (.nm 0)) (.cons (.set (.nm 6) (.ite (.cmp .Eq (.nm 4) (.glob gFAR)) (.call fgreater (.cons (.bin .Add (.nm 1) (.nm 4)) (.cons (.bin .Add (.nm 2) (.int 1)) .nil))) (.bin .Add (.nm 1) (.nm 4)))) (.cons (.app 3 (.nm 6)) (.cons (.set (.nm 2) (.call fgreater (.cons (.nm 2) (.cons (.nm 6) .nil)))) (.cons (.ifs (.val (.nm 5)) (.cons (.set (.nm 1) (.nm 6)) .nil) .nil) .nil))))) (.cons (.ret (.bi .tuple (.cons (.pk 3) .nil))) .nil)))))
def nodes_fromB (fnext frun fahead : Nat) : Cs := (.cons (.set (.tup (.cons (.nm 5) (.cons (.nm 6) (.cons (.nm 7) .nil)))) (.att (.nm 0) "key")) (.cons (.own 3 (.disp .nil)) (.cons (.fors (.nm 4) (.seq (.call fnext (.cons (.nm 7) (.cons (.nm 2) .nil)))) (.cons (.set (.tup (.cons (.nm 10) (.cons (.nm 11) .nil))) (.call frun (.cons (.sub (.nm 1) (.int 0)) (.cons (.nm 5) (.cons (.nm 4) .nil))))) (.cons (.set (.tup (.cons (.nm 12) (.cons (.nm 13) .nil))) (.call frun (.cons (.sub (.nm 1) (.int 1)) (.cons (.nm 6) (.cons (.nm 4) .nil))))) (.cons (.set (.nm 8) (.ite (.val (.nm 2)) (.call fahead (.cons (.nm 7) (.cons (.nm 4) (.cons (.nm 10) .nil)))) (.int 0))) (.cons (.set (.nm 9) (.new "Node" ["key", "before", "step", "is_taken"] (.cons (.tup (.cons (.nm 11) (.cons (.nm 13) (.cons (.nm 8) .nil)))) (.cons (.nm 0) (.cons (.nm 4) (.cons (.nm 10) .nil)))))) (.cons (.ifs (.cmp .NotEq (.nm 10) (.nm 12)) (.cons (.frz 3) (.cons (.ret (.tup (.cons (.nm 3) (.cons (.nm 9) .nil)))) .nil)) .nil) (.cons (.app 3 (.nm 9)) .nil))))))) (.cons (.frz 3) (.cons (.ret (.tup (.cons (.nm 3) (.cons .non .nil)))) .nil)))))
def all_nodesB (ffrom : Nat) : Cs := (.cons (.set (.nm 3) (.frz (.disp (.cons (.new "Node" ["key", "before", "step", "is_taken"] (.cons (.bin .Add (.nm 1) (.tup (.cons (.int 0) .nil))) (.cons .non (.cons (.int 0) (.cons (.bl false) .nil))))) .nil)))) (.cons (.set (.nm 4) (.frz (.disp .nil))) (.cons (.whiles (.cmp .NotEq (.nm 3) (.frz (.disp .nil))) (.cons (.set (.nm 4) (.frz (.cat (.nm 4) (.nm 3)))) (.cons (.set (.nm 5) (.dcomp true (.nm 7) (.seq (.nm 4)) .nil (.att (.nm 7) "key") (.bl true) [7])) (.cons (.own 6 (.disp .nil)) (.cons (.fors (.nm 7) (.seq (.nm 3)) (.cons (.set (.tup (.cons (.nm 8) (.cons (.nm 9) .nil))) (.call ffrom (.cons (.nm 7) (.cons (.nm 0) (.cons (.nm 2) .nil))))) (.cons (.ifs (.cmp .IsNot (.nm 9) .non) (.cons (.ret (.tup (.cons (.nm 4) (.cons (.nm 9) .nil)))) .nil) .nil) (.cons (.ext 6 (.frz (.comp (.nm 10) (.seq (.nm 8)) (.cons (.cmp .NotIn (.att (.nm 10) "key") (.nm 5)) .nil) (.nm 10) [10]))) .nil)))) (.cons (.set (.nm 3) (.frz (.vals (.dcomp true (.nm 7) (.seq (.rev (.pk 6))) .nil (.att (.nm 7) "key") (.nm 7) [7])))) .nil)))))) (.cons (.ret (.tup (.cons (.nm 4) (.cons .non .nil)))) .nil))))
def node_roadB : Cs := (.cons (.own 1 (.disp .nil)) (.cons (.set (.nm 2) (.nm 0)) (.cons (.whiles (.cmp .IsNot (.att (.nm 2) "before") .non) (.cons (.app 1 (.tup (.cons (.att (.nm 2) "step") (.cons (.att (.nm 2) "is_taken") .nil)))) (.cons (.set (.nm 2) (.att (.nm 2) "before")) .nil))) (.cons (.ret (.rev (.pk 1))) .nil))))
inductive Nd where
  | root (c : Pk)
  | on (b : Nd) (c : Pk) (x : Int) (t : Bool)
def Nd.key : Nd → Pk
  | .root c => c
  | .on _ c _ _ => c
def Nd.d : Nd → D
  | .root c => .ins "Node" ["key", "before", "step", "is_taken"] [pkD c, .non, .int 0, .bl false]
  | .on b c x t => .ins "Node" ["key", "before", "step", "is_taken"] [pkD c, b.d, .int x, .bl t]
def Nd.road : Nd → List (Int × Bool)
  | .root _ => []
  | .on b _ x t => b.road ++ [(x, t)]
def Nd.len : Nd → Nat
  | .root _ => 0
  | .on b _ _ _ => b.len + 1
/-- so many moves, all of them alike -/
inductive Pth {γ : Type} (nx : γ → List γ) (c0 : γ) : Nat → γ → Prop
  | beg : Pth nx c0 0 c0
  | on {n : Nat} {c d : γ} : Pth nx c0 n c → d ∈ nx c → Pth nx c0 (n + 1) d
theorem Pth.reach {γ : Type} {nx : γ → List γ} {c0 c : γ} {n : Nat} (h : Pth nx c0 n c) : Reach nx c0 c := by
  induction h with
  | beg => exact .beg
  | on _ hd ih => exact .on ih hd
def Sam {γ : Type} (mv : γ → List (Mv γ)) (c : γ) : Prop := ∀ m ∈ mv c, m.1 = m.2.1
abbrev nxP (up : Bool) (F F' : Form) : Pk → List Pk := fun c => agr (mvP up F F' c)
def kid (up : Bool) (F F' : Form) (n : Nd) (x : Int) : Nd := .on n (mp1 up F F' n.key x).2.2 x (mp1 up F F' n.key x).1
/-- a node as the walk makes it -/
inductive Gen (up : Bool) (F F' : Form) (c0 : Pk) : Nd → Prop
  | root : Gen up F F' c0 (.root c0)
  | on {b : Nd} {x : Int} : Gen up F F' c0 b → x ∈ intsR (fromS up b.key.2.2) → (mp1 up F F' b.key x).1 = (mp1 up F F' b.key x).2.1 → Gen up F F' c0 (kid up F F' b x)
section
variable {up : Bool} {F F' : Form} {c0 : Pk}
/-- the state of the walk: what is found, the level, how far it is away -/
structure NdI (up : Bool) (F F' : Form) (c0 : Pk) (Fo L : List Nd) (q : Nat) : Prop where
  nd : ((Fo ++ L).map Nd.key).Nodup
  gen : ∀ n ∈ Fo ++ L, Gen up F F' c0 n
  lv : ∀ n ∈ L, n.len = q
  lf : ∀ n ∈ Fo, n.len < q
  srt : Fo.Pairwise fun a b => a.len ≤ b.len
  near : ∀ p c, Pth (nxP up F F') c0 p c → p ≤ q → c ∈ (Fo ++ L).map Nd.key
  nearF : ∀ p c, Pth (nxP up F F') c0 p c → p < q → c ∈ Fo.map Nd.key
  cl : ∀ n ∈ Fo, ∀ d ∈ nxP up F F' n.key, d ∈ (Fo ++ L).map Nd.key
  good : ∀ n ∈ Fo, Sam (mvP up F F') n.key
  min : ∀ n ∈ Fo ++ L, ∀ p, Pth (nxP up F F') c0 p n.key → n.len ≤ p
  cnt : q ≤ Fo.length
/-- what the walk finds behind a level, known ones left out -/
def behN (up : Bool) (F F' : Form) (Fo L : List Nd) : List Nd := L.flatMap fun n => ((intsR (fromS up n.key.2.2)).map (kid up F F' n)).filter fun m => decide (m.key ∉ (Fo ++ L).map Nd.key)
end
/-! ### a dict of keys, a dict of things by their keys -/
section
variable {α β : Type} [DecidableEq α] {f : α → D} {g : β → D} {κ : β → α}
/-- a thing put by its key: the newer one stays -/
def putB (κ : β → α) (M : List β) (x : β) : List β := if κ x ∈ M.map κ then M.map fun m => if κ m = κ x then x else m else M ++ [x]
end
/-- what is found and the level, so many moves away -/
def lvl (up : Bool) (F F' : Form) (c0 : Pk) : Nat → List Nd × List Nd
  | 0 => ([], [.root c0])
  | q + 1 => ((lvl up F F' c0 q).1 ++ (lvl up F F' c0 q).2, (behN up F F' (lvl up F F' c0 q).1 (lvl up F F' c0 q).2).reverse.foldl (putB Nd.key) [])
def unl (up : Bool) (F F' : Form) (c : Pk) (x : Int) : Bool := !decide ((mp1 up F F' c x).1 = (mp1 up F F' c x).2.1)
def unlN (up : Bool) (F F' : Form) (n : Nd) : Bool := (intsR (fromS up n.key.2.2)).any (unl up F F' n.key)
end Fw
namespace Fw
open PySem
/-- the program's defs that walk two forms, without the rows -/
structure NdC (pg : Pg) (le al gr g ns ab ra nf an : Nat) : Prop where
  hle : ∃ nm, pg.fns[le]? = some ⟨nm, 2, 2, lesserB⟩
  hal : ∃ nm, pg.fns[al]? = some ⟨nm, 0, 0, all_stepsB g⟩
  hg : pg.gl[g]? = some (.int 13)
  hns : ∃ nm, pg.fns[ns]? = some ⟨nm, 2, 2, next_stepsB le al g⟩
  hgr : ∃ nm, pg.fns[gr]? = some ⟨nm, 2, 2, greaterB⟩
  hab : ∃ nm, pg.fns[ab]? = some ⟨nm, 3, 3, ahead_behindB gr⟩
  hra : ∃ nm, pg.fns[ra]? = some ⟨nm, 6, 3, run_atB⟩
  hnf : ∃ nm, pg.fns[nf]? = some ⟨nm, 14, 3, nodes_fromB ns ra ab⟩
  han : ∃ nm, pg.fns[an]? = some ⟨nm, 11, 3, all_nodesB nf⟩
/-- the program's defs that walk two forms -/
structure NdP (pg : Pg) (le al gr g ns ab ra nf an nb rd : Nat) : Prop where
  hle : ∃ nm, pg.fns[le]? = some ⟨nm, 2, 2, lesserB⟩
  hal : ∃ nm, pg.fns[al]? = some ⟨nm, 0, 0, all_stepsB g⟩
  hg : pg.gl[g]? = some (.int 13)
  hns : ∃ nm, pg.fns[ns]? = some ⟨nm, 2, 2, next_stepsB le al g⟩
  hgr : ∃ nm, pg.fns[gr]? = some ⟨nm, 2, 2, greaterB⟩
  hab : ∃ nm, pg.fns[ab]? = some ⟨nm, 3, 3, ahead_behindB gr⟩
  hra : ∃ nm, pg.fns[ra]? = some ⟨nm, 6, 3, run_atB⟩
  hnf : ∃ nm, pg.fns[nf]? = some ⟨nm, 14, 3, nodes_fromB ns ra ab⟩
  han : ∃ nm, pg.fns[an]? = some ⟨nm, 11, 3, all_nodesB nf⟩
  hnb : ∃ nm, pg.fns[nb]? = some ⟨nm, 7, 1, numbers_byB gr g⟩
  hrd : ∃ nm, pg.fns[rd]? = some ⟨nm, 3, 1, node_roadB⟩
section
variable {pg : Pg} {k : Nat} {s : S} {up : Bool} {F F' : Form} {le al gr g ns ab ra nf an nb rd : Nat}
/-- numbers by steps: last, heard, what is told -/
def nb1 (z : Int × Int × List Int) (p : Int × Bool) : Int × Int × List Int :=
  let n := if p.1 = 13 then (if z.1 + p.1 < z.2.1 + 1 then z.2.1 + 1 else z.1 + p.1) else z.1 + p.1
  (if p.2 then n else z.1, if z.2.1 < n then n else z.2.1, z.2.2 ++ [n])
def nbS (r : List (Int × Bool)) : Int × Int × List Int := r.foldl nb1 (0, 0, [])
def nbF (r : List (Int × Bool)) : List Int := (nbS r).2.2
end
end Fw
namespace Fw
open PySem
/-- what the walk of two forms tells: all nodes, none that parts them; or a first one that parts them -/
inductive NdR (up : Bool) (F F' : Form) (c0 : Pk) : D → Prop
  | all {N : List Nd} {q : Nat} : NdI up F F' c0 N [] q → N.length ≤ 43904 → lvl up F F' c0 q = (N, []) → NdR up F F' c0 (.tup [.lst (N.map Nd.d), .non])
  | part {N : List Nd} {b : Nd} {x : Int} : Gen up F F' c0 b → (lvl up F F' c0 b.len).2.find? (unlN up F F') = some b → (intsR (fromS up b.key.2.2)).find? (unl up F F' b.key) = some x → b.len ≤ (if up then 43904 else 3136) → (∀ p c, Pth (nxP up F F') c0 p c → p < b.len → Sam (mvP up F F') c) → NdR up F F' c0 (.tup [.lst (N.map Nd.d), (kid up F F' b x).d])
section
variable {pg : Pg} {k : Nat} {s : S} {up : Bool} {F F' : Form} {le al gr g ns ab ra nf an nb rd : Nat}
end
end Fw
namespace Fw
open PySem
/-! ## parting, alike -/
abbrev nxM {γ : Type} (mv : γ → List (Mv γ)) : γ → List γ := fun c => agr (mv c)
/-- nothing unlike, ever -/
def AllSam {γ : Type} (mv : γ → List (Mv γ)) (c0 : γ) : Prop := ∀ c, Reach (nxM mv) c0 c → Sam mv c
/-- so many moves ahead of the first unlike one, at least -/
def LeastU {γ : Type} (mv : γ → List (Mv γ)) (c0 : γ) (n : Nat) : Prop := (∃ c, Pth (nxM mv) c0 n c ∧ ¬ Sam mv c) ∧ ∀ p c, Pth (nxM mv) c0 p c → p < n → Sam mv c
theorem LeastU.eq {γ : Type} {mv : γ → List (Mv γ)} {c0 : γ} {n m : Nat} (h : LeastU mv c0 n) (h' : LeastU mv c0 m) : n = m := by
  obtain ⟨⟨c, hc, hs⟩, hl⟩ := h
  obtain ⟨⟨d, hd, ht⟩, hk⟩ := h'
  have h1 : ¬ n < m := fun z => hs (hk n c hc z)
  have h2 : ¬ m < n := fun z => ht (hl m d hd z)
  omega
theorem LeastU.not {γ : Type} {mv : γ → List (Mv γ)} {c0 : γ} {n : Nat} (h : LeastU mv c0 n) : ¬ AllSam mv c0 := fun z => by
  obtain ⟨⟨c, hc, hs⟩, _⟩ := h
  exact hs (z c hc.reach)
/-- a receiver seen as its form -/
structure View (R : Rc) (F : Form) (pos : Rst → Nat) (V : Rst → Prop) : Prop where
  z : V ⟨0, none⟩
  z0 : pos ⟨0, none⟩ = 0
  st : ∀ t x, V t → V (stepF R t x).2 ∧ atP F (pos t) x = ((stepF R t x).1, pos (stepF R t x).2)
  far : ∀ t x y, V t → 13 ≤ x → 13 ≤ y → stepF R t x = stepF R t y
/-- what parting tells -/
inductive PrtR (up : Bool) (R R' : Rc) : D → Prop
  | non : AllSam (mvL up R R') lc0 → PrtR up R R' .non
  | row {b : Nd} {x : Int} : Gen up (formF R) (formF R') pk0 b → (lvl up (formF R) (formF R') pk0 b.len).2.find? (unlN up (formF R) (formF R')) = some b → (intsR (fromS up b.key.2.2)).find? (unl up (formF R) (formF R') b.key) = some x → b.len ≤ 43904 → LeastU (mvL up R R') lc0 b.len → PrtR up R R' (.tup ((nbF (kid up (formF R) (formF R') b x).road).map D.int))
section
variable {pg : Pg} {k n n' : Nat} {s : S} {up : Bool} {R R' : Rc} {le al gr g ns ab ra nf an nb rd : Nat} {pl li co st rm ta cl ru lo fo : Nat}
end
end Fw
namespace Fw
open PySem
section
variable {up : Bool} {R R' : Rc}
end
end Fw
namespace Fw
open PySem
/-! ## how far away each pair is: a walk by a queue -/
section
variable {γ : Type} [DecidableEq γ] {mv : γ → List (Mv γ)} {nx : γ → List γ} {c0 : γ}
structure DI (nx : γ → List γ) (c0 : γ) (Q : List γ) (i : Nat) (dist : γ → Int) : Prop where
  z : dist c0 = 0
  pth : ∀ c ∈ Q, ∃ n : Nat, dist c = n ∧ Pth nx c0 n c
  mono : Q.Pairwise fun a b => dist a ≤ dist b
  cap : ∀ c, Q[i]? = some c → ∀ d ∈ Q, dist d ≤ dist c + 1
  done : ∀ j c, j < i → Q[j]? = some c → ∀ d ∈ nx c, dist d ≤ dist c + 1
structure DJ (nx : γ → List γ) (c0 : γ) (Q P : List γ) (i : Nat) (c : γ) (dist : γ → Int) : Prop where
  z : dist c0 = 0
  pth : ∀ c ∈ P, ∃ n : Nat, dist c = n ∧ Pth nx c0 n c
  mono : P.Pairwise fun a b => dist a ≤ dist b
  cap : ∀ d ∈ P, dist d ≤ dist c + 1
  done : ∀ j c, j < i → Q[j]? = some c → ∀ d ∈ nx c, dist d ≤ dist c + 1
end
section
variable {pg : Pg} {k n n' : Nat} {s : S} {R R' : Rc} {up : Bool} {li co st : Nat}
end
end Fw
namespace Fw
open PySem
/-! ## rows of numbers by the way to a node -/
def l_risesB : Cs := (.cons (.set (.nm 1) (.bin .Add (.tup (.cons (.int 0) .nil)) (.bi .tuple (.cons (.nm 0) .nil)))) (.cons (.ret (.cmp .Eq (.frz (.comp (.nm 2) (.range1 (.bi .len (.cons (.nm 0) .nil))) (.cons (.cmp .LtE (.sub (.nm 0) (.nm 2)) (.sub (.nm 1) (.nm 2))) .nil) (.nm 2) [2])) (.frz (.disp .nil)))) .nil))
def l_is_numbersB (fwhole : Nat) : Cs := (.cons (.ret (.and (.cons (.isi (.nm 0) [.tuple]) (.cons (.cmp .Eq (.frz (.comp (.nm 1) (.seq (.nm 0)) (.cons (.not (.val (.call fwhole (.cons (.nm 1) .nil)))) .nil) (.nm 1) [1])) (.frz (.disp .nil))) .nil)))) .nil)
def l_partsB (fnums frises fwalk : Nat) : Cs := (.cons (.ifs (.or (.cons (.not (.val (.call fnums (.cons (.nm 2) .nil)))) (.cons (.cmp .Eq (.nm 2) (.tup .nil)) (.cons (.and (.cons (.val (.nm 3)) (.cons (.not (.val (.call frises (.cons (.nm 2) .nil)))) .nil))) .nil)))) (.cons (.ret (.bl false)) .nil) .nil) (.cons (.set (.tup (.cons (.nm 4) (.cons (.nm 5) .nil))) (.tup (.cons (.sub (.call fwalk (.cons (.nm 0) (.cons (.int 0) (.cons (.nm 2) .nil)))) (.int 0)) (.cons (.sub (.call fwalk (.cons (.nm 1) (.cons (.int 0) (.cons (.nm 2) .nil)))) (.int 0)) .nil)))) (.cons (.ret (.and (.cons (.cmp .Eq (.slice (.nm 4) .no (.so (.un .USub (.int 1)))) (.slice (.nm 5) .no (.so (.un .USub (.int 1))))) (.cons (.cmp .NotEq (.sub (.nm 4) (.un .USub (.int 1))) (.sub (.nm 5) (.un .USub (.int 1)))) .nil)))) .nil)))
/-- a way through one form -/
inductive Fol (F : Form) (i : Nat) : List (Int × Bool) → Nat → Prop
  | nil : Fol F i [] i
  | snoc {r : List (Int × Bool)} {j : Nat} (x : Int) : Fol F i r j → Fol F i (r ++ [(x, (atP F j x).1)]) (atP F j x).2
/-! bounds -/
/-! rising rows -/
def Ris (ns : List Int) : Prop := ∀ (k : Nat) (y z : Int), ((0 : Int) :: ns)[k]? = some y → ns[k]? = some z → y < z
structure RisI (n : Nd) : Prop where
  ris : Ris (nbF n.road)
  hd : (0 :: nbF n.road)[(nbF n.road).length]? = some (nbS n.road).2.1
  h0 : 0 ≤ n.key.2.2
  h1 : n.key.2.2 ≤ 13
  lo : n.key.2.2 < 13 → (nbS n.road).2.1 - (nbS n.road).1 = n.key.2.2
  hi : n.key.2.2 = 13 → 13 ≤ (nbS n.road).2.1 - (nbS n.road).1
end Fw
namespace Fw
open PySem
/-! ## the law's own judgement of a row that parts -/
theorem bls_cmp (as bs : List Bool) : cmpop .Eq (.tup (as.map D.bl)) (.tup (bs.map D.bl)) = some (decide (as = bs)) := by
  cases bs with
  | nil =>
    show some (as.map D.bl).isEmpty = _
    cases as <;> simp
  | cons b bs =>
    have d1 : ∀ as : List Bool, (D.tup (as.map D.bl)).dat = true := fun as => by
      simp only [D.dat]
      exact dats_iff.mpr fun d hd => by obtain ⟨b, _, rfl⟩ := List.mem_map.mp hd; rfl
    rw [cmp_eq (by simp) (d1 as), eqOk_dat (d1 as) (d1 _) (by have := bls_dep (bs := as); omega), tup_eqv eqv_bl]
    rfl
section
variable {pg : Pg} {k m n m' n' : Nat} {s : S} {R R' : Rc} {up : Bool}
/-- the law's defs that judge a row -/
structure PartL (pg : Pg) (li co st re he wa wh nu ri pa : Nat) : Prop extends HearL pg li co st re he where
  hwa : ∃ nm, pg.fns[wa]? = some ⟨nm, 7, 3, l_walkB he⟩
  hwh : ∃ nm, pg.fns[wh]? = some ⟨nm, 1, 1, wholeB⟩
  hnu : ∃ nm, pg.fns[nu]? = some ⟨nm, 2, 1, l_is_numbersB wh⟩
  hri : ∃ nm, pg.fns[ri]? = some ⟨nm, 3, 1, l_risesB⟩
  hpa : ∃ nm, pg.fns[pa]? = some ⟨nm, 6, 4, l_partsB nu ri wa⟩
variable {li co st re he wa wh nu ri pa : Nat}
end
end Fw
namespace Fw
open PySem
/-! ## rows whose last number is taken and not greater -/
/-! the law's walk of one receiver -/
section
variable {pg : Pg} {k m n : Nat} {s : S} {R : Rc} {li co st : Nat}
end
end Fw
namespace Fw
open PySem
section
variable {pg : Pg} {k m n : Nat} {s : S} {R : Rc} {li co st re he wa wh nu : Nat}
variable {le al gr g ns ab ra nf an nb rd : Nat} {pl li' co' st' rm ta cl ru lo fo : Nat}
end
/-! on the receiver -/
end Fw
namespace Fw
open PySem
/-! ## how long one waits: plain -/
def cap (y : Int) : Int := if 13 < y then 13 else y
section
variable {γ : Type}
end
/-! the greatest -/
/-! rising rows: the law's walk of rests -/
end Fw
namespace Fw
open PySem
/-! ## how long one waits: the program -/
def greatestB (fgreater : Nat) : Cs := (.cons (.set (.nm 1) (.sub (.nm 0) (.int 0))) (.cons (.fors (.nm 2) (.seq (.nm 0)) (.cons (.set (.nm 1) (.call fgreater (.cons (.nm 1) (.cons (.nm 2) .nil)))) .nil)) (.cons (.ret (.nm 1)) .nil)))
def wait_fromB (flesser frun gFAR : Nat) : Cs := (.cons (.set (.nm 3) (.int 0)) (.cons (.set (.nm 4) (.call flesser (.cons (.nm 2) (.cons (.glob gFAR) .nil)))) (.cons (.whiles (.cmp .LtE (.nm 3) (.bin .Add (.glob gFAR) (.bi .len (.cons (.nm 0) .nil)))) (.cons (.aug 3 .Add (.int 1)) (.cons (.set (.nm 4) (.call flesser (.cons (.bin .Add (.nm 4) (.int 1)) (.cons (.glob gFAR) .nil)))) (.cons (.set (.tup (.cons (.nm 5) (.cons (.nm 1) .nil))) (.call frun (.cons (.nm 0) (.cons (.nm 1) (.cons (.nm 4) .nil))))) (.cons (.ifs (.val (.nm 5)) (.cons (.ret (.nm 3)) .nil) .nil) .nil))))) (.cons (.ret .non) .nil))))
def rising_nodesB (fall : Nat) : Cs := (.cons (.ret (.sub (.call fall (.cons (.tup (.cons (.nm 0) (.cons (.nm 0) .nil))) (.cons (.tup (.cons (.int 0) (.cons (.int 0) .nil))) (.cons (.bl true) .nil)))) (.int 0))) .nil)
def worstB (fgreatest : Nat) : Cs := (.cons (.ret (.ite (.cmp .In .non (.nm 0)) .non (.call fgreatest (.cons (.nm 0) .nil)))) .nil)
/-- the program's defs -/
structure WaitP (pg : Pg) (le al gr g ns ab ra nf an gt wf rn wo pt : Nat) : Prop extends NdC pg le al gr g ns ab ra nf an where
  hgt : ∃ nm, pg.fns[gt]? = some ⟨nm, 3, 1, greatestB gr⟩
  hwf : ∃ nm, pg.fns[wf]? = some ⟨nm, 6, 3, wait_fromB le ra g⟩
  hrn : ∃ nm, pg.fns[rn]? = some ⟨nm, 1, 1, rising_nodesB an⟩
  hwo : ∃ nm, pg.fns[wo]? = some ⟨nm, 1, 1, worstB gt⟩
section
variable {pg : Pg} {k n : Nat} {s : S} {R : Rc} {F : Form} {le al gr g ns ab ra nf an gt wf rn wo pt : Nat}
end
end Fw
namespace Fw
open PySem
/-! ## how long one waits: the law -/
def l_waitB (fstep : Nat) : Cs := (.cons (.fors (.nm 3) (.range1 (.int 80)) (.cons (.set (.tup (.cons (.nm 4) (.cons (.nm 1) .nil))) (.call fstep (.cons (.nm 0) (.cons (.nm 1) (.cons (.bi .min2 (.cons (.bin .Add (.nm 2) (.nm 3)) (.cons (.int 13) .nil))) .nil))))) (.cons (.ifs (.val (.nm 4)) (.cons (.ret (.bin .Add (.nm 3) (.int 1))) .nil) .nil) .nil))) (.cons (.ret .non) .nil))
def l_on_risingB (fstep : Nat) : Cs := (.cons (.par [1, 2, 3] [(.d1 true (.tup (.cons (.tup (.cons (.int 0) .nil)) (.cons (.int 0) .nil))) (.bl true)), (.o (.disp (.cons (.tup (.cons (.tup (.cons (.int 0) .nil)) (.cons (.int 0) .nil))) .nil))), (.v (.int 0))]) (.cons (.whiles (.cmp .Lt (.nm 3) (.bi .len (.cons (.pk 2) .nil))) (.cons (.set (.tup (.cons (.nm 5) (.cons (.nm 6) .nil))) (.sub (.pk 2) (.nm 3))) (.cons (.fors (.nm 4) (.range2 (.bi .min2 (.cons (.bin .Add (.nm 6) (.int 1)) (.cons (.int 13) .nil))) (.int 14)) (.cons (.set (.tup (.cons (.nm 8) (.cons (.nm 9) .nil))) (.call fstep (.cons (.nm 0) (.cons (.nm 5) (.cons (.nm 4) .nil))))) (.cons (.set (.nm 7) (.tup (.cons (.nm 9) (.cons (.ite (.val (.nm 8)) (.int 0) (.nm 4)) .nil)))) (.cons (.ifs (.cmp .NotIn (.nm 7) (.pk 1)) (.cons (.store 1 (.nm 7) (.bl true)) (.cons (.app 2 (.nm 7)) .nil)) .nil) .nil)))) (.cons (.set (.nm 3) (.bin .Add (.nm 3) (.int 1))) .nil)))) (.cons (.frz 2) (.cons (.ret (.nm 2)) .nil))))
def l_greatestB : Cs := (.cons (.set (.nm 1) (.int 0)) (.cons (.fors (.nm 2) (.seq (.nm 0)) (.cons (.ifs (.cmp .Is (.nm 2) .non) (.cons (.ret .non) .nil) .nil) (.cons (.ifs (.cmp .Gt (.nm 2) (.nm 1)) (.cons (.set (.nm 1) (.nm 2)) .nil) .nil) .nil))) (.cons (.ret (.nm 1)) .nil)))
section
variable {pg : Pg} {k n : Nat} {s : S} {R : Rc} {li co st : Nat}
/-- the law's defs -/
structure WaitL (pg : Pg) (li co st wa on gt : Nat) : Prop extends StepL pg li co st where
  hwa : ∃ nm, pg.fns[wa]? = some ⟨nm, 5, 3, l_waitB st⟩
  hon : ∃ nm, pg.fns[on]? = some ⟨nm, 10, 1, l_on_risingB st⟩
  hgt : ∃ nm, pg.fns[gt]? = some ⟨nm, 3, 1, l_greatestB⟩
variable {wa on gt fr ww : Nat}
end
end Fw
namespace Fw
open PySem
section
variable {pg : Pg} {k n : Nat} {s : S} {R : Rc} {le al gr g ns ab ra nf an gt wf rn wo pt it : Nat} {pl li co st rm ta cl ru lo fo : Nat}
end
end Fw
namespace Fw
open PySem
section
variable {pg : Pg} {k n : Nat} {s : S} {R : Rc} {le al gr g ns ab ra nf an gt wf rn wo pt it : Nat} {pl li co st rm ta cl ru lo fo : Nat}
variable {wa on : Nat}
end
section
variable {pg : Pg} {k : Nat} {s : S} {R : Rc} {dip pick rg rw wd pr rcv : Nat}
end
end Fw
namespace Fw
open PySem
section
variable {pg : Pg} {k n : Nat} {s : S} {R : Rc} {le al gr g ns ab ra nf an gt wf rn wo pt it : Nat} {pl li co st rm ta cl ru lo fo : Nat}
variable {wa on fr ww : Nat}
end
end Fw
namespace Fw
open PySem
/-! ## places that answer alike are one -/
section
variable {R : Rc} {m n : Nat} {c : List Nat}
end
/-! ## ways from any stand -/
def Fo (F : Form) : Nat → List (Int × Bool) → Nat → Prop
  | i, [], j => i = j
  | i, (x, t) :: r, j => (atP F i x).1 = t ∧ Fo F (atP F i x).2 r j
theorem Fo.append {F : Form} : ∀ {r r' : List (Int × Bool)} {i j k : Nat}, Fo F i r j → Fo F j r' k → Fo F i (r ++ r') k
  | [], _, _, _, _, h, h' => by cases h; exact h'
  | (x, t) :: r, _, _, _, _, h, h' => ⟨h.1, Fo.append h.2 h'⟩
end Fw
namespace Fw
open PySem
/-! ## doubled numbers -/
/-- the answer to a step that comes again, and the places behind the first and behind the second -/
def agP (F : Form) (i : Nat) (x : Int) : Bool × Nat × Nat :=
  let a := atP F i x
  let b := atP F a.2 (if a.1 then 0 else x)
  (b.1, a.2, b.2)
/-- a way that shows that a doubled step matters -/
inductive Dbt (F : Form) (n : Nd) (x : Int) : List (Int × Bool) → Prop
  | again : (agP F n.key.1 x).1 = true → Dbt F n x (n.road ++ [(x, (atP F n.key.1 x).1)])
  | later {p : Nd} {y : Int} : (agP F n.key.1 x).1 = false → Gen false F F ((agP F n.key.1 x).2.1, (agP F n.key.1 x).2.2, 0) p → y ∈ intsR (fromS false p.key.2.2) → (mp1 false F F p.key y).1 ≠ (mp1 false F F p.key y).2.1 → p.len ≤ 3136 → Dbt F n x (n.road ++ [(x, (atP F n.key.1 x).1)] ++ (kid false F F p y).road)
section
variable {pg : Pg} {k n : Nat} {s : S} {R : Rc} {le al gr g ns ab ra nf an nb rd : Nat} {pl li co st rm ta cl ru lo fo : Nat}
theorem nodup_subL {α : Type} [DecidableEq α] {l U : List α} (h : l.Nodup) (hU : ∀ x ∈ l, x ∈ U) : l.length ≤ U.length := nodup_sub h hU
end
end Fw
namespace Fw
open PySem
/-! ## doubled numbers: the law -/
section
variable {pg : Pg} {k m n : Nat} {s : S} {R : Rc} {li co st re he wa wh nu : Nat}
end
end Fw
namespace Fw
open PySem
/-! ## doubled numbers: judged -/
theorem Fo.one {F : Form} {i : Nat} (x : Int) : Fo F i [(x, (atP F i x).1)] (atP F i x).2 := ⟨rfl, rfl⟩
section
variable {pg : Pg} {k m n : Nat} {s : S} {R : Rc} {li co st re he wa wh nu : Nat}
end
end Fw
namespace Fw
open PySem
/-! ## rows of numbers, judged -/
theorem last_intsM {s : S} {ns : List Int} (h : ns.isEmpty = false) : ∃ z : Int, subS s (.lst (ns.map D.int)) (.int (-1)) = some (.int z) ∧ z ∈ ns := by
  cases hn : ns.getLast? with
  | none => rw [List.getLast?_eq_none_iff] at hn; subst hn; cases h
  | some z =>
    obtain ⟨ys, rfl⟩ := List.getLast?_eq_some_iff.mp hn
    refine ⟨z, ?_, by simp⟩
    show L2.atI ((ys ++ [z]).map D.int) (-1) = _
    unfold L2.atI L2.ixN
    rw [if_neg (by omega), if_pos (by simp; omega)]
    rw [show ((-1 : Int) + (((ys ++ [z]).map D.int).length : Nat)).toNat = ys.length by simp; omega]
    simp
section
variable {pg : Pg} {k m n : Nat} {s : S} {R : Rc} {li co st re he : Nat}
theorem numbersC_wp {f dip pick : Nat} (dr : Draw pg dip pick) (w : HearL pg li co st re he) (hf : ∃ nm, pg.fns[f]? = some ⟨nm, 9, 4, l_numbersB dip pick he⟩) (hR : R.ok m n) (hm : n ≤ 1000) {o mx b : Int} (hb0 : 0 ≤ b) (h1 : 0 ≤ mx) (h2 : mx ≤ 1000) (ho1 : -b ≤ o) (ho2 : o ≤ b) (hs : Spr s) :
    (callN pg (k + 5) f [.ref 0, R.d, .int o, .int mx] s).wp fun d s' => (∃ ns : List Int, d = .tup (ns.map D.int) ∧ ns.length ≤ mx.toNat ∧ ∀ v ∈ ns, -(b + 100000000000000000030000) ≤ v ∧ v ≤ b + 100000000000000000030000) ∧ Spr s' := by
  obtain ⟨nm, hf⟩ := hf
  refine callN_wc hf rfl ?_
  unfold l_numbersB
  kd_adr
  refine c_cons ?_
  kd_mem
  simp only [setAll]
  kst_mem
  refine c_cons ?_
  kd_mem
  refine (dr.dip_wp (k := k + 3) hs (by omega) (by omega)).mono fun _ s ⟨⟨u, ei, u1, u2⟩, hs⟩ => ?_
  subst ei
  kd_mem
  refine rng_wp (by omega) (by omega) ?_
  refine for_rng (fun i env s => Spr s ∧ ∃ (x : Std) (ns : List Int) (a4 a7 a8 : Option Sl), x.rest.ok R.length ∧ ns.length = i.toNat ∧ (-(b + i * 100000000000000000030) ≤ x.last ∧ x.last ≤ b + i * 100000000000000000030) ∧ (∀ v ∈ ns, -(b + i * 100000000000000000030) ≤ v ∧ v ≤ b + i * 100000000000000000030) ∧ env = [some (.val (.ref 0)), some (.val R.d), some (.val (.int o)), some (.val (.int mx)), a4, some (.val x.d), some (.own (ns.map D.int)), a7, a8]) (by omega) ⟨hs, beg o, [], _, _, _, beg_ok hR o, rfl, ⟨by show _ ≤ o; omega, by show o ≤ _; omega⟩, (fun v hv => by cases hv), rfl⟩ ?_ ?_
  · clear hs
    rintro i env s i1 i2 ⟨hs, x, ns, a4, a7, a8, hx, hl, ⟨hb1, hb2⟩, hN, rfl⟩
    refine ⟨_, rfl, ?_⟩
    kst_mem
    refine c_cons ?_
    kd_mem
    refine (dr.dip_wp (k := k + 3) hs (by decide) (by decide)).mono fun _ s ⟨⟨way, ei, y1, y2⟩, hs⟩ => ?_
    subst ei
    kst_mem
    refine c_seq (fun env s => Spr s ∧ ∃ z : Int, (-(b + (i + 1) * 100000000000000000030) ≤ z ∧ z ≤ b + (i + 1) * 100000000000000000030) ∧ env = [some (.val (.ref 0)), some (.val R.d), some (.val (.int o)), some (.val (.int mx)), some (.val (.int i)), some (.val x.d), some (.own (ns.map D.int)), some (.val (.int way)), some (.val (.int z))]) ?_ ?_
    · kd_mem
      rw [eqv_int]
      refine andD (fun _ => ?_) (fun _ => ?_)
      · refine c_cons ?_
        kd_mem
        refine (dr.pick_wp (k := k + 2) hs (by simp) (by simp [lim])).mono fun a s ⟨ha, hs⟩ => ?_
        obtain ⟨pk, rfl, hpk⟩ : ∃ pk : Int, a = .int pk ∧ -(10 ^ 20) ≤ pk ∧ pk ≤ 10 ^ 20 := by
          simp only [List.mem_cons, List.not_mem_nil, or_false] at ha
          rcases ha with rfl | rfl | rfl | rfl | rfl | rfl | rfl | rfl <;> exact ⟨_, rfl, by decide +kernel, by decide +kernel⟩
        clear ha
        kd_mem
        exact ⟨hs, _, ⟨by omega, by omega⟩, rfl⟩
      · refine c_cons ?_
        have rest : (evCs pg.gl (callN pg (k + 4)) pg.W (.cons (.ifs (.and (.cons (.cmp .Lt (.nm 7) (.int 4)) (.cons (.cmp .IsNot (.sub (.nm 5) (.int 2)) .non) .nil))) (.cons (.set (.nm 8) (.bin .Sub (.bin .Add (.sub (.nm 5) (.int 2)) (.call dip (.cons (.nm 0) (.cons (.int 5) .nil)))) (.int 1))) .nil) (.cons (.set (.nm 8) (.bin .Add (.sub (.nm 5) (.int 1)) (.ite (.cmp .Lt (.nm 7) (.int 6)) (.bin .Sub (.call dip (.cons (.nm 0) (.cons (.int 15) .nil))) (.int 7)) (.bin .Add (.int 1) (.call dip (.cons (.nm 0) (.cons (.int 7) .nil))))))) .nil)) .nil) [some (.val (.ref 0)), some (.val R.d), some (.val (.int o)), some (.val (.int mx)), some (.val (.int i)), some (.val x.d), some (.own (ns.map D.int)), some (.val (.int way)), a8] s).wc ⟨fun env s => Spr s ∧ ∃ z : Int, (-(b + (i + 1) * 100000000000000000030) ≤ z ∧ z ≤ b + (i + 1) * 100000000000000000030) ∧ env = [some (.val (.ref 0)), some (.val R.d), some (.val (.int o)), some (.val (.int mx)), some (.val (.int i)), some (.val x.d), some (.own (ns.map D.int)), some (.val (.int way)), some (.val (.int z))], fun _ _ => False, fun _ _ => False, fun _ _ => False⟩ := by
          have els : (evCs pg.gl (callN pg (k + 4)) pg.W (.cons (.set (.nm 8) (.bin .Add (.sub (.nm 5) (.int 1)) (.ite (.cmp .Lt (.nm 7) (.int 6)) (.bin .Sub (.call dip (.cons (.nm 0) (.cons (.int 15) .nil))) (.int 7)) (.bin .Add (.int 1) (.call dip (.cons (.nm 0) (.cons (.int 7) .nil))))))) .nil) [some (.val (.ref 0)), some (.val R.d), some (.val (.int o)), some (.val (.int mx)), some (.val (.int i)), some (.val x.d), some (.own (ns.map D.int)), some (.val (.int way)), a8] s).wc ⟨fun env s => Spr s ∧ ∃ z : Int, (-(b + (i + 1) * 100000000000000000030) ≤ z ∧ z ≤ b + (i + 1) * 100000000000000000030) ∧ env = [some (.val (.ref 0)), some (.val R.d), some (.val (.int o)), some (.val (.int mx)), some (.val (.int i)), some (.val x.d), some (.own (ns.map D.int)), some (.val (.int way)), some (.val (.int z))], fun _ _ => False, fun _ _ => False, fun _ _ => False⟩ := by
            refine c_cons ?_
            kd_mem
            refine andD (fun _ => ?_) (fun _ => ?_)
            · kd_mem
              refine (dr.dip_wp (k := k + 3) hs (by decide) (by decide)).mono fun _ s ⟨⟨z, ei, z1, z2⟩, hs⟩ => ?_
              subst ei
              kd_mem
              exact ⟨hs, _, ⟨by omega, by omega⟩, rfl⟩
            · kd_mem
              refine (dr.dip_wp (k := k + 3) hs (by decide) (by decide)).mono fun _ s ⟨⟨z, ei, z1, z2⟩, hs⟩ => ?_
              subst ei
              kd_mem
              exact ⟨hs, _, ⟨by omega, by omega⟩, rfl⟩
          refine c_cons ?_
          kd_mem
          refine andD (fun _ => ?_) (fun _ => ?_)
          · kd_mem
            obtain ⟨xs, xl, xk⟩ := x
            cases xk with
            | none =>
              refine andF rfl ?_
              refine andF rfl ?_
              refine Fw.R.wp.mono els fun f s h => ?_
              cases f with
              | next env => exact h
              | ret _ => exact h
              | brk _ => exact h
              | cont _ => exact h
              | exn _ _ => exact h.elim
            | some kp =>
              have hk6 := hx.2 (kp - xl) rfl
              simp only at hb1 hb2
              refine andT rfl ?_
              kd_mem
              refine c_cons ?_
              kd_mem
              refine (dr.dip_wp (k := k + 3) hs (by decide) (by decide)).mono fun _ s ⟨⟨z, ei, z1, z2⟩, hs⟩ => ?_
              subst ei
              kd_mem
              exact ⟨hs, _, ⟨by omega, by omega⟩, rfl⟩
          · refine andF rfl ?_
            refine Fw.R.wp.mono els fun f s h => ?_
            cases f with
            | next env => exact h
            | ret _ => exact h
            | brk _ => exact h
            | cont _ => exact h
            | exn _ _ => exact h.elim
        have rest' : ∀ {p : Ps}, (∀ env s, (Spr s ∧ ∃ z : Int, (-(b + (i + 1) * 100000000000000000030) ≤ z ∧ z ≤ b + (i + 1) * 100000000000000000030) ∧ env = [some (.val (.ref 0)), some (.val R.d), some (.val (.int o)), some (.val (.int mx)), some (.val (.int i)), some (.val x.d), some (.own (ns.map D.int)), some (.val (.int way)), some (.val (.int z))]) → p.nx env s) → (evCs pg.gl (callN pg (k + 4)) pg.W (.cons (.ifs (.and (.cons (.cmp .Lt (.nm 7) (.int 4)) (.cons (.cmp .IsNot (.sub (.nm 5) (.int 2)) .non) .nil))) (.cons (.set (.nm 8) (.bin .Sub (.bin .Add (.sub (.nm 5) (.int 2)) (.call dip (.cons (.nm 0) (.cons (.int 5) .nil)))) (.int 1))) .nil) (.cons (.set (.nm 8) (.bin .Add (.sub (.nm 5) (.int 1)) (.ite (.cmp .Lt (.nm 7) (.int 6)) (.bin .Sub (.call dip (.cons (.nm 0) (.cons (.int 15) .nil))) (.int 7)) (.bin .Add (.int 1) (.call dip (.cons (.nm 0) (.cons (.int 7) .nil))))))) .nil)) .nil) [some (.val (.ref 0)), some (.val R.d), some (.val (.int o)), some (.val (.int mx)), some (.val (.int i)), some (.val x.d), some (.own (ns.map D.int)), some (.val (.int way)), a8] s).wc p := fun hp => by
          refine Fw.R.wp.mono rest fun f s h => ?_
          cases f with
          | next env => exact hp env s h
          | ret _ => exact h.elim
          | brk _ => exact h.elim
          | cont _ => exact h.elim
          | exn _ _ => exact h.elim
        refine c_ifs (t_and (t_cmp (e_nm ⟨_, rfl, e_int ⟨_, rfl, ?_⟩⟩)))
        rw [eqv_int]
        refine andD (fun _ => ?_) (fun _ => ?_)
        · refine t_and (t_cmp (e_pk ⟨_, rfl, e_frz (f_disp (es_nil ⟨_, ints_ne_nil, ?_⟩))⟩))
          refine andN (fun he => ?_) (fun he => ?_)
          · obtain ⟨z, hz, hzm⟩ := last_intsM (s := s) he
            have hzb := hN z hzm
            kd_mem
            refine c_cons ?_
            kd_mem
            exact ⟨_, hz, hs, _, ⟨by omega, by omega⟩, rfl⟩
          · refine andF rfl ?_
            exact rest' fun env s h => by kd_mem; exact h
        · refine andF rfl ?_
          exact rest' fun env s h => by kd_mem; exact h
    clear hs
    rintro env s ⟨hs, z, ⟨z1, z2⟩, rfl⟩
    refine c_cons ?_
    kd_mem
    refine ⟨by simp only [List.length_map, lim]; omega, ?_⟩
    kst_mem
    refine c_cons ?_
    kd_mem
    refine (w.heard hR hm hx.1).mono fun d s' ⟨e1, e2⟩ => ?_
    subst e1 e2
    kd_mem
    refine ⟨hs, (hearF R x z).2, ns ++ [z], some (.val (.int i)), some (.val (.int way)), some (.val (.int z)), hearF_ok hR hx z, by simp [hl]; omega, ?_, ?_, ?_⟩
    · rw [hear_last]
      split
      · exact ⟨z1, z2⟩
      · exact ⟨by omega, by omega⟩
    · intro v hv
      rcases List.mem_append.mp hv with hv | hv
      · have := hN v hv
        exact ⟨by omega, by omega⟩
      · simp at hv; subst hv; exact ⟨z1, z2⟩
    simp only [List.map_append, List.map_cons, List.map_nil]
    rfl
  · rintro env s ⟨hs, x, ns, a4, a7, a8, hx, hl, _, hN, rfl⟩
    ksw_less
    refine ⟨⟨ns, rfl, by omega, fun v hv => ?_⟩, hs⟩
    have := hN v hv
    exact ⟨by omega, by omega⟩
end
end Fw
namespace Fw
open PySem
/-! ## any value, judged as a row of numbers -/
section
variable {pg : Pg} {k m : Nat} {s : S}
end
end Fw
namespace Fw
open PySem
/-! ## falling rows, judged -/
section
variable {pg : Pg} {k m n mm : Nat} {s : S} {R : Rc} {ro li co st he be wa an sa ar wh : Nat} {re nu : Nat}
end
end Fw
namespace Fw
open PySem
/-! ## values drawn around a row of numbers -/
section
variable {pg : Pg} {k n : Nat} {s : S} {R : Rc} {dip pick odd oth sp : Nat} {li co st re he : Nat} {le al gr g ns ab ra nf an nb rd : Nat} {pl li' co' st' rm ta cl ru lo fo : Nat}
end
end Fw
namespace Fw
open PySem
/-! ## doubled rows, judged -/
section
variable {pg : Pg} {k m n mm : Nat} {s : S} {R : Rc} {ro li co st he be wa an ar wh re nu : Nat}
end
end Fw
namespace Fw
open PySem
section
variable {pg : Pg} {k m n mm : Nat} {s : S} {R : Rc} {li co st re he wa wh nu : Nat}
end
end Fw
namespace Fw
open PySem
/-! ## values drawn around a row and an index -/
section
variable {pg : Pg} {k n : Nat} {s : S} {R : Rc} {dip pick odd oth sp : Nat} {li co st re he : Nat} {le al gr g ns ab ra nf an nb rd : Nat} {pl li' co' st' rm ta cl ru lo fo : Nat}
end
end Fw
namespace Fw
open PySem
section
variable {α : Type} [DecidableEq α] {K : Kind α} {pg : Pg} {k : Nat} {s : S}
theorem merged2_wp {f : Nat} (hf : ∃ nm, pg.fns[f]? = some ⟨nm, 5, 2, mergedB⟩) (hW : 20000 ≤ pg.W) {xs ys : List α} (h : xs.length + ys.length < 20000) : (callN pg (k + 1) f [.lst (xs.map K.f), .lst (ys.map K.f)] s).wp fun d s' => d = .lst ((mrg K xs ys).map K.f) ∧ s' = s := by
  obtain ⟨nm, hf⟩ := hf
  refine callN_wc hf rfl ?_
  unfold mergedB
  kd_adr
  refine c_cons ?_
  kd_mem
  kst_mem
  refine c_cons ?_
  kd_mem
  kst_mem
  refine c_seq (fun env s' => s' = s ∧ ∃ (zs : List α) (l r : Nat), l ≤ xs.length ∧ r ≤ ys.length ∧ zs.length + (xs.drop l).length + (ys.drop r).length ≤ 20000 ∧ zs ++ (xs.drop l ++ ys.drop r) = mrg K xs ys ∧ env = [some (.val (.lst (xs.map K.f))), some (.val (.lst (ys.map K.f))), some (.own (zs.map K.f)), some (.val (.int l)), some (.val (.int r))]) ?_ ?_
  · refine c_whileN hW (fun n env s' => s' = s ∧ ∃ (zs : List α) (l r : Nat), l ≤ xs.length ∧ r ≤ ys.length ∧ zs.length ≤ l + r ∧ (xs.length - l) + (ys.length - r) < n ∧ zs ++ mrg K (xs.drop l) (ys.drop r) = mrg K xs ys ∧ env = [some (.val (.lst (xs.map K.f))), some (.val (.lst (ys.map K.f))), some (.own (zs.map K.f)), some (.val (.int l)), some (.val (.int r))]) ?_ ?_ ?_
    · rintro n env s' ⟨rfl, zs, l, r, h1, h2, h3, h4, h5, rfl⟩
      kd_mem
      refine andD (fun hl => ?_) (fun hl => ?_)
      · kd_mem
        refine andD (fun hr => ?_) (fun hr => ?_)
        · kd_mem
          simp only [List.length_map] at hl hr
          have hl : l < xs.length := by omega
          have hr : r < ys.length := by omega
          obtain ⟨x, hx⟩ : ∃ x, xs[l]? = some x := ⟨_, List.getElem?_eq_getElem hl⟩
          obtain ⟨y, hy⟩ : ∃ y, ys[r]? = some y := ⟨_, List.getElem?_eq_getElem hr⟩
          have hx' : (xs.map K.f)[l]? = some (K.f x) := by rw [List.getElem?_map, hx]; rfl
          have hy' : (ys.map K.f)[r]? = some (K.f y) := by rw [List.getElem?_map, hy]; rfl
          have ex : xs.drop l = x :: xs.drop (l + 1) := by rw [List.drop_eq_getElem_cons hl]; congr 1; exact (List.getElem?_eq_some_iff.mp hx).2
          have ey : ys.drop r = y :: ys.drop (r + 1) := by rw [List.drop_eq_getElem_cons hr]; congr 1; exact (List.getElem?_eq_some_iff.mp hy).2
          rw [ex, ey] at h5
          refine c_cons (c_ifs (t_cmp (e_sub (e_nm ⟨_, rfl, e_nm ⟨_, rfl, _, at_natL hy', e_sub (e_nm ⟨_, rfl, e_nm ⟨_, rfl, _, at_natL hx', _, K.cmp y x, ?_⟩⟩)⟩⟩))))
          refine ⟨fun hc => ?_, fun hc => ?_⟩
          · refine c_cons (c_app (e_sub (e_nm ⟨_, rfl, e_nm ⟨_, rfl, _, at_natL hy', _, rfl, by simp only [List.length_map, lim]; omega, ?_⟩⟩)))
            kst_mem
            refine c_cons ?_
            kd_mem
            refine ⟨rfl, zs ++ [y], l, r + 1, by omega, by omega, by simp; omega, by omega, ?_, ?_⟩
            · rw [ex, ← h5, List.append_assoc]
              congr 1
              rw [mrg_lt hc]; rfl
            · simp only [List.map_append, List.map_cons, List.map_nil]; rfl
          · refine c_cons (c_aug ⟨(r : Int), rfl, e_bi (es_cons (e_cmp (e_sub (e_nm ⟨_, rfl, e_nm ⟨_, rfl, _, at_natL hx', e_sub (e_nm ⟨_, rfl, e_nm ⟨_, rfl, _, at_natL hy', _, K.eq x y, es_nil ⟨_, rfl, _, rfl, ?_⟩⟩⟩)⟩⟩))))⟩)
            kst_mem
            refine c_cons (c_app (e_sub (e_nm ⟨_, rfl, e_nm ⟨_, rfl, _, at_natL hx', _, rfl, by simp only [List.length_map, lim]; omega, ?_⟩⟩)))
            kst_mem
            refine c_cons ?_
            kd_mem
            have tail : zs ++ [x] ++ mrg K (xs.drop (l + 1)) (if x = y then ys.drop (r + 1) else y :: ys.drop (r + 1)) = mrg K xs ys := by
              rw [← h5, List.append_assoc]
              congr 1
              rw [mrg_ge hc]; rfl
            by_cases he : x = y
            · rw [if_pos he] at tail
              refine ⟨rfl, zs ++ [x], l + 1, r + 1, by omega, by omega, by simp; omega, by omega, tail, ?_⟩
              simp only [List.map_append, List.map_cons, List.map_nil, he, decide_true]; rfl
            · rw [if_neg he, ← ey] at tail
              refine ⟨rfl, zs ++ [x], l + 1, r, by omega, by omega, by simp; omega, by omega, tail, ?_⟩
              simp only [List.map_append, List.map_cons, List.map_nil, decide_eq_false he]
              show [_, _, _, _, some (Sl.val (D.int ((r : Int) + 0)))] = _
              rw [Int.add_zero]; rfl
        · refine ⟨fun z => (by cases z), fun _ => ?_⟩
          simp only [List.length_map] at hl hr
          have hr : r = ys.length := by omega
          refine ⟨rfl, zs, l, r, h1, h2, by simp; omega, ?_, rfl⟩
          rw [← h5, hr, List.drop_length]
          cases xs.drop l <;> (unfold mrg; simp)
      · refine ⟨fun z => (by cases z), fun _ => ?_⟩
        simp only [List.length_map] at hl
        have hl : l = xs.length := by omega
        refine ⟨rfl, zs, l, r, h1, h2, by simp; omega, ?_, rfl⟩
        rw [← h5, hl, List.drop_length]
        unfold mrg; simp
    · rintro env s' ⟨_, zs, l, r, _, _, _, h, _⟩
      omega
    · refine ⟨rfl, [], 0, 0, by omega, by omega, by simp, by omega, by simp, rfl⟩
  rintro env s' ⟨rfl, zs, l, r, h1, h2, h3, h4, rfl⟩
  refine c_cons ?_
  kd_mem
  rw [cut_drop _ (by omega), Int.toNat_natCast]
  refine ⟨_, _, rfl, rfl, by simp [lim] at h3 ⊢; omega, ?_⟩
  kd_mem
  rw [cut_drop _ (by omega), Int.toNat_natCast]
  refine ⟨_, _, rfl, rfl, by simp [lim] at h3 ⊢; omega, ?_⟩
  kd_mem
  refine ⟨?_, rfl⟩
  rw [← h4]
  simp only [List.map_append, List.map_drop, List.append_assoc]
theorem in_order2_wp {f mf : Nat} (hm : ∃ nm, pg.fns[mf]? = some ⟨nm, 5, 2, mergedB⟩) (hf : ∃ nm, pg.fns[f]? = some ⟨nm, 7, 1, in_orderB mf⟩) (hW : 20000 ≤ pg.W) {xs : List α} (h : xs.length ≤ 8000) :
    (callN pg (k + 2) f [.lst (xs.map K.f)] s).wp fun d s' => (∃ zs, d = .tup (zs.map K.f) ∧ Asc K zs ∧ ∀ z, z ∈ zs ↔ z ∈ xs) ∧ s' = s := by
  obtain ⟨nm, hf⟩ := hf
  refine callN_wc hf rfl ?_
  unfold in_orderB
  kd_adr
  refine c_cons ?_
  kd_mem
  refine comp_map (f := K.f) (g := fun x => D.lst ([x].map K.f)) (fun x hx => ⟨_, rfl, ?_⟩) ?_
  · kd_mem; exact ⟨rfl, rfl⟩
  kst_mem
  refine c_seq (fun env s' => s' = s ∧ ∃ (P : List (List α)) (a2 a3 a4 a5 a6 : Option Sl), P.length ≤ 1 ∧ (∀ p ∈ P, Asc K p) ∧ (∀ z, (∃ p ∈ P, z ∈ p) ↔ z ∈ xs) ∧ env = [some (.val (.lst (xs.map K.f))), some (.val (.lst (P.map fun p => D.lst (p.map K.f)))), a2, a3, a4, a5, a6]) ?_ ?_
  · refine c_whileN hW (fun n env s' => s' = s ∧ ∃ (P : List (List α)) (a2 a3 a4 a5 a6 : Option Sl), P.length < n ∧ P.length ≤ 8000 ∧ (P.map List.length).sum ≤ 8000 ∧ (∀ p ∈ P, Asc K p) ∧ (∀ z, (∃ p ∈ P, z ∈ p) ↔ z ∈ xs) ∧ env = [some (.val (.lst (xs.map K.f))), some (.val (.lst (P.map fun p => D.lst (p.map K.f)))), a2, a3, a4, a5, a6]) ?_ ?_ ?_
    · rintro n env s' ⟨rfl, P, a2, a3, a4, a5, a6, h1, h2, h3, h4, h5, rfl⟩
      kd_mem
      refine andD (fun hl => ?_) (fun hl => ?_)
      · simp only [List.length_map] at hl
        have hl : 1 < P.length := by omega
        refine c_cons ?_
        kd_mem
        have eh : (((P.map fun p => D.lst (p.map K.f)).length : Nat) : Int) / 2 = ((P.length / 2 : Nat) : Int) := by simp
        kst_mem
        rw [eh]
        have hh : 2 * (P.length / 2) ≤ P.length := by omega
        generalize hH : P.length / 2 = H at hh
        have hH1 : 1 ≤ H := by omega
        refine c_cons ?_
        kd_mem
        kst_mem
        rw [cut_drop _ (by omega), ← List.map_drop]
        have e2 : (2 * (H : Int)).toNat = 2 * H := by omega
        rw [e2]
        refine c_cons (c_setn (e_frz (f_cat (e_frz (f_comp (i_zip ?_))))))
        kd_mem
        refine ⟨_, _, .inl ⟨rfl, rfl⟩, ?_⟩
        have e3 : (2 : Int) * (H : Int) = ((2 * H : Nat) : Int) := by omega
        rw [e3, cut_take _ (by omega), cut_mid _ (by omega) (by simpa using hh), Int.toNat_natCast, ← List.map_take, ← List.map_drop, ← List.map_take, zip_map]
        refine comp_map (g := fun p => D.lst ((mrg K p.1 p.2).map K.f)) (fun p hp => ⟨_, rfl, ?_⟩) ?_
        · obtain ⟨a, b⟩ := p
          have ha := (List.of_mem_zip hp).1
          have hb := (List.of_mem_zip hp).2
          have la := sum_mem (g := List.length) (List.mem_of_mem_take ha)
          have lb := sum_mem (g := List.length) (List.mem_of_mem_drop (List.mem_of_mem_take hb))
          kd_mem
          exact merged2_wp hm hW (by show a.length + b.length < 20000; omega)
        kd_mem
        have e4 : 2 * H - H = H := by omega
        rw [e4]
        refine ⟨_, _, rfl, rfl, by simp [lim]; omega, ?_⟩
        kst_mem
        have split3 : P = P.take H ++ ((P.drop H).take H ++ P.drop (2 * H)) := by
          have : P.drop (2 * H) = (P.drop H).drop H := by rw [List.drop_drop]; congr 1; omega
          rw [this, List.take_append_drop, List.take_append_drop]
        have lA : (P.take H).length = H := by rw [List.length_take]; omega
        have lB : ((P.drop H).take H).length = H := by rw [List.length_take, List.length_drop]; omega
        generalize hA : P.take H = A at split3 lA
        generalize hB : (P.drop H).take H = B at split3 lB
        generalize hC : P.drop (2 * H) = C at split3
        have lP : P.length = H + (H + C.length) := by rw [split3]; simp [lA, lB]
        refine ⟨rfl, ((A.zip B).map fun p => mrg K p.1 p.2) ++ C, some (.val (.int H)), some (.val (.lst (C.map fun p => D.lst (p.map K.f)))), a4, a5, a6, ?_, ?_, ?_, ?_, ?_, ?_⟩
        · simp [lA, lB]; omega
        · simp [lA, lB]; omega
        · have := zip_sum (g := List.length) (mg := mrg K) (mrg_len K) A B
          rw [split3] at h3
          simp only [List.map_append, List.sum_append] at h3 ⊢
          omega
        · intro p hp
          rcases List.mem_append.mp hp with hp | hp
          · obtain ⟨⟨a, b⟩, hab, rfl⟩ := List.mem_map.mp hp
            have ha := (List.of_mem_zip hab).1
            have hb := (List.of_mem_zip hab).2
            exact mrg_asc K _ _ (h4 _ (by rw [split3]; simp [ha])) (h4 _ (by rw [split3]; simp [hb]))
          · exact h4 _ (by rw [split3]; simp [hp])
        · intro z
          rw [← h5 z]
          constructor
          · rintro ⟨p, hp, hz⟩
            rcases List.mem_append.mp hp with hp | hp
            · obtain ⟨⟨a, b⟩, hab, rfl⟩ := List.mem_map.mp hp
              have ha := (List.of_mem_zip hab).1
              have hb := (List.of_mem_zip hab).2
              rcases (mrg_mem K _ _ z).mp hz with hz | hz
              · exact ⟨a, by rw [split3]; simp [ha], hz⟩
              · exact ⟨b, by rw [split3]; simp [hb], hz⟩
            · exact ⟨p, by rw [split3]; simp [hp], hz⟩
          · rintro ⟨p, hp, hz⟩
            rw [split3] at hp
            rcases List.mem_append.mp hp with hp | hp
            · obtain ⟨b, _, hab⟩ := zip_mem_l (A := A) (B := B) (by omega) p hp
              exact ⟨mrg K p b, List.mem_append_left _ (List.mem_map.mpr ⟨(p, b), hab, rfl⟩), (mrg_mem K _ _ z).mpr (.inl hz)⟩
            · rcases List.mem_append.mp hp with hp | hp
              · obtain ⟨a, _, hab⟩ := zip_mem_r (A := A) (B := B) (by omega) p hp
                exact ⟨mrg K a p, List.mem_append_left _ (List.mem_map.mpr ⟨(a, p), hab, rfl⟩), (mrg_mem K _ _ z).mpr (.inr hz)⟩
              · exact ⟨p, List.mem_append_right _ hp, hz⟩
        · simp only [List.map_append, List.map_map]
          rfl
      · simp only [List.length_map] at hl
        exact ⟨rfl, P, _, _, _, _, _, by omega, h4, h5, rfl⟩
    · rintro env s' ⟨_, P, _, _, _, _, _, h1, _⟩
      omega
    · refine ⟨rfl, xs.map fun x => [x], none, none, none, none, none, by simp; omega, by simp; omega, ?_, ?_, ?_, ?_⟩
      · have : ∀ ys : List α, ((ys.map fun x => [x]).map List.length).sum = ys.length := fun ys => by
          induction ys with
          | nil => rfl
          | cons y ys ih => simp only [List.map_cons, List.sum_cons, ih, List.length_cons, List.length_nil]; omega
        rw [this]; exact h
      · intro p hp
        obtain ⟨x, _, rfl⟩ := List.mem_map.mp hp
        exact ⟨(fun y hy => by cases hy), trivial⟩
      · intro z
        constructor
        · rintro ⟨p, hp, hz⟩
          obtain ⟨x, hx, rfl⟩ := List.mem_map.mp hp
          simp at hz; subst hz; exact hx
        · intro hz
          exact ⟨[z], List.mem_map.mpr ⟨z, hz, rfl⟩, by simp⟩
      · rw [List.map_map]; rfl
  rintro env s' ⟨rfl, P, a2, a3, a4, a5, a6, h1, h4, h5, rfl⟩
  have hdat : D.dats (P.map fun p => D.lst (p.map K.f)) = true := dats_iff.mpr fun d hd => by
    obtain ⟨p, _, rfl⟩ := List.mem_map.mp hd
    simp only [D.dat]
    exact dats_iff.mpr fun d hd => by
      obtain ⟨a, _, rfl⟩ := List.mem_map.mp hd
      exact K.dat a
  refine c_cons (c_ret (e_ite (t_cmp (e_nm ⟨_, rfl, e_frz (f_disp (es_nil ⟨_, ne_nilL hdat, ?_⟩))⟩))))
  match P, h1, h4, h5 with
  | [], _, _, h5 =>
    kd_mem
    refine ⟨⟨[], rfl, trivial, fun z => ?_⟩, rfl⟩
    rw [← h5 z]; simp
  | [p], _, h4, h5 =>
    kd_mem
    refine ⟨⟨p, rfl, h4 p (by simp), fun z => ?_⟩, rfl⟩
    rw [← h5 z]; simp
  | _ :: _ :: _, h, _, _ => simp at h
end
/-! ## pairs of rests -/
abbrev Pr := Rst × Rst
def tk (t : Rst) : List Int := match t.gap with
  | none => [1, t.st, 0]
  | some g => [1, t.st, 1, g, 0]
def tk2 (p : Pr) : List Int := 1 :: (tk p.1 ++ (1 :: (tk p.2 ++ [0])))
structure PrV (R R' : Rc) (c : Pr) : Prop where
  l : c.1.ok R.length
  r : c.2.ok R'.length
section
variable {R R' : Rc} {m n m' n' : Nat} {c0 : Pr}
end
end Fw
namespace Fw
open PySem
/-! ## ranges as wide as can be; tiles of the numbers -/
/-- a range, some number in it, ends ahead of another one, with a number between -/
structure Gap (a b : Rg) : Prop where
  ha : ∀ l h, a.1 = some l → a.2 = some h → l ≤ h
  hb : ∀ l h, b.1 = some l → b.2 = some h → l ≤ h
  ex : ∃ h l, a.2 = some h ∧ b.1 = some l ∧ h + 1 < l
structure Can (P : Int → Bool) (L : List Rg) : Prop where
  mem : ∀ o, P o = true ↔ ∃ r ∈ L, inR o r = true
  ne : ∀ r ∈ L, ∀ l h, r.1 = some l → r.2 = some h → l ≤ h
  sep : L.Pairwise Gap
theorem inR_iff {o : Int} {r : Rg} : inR o r = true ↔ (∀ l, r.1 = some l → l ≤ o) ∧ ∀ h, r.2 = some h → o ≤ h := by
  obtain ⟨l, h⟩ := r
  cases l <;> cases h <;> simp [inR, geL, leH]
theorem pw_tri {α : Type} {Rl : α → α → Prop} : ∀ {L : List α}, L.Pairwise Rl → ∀ {a b}, a ∈ L → b ∈ L → a = b ∨ Rl a b ∨ Rl b a
  | x :: t, h, a, b, ha, hb => by
    rw [List.pairwise_cons] at h
    rcases List.mem_cons.mp ha with e1 | h1
    · rcases List.mem_cons.mp hb with e2 | h2
      · exact .inl (e1.trans e2.symm)
      · exact .inr (.inl (by rw [e1]; exact h.1 b h2))
    · rcases List.mem_cons.mp hb with e2 | h2
      · exact .inr (.inr (by rw [e2]; exact h.1 a h1))
      · exact pw_tri h.2 h1 h2
/-- a run of P as wide as can be -/
structure WRun (P : Int → Bool) (r : Rg) : Prop where
  ne : ∀ l h, r.1 = some l → r.2 = some h → l ≤ h
  all : ∀ o, inR o r = true → P o = true
  lo : ∀ l, r.1 = some l → P (l - 1) = false
  hi : ∀ h, r.2 = some h → P (h + 1) = false
theorem Can.run {P : Int → Bool} {L : List Rg} (c : Can P L) {r : Rg} (hr : r ∈ L) : WRun P r := by
  refine ⟨c.ne r hr, fun o ho => (c.mem o).mpr ⟨r, hr, ho⟩, fun l hl => ?_, fun h hh => ?_⟩
  · rw [← Bool.not_eq_true]
    intro hp
    obtain ⟨q, hq, hin⟩ := (c.mem _).mp hp
    rw [inR_iff] at hin
    rcases pw_tri c.sep hr hq with e | g | g
    · subst e; have := hin.1 l hl; omega
    · obtain ⟨h, l2, e1, e2, e3⟩ := g.ex
      have := hin.1 l2 e2
      have := g.ha l h hl e1
      omega
    · obtain ⟨h, l2, e1, e2, e3⟩ := g.ex
      have := hin.2 h e1
      rw [hl] at e2; cases e2
      omega
  · rw [← Bool.not_eq_true]
    intro hp
    obtain ⟨q, hq, hin⟩ := (c.mem _).mp hp
    rw [inR_iff] at hin
    rcases pw_tri c.sep hr hq with e | g | g
    · subst e; have := hin.2 h hh; omega
    · obtain ⟨h2, l2, e1, e2, e3⟩ := g.ex
      have := hin.1 l2 e2
      rw [hh] at e1; cases e1
      omega
    · obtain ⟨h2, l2, e1, e2, e3⟩ := g.ex
      have := hin.2 h2 e1
      have := g.hb l2 h e2 hh
      omega
/-- some number of a range -/
def oneOf (r : Rg) : Int := match r.1, r.2 with
  | some l, _ => l
  | none, some h => h
  | none, none => 0
theorem oneOf_in {r : Rg} (ne : ∀ l h, r.1 = some l → r.2 = some h → l ≤ h) : inR (oneOf r) r = true := by
  obtain ⟨l, h⟩ := r
  cases l <;> cases h <;> simp [inR, geL, leH, oneOf]
  exact decide_eq_true (ne _ _ rfl rfl)
/-- one more range behind the others -/
def joinF (rows : List Rg) (r : Rg) : List Rg := match rows.getLast?, r.1 with
  | some q, some l => if q.2 = some (l - 1) then rows.dropLast ++ [(q.1, r.2)] else rows ++ [r]
  | _, _ => rows ++ [r]
theorem Can.congr {P P' : Int → Bool} {L : List Rg} (c : Can P L) (h : ∀ o, P o = P' o) : Can P' L := ⟨fun o => by rw [← h o]; exact c.mem o, c.ne, c.sep⟩
theorem can_join {P P' : Int → Bool} {rows : List Rg} {r : Rg} (c : Can P rows) (hn : ∀ l h, r.1 = some l → r.2 = some h → l ≤ h) (hlo : ∀ o, P o = true → ∃ l, r.1 = some l ∧ o < l) (hP : ∀ o, P' o = (P o || inR o r)) : Can P' (joinF rows r) := by
  rcases List.eq_nil_or_concat rows with rfl | ⟨init, q, rfl⟩
  · have e : joinF [] r = [r] := rfl
    rw [e]
    have : ∀ o, P o = false := fun o => by
      rw [← Bool.not_eq_true]
      intro h
      obtain ⟨_, h, _⟩ := (c.mem o).mp h
      cases h
    exact ⟨fun o => by rw [hP, this]; simp, fun x hx => by simp at hx; subst hx; exact hn, by simp⟩
  · rw [List.concat_eq_append] at c ⊢
    have hq := c.ne q (by simp)
    have hex : ∃ l, r.1 = some l := by
      obtain ⟨l, h1, _⟩ := hlo _ ((c.mem _).mpr ⟨q, by simp, oneOf_in hq⟩)
      exact ⟨l, h1⟩
    obtain ⟨l, hl⟩ := hex
    have top : ∀ x ∈ init ++ [q], ∃ h, x.2 = some h ∧ h < l := fun x hx => by
      cases e : x.2 with
      | some h =>
        have : inR h x = true := by
          rw [inR_iff]
          exact ⟨fun k hk => c.ne x hx k h hk e, fun k hk => by rw [e] at hk; cases hk; omega⟩
        obtain ⟨l', h1, h2⟩ := hlo h ((c.mem _).mpr ⟨x, hx, this⟩)
        rw [hl] at h1; cases h1
        exact ⟨h, rfl, h2⟩
      | none =>
        obtain ⟨o, ho1, ho2⟩ : ∃ o, inR o x = true ∧ l ≤ o := by
          cases e1 : x.1 with
          | none => exact ⟨l, by rw [inR_iff]; exact ⟨fun k hk => (by rw [e1] at hk; cases hk), fun k hk => (by rw [e] at hk; cases hk)⟩, by omega⟩
          | some k => exact ⟨max k l, by rw [inR_iff]; exact ⟨fun k' hk => (by rw [e1] at hk; cases hk; omega), fun k hk => (by rw [e] at hk; cases hk)⟩, by omega⟩
        obtain ⟨l', h1, h2⟩ := hlo o ((c.mem _).mpr ⟨x, hx, ho1⟩)
        rw [hl] at h1; cases h1
        omega
    have pw := List.pairwise_append.mp c.sep
    obtain ⟨hq2, eq2, lt2⟩ := top q (by simp)
    unfold joinF
    rw [List.getLast?_append, List.getLast?_singleton, hl]
    simp only [Option.some_or]
    split
    · rename_i he
      rw [eq2] at he
      have he : hq2 = l - 1 := Option.some.inj he
      rw [List.dropLast_concat]
      have hne : ∀ a b, ((q.1, r.2) : Rg).1 = some a → ((q.1, r.2) : Rg).2 = some b → a ≤ b := fun a b h1 h2 => by
        have := hq a hq2 h1 eq2
        have := hn l b hl h2
        omega
      have hmid : ∀ o, inR o (q.1, r.2) = true ↔ inR o q = true ∨ inR o r = true := fun o => by
        rw [inR_iff, inR_iff, inR_iff]
        constructor
        · intro ⟨h1, h2⟩
          by_cases h : o < l
          · exact .inl ⟨h1, fun k hk => by rw [eq2] at hk; cases hk; omega⟩
          · exact .inr ⟨fun k hk => by rw [hl] at hk; cases hk; omega, h2⟩
        · rintro (⟨h1, h2⟩ | ⟨h1, h2⟩)
          · refine ⟨h1, fun k hk => ?_⟩
            have := h2 hq2 eq2
            have := hn l k hl hk
            omega
          · refine ⟨fun k hk => ?_, h2⟩
            have := h1 l hl
            have := hq k hq2 hk eq2
            omega
      refine ⟨fun o => ?_, fun x hx => ?_, ?_⟩
      · rw [hP, Bool.or_eq_true, c.mem]
        constructor
        · rintro (⟨x, hx, hi⟩ | hi)
          · rcases List.mem_append.mp hx with hx | hx
            · exact ⟨x, by simp [hx], hi⟩
            · simp at hx; subst hx
              exact ⟨_, by simp, (hmid o).mpr (.inl hi)⟩
          · exact ⟨_, by simp, (hmid o).mpr (.inr hi)⟩
        · rintro ⟨x, hx, hi⟩
          rcases List.mem_append.mp hx with hx | hx
          · exact .inl ⟨x, by simp [hx], hi⟩
          · simp at hx; subst hx
            rcases (hmid o).mp hi with h | h
            · exact .inl ⟨q, by simp, h⟩
            · exact .inr h
      · rcases List.mem_append.mp hx with hx | hx
        · exact c.ne x (by simp [hx])
        · simp at hx; subst hx; exact hne
      · rw [List.pairwise_append]
        refine ⟨pw.1, by simp, fun a ha b hb => ?_⟩
        simp at hb; subst hb
        have g := pw.2.2 a ha q (by simp)
        exact ⟨g.ha, hne, g.ex⟩
    · rename_i he
      rw [eq2] at he
      have he : hq2 ≠ l - 1 := fun e => he (by rw [e])
      refine ⟨fun o => ?_, fun x hx => ?_, ?_⟩
      · rw [hP, Bool.or_eq_true, c.mem]
        constructor
        · rintro (⟨x, hx, hi⟩ | hi)
          · exact ⟨x, List.mem_append_left _ hx, hi⟩
          · exact ⟨r, by simp, hi⟩
        · rintro ⟨x, hx, hi⟩
          rcases List.mem_append.mp hx with hx | hx
          · exact .inl ⟨x, hx, hi⟩
          · simp at hx; subst hx; exact .inr hi
      · rcases List.mem_append.mp hx with hx | hx
        · exact c.ne x hx
        · simp at hx; subst hx; exact hn
      · rw [List.pairwise_append]
        refine ⟨c.sep, by simp, fun a ha b hb => ?_⟩
        simp at hb; subst hb
        refine ⟨c.ne a ha, hn, ?_⟩
        rcases List.mem_append.mp ha with ha | ha
        · obtain ⟨h1, l1, e1, e2, e3⟩ := (pw.2.2 a ha q (by simp)).ex
          have := hq l1 hq2 e2 eq2
          exact ⟨h1, l, e1, hl, by omega⟩
        · simp at ha; subst ha
          exact ⟨hq2, l, eq2, hl, by omega⟩
/-- ranges one behind another, to the end -/
def Tile : Option Int → List Rg → Prop
  | _, [] => False
  | lo, [r] => r = (lo, none)
  | lo, r :: q :: t => ∃ h, r = (lo, some h) ∧ (∀ l, lo = some l → l ≤ h) ∧ Tile (some (h + 1)) (q :: t)
def belowO (lo : Option Int) (o : Int) : Bool := match lo with
  | none => false
  | some b => decide (o < b)
theorem tile_can {P : Int → Bool} : ∀ (L : List Rg) (lo : Option Int) (rows : List Rg), Tile lo L → (∀ r ∈ L, ∀ o, inR o r = true → P o = P (oneOf r)) → Can (fun o => P o && belowO lo o) rows → Can P ((L.filter fun r => P (oneOf r)).foldl joinF rows)
  | [], lo, rows, h, _, _ => h.elim
  | [r], lo, rows, h, hu, c => by
    have h : r = (lo, none) := h
    subst h
    have hu := hu (lo, none) (by simp)
    have hin : ∀ o, inR o (lo, none) = !belowO lo o := fun o => by
      cases lo with
      | none => rfl
      | some b =>
        by_cases q : b ≤ o
        · simp [inR, geL, leH, belowO, q] <;> omega
        · simp [inR, geL, leH, belowO, q] <;> omega
    cases hp : P (oneOf (lo, none)) with
    | true =>
      rw [List.filter_cons_of_pos (by simpa using hp)]
      refine can_join c (fun l h _ e => by cases e) (fun o ho => ?_) fun o => ?_
      · simp only [Bool.and_eq_true] at ho
        cases lo with
        | none => cases ho.2
        | some b => exact ⟨b, rfl, of_decide_eq_true ho.2⟩
      · cases hb : belowO lo o with
        | true => simp [hin, hb]
        | false =>
          have : inR o (lo, none) = true := by rw [hin, hb]; rfl
          rw [hu o this, hp, this]; simp
    | false =>
      rw [List.filter_cons_of_neg (by rw [hp]; simp)]
      refine c.congr fun o => ?_
      cases hb : belowO lo o with
      | true => simp
      | false =>
        have : inR o (lo, none) = true := by rw [hin, hb]; rfl
        rw [hu o this, hp]; rfl
  | r :: q :: t, lo, rows, h, hu, c => by
    obtain ⟨h, rfl, h2, h3⟩ := h
    have hu1 := hu (lo, some h) (by simp)
    have hin : ∀ o, inR o (lo, some h) = (!belowO lo o && decide (o ≤ h)) := fun o => by
      cases lo with
      | none => simp [inR, geL, leH, belowO]
      | some b =>
        by_cases q : b ≤ o
        · simp [inR, geL, leH, belowO, q] <;> omega
        · simp [inR, geL, leH, belowO, q] <;> omega
    have step : ∀ o, belowO (some (h + 1)) o = (belowO lo o || inR o (lo, some h)) := fun o => by
      rw [hin]
      cases lo with
      | none => simp [belowO] <;> omega
      | some b =>
        have := h2 b rfl
        by_cases q : o < b
        · simp [belowO, q] <;> omega
        · simp [belowO, q] <;> omega
    cases hp : P (oneOf (lo, some h)) with
    | true =>
      rw [List.filter_cons_of_pos (by simpa using hp), List.foldl_cons]
      refine tile_can (q :: t) (some (h + 1)) _ h3 (fun r hr => hu r (List.mem_cons_of_mem _ hr)) (can_join c (fun l k e1 e2 => by cases e2; exact h2 l e1) (fun o ho => ?_) fun o => ?_)
      · simp only [Bool.and_eq_true] at ho
        cases lo with
        | none => cases ho.2
        | some b => exact ⟨b, rfl, of_decide_eq_true ho.2⟩
      · rw [step]
        cases hb : inR o (lo, some h) with
        | true => rw [hu1 o hb, hp]; simp
        | false => simp
    | false =>
      rw [List.filter_cons_of_neg (by rw [hp]; simp)]
      refine tile_can (q :: t) (some (h + 1)) _ h3 (fun r hr => hu r (List.mem_cons_of_mem _ hr)) (c.congr fun o => ?_)
      rw [step]
      cases hb : inR o (lo, some h) with
      | true => rw [hu1 o hb, hp]; simp
      | false => simp
/-- the ranges that a list of ranges gives by P -/
def joined (P : Int → Bool) (L : List Rg) : List Rg := (L.filter fun r => P (oneOf r)).foldl joinF []
theorem joined_can {P : Int → Bool} {L : List Rg} (h : Tile none L) (hu : ∀ r ∈ L, ∀ o, inR o r = true → P o = P (oneOf r)) : Can P (joined P L) :=
  tile_can L none [] h hu ⟨fun o => by simp [belowO], fun r hr => (by cases hr), List.Pairwise.nil⟩
/-! ## tiles between marks -/
def tiles : Option Int → List Int → List Rg
  | lo, [] => [(lo, none)]
  | lo, m :: ms => match lo with
    | none => (none, some (m - 1)) :: (some m, some m) :: tiles (some (m + 1)) ms
    | some l => if m < l then tiles (some l) ms else if l < m then (some l, some (m - 1)) :: (some m, some m) :: tiles (some (m + 1)) ms else (some m, some m) :: tiles (some (m + 1)) ms
theorem tiles_ne : ∀ (ms : List Int) (lo : Option Int), tiles lo ms ≠ []
  | [], lo => by simp [tiles]
  | m :: ms, none => by simp [tiles]
  | m :: ms, some l => by
    unfold tiles
    simp only
    split
    · exact tiles_ne ms _
    · split <;> simp
theorem tile_cons {lo : Option Int} {h : Int} {t : List Rg} (h1 : ∀ l, lo = some l → l ≤ h) (h2 : Tile (some (h + 1)) t) : Tile lo ((lo, some h) :: t) := by
  cases t with
  | nil => exact h2.elim
  | cons q t => exact ⟨h, rfl, h1, h2⟩
theorem tiles_tile : ∀ (ms : List Int) (lo : Option Int), Tile lo (tiles lo ms)
  | [], lo => rfl
  | m :: ms, none => by
    have z := tiles_tile ms (some (m + 1))
    exact tile_cons (fun _ e => by cases e) (by rw [show m - 1 + 1 = m by omega]; exact tile_cons (fun l e => by cases e; omega) z)
  | m :: ms, some l => by
    unfold tiles
    simp only
    split
    · exact tiles_tile ms _
    · have z := tiles_tile ms (some (m + 1))
      split
      · exact tile_cons (fun k e => by cases e; omega) (by rw [show m - 1 + 1 = m by omega]; exact tile_cons (fun l e => by cases e; omega) z)
      · rw [show (some l : Option Int) = some m by rw [show l = m by omega]]
        exact tile_cons (fun l e => by cases e; omega) z
/-- a tile is a mark, or holds none -/
theorem tiles_mark : ∀ (ms : List Int) (lo : Option Int) (E : List Int), ms.Pairwise (· ≤ ·) → (∀ e ∈ E, ∃ l, lo = some l ∧ e < l) → ∀ r ∈ tiles lo ms, (∃ m, r = (some m, some m)) ∨ ∀ m, m ∈ E ∨ m ∈ ms → inR m r = false
  | [], lo, E, _, hE, r, hr => by
    simp only [tiles, List.mem_singleton] at hr
    subst hr
    refine .inr fun m hm => ?_
    simp at hm
    obtain ⟨l, rfl, h⟩ := hE m hm
    simp [inR, geL, leH]; omega
  | m :: ms, lo, E, hs, hE, r, hr => by
    rw [List.pairwise_cons] at hs
    have next : ∀ r ∈ tiles (some (m + 1)) ms, (∀ e ∈ E, e < m + 1) → (∃ k, r = (some k, some k)) ∨ ∀ k, k ∈ E ∨ k ∈ m :: ms → inR k r = false := fun r hr hE' => by
      rcases tiles_mark ms (some (m + 1)) (E ++ [m]) hs.2 (fun e he => ⟨_, rfl, by
        rcases List.mem_append.mp he with he | he
        · exact hE' e he
        · simp at he; omega⟩) r hr with h | h
      · exact .inl h
      · refine .inr fun k hk => h k ?_
        rcases hk with hk | hk
        · exact .inl (by simp [hk])
        · rcases List.mem_cons.mp hk with rfl | hk
          · exact .inl (by simp)
          · exact .inr hk
    cases lo with
    | none =>
      have hE0 : E = [] := by
        cases E with
        | nil => rfl
        | cons e E => obtain ⟨l, e1, _⟩ := hE e (by simp); cases e1
      subst hE0
      simp only [tiles, List.mem_cons] at hr
      rcases hr with rfl | rfl | hr
      · refine .inr fun k hk => ?_
        simp at hk
        have : m ≤ k := by rcases hk with rfl | hk; omega; exact hs.1 k hk
        simp [inR, geL, leH]; omega
      · exact .inl ⟨m, rfl⟩
      · exact next r hr (fun e he => by cases he)
    | some l =>
      have hE' : ∀ e ∈ E, e < l := fun e he => by obtain ⟨l', e1, e2⟩ := hE e he; cases e1; exact e2
      unfold tiles at hr
      simp only at hr
      split at hr
      · rename_i hml
        rcases tiles_mark ms (some l) (m :: E) hs.2 (fun e he => ⟨l, rfl, by
          rcases List.mem_cons.mp he with rfl | he
          · exact hml
          · exact hE' e he⟩) r hr with h | h
        · exact .inl h
        · refine .inr fun k hk => h k ?_
          rcases hk with hk | hk
          · exact .inl (by simp [hk])
          · rcases List.mem_cons.mp hk with rfl | hk
            · exact .inl (by simp)
            · exact .inr hk
      · rename_i hml
        have hE2 : ∀ e ∈ E, e < m + 1 := fun e he => by have := hE' e he; omega
        split at hr
        · simp only [List.mem_cons] at hr
          rcases hr with rfl | rfl | hr
          · refine .inr fun k hk => ?_
            rcases hk with hk | hk
            · have := hE' k hk
              simp [inR, geL, leH]; omega
            · have : m ≤ k := by rcases List.mem_cons.mp hk with rfl | hk; omega; exact hs.1 k hk
              simp [inR, geL, leH]; omega
          · exact .inl ⟨m, rfl⟩
          · exact next r hr hE2
        · simp only [List.mem_cons] at hr
          rcases hr with rfl | hr
          · exact .inl ⟨m, rfl⟩
          · exact next r hr hE2
/-! ## a log -/
abbrev Lg := List (Int × Bool)
def Lg.d (g : Lg) : D := .tup (g.map fun p => .tup [.int p.1, .bl p.2])
def fitsP (R : Rc) (g : Lg) (o : Int) : Bool := decide ((walkF R (beg o) (g.map (·.1))).1 = g.map (·.2))
/-- numbers far on one side of both: answered alike -/
theorem unif {R : Rc} {m n : Nat} (hR : R.ok m n) : ∀ (ns : List Int) (i : Nat) (o o' : Int), i < R.length → (∀ z ∈ ns, (6 < z - o ∧ 6 < z - o') ∨ (z - o < -6 ∧ z - o' < -6)) → (walkF R ⟨i, o, none⟩ ns).1 = (walkF R ⟨i, o', none⟩ ns).1
  | [], _, _, _, _, _ => rfl
  | z :: ns, i, o, o', hi, h => by
    have hz := h z (by simp)
    have hrow : ∀ r ∈ rowsAt R i, rowSo none (z - o) r = rowSo none (z - o') r ∧ (r.dd = .keep → rowSo none (z - o) r = false) := fun r hr => by
      have ok := hR.at hr
      have haf : afSo none (z - o) r.af = afSo none (z - o') r.af := by cases r.af <;> rfl
      obtain ⟨b1, b2, _⟩ := ok.ah
      have e1 : inR (z - o) r.ah = inR (z - o') r.ah := by
        rw [Bool.eq_iff_iff, inR_iff, inR_iff]
        constructor
        · intro ⟨q1, q2⟩
          exact ⟨fun l hl => by have := q1 l hl; have := b1 l hl; omega, fun k hk => by have := q2 k hk; have := b2 k hk; omega⟩
        · intro ⟨q1, q2⟩
          exact ⟨fun l hl => by have := q1 l hl; have := b1 l hl; omega, fun k hk => by have := q2 k hk; have := b2 k hk; omega⟩
      refine ⟨by unfold rowSo; rw [e1, haf], fun hk => ?_⟩
      obtain ⟨⟨l, hl⟩, k, hk⟩ := ok.kp hk
      have : inR (z - o) r.ah = false := by
        rw [← Bool.not_eq_true, inR_iff]
        intro ⟨q1, q2⟩
        have := q1 l hl; have := q2 k hk; have := b1 l hl; have := b2 k hk
        omega
      unfold rowSo
      rw [this]; rfl
    have hf : (rowsAt R i).find? (rowSo none (z - o)) = (rowsAt R i).find? (rowSo none (z - o')) := by
      have : ∀ rs : List Row, (∀ r ∈ rs, rowSo none (z - o) r = rowSo none (z - o') r) → rs.find? (rowSo none (z - o)) = rs.find? (rowSo none (z - o')) := fun rs => by
        induction rs with
        | nil => intro _; rfl
        | cons r rs ih =>
          intro hh
          rw [List.find?_cons, List.find?_cons, hh r (by simp), ih fun r hr => hh r (List.mem_cons_of_mem _ hr)]
      exact this _ fun r hr => (hrow r hr).1
    have rest : ∀ ns' : List Int, ns' = ns → ∀ z ∈ ns', (6 < z - o ∧ 6 < z - o') ∨ (z - o < -6 ∧ z - o' < -6) := fun ns' e z hz => h z (by rw [← e]; exact List.mem_cons_of_mem _ hz)
    have st : ∀ o : Int, stepF R (Std.rest ⟨i, o, none⟩) (z - o) = match (rowsAt R i).find? (rowSo none (z - o)) with | none => (false, ⟨i, none⟩) | some r => afterRow ⟨i, none⟩ (z - o) r := fun o => rfl
    simp only [walkF]
    cases e : (rowsAt R i).find? (rowSo none (z - o)) with
    | none =>
      have e' := e
      rw [hf] at e'
      have h1 : ∀ o : Int, (rowsAt R i).find? (rowSo none (z - o)) = none → hearF R ⟨i, o, none⟩ z = (false, ⟨i, o, none⟩) := fun o q => by
        unfold hearF
        simp only [st, q]
        simp
      rw [h1 o e, h1 o' e']
      simp only
      rw [unif hR ns i o o' hi (rest ns rfl)]
    | some r =>
      have e' := e
      rw [hf] at e'
      have hr := List.mem_of_find?_eq_some e
      have hso := List.find?_some e
      have hk : r.dd ≠ .keep := fun q => by rw [(hrow r hr).2 q] at hso; cases hso
      have hnx : r.nx < R.length := (hR.at hr).nx
      have h1 : ∀ o : Int, (rowsAt R i).find? (rowSo none (z - o)) = some r → hearF R ⟨i, o, none⟩ z = if r.dd = .take then (true, ⟨r.nx, z, none⟩) else (false, ⟨r.nx, o, none⟩) := fun o q => by
        unfold hearF
        simp only [st, q, afterRow]
        cases hd : r.dd <;> simp [hd] at hk ⊢
      rw [h1 o e, h1 o' e']
      split
      · rfl
      · simp only
        rw [unif hR ns r.nx o o' hnx (rest ns rfl)]
/-- marks as far as w to either side of each number -/
def marksOf (w : Nat) (ns : List Int) : List Int := ns.flatMap fun z => (List.range (2 * w + 1)).map fun (i : Nat) => z - w + i
theorem marks_mem {w : Nat} {ns : List Int} {m : Int} : m ∈ marksOf w ns ↔ ∃ z ∈ ns, z - w ≤ m ∧ m ≤ z + w := by
  unfold marksOf
  rw [List.mem_flatMap]
  constructor
  · rintro ⟨z, hz, h⟩
    obtain ⟨i, hi, rfl⟩ := List.mem_map.mp h
    have := List.mem_range.mp hi
    exact ⟨z, hz, by omega, by omega⟩
  · rintro ⟨z, hz, h1, h2⟩
    refine ⟨z, hz, List.mem_map.mpr ⟨(m - (z - w)).toNat, List.mem_range.mpr (by omega), by omega⟩⟩
theorem fits_unif {R : Rc} {m n w : Nat} (hR : R.ok m n) (hw : 6 ≤ w) {g : Lg} {ms : List Int} (hs : ms.Pairwise (· ≤ ·)) (hm : ∀ z, z ∈ ms ↔ z ∈ marksOf w (g.map (·.1))) : ∀ r ∈ tiles none ms, ∀ o, inR o r = true → fitsP R g o = fitsP R g (oneOf r) := fun r hr o ho => by
  rcases tiles_mark ms none [] hs (fun e he => by cases he) r hr with ⟨k, rfl⟩ | hno
  · rw [inR_iff] at ho
    have h1 := ho.1 k rfl
    have h2 := ho.2 k rfl
    have : o = k := by omega
    subst this
    rfl
  · have hne : ∀ l h, r.1 = some l → r.2 = some h → l ≤ h := fun l h e1 e2 => by
      rw [inR_iff] at ho
      have := ho.1 l e1; have := ho.2 h e2; omega
    have ho' := oneOf_in hne
    unfold fitsP
    have : (walkF R (beg o) (g.map (·.1))).1 = (walkF R (beg (oneOf r)) (g.map (·.1))).1 := by
      refine unif hR _ 0 _ _ hR.pos fun z hz => ?_
      generalize oneOf r = o' at ho'
      have out : ∀ x, inR x r = true → ¬ (z - w ≤ x ∧ x ≤ z + w) := fun x hx ⟨q1, q2⟩ => by
        have := hno x (.inr ((hm x).mpr (marks_mem.mpr ⟨z, hz, q1, q2⟩)))
        rw [hx] at this; cases this
      have h1 := out o ho
      have h2 := out o' ho'
      have hmid : ¬ (o ≤ z ∧ z ≤ o') ∧ ¬ (o' ≤ z ∧ z ≤ o) := by
        rw [inR_iff] at ho ho'
        constructor
        · intro ⟨q1, q2⟩
          refine out z ?_ ⟨by omega, by omega⟩
          rw [inR_iff]
          exact ⟨fun l hl => by have := ho.1 l hl; omega, fun h hh => by have := ho'.2 h hh; omega⟩
        · intro ⟨q1, q2⟩
          refine out z ?_ ⟨by omega, by omega⟩
          rw [inR_iff]
          exact ⟨fun l hl => by have := ho'.1 l hl; omega, fun h hh => by have := ho.2 h hh; omega⟩
      omega
    rw [this]
theorem fits_can {R : Rc} {m n w : Nat} (hR : R.ok m n) (hw : 6 ≤ w) {g : Lg} {ms : List Int} (hs : ms.Pairwise (· ≤ ·)) (hm : ∀ z, z ∈ ms ↔ z ∈ marksOf w (g.map (·.1))) : Can (fitsP R g) (joined (fitsP R g) (tiles none ms)) :=
  joined_can (tiles_tile ms none) (fits_unif hR hw hs hm)
end Fw
namespace Fw
open PySem
/-! ## the program's ranges of a log -/
def one_ofB : Cs := (.cons (.set (.tup (.cons (.nm 1) (.cons (.nm 2) .nil))) (.nm 0)) (.cons (.ifs (.cmp .IsNot (.nm 1) .non) (.cons (.ret (.nm 1)) .nil) .nil) (.cons (.ret (.ite (.cmp .Is (.nm 2) .non) (.int 0) (.nm 2))) .nil)))
def stretchesB (io g : Nat) : Cs := (.cons (.own 1 (.disp .nil)) (.cons (.fors (.tup (.cons (.nm 5) (.cons (.nm 6) .nil))) (.seq (.nm 0)) (.cons (.ext 1 (.frz (.comp (.nm 7) (.range2 (.bin .Sub (.int 0) (.glob g)) (.bin .Add (.glob g) (.int 1))) .nil (.bin .Sub (.nm 5) (.nm 7)) [7]))) .nil)) (.cons (.own 2 (.disp .nil)) (.cons (.set (.nm 3) .non) (.cons (.frz 1) (.cons (.fors (.nm 4) (.seq (.call io (.cons (.nm 1) .nil))) (.cons (.ifs (.or (.cons (.cmp .Is (.nm 3) .non) (.cons (.cmp .Lt (.nm 3) (.nm 4)) .nil))) (.cons (.app 2 (.tup (.cons (.nm 3) (.cons (.bin .Sub (.nm 4) (.int 1)) .nil)))) .nil) .nil) (.cons (.app 2 (.tup (.cons (.nm 4) (.cons (.nm 4) .nil)))) (.cons (.set (.nm 3) (.bin .Add (.nm 4) (.int 1))) .nil)))) (.cons (.ret (.frz (.cat (.pk 2) (.frz (.disp (.cons (.tup (.cons (.nm 3) (.cons .non .nil))) .nil)))))) .nil)))))))
def joinedB : Cs := (.cons (.set (.nm 1) (.tup .nil)) (.cons (.fors (.tup (.cons (.nm 2) (.cons (.nm 3) .nil))) (.seq (.nm 0)) (.cons (.ifs (.and (.cons (.cmp .NotEq (.nm 1) (.tup .nil)) (.cons (.cmp .Eq (.bin .Add (.sub (.sub (.nm 1) (.un .USub (.int 1))) (.int 1)) (.int 1)) (.nm 2)) .nil))) (.cons (.set (.nm 1) (.bin .Add (.slice (.nm 1) .no (.so (.un .USub (.int 1)))) (.tup (.cons (.tup (.cons (.sub (.sub (.nm 1) (.un .USub (.int 1))) (.int 0)) (.cons (.nm 3) .nil))) .nil)))) .nil) (.cons (.set (.nm 1) (.bin .Add (.nm 1) (.tup (.cons (.tup (.cons (.nm 2) (.cons (.nm 3) .nil))) .nil)))) .nil)) .nil)) (.cons (.ret (.nm 1)) .nil)))
def fitsB (an st on jo : Nat) : Cs := (.cons (.set (.nm 2) (.bi .tuple (.cons (.frz (.comp (.nm 4) (.seq (.nm 1)) .nil (.sub (.nm 4) (.int 0)) [4])) .nil))) (.cons (.set (.nm 3) (.bi .tuple (.cons (.frz (.comp (.nm 4) (.seq (.nm 1)) .nil (.sub (.nm 4) (.int 1)) [4])) .nil))) (.cons (.ret (.call jo (.cons (.frz (.comp (.nm 5) (.seq (.call st (.cons (.nm 1) .nil))) (.cons (.cmp .Eq (.callK an (.cons (.nm 0) (.cons (.nm 2) .nil)) (.call on (.cons (.nm 5) .nil))) (.nm 3)) .nil) (.nm 5) [5])) .nil))) .nil)))
/-- ints, by size -/
def KI : Kind Int where
  f := D.int
  lt := fun a b => decide (a < b)
  cmp := fun _ _ => rfl
  eq := fun a b => by
    show guardB (eqOk (.int a) (.int b)) (some (D.eqv (.int a) (.int b))) = _
    rw [eqv_int]
    rfl
  irr := fun a => by simp
  trans := fun h1 h2 => by simp only [decide_eq_true_eq] at *; omega
  total := fun h1 h2 => by simp only [decide_eq_true_eq, decide_eq_false_iff_not] at *; omega
  dat := fun _ => rfl
theorem asc_pw : ∀ {xs : List Int}, Asc KI xs → xs.Pairwise (· < ·)
  | [], _ => .nil
  | x :: xs, h => List.pairwise_cons.mpr ⟨fun y hy => of_decide_eq_true (h.1 y hy), asc_pw h.2⟩
theorem tiles_len : ∀ (ms : List Int) (lo : Option Int), (tiles lo ms).length ≤ 2 * ms.length + 1
  | [], lo => by simp [tiles]
  | m :: ms, none => by have := tiles_len ms (some (m + 1)); simp [tiles]; omega
  | m :: ms, some l => by
    have h1 := tiles_len ms (some (m + 1))
    have h2 := tiles_len ms (some l)
    unfold tiles
    simp only [List.length_cons]
    split
    · omega
    · split <;> simp <;> omega
section
variable {pg : Pg} {k m n m' n' : Nat} {s : S} {R : Rc}
theorem one_of_wp {f : Nat} {r : Rg} (hf : ∃ nm, pg.fns[f]? = some ⟨nm, 3, 1, one_ofB⟩) : (callN pg (k + 1) f [r.d] s).wp fun d s' => d = .int (oneOf r) ∧ s' = s := by
  obtain ⟨nm, hf⟩ := hf
  obtain ⟨l, h⟩ := r
  refine callN_wc hf rfl ?_
  unfold one_ofB
  kd_adr
  refine c_cons (c_set (e_nm ⟨_, rfl, _, rfl, ?_⟩))
  kst_mem
  cases l with
  | some l =>
    refine c_cons ?_
    kd_mem
    refine ⟨rfl, rfl⟩
  | none =>
    refine c_cons ?_
    kd_mem
    dsimp only
    cases h with
    | none => refine c_cons ?_; kd_mem; exact ⟨rfl, rfl⟩
    | some h => refine c_cons ?_; kd_mem; exact ⟨rfl, rfl⟩
theorem stretches_wp {mg io f g : Nat} (hm : ∃ nm, pg.fns[mg]? = some ⟨nm, 5, 2, mergedB⟩) (hio : ∃ nm, pg.fns[io]? = some ⟨nm, 7, 1, in_orderB mg⟩) (hf : ∃ nm, pg.fns[f]? = some ⟨nm, 8, 1, stretchesB io g⟩) (hg : pg.gl[g]? = some (.int 6)) (hW : 20000 ≤ pg.W) {lg : Lg} (hl : lg.length ≤ 100) :
    (callN pg (k + 3) f [lg.d] s).wp fun d s' => (∃ ms : List Int, d = .lst ((tiles none ms).map Rg.d) ∧ ms.Pairwise (· ≤ ·) ∧ ms.length ≤ 1300 ∧ ∀ z, z ∈ ms ↔ z ∈ marksOf 6 (lg.map (·.1))) ∧ s' = s := by
  obtain ⟨nm, hf⟩ := hf
  refine callN_wc hf rfl ?_
  unfold stretchesB
  kd_adr
  refine c_cons ?_
  kd_mem
  kst_mem
  refine c_seq (fun env s' => s' = s ∧ ∃ (mk : List Int) (a5 a6 a7 : Option Sl), mk.length = 13 * lg.length ∧ (∀ z, z ∈ mk ↔ z ∈ marksOf 6 (lg.map (·.1))) ∧ env = [some (.val lg.d), some (.own (mk.map D.int)), none, none, none, a5, a6, a7]) ?_ ?_
  · refine c_for (i_seq (e_nm ⟨_, rfl, _, rfl, ?_⟩))
    refine for_map (f := fun p : Int × Bool => D.tup [.int p.1, .bl p.2]) (xs := lg) (fun i env s' => s' = s ∧ ∃ (mk : List Int) (a5 a6 a7 : Option Sl), mk.length = 13 * i ∧ (∀ z, z ∈ mk ↔ z ∈ marksOf 6 ((lg.take i).map (·.1))) ∧ env = [some (.val lg.d), some (.own (mk.map D.int)), none, none, none, a5, a6, a7]) ⟨rfl, [], _, _, _, rfl, by simp [marksOf], rfl⟩ ?_ ?_
    · rintro i ⟨z, b⟩ env s' hx ⟨rfl, mk, a5, a6, a7, h1, h2, rfl⟩
      have hi : i < lg.length := (List.getElem?_eq_some_iff.mp hx).1
      have htk : lg.take (i + 1) = lg.take i ++ [(z, b)] := by rw [List.take_add_one, hx]; rfl
      refine ⟨_, rfl, ?_⟩
      kst_mem
      refine c_cons (c_ext (e_frz (f_comp (i_range2 (e_bin (e_int (e_glob ⟨_, hg, _, rfl, e_bin (e_glob ⟨_, hg, e_int ⟨_, rfl, rng_wp (by omega) (by omega) ?_⟩⟩)⟩)))))))
      have hr : rngD (0 - 6) (6 + 1) = (([-6, -5, -4, -3, -2, -1, 0, 1, 2, 3, 4, 5, 6] : List Int)).map D.int := by unfold rngD; rfl
      rw [hr]
      refine comp_map (f := D.int) (g := fun j => D.int (z - j)) (fun j _ => ⟨_, rfl, ?_⟩) ?_
      · kd_mem
        exact ⟨rfl, rfl⟩
      have e1 : ([-6, -5, -4, -3, -2, -1, 0, 1, 2, 3, 4, 5, 6] : List Int).map (fun j => D.int (z - j)) = (([-6, -5, -4, -3, -2, -1, 0, 1, 2, 3, 4, 5, 6] : List Int).map fun j => z - j).map D.int := by rw [List.map_map]; rfl
      rw [e1]
      refine ⟨_, _, rfl, rfl, by simp only [List.length_map, List.length_cons, List.length_nil, lim]; omega, ?_⟩
      kst_mem
      kd_mem
      refine ⟨rfl, mk ++ ([-6, -5, -4, -3, -2, -1, 0, 1, 2, 3, 4, 5, 6] : List Int).map fun j => z - j, some (.val (.int z)), some (.val (.bl b)), a7, by simp; omega, fun y => ?_, ?_⟩
      · rw [htk, List.map_append, List.mem_append, h2, marks_mem, marks_mem]
        constructor
        · rintro (⟨x, hx, h3⟩ | hy)
          · exact ⟨x, List.mem_append_left _ hx, h3⟩
          · refine ⟨z, by simp, ?_⟩
            simp only [List.map_cons, List.map_nil, List.mem_cons, List.not_mem_nil, or_false] at hy
            omega
        · rintro ⟨x, hx, h3, h4⟩
          rcases List.mem_append.mp hx with hx | hx
          · exact .inl ⟨x, hx, h3, h4⟩
          · simp at hx
            subst hx
            right
            simp only [List.map_cons, List.map_nil, List.mem_cons, List.not_mem_nil, or_false]
            omega
      · rw [List.map_append]
    · rintro env s' ⟨rfl, mk, a5, a6, a7, h1, h2, rfl⟩
      rw [List.take_length] at h2
      exact ⟨rfl, mk, a5, a6, a7, h1, h2, rfl⟩
  rintro env s' ⟨rfl, mk, a5, a6, a7, h1, h2, rfl⟩
  refine c_cons ?_
  kd_mem
  kst_mem
  refine c_cons ?_
  kd_mem
  kst_mem
  refine c_cons (c_frz ⟨_, rfl, ?_⟩)
  kst_mem
  refine c_seq (fun env s2 => s2 = s' ∧ ∃ (ms : List Int) (found : List Rg) (lo : Option Int) (a4 : Option Sl), ms.Pairwise (· ≤ ·) ∧ ms.length ≤ 1300 ∧ (∀ z, z ∈ ms ↔ z ∈ mk) ∧ found ++ [(lo, none)] = tiles none ms ∧ env = [some (.val lg.d), some (.val (.lst (mk.map D.int))), some (.own (found.map Rg.d)), some (.val (ob lo)), a4, a5, a6, a7]) ?_ ?_
  · refine c_for (i_seq (e_call (es_cons (e_nm ⟨_, rfl, es_nil ?_⟩))))
    refine (in_order2_wp (K := KI) (k := k) hm hio hW (xs := mk) (by omega)).mono fun d s2 ⟨⟨ms, e1, h3, h4⟩, e2⟩ => ?_
    subst e1 e2
    have hpw := asc_pw h3
    have hml : ms.length ≤ 1300 := by
      have := nodup_subL (asc_nd h3) fun c hc => (h4 c).mp hc
      omega
    refine ⟨_, rfl, ?_⟩
    refine for_map (f := D.int) (xs := ms) (fun i env s3 => s3 = s2 ∧ ∃ (found : List Rg) (lo : Option Int) (a4 : Option Sl), found ++ tiles lo (ms.drop i) = tiles none ms ∧ (∀ l, lo = some l → ∀ z ∈ ms.drop i, l ≤ z) ∧ env = [some (.val lg.d), some (.val (.lst (mk.map D.int))), some (.own (found.map Rg.d)), some (.val (ob lo)), a4, a5, a6, a7]) ⟨rfl, [], none, none, rfl, fun l e => (by cases e), rfl⟩ ?_ ?_
    · rintro i z env s3 hx ⟨rfl, found, lo, a4, h5, h6, rfl⟩
      have hi : i < ms.length := (List.getElem?_eq_some_iff.mp hx).1
      have hdr : ms.drop i = z :: ms.drop (i + 1) := by rw [List.drop_eq_getElem_cons hi]; congr 1; exact (List.getElem?_eq_some_iff.mp hx).2
      have hup : ∀ y ∈ ms.drop (i + 1), z + 1 ≤ y := fun y hy => by
        have h7 : (ms.drop i).Pairwise (· < ·) := List.Pairwise.drop hpw
        rw [hdr, List.pairwise_cons] at h7
        have := h7.1 y hy
        omega
      have hlen : found.length + 3 ≤ 1000000 := by
        have h7 := congrArg List.length h5
        have h8 := tiles_len ms none
        rw [List.length_append] at h7
        omega
      rw [hdr] at h5
      refine ⟨_, rfl, ?_⟩
      kst_mem
      refine c_seq (fun env s4 => s4 = s3 ∧ ∃ (found2 : List Rg), found2.length ≤ found.length + 1 ∧ found2 ++ (some z, some z) :: tiles (some (z + 1)) (ms.drop (i + 1)) = tiles none ms ∧ env = [some (.val lg.d), some (.val (.lst (mk.map D.int))), some (.own (found2.map Rg.d)), some (.val (ob lo)), some (.val (.int z)), a5, a6, a7]) ?_ ?_
      · cases lo with
        | none =>
          refine c_ifs (t_or (t_cmp (e_nm ⟨_, rfl, e_non ⟨true, rfl, orT rfl ?_⟩⟩)))
          refine ⟨fun _ => ?_, (fun z => by cases z)⟩
          refine c_cons ?_
          kd_mem
          refine ⟨by simp only [List.length_map, lim]; omega, ?_⟩
          kd_mem
          refine ⟨rfl, found ++ [(none, some (z - 1))], by simp, ?_, ?_⟩
          · rw [← h5, List.append_assoc]; rfl
          · simp only [List.map_append, List.map_cons, List.map_nil]; rfl
        | some l =>
          have hlz : l ≤ z := h6 l rfl z (by rw [hdr]; simp)
          refine c_ifs (t_or (t_cmp (e_nm ⟨_, rfl, e_non ⟨false, rfl, orF rfl ?_⟩⟩)))
          refine t_or (t_cmp (e_nm ⟨_, rfl, e_nm ⟨_, rfl, decide (l < z), rfl, ?_⟩⟩))
          refine orD (fun hlt => ?_) (fun hlt => ?_)
          · refine t_or0 ⟨(fun z => by cases z), fun _ => ?_⟩
            kd_mem
            refine ⟨rfl, found, by omega, ?_, rfl⟩
            rw [← h5]
            conv => rhs; unfold tiles
            simp only
            rw [if_neg (by omega), if_neg hlt]
          · refine ⟨fun _ => ?_, (fun z => by cases z)⟩
            refine c_cons ?_
            kd_mem
            refine ⟨by simp only [List.length_map, lim]; omega, ?_⟩
            kd_mem
            refine ⟨rfl, found ++ [(some l, some (z - 1))], by simp, ?_, ?_⟩
            · rw [← h5, List.append_assoc]
              conv => rhs; unfold tiles
              simp only
              rw [if_neg (by omega), if_pos hlt]
              rfl
            · simp only [List.map_append, List.map_cons, List.map_nil]; rfl
      rintro env s4 ⟨rfl, found2, h7, h8, rfl⟩
      refine c_cons ?_
      kd_mem
      refine ⟨by simp only [List.length_map, lim]; omega, ?_⟩
      kst_mem
      refine c_cons ?_
      kd_mem
      refine ⟨rfl, found2 ++ [(some z, some z)], some (z + 1), some (.val (.int z)), ?_, fun l e y hy => ?_, ?_⟩
      · rw [← h8, List.append_assoc]; rfl
      · cases e; exact hup y hy
      · simp only [List.map_append, List.map_cons, List.map_nil]; rfl
    · rintro env s3 ⟨rfl, found, lo, a4, h5, h6, rfl⟩
      rw [List.drop_length] at h5
      exact ⟨rfl, ms, found, lo, a4, hpw.imp fun h => Int.le_of_lt h, hml, h4, h5, rfl⟩
  rintro env s2 ⟨rfl, ms, found, lo, a4, h3, h4, h5, h6, rfl⟩
  have hlen : found.length + 1 ≤ 1000000 := by
    have h7 := congrArg List.length h6
    have h8 := tiles_len ms none
    simp at h7
    omega
  refine c_cons (c_ret (e_frz (f_cat (e_pk ⟨_, rfl, e_frz (f_disp (es_cons (e_tup (es_cons (e_nm ⟨_, rfl, es_cons (e_non (es_nil (es_nil ⟨_, _, rfl, rfl, by simp only [List.length_map, List.length_cons, List.length_nil, lim]; omega, ?_⟩)))⟩)))))⟩))))
  refine ⟨⟨ms, ?_, h3, h4, fun z => (h5 z).trans (h2 z)⟩, rfl⟩
  rw [← h6, List.map_append]
  rfl
/-- ends are told between the first and the last -/
abbrev Mids (L : List Rg) : Prop := L.Pairwise fun a b => a.2 ≠ none ∧ b.1 ≠ none
theorem tile_mids : ∀ {L : List Rg} {lo : Option Int}, Tile lo L → Mids L
  | [], _, _ => .nil
  | [r], _, _ => by simp [Mids]
  | r :: q :: t, lo, h => by
    obtain ⟨h1, rfl, _, h3⟩ := h
    have ih := tile_mids h3
    have lows : ∀ {L : List Rg} {l : Int}, Tile (some l) L → ∀ b ∈ L, b.1 ≠ none := fun {L} => by
      induction L with
      | nil => intro l h; exact h.elim
      | cons a t ih =>
        intro l h b hb
        cases t with
        | nil =>
          have h : a = (some l, none) := h
          simp at hb; subst hb; rw [h]; simp
        | cons c t =>
          obtain ⟨k, rfl, _, h4⟩ := h
          rcases List.mem_cons.mp hb with rfl | hb
          · simp
          · exact ih h4 b hb
    exact List.pairwise_cons.mpr ⟨fun b hb => ⟨by simp, lows h3 b hb⟩, ih⟩
theorem join_last (rows : List Rg) (r : Rg) : ∃ q, (joinF rows r).getLast? = some q ∧ q.2 = r.2 := by
  unfold joinF
  split
  · rename_i q l _ _
    split
    · exact ⟨(q.1, r.2), by rw [List.getLast?_append]; rfl, rfl⟩
    · exact ⟨r, by rw [List.getLast?_append]; rfl, rfl⟩
  · exact ⟨r, by rw [List.getLast?_append]; rfl, rfl⟩
theorem join_len (rows : List Rg) (r : Rg) : (joinF rows r).length ≤ rows.length + 1 := by
  unfold joinF
  split
  · split <;> simp
  · simp
theorem last_sub {rows : List Rg} {q : Rg} {s : S} (h : rows.getLast? = some q) : subS s (.tup (rows.map Rg.d)) (.int (-1)) = some q.d := by
  obtain ⟨init, rfl⟩ := List.getLast?_eq_some_iff.mp h
  rw [List.map_append]
  exact L2.atI_last (init.map Rg.d) q.d
theorem cut_lastR {init : List Rg} {q : Rg} : sliceD (.tup ((init ++ [q]).map Rg.d)) none (some (-1)) = some (.tup (init.map Rg.d)) := by
  show some (D.tup (cutD _ _ _)) = _
  rw [List.map_append]
  unfold cutD
  have e1 : HT.sIx ((init.map Rg.d) ++ [q].map Rg.d).length 0 none = 0 := rfl
  have e2 : HT.sIx ((init.map Rg.d) ++ [q].map Rg.d).length ((init.map Rg.d) ++ [q].map Rg.d).length (some (-1)) = init.length := by
    unfold HT.sIx
    simp
    omega
  rw [e1, e2]
  simp
theorem joined_wp {f : Nat} (hf : ∃ nm, pg.fns[f]? = some ⟨nm, 4, 1, joinedB⟩) {L : List Rg} (hm : Mids L) (hl : L.length ≤ 5000) : (callN pg (k + 1) f [.lst (L.map Rg.d)] s).wp fun d s' => d = .tup ((L.foldl joinF []).map Rg.d) ∧ s' = s := by
  obtain ⟨nm, hf⟩ := hf
  refine callN_wc hf rfl ?_
  unfold joinedB
  kd_adr
  refine c_cons ?_
  kd_mem
  kst_mem
  refine c_seq (fun env s' => s' = s ∧ ∃ a2 a3 : Option Sl, env = [some (.val (.lst (L.map Rg.d))), some (.val (.tup ((L.foldl joinF []).map Rg.d))), a2, a3]) ?_ ?_
  · refine c_for (i_seq (e_nm ⟨_, rfl, _, rfl, ?_⟩))
    refine for_map (f := Rg.d) (xs := L) (fun i env s' => s' = s ∧ ∃ (rows : List Rg) (a2 a3 : Option Sl), rows = (L.take i).foldl joinF [] ∧ rows.length ≤ i ∧ (∀ q, rows.getLast? = some q → ∃ p ∈ L.take i, q.2 = p.2) ∧ env = [some (.val (.lst (L.map Rg.d))), some (.val (.tup (rows.map Rg.d))), a2, a3]) ⟨rfl, [], none, none, rfl, by simp, (fun q h => by cases h), rfl⟩ ?_ ?_
    · rintro i r env s' hx ⟨rfl, rows, a2, a3, h1, h2, h3, rfl⟩
      have hi : i < L.length := (List.getElem?_eq_some_iff.mp hx).1
      have htk : L.take (i + 1) = L.take i ++ [r] := by rw [List.take_add_one, hx]; rfl
      have hnx : (L.take (i + 1)).foldl joinF [] = joinF rows r := by rw [htk, List.foldl_append, ← h1]; rfl
      have hmid : ∀ p ∈ L.take i, p.2 ≠ none ∧ r.1 ≠ none := fun p hp => by
        have hm2 : (L.take (i + 1)).Pairwise fun a b => a.2 ≠ none ∧ b.1 ≠ none := hm.sublist (List.take_sublist _ _)
        rw [htk, List.pairwise_append] at hm2
        exact hm2.2.2 p hp r (by simp)
      obtain ⟨rl, rh⟩ := r
      refine ⟨_, rfl, ?_⟩
      kst_mem
      refine c_seq (fun env s2 => s2 = s' ∧ env = [some (.val (.lst (L.map Rg.d))), some (.val (.tup ((joinF rows (rl, rh)).map Rg.d))), some (.val (ob rl)), some (.val (ob rh))]) ?_ ?_
      · rcases List.eq_nil_or_concat rows with e | ⟨init, q, e⟩
        · subst e
          refine c_ifs (t_and (t_cmp (e_nm ⟨_, rfl, e_tup (es_nil ⟨false, rfl, andF rfl ?_⟩)⟩)))
          refine ⟨(fun z => by cases z), fun _ => ?_⟩
          refine c_cons ?_
          kd_mem
          refine ⟨rfl, ?_⟩
          rfl
        · rw [List.concat_eq_append] at e
          have hq : rows.getLast? = some q := by rw [e, List.getLast?_append]; rfl
          obtain ⟨p, hp, hq2⟩ := h3 q hq
          obtain ⟨hp2, hr1⟩ := hmid p hp
          rw [← hq2] at hp2
          obtain ⟨qh, hqh⟩ := Option.ne_none_iff_exists'.mp hp2
          obtain ⟨l, hl2⟩ := Option.ne_none_iff_exists'.mp hr1
          have hl2 : rl = some l := hl2
          subst hl2
          have hqd : q.d = .tup [ob q.1, .int qh] := by unfold Rg.d; rw [hqh]; rfl
          have hls : ∀ s, subS s (.tup (rows.map Rg.d)) (.int (-1)) = some (.tup [ob q.1, .int qh]) := fun s => by rw [last_sub hq, hqd]
          have hne : cmpop .NotEq (.tup (rows.map Rg.d)) (.tup []) = some true := by
            show some (!(rows.map Rg.d).isEmpty) = _
            rw [e]; simp
          refine c_ifs (t_and (t_cmp (e_nm ⟨_, rfl, e_tup (es_nil ⟨_, hne, andT rfl ?_⟩)⟩)))
          refine t_and (t_cmp (e_bin (e_sub (e_sub (e_nm ⟨_, rfl, e_un (e_int ⟨_, rfl, _, hls _, e_int ⟨_, rfl, e_int ⟨_, rfl, e_nm ⟨_, rfl, _, rfl, ?_⟩⟩⟩⟩)⟩)))))
          rw [show D.eqv (.int (qh + 1)) (ob (some l)) = decide (qh + 1 = l) from eqv_int]
          have hj : joinF rows (some l, rh) = if qh + 1 = l then init ++ [(q.1, rh)] else rows ++ [(some l, rh)] := by
            unfold joinF
            rw [hq]
            simp only
            rw [hqh]
            by_cases hc : qh + 1 = l
            · rw [if_pos hc, if_pos (by rw [show qh = l - 1 by omega]), e, List.dropLast_concat]
            · rw [if_neg hc, if_neg (fun z => hc (by have := Option.some.inj z; omega))]
          refine andD (fun hc => ?_) (fun hc => ?_)
          · rw [if_pos hc] at hj
            refine t_and0 ⟨fun _ => ?_, (fun z => by cases z)⟩
            have hcl : sliceD (.tup (rows.map Rg.d)) none (some (-1)) = some (.tup (init.map Rg.d)) := by rw [e]; exact cut_lastR
            refine c_cons (c_setn (e_bin (e_slice (e_nm ⟨_, rfl, o_no (o_so (e_un (e_int ⟨_, rfl, _, rfl, _, hcl, ?_⟩)))⟩))))
            refine e_tup (es_cons (e_tup (es_cons (e_sub (e_sub (e_nm ⟨_, rfl, e_un (e_int ⟨_, rfl, _, hls _, e_int ⟨_, rfl, es_cons (e_nm ⟨_, rfl, es_nil (es_nil ?_)⟩)⟩⟩)⟩))))))
            have hil : init.length ≤ 5000 := by rw [e] at h2; simp at h2; omega
            refine gB (by simp only [List.length_map, List.length_cons, List.length_nil, lim, decide_eq_true_eq]; omega) ⟨_, rfl, ?_⟩
            kst_mem
            kd_mem
            refine ⟨rfl, ?_⟩
            rw [hj, List.map_append]
            rfl
          · rw [if_neg hc] at hj
            refine ⟨(fun z => by cases z), fun _ => ?_⟩
            refine c_cons ?_
            kd_mem
            refine gB (by simp only [List.length_map, List.length_cons, List.length_nil, lim, decide_eq_true_eq]; omega) ⟨_, rfl, ?_⟩
            kst_mem
            kd_mem
            refine ⟨rfl, ?_⟩
            rw [hj, List.map_append]
            rfl
      rintro env s2 ⟨rfl, rfl⟩
      kd_mem
      refine ⟨rfl, joinF rows (rl, rh), _, _, hnx.symm, by have := join_len rows (rl, rh); omega, fun q hq => ?_, rfl⟩
      obtain ⟨q', e1, e2⟩ := join_last rows (rl, rh)
      rw [e1] at hq
      cases hq
      exact ⟨(rl, rh), by rw [htk]; simp, e2⟩
    · rintro env s' ⟨rfl, rows, a2, a3, h1, h2, h3, rfl⟩
      rw [List.take_length] at h1
      subst h1
      exact ⟨rfl, a2, a3, rfl⟩
  rintro env s' ⟨rfl, a2, a3, rfl⟩
  ksw_less
  exact ⟨rfl, rfl⟩
/-- the defs -/
structure FitsP (pg : Pg) (ro li co st he be wa an mg io sr on jo g : Nat) : Prop extends HearP pg ro li co st he be wa where
  han : ∃ nm, pg.fns[an]? = some ⟨nm, 3, 3, answersB wa⟩
  hmg : ∃ nm, pg.fns[mg]? = some ⟨nm, 5, 2, mergedB⟩
  hio : ∃ nm, pg.fns[io]? = some ⟨nm, 7, 1, in_orderB mg⟩
  hsr : ∃ nm, pg.fns[sr]? = some ⟨nm, 8, 1, stretchesB io g⟩
  hon : ∃ nm, pg.fns[on]? = some ⟨nm, 3, 1, one_ofB⟩
  hjo : ∃ nm, pg.fns[jo]? = some ⟨nm, 4, 1, joinedB⟩
  hgl : pg.gl[g]? = some (.int 6)
  hW : 20000 ≤ pg.W
/-- what fits tells: the ranges as wide as can be -/
theorem FitsP.fits {ro li co st he be wa an mg io sr on jo g f : Nat} (w : FitsP pg ro li co st he be wa an mg io sr on jo g) (hf : ∃ nm, pg.fns[f]? = some ⟨nm, 6, 2, fitsB an sr on jo⟩) (hR : R.ok m n) {lg : Lg} (hl : lg.length ≤ 100) :
    (callN pg (k + 7) f [R.d, lg.d] s).wp fun d s' => (∃ L : List Rg, d = .tup (L.map Rg.d) ∧ Can (fitsP R lg) L ∧ ∃ ms : List Int, ms.Pairwise (· ≤ ·) ∧ ms.length ≤ 1300 ∧ (∀ z, z ∈ ms ↔ z ∈ marksOf 6 (lg.map (·.1))) ∧ L = joined (fitsP R lg) (tiles none ms)) ∧ s' = s := by
  obtain ⟨nm, hf⟩ := hf
  refine callN_wc hf rfl ?_
  unfold fitsB
  kd_adr
  refine c_cons (c_setn (e_bi (es_cons (e_frz (f_comp (i_seq (e_nm ⟨_, rfl, _, rfl, ?_⟩)))))))
  refine comp_map (f := fun p : Int × Bool => D.tup [.int p.1, .bl p.2]) (xs := lg) (g := fun p => D.int p.1) (fun p _ => ⟨_, rfl, e_sub (e_nm ⟨_, rfl, e_int ⟨_, rfl, rfl, rfl⟩⟩)⟩) ?_
  refine es_nil ⟨_, rfl, ?_⟩
  kst_mem
  refine c_cons (c_setn (e_bi (es_cons (e_frz (f_comp (i_seq (e_nm ⟨_, rfl, _, rfl, ?_⟩)))))))
  refine comp_map (f := fun p : Int × Bool => D.tup [.int p.1, .bl p.2]) (xs := lg) (g := fun p => D.bl p.2) (fun p _ => ⟨_, rfl, e_sub (e_nm ⟨_, rfl, e_int ⟨_, rfl, rfl, rfl⟩⟩)⟩) ?_
  refine es_nil ⟨_, rfl, ?_⟩
  kst_mem
  have e1 : lg.map (fun p => D.int p.1) = (lg.map (·.1)).map D.int := by rw [List.map_map]; rfl
  have e2 : lg.map (fun p => D.bl p.2) = (lg.map (·.2)).map D.bl := by rw [List.map_map]; rfl
  rw [e1, e2]
  refine c_cons (c_ret (e_call (es_cons (e_frz (f_comp (i_seq (e_call (es_cons (e_nm ⟨_, rfl, es_nil ?_⟩)))))))))
  refine (stretches_wp (k := k + 3) w.hmg w.hio w.hsr w.hgl w.hW hl).mono fun d s2 ⟨⟨ms, ed, h1, h2, h3⟩, e2⟩ => ?_
  subst ed e2
  refine ⟨_, rfl, ?_⟩
  refine comp_filter (f := Rg.d) (g := Rg.d) (p := fun r => fitsP R lg (oneOf r)) (xs := tiles none ms) (fun r hr => ⟨_, rfl, ts_one (t_cmp (e_callK (es_cons (e_nm ⟨_, rfl, es_cons (e_nm ⟨_, rfl, es_nil (e_call (es_cons (e_nm ⟨_, rfl, es_nil ?_⟩)))⟩)⟩)))), fun _ => e_nm ⟨_, rfl, rfl, rfl⟩⟩) ?_
  · refine (one_of_wp (k := k + 5) w.hon).mono fun d s3 ⟨e1, e2⟩ => ?_
    subst e1 e2
    refine (w.toHearP.answers (k := k) w.han hR (by rw [List.length_map]; omega)).mono fun d s4 ⟨e1, e2⟩ => ?_
    subst e1 e2
    exact e_nm ⟨_, rfl, _, bls_cmp _ _, rfl, rfl⟩
  refine es_nil ?_
  have hfl : ((tiles none ms).filter fun r => fitsP R lg (oneOf r)).length ≤ 5000 := by
    have h4 := List.length_filter_le (fun r => fitsP R lg (oneOf r)) (tiles none ms)
    have h5 := tiles_len ms none
    omega
  refine (joined_wp (k := k + 5) w.hjo ((tile_mids (tiles_tile ms none)).sublist List.filter_sublist) hfl).mono fun d s5 ⟨e1, e2⟩ => ?_
  subst e1 e2
  exact ⟨⟨_, rfl, fits_can hR (by decide) h1 h3, ms, h1, h2, h3, rfl⟩, rfl⟩
end
end Fw
namespace Fw
open PySem
/-! ## the law's ranges of a log -/
def l_spotsB : Cs := (.cons (.own 1 (.disp .nil)) (.cons (.fors (.nm 2) (.seq (.nm 0)) (.cons (.ext 1 (.frz (.comp (.nm 6) (.range2 (.un .USub (.int 13)) (.int 14)) .nil (.bi .int (.cons (.bin .Add (.nm 2) (.nm 6)) .nil)) [6]))) .nil)) (.cons (.par [4, 5] [(.o (.disp .nil)), (.v .non)]) (.cons (.frz 1) (.cons (.fors (.nm 3) (.seq (.frz (.sorted (.frz (.comp (.nm 3) (.seq (.nm 1)) .nil (.bi .int (.cons (.nm 3) .nil)) [3]))))) (.cons (.ifs (.cmp .Is (.nm 5) .non) (.cons (.app 4 (.tup (.cons .non (.cons (.bin .Sub (.nm 3) (.int 1)) (.cons (.bin .Sub (.nm 3) (.int 1)) .nil))))) .nil) (.cons (.ifs (.cmp .Gt (.nm 3) (.bin .Add (.nm 5) (.int 1))) (.cons (.app 4 (.tup (.cons (.bin .Add (.nm 5) (.int 1)) (.cons (.bin .Sub (.nm 3) (.int 1)) (.cons (.bin .Add (.nm 5) (.int 1)) .nil))))) .nil) .nil) .nil)) (.cons (.ifs (.or (.cons (.cmp .Is (.nm 5) .non) (.cons (.cmp .Gt (.nm 3) (.nm 5)) .nil))) (.cons (.app 4 (.tup (.cons (.nm 3) (.cons (.nm 3) (.cons (.nm 3) .nil))))) (.cons (.set (.nm 5) (.nm 3)) .nil)) .nil) .nil))) (.cons (.ret (.frz (.cat (.pk 4) (.frz (.disp (.cons (.tup (.cons (.ite (.cmp .Is (.nm 5) .non) .non (.bin .Add (.nm 5) (.int 1))) (.cons .non (.cons (.ite (.cmp .Is (.nm 5) .non) (.int 0) (.bin .Add (.nm 5) (.int 1))) .nil)))) .nil)))))) .nil))))))
def l_log_fitsB (wa : Nat) : Cs := (.cons (.ret (.cmp .Eq (.sub (.call wa (.cons (.nm 0) (.cons (.nm 2) (.cons (.frz (.comp (.nm 3) (.seq (.nm 1)) .nil (.sub (.nm 3) (.int 0)) [3])) .nil)))) (.int 0)) (.bi .tuple (.cons (.frz (.comp (.nm 3) (.seq (.nm 1)) .nil (.sub (.nm 3) (.int 1)) [3])) .nil)))) .nil)
def l_fitsB (sp lf : Nat) : Cs := (.cons (.own 2 (.disp .nil)) (.cons (.fors (.tup (.cons (.nm 3) (.cons (.nm 4) (.cons (.nm 5) .nil)))) (.seq (.call sp (.cons (.frz (.comp (.nm 6) (.seq (.nm 1)) .nil (.sub (.nm 6) (.int 0)) [6])) .nil))) (.cons (.ifs (.val (.call lf (.cons (.nm 0) (.cons (.nm 1) (.cons (.nm 5) .nil))))) (.cons (.ifs (.and (.cons (.cmp .NotEq (.pk 2) (.frz (.disp .nil))) (.cons (.cmp .IsNot (.nm 3) .non) (.cons (.cmp .Eq (.sub (.sub (.pk 2) (.un .USub (.int 1))) (.int 1)) (.bin .Sub (.nm 3) (.int 1))) .nil)))) (.cons (.store 2 (.un .USub (.int 1)) (.tup (.cons (.sub (.sub (.pk 2) (.un .USub (.int 1))) (.int 0)) (.cons (.nm 4) .nil)))) .nil) (.cons (.app 2 (.tup (.cons (.nm 3) (.cons (.nm 4) .nil)))) .nil)) .nil) .nil) .nil)) (.cons (.ret (.bi .tuple (.cons (.pk 2) .nil))) .nil)))
/-- a tile, some number of it -/
def spotD (r : Rg) : D := .tup [ob r.1, ob r.2, .int (oneOf r)]
theorem ints_of : ∀ ns : List Int, intsD (ns.map D.int) = some ns
  | [] => rfl
  | n :: ns => by simp [intsD, ints_of ns]
section
variable {pg : Pg} {k m n m' n' : Nat} {s : S} {R : Rc} {li co st re he : Nat}
theorem spots_wp {f : Nat} (hf : ∃ nm, pg.fns[f]? = some ⟨nm, 7, 1, l_spotsB⟩) {ns : List Int} (hl : ns.length ≤ 100) :
    (callN pg (k + 1) f [.lst (ns.map D.int)] s).wp fun d s' => (∃ ms : List Int, d = .lst ((tiles none ms).map spotD) ∧ ms.Pairwise (· ≤ ·) ∧ ms.length ≤ 2700 ∧ ∀ z, z ∈ ms ↔ z ∈ marksOf 13 ns) ∧ s' = s := by
  obtain ⟨nm, hf⟩ := hf
  refine callN_wc hf rfl ?_
  unfold l_spotsB
  kd_adr
  refine c_cons ?_
  kd_mem
  kst_mem
  have hr : rngD (-13) 14 = (([-13, -12, -11, -10, -9, -8, -7, -6, -5, -4, -3, -2, -1, 0, 1, 2, 3, 4, 5, 6, 7, 8, 9, 10, 11, 12, 13] : List Int)).map D.int := by unfold rngD; rfl
  refine c_seq (fun env s' => s' = s ∧ ∃ (mk : List Int) (a2 a6 : Option Sl), mk.length = 27 * ns.length ∧ (∀ z, z ∈ mk ↔ z ∈ marksOf 13 ns) ∧ env = [some (.val (.lst (ns.map D.int))), some (.own (mk.map D.int)), a2, none, none, none, a6]) ?_ ?_
  · refine c_for (i_seq (e_nm ⟨_, rfl, _, rfl, ?_⟩))
    refine for_map (f := D.int) (xs := ns) (fun i env s' => s' = s ∧ ∃ (mk : List Int) (a2 a6 : Option Sl), mk.length = 27 * i ∧ (∀ z, z ∈ mk ↔ z ∈ marksOf 13 (ns.take i)) ∧ env = [some (.val (.lst (ns.map D.int))), some (.own (mk.map D.int)), a2, none, none, none, a6]) ⟨rfl, [], _, _, rfl, by simp [marksOf], rfl⟩ ?_ ?_
    · rintro i z env s' hx ⟨rfl, mk, a2, a6, h1, h2, rfl⟩
      have hi : i < ns.length := (List.getElem?_eq_some_iff.mp hx).1
      have htk : ns.take (i + 1) = ns.take i ++ [z] := by rw [List.take_add_one, hx]; rfl
      refine ⟨_, rfl, ?_⟩
      kst_mem
      refine c_cons (c_ext (e_frz (f_comp (i_range2 (e_un (e_int ⟨_, rfl, e_int (rng_wp (by omega) (by omega) ?_)⟩))))))
      rw [hr]
      refine comp_map (f := D.int) (g := fun j => D.int (z + j)) (fun j _ => ⟨_, rfl, ?_⟩) ?_
      · kd_mem
        exact ⟨rfl, rfl⟩
      generalize hM : ([-13, -12, -11, -10, -9, -8, -7, -6, -5, -4, -3, -2, -1, 0, 1, 2, 3, 4, 5, 6, 7, 8, 9, 10, 11, 12, 13] : List Int) = M
      have hMl : M.length = 27 := by rw [← hM]; rfl
      have hMm : ∀ j, j ∈ M ↔ -13 ≤ j ∧ j ≤ 13 := fun j => by
        rw [← hM]
        simp only [List.mem_cons, List.not_mem_nil, or_false]
        omega
      have e1 : M.map (fun j => D.int (z + j)) = (M.map fun j => z + j).map D.int := by rw [List.map_map]; rfl
      rw [e1]
      refine ⟨_, _, rfl, rfl, by simp only [List.length_map, lim]; omega, ?_⟩
      kst_mem
      kd_mem
      refine ⟨rfl, mk ++ M.map fun j => z + j, some (.val (.int z)), a6, by simp; omega, fun y => ?_, ?_⟩
      · rw [htk, List.mem_append, h2, marks_mem, marks_mem]
        constructor
        · rintro (⟨x, hx, h3⟩ | hy)
          · exact ⟨x, List.mem_append_left _ hx, h3⟩
          · obtain ⟨j, hj, rfl⟩ := List.mem_map.mp hy
            have := (hMm j).mp hj
            exact ⟨z, by simp, by omega, by omega⟩
        · rintro ⟨x, hx, h3, h4⟩
          rcases List.mem_append.mp hx with hx | hx
          · exact .inl ⟨x, hx, h3, h4⟩
          · simp at hx
            subst hx
            exact .inr (List.mem_map.mpr ⟨y - x, (hMm _).mpr (by omega), by omega⟩)
      · rw [List.map_append]
    · rintro env s' ⟨rfl, mk, a2, a6, h1, h2, rfl⟩
      rw [List.take_length] at h2
      exact ⟨rfl, mk, a2, a6, h1, h2, rfl⟩
  rintro env s' ⟨rfl, mk, a2, a6, h1, h2, rfl⟩
  refine c_cons ?_
  kd_mem
  simp only [setAll]
  kst_mem
  refine c_cons (c_frz ⟨_, rfl, ?_⟩)
  kst_mem
  have hms : (srtI mk).Pairwise (· ≤ ·) := srtI_sorted mk
  have hmm : ∀ z, z ∈ srtI mk ↔ z ∈ mk := fun z => (srtI_perm mk).mem_iff
  have hml : (srtI mk).length = mk.length := (srtI_perm mk).length_eq
  generalize hM : srtI mk = ms at hms hmm hml
  refine c_seq (fun env s2 => s2 = s' ∧ ∃ (found : List Rg) (lo : Option Int) (a3 : Option Sl), found ++ [(lo, none)] = tiles none ms ∧ env = [some (.val (.lst (ns.map D.int))), some (.val (.lst (mk.map D.int))), a2, a3, some (.own (found.map spotD)), some (.val (ob (lo.map (· - 1)))), a6]) ?_ ?_
  · refine c_for (i_seq (e_frz (f_sorted (e_frz (f_comp (i_seq (e_nm ⟨_, rfl, _, rfl, ?_⟩)))))))
    refine comp_map (f := D.int) (g := D.int) (xs := mk) (fun j _ => ⟨_, rfl, ?_⟩) ?_
    · kd_mem
      exact ⟨rfl, rfl⟩
    refine ⟨ms.map D.int, by show (intsD (mk.map D.int)).map _ = _; rw [ints_of, Option.map_some, hM], _, rfl, ?_⟩
    refine for_map (f := D.int) (xs := ms) (fun i env s3 => s3 = s' ∧ ∃ (found : List Rg) (lo : Option Int) (a3 : Option Sl), found ++ tiles lo (ms.drop i) = tiles none ms ∧ found.length ≤ 2 * i ∧ env = [some (.val (.lst (ns.map D.int))), some (.val (.lst (mk.map D.int))), a2, a3, some (.own (found.map spotD)), some (.val (ob (lo.map (· - 1)))), a6]) ⟨rfl, [], none, _, rfl, by simp, rfl⟩ ?_ ?_
    · rintro i z env s3 hx ⟨rfl, found, lo, a3, h5, h6, rfl⟩
      have hi : i < ms.length := (List.getElem?_eq_some_iff.mp hx).1
      have hdr : ms.drop i = z :: ms.drop (i + 1) := by rw [List.drop_eq_getElem_cons hi]; congr 1; exact (List.getElem?_eq_some_iff.mp hx).2
      rw [hdr] at h5
      refine ⟨_, rfl, ?_⟩
      kst_mem
      cases lo with
      | none =>
        refine c_cons (c_ifs (t_cmp (e_nm ⟨_, rfl, e_non ⟨true, rfl, andT rfl ?_⟩⟩)))
        refine c_cons ?_
        kd_mem
        refine ⟨by simp only [List.length_map, lim]; omega, ?_⟩
        kst_mem
        kd_mem
        refine c_cons (c_ifs (t_or (t_cmp (e_nm ⟨_, rfl, e_non ⟨true, rfl, orT rfl ?_⟩⟩))))
        refine ⟨fun _ => ?_, (fun z => by cases z)⟩
        refine c_cons ?_
        kd_mem
        refine ⟨by simp only [List.length_append, List.length_map, List.length_cons, List.length_nil, lim]; omega, ?_⟩
        kst_mem
        refine c_cons ?_
        kd_mem
        refine ⟨rfl, found ++ [(none, some (z - 1)), (some z, some z)], some (z + 1), some (.val (.int z)), ?_, by simp; omega, ?_⟩
        · rw [← h5, List.append_assoc]; rfl
        · have e9 : z + 1 - 1 = z := by omega
          simp only [List.map_append, List.map_cons, List.map_nil, Option.map_some, e9, List.append_assoc, List.cons_append, List.nil_append]
          rfl
      | some l =>
        have e8 : l - 1 + 1 = l := by omega
        refine c_cons (c_ifs (t_cmp (e_nm ⟨_, rfl, e_non ⟨false, rfl, andF rfl ?_⟩⟩)))
        refine c_seq (fun env s4 => s4 = s3 ∧ ∃ (found2 : List Rg), found2.length ≤ found.length + 1 ∧ (z < l → found2 = found) ∧ (l ≤ z → found2 ++ (some z, some z) :: tiles (some (z + 1)) (ms.drop (i + 1)) = tiles none ms) ∧ env = [some (.val (.lst (ns.map D.int))), some (.val (.lst (mk.map D.int))), a2, some (.val (.int z)), some (.own (found2.map spotD)), some (.val (.int (l - 1))), a6]) ?_ ?_
        · refine c_ifs (t_cmp (e_nm ⟨_, rfl, e_bin (e_nm ⟨_, rfl, e_int ⟨_, rfl, _, rfl, ?_⟩⟩)⟩))
          refine andD (fun hlt => ?_) (fun hlt => ?_)
          · have hlt : l - 1 + 1 < z := hlt
            refine c_cons ?_
            kd_mem
            refine ⟨by simp only [List.length_map, lim]; omega, ?_⟩
            kst_mem
            kd_mem
            refine ⟨rfl, found ++ [(some l, some (z - 1))], by simp, fun h => by omega, fun _ => ?_, ?_⟩
            · rw [← h5, List.append_assoc]
              conv => rhs; unfold tiles
              simp only
              rw [if_neg (by omega), if_pos (by omega)]
              rfl
            · rw [e8]
              simp only [List.map_append, List.map_cons, List.map_nil]
              rfl
          · have hlt : ¬ (l - 1 + 1 < z) := hlt
            kd_mem
            refine ⟨rfl, found, by omega, fun _ => rfl, fun hle => ?_, rfl⟩
            rw [← h5]
            conv => rhs; unfold tiles
            simp only
            rw [if_neg (by omega), if_neg (by omega)]
        rintro env s4 ⟨rfl, found2, h7, h8, h9, rfl⟩
        kd_mem
        refine c_cons (c_ifs (t_or (t_cmp (e_nm ⟨_, rfl, e_non ⟨false, rfl, orF rfl ?_⟩⟩))))
        refine t_or (t_cmp (e_nm ⟨_, rfl, e_nm ⟨_, rfl, decide (l - 1 < z), rfl, ?_⟩⟩))
        refine orD (fun hlt => ?_) (fun hlt => ?_)
        · refine t_or0 ⟨(fun z => by cases z), fun _ => ?_⟩
          kd_mem
          kd_mem
          refine ⟨rfl, found, some l, some (.val (.int z)), ?_, by omega, ?_⟩
          · rw [← h5]
            conv => rhs; unfold tiles
            simp only
            rw [if_pos (by omega)]
          · rw [h8 (by omega)]; rfl
        · refine ⟨fun _ => ?_, (fun z => by cases z)⟩
          refine c_cons ?_
          kd_mem
          refine ⟨by simp only [List.length_map, lim]; omega, ?_⟩
          kst_mem
          refine c_cons ?_
          kd_mem
          refine ⟨rfl, found2 ++ [(some z, some z)], some (z + 1), some (.val (.int z)), ?_, by simp; omega, ?_⟩
          · rw [← h9 (by omega), List.append_assoc]; rfl
          · have e9 : z + 1 - 1 = z := by omega
            simp only [List.map_append, List.map_cons, List.map_nil, Option.map_some, e9]
            rfl
    · rintro env s3 ⟨rfl, found, lo, a3, h5, h6, rfl⟩
      rw [List.drop_length] at h5
      exact ⟨rfl, found, lo, a3, h5, rfl⟩
  rintro env s2 ⟨rfl, found, lo, a3, h5, rfl⟩
  have hlen : found.length + 1 ≤ 1000000 := by
    have h7 := congrArg List.length h5
    have h8 := tiles_len ms none
    simp at h7
    omega
  refine c_cons (c_ret (e_frz (f_cat (e_pk ⟨_, rfl, e_frz (f_disp (es_cons (e_tup (es_cons ?_))))⟩))))
  have hfin : ∀ (x y : D), x = ob lo → y = .int (oneOf (lo, none)) → found.map spotD ++ [.tup [x, .non, y]] = (tiles none ms).map spotD := fun x y e1 e2 => by
    rw [← h5, List.map_append, e1, e2]; rfl
  cases lo with
  | none =>
    refine e_ite (t_cmp (e_nm ⟨_, rfl, e_non ⟨true, rfl, andT rfl ?_⟩⟩))
    refine e_non (es_cons (e_non (es_cons (e_ite (t_cmp (e_nm ⟨_, rfl, e_non ⟨true, rfl, andT rfl ?_⟩⟩))))))
    refine e_int (es_nil (es_nil ⟨_, _, rfl, rfl, by simp only [List.length_map, List.length_cons, List.length_nil, lim]; omega, ?_⟩))
    exact ⟨⟨ms, congrArg D.lst (hfin .non (.int 0) rfl rfl), hms, by omega, fun z => (hmm z).trans (h2 z)⟩, rfl⟩
  | some l =>
    have e8 : l - 1 + 1 = l := by omega
    refine e_ite (t_cmp (e_nm ⟨_, rfl, e_non ⟨false, rfl, andF rfl ?_⟩⟩))
    refine e_bin (e_nm ⟨_, rfl, e_int ⟨_, rfl, es_cons (e_non (es_cons (e_ite (t_cmp (e_nm ⟨_, rfl, e_non ⟨false, rfl, andF rfl ?_⟩⟩)))))⟩⟩)
    refine e_bin (e_nm ⟨_, rfl, e_int ⟨_, rfl, es_nil (es_nil ⟨_, _, rfl, rfl, by simp only [List.length_map, List.length_cons, List.length_nil, lim]; omega, ?_⟩)⟩⟩)
    exact ⟨⟨ms, congrArg D.lst (hfin (.int (l - 1 + 1)) (.int (l - 1 + 1)) (by rw [e8]; rfl) (by rw [e8]; rfl)), hms, by omega, fun z => (hmm z).trans (h2 z)⟩, rfl⟩
theorem HearL.walkLst (w : HearL pg li co st re he) {f : Nat} (hf : ∃ nm, pg.fns[f]? = some ⟨nm, 7, 3, l_walkB he⟩) (hR : R.ok m n) (hm : n ≤ 1000) {ns : List Int} (hn : ns.length ≤ 100000) {o : Int} : (callN pg (k + 5) f [R.d, .int o, .lst (ns.map D.int)] s).wp fun d s' => d = wD (walkF R (beg o) ns) ∧ s' = s := by
  obtain ⟨nm, hf⟩ := hf
  refine callN_wc hf rfl ?_
  unfold l_walkB
  kd_adr
  refine c_cons ?_
  kd_mem
  simp only [setAll]
  kst_mem
  refine c_cons ?_
  kd_mem
  refine for_map (f := D.int) (xs := ns) (fun i env s'' => s'' = s ∧ ∃ a5 a6, env = [some (.val R.d), some (.val (.int o)), some (.val (.lst (ns.map D.int))), a5, some (.val (walkF R (beg o) (ns.take i)).2.d), some (.own ((walkF R (beg o) (ns.take i)).1.map D.bl)), a6]) ⟨rfl, _, _, rfl⟩ ?_ ?_
  · rintro i z env s'' hz ⟨rfl, a5, a6, rfl⟩
    refine ⟨_, rfl, ?_⟩
    kst_mem
    refine c_cons ?_
    kd_mem
    refine (w.heard hR hm (walkF_ok hR _ (beg_ok hR o)).1).mono fun d s' ⟨e1, e2⟩ => ?_
    subst e1 e2
    kd_mem
    kst_mem
    refine c_cons ?_
    kd_mem
    have hl : i < ns.length := (List.getElem?_eq_some_iff.mp hz).1
    refine ⟨by simp only [List.length_map, walkF_len, List.length_take, lim]; omega, ?_⟩
    refine ⟨rfl, some (.val (.int z)), some (.val (.bl (hearF R (walkF R (beg o) (ns.take i)).2 z).1)), ?_⟩
    rw [walk_take hz]
    simp only [List.map_append, List.map_cons, List.map_nil]
    rfl
  · rintro env s'' ⟨rfl, a5, a6, rfl⟩
    rw [List.take_length]
    ksw_less
    exact ⟨rfl, rfl⟩
theorem log_fits_wp (w : HearL pg li co st re he) {wa f : Nat} (hwa : ∃ nm, pg.fns[wa]? = some ⟨nm, 7, 3, l_walkB he⟩) (hf : ∃ nm, pg.fns[f]? = some ⟨nm, 4, 3, l_log_fitsB wa⟩) (hR : R.ok m n) (hm : n ≤ 1000) {lg : Lg} (hl : lg.length ≤ 100) {o : Int} :
    (callN pg (k + 6) f [R.d, lg.d, .int o] s).wp fun d s' => d = .bl (fitsP R lg o) ∧ s' = s := by
  obtain ⟨nm, hf⟩ := hf
  refine callN_wc hf rfl ?_
  unfold l_log_fitsB
  kd_adr
  have e1 : lg.map (fun p => D.int p.1) = (lg.map (·.1)).map D.int := by rw [List.map_map]; rfl
  have e2 : lg.map (fun p => D.bl p.2) = (lg.map (·.2)).map D.bl := by rw [List.map_map]; rfl
  refine c_cons (c_ret (e_cmp (e_sub (e_call (es_cons (e_nm ⟨_, rfl, es_cons (e_nm ⟨_, rfl, es_cons (e_frz (f_comp (i_seq (e_nm ⟨_, rfl, _, rfl, ?_⟩))))⟩)⟩))))))
  refine comp_map (f := fun p : Int × Bool => D.tup [.int p.1, .bl p.2]) (xs := lg) (g := fun p => D.int p.1) (fun p _ => ⟨_, rfl, e_sub (e_nm ⟨_, rfl, e_int ⟨_, rfl, rfl, rfl⟩⟩)⟩) ?_
  rw [e1]
  refine es_nil ?_
  refine (w.walkLst (k := k) hwa hR hm (by rw [List.length_map]; omega)).mono fun d s2 ⟨e3, e4⟩ => ?_
  subst e3 e4
  refine e_int ⟨_, rfl, e_bi (es_cons (e_frz (f_comp (i_seq (e_nm ⟨_, rfl, _, rfl, ?_⟩)))))⟩
  refine comp_map (f := fun p : Int × Bool => D.tup [.int p.1, .bl p.2]) (xs := lg) (g := fun p => D.bl p.2) (fun p _ => ⟨_, rfl, e_sub (e_nm ⟨_, rfl, e_int ⟨_, rfl, rfl, rfl⟩⟩)⟩) ?_
  rw [e2]
  refine es_nil ⟨_, rfl, ?_⟩
  exact ⟨_, bls_cmp _ _, rfl, rfl⟩
theorem last_subL {rows : List Rg} {q : Rg} {s : S} (h : rows.getLast? = some q) : subS s (.lst (rows.map Rg.d)) (.int (-1)) = some q.d := by
  obtain ⟨init, rfl⟩ := List.getLast?_eq_some_iff.mp h
  rw [List.map_append]
  exact L2.atI_last (init.map Rg.d) q.d
structure FitsL (pg : Pg) (li co st re he wa sp lf : Nat) : Prop extends HearL pg li co st re he where
  hwa : ∃ nm, pg.fns[wa]? = some ⟨nm, 7, 3, l_walkB he⟩
  hsp : ∃ nm, pg.fns[sp]? = some ⟨nm, 7, 1, l_spotsB⟩
  hlf : ∃ nm, pg.fns[lf]? = some ⟨nm, 4, 3, l_log_fitsB wa⟩
theorem FitsL.fits {wa sp lf f : Nat} (w : FitsL pg li co st re he wa sp lf) (hf : ∃ nm, pg.fns[f]? = some ⟨nm, 7, 2, l_fitsB sp lf⟩) (hR : R.ok m n) (hm : n ≤ 1000) {lg : Lg} (hl : lg.length ≤ 100) :
    (callN pg (k + 7) f [R.d, lg.d] s).wp fun d s' => (∃ L : List Rg, d = .tup (L.map Rg.d) ∧ Can (fitsP R lg) L) ∧ s' = s := by
  obtain ⟨nm, hf⟩ := hf
  refine callN_wc hf rfl ?_
  unfold l_fitsB
  kd_adr
  refine c_cons ?_
  kd_mem
  kst_mem
  have e1 : lg.map (fun p => D.int p.1) = (lg.map (·.1)).map D.int := by rw [List.map_map]; rfl
  refine c_seq (fun env s' => s' = s ∧ ∃ (L : List Rg) (a3 a4 a5 a6 : Option Sl), Can (fitsP R lg) L ∧ env = [some (.val R.d), some (.val lg.d), some (.own (L.map Rg.d)), a3, a4, a5, a6]) ?_ ?_
  · refine c_for (i_seq (e_call (es_cons (e_frz (f_comp (i_seq (e_nm ⟨_, rfl, _, rfl, ?_⟩)))))))
    refine comp_map (f := fun p : Int × Bool => D.tup [.int p.1, .bl p.2]) (xs := lg) (g := fun p => D.int p.1) (fun p _ => ⟨_, rfl, e_sub (e_nm ⟨_, rfl, e_int ⟨_, rfl, rfl, rfl⟩⟩)⟩) ?_
    rw [e1]
    refine es_nil ?_
    refine (spots_wp (k := k + 5) w.hsp (by rw [List.length_map]; exact hl)).mono fun d s2 ⟨⟨ms, ed, h1, h2, h3⟩, e2⟩ => ?_
    subst ed e2
    refine ⟨_, rfl, ?_⟩
    have hcan := fits_can hR (by decide) h1 h3
    have htl : (tiles none ms).length ≤ 5500 := by have := tiles_len ms none; omega
    have hmd := tile_mids (tiles_tile ms none)
    unfold joined at hcan
    generalize hT : tiles none ms = T at *
    refine for_map (f := spotD) (xs := T) (fun i env s' => s' = s2 ∧ ∃ (rows : List Rg) (a3 a4 a5 a6 : Option Sl), rows = ((T.take i).filter fun r => fitsP R lg (oneOf r)).foldl joinF [] ∧ rows.length ≤ i ∧ (∀ q, rows.getLast? = some q → ∃ p ∈ T.take i, q.2 = p.2) ∧ env = [some (.val R.d), some (.val lg.d), some (.own (rows.map Rg.d)), a3, a4, a5, a6]) ⟨rfl, [], _, _, _, _, rfl, by simp, (fun q h => by cases h), rfl⟩ ?_ ?_
    · rintro i r env s' hx ⟨rfl, rows, a3, a4, a5, a6, h4, h5, h6, rfl⟩
      have hi : i < T.length := (List.getElem?_eq_some_iff.mp hx).1
      have htk : T.take (i + 1) = T.take i ++ [r] := by rw [List.take_add_one, hx]; rfl
      have hmid : ∀ p ∈ T.take i, p.2 ≠ none ∧ r.1 ≠ none := fun p hp => by
        have hm2 : (T.take (i + 1)).Pairwise fun a b => a.2 ≠ none ∧ b.1 ≠ none := hmd.sublist (List.take_sublist _ _)
        rw [htk, List.pairwise_append] at hm2
        exact hm2.2.2 p hp r (by simp)
      have hin : ∀ p ∈ T.take i, p ∈ T.take (i + 1) := fun p hp => by rw [htk]; exact List.mem_append_left _ hp
      obtain ⟨rl, rh⟩ := r
      refine ⟨_, rfl, ?_⟩
      kst_mem
      refine c_cons (c_ifs (t_val (e_call (es_cons (e_nm ⟨_, rfl, es_cons (e_nm ⟨_, rfl, es_cons (e_nm ⟨_, rfl, es_nil ?_⟩)⟩)⟩)))))
      refine (log_fits_wp (k := k) w.toHearL w.hwa w.hlf hR hm hl).mono fun d s3 ⟨e3, e4⟩ => ?_
      subst e3 e4
      refine ⟨_, rfl, ?_⟩
      cases hp : fitsP R lg (oneOf (rl, rh)) with
      | false =>
        refine ⟨(fun z => by cases z), fun _ => ?_⟩
        kd_mem
        refine ⟨rfl, rows, _, _, _, _, ?_, by omega, fun q hq => ?_, rfl⟩
        · rw [htk, List.filter_append, List.filter_cons_of_neg (by rw [hp]; simp), List.filter_nil, List.append_nil]; exact h4
        · obtain ⟨p, hp, e⟩ := h6 q hq
          exact ⟨p, hin p hp, e⟩
      | true =>
        refine ⟨fun _ => ?_, (fun z => by cases z)⟩
        have hnx : ((T.take (i + 1)).filter fun r => fitsP R lg (oneOf r)).foldl joinF [] = joinF rows (rl, rh) := by
          rw [htk, List.filter_append, List.filter_cons_of_pos (by simpa using hp), List.filter_nil, List.foldl_append, ← h4]; rfl
        refine c_seq (fun env s2 => s2 = s3 ∧ env = [some (.val R.d), some (.val lg.d), some (.own ((joinF rows (rl, rh)).map Rg.d)), some (.val (ob rl)), some (.val (ob rh)), some (.val (.int (oneOf (rl, rh)))), a6]) ?_ ?_
        · rcases List.eq_nil_or_concat rows with e | ⟨init, q, e⟩
          · subst e
            refine c_ifs (t_and (t_cmp (e_pk ⟨_, rfl, e_frz (f_disp (es_nil ⟨false, by decide +kernel, andF rfl ?_⟩))⟩)))
            refine ⟨(fun z => by cases z), fun _ => ?_⟩
            refine c_cons ?_
            kd_mem
            refine ⟨by decide, ?_⟩
            kst_mem
            kd_mem
            exact ⟨rfl, rfl⟩
          · rw [List.concat_eq_append] at e
            have hq : rows.getLast? = some q := by rw [e, List.getLast?_append]; rfl
            obtain ⟨p, hp1, hq2⟩ := h6 q hq
            obtain ⟨hp2, hr1⟩ := hmid p hp1
            rw [← hq2] at hp2
            obtain ⟨qh, hqh⟩ := Option.ne_none_iff_exists'.mp hp2
            obtain ⟨l, hl2⟩ := Option.ne_none_iff_exists'.mp hr1
            have hl2 : rl = some l := hl2
            subst hl2
            have hqd : q.d = .tup [ob q.1, .int qh] := by unfold Rg.d; rw [hqh]; rfl
            have hls : ∀ s, subS s (.lst (rows.map Rg.d)) (.int (-1)) = some (.tup [ob q.1, .int qh]) := fun s => by rw [last_subL hq, hqd]
            have hne : cmpop .NotEq (.lst (rows.map Rg.d)) (.lst []) = some true := by
              rw [e, List.map_append]
              cases init with
              | nil => rfl
              | cons x xs => rfl
            refine c_ifs (t_and (t_cmp (e_pk ⟨_, rfl, e_frz (f_disp (es_nil ⟨_, hne, andT rfl ?_⟩))⟩)))
            refine t_and (t_cmp (e_nm ⟨_, rfl, e_non ⟨true, rfl, andT rfl ?_⟩⟩))
            refine t_and (t_cmp (e_sub (e_sub (e_pk ⟨_, rfl, e_un (e_int ⟨_, rfl, _, hls _, e_int ⟨_, rfl, e_bin (e_nm ⟨_, rfl, e_int ⟨_, rfl, _, rfl, ?_⟩⟩)⟩⟩)⟩))))
            rw [eqv_int]
            have hj : joinF rows (some l, rh) = if qh = l - 1 then init ++ [(q.1, rh)] else rows ++ [(some l, rh)] := by
              unfold joinF
              rw [hq]
              simp only
              rw [hqh]
              by_cases hc : qh = l - 1
              · rw [if_pos hc, if_pos (by rw [hc]), e, List.dropLast_concat]
              · rw [if_neg hc, if_neg (fun z => hc (Option.some.inj z))]
            have hil : init.length ≤ 5500 := by rw [e] at h5; simp at h5; omega
            refine andD (fun hc => ?_) (fun hc => ?_)
            · rw [if_pos hc] at hj
              refine t_and0 ⟨fun _ => ?_, (fun z => by cases z)⟩
              refine c_cons (c_store (e_tup (es_cons (e_sub (e_sub (e_pk ⟨_, rfl, e_un (e_int ⟨_, rfl, _, hls _, e_int ⟨_, rfl, es_cons (e_nm ⟨_, rfl, es_nil ?_⟩)⟩⟩)⟩))))))
              refine e_un (e_int ⟨_, rfl, ?_⟩)
              refine s_own ⟨rows.map Rg.d, init.length, rfl, ?_, ?_⟩
              · rw [e]
                unfold L2.ixN
                simp
                omega
              · kst_mem
                kd_mem
                refine ⟨rfl, ?_⟩
                have : (rows.map Rg.d).set init.length (.tup [ob q.1, ob rh]) = (init ++ [(q.1, rh)]).map Rg.d := by
                  rw [e, List.map_append, List.map_append]
                  have : init.length = (init.map Rg.d).length := by simp
                  rw [this, List.set_append_right _ _ (Nat.le_refl _), Nat.sub_self]
                  rfl
                rw [hj, this]
            · rw [if_neg hc] at hj
              refine ⟨(fun z => by cases z), fun _ => ?_⟩
              refine c_cons ?_
              kd_mem
              refine ⟨by simp only [List.length_map, lim]; omega, ?_⟩
              kst_mem
              kd_mem
              refine ⟨rfl, ?_⟩
              rw [hj, List.map_append]
              rfl
        rintro env s2 ⟨rfl, rfl⟩
        kd_mem
        refine ⟨rfl, joinF rows (rl, rh), _, _, _, _, hnx.symm, by have := join_len rows (rl, rh); omega, fun q hq => ?_, rfl⟩
        obtain ⟨q', e1, e2⟩ := join_last rows (rl, rh)
        rw [e1] at hq
        cases hq
        exact ⟨(rl, rh), by rw [htk]; simp, e2⟩
    · rintro env s' ⟨rfl, rows, a3, a4, a5, a6, h4, h5, h6, rfl⟩
      rw [List.take_length] at h4
      rw [← h4] at hcan
      exact ⟨rfl, rows, a3, a4, a5, a6, hcan, rfl⟩
  rintro env s' ⟨rfl, L, a3, a4, a5, a6, hc, rfl⟩
  ksw_less
  exact ⟨⟨L, rfl, hc⟩, rfl⟩
end
end Fw
namespace Fw
open PySem
/-! ## the law's logs; how great the ends are -/
def l_logB (dip pick nu la wa : Nat) : Cs := (.cons (.set (.nm 3) (.call la (.cons (.nm 0) .nil))) (.cons (.set (.nm 4) (.call nu (.cons (.nm 0) (.cons (.nm 1) (.cons (.nm 3) (.cons (.nm 2) .nil)))))) (.cons (.own 5 (.listz (.nm 4) (.sub (.call wa (.cons (.nm 1) (.cons (.nm 3) (.cons (.nm 4) .nil)))) (.int 0)))) (.cons (.fors (.nm 6) (.range1 (.bin .Mult (.bi .int (.cons (.cmp .NotEq (.pk 5) (.frz (.disp .nil))) .nil)) (.bi .int (.cons (.cmp .Eq (.call dip (.cons (.nm 0) (.cons (.int 4) .nil))) (.int 0)) .nil)))) (.cons (.set (.nm 7) (.call dip (.cons (.nm 0) (.cons (.bi .len (.cons (.pk 5) .nil)) .nil)))) (.cons (.store 5 (.nm 7) (.call pick (.cons (.nm 0) (.cons (.frz (.disp (.cons (.tup (.cons (.sub (.sub (.pk 5) (.nm 7)) (.int 0)) (.cons (.not (.sub (.sub (.pk 5) (.nm 7)) (.int 1))) .nil))) (.cons (.tup (.cons (.bin .Add (.sub (.sub (.pk 5) (.nm 7)) (.int 0)) (.int 1)) (.cons (.sub (.sub (.pk 5) (.nm 7)) (.int 1)) .nil))) .nil)))) .nil)))) .nil))) (.cons (.ret (.bi .tuple (.cons (.pk 5) .nil))) .nil)))))
def pD (p : Int × Bool) : D := .tup [.int p.1, .bl p.2]
theorem Lg.d_eq (lg : Lg) : lg.d = .tup (lg.map pD) := rfl
theorem zip_pD : ∀ (ns : List Int) (bs : List Bool), zipD (ns.map D.int) (bs.map D.bl) = (ns.zip bs).map pD
  | [], _ => rfl
  | n :: ns, [] => rfl
  | n :: ns, b :: bs => by
    have := zip_pD ns bs
    simp only [zipD, List.map_cons, List.zipWith_cons_cons, List.zip_cons_cons] at this ⊢
    rw [this]; rfl
section
variable {pg : Pg} {k m n : Nat} {s : S} {R : Rc} {li co st re he : Nat}
theorem lawlog_wp {f dip pick nu la wa : Nat} (dr : Draw pg dip pick) (w : HearL pg li co st re he) (hnu : ∃ nm, pg.fns[nu]? = some ⟨nm, 9, 4, l_numbersB dip pick he⟩) (hla : ∃ nm, pg.fns[la]? = some ⟨nm, 1, 1, l_lastB pick⟩) (hwa : ∃ nm, pg.fns[wa]? = some ⟨nm, 7, 3, l_walkB he⟩)
    (hf : ∃ nm, pg.fns[f]? = some ⟨nm, 8, 3, l_logB dip pick nu la wa⟩) (hR : R.ok m n) (hm : n ≤ 1000) {mx : Int} (h1 : 0 ≤ mx) (h2 : mx ≤ 100) (hs : Spr s) :
    (callN pg (k + 6) f [.ref 0, R.d, .int mx] s).wp fun d s' => (∃ lg : Lg, d = lg.d ∧ lg.length ≤ mx.toNat ∧ ∀ p ∈ lg, -1000000000000000000000000000000000000000 < p.1 ∧ p.1 < 1000000000000000000000000000000000000000) ∧ Spr s' := by
  obtain ⟨nm, hf⟩ := hf
  refine callN_wc hf rfl ?_
  unfold l_logB
  kd_adr
  refine c_cons (c_setn (e_call (es_cons (e_nm ⟨_, rfl, es_nil ?_⟩))))
  refine (last_wp (k := k + 2) dr hla hs).mono fun d s ⟨⟨o, ed, ho⟩, hs⟩ => ?_
  subst ed
  kst_mem
  refine c_cons (c_setn (e_call (es_cons (e_nm ⟨_, rfl, es_cons (e_nm ⟨_, rfl, es_cons (e_nm ⟨_, rfl, es_cons (e_nm ⟨_, rfl, es_nil ?_⟩)⟩)⟩)⟩))))
  have ho2 : o.natAbs < 100000000000000000000000000000000000000 := ho
  refine (numbersC_wp (k := k) (b := 100000000000000000000000000000000000000) dr w hnu hR hm (by omega) h1 (by omega) (by omega) (by omega) hs).mono fun d s ⟨⟨ns, ed, hl, hb⟩, hs⟩ => ?_
  subst ed
  kst_mem
  refine c_cons (c_own (f_listz (e_nm ⟨_, rfl, e_sub (e_call (es_cons (e_nm ⟨_, rfl, es_cons (e_nm ⟨_, rfl, es_cons (e_nm ⟨_, rfl, es_nil ?_⟩)⟩)⟩)))⟩)))
  refine (w.walk (k := k) hwa hR hm (by omega)).mono fun d s' ⟨e1, e2⟩ => ?_
  subst e1 e2
  refine e_int ⟨_, rfl, _, _, rfl, rfl, by simp [walkF_len], ?_⟩
  rw [zip_pD]
  have hzl : (ns.zip (walkF R (beg o) ns).1).length = ns.length := by rw [List.length_zip, walkF_len, Nat.min_self]
  have hzb : ∀ p ∈ ns.zip (walkF R (beg o) ns).1, -200000000000000000000000000000000000000 < p.1 ∧ p.1 < 200000000000000000000000000000000000000 := fun p hp => by
    have := hb p.1 (List.of_mem_zip (a := p.1) (b := p.2) hp).1
    omega
  generalize hZ : ns.zip (walkF R (beg o) ns).1 = Z at hzl hzb
  kst_mem
  refine c_seq (fun env s2 => Spr s2 ∧ ∃ (lg : Lg) (a6 a7 : Option Sl), lg.length = Z.length ∧ (∀ p ∈ lg, -1000000000000000000000000000000000000000 < p.1 ∧ p.1 < 1000000000000000000000000000000000000000) ∧ env = [some (.val (.ref 0)), some (.val R.d), some (.val (.int mx)), some (.val (.int o)), some (.val (.tup (ns.map D.int))), some (.own (lg.map pD)), a6, a7]) ?_ ?_
  · have hne : cmpop .NotEq (.lst (Z.map pD)) (.lst []) = some (!Z.isEmpty) := by
      cases Z with
      | nil => decide +kernel
      | cons z Z => rfl
    refine c_for (i_range1 (e_bin (e_bi (es_cons (e_cmp (e_pk ⟨_, rfl, e_frz (f_disp (es_nil ⟨_, hne, es_nil ⟨_, rfl, e_bi (es_cons (e_cmp (e_call (es_cons (e_nm ⟨_, rfl, es_cons (e_int (es_nil ?_))⟩)))))⟩⟩))⟩))))))
    refine (dr.dip_wp (k := k + 4) hs (by decide) (by decide)).mono fun _ s ⟨⟨way, ei, w1, w2⟩, hs⟩ => ?_
    subst ei
    refine e_int ⟨_, rfl, es_nil ⟨_, rfl, ?_⟩⟩
    rw [eqv_int]
    obtain ⟨x, hx, hx1, hx2, hx3⟩ : ∃ x : Int, (if (!Z.isEmpty) = true then (1 : Int) else 0) * (if decide (way = 0) = true then (1 : Int) else 0) = x ∧ 0 ≤ x ∧ x ≤ 1 ∧ (0 < x → 0 < Z.length) := by
      refine ⟨_, rfl, ?_⟩
      cases Z with
      | nil => simp
      | cons z Z =>
        by_cases hw : way = 0 <;> simp [hw]
    refine ⟨.int x, ?_, ?_⟩
    · show guardB (mulOk _ _) _ = _
      rw [mulOk_l (by split <;> omega)]
      show some (D.int _) = _
      rw [← hx]
    refine rng_wp (by omega) (by omega) ?_
    refine for_rng (fun i env s2 => Spr s2 ∧ ∃ (lg : Lg) (a6 a7 : Option Sl), lg.length = Z.length ∧ (∀ p ∈ lg, -200000000000000000000000000000000000000 - i < p.1 ∧ p.1 < 200000000000000000000000000000000000000 + i) ∧ env = [some (.val (.ref 0)), some (.val R.d), some (.val (.int mx)), some (.val (.int o)), some (.val (.tup (ns.map D.int))), some (.own (lg.map pD)), a6, a7]) hx1 ⟨hs, Z, _, _, rfl, fun p hp => by have := hzb p hp; omega, rfl⟩ ?_ ?_
    · clear hs
      rintro i env s i1 i2 ⟨hs, lg, a6, a7, h3, h4, rfl⟩
      have hpos : 0 < lg.length := by rw [h3]; exact hx3 (by omega)
      refine ⟨_, rfl, ?_⟩
      kst_mem
      refine c_cons (c_setn (e_call (es_cons (e_nm ⟨_, rfl, es_cons (e_bi (es_cons (e_pk ⟨_, rfl, es_nil ⟨_, rfl, es_nil ?_⟩⟩)))⟩))))
      rw [List.length_map]
      refine (dr.dip_wp (k := k + 4) hs (by omega) (by omega)).mono fun _ s ⟨⟨j, ei, j1, j2⟩, hs⟩ => ?_
      subst ei
      kst_mem
      have hjl : j.toNat < lg.length := by omega
      obtain ⟨p, hp⟩ : ∃ p, lg[j.toNat]? = some p := ⟨_, List.getElem?_eq_getElem hjl⟩
      have hpm := List.mem_of_getElem? hp
      have hat : ∀ s, subS s (.lst (lg.map pD)) (.int j) = some (.tup [.int p.1, .bl p.2]) := fun s => by
        show L2.atI (lg.map pD) j = _
        unfold L2.atI L2.ixN
        rw [if_pos j1, if_pos (by rw [List.length_map]; omega)]
        show (lg.map pD)[j.toNat]? = _
        rw [List.getElem?_map, hp]; rfl
      refine c_cons (c_store (e_call (es_cons (e_nm ⟨_, rfl, es_cons (e_frz (f_disp (es_cons (e_tup (es_cons ?_)))))⟩))))
      refine e_sub (e_sub (e_pk ⟨_, rfl, e_nm ⟨_, rfl, _, hat _, e_int ⟨_, rfl, es_cons (e_not (e_sub (e_sub (e_pk ⟨_, rfl, e_nm ⟨_, rfl, _, hat _, e_int ⟨_, rfl, _, rfl, es_nil ?_⟩⟩⟩))))⟩⟩⟩))
      refine es_cons (e_tup (es_cons (e_bin (e_sub (e_sub (e_pk ⟨_, rfl, e_nm ⟨_, rfl, _, hat _, e_int ⟨_, rfl, e_int ⟨_, rfl, es_cons (e_sub (e_sub (e_pk ⟨_, rfl, e_nm ⟨_, rfl, _, hat _, e_int ⟨_, rfl, es_nil (es_nil (es_nil ?_))⟩⟩⟩)))⟩⟩⟩⟩))))))
      refine (dr.pick_wp (k := k + 3) hs (by simp) (by simp [lim])).mono fun d s ⟨hd, hs⟩ => ?_
      have hq : ∃ q : Int × Bool, d = pD q ∧ (q.1 = p.1 ∨ q.1 = p.1 + 1) := by
        simp only [List.mem_cons, List.not_mem_nil, or_false] at hd
        rcases hd with rfl | rfl
        · exact ⟨(p.1, !p.2), rfl, .inl rfl⟩
        · exact ⟨(p.1 + 1, p.2), rfl, .inr rfl⟩
      obtain ⟨q, rfl, hq⟩ := hq
      refine e_nm ⟨_, rfl, s_own ⟨lg.map pD, j.toNat, rfl, ?_, ?_⟩⟩
      · unfold L2.ixN
        rw [if_pos j1, if_pos (by rw [List.length_map]; omega)]
      kst_mem
      kd_mem
      refine ⟨hs, lg.set j.toNat q, some (.val (.int i)), some (.val (.int j)), by rw [List.length_set]; exact h3, fun r hr => ?_, ?_⟩
      · rcases List.mem_or_eq_of_mem_set hr with hr | rfl
        · have := h4 r hr; omega
        · have := h4 p hpm
          rcases hq with e | e <;> omega
      · rw [List.map_set]
    · rintro env s2 ⟨hs, lg, a6, a7, h3, h4, rfl⟩
      exact ⟨hs, lg, a6, a7, h3, fun p hp => by have := h4 p hp; omega, rfl⟩
  clear hs
  rintro env s2 ⟨hs, lg, a6, a7, h3, h4, rfl⟩
  ksw_less
  exact ⟨⟨lg, rfl, by omega, h4⟩, hs⟩
end
/-- a log's numbers are not too great -/
def LgB (lg : Lg) : Prop := ∀ p ∈ lg, -1000000000000000000000000000000000000000 < p.1 ∧ p.1 < 1000000000000000000000000000000000000000
theorem LgB.sub {lg lg' : Lg} (h : LgB lg) (hs : lg'.Sublist lg) : LgB lg' := fun p hp => h p (hs.subset hp)
end Fw
namespace Fw
open PySem
/-! ## logs moved -/
end Fw
namespace Fw
open PySem
/-! ## whole logs: what is sure, ends, what is last behind -/
open Classical in
noncomputable def anyB (R : Rc) (lg : Lg) : Bool := decide (∃ o, fitsP R lg o = true)
theorem anyB_iff {R : Rc} {lg : Lg} : anyB R lg = true ↔ ∃ o, fitsP R lg o = true := by
  classical
  unfold anyB
  rw [decide_eq_true_iff]
theorem can_any {R : Rc} {lg : Lg} {L : List Rg} (c : Can (fitsP R lg) L) : cmpop .NotEq (.tup (L.map Rg.d)) (.tup []) = some (anyB R lg) := by
  show some (!(L.map Rg.d).isEmpty) = _
  congr 1
  cases L with
  | nil =>
    have : anyB R lg = false := by
      rw [← Bool.not_eq_true, anyB_iff]
      rintro ⟨o, h⟩
      obtain ⟨r, hr, _⟩ := (c.mem o).mp h
      cases hr
    rw [this]; rfl
  | cons r L =>
    have : anyB R lg = true := anyB_iff.mpr ⟨oneOf r, (c.mem _).mpr ⟨r, by simp, oneOf_in (c.ne r (by simp))⟩⟩
    rw [this]; rfl
theorem in_bls (b : Bool) (bs : List Bool) : cmpop .In (.bl b) (.lst (bs.map D.bl)) = some (bs.contains b) ∧ cmpop .NotIn (.bl b) (.lst (bs.map D.bl)) = some (!bs.contains b) := by
  have d1 : D.dats (bs.map D.bl) = true := dats_iff.mpr fun d hd => by obtain ⟨c, _, rfl⟩ := List.mem_map.mp hd; rfl
  have e0 : eqOk (.bl b) (.lst (bs.map D.bl)) = true := by
    show ((D.bl b).dat && (D.lst (bs.map D.bl)).dat && decide (min (D.bl b).py.depth (D.lst (bs.map D.bl)).py.depth ≤ 64)) = true
    simp only [D.dat, d1, D.py, PyData.depth]
    simp
  have e1 : ((bs.map D.bl).any fun z => z.eqv (.bl b)) = bs.contains b := by
    clear d1 e0
    induction bs with
    | nil => rfl
    | cons c bs ih =>
      rw [List.map_cons, List.any_cons, ih, eqv_bl, List.contains_cons]
      congr 1
      cases b <;> cases c <;> rfl
  constructor
  · show guardB _ _ = _
    rw [e0, e1]; rfl
  · show guardB _ _ = _
    rw [e0, e1]; rfl
/-! tiles hold every number -/
theorem tile_cover : ∀ {L : List Rg} {lo : Option Int}, Tile lo L → ∀ o : Int, (∀ l, lo = some l → l ≤ o) → ∃ r ∈ L, inR o r = true
  | [], _, h, _, _ => h.elim
  | [r], lo, h, o, ho => by
    have h : r = (lo, none) := h
    subst h
    exact ⟨(lo, none), by simp, inR_iff.mpr ⟨ho, fun h e => by cases e⟩⟩
  | r :: q :: t, lo, h, o, ho => by
    obtain ⟨h1, rfl, h2, h3⟩ := h
    by_cases hc : o ≤ h1
    · exact ⟨(lo, some h1), by simp, inR_iff.mpr ⟨ho, fun h e => by cases e; exact hc⟩⟩
    · obtain ⟨x, hx, hi⟩ := tile_cover h3 o (fun l e => by cases e; omega)
      exact ⟨x, List.mem_cons_of_mem _ hx, hi⟩
/-- what a number is answered behind a row -/
def ansF (R : Rc) (ns : List Int) (z : Int) (o : Int) : Bool := (hearF R (walkF R (beg o) ns).2 z).1
theorem fits_more {R : Rc} {lg : Lg} {z : Int} {b : Bool} {o : Int} : fitsP R (lg ++ [(z, b)]) o = (fitsP R lg o && decide (ansF R (lg.map (·.1)) z o = b)) := by
  unfold fitsP ansF
  rw [List.map_append, List.map_append, walkF_append]
  show decide ((walkF R (beg o) (lg.map (·.1))).1 ++ [(hearF R (walkF R (beg o) (lg.map (·.1))).2 z).1] = lg.map (·.2) ++ [b]) = _
  rw [Bool.eq_iff_iff]
  simp only [Bool.and_eq_true, decide_eq_true_eq]
  constructor
  · intro h
    have h2 := List.append_inj' h rfl
    exact ⟨h2.1, by simpa using h2.2⟩
  · rintro ⟨h1, h2⟩
    rw [h1, h2]
/-- what is told of a number that may be taken, may be not -/
def sureD (may may_not : Bool) : D := if may && may_not then .non else .bl may
/-- the numbers taken -/
def tks (lg : Lg) : List Int := (lg.filter (·.2)).map (·.1)
section
variable {pg : Pg} {k m n : Nat} {s : S} {R : Rc} {ro li co st he be wa an mg io sr on jo g fi : Nat}
end
section
variable {pg : Pg} {k m n : Nat} {s : S} {R : Rc} {li co st re he wa sp lf : Nat}
end
end Fw
namespace K46
open PySem Fw
theorem RV : Recv pg 16 17 18 19 20 21 22 := ⟨⟨⟨_, rfl⟩, ⟨_, rfl⟩⟩, ⟨_, rfl⟩, ⟨_, rfl⟩, ⟨_, rfl⟩, ⟨_, rfl⟩, ⟨_, rfl⟩⟩
theorem SL : StepL pg 23 24 25 := ⟨⟨_, rfl⟩, ⟨_, rfl⟩, ⟨_, rfl⟩⟩
theorem HL : HearL pg 23 24 25 26 27 := ⟨SL, ⟨_, rfl⟩, ⟨_, rfl⟩⟩
theorem HP : HearP pg 2 3 4 5 6 7 8 := ⟨⟨⟨_, rfl⟩, ⟨_, rfl⟩, ⟨_, rfl⟩, ⟨_, rfl⟩⟩, ⟨_, rfl⟩, ⟨_, rfl⟩, ⟨_, rfl⟩⟩
theorem FP : FitsP pg 2 3 4 5 6 7 8 9 0 1 10 11 12 0 := ⟨HP, ⟨_, rfl⟩, ⟨_, rfl⟩, ⟨_, rfl⟩, ⟨_, rfl⟩, ⟨_, rfl⟩, ⟨_, rfl⟩, rfl, by decide⟩
theorem FL : FitsL pg 23 24 25 26 27 28 31 32 := ⟨HL, ⟨_, rfl⟩, ⟨_, rfl⟩, ⟨_, rfl⟩⟩
/-- what is told of a number behind a log -/
def sureE (a b : Bool) : D := if a = false ∧ b = false then .str "no fit" else sureD a b
theorem sureE_repr (a b : Bool) : ∃ t, reprD (sureE a b) = some (.str t) := ⟨_, (show Vl 41 100 4 (sureE a b) by cases a <;> cases b <;> exact vlB_ok (by decide +kernel)).repr (by omega) (by omega) (by omega)⟩
section
variable {k m n : Nat} {s : S} {R : Rc} {lg : Lg} {z : Int}
theorem sure_we (hR : R.ok m n) (hl : lg.length ≤ 99) : (callN pg (k + 8) 14 [R.d, lg.d, .int z] s).we (fun d s' => d = sureE (anyB R (lg ++ [(z, true)])) (anyB R (lg ++ [(z, false)])) ∧ s' = s) (fun y s' => y = .ins "NoFit" [] [] ∧ .str "no fit" = sureE (anyB R (lg ++ [(z, true)])) (anyB R (lg ++ [(z, false)])) ∧ s' = s) := by
  have hadd : ∀ b : Bool, binop .Add lg.d (.tup [.tup [.int z, .bl b]]) = some (Lg.d (lg ++ [(z, b)])) := fun b => by
    show guardB (decide ((lg.map pD).length + 1 ≤ lim)) (some (D.tup (lg.map pD ++ [pD (z, b)]))) = some (Lg.d (lg ++ [(z, b)]))
    rw [decide_eq_true (by rw [List.length_map]; simp only [lim]; omega), Lg.d_eq, List.map_append]
    rfl
  have hfit : ∀ (b : Bool) (env : Fw.Env), (callN pg (k + 7) 13 [R.d, Lg.d (lg ++ [(z, b)])] s).wp fun x s2 => (evE pg.gl (callN pg (k + 7)) (E.tup Es.nil) env s2).wp fun y s3 => ∃ k, cmpop .NotEq x y = some k ∧ D.bl k = D.bl (anyB R (lg ++ [(z, b)])) ∧ s3 = s := fun b env => by
    have hll : (lg ++ [(z, b)]).length ≤ 100 := by simp; omega
    refine (FP.fits (k := k) (lg := lg ++ [(z, b)]) ⟨_, rfl⟩ hR hll).mono fun d s2 ⟨⟨L, ed, hc, _⟩, e2⟩ => ?_
    subst ed e2
    exact e_tup (es_nil ⟨_, can_any hc, rfl, rfl⟩)
  refine callN_we (k := k + 7) (nm := _) (nn := _) (np := _) (body := b_sure_of) rfl rfl ?_
  unfold b_sure_of
  kd_adr
  refine x_cons (wx_of (c_set (e_frz (f_comp (i_seq (e_tup (es_cons (e_bl (es_cons (e_bl (es_nil ⟨_, rfl, ?_⟩)))))))))))
  refine comp_map (f := D.bl) (g := fun b => D.bl (anyB R (lg ++ [(z, b)]))) (xs := [true, false]) (fun b _ => ⟨_, rfl, e_cmp (e_call (es_cons (e_nm ⟨_, rfl, es_cons (e_bin (e_nm ⟨_, rfl, e_tup (es_cons (e_tup (es_cons (e_nm ⟨_, rfl, es_cons (e_nm ⟨_, rfl, es_nil (es_nil ⟨_, hadd b, es_nil (hfit b _)⟩)⟩)⟩))))⟩))⟩)))⟩) ?_
  refine ⟨_, rfl, ?_⟩
  kst_mem
  generalize anyB R (lg ++ [(z, true)]) = b1
  generalize anyB R (lg ++ [(z, false)]) = b2
  refine x_cons (x_ifs (t_and (t_not (t_val (e_nm ⟨_, rfl, b1, rfl, ?_⟩)))))
  cases b1 with
  | true =>
    refine ⟨(fun z => by cases z), fun _ => ⟨(fun z => by cases z), fun _ => wx_of (c_nil ?_)⟩⟩
    refine x_cons (wx_of (c_ret (e_ite (t_and (t_val (e_nm ⟨_, rfl, true, rfl, fun _ => t_and (t_val (e_nm ⟨_, rfl, b2, rfl, ?_⟩)), (fun z => by cases z)⟩))))))
    cases b2 with
    | true => exact ⟨fun _ => t_and0 ⟨fun _ => e_non ⟨rfl, rfl⟩, (fun z => by cases z)⟩, (fun z => by cases z)⟩
    | false => exact ⟨(fun z => by cases z), fun _ => ⟨(fun z => by cases z), fun _ => e_nm ⟨_, rfl, rfl, rfl⟩⟩⟩
  | false =>
    refine ⟨fun _ => t_and (t_not (t_val (e_nm ⟨_, rfl, b2, rfl, ?_⟩))), (fun z => by cases z)⟩
    cases b2 with
    | true =>
      refine ⟨(fun z => by cases z), fun _ => ⟨(fun z => by cases z), fun _ => wx_of (c_nil ?_)⟩⟩
      dsimp only
      refine x_cons (wx_of (c_ret (e_ite (t_and (t_val (e_nm ⟨_, rfl, ?_⟩))))))
      refine ⟨false, rfl, ?_⟩
      exact ⟨(fun z => by cases z), fun _ => ⟨(fun z => by cases z), fun _ => e_nm ⟨_, rfl, rfl, rfl⟩⟩⟩
    | false => exact ⟨fun _ => t_and0 ⟨fun _ => x_cons (x_rais0 ⟨rfl, rfl, rfl⟩), (fun z => by cases z)⟩, (fun z => by cases z)⟩
theorem told_wp (hR : R.ok m n) (hl : lg.length ≤ 99) : (callN pg (k + 9) 35 [R.d, lg.d, .int z] s).wp fun d s' => d = sureE (anyB R (lg ++ [(z, true)])) (anyB R (lg ++ [(z, false)])) ∧ s' = s := by
  refine callN_wc (k := k + 8) (nm := _) (nn := _) (np := _) (body := b__law_told) rfl rfl ?_
  unfold b__law_told
  kd_adr
  refine c_cons (c_tryN (x_cons (x_ret (es_cons (e_nm ⟨_, rfl, es_cons (e_nm ⟨_, rfl, es_cons (e_nm ⟨_, rfl, es_nil ?_⟩)⟩)⟩)))))
  refine we_mono (sure_we (k := k) hR hl) (fun d s' h => h) fun y s' ⟨h1, h2, h3⟩ => ?_
  subst h1
  exact ⟨"NoFit", [], [], .str "no fit", rfl, rfl, h2, h3⟩
theorem due_wp (hR : R.ok m n) (hm : n ≤ 1000) (hl : lg.length ≤ 99) : (callN pg (k + 7) 34 [R.d, lg.d, .int z] s).wp fun d s' => d = sureE (anyB R (lg ++ [(z, true)])) (anyB R (lg ++ [(z, false)])) ∧ s' = s := by
  refine callN_wc (k := k + 6) (nm := _) (nn := _) (np := _) (body := b__law_due) rfl rfl ?_
  unfold b__law_due
  kd_adr
  refine c_seq (fun env s' => s' = s ∧ ∃ a8, env = [some (.val R.d), some (.val lg.d), some (.val (.int z)), some (.val (.lst ((lg.map (·.1)).map D.int))), some (.own []), none, none, none, a8]) ?_ ?_
  · refine c_par (p_v (e_frz (f_comp (i_seq (e_nm ⟨_, rfl, _, rfl, ?_⟩)))))
    refine comp_map (f := pD) (g := fun p => D.int p.1) (xs := lg) (fun p _ => ⟨_, rfl, e_sub (e_nm ⟨_, rfl, e_int ⟨_, rfl, rfl, rfl⟩⟩)⟩) ?_
    refine p_o (f_disp (es_nil (p_nil ⟨rfl, none, ?_⟩)))
    rw [List.map_map]; rfl
  rintro env s' ⟨rfl, a8, rfl⟩
  refine c_seq (fun env s1 => s1 = s' ∧ ∃ (bs : List Bool) (a5 a6 a7 : Option Sl), (∀ b, b ∈ bs ↔ anyB R (lg ++ [(z, b)]) = true) ∧ env = [some (.val R.d), some (.val lg.d), some (.val (.int z)), some (.val (.lst ((lg.map (·.1)).map D.int))), some (.own (bs.map D.bl)), a5, a6, a7, a8]) ?_ ?_
  · refine c_for (i_seq (e_call (es_cons (e_frz (f_cat (e_nm ⟨_, rfl, e_frz (f_disp (es_cons (e_nm ⟨_, rfl, es_nil ⟨_, _, rfl, rfl, ?_, es_nil ?_⟩⟩)))⟩))))))
    · simp only [List.length_map, List.length_cons, List.length_nil, lim]; omega
    have e1 : (lg.map (·.1)).map D.int ++ [.int z] = ((lg.map (·.1)) ++ [z]).map D.int := by rw [List.map_append]; rfl
    rw [e1]
    refine (spots_wp (k := k + 5) FL.hsp (by simp; omega)).mono fun d s2 ⟨⟨ms, ed, h1, h2, h3⟩, e2⟩ => ?_
    subst ed e2
    refine ⟨_, rfl, ?_⟩
    have hun : ∀ b, ∀ r ∈ tiles none ms, ∀ o, inR o r = true → fitsP R (lg ++ [(z, b)]) o = fitsP R (lg ++ [(z, b)]) (oneOf r) := fun b => fits_unif (w := 13) hR (by decide) h1 (fun y => by rw [h3, List.map_append]; rfl)
    have htl := tiles_tile ms none
    have hlen : (tiles none ms).length ≤ 5500 := by have := tiles_len ms none; omega
    generalize hT : tiles none ms = T at *
    refine for_map (f := spotD) (xs := T) (fun i env s' => s' = s2 ∧ ∃ (bs : List Bool) (a5 a6 a7 : Option Sl), bs = ((T.take i).filter fun r => fitsP R lg (oneOf r)).map (fun r => ansF R (lg.map (·.1)) z (oneOf r)) ∧ bs.length ≤ i ∧ env = [some (.val R.d), some (.val lg.d), some (.val (.int z)), some (.val (.lst ((lg.map (·.1)).map D.int))), some (.own (bs.map D.bl)), a5, a6, a7, a8]) ⟨rfl, [], _, _, _, rfl, by simp, rfl⟩ ?_ ?_
    · rintro i r env s' hx ⟨rfl, bs, a5, a6, a7, h4, h5, rfl⟩
      have hi : i < T.length := (List.getElem?_eq_some_iff.mp hx).1
      have htk : T.take (i + 1) = T.take i ++ [r] := by rw [List.take_add_one, hx]; rfl
      obtain ⟨rl, rh⟩ := r
      refine ⟨_, rfl, ?_⟩
      kst_mem
      refine c_cons (c_ifs (t_val (e_call (es_cons (e_nm ⟨_, rfl, es_cons (e_nm ⟨_, rfl, es_cons (e_nm ⟨_, rfl, es_nil ?_⟩)⟩)⟩)))))
      refine (log_fits_wp (k := k) HL FL.hwa FL.hlf hR hm (by omega)).mono fun d s3 ⟨e3, e4⟩ => ?_
      subst e3 e4
      refine ⟨_, rfl, ?_⟩
      cases hp : fitsP R lg (oneOf (rl, rh)) with
      | false =>
        refine ⟨(fun z => by cases z), fun _ => ?_⟩
        refine c_nil ?_
        refine ⟨rfl, bs, some (.val (Fw.ob rl)), some (.val (Fw.ob rh)), some (.val (.int (oneOf (rl, rh)))), ?_, by omega, rfl⟩
        rw [htk, List.filter_append, List.filter_cons_of_neg (by rw [hp]; simp), List.filter_nil, List.append_nil]; exact h4
      | true =>
        refine ⟨fun _ => ?_, (fun z => by cases z)⟩
        refine c_cons (c_app (e_sub (e_call (es_cons (e_nm ⟨_, rfl, es_cons (e_sub (e_call (es_cons (e_nm ⟨_, rfl, es_cons (e_nm ⟨_, rfl, es_cons (e_nm ⟨_, rfl, es_nil ?_⟩)⟩)⟩))))⟩)))))
        refine (HL.walkLst (k := k + 1) FL.hwa hR hm (by rw [List.length_map]; omega)).mono fun d s4 ⟨e3, e4⟩ => ?_
        subst e3 e4
        refine e_int ⟨_, rfl, es_cons (e_nm ⟨_, rfl, es_nil ?_⟩)⟩
        refine (HL.heard (k := k + 2) hR hm (walkF_ok hR _ (beg_ok hR _)).1).mono fun d s5 ⟨e3, e4⟩ => ?_
        subst e3 e4
        refine e_int ⟨_, rfl, _, rfl, by simp only [List.length_map, lim]; omega, ?_⟩
        kst_mem
        kd_mem
        refine ⟨rfl, bs ++ [ansF R (lg.map (·.1)) z (oneOf (rl, rh))], some (.val (Fw.ob rl)), some (.val (Fw.ob rh)), some (.val (.int (oneOf (rl, rh)))), ?_, by simp; omega, ?_⟩
        · rw [htk, List.filter_append, List.filter_cons_of_pos (by simpa using hp), List.filter_nil, List.map_append, ← h4]; rfl
        · rw [List.map_append]; rfl
    · rintro env s' ⟨rfl, bs, a5, a6, a7, h4, h5, rfl⟩
      rw [List.take_length] at h4
      refine ⟨rfl, bs, a5, a6, a7, fun b => ?_, rfl⟩
      rw [h4, anyB_iff]
      constructor
      · intro hb
        obtain ⟨r, hr, rfl⟩ := List.mem_map.mp hb
        obtain ⟨hr, hf⟩ := List.mem_filter.mp hr
        exact ⟨oneOf r, by rw [fits_more]; simpa using hf⟩
      · rintro ⟨o, ho⟩
        obtain ⟨r, hr, hi⟩ := tile_cover htl o (fun l e => by cases e)
        rw [hun b r hr o hi, fits_more, Bool.and_eq_true, decide_eq_true_eq] at ho
        exact List.mem_map.mpr ⟨r, List.mem_filter.mpr ⟨hr, ho.1⟩, ho.2⟩
  rintro env s1 ⟨rfl, bs, a5, a6, a7, hbs, rfl⟩
  have c1 : bs.contains true = anyB R (lg ++ [(z, true)]) := by rw [Bool.eq_iff_iff, List.contains_iff_mem, hbs]
  have c2 : bs.contains false = anyB R (lg ++ [(z, false)]) := by rw [Bool.eq_iff_iff, List.contains_iff_mem, hbs]
  have hnil : cmpop .Eq (.lst (bs.map D.bl)) (.lst []) = some bs.isEmpty := by
    rw [lst_nil_eq]; simp
  have get : ∀ b : Bool, (∀ c ∈ bs, c = b) → bs ≠ [] → ∀ s, subS s (.lst (bs.map D.bl)) (.int 0) = some (.bl b) := fun b h hn s => by
    cases bs with
    | nil => exact absurd rfl hn
    | cons c bs =>
      have := h c (by simp)
      subst this
      show L2.atI (D.bl c :: bs.map D.bl) ((0 : Nat) : Int) = _
      rw [atI_nat]; rfl
  refine c_cons (c_ifs (t_cmp (e_pk ⟨_, rfl, e_frz (f_disp (es_nil ⟨_, hnil, ?_⟩))⟩)))
  have all0 : bs = [] → anyB R (lg ++ [(z, true)]) = false ∧ anyB R (lg ++ [(z, false)]) = false := fun e => by rw [← c1, ← c2, e]; exact ⟨rfl, rfl⟩
  cases hE : bs.isEmpty with
  | true =>
    refine ⟨fun _ => c_cons (c_ret (e_str ?_)), (fun z => by cases z)⟩
    obtain ⟨q1, q2⟩ := all0 (List.isEmpty_iff.mp hE)
    rw [q1, q2]
    exact ⟨rfl, rfl⟩
  | false =>
    have hn : bs ≠ [] := fun e => by rw [e] at hE; cases hE
    refine ⟨(fun z => by cases z), fun _ => c_nil ?_⟩
    refine c_cons (c_ret (e_ite (t_or (t_cmp (e_bl (e_pk ⟨_, rfl, _, (in_bls _ _).2, ?_⟩))))))
    rw [c1]
    cases hb1 : anyB R (lg ++ [(z, true)]) with
    | false =>
      have hall : ∀ c ∈ bs, c = false := fun c hc => by
        cases c with
        | false => rfl
        | true => have := (hbs true).mp hc; rw [hb1] at this; cases this
      have hb2 : anyB R (lg ++ [(z, false)]) = true := by
        cases bs with
        | nil => exact absurd rfl hn
        | cons c bs' => have := hall c (by simp); subst this; exact (hbs false).mp (by simp)
      refine ⟨(fun z => by cases z), fun _ => ⟨fun _ => ?_, (fun z => by cases z)⟩⟩
      refine e_sub (e_pk ⟨_, rfl, e_int ⟨_, get false hall hn _, ?_, rfl⟩⟩)
      rw [hb2]; rfl
    | true =>
      refine ⟨fun _ => t_or (t_cmp (e_bl (e_pk ⟨_, rfl, _, (in_bls _ _).2, ?_⟩))), (fun z => by cases z)⟩
      rw [c2]
      cases hb2 : anyB R (lg ++ [(z, false)]) with
      | false =>
        have hall : ∀ c ∈ bs, c = true := fun c hc => by
          cases c with
          | true => rfl
          | false => have := (hbs false).mp hc; rw [hb2] at this; cases this
        refine ⟨(fun z => by cases z), fun _ => ⟨fun _ => ?_, (fun z => by cases z)⟩⟩
        exact e_sub (e_pk ⟨_, rfl, e_int ⟨_, get true hall hn _, rfl, rfl⟩⟩)
      | true => exact ⟨fun _ => t_or0 ⟨(fun z => by cases z), fun _ => e_non ⟨rfl, rfl⟩⟩, (fun z => by cases z)⟩
end
theorem law_wp {ns : List Int} (hn : ns.length ≤ 63) : (callN pg 40 36 [.scr ns] []).wp fun d _ => d = .bl true := by
  refine callN_wc (k := 39) (nm := _) (nn := _) (np := _) (body := b_law) rfl rfl ?_
  unfold b_law
  kd_adr
  refine c_cons ?_
  kd_mem
  refine (spring_wp (k := 38) (nm := "_law_spring") rfl hn).mono fun d s ⟨ed, hs⟩ => ?_
  subst ed
  kst_mem
  refine c_seq (fun env s' => True) ?_ (fun env s _ => c_cons (c_ret (e_bl rfl)))
  refine c_for (i_range1 (e_int (rng_wp (by omega) (by omega) ?_)))
  refine for_rng (fun _ env s => Spr s ∧ ∃ a2 a3 a4 a5 a6 a7 a8, env = [some (.val (.scr ns)), some (.val (.ref 0)), a2, a3, a4, a5, a6, a7, a8]) (by omega) ⟨hs, _, _, _, _, _, _, _, rfl⟩ ?_ (fun _ _ _ => trivial)
  clear hs
  rintro i env s i1 i2 ⟨hs, a2, a3, a4, a5, a6, a7, a8, rfl⟩
  refine ⟨_, rfl, ?_⟩
  kst_mem
  refine c_cons (c_setn (e_call (es_cons (e_nm ⟨_, rfl, es_cons (e_int (es_cons (e_int (es_nil ?_))))⟩))))
  refine (receiver_wp (k := 35) RV hs (by decide) (by decide) (by decide) (by decide)).mono fun d s ⟨⟨R, ed, hR⟩, hs⟩ => ?_
  subst ed
  kst_mem
  refine c_seq (fun env s => Spr s ∧ ∃ lg : Lg, lg.length ≤ 40 ∧ env = [some (.val (.scr ns)), some (.val (.ref 0)), some (.val (.int i)), some (.val R.d), some (.val lg.d), a5, a6, a7, a8]) ?_ ?_
  · have lw : ∀ {mx : Int} {s : S}, 0 ≤ mx → mx ≤ 40 → Spr s → (callN pg 39 33 [.ref 0, R.d, .int mx] s).wp fun d s' => (∃ lg : Lg, d = lg.d ∧ lg.length ≤ mx.toNat ∧ LgB lg) ∧ Spr s' := fun h1 h2 hs => lawlog_wp (k := 33) RV.toDraw HL ⟨_, rfl⟩ ⟨_, rfl⟩ ⟨_, rfl⟩ ⟨_, rfl⟩ hR (by decide) h1 (by omega) hs
    refine c_setn (e_call (es_cons (e_nm ⟨_, rfl, es_cons (e_nm ⟨_, rfl, es_cons (e_ite (t_cmp (e_nm ⟨_, rfl, e_int ⟨_, rfl, ?_⟩⟩)))⟩)⟩)))
    refine andD (fun h => ?_) (fun h => ?_)
    · refine e_int (es_nil ?_)
      refine (lw (mx := 6) (by decide) (by decide) hs).mono fun d s ⟨⟨lg, e, h1, h2⟩, hs⟩ => ?_
      subst e
      exact ⟨hs, lg, Nat.le_trans h1 (by decide), rfl⟩
    · refine e_int (es_nil ?_)
      refine (lw (mx := 40) (by decide) (by decide) hs).mono fun d s ⟨⟨lg, e, h1, h2⟩, hs⟩ => ?_
      subst e
      exact ⟨hs, lg, Nat.le_trans h1 (by decide), rfl⟩
  clear hs
  rintro env s ⟨hs, lg, hl, rfl⟩
  refine c_seq (fun env s => Spr s ∧ ∃ a : Int, env = [some (.val (.scr ns)), some (.val (.ref 0)), some (.val (.int i)), some (.val R.d), some (.val lg.d), some (.val (.int a)), a6, a7, a8]) ?_ ?_
  · have hnl : cmpop .NotEq lg.d (.tup []) = some (!lg.isEmpty) := by
      show some (!(lg.map pD).isEmpty) = _
      simp
    refine c_setn (e_ite (t_cmp (e_nm ⟨_, rfl, e_tup (es_nil ⟨_, hnl, ?_⟩)⟩)))
    cases hE : lg.isEmpty with
    | true => exact ⟨(fun z => by cases z), fun _ => e_int ⟨hs, 0, rfl⟩⟩
    | false =>
      refine ⟨fun _ => ?_, (fun z => by cases z)⟩
      obtain ⟨init, q, rfl⟩ : ∃ init q, lg = init ++ [q] := by
        cases hg : lg.getLast? with
        | none => rw [List.getLast?_eq_none_iff.mp hg] at hE; cases hE
        | some q => obtain ⟨init, e⟩ := List.getLast?_eq_some_iff.mp hg; exact ⟨init, q, e⟩
      have hlast : ∀ s, subS s (Lg.d (init ++ [q])) (.int (-1)) = some (pD q) := fun s => by
        show L2.atI ((init ++ [q]).map pD) (-1) = _
        rw [List.map_append]
        exact L2.atI_last (init.map pD) (pD q)
      exact e_sub (e_sub (e_nm ⟨_, rfl, e_un (e_int ⟨_, rfl, _, hlast _, e_int ⟨_, rfl, hs, q.1, rfl⟩⟩)⟩))
  clear hs
  rintro env s ⟨hs, a, rfl⟩
  have dp : ∀ {s : S} {n : Int}, Spr s → 0 < n → n < 100 → (callN pg 39 16 [.ref 0, .int n] s).wp fun d s' => (∃ v : Int, d = .int v) ∧ Spr s' := fun {s n} hs n1 n2 => (RV.toDraw.dip_wp (k := 38) hs n1 (by omega)).mono fun d s ⟨⟨v, e, _⟩, hs⟩ => ⟨⟨v, e⟩, hs⟩
  refine c_seq (fun env s => Spr s ∧ ∃ zs : List Int, zs.length = 3 ∧ env = [some (.val (.scr ns)), some (.val (.ref 0)), some (.val (.int i)), some (.val R.d), some (.val lg.d), some (.val (.int a)), some (.val (.lst (zs.map D.int))), a7, a8]) ?_ ?_
  · refine c_setn (e_frz (f_disp (es_cons (e_bin (e_bin (e_nm ⟨_, rfl, e_int ⟨_, rfl, e_call (es_cons (e_nm ⟨_, rfl, es_cons (e_int (es_nil ?_))⟩))⟩⟩))))))
    refine (dp hs (by decide) (by decide)).mono fun d s ⟨⟨v, e⟩, hs⟩ => ?_
    subst e
    refine ⟨_, rfl, es_cons (e_bin (e_bin (e_nm ⟨_, rfl, e_call (es_cons (e_nm ⟨_, rfl, es_cons (e_int (es_nil ?_))⟩))⟩)))⟩
    refine (dp hs (by decide) (by decide)).mono fun d s ⟨⟨v2, e⟩, hs⟩ => ?_
    subst e
    exact ⟨_, rfl, e_int ⟨_, rfl, es_cons (e_bin (e_nm ⟨_, rfl, e_int ⟨_, rfl, es_nil ⟨hs, [a + 1 + v, a + v2 - 6, a + 14], rfl, rfl⟩⟩⟩))⟩⟩
  clear hs
  rintro env s ⟨hs, zs, hzl, rfl⟩
  refine c_seq (fun env s => Spr s ∧ ∃ a7 a8, env = [some (.val (.scr ns)), some (.val (.ref 0)), some (.val (.int i)), some (.val R.d), some (.val lg.d), some (.val (.int a)), some (.val (.lst (zs.map D.int))), a7, a8]) ?_ (fun env s ⟨hs, a7, a8, e⟩ => by subst e; exact c_nil ⟨hs, _, _, _, _, _, _, _, rfl⟩)
  refine c_for (i_seq (e_frz (f_cat (e_nm ⟨_, rfl, e_frz (f_disp (es_cons (e_call (es_cons (e_nm ⟨_, rfl, es_nil ?_⟩)))))⟩))))
  refine (last_wp (k := 36) RV.toDraw ⟨_, rfl⟩ hs).mono fun d s ⟨⟨o, ed, _⟩, hs⟩ => ?_
  subst ed
  refine es_nil ⟨_, _, rfl, rfl, ?_, _, rfl, ?_⟩
  · simp only [List.length_map, List.length_cons, List.length_nil, lim]; omega
  have ez : zs.map D.int ++ [D.int o] = (zs ++ [o]).map D.int := by rw [List.map_append]; rfl
  rw [ez]
  refine for_map (f := D.int) (xs := zs ++ [o]) (fun _ env s => Spr s ∧ ∃ a7 a8, env = [some (.val (.scr ns)), some (.val (.ref 0)), some (.val (.int i)), some (.val R.d), some (.val lg.d), some (.val (.int a)), some (.val (.lst (zs.map D.int))), a7, a8]) ⟨hs, _, _, rfl⟩ ?_ ?_
  · clear hs
    rintro j z env s hj ⟨hs, a7, a8, rfl⟩
    refine ⟨_, rfl, ?_⟩
    kst_mem
    have hcut : sliceD lg.d none (some 1) = some (Lg.d (lg.take 1)) := by
      rw [Lg.d_eq, Lg.d_eq]
      show some (D.tup (cutD _ _ _)) = _
      rw [cut_take _ (by decide), List.map_take]; rfl
    refine c_seq (fun env s => Spr s ∧ ∃ a7 a8, env = [some (.val (.scr ns)), some (.val (.ref 0)), some (.val (.int i)), some (.val R.d), some (.val lg.d), some (.val (.int a)), some (.val (.lst (zs.map D.int))), a7, a8]) ?_ (fun env s ⟨hs, a7, a8, e⟩ => by subst e; exact c_nil ⟨hs, _, _, rfl⟩)
    refine c_for (i_seq (e_frz (f_disp (es_cons (e_nm ⟨_, rfl, es_cons (e_slice (e_nm ⟨_, rfl, o_no (o_so (e_int ⟨_, rfl, _, hcut, es_nil ⟨_, rfl, ?_⟩⟩))⟩))⟩)))))
    refine for_list (fun _ env s => Spr s ∧ ∃ a8, env = [some (.val (.scr ns)), some (.val (.ref 0)), some (.val (.int i)), some (.val R.d), some (.val lg.d), some (.val (.int a)), some (.val (.lst (zs.map D.int))), some (.val (.int z)), a8]) ⟨hs, _, rfl⟩ ?_ (fun env s ⟨hs, a8, e⟩ => ⟨hs, _, _, e⟩)
    clear hs
    rintro q x env s hx ⟨hs, a8, rfl⟩
    obtain ⟨l', rfl, hl'⟩ : ∃ l' : Lg, x = l'.d ∧ l'.length ≤ 99 := by
      have hm := List.mem_of_getElem? hx
      simp only [List.mem_cons, List.not_mem_nil, or_false] at hm
      rcases hm with rfl | rfl
      · exact ⟨lg, rfl, by omega⟩
      · exact ⟨_, rfl, by have := List.length_take_le 1 lg; omega⟩
    refine ⟨_, rfl, ?_⟩
    kst_mem
    obtain ⟨t, ht⟩ := sureE_repr (anyB R (l' ++ [(z, true)])) (anyB R (l' ++ [(z, false)]))
    refine c_cons (c_ifs (t_cmp (e_bi (es_cons (e_call (es_cons (e_nm ⟨_, rfl, es_cons (e_nm ⟨_, rfl, es_cons (e_nm ⟨_, rfl, es_nil ?_⟩)⟩)⟩)))))))
    refine (told_wp (k := 30) hR hl').mono fun d s2 ⟨e1, e2⟩ => ?_
    subst e1 e2
    refine es_nil ⟨_, ht, e_bi (es_cons (e_call (es_cons (e_nm ⟨_, rfl, es_cons (e_nm ⟨_, rfl, es_cons (e_nm ⟨_, rfl, es_nil ?_⟩)⟩)⟩))))⟩
    refine (due_wp (k := 32) hR (by decide) hl').mono fun d s2 ⟨e1, e2⟩ => ?_
    subst e1 e2
    refine es_nil ⟨_, ht, _, rfl, ?_⟩
    rw [eqv_str]
    refine ⟨(fun z => by cases z), fun _ => ?_⟩
    kd_mem
    exact ⟨hs, _, rfl⟩
  · rintro env s ⟨hs, a7, a8, rfl⟩
    exact ⟨hs, _, _, rfl⟩
theorem fin : PySem.Challenge.rw_lateposts_k46_what_a_log_makes_sure.Holds := holds_of fun ns hn _ => by
  obtain ⟨d, s, e, rfl⟩ := (law_wp hn).ex
  exact ⟨s, e⟩
end K46
theorem PySem.Challenge.cw_lateposts_k46_what_a_log_makes_sure_holds : PySem.Challenge.rw_lateposts_k46_what_a_log_makes_sure.Holds := by
  exact K46.fin

import PyProof.Rows.All
import PySem.Names
import HandS.ForMost
import HandS.Walk
import HandS.Zip
import HandS.TupAny
import HandS.TupMul
import HandS.Wide
import HandS.Style
import HandS.IsInst
import HandS.Conv
import HandS.SortInts
import HandS.SetKeys
import HandS.Flow
import HandS.Lambda
import HandS.HeadHook4
import HandS.EndTab
import KE.KNestM
import PyProof.ReprRoads
import HandS.Small
import HandS.Defaults
import HandS.Words
import HandS.Head0
import HandS.Head1
import HandS.Head2
import HandS.HeadEnd
import HandS.HeadHook1
import HandS.HeadHook2
import KE.KDictPairs
import HandS.Text
import HandS.Dict
import KE.DataFind
import HandS.ExcIs
import KE.GoesEnum
import PySem.Challenge.RW_coolbook_k16_whole_units_told_otherwise
set_option Elab.async false
set_option linter.all false
set_option maxRecDepth 100000
set_option maxHeartbeats 0
namespace Ev
def lamNm : List PySem.Str := []
end Ev

/-! Ev: tuples laid with their object known -/
namespace Ev
open PySem PySem.Spec PyProof.Rows L2
/-! ### t[::-1] -/
section
variable {prog : Program} {w : World} {A : Around} {E : Value → Shared → Prop} {s : Shared}
theorem adjust_rev (n : Nat) : Builtin.Slice.sliceAdjust none none (-1) (n : Int) = ((n : Int) - 1, -1) := by
  unfold Builtin.Slice.sliceAdjust
  simp
theorem places_rev (n : Nat) : Builtin.Slice.slicePlaces ((n : Int) - 1) (-1) (-1) = n := by
  unfold Builtin.Slice.slicePlaces
  have h1 : ¬ ((-1 : Int) > 0) := by decide
  simp only [h1, if_false]
  by_cases h : (n : Int) - 1 > -1
  · simp only [h, if_true]
    rw [show (-(-1) : Int) = 1 by decide, Int.ediv_one]
    omega
  · simp only [h, if_false]
    omega
theorem sliceApplied_rev {sl : Addr} {vl vu vs : Value} {n : Nat} {Q : Int × Int × Nat → Shared → Prop} (hs : s.heap.IsSliceOf sl vl vu vs) (pl : IsPart vl none) (pu : IsPart vu none) (ps : IsPart vs (some (-1)))
    (h : Q ((n : Int) - 1, -1, n) s) : wpAny (model prog w) A (Builtin.Slice.sliceApplied (.ref sl) (pure (n : Int))) Q E s := by
  obtain ⟨os, hos, hcs, hds⟩ := id hs
  unfold Builtin.Slice.sliceApplied Builtin.Slice.sliceFields
  refine wpAny_bind (wpAny_bind (wpAny_field hos hds (x := vl) rfl (wpAny_bind (wpAny_field hos hds (x := vu) rfl (wpAny_bind (wpAny_field hos hds (x := vs) rfl (wpAny_pure ?_)))))))
  refine wpAny_bind (HT.slicePart_ ps ?_)
  show wpAny _ _ (if ((-1 : Int) == 0) = true then _ else _) _ _ s
  rw [if_neg (by decide)]
  refine wpAny_bind (HT.slicePart_ pl (wpAny_bind (HT.slicePart_ pu (wpAny_bind (wpAny_pure ?_)))))
  show wpAny _ _ (match Builtin.Slice.sliceAdjust none none (-1) (n : Int) with | (lo, hi) => pure (lo, (-1 : Int), Builtin.Slice.slicePlaces lo hi (-1))) _ _ s
  rw [adjust_rev n]
  show wpAny _ _ (pure ((n : Int) - 1, (-1 : Int), Builtin.Slice.slicePlaces ((n : Int) - 1) (-1) (-1))) _ _ s
  rw [places_rev]
  exact wpAny_pure h
theorem fm_congr {α β : Type} {f g : α → Option β} : ∀ {xs : List α}, (∀ x ∈ xs, f x = g x) → xs.filterMap f = xs.filterMap g
  | [], _ => rfl
  | x :: xs, h => by
    rw [List.filterMap_cons, List.filterMap_cons, h x (by simp), fm_congr (xs := xs) fun y hy => h y (by simp [hy])]
theorem pick_rev (xs : Array Value) : ((List.range xs.size).filterMap fun (m : Nat) => xs[(((xs.size : Nat) : Int) - 1 + (m : Int) * (-1)).toNat]?).toArray = xs.toList.reverse.toArray := by
  have e : ((List.range xs.size).filterMap fun (m : Nat) => xs[(((xs.size : Nat) : Int) - 1 + (m : Int) * (-1)).toNat]?) = ((List.range xs.size).map (fun k => xs.size - 1 - k)).filterMap (xs[·]?) := by
    rw [List.filterMap_map]
    refine fm_congr fun m hm => ?_
    have := List.mem_range.mp hm
    show _ = xs[xs.size - 1 - m]?
    congr 1
    omega
  rw [e, PySem.W.krv_range, List.filterMap_reverse, PySem.W.krv_all]
theorem getItem_tuple_rev {t sl : Addr} {items : Array Value} {vl vu vs : Value} {Q : Value → Shared → Prop} (ht : IsTup s.heap t items) (hs : s.heap.IsSliceOf sl vl vu vs) (pl : IsPart vl none) (pu : IsPart vu none) (ps : IsPart vs (some (-1)))
    (h : Q (.ref s.heap.objs.size) { s with heap := s.heap.push { cls := .type "tuple", data := .seq items.toList.reverse.toArray } })
    (hsz : items.size ≤ sizeLine) : wpAny (model prog w) A (getItem (.ref t) (.ref sl)) Q E s := by
  have htake : sizeOk (.seq items.toList.reverse.toArray) := by
    show items.toList.reverse.toArray.size ≤ sizeLine
    rw [List.size_toArray, List.length_reverse, Array.length_toList]
    omega
  obtain ⟨os, hos, hcs, hds⟩ := id hs
  have hTs : s.TypeIs (.ref sl) "slice" := ⟨os, hos, hcs⟩
  unfold getItem
  try with_reducible refine wpAny_holding ?_
  first | refine wpAny_bind (wpAny_pure ?_) | skip
  refine wpAny_bind (wpAny_sequenceKey ht.typeIs (by decide) ?_)
  refine wpAny_bind (wpAny_callSpecial?_slot (name := Str.ofString "__getitem__") ht.typeIs PyProof.Rows.slot_tuple_getitem
    (wpAny_call_entry PyProof.Rows.slot_tuple_getitem ht.typeIs entry_tuple_getitem ?_ (args_tuple_getitem _ _)))
  show wpAny _ _ (Builtin.Tuple.tupleItemsOf (.ref t) >>= _) _ _ s
  refine wpAny_bind (tupleItemsOf_ ht ?_)
  refine wpAny_bind (wpAny_typeOf hTs ?_)
  rw [if_pos (by decide)]
  refine wpAny_bind (sliceApplied_rev hs pl pu ps ?_)
  have hno : ¬ (((((items.size : Nat) : Int) - 1) == 0 && (-1 : Int) == 1 && items.size == items.size) = true) := by
    intro q
    rw [Bool.and_eq_true, Bool.and_eq_true] at q
    exact absurd q.1.2 (by decide)
  show wpAny _ _ (if ((((items.size : Nat) : Int) - 1) == 0 && (-1 : Int) == 1 && items.size == items.size) = true then _ else _) _ _ s
  rw [if_neg hno, pick_rev]
  first
    | exact wpAny_bind (m := Builtin.Tuple.tupleExact _) (wpAny_newObj_type (wpAny_pure ⟨_, rfl, wpAny_pure h⟩) htake)
    | exact wpAny_bind (m := Builtin.Tuple.tupleExact _) (wpAny_newObj_type (wpAny_bind (wpAny_pure (wpAny_pure ⟨_, rfl, wpAny_pure h⟩))) htake)
    | exact wpAny_bind (wpAny_bind (m := Builtin.Tuple.tupleExact _) (wpAny_newObj_type (wpAny_pure (wpAny_pure ⟨_, rfl, wpAny_pure h⟩)) htake))
    | exact wpAny_bind (wpAny_bind (m := Builtin.Tuple.tupleExact _) (wpAny_newObj_type (wpAny_pure ⟨_, rfl, wpAny_pure h⟩) htake))
end
/-- a new tuple, its object known -/
def NewT (Q : VK) (H : Hp) (xs : List V) : Prop := ∀ (p : Addr) (ob : Obj), ob.dict = none → H p = none → Q (.ref p) (upd H p (.frz ob (.tup xs)))
section
variable {X : Cx}
theorem frz_new {P : Program} {w : World} {H : Hp} {h : Heap} {xs : List V} {its : List Value} (hz : xs.length ≤ sizeLine) (r : Vals xs its) :
    ObjOk P w H (h.push { cls := .type "tuple", data := .seq its.toArray }) h.objs.size (.frz { cls := .type "tuple", data := .seq its.toArray } (.tup xs)) := ⟨Heap.get?_push_size _ rfl, hz, its, r, IsTup.new _ _⟩
def tTupP (t : TA) : TE := fun σ H Q => t σ H fun xs H1 => xs.length ≤ sizeLine ∧ NewT Q H1 xs
theorem pe_tupP {es : List Expr} {t : TA} {pos : Pos} {x1} (h : PA X es t) : PE X (.Tuple es x1 pos) (tTupP t) := by
  refine ⟨fun pins s σ H Q I hq => ?_⟩
  refine wpAny_Tuple_spliced (thn (h.run pos pins s σ H _ I hq) fun us s1 ⟨xs, H1, I1, r, z, q⟩ => ⟨by rw [← r.length]; exact z, ?_⟩)
  exact ⟨.ref s1.heap.objs.size, upd H1 s1.heap.objs.size (.frz { cls := .type "tuple", data := .seq us.toArray } (.tup xs)), I1.laid (t' := s1.toks) (fun b u e => Heap.get?_push_of_some _ e) (Nat.le_refl _) (frz_new z r), rfl, q _ _ rfl (I1.hok.fresh (Nat.le_refl _))⟩
def rCatP (K : PySem.W.Frag) : R2 := fun x y H Q => ∃ a b xs ys, x = .ref a ∧ y = .ref b ∧ SqT K H a xs ∧ SqT K H b ys ∧ xs.length + ys.length ≤ sizeLine ∧ (xs = [] → Q (.ref b) H) ∧ (xs ≠ [] → ys = [] → Q (.ref a) H) ∧ (xs ≠ [] → ys ≠ [] → NewT Q H (xs ++ ys))
theorem op_catP : OpR X (binaryOp .Add) (rCatP X.K) := by
  intro pins s σ H x y v u Q I rx ry h
  obtain ⟨a, b, xs, ys, rfl, rfl, ha, hb, hz, q0, q1, q2⟩ := h
  cases rx
  cases ry
  obtain ⟨its, r1, p1, _⟩ := I.tuple ha
  obtain ⟨its2, r2, p2, _⟩ := I.tuple hb
  by_cases hx : xs = []
  · subst hx
    cases r1
    exact cat_tup0 p1 p2 ⟨.ref b, H, I, rfl, q0 rfl⟩
  · refine HT.cat_tup p1 p2 (fun z => hx (r1.nil_iff.mp z)) (fun z => ⟨.ref a, H, I, rfl, q1 hx (r2.nil_iff.mp z)⟩) (fun z => ?_) (by rw [← r1.length, ← r2.length]; exact hz)
    exact ⟨.ref s.heap.objs.size, _, I.laid (t' := s.toks) (o := .frz _ (.tup (xs ++ ys))) (fun b ob q => Heap.get?_push_of_some _ q) (Nat.le_refl _) (frz_new (by rw [List.length_append]; exact hz) (r1.append r2)), rfl, q2 hx (fun w => z (r2.nil_iff.mpr w)) _ _ rfl (I.hok.fresh (Nat.le_refl _))⟩
def rSlP (K : PySem.W.Frag) : V → Option Int → Option Int → Hp → VK → Prop := fun x lo hi H Q => ∃ a xs, x = .ref a ∧ SqT K H a xs ∧
  (HT.sIx xs.length 0 lo = 0 ∧ HT.sIx xs.length xs.length hi = xs.length → Q (.ref a) H) ∧ (¬ (HT.sIx xs.length 0 lo = 0 ∧ HT.sIx xs.length xs.length hi = xs.length) → NewT Q H (cutV xs lo hi))
theorem sl_tupP : SlR X (rSlP X.K) := by
  intro pins s σ H x v vl vu lo hi sl Q I rx hs pl pu h
  obtain ⟨a, xs, rfl, hx, q1, q2⟩ := h
  cases rx
  obtain ⟨its, r, ht, hz⟩ := I.tuple hx
  have hlen : its.toArray.size = xs.length := by rw [List.size_toArray]; exact r.length.symm
  by_cases hw : HT.sIx xs.length 0 lo = 0 ∧ HT.sIx xs.length xs.length hi = xs.length
  · refine ⟨"tuple", _, PyProof.Rows.slot_tuple_getitem.lookup, ht.typeIs, ?_⟩
    exact getItem_tuple_whole ht hs pl pu (by rw [hlen]; exact hw) ⟨.ref a, H, I, rfl, q1 hw⟩
  · refine ⟨"tuple", _, PyProof.Rows.slot_tuple_getitem.lookup, ht.typeIs, ?_⟩
    refine HT.getItem_tuple_cut ht hs pl pu (by rw [hlen]; exact hw) ?_ (by rw [hlen]; exact hz)
    rw [hlen]
    exact ⟨.ref s.heap.objs.size, _, I.laid (t' := s.toks) (o := .frz _ (.tup (cutV xs lo hi))) (fun b ob q => Heap.get?_push_of_some _ q) (Nat.le_refl _) (frz_new (Nat.le_trans (cutV_length xs lo hi) hz) ((r.drop (HT.sIx xs.length 0 lo)).take (HT.sIx xs.length xs.length hi - HT.sIx xs.length 0 lo))), rfl, q2 hw _ _ rfl (I.hok.fresh (Nat.le_refl _))⟩
def tRevP (K : PySem.W.Frag) (te : TE) : TE := fun σ H Q => te σ H fun x H1 => (∃ a xs, x = .ref a ∧ SqL K H1 a xs ∧ ∀ p, H1 p = none → Q (.ref p) (upd H1 p (.lst xs.reverse))) ∨ ∃ a xs, x = .ref a ∧ SqT K H1 a xs ∧ NewT Q H1 xs.reverse
theorem pe_revP {e : Expr} {te : TE} {k : Nat} {p1 p2 p3 pos : Pos} (he : PE X e te) : PE X (.Subscript e (.Slice none none (some (.UnaryOp .USub (.Constant (.int 1) k p1) p2)) p3) pos) (tRevP X.K te) := by
  refine ⟨fun pins s σ H Q I h => ?_⟩
  refine Subscript_ (thn (he.run pins s σ H _ I h) fun v s1 ⟨x, H1, I1, r1, q1⟩ => ?_)
  have hst : PO X (some (.UnaryOp .USub (.Constant (.int 1) k p1) p2)) (tPart (tUn (rU fun i => .int (-i)) (tC (.int 1)))) := po_some (pe_un un_neg pe_int)
  refine wpAny_Slice (thn (po_none.run pins s1 σ H1 (fun o H2 => o = none ∧ H2 = H1) I1 ⟨rfl, rfl⟩) fun vl s2 ⟨l, H2, I2, pl, el, e2⟩ => ?_)
  subst el e2
  refine thn (po_none.run pins s2 σ H2 (fun o H3 => o = none ∧ H3 = H2) I2 ⟨rfl, rfl⟩) fun vu s3 ⟨u, H3, I3, pu, eu, e3⟩ => ?_
  subst eu e3
  refine thn (hst.run pins s3 σ H3 (fun o H4 => o = some (-1) ∧ H4 = H3) I3 ⟨1, rfl, -1, rfl, rfl, rfl⟩) fun vs s4 ⟨o, H4, I4, ps, eo, e4⟩ => ?_
  subst eo e4
  have I5 : Inv X pins σ H4 { s4 with heap := s4.heap.push { cls := .type "slice", data := .fields #[vl, vu, vs] } } := I4.kept (t' := s4.toks) fun b ob q => Heap.get?_push_of_some _ q
  rcases q1 with ⟨a, xs, ex, hx, q⟩ | ⟨a, xs, ex, hx, q⟩
  · subst ex
    cases r1
    obtain ⟨its, r, ht, hz⟩ := I5.list hx
    have hlen := r.length
    show wpAny (model X.prog X.w) X.A (subscriptTail e (.Slice none none (some (.UnaryOp .USub (.Constant (.int 1) k p1) p2)) p3) (.ref a) (.ref s4.heap.objs.size)) (EP X pins σ Q) X.xe { s4 with heap := s4.heap.push { cls := .type "slice", data := .fields #[vl, vu, vs] } }
    refine tail_any (ops := [.ref a, .ref s4.heap.objs.size]) ht.isList.typeIs (PySem.slot_list_getitem.lookup) ?_ (by with_unfolding_all rfl)
    refine wpAny_getItem_list_slice ht.isList (Heap.IsSliceOf.new _ vl vu vs) pl pu ps (by decide) ?_ (by rw [List.size_toArray]; omega)
    rw [PySem.W.krv_pick]
    refine ⟨.ref _, _, I5.laid (t' := s4.toks) (o := .lst xs.reverse) (fun b ob q => Heap.get?_push_of_some _ q) (Nat.le_refl _) ?_, rfl, q _ (I5.hok.fresh (Nat.le_refl _))⟩
    exact ⟨by rw [List.length_reverse]; exact hz, _, 0, r.reverse, Heap.get?_push_size _ rfl⟩
  · subst ex
    cases r1
    obtain ⟨its, r, ht, hz⟩ := I5.tuple hx
    have hlen := r.length
    show wpAny (model X.prog X.w) X.A (subscriptTail e (.Slice none none (some (.UnaryOp .USub (.Constant (.int 1) k p1) p2)) p3) (.ref a) (.ref s4.heap.objs.size)) (EP X pins σ Q) X.xe { s4 with heap := s4.heap.push { cls := .type "slice", data := .fields #[vl, vu, vs] } }
    refine tail_any (ops := [.ref a, .ref s4.heap.objs.size]) ht.typeIs PyProof.Rows.slot_tuple_getitem.lookup ?_ (by with_unfolding_all rfl)
    refine getItem_tuple_rev ht (Heap.IsSliceOf.new _ vl vu vs) pl pu ps ?_ (by rw [List.size_toArray]; omega)
    exact ⟨.ref _, _, I5.laid (t' := s4.toks) (o := .frz _ (.tup xs.reverse)) (fun b ob q => Heap.get?_push_of_some _ q) (Nat.le_refl _) (frz_new (by rw [List.length_reverse]; exact hz) r.reverse), rfl, q _ _ rfl (I5.hok.fresh (Nat.le_refl _))⟩
end
/-! ### tuple * k, the new object known -/
def rMulTP (K : PySem.W.Frag) : R2 := fun x y H Q => ∃ a k vs, x = .ref a ∧ y = .int k ∧ SqT K H a vs ∧ vs ≠ [] ∧ 2 ≤ k ∧ k ≤ 6000 ∧ vs.length ≤ 1000 ∧ NewT Q H (List.replicate k.toNat vs).flatten
/-- the tests that the machine makes of a length and a number -/
theorem mulT_tests {n : Nat} {k : Int} (h2 : 2 ≤ k) (hk : k ≤ 6000) (hn : n ≤ 1000) : (decide (k < -(2 ^ 63)) || decide (k ≥ 2 ^ 63)) = false ∧ ¬ ((n : Nat) : Int) * k > (2 ^ 63 - 1) / 8 ∧ Builtin.Tuple.tupleTooMany (((n : Nat) : Int) * k) = false ∧ k.toNat * n ≤ sizeLine := by
  have b1 : ((n : Nat) : Int) * k ≤ 6000000 := Int.le_trans (Int.mul_le_mul_of_nonneg_right (c := k) (show ((n : Nat) : Int) ≤ 1000 by omega) (by omega)) (by omega)
  have b2 : k.toNat * n ≤ 6000 * 1000 := Nat.mul_le_mul (by omega) hn
  refine ⟨by rw [decide_eq_false (by omega), decide_eq_false (by omega)] <;> rfl, by omega, ?_, by rw [sizeLine_eq]; omega⟩
  unfold Builtin.Tuple.tupleTooMany
  rw [sizeLine_eq]
  exact decide_eq_false (by omega)
theorem op_mulTP {X : Cx} : OpR X (binaryOp .Mult) (rMulTP X.K) := fun pins s σ H x y v u Q I rx ry h => by
  obtain ⟨a, k, vs, rfl, rfl, hT, hne, h2, hk, hl, q⟩ := h
  obtain rfl : v = .ref a := rx
  obtain ⟨t, rfl⟩ := ry
  obtain ⟨us, r, ⟨⟨c, dd, da, sl⟩, ho, hc, n, hd⟩, -⟩ := I.tuple hT
  cases hc
  cases hd
  have el := r.length
  obtain ⟨w1, w2, w3, w4⟩ := mulT_tests (n := us.toArray.size) h2 hk (by rw [List.size_toArray, ← el]; exact hl)
  have nemp : us.toArray.isEmpty = false := by
    cases us with
    | cons _ _ => rfl
    | nil => exact absurd (List.eq_nil_of_length_eq_zero el) hne
  have len : (List.replicate k.toNat us).flatten.length ≤ sizeLine := by rw [PyProof.Rows.lm_len_rep_flat]; rw [List.size_toArray] at w4; exact w4
  have fit : (List.foldl (fun x1 x2 => x1 ++ x2) #[] (List.replicate k.toNat us.toArray)).size ≤ sizeLine := by rw [size_rep, List.size_toArray]; exact len
  have one : (us.toArray.isEmpty || k == 1) = false := by rw [nemp]; exact beq_eq_false_iff_ne.mpr (by omega)
  have none' : (decide (k ≤ 0) || us.toArray.isEmpty) = false := by rw [nemp, decide_eq_false (by omega)] <;> rfl
  refine wpAny_binaryOp_repeat_ref (T := "tuple") (U := "int") (by decide) ⟨_, ho, rfl⟩ (fun s' => typeIs_int s' k t) noFill_tuple_mul F.fills_int_mul F.slot_int_rmul repeat_tuple F.slot_int_index.lookup ?_
  refine call_meets F.slot_int_rmul (typeIs_int s k t) F.entry_int_rmul (F.args_int_rmul_2 _ _) (int_rmul_tuple k t a us.toArray n dd sl) ⟨ho, rfl, ⟨_, ho, rfl⟩, call_meets F.slot_tuple_mul ⟨_, ho, rfl⟩ F.entry_tuple_mul (F.args_tuple_mul_2 _ _) (tuple_mulW a us.toArray n dd sl k t w1 one none' w2 w3 fit) ⟨ho, ?_⟩⟩
  rw [size_rep]
  exact ⟨.ref s.heap.objs.size, _, I.laid (t' := s.toks) (o := .frz _ (.tup (List.replicate k.toNat vs).flatten)) (fun b ob e => Heap.get?_push_of_some _ e) (Nat.le_refl _) (frz_new (by rw [PyProof.Rows.lm_len_rep_flat, el]; rw [List.size_toArray] at w4; exact w4) (r.rep k.toNat)), rfl, q _ _ rfl (I.hok.fresh (Nat.le_refl _))⟩
end Ev

/-! Ev: a shallow evaluator over plain data, rule by rule over the layer. -/
namespace Ev
open PySem PySem.Spec PyProof.Rows L2

/-! ### plain data -/
inductive D where
  | non
  | bl (b : Bool)
  | int (i : Int)
  | str (s : Str)
  | tup (xs : List D)
  | lst (xs : List D)
  | dct (ks : List Key) (xs : List D)
  | scr (ns : List Int)
  | ref (n : Nat)
  | fn (x : Str)
  | wtp (xs : List D)
  | adr (a : Addr)
  | exn (c : Str)
  | err (c : Str)
  | ktp (ks : List Key)
  deriving Inhabited
inductive Ob where
  | lst (xs : List D)
  | dct (ks : List Key) (xs : List D)
  | dcu (ks : List (List Key)) (xs : List D)
abbrev Sto := List Ob
abbrev Sl := List (Option D)
inductive Res (α : Type) where
  | ok (a : α) (S : Sto)
  | bad
@[inline] def Res.bind {α β : Type} (r : Res α) (f : α → Sto → Res β) : Res β :=
  match r with
  | .ok a S => f a S
  | .bad => .bad
@[simp] theorem Res.bind_ok {α β : Type} (a : α) (S : Sto) (f : α → Sto → Res β) : (Res.ok a S).bind f = f a S := rfl
@[simp] theorem Res.bind_bad {α β : Type} (f : α → Sto → Res β) : (Res.bad : Res α).bind f = .bad := rfl
abbrev ME := Sl → Sto → Res D
abbrev MT := Sl → Sto → Res Bool
abbrev MA := Sl → Sto → Res (List D)
inductive Fl where
  | nx (sl : Sl)
  | rt (d : D)
  | bk (sl : Sl)
  | ct (sl : Sl)
abbrev MS := Sl → Sto → Res Fl

/-! ### how data lies in the heap -/
/-- an exception that was caught -/
def ErrO (cls : Value) (a : Addr) : HO := .ext fun h => ∃ (oe : Obj) (vs : Array Value), h.get? a = some oe ∧ Zc cls none oe ∧ oe.data = .fields vs
/-- the tables of code objects of the defs with lambdas -/
def lamT (K : PySem.W.Frag) : List (Addr × Str) := lamNm.map fun x => (He.tabOf K (He.codeOf K (x, none)), x ++ ".<locals>." ++ "<lambda>")
def Nt (o : HO) : Prop := ∀ ps, o ≠ .tbl ps
def Cell (H : Hp) (b : Addr) : Prop := (∃ xs, H b = some (.lst xs)) ∨ (∃ kvs, H b = some (.dK kvs)) ∨ ∃ kvs, H b = some (.dT kvs)
/-- a tuple whose object is known to bear no dict -/
def SqP (G : Hp) (a : Addr) (xs : List V) : Prop := ∃ o, G a = some (.frz o (.tup xs)) ∧ o.dict = none
theorem SqP.sq {K : PySem.W.Frag} {G : Hp} {a : Addr} {xs : List V} (h : SqP G a xs) : SqT K G a xs := let ⟨o, e, _⟩ := h; .inl (.inr ⟨o, e⟩)
def NoImg (μ : Nat → Addr) (n : Nat) (a : Addr) : Prop := ∀ i, i < n → μ i ≠ a
section
variable (K : PySem.W.Frag) (mg : Str → Option Value) (G : Hp) (μ : Nat → Addr) (n : Nat)
mutual
def RepV : D → V → Prop
  | .non, v => v = .non
  | .bl b, v => v = .bl b
  | .int i, v => v = .int i
  | .str s, v => v = .str s
  | .tup xs, v => ∃ a vs, v = .ref a ∧ SqP G a vs ∧ RepVs xs vs
  | .lst xs, v => ∃ a vs, v = .ref a ∧ G a = some (.lst vs) ∧ NoImg μ n a ∧ RepVs xs vs
  | .dct ks xs, v => ∃ a kvs, v = .ref a ∧ G a = some (.dK kvs) ∧ NoImg μ n a ∧ kvs.map (·.1) = ks ∧ RepVs xs (kvs.map (·.2))
  | .scr ns, v => ∃ a, v = .ref a ∧ ((∃ o, G a = some (.frz o (.lst (ns.map V.int)))) ∨ SqL K (fun _ => none) a (ns.map V.int))
  | .ref i, v => i < n ∧ v = .ref (μ i)
  | .fn x, v => ∃ a, mg x = some (.ref a) ∧ v = .ref a
  | .wtp xs, v => ∃ a vs, v = .ref a ∧ SqT K G a vs ∧ RepVs xs vs
  | .adr a, v => v = .ref a
  | .exn _, _ => False
  | .err c, v => ∃ a C, v = .ref a ∧ mg c = some (.ref C) ∧ G a = some (ErrO (.ref C) a)
  | .ktp ks, v => ∃ a, v = .ref a ∧ G a = some (.tup (ks.map kV))
def RepVs : List D → List V → Prop
  | [], vs => vs = []
  | d :: ds, vs => ∃ v r, vs = v :: r ∧ RepV d v ∧ RepVs ds r
end
def RepO (a : Addr) : Ob → Prop
  | .lst xs => ∃ vs, G a = some (.lst vs) ∧ RepVs K mg G μ n xs vs
  | .dct ks xs => ∃ kvs, G a = some (.dK kvs) ∧ kvs.map (·.1) = ks ∧ RepVs K mg G μ n xs (kvs.map (·.2))
  | .dcu ks xs => ∃ kvs : List (List Key × V), G a = some (.dT kvs) ∧ kvs.map (·.1) = ks ∧ RepVs K mg G μ n xs (kvs.map (·.2))
end
def Sub (G H : Hp) : Prop := ∀ b o, G b = some o → H b = some o
structure RelS (K : PySem.W.Frag) (mg : Str → Option Value) (μ : Nat → Addr) (S : Sto) (G : Hp) : Prop where
  sto : ∀ (i : Nat) o, S[i]? = some o → RepO K mg G μ S.length (μ i) o
  inj : ∀ i j, i < S.length → j < S.length → μ i = μ j → i = j
  tab : LamX.Tabs (lamT K) G
def SlOk (K : PySem.W.Frag) (mg : Str → Option Value) (G : Hp) (μ : Nat → Addr) (n : Nat) (sl : Sl) (σ : L2.St) : Prop :=
  sl.length = σ.length ∧ ∀ (i : Nat) d, sl[i]? = some (some d) → ∃ v, σ[i]? = some (some v) ∧ RepV K mg G μ n d v
structure Step (G H : Hp) (μ : Nat → Addr) (n : Nat) (G' H' : Hp) (μ' : Nat → Addr) (n' : Nat) : Prop where
  sub : Sub G' H'
  len : n ≤ n'
  mu : ∀ i, i < n → μ' i = μ i
  new : ∀ i, n ≤ i → i < n' → ∀ o, H (μ' i) = some o → ∃ ps, o = .tbl ps
  gk : ∀ b o, G b = some o → NoImg μ n b → (nt : Nt o := by intro _ z; cases z) → G' b = some o
  hk : ∀ b o, H b = some o → NoImg μ n b → (nt : Nt o := by intro _ z; cases z) → H' b = some o
  hid : ∀ b, G b = none → Cell H b → G' b = none
  dom : ∀ b o, H b = some o → Nt o → ∃ o', H' b = some o' ∧ Nt o'
  dmc : ∀ b, Cell H b → Cell H' b

section
variable {K : PySem.W.Frag} {mg : Str → Option Value} {G G' G'' H H' H'' : Hp} {μ μ' μ'' : Nat → Addr} {n n' n'' : Nat} {S S' S'' : Sto} {sl : Sl} {σ : L2.St}

theorem Sub.none (h : Sub G H) {b : Addr} (e : H b = none) : G b = none := by
  cases q : G b with
  | none => rfl
  | some o => rw [h b o q] at e; cases e
theorem Sub.refl : Sub G G := fun _ _ h => h
theorem Sub.upd (h : Sub G H) (p : Addr) (o : HO) : Sub (upd G p o) (upd H p o) := fun b x e => by
  by_cases hb : b = p
  · subst hb; rw [upd_same] at e ⊢; exact e
  · rw [upd_ne hb] at e ⊢; exact h b x e
theorem Sub.seqT (h : Sub G H) {a : Addr} {xs : List V} (q : SqT K G a xs) : SqT K H a xs := by
  rcases q with (q | ⟨o, q⟩) | q
  · exact .inl (.inl (h _ _ q))
  · exact .inl (.inr ⟨o, h _ _ q⟩)
  · exact .inr q
theorem Sub.seqL (h : Sub G H) {a : Addr} {xs : List V} (q : SqL K G a xs) : SqL K H a xs := by
  rcases q with (q | ⟨o, q⟩) | q
  · exact .inl (.inl (h _ _ q))
  · exact .inl (.inr ⟨o, h _ _ q⟩)
  · exact .inr q
theorem scr_rd {a : Addr} {xs : List V} (h : Sub G H) (q : (∃ o, G a = some (.frz o (.lst xs))) ∨ SqL K (fun _ => Option.none) a xs) : SqL K H a xs := by
  rcases q with ⟨o, q⟩ | q
  · exact .inl (.inr ⟨o, h _ _ q⟩)
  · exact Sub.seqL (fun _ _ z => by cases z) q
/-! ### lists of data -/
theorem RepVs.len : ∀ {ds : List D} {vs : List V}, RepVs K mg G μ n ds vs → ds.length = vs.length
  | [], vs, h => by rw [show vs = [] from h]; rfl
  | d :: ds, vs, h => by
    obtain ⟨v, r, rfl, _, h2⟩ := h
    rw [List.length_cons, List.length_cons, RepVs.len h2]
theorem RepVs.iff : ∀ {ds : List D} {vs : List V}, RepVs K mg G μ n ds vs ↔ ds.length = vs.length ∧ ∀ (i : Nat) d v, ds[i]? = some d → vs[i]? = some v → RepV K mg G μ n d v
  | [], vs => by
    constructor
    · intro h; rw [show vs = [] from h]; exact ⟨rfl, fun i d v e => by simp at e⟩
    · intro h
      have := h.1
      show vs = []
      exact List.length_eq_zero_iff.mp this.symm
  | d :: ds, vs => by
    constructor
    · rintro ⟨v, r, rfl, h1, h2⟩
      obtain ⟨l, h⟩ := (RepVs.iff (ds := ds) (vs := r)).mp h2
      refine ⟨by simp [l], fun i d' v' e1 e2 => ?_⟩
      cases i with
      | zero => simp at e1 e2; subst e1; subst e2; exact h1
      | succ i => simp at e1 e2; exact h i d' v' e1 e2
    · rintro ⟨l, h⟩
      cases vs with
      | nil => simp at l
      | cons v r =>
        refine ⟨v, r, rfl, h 0 d v rfl rfl, (RepVs.iff (ds := ds) (vs := r)).mpr ⟨by simpa using l, fun i d' v' e1 e2 => h (i + 1) d' v' (by simpa using e1) (by simpa using e2)⟩⟩
theorem RepVs.get {ds : List D} {vs : List V} (h : RepVs K mg G μ n ds vs) {i : Nat} {d : D} (e : ds[i]? = some d) : ∃ v, vs[i]? = some v ∧ RepV K mg G μ n d v := by
  obtain ⟨l, q⟩ := RepVs.iff.mp h
  have hi : i < vs.length := by
    have := (List.getElem?_eq_some_iff.mp e).1
    omega
  exact ⟨vs[i], by simp [hi], q i d _ e (by simp [hi])⟩
theorem RepVs.got {ds : List D} {vs : List V} (h : RepVs K mg G μ n ds vs) {i : Nat} {v : V} (e : vs[i]? = some v) : ∃ d, ds[i]? = some d ∧ RepV K mg G μ n d v := by
  obtain ⟨l, q⟩ := RepVs.iff.mp h
  have hi : i < ds.length := by
    have := (List.getElem?_eq_some_iff.mp e).1
    omega
  exact ⟨ds[i], by simp [hi], q i _ v (by simp [hi]) e⟩
theorem RepVs.nil : RepVs K mg G μ n [] [] := rfl
theorem RepVs.cons {d : D} {ds : List D} {v : V} {vs : List V} (h : RepV K mg G μ n d v) (h2 : RepVs K mg G μ n ds vs) : RepVs K mg G μ n (d :: ds) (v :: vs) := ⟨v, vs, rfl, h, h2⟩
theorem RepVs.app {ds es : List D} {vs us : List V} (h : RepVs K mg G μ n ds vs) (h2 : RepVs K mg G μ n es us) : RepVs K mg G μ n (ds ++ es) (vs ++ us) := by
  induction ds generalizing vs with
  | nil => rw [show vs = [] from h]; exact h2
  | cons d ds ih =>
    obtain ⟨v, r, rfl, h1, h3⟩ := h
    exact ⟨v, r ++ us, rfl, h1, ih h3⟩
theorem RepVs.take {ds : List D} {vs : List V} (h : RepVs K mg G μ n ds vs) (k : Nat) : RepVs K mg G μ n (ds.take k) (vs.take k) := by
  induction ds generalizing vs k with
  | nil => rw [show vs = [] from h]; simp [RepVs]
  | cons d ds ih =>
    obtain ⟨v, r, rfl, h1, h3⟩ := h
    cases k with
    | zero => simp [RepVs]
    | succ k => exact ⟨v, r.take k, rfl, h1, ih h3 k⟩
theorem RepVs.drop {ds : List D} {vs : List V} (h : RepVs K mg G μ n ds vs) (k : Nat) : RepVs K mg G μ n (ds.drop k) (vs.drop k) := by
  induction ds generalizing vs k with
  | nil => rw [show vs = [] from h]; simp [RepVs]
  | cons d ds ih =>
    obtain ⟨v, r, rfl, h1, h3⟩ := h
    cases k with
    | zero => exact ⟨v, r, rfl, h1, h3⟩
    | succ k => exact ih h3 k
theorem RepVs.set {ds : List D} {vs : List V} (h : RepVs K mg G μ n ds vs) {d : D} {v : V} (hd : RepV K mg G μ n d v) (k : Nat) : RepVs K mg G μ n (ds.set k d) (vs.set k v) := by
  induction ds generalizing vs k with
  | nil => rw [show vs = [] from h]; simp [RepVs]
  | cons d' ds ih =>
    obtain ⟨v', r, rfl, h1, h3⟩ := h
    cases k with
    | zero => exact ⟨v, r, rfl, hd, h3⟩
    | succ k => exact ⟨v', r.set k v, rfl, h1, ih h3 k⟩
theorem RepVs.eraseIdx {ds : List D} {vs : List V} (h : RepVs K mg G μ n ds vs) (k : Nat) : RepVs K mg G μ n (ds.eraseIdx k) (vs.eraseIdx k) := by
  induction ds generalizing vs k with
  | nil => rw [show vs = [] from h]; simp [RepVs]
  | cons d' ds ih =>
    obtain ⟨v', r, rfl, h1, h3⟩ := h
    cases k with
    | zero => exact h3
    | succ k => exact ⟨v', r.eraseIdx k, rfl, h1, ih h3 k⟩
theorem RepVs.rev {ds : List D} {vs : List V} (h : RepVs K mg G μ n ds vs) : RepVs K mg G μ n ds.reverse vs.reverse := by
  induction ds generalizing vs with
  | nil => rw [show vs = [] from h]; simp [RepVs]
  | cons d' ds ih =>
    obtain ⟨v', r, rfl, h1, h3⟩ := h
    rw [List.reverse_cons, List.reverse_cons]
    exact (ih h3).app (.cons h1 .nil)
theorem RepVs.ints : ∀ (ns : List Int), RepVs K mg G μ n (ns.map D.int) (ns.map V.int)
  | [] => rfl
  | i :: ns => ⟨_, _, rfl, rfl, RepVs.ints ns⟩
theorem RepVs.of_ints : ∀ {ns : List Int} {vs : List V}, RepVs K mg G μ n (ns.map D.int) vs → vs = ns.map V.int
  | [], _, h => h
  | i :: ns, _, h => by
    obtain ⟨v, r, rfl, rfl, h3⟩ := h
    rw [RepVs.of_ints h3]; rfl

/-! ### steps -/
theorem RelS.at (h : RelS K mg μ S G) {i : Nat} (hi : i < S.length) : ∃ o, G (μ i) = some o ∧ ((∃ xs, o = .lst xs) ∨ (∃ kvs, o = .dK kvs) ∨ ∃ kvs, o = .dT kvs) := by
  have e : S[i]? = some S[i] := by simp [hi]
  have q := h.sto i _ e
  revert q
  cases S[i] with
  | lst xs => rintro ⟨vs, h1, _⟩; exact ⟨_, h1, .inl ⟨_, rfl⟩⟩
  | dct ks xs => rintro ⟨kvs, h1, _⟩; exact ⟨_, h1, .inr (.inl ⟨_, rfl⟩)⟩
  | dcu ks xs => rintro ⟨kvs, h1, _⟩; exact ⟨_, h1, .inr (.inr ⟨_, rfl⟩)⟩
theorem RelS.notTup (h : RelS K mg μ S G) {a : Addr} {xs : List V} (e : G a = some (.tup xs)) : NoImg μ S.length a := fun i hi z => by
  obtain ⟨o, q, r⟩ := h.at hi
  rw [z, e] at q
  cases q
  rcases r with ⟨_, r⟩ | ⟨_, r⟩ | ⟨_, r⟩ <;> cases r
theorem RelS.notFrz (h : RelS K mg μ S G) {a : Addr} {ob : Obj} {u : HO} (e : G a = some (.frz ob u)) : NoImg μ S.length a := fun i hi z => by
  obtain ⟨o, q, r⟩ := h.at hi
  rw [z, e] at q
  cases q
  rcases r with ⟨_, r⟩ | ⟨_, r⟩ | ⟨_, r⟩ <;> cases r

theorem RelS.notExt (h : RelS K mg μ S G) {a : Addr} {φ : Heap → Prop} (e : G a = some (.ext φ)) : NoImg μ S.length a := fun i hi z => by
  obtain ⟨o, q, r⟩ := h.at hi
  rw [z, e] at q
  cases q
  rcases r with ⟨_, r⟩ | ⟨_, r⟩ | ⟨_, r⟩ <;> cases r
theorem Step.noImg (hs : Step G H μ n G' H' μ' n') (hsub : Sub G H) {a : Addr} {o : HO} (h : NoImg μ n a) (ha : G a = some o) (nt : Nt o := by intro _ z; cases z) : NoImg μ' n' a := fun i hi z => by
  by_cases hn : i < n
  · exact h i hn ((hs.mu i hn).symm.trans z)
  · obtain ⟨ps, e⟩ := hs.new i (by omega) hi o (by rw [z]; exact hsub _ _ ha)
    exact nt ps e
theorem errNt {C : Value} {a : Addr} : Nt (ErrO C a) := fun _ z => by unfold ErrO at z; cases z
mutual
theorem RepV.step (hs : Step G H μ n G' H' μ' n') (hsub : Sub G H) (hT : ∀ a xs, G a = some (.tup xs) → NoImg μ n a) (hF : ∀ a ob u, G a = some (.frz ob u) → NoImg μ n a) (hX : ∀ a φ, G a = some (.ext φ) → NoImg μ n a) :
    ∀ {d : D} {v : V}, RepV K mg G μ n d v → RepV K mg G' μ' n' d v
  | .non, _, h => h
  | .bl _, _, h => h
  | .int _, _, h => h
  | .str _, _, h => h
  | .fn _, _, h => h
  | .ref i, v, h => by
    obtain ⟨h1, h2⟩ := h
    exact ⟨Nat.lt_of_lt_of_le h1 hs.len, by rw [h2, hs.mu i h1]⟩
  | .scr ns, v, h => by
    obtain ⟨a, e, q⟩ := h
    rcases q with ⟨o, q⟩ | q
    · exact ⟨a, e, .inl ⟨o, hs.gk _ _ q (hF _ _ _ q)⟩⟩
    · exact ⟨a, e, .inr q⟩
  | .tup xs, v, h => by
    obtain ⟨a, vs, e, ⟨o, q, od⟩, r⟩ := h
    exact ⟨a, vs, e, ⟨o, hs.gk _ _ q (hF _ _ _ q), od⟩, RepVs.step hs hsub hT hF hX r⟩
  | .wtp xs, v, h => by
    obtain ⟨a, vs, e, q, r⟩ := h
    refine ⟨a, vs, e, ?_, RepVs.step hs hsub hT hF hX r⟩
    rcases q with (q | ⟨o, q⟩) | q
    · exact .inl (.inl (hs.gk _ _ q (hT _ _ q)))
    · exact .inl (.inr ⟨o, hs.gk _ _ q (hF _ _ _ q)⟩)
    · exact .inr q
  | .lst xs, v, h => by
    obtain ⟨a, vs, e, q, ni, r⟩ := h
    exact ⟨a, vs, e, hs.gk _ _ q ni, hs.noImg hsub ni q, RepVs.step hs hsub hT hF hX r⟩
  | .dct ks xs, v, h => by
    obtain ⟨a, kvs, e, q, ni, k, r⟩ := h
    exact ⟨a, kvs, e, hs.gk _ _ q ni, hs.noImg hsub ni q, k, RepVs.step hs hsub hT hF hX r⟩
  | .adr a, _, h => h
  | .exn _, _, h => h.elim
  | .err c, v, h => by
    obtain ⟨a, C, e, m, q⟩ := h
    exact ⟨a, C, e, m, hs.gk _ _ q (hX _ _ q) errNt⟩
  | .ktp ks, v, h => by
    obtain ⟨a, e, q⟩ := h
    exact ⟨a, e, hs.gk _ _ q (hT _ _ q)⟩
theorem RepVs.step (hs : Step G H μ n G' H' μ' n') (hsub : Sub G H) (hT : ∀ a xs, G a = some (.tup xs) → NoImg μ n a) (hF : ∀ a ob u, G a = some (.frz ob u) → NoImg μ n a) (hX : ∀ a φ, G a = some (.ext φ) → NoImg μ n a) :
    ∀ {ds : List D} {vs : List V}, RepVs K mg G μ n ds vs → RepVs K mg G' μ' n' ds vs
  | [], _, h => h
  | d :: ds, vs, h => by
    obtain ⟨v, r, e, h1, h2⟩ := h
    exact ⟨v, r, e, RepV.step hs hsub hT hF hX h1, RepVs.step hs hsub hT hF hX h2⟩
end
theorem RepV.go {d : D} {v : V} (h : RepV K mg G μ S.length d v) (hs : Step G H μ S.length G' H' μ' n') (hsub : Sub G H) (hr : RelS K mg μ S G) : RepV K mg G' μ' n' d v :=
  RepV.step hs hsub (fun _ _ e => hr.notTup e) (fun _ _ _ e => hr.notFrz e) (fun _ _ e => hr.notExt e) h
theorem RepVs.go {d : List D} {v : List V} (h : RepVs K mg G μ S.length d v) (hs : Step G H μ S.length G' H' μ' n') (hsub : Sub G H) (hr : RelS K mg μ S G) : RepVs K mg G' μ' n' d v :=
  RepVs.step hs hsub (fun _ _ e => hr.notTup e) (fun _ _ _ e => hr.notFrz e) (fun _ _ e => hr.notExt e) h
theorem SlOk.go (h : SlOk K mg G μ S.length sl σ) (hs : Step G H μ S.length G' H' μ' n') (hsub : Sub G H) (hr : RelS K mg μ S G) : SlOk K mg G' μ' n' sl σ :=
  ⟨h.1, fun i d e => let ⟨v, e2, r⟩ := h.2 i d e; ⟨v, e2, r.go hs hsub hr⟩⟩
theorem Step.refl (h : Sub G H) : Step G H μ n G H μ n :=
  ⟨h, Nat.le_refl _, fun _ _ => rfl, fun i h1 h2 => absurd h2 (by omega), fun _ _ e _ _ => e, fun _ _ e _ _ => e, fun _ e _ => e, fun _ o e nt => ⟨o, e, nt⟩, fun _ e => e⟩
theorem Step.trans (a : Step G H μ n G' H' μ' n') (b : Step G' H' μ' n' G'' H'' μ'' n'') (hsub : Sub G H) : Step G H μ n G'' H'' μ'' n'' where
  sub := b.sub
  len := Nat.le_trans a.len b.len
  mu := fun i hi => (b.mu i (Nat.lt_of_lt_of_le hi a.len)).trans (a.mu i hi)
  new := fun i h1 h2 => by
    by_cases hi : i < n'
    · rw [b.mu i hi]; exact a.new i h1 hi
    · intro o e
      cases o with
      | tbl ps => exact ⟨ps, rfl⟩
      | _ =>
        obtain ⟨o', e', nt'⟩ := a.dom _ _ e (fun _ z => by cases z)
        obtain ⟨ps, z⟩ := b.new i (by omega) h2 o' e'
        exact absurd z (nt' ps)
  gk := fun c o e ni nt => b.gk c o (a.gk c o e ni nt) (a.noImg hsub ni e nt) nt
  hk := fun c o e ni nt => by
    refine b.hk c o (a.hk c o e ni nt) (fun i hi z => ?_) nt
    by_cases hn : i < n
    · exact ni i hn ((a.mu i hn).symm.trans z)
    · obtain ⟨ps, q⟩ := a.new i (by omega) hi o (by rw [z]; exact e)
      exact nt ps q
  hid := fun c e1 e2 => b.hid c (a.hid c e1 e2) (a.dmc c e2)
  dom := fun c o e nt => let ⟨_, e', nt'⟩ := a.dom c o e nt; b.dom c _ e' nt'
  dmc := fun c e => b.dmc c (a.dmc c e)
theorem Cell.upd {b p : Addr} {o : HO} (h : Cell H b) (hb : b ≠ p) : Cell (upd H p o) b := by
  unfold Cell
  rw [upd_ne hb]
  exact h
theorem Cell.ne {b p : Addr} (h : Cell H b) (hp : H p = none) : b ≠ p := fun z => by
  rcases h with ⟨x, e⟩ | ⟨x, e⟩ | ⟨x, e⟩ <;> rw [z, hp] at e <;> cases e
theorem Cell.ne' {b : Addr} (h : Cell H b) : H b ≠ none := fun z => by
  rcases h with ⟨x, e⟩ | ⟨x, e⟩ | ⟨x, e⟩ <;> rw [z] at e <;> cases e
/-- a new object, not of the store -/
theorem Step.laid {p : Addr} {o : HO} (h : Sub G H) (hp : H p = none) : Step G H μ n (upd G p o) (upd H p o) μ n where
  sub := h.upd p o
  len := Nat.le_refl _
  mu := fun _ _ => rfl
  new := fun i h1 h2 => absurd h2 (by omega)
  gk := fun b x e _ _ => by rw [upd_ne (ne_of_none e (h.none hp))]; exact e
  hk := fun b x e _ _ => by rw [upd_ne (ne_of_none e hp)]; exact e
  hid := fun b e1 e2 => by
    rw [upd_ne (e2.ne hp)]; exact e1
  dom := fun b o' e nt => ⟨o', by rw [upd_ne (ne_of_none e hp)]; exact e, nt⟩
  dmc := fun b e => e.upd (e.ne hp)
theorem RelS.go (hr : RelS K mg μ S G) (hs : Step G H μ S.length G' H' μ S.length) (hsub : Sub G H) (hk : ∀ i, i < S.length → G' (μ i) = G (μ i)) (ht : LamX.Tabs (lamT K) G') : RelS K mg μ S G' := by
  refine ⟨fun i o e => ?_, hr.inj, ht⟩
  have hi := (List.getElem?_eq_some_iff.mp e).1
  have q := hr.sto i o e
  cases o with
  | lst xs =>
    obtain ⟨vs, h1, h2⟩ := q
    exact ⟨vs, (hk i hi).trans h1, h2.go hs hsub hr⟩
  | dct ks xs =>
    obtain ⟨vs, h1, k, h2⟩ := q
    exact ⟨vs, (hk i hi).trans h1, k, h2.go hs hsub hr⟩
  | dcu ks xs =>
    obtain ⟨vs, h1, k, h2⟩ := q
    exact ⟨vs, (hk i hi).trans h1, k, h2.go hs hsub hr⟩
theorem RelS.laid (hr : RelS K mg μ S G) {p : Addr} {o : HO} (h : Sub G H) (hp : H p = none) : RelS K mg μ S (upd G p o) :=
  hr.go (Step.laid h hp) h (fun i hi => by
    obtain ⟨x, e, _⟩ := hr.at hi
    rw [upd_ne (ne_of_none e (h.none hp))]) (hr.tab.ext fun b x e => by rw [upd_ne (ne_of_none e (h.none hp))]; exact e)
/-! ### a new object of the store -/
def ext (μ : Nat → Addr) (n : Nat) (p : Addr) : Nat → Addr := fun i => if i = n then p else μ i
theorem ext_same : ext μ n p n = p := by unfold ext; rw [if_pos rfl]
theorem ext_ne {i : Nat} (h : i ≠ n) : ext μ n p i = μ i := by unfold ext; rw [if_neg h]
theorem Step.newS {p : Addr} {o : HO} (h : Sub G H) (hp : H p = none) : Step G H μ n (upd G p o) (upd H p o) (ext μ n p) (n + 1) where
  sub := h.upd p o
  len := Nat.le_succ _
  mu := fun i hi => ext_ne (Nat.ne_of_lt hi)
  new := fun i h1 h2 => by
    have : i = n := by omega
    subst this
    rw [ext_same, hp]; exact fun o e => by cases e
  gk := fun b x e _ _ => by rw [upd_ne (ne_of_none e (h.none hp))]; exact e
  hk := fun b x e _ _ => by rw [upd_ne (ne_of_none e hp)]; exact e
  hid := fun b e1 e2 => by
    rw [upd_ne (e2.ne hp)]; exact e1
  dom := fun b o' e nt => ⟨o', by rw [upd_ne (ne_of_none e hp)]; exact e, nt⟩
  dmc := fun b e => e.upd (e.ne hp)
theorem RelS.newS (hr : RelS K mg μ S G) {p : Addr} {o : HO} {ob : Ob} (h : Sub G H) (hp : H p = none)
    (ho : ∀ G', Step G H μ S.length (upd G p o) (upd H p o) (ext μ S.length p) (S.length + 1) → G' = upd G p o → RepO K mg G' (ext μ S.length p) (S.length + 1) p ob) : RelS K mg (ext μ S.length p) (S ++ [ob]) (upd G p o) := by
  have st : Step G H μ S.length (upd G p o) (upd H p o) (ext μ S.length p) (S.length + 1) := Step.newS h hp
  have hl : (S ++ [ob]).length = S.length + 1 := by simp
  refine ⟨fun i x e => ?_, fun i j hi hj e => ?_, hr.tab.ext fun b x e => by rw [upd_ne (ne_of_none e (h.none hp))]; exact e⟩
  · rw [hl]
    by_cases hi : i < S.length
    · rw [List.getElem?_append_left hi] at e
      rw [ext_ne (Nat.ne_of_lt hi)]
      obtain ⟨y, ey, _⟩ := hr.at hi
      have ek : upd G p o (μ i) = G (μ i) := upd_ne (ne_of_none ey (h.none hp))
      have q := hr.sto i x e
      cases x with
      | lst xs =>
        obtain ⟨vs, h1, h2⟩ := q
        exact ⟨vs, ek.trans h1, h2.go st h hr⟩
      | dct ks xs =>
        obtain ⟨vs, h1, k, h2⟩ := q
        exact ⟨vs, ek.trans h1, k, h2.go st h hr⟩
      | dcu ks xs =>
        obtain ⟨vs, h1, k, h2⟩ := q
        exact ⟨vs, ek.trans h1, k, h2.go st h hr⟩
    · have : i = S.length := by
        have := (List.getElem?_eq_some_iff.mp e).1
        rw [hl] at this; omega
      subst this
      rw [List.getElem?_append_right (Nat.le_refl _)] at e
      simp at e
      subst e
      rw [ext_same]
      exact ho _ st rfl
  · rw [hl] at hi hj
    have old : ∀ k, k < S.length → ext μ S.length p k ≠ p := fun k hk z => by
      rw [ext_ne (Nat.ne_of_lt hk)] at z
      obtain ⟨y, ey, _⟩ := hr.at hk
      rw [z, h.none hp] at ey; cases ey
    by_cases h1 : i < S.length
    · by_cases h2 : j < S.length
      · rw [ext_ne (Nat.ne_of_lt h1), ext_ne (Nat.ne_of_lt h2)] at e
        exact hr.inj i j h1 h2 e
      · have : j = S.length := by omega
        subst this
        rw [ext_same] at e
        exact absurd e (old i h1)
    · have e1 : i = S.length := by omega
      subst e1
      by_cases h2 : j < S.length
      · rw [ext_same] at e
        exact absurd e.symm (old j h2)
      · omega
/-! ### an object of the store written -/
theorem Step.wr {i : Nat} {o : HO} (h : Sub G H) (hi : i < n) (hm : G (μ i) ≠ none) (ho : (∃ xs, o = .lst xs) ∨ (∃ kvs, o = .dK kvs) ∨ ∃ kvs, o = .dT kvs) : Step G H μ n (upd G (μ i) o) (upd H (μ i) o) μ n where
  sub := h.upd _ _
  len := Nat.le_refl _
  mu := fun _ _ => rfl
  new := fun j h1 h2 => absurd h2 (by omega)
  gk := fun b x e ni _ => by rw [upd_ne (fun z => ni i hi z.symm)]; exact e
  hk := fun b x e ni _ => by rw [upd_ne (fun z => ni i hi z.symm)]; exact e
  hid := fun b e1 e2 => by
    have hb : b ≠ μ i := fun z => hm (z ▸ e1)
    rw [upd_ne hb]; exact e1
  dom := fun b o' e nt => by
    by_cases hb : b = μ i
    · subst hb
      rw [upd_same]
      refine ⟨_, rfl, fun ps z => ?_⟩
      rcases ho with ⟨_, q⟩ | ⟨_, q⟩ | ⟨_, q⟩ <;> rw [q] at z <;> cases z
    · rw [upd_ne hb]; exact ⟨o', e, nt⟩
  dmc := fun b e => by
    by_cases hb : b = μ i
    · subst hb
      unfold Cell
      rw [upd_same]
      rcases ho with ⟨x, q⟩ | ⟨x, q⟩ | ⟨x, q⟩
      · exact .inl ⟨x, by rw [q]⟩
      · exact .inr (.inl ⟨x, by rw [q]⟩)
      · exact .inr (.inr ⟨x, by rw [q]⟩)
    · exact e.upd hb
theorem tabs_wr (hr : RelS K mg μ S G) {i : Nat} {o : HO} (hi : i < S.length) : LamX.Tabs (lamT K) (upd G (μ i) o) := fun p hp => by
  obtain ⟨y, ey, yc⟩ := hr.at hi
  obtain ⟨ps, h1, h2, h3⟩ := hr.tab p hp
  have ne : ∀ (b : Addr) (u : HO), G b = some u → (∀ xs, u ≠ .lst xs) → (∀ kvs, u ≠ .dK kvs) → (∀ kvs, u ≠ .dT kvs) → b ≠ μ i := fun b u e n1 n2 n3 z => by
    rw [z, ey] at e
    cases e
    rcases yc with ⟨x, q⟩ | ⟨x, q⟩ | ⟨x, q⟩
    · exact n1 x q
    · exact n2 x q
    · exact n3 x q
  refine ⟨ps, by rw [upd_ne (ne _ _ h1 (fun _ z => by cases z) (fun _ z => by cases z) (fun _ z => by cases z))]; exact h1, h2, fun pos cv hc => ?_⟩
  obtain ⟨c, e1, e2⟩ := h3 pos cv hc
  exact ⟨c, e1, by rw [upd_ne (ne _ _ e2 (fun _ z => by unfold LamX.CodeO at z; cases z) (fun _ z => by unfold LamX.CodeO at z; cases z) (fun _ z => by unfold LamX.CodeO at z; cases z))]; exact e2⟩
theorem RelS.wr (hr : RelS K mg μ S G) {i : Nat} {o : HO} {ob : Ob} (h : Sub G H) (hi : i < S.length) (ho : RepO K mg (upd G (μ i) o) μ S.length (μ i) ob) : RelS K mg μ (S.set i ob) (upd G (μ i) o) := by
  obtain ⟨y, ey, _⟩ := hr.at hi
  have st : Step G H μ S.length (upd G (μ i) o) (upd H (μ i) o) μ S.length := Step.wr h hi (by rw [ey]; exact fun z => nomatch z) (by
    cases ob with
    | lst xs => obtain ⟨vs, h1, _⟩ := ho; rw [upd_same] at h1; exact .inl ⟨vs, Option.some.inj h1⟩
    | dct ks xs => obtain ⟨vs, h1, _⟩ := ho; rw [upd_same] at h1; exact .inr (.inl ⟨vs, Option.some.inj h1⟩)
    | dcu ks xs => obtain ⟨vs, h1, _⟩ := ho; rw [upd_same] at h1; exact .inr (.inr ⟨vs, Option.some.inj h1⟩))
  refine ⟨fun j x e => ?_, fun j k hj hk e => hr.inj j k (by simpa using hj) (by simpa using hk) e, tabs_wr hr hi⟩
  rw [List.length_set]
  by_cases hj : j = i
  · subst hj
    rw [List.getElem?_set_self hi] at e
    cases e
    exact ho
  · rw [List.getElem?_set_ne (Ne.symm hj)] at e
    have hjl := (List.getElem?_eq_some_iff.mp e).1
    have ek : upd G (μ i) o (μ j) = G (μ j) := upd_ne fun z => hj (hr.inj j i hjl hi z)
    have q := hr.sto j x e
    cases x with
    | lst xs =>
      obtain ⟨vs, h1, h2⟩ := q
      exact ⟨vs, ek.trans h1, h2.go st h hr⟩
    | dct ks xs =>
      obtain ⟨vs, h1, k, h2⟩ := q
      exact ⟨vs, ek.trans h1, k, h2.go st h hr⟩
    | dcu ks xs =>
      obtain ⟨vs, h1, k, h2⟩ := q
      exact ⟨vs, ek.trans h1, k, h2.go st h hr⟩
end

/-! ### what is wanted behind a computation -/
section
variable (K : PySem.W.Frag) (mg : Str → Option Value)
def PostV (r : Res D) (G H : Hp) (μ : Nat → Addr) (n : Nat) (Q : V → Hp → Prop) : Prop :=
  match r with
  | .ok d S' => ∀ v G' H' μ', Step G H μ n G' H' μ' S'.length → RelS K mg μ' S' G' → RepV K mg G' μ' S'.length d v → Q v H'
  | .bad => False
def PostT (r : Res Bool) (G H : Hp) (μ : Nat → Addr) (n : Nat) (Q : Bool → Hp → Prop) : Prop :=
  match r with
  | .ok d S' => ∀ G' H' μ', Step G H μ n G' H' μ' S'.length → RelS K mg μ' S' G' → Q d H'
  | .bad => False
def PostA (r : Res (List D)) (G H : Hp) (μ : Nat → Addr) (n : Nat) (Q : List V → Hp → Prop) : Prop :=
  match r with
  | .ok d S' => ∀ v G' H' μ', Step G H μ n G' H' μ' S'.length → RelS K mg μ' S' G' → RepVs K mg G' μ' S'.length d v → Q v H'
  | .bad => False
def PostS (r : Res Fl) (G H : Hp) (μ : Nat → Addr) (n : Nat) (De : Ends) : Prop :=
  match r with
  | .ok (.nx sl) S' => ∀ σ' G' H' μ', Step G H μ n G' H' μ' S'.length → RelS K mg μ' S' G' → SlOk K mg G' μ' S'.length sl σ' → De.nx σ' H'
  | .ok (.rt d) S' => ∀ v G' H' μ', Step G H μ n G' H' μ' S'.length → RelS K mg μ' S' G' → RepV K mg G' μ' S'.length d v → De.rt v H'
  | .ok (.bk sl) S' => ∀ σ' G' H' μ', Step G H μ n G' H' μ' S'.length → RelS K mg μ' S' G' → SlOk K mg G' μ' S'.length sl σ' → De.bk σ' H'
  | .ok (.ct sl) S' => ∀ σ' G' H' μ', Step G H μ n G' H' μ' S'.length → RelS K mg μ' S' G' → SlOk K mg G' μ' S'.length sl σ' → De.ct σ' H'
  | .bad => False
/-- where one stands -/
structure At (G H : Hp) (μ : Nat → Addr) (S : Sto) (sl : Sl) (σ : L2.St) : Prop where
  sub : Sub G H
  rel : RelS K mg μ S G
  slo : SlOk K mg G μ S.length sl σ
def tE (m : ME) : TE := fun σ H Q => ∃ G μ sl S, At K mg G H μ S sl σ ∧ PostV K mg (m sl S) G H μ S.length Q
def tT (m : MT) : TT := fun σ H Q => ∃ G μ sl S, At K mg G H μ S sl σ ∧ PostT K mg (m sl S) G H μ S.length Q
def tA (m : MA) : TA := fun σ H Q => ∃ G μ sl S, At K mg G H μ S sl σ ∧ PostA K mg (m sl S) G H μ S.length Q
def tS (m : MS) : TS := fun De σ H => ∃ G μ sl S, At K mg G H μ S sl σ ∧ PostS K mg (m sl S) G H μ S.length De
end
abbrev EvE (X : Cx) (e : Expr) (m : ME) : Prop := PE X e (tE X.K X.mg m)
abbrev EvT (X : Cx) (e : Expr) (m : MT) : Prop := PT X e (tT X.K X.mg m)
abbrev EvA (X : Cx) (es : List Expr) (m : MA) : Prop := PA X es (tA X.K X.mg m)
abbrev EvS (X : Cx) (s : Stmt) (m : MS) : Prop := PS X s (tS X.K X.mg m)
abbrev EvSs (X : Cx) (s : List Stmt) (m : MS) : Prop := PSs X s (tS X.K X.mg m)
section
variable {K : PySem.W.Frag} {mg : Str → Option Value} {G G1 H H1 : Hp} {μ μ1 : Nat → Addr} {n n1 : Nat} {S S1 : Sto} {sl : Sl} {σ : L2.St}
theorem PostV.step {r : Res D} {Q : V → Hp → Prop} (h : PostV K mg r G H μ n Q) (st : Step G H μ n G1 H1 μ1 n1) (hs : Sub G H) : PostV K mg r G1 H1 μ1 n1 Q := by
  cases r with
  | bad => exact h
  | ok d S' => exact fun v G' H' μ' s2 rl rp => h v G' H' μ' (st.trans s2 hs) rl rp
theorem PostT.step {r : Res Bool} {Q : Bool → Hp → Prop} (h : PostT K mg r G H μ n Q) (st : Step G H μ n G1 H1 μ1 n1) (hs : Sub G H) : PostT K mg r G1 H1 μ1 n1 Q := by
  cases r with
  | bad => exact h
  | ok d S' => exact fun G' H' μ' s2 rl => h G' H' μ' (st.trans s2 hs) rl
theorem PostA.step {r : Res (List D)} {Q : List V → Hp → Prop} (h : PostA K mg r G H μ n Q) (st : Step G H μ n G1 H1 μ1 n1) (hs : Sub G H) : PostA K mg r G1 H1 μ1 n1 Q := by
  cases r with
  | bad => exact h
  | ok d S' => exact fun v G' H' μ' s2 rl rp => h v G' H' μ' (st.trans s2 hs) rl rp
theorem PostS.step {r : Res Fl} {De : Ends} (h : PostS K mg r G H μ n De) (st : Step G H μ n G1 H1 μ1 n1) (hs : Sub G H) : PostS K mg r G1 H1 μ1 n1 De := by
  cases r with
  | bad => exact h
  | ok d S' => cases d <;> exact fun v G' H' μ' s2 rl rp => h v G' H' μ' (st.trans s2 hs) rl rp
theorem At.go (a : At K mg G H μ S sl σ) (st : Step G H μ S.length G1 H1 μ1 S1.length) (rl : RelS K mg μ1 S1 G1) : At K mg G1 H1 μ1 S1 sl σ := ⟨st.sub, rl, a.slo.go st a.sub a.rel⟩
/-- the part ahead: an expression -/
theorem PostV.fst {r : Res D} {Q' : V → Hp → Prop} {P : D → Sto → Prop} (a : At K mg G H μ S sl σ) (ne : r ≠ .bad) (hp : ∀ d S1, r = .ok d S1 → P d S1)
    (k : ∀ d S1 v G1 H1 μ1, P d S1 → Step G H μ S.length G1 H1 μ1 S1.length → At K mg G1 H1 μ1 S1 sl σ → RepV K mg G1 μ1 S1.length d v → Q' v H1) : PostV K mg r G H μ S.length Q' := by
  cases r with
  | bad => exact absurd rfl ne
  | ok d S1 => exact fun v G' H' μ' st rl rp => k d S1 v G' H' μ' (hp d S1 rfl) st (a.go st rl) rp
theorem bindV {r : Res D} {f : D → Sto → Res D} {Q Q' : V → Hp → Prop} (a : At K mg G H μ S sl σ) (h : PostV K mg (r.bind f) G H μ S.length Q)
    (k : ∀ d S1 v G1 H1 μ1, Step G H μ S.length G1 H1 μ1 S1.length → At K mg G1 H1 μ1 S1 sl σ → RepV K mg G1 μ1 S1.length d v → PostV K mg (f d S1) G1 H1 μ1 S1.length Q → Q' v H1) : PostV K mg r G H μ S.length Q' := by
  cases r with
  | bad => exact h
  | ok d S1 => exact fun v G' H' μ' st rl rp => k d S1 v G' H' μ' st (a.go st rl) rp (PostV.step h st a.sub)
theorem bindVT {r : Res D} {f : D → Sto → Res Bool} {Q : Bool → Hp → Prop} {Q' : V → Hp → Prop} (a : At K mg G H μ S sl σ) (h : PostT K mg (r.bind f) G H μ S.length Q)
    (k : ∀ d S1 v G1 H1 μ1, Step G H μ S.length G1 H1 μ1 S1.length → At K mg G1 H1 μ1 S1 sl σ → RepV K mg G1 μ1 S1.length d v → PostT K mg (f d S1) G1 H1 μ1 S1.length Q → Q' v H1) : PostV K mg r G H μ S.length Q' := by
  cases r with
  | bad => exact h
  | ok d S1 => exact fun v G' H' μ' st rl rp => k d S1 v G' H' μ' st (a.go st rl) rp (PostT.step h st a.sub)
theorem bindTV {r : Res Bool} {f : Bool → Sto → Res D} {Q : V → Hp → Prop} {Q' : Bool → Hp → Prop} (a : At K mg G H μ S sl σ) (h : PostV K mg (r.bind f) G H μ S.length Q)
    (k : ∀ d S1 G1 H1 μ1, Step G H μ S.length G1 H1 μ1 S1.length → At K mg G1 H1 μ1 S1 sl σ → PostV K mg (f d S1) G1 H1 μ1 S1.length Q → Q' d H1) : PostT K mg r G H μ S.length Q' := by
  cases r with
  | bad => exact h
  | ok d S1 => exact fun G' H' μ' st rl => k d S1 G' H' μ' st (a.go st rl) (PostV.step h st a.sub)
theorem bindTT {r : Res Bool} {f : Bool → Sto → Res Bool} {Q Q' : Bool → Hp → Prop} (a : At K mg G H μ S sl σ) (h : PostT K mg (r.bind f) G H μ S.length Q)
    (k : ∀ d S1 G1 H1 μ1, Step G H μ S.length G1 H1 μ1 S1.length → At K mg G1 H1 μ1 S1 sl σ → PostT K mg (f d S1) G1 H1 μ1 S1.length Q → Q' d H1) : PostT K mg r G H μ S.length Q' := by
  cases r with
  | bad => exact h
  | ok d S1 => exact fun G' H' μ' st rl => k d S1 G' H' μ' st (a.go st rl) (PostT.step h st a.sub)
theorem bindVA {r : Res D} {f : D → Sto → Res (List D)} {Q : List V → Hp → Prop} {Q' : V → Hp → Prop} (a : At K mg G H μ S sl σ) (h : PostA K mg (r.bind f) G H μ S.length Q)
    (k : ∀ d S1 v G1 H1 μ1, Step G H μ S.length G1 H1 μ1 S1.length → At K mg G1 H1 μ1 S1 sl σ → RepV K mg G1 μ1 S1.length d v → PostA K mg (f d S1) G1 H1 μ1 S1.length Q → Q' v H1) : PostV K mg r G H μ S.length Q' := by
  cases r with
  | bad => exact h
  | ok d S1 => exact fun v G' H' μ' st rl rp => k d S1 v G' H' μ' st (a.go st rl) rp (PostA.step h st a.sub)
theorem bindAA {r : Res (List D)} {f : List D → Sto → Res (List D)} {Q Q' : List V → Hp → Prop} (a : At K mg G H μ S sl σ) (h : PostA K mg (r.bind f) G H μ S.length Q)
    (k : ∀ d S1 v G1 H1 μ1, Step G H μ S.length G1 H1 μ1 S1.length → At K mg G1 H1 μ1 S1 sl σ → RepVs K mg G1 μ1 S1.length d v → PostA K mg (f d S1) G1 H1 μ1 S1.length Q → Q' v H1) : PostA K mg r G H μ S.length Q' := by
  cases r with
  | bad => exact h
  | ok d S1 => exact fun v G' H' μ' st rl rp => k d S1 v G' H' μ' st (a.go st rl) rp (PostA.step h st a.sub)
theorem bindAV {r : Res (List D)} {f : List D → Sto → Res D} {Q : V → Hp → Prop} {Q' : List V → Hp → Prop} (a : At K mg G H μ S sl σ) (h : PostV K mg (r.bind f) G H μ S.length Q)
    (k : ∀ d S1 v G1 H1 μ1, Step G H μ S.length G1 H1 μ1 S1.length → At K mg G1 H1 μ1 S1 sl σ → RepVs K mg G1 μ1 S1.length d v → PostV K mg (f d S1) G1 H1 μ1 S1.length Q → Q' v H1) : PostA K mg r G H μ S.length Q' := by
  cases r with
  | bad => exact h
  | ok d S1 => exact fun v G' H' μ' st rl rp => k d S1 v G' H' μ' st (a.go st rl) rp (PostV.step h st a.sub)
theorem bindVS {r : Res D} {f : D → Sto → Res Fl} {De : Ends} {Q' : V → Hp → Prop} (a : At K mg G H μ S sl σ) (h : PostS K mg (r.bind f) G H μ S.length De)
    (k : ∀ d S1 v G1 H1 μ1, Step G H μ S.length G1 H1 μ1 S1.length → At K mg G1 H1 μ1 S1 sl σ → RepV K mg G1 μ1 S1.length d v → PostS K mg (f d S1) G1 H1 μ1 S1.length De → Q' v H1) : PostV K mg r G H μ S.length Q' := by
  cases r with
  | bad => exact h
  | ok d S1 => exact fun v G' H' μ' st rl rp => k d S1 v G' H' μ' st (a.go st rl) rp (PostS.step h st a.sub)
theorem bindAS {r : Res (List D)} {f : List D → Sto → Res Fl} {De : Ends} {Q' : List V → Hp → Prop} (a : At K mg G H μ S sl σ) (h : PostS K mg (r.bind f) G H μ S.length De)
    (k : ∀ d S1 v G1 H1 μ1, Step G H μ S.length G1 H1 μ1 S1.length → At K mg G1 H1 μ1 S1 sl σ → RepVs K mg G1 μ1 S1.length d v → PostS K mg (f d S1) G1 H1 μ1 S1.length De → Q' v H1) : PostA K mg r G H μ S.length Q' := by
  cases r with
  | bad => exact h
  | ok d S1 => exact fun v G' H' μ' st rl rp => k d S1 v G' H' μ' st (a.go st rl) rp (PostS.step h st a.sub)
theorem bindTS {r : Res Bool} {f : Bool → Sto → Res Fl} {De : Ends} {Q' : Bool → Hp → Prop} (a : At K mg G H μ S sl σ) (h : PostS K mg (r.bind f) G H μ S.length De)
    (k : ∀ d S1 G1 H1 μ1, Step G H μ S.length G1 H1 μ1 S1.length → At K mg G1 H1 μ1 S1 sl σ → PostS K mg (f d S1) G1 H1 μ1 S1.length De → Q' d H1) : PostT K mg r G H μ S.length Q' := by
  cases r with
  | bad => exact h
  | ok d S1 => exact fun G' H' μ' st rl => k d S1 G' H' μ' st (a.go st rl) (PostS.step h st a.sub)
end
theorem PE.imp {X : Cx} {e : Expr} {t t' : TE} (h : PE X e t) (i : ∀ σ H Q, t' σ H Q → t σ H Q) : PE X e t' := ⟨fun pins s σ H Q I q => h.run pins s σ H Q I (i σ H Q q)⟩
theorem PT.imp {X : Cx} {e : Expr} {t t' : TT} (h : PT X e t) (i : ∀ σ H Q, t' σ H Q → t σ H Q) : PT X e t' := ⟨fun pins s σ H Q I q => h.run pins s σ H Q I (i σ H Q q)⟩
theorem PA.imp {X : Cx} {e : List Expr} {t t' : TA} (h : PA X e t) (i : ∀ σ H Q, t' σ H Q → t σ H Q) : PA X e t' := ⟨fun pos pins s σ H Q I q => h.run pos pins s σ H Q I (i σ H Q q)⟩
theorem PS.imp {X : Cx} {e : Stmt} {t t' : TS} (h : PS X e t) (i : ∀ De σ H, t' De σ H → t De σ H) : PS X e t' := ⟨fun pins s σ H De I q => h.run pins s σ H De I (i De σ H q)⟩
theorem PSs.imp {X : Cx} {e : List Stmt} {t t' : TS} (h : PSs X e t) (i : ∀ De σ H, t' De σ H → t De σ H) : PSs X e t' := ⟨fun pins s σ H De I q => h.run pins s σ H De I (i De σ H q)⟩
end Ev

/-! Ev: expressions -/
namespace Ev
open PySem PySem.Spec PyProof.Rows L2
section
variable {K : PySem.W.Frag} {mg : Str → Option Value} {G H : Hp} {μ : Nat → Addr} {S : Sto} {sl : Sl} {σ : L2.St} {Q : V → Hp → Prop}
/-! ### where a computation ends -/
theorem PostV.here {d : D} {v : V} (h : PostV K mg (.ok d S) G H μ S.length Q) (a : Sub G H) (r : RelS K mg μ S G) (rp : RepV K mg G μ S.length d v) : Q v H :=
  h v G H μ (Step.refl a) r rp
theorem PostV.tupN {ds : List D} {vs : List V} {p : Addr} {ob : Obj} (h : PostV K mg (.ok (.tup ds) S) G H μ S.length Q) (a : Sub G H) (r : RelS K mg μ S G) (rp : RepVs K mg G μ S.length ds vs) (od : ob.dict = none) (hp : H p = none) : Q (.ref p) (upd H p (.frz ob (.tup vs))) :=
  h (.ref p) (upd G p (.frz ob (.tup vs))) _ μ (Step.laid a hp) (r.laid a hp) ⟨p, vs, rfl, ⟨ob, upd_same, od⟩, rp.go (Step.laid a hp) a r⟩
theorem PostV.wtpN {ds : List D} {vs : List V} {p : Addr} (h : PostV K mg (.ok (.wtp ds) S) G H μ S.length Q) (a : Sub G H) (r : RelS K mg μ S G) (rp : RepVs K mg G μ S.length ds vs) (hp : H p = none) : Q (.ref p) (upd H p (.tup vs)) :=
  h (.ref p) (upd G p (.tup vs)) _ μ (Step.laid a hp) (r.laid a hp) ⟨p, vs, rfl, .inl (.inl upd_same), rp.go (Step.laid a hp) a r⟩
theorem noImgN (a : Sub G H) (r : RelS K mg μ S G) {p : Addr} (hp : H p = none) : NoImg μ S.length p := fun i hi z => by
  obtain ⟨x, e, _⟩ := r.at hi
  rw [z, a.none hp] at e; cases e
theorem PostV.lstN {ds : List D} {vs : List V} {p : Addr} (h : PostV K mg (.ok (.lst ds) S) G H μ S.length Q) (a : Sub G H) (r : RelS K mg μ S G) (rp : RepVs K mg G μ S.length ds vs) (hp : H p = none) : Q (.ref p) (upd H p (.lst vs)) :=
  h (.ref p) (upd G p (.lst vs)) _ μ (Step.laid a hp) (r.laid a hp) ⟨p, vs, rfl, upd_same, noImgN a r hp, rp.go (Step.laid a hp) a r⟩
theorem PostV.dctN {ks : List Key} {ds : List D} {kvs : List (Key × V)} {p : Addr} (h : PostV K mg (.ok (.dct ks ds) S) G H μ S.length Q) (a : Sub G H) (r : RelS K mg μ S G) (hk : kvs.map (·.1) = ks) (rp : RepVs K mg G μ S.length ds (kvs.map (·.2))) (hp : H p = none) : Q (.ref p) (upd H p (.dK kvs)) :=
  h (.ref p) (upd G p (.dK kvs)) _ μ (Step.laid a hp) (r.laid a hp) ⟨p, kvs, rfl, upd_same, noImgN a r hp, hk, rp.go (Step.laid a hp) a r⟩
theorem PostV.lstA {ds : List D} {vs : List V} {p : Addr} (h : PostV K mg (.ok (.ref S.length) (S ++ [.lst ds])) G H μ S.length Q) (a : Sub G H) (r : RelS K mg μ S G) (rp : RepVs K mg G μ S.length ds vs) (hp : H p = none) : Q (.ref p) (upd H p (.lst vs)) := by
  have hl : (S ++ [Ob.lst ds]).length = S.length + 1 := by simp
  refine h (.ref p) (upd G p (.lst vs)) _ (Ev.ext μ S.length p) ?_ (r.newS a hp fun G' st e => ?_) ?_
  · rw [hl]; exact Step.newS a hp
  · subst e
    exact ⟨vs, upd_same, rp.go st a r⟩
  · rw [hl]
    exact ⟨Nat.lt_succ_self _, by rw [ext_same]⟩
theorem PostV.dctA {ks : List Key} {ds : List D} {kvs : List (Key × V)} {p : Addr} (h : PostV K mg (.ok (.ref S.length) (S ++ [.dct ks ds])) G H μ S.length Q) (a : Sub G H) (r : RelS K mg μ S G) (hk : kvs.map (·.1) = ks) (rp : RepVs K mg G μ S.length ds (kvs.map (·.2))) (hp : H p = none) : Q (.ref p) (upd H p (.dK kvs)) := by
  have hl : (S ++ [Ob.dct ks ds]).length = S.length + 1 := by simp
  refine h (.ref p) (upd G p (.dK kvs)) _ (Ev.ext μ S.length p) ?_ (r.newS a hp fun G' st e => ?_) ?_
  · rw [hl]; exact Step.newS a hp
  · subst e
    exact ⟨kvs, upd_same, hk, rp.go st a r⟩
  · rw [hl]
    exact ⟨Nat.lt_succ_self _, by rw [ext_same]⟩
/-- an object of the store is changed -/
theorem PostV.wrL {d : D} {i : Nat} {xs : List D} {vs : List V} {v : V} (h : PostV K mg (.ok d (S.set i (.lst xs))) G H μ S.length Q) (a : Sub G H) (r : RelS K mg μ S G) (hi : i < S.length) (rp : RepVs K mg G μ S.length xs vs)
    (rv : RepV K mg G μ S.length d v) : Q v (upd H (μ i) (.lst vs)) := by
  obtain ⟨y, ey, _⟩ := r.at hi
  have st : Step G H μ S.length (upd G (μ i) (.lst vs)) (upd H (μ i) (.lst vs)) μ S.length := Step.wr a hi (by rw [ey]; exact fun z => nomatch z) (.inl ⟨_, rfl⟩)
  have hl : (S.set i (Ob.lst xs)).length = S.length := by simp
  refine h v _ _ μ (by rw [hl]; exact st) (r.wr a hi ⟨vs, upd_same, rp.go st a r⟩) (by rw [hl]; exact rv.go st a r)
theorem PostV.wrD {d : D} {i : Nat} {ks : List Key} {xs : List D} {kvs : List (Key × V)} {v : V} (h : PostV K mg (.ok d (S.set i (.dct ks xs))) G H μ S.length Q) (a : Sub G H) (r : RelS K mg μ S G) (hi : i < S.length) (hk : kvs.map (·.1) = ks) (rp : RepVs K mg G μ S.length xs (kvs.map (·.2)))
    (rv : RepV K mg G μ S.length d v) : Q v (upd H (μ i) (.dK kvs)) := by
  obtain ⟨y, ey, _⟩ := r.at hi
  have st : Step G H μ S.length (upd G (μ i) (.dK kvs)) (upd H (μ i) (.dK kvs)) μ S.length := Step.wr a hi (by rw [ey]; exact fun z => nomatch z) (.inr (.inl ⟨_, rfl⟩))
  have hl : (S.set i (Ob.dct ks xs)).length = S.length := by simp
  refine h v _ _ μ (by rw [hl]; exact st) (r.wr a hi ⟨kvs, upd_same, hk, rp.go st a r⟩) (by rw [hl]; exact rv.go st a r)

/-! ### lists, tuples, dicts by their data -/
def asL (S : Sto) : D → Option (List D)
  | .lst xs => some xs
  | .ref n => match S[n]? with
    | some (.lst xs) => some xs
    | _ => none
  | _ => none
/-- what may be read as a sequence -/
def asQ (S : Sto) : D → Option (List D)
  | .tup xs => some xs
  | .wtp xs => some xs
  | .scr ns => some (ns.map .int)
  | d => asL S d
theorem asL_rep (r : RelS K mg μ S G) {d : D} {v : V} {xs : List D} (rp : RepV K mg G μ S.length d v) (h : asL S d = some xs) : ∃ a vs, v = .ref a ∧ G a = some (.lst vs) ∧ RepVs K mg G μ S.length xs vs := by
  cases d with
  | lst ys =>
    obtain ⟨a, vs, e, q, _, rr⟩ := rp
    cases h
    exact ⟨a, vs, e, q, rr⟩
  | ref n =>
    obtain ⟨hn, e⟩ := rp
    simp only [asL] at h
    cases q : S[n]? with
    | none => rw [q] at h; cases h
    | some o =>
      rw [q] at h
      cases o with
      | lst ys =>
        cases h
        obtain ⟨vs, h1, h2⟩ := r.sto n _ q
        exact ⟨_, vs, e, h1, h2⟩
      | dct _ _ => cases h
      | dcu _ _ => cases h
  | _ => cases h
theorem asQ_rep (a : Sub G H) (r : RelS K mg μ S G) {d : D} {v : V} {xs : List D} (rp : RepV K mg G μ S.length d v) (h : asQ S d = some xs) : ∃ b vs, v = .ref b ∧ (SqL K H b vs ∨ SqT K H b vs) ∧ RepVs K mg G μ S.length xs vs := by
  have lcase : asL S d = some xs → ∃ b vs, v = .ref b ∧ (SqL K H b vs ∨ SqT K H b vs) ∧ RepVs K mg G μ S.length xs vs := fun h => by
    obtain ⟨b, vs, e, q, rr⟩ := asL_rep r rp h
    exact ⟨b, vs, e, .inl (.inl (.inl (a _ _ q))), rr⟩
  cases d with
  | wtp ys =>
    obtain ⟨b, vs, e, q, rr⟩ := rp
    cases h
    exact ⟨b, vs, e, .inr (a.seqT q), rr⟩
  | tup ys =>
    obtain ⟨b, vs, e, q, rr⟩ := rp
    cases h
    exact ⟨b, vs, e, .inr (a.seqT q.sq), rr⟩
  | scr ns =>
    obtain ⟨b, e, q⟩ := rp
    cases h
    exact ⟨b, _, e, .inl (scr_rd a q), RepVs.ints ns⟩
  | lst ys => exact lcase h
  | ref n => exact lcase h
  | _ => cases h
def asD (S : Sto) : D → Option (List Key × List D)
  | .dct ks xs => some (ks, xs)
  | .ref n => match S[n]? with
    | some (.dct ks xs) => some (ks, xs)
    | _ => none
  | _ => none
theorem asD_rep (r : RelS K mg μ S G) {d : D} {v : V} {kx : List Key × List D} (rp : RepV K mg G μ S.length d v) (h : asD S d = some kx) : ∃ a kvs, v = .ref a ∧ G a = some (.dK kvs) ∧ kvs.map (·.1) = kx.1 ∧ RepVs K mg G μ S.length kx.2 (kvs.map (·.2)) := by
  cases d with
  | dct ks ys =>
    obtain ⟨a, vs, e, q, _, k, rr⟩ := rp
    cases h
    exact ⟨a, vs, e, q, k, rr⟩
  | ref n =>
    obtain ⟨hn, e⟩ := rp
    simp only [asD] at h
    cases q : S[n]? with
    | none => rw [q] at h; cases h
    | some o =>
      rw [q] at h
      cases o with
      | dct ks ys =>
        cases h
        obtain ⟨vs, h1, h2, h3⟩ := r.sto n _ q
        exact ⟨_, vs, e, h1, h2, h3⟩
      | dcu _ _ => cases h
      | lst _ => cases h
  | _ => cases h
/-! ### plain data as the model's -/
mutual
def D.py : D → Option PyData
  | .non => some .none
  | .bl b => some (.bool b)
  | .int i => some (.int i)
  | .str s => some (.str s)
  | .tup xs => match D.pys xs with | some ps => some (.tuple ps) | none => none
  | .lst xs => match D.pys xs with | some ps => some (.list ps) | none => none
  | .wtp xs => match D.pys xs with | some ps => some (.tuple ps) | none => none
  | _ => none
def D.pys : List D → Option (List PyData)
  | [] => some []
  | d :: ds => match D.py d with
    | some p => match D.pys ds with | some ps => some (p :: ps) | none => none
    | none => none
end
mutual
theorem D.py_rep (a : Sub G H) {n : Nat} : ∀ (d : D) {v : V} {p : PyData}, RepV K mg G μ n d v → d.py = some p → Dp K H v p
  | .non, v, p, r, h => by cases h; rw [show v = .non from r]; exact .non
  | .bl b, v, p, r, h => by cases h; rw [show v = .bl b from r]; exact .bl b
  | .int i, v, p, r, h => by cases h; rw [show v = .int i from r]; exact .int i
  | .str s, v, p, r, h => by cases h; rw [show v = .str s from r]; exact .str s
  | .tup xs, v, p, r, h => by
    obtain ⟨b, vs, e, q, rr⟩ := r
    unfold D.py at h
    cases e2 : D.pys xs with
    | none => rw [e2] at h; cases h
    | some ps =>
      rw [e2] at h
      cases h
      rw [e]
      exact .tup (a.seqT q.sq) (D.pys_rep a xs rr e2)
  | .lst xs, v, p, r, h => by
    obtain ⟨b, vs, e, q, _, rr⟩ := r
    unfold D.py at h
    cases e2 : D.pys xs with
    | none => rw [e2] at h; cases h
    | some ps =>
      rw [e2] at h
      cases h
      rw [e]
      exact .lst (.inl (.inl (a _ _ q))) (D.pys_rep a xs rr e2)
  | .wtp xs, v, p, r, h => by
    obtain ⟨b, vs, e, q, rr⟩ := r
    unfold D.py at h
    cases e2 : D.pys xs with
    | none => rw [e2] at h; cases h
    | some ps =>
      rw [e2] at h
      cases h
      rw [e]
      exact .tup (a.seqT q) (D.pys_rep a xs rr e2)
  | .dct _ _, _, _, _, h => by cases h
  | .scr _, _, _, _, h => by cases h
  | .ref _, _, _, _, h => by cases h
  | .fn _, _, _, _, h => by cases h
theorem D.pys_rep (a : Sub G H) {n : Nat} : ∀ (ds : List D) {vs : List V} {ps : List PyData}, RepVs K mg G μ n ds vs → D.pys ds = some ps → DpAll K H vs ps
  | [], vs, ps, r, h => by cases h; rw [show vs = [] from r]; exact .nil
  | d :: ds, vs, ps, r, h => by
    obtain ⟨v, r', e, r1, r2⟩ := r
    unfold D.pys at h
    cases e1 : D.py d with
    | none => rw [e1] at h; cases h
    | some p =>
      rw [e1] at h
      simp only at h
      cases e2 : D.pys ds with
      | none => rw [e2] at h; cases h
      | some qs =>
        rw [e2] at h
        cases h
        rw [e]
        exact .cons (D.py_rep a d r1 e1) (D.pys_rep a ds r2 e2)
end
/-- .. or a list of the store whose items are plain -/
def toPy (S : Sto) : D → Option PyData
  | .ref n => match S[n]? with
    | some (.lst xs) => match D.pys xs with | some ps => some (.list ps) | none => none
    | _ => none
  | d => d.py
theorem toPy_rep (a : Sub G H) (r : RelS K mg μ S G) {d : D} {v : V} {p : PyData} (rp : RepV K mg G μ S.length d v) (h : toPy S d = some p) : Dp K H v p := by
  cases d with
  | ref n =>
    obtain ⟨hn, e⟩ := rp
    simp only [toPy] at h
    cases q : S[n]? with
    | none => rw [q] at h; cases h
    | some o =>
      rw [q] at h
      cases o with
      | dct _ _ => cases h
      | dcu _ _ => cases h
      | lst ys =>
        simp only at h
        obtain ⟨vs, h1, h2⟩ := r.sto n _ q
        cases e2 : D.pys ys with
        | none => rw [e2] at h; cases h
        | some ps =>
          rw [e2] at h
          cases h
          rw [e]
          exact .lst (.inl (.inl (a _ _ h1))) (D.pys_rep a ys h2 e2)
  | _ => exact D.py_rep a _ rp h
end

/-! ### names, constants -/
section
variable {X : Cx} {e a b c : Expr} {es : List Expr} {ma mb mc : ME} {pos : Pos}
@[reducible] def mVar (i : Nat) : ME := fun sl S => match sl[i]? with
  | some (some d) => .ok d S
  | _ => .bad
@[reducible] def mC (d : D) : ME := fun _ S => .ok d S
theorem ev_var (i : Nat) {x : Str} {p : Pos} (h : PE X (.Name x p) (tVar i)) : EvE X (.Name x p) (mVar i) := PE.imp h fun σ H Q ⟨G, μ, sl, S, A, post⟩ => by
  unfold mVar at post
  cases e1 : sl[i]? with
  | none => rw [e1] at post; exact post.elim
  | some o =>
    cases o with
    | none => rw [e1] at post; exact post.elim
    | some d =>
      rw [e1] at post
      obtain ⟨v, e2, rp⟩ := A.slo.2 i d e1
      exact ⟨v, e2, post.here A.sub A.rel rp⟩
theorem ev_c {v : V} {d : D} (h : PE X e (tC v)) (r : ∀ G μ n, RepV X.K X.mg G μ n d v) : EvE X e (mC d) := PE.imp h fun σ H Q ⟨G, μ, sl, S, A, post⟩ => PostV.here post A.sub A.rel (r _ _ _)
theorem ev_int {i : Int} {j : Nat} {p : Pos} : EvE X (.Constant (.int i) j p) (mC (.int i)) := ev_c pe_int fun _ _ _ => rfl
theorem ev_str {i : Str} {j : Nat} {p : Pos} : EvE X (.Constant (.str i) j p) (mC (.str i)) := ev_c pe_str fun _ _ _ => rfl
theorem ev_bl {i : Bool} {j : Nat} {p : Pos} : EvE X (.Constant (.bool i) j p) (mC (.bl i)) := ev_c pe_bl fun _ _ _ => rfl
theorem ev_non {j : Nat} {p : Pos} : EvE X (.Constant .none j p) (mC .non) := ev_c pe_non fun _ _ _ => rfl
/-- a module's number, text -/
theorem ev_gint {x : Str} {i : Int} {p : Pos} (hg : Gl X x) (hm : ∃ t, X.mg x = some (.int i t)) (hd : (x == ("__debug__" : Str)) = false := by decide) : EvE X (.Name x p) (mC (.int i)) := by
  obtain ⟨t, hm⟩ := hm
  exact ev_c (pe_glob (v := .int i) hg hm ⟨t, rfl⟩ hd) fun _ _ _ => rfl
theorem ev_gstr {x : Str} {i : Str} {p : Pos} (hg : Gl X x) (hm : ∃ t, X.mg x = some (.str i t)) (hd : (x == ("__debug__" : Str)) = false := by decide) : EvE X (.Name x p) (mC (.str i)) := by
  obtain ⟨t, hm⟩ := hm
  exact ev_c (pe_glob (v := .str i) hg hm ⟨t, rfl⟩ hd) fun _ _ _ => rfl
theorem ev_gfn {x : Str} {f : Addr} {p : Pos} (hg : Gl X x) (hm : X.mg x = some (.ref f)) (hd : (x == ("__debug__" : Str)) = false := by decide) : EvE X (.Name x p) (mC (.fn x)) :=
  ev_c (pe_glob (v := .ref f) hg hm rfl hd) fun _ _ _ => ⟨f, hm, rfl⟩

/-! ### operators by values -/
abbrev F2 := Sto → D → D → Res D
def OpS (K : PySem.W.Frag) (mg : Str → Option Value) (r : R2) (f : F2) : Prop := ∀ (G H : Hp) (μ : Nat → Addr) (S : Sto) (d1 d2 : D) (v1 v2 : V) (Q : VK), Sub G H → RelS K mg μ S G → RepV K mg G μ S.length d1 v1 → RepV K mg G μ S.length d2 v2 →
  PostV K mg (f S d1 d2) G H μ S.length Q → r v1 v2 H Q
theorem tOp_of {K : PySem.W.Frag} {mg : Str → Option Value} {r : R2} {f : F2} (hf : OpS K mg r f) {σ : L2.St} {H : Hp} {Q : VK} (h : tE K mg (fun sl S => (ma sl S).bind fun x S1 => (mb sl S1).bind fun y S2 => f S2 x y) σ H Q) : tOp r (tE K mg ma) (tE K mg mb) σ H Q := by
  obtain ⟨G, μ, sl, S, A, post⟩ := h
  refine ⟨G, μ, sl, S, A, bindV A post fun d1 S1 v1 G1 H1 μ1 st1 A1 r1 p1 => ?_⟩
  refine ⟨G1, μ1, sl, S1, A1, bindV A1 p1 fun d2 S2 v2 G2 H2 μ2 st2 A2 r2 p2 => ?_⟩
  exact hf G2 H2 μ2 S2 d1 d2 v1 v2 Q A2.sub A2.rel (r1.go st2 A1.sub A1.rel) r2 p2
@[reducible] def mBin (f : F2) (ma mb : ME) : ME := fun sl S => (ma sl S).bind fun x S1 => (mb sl S1).bind fun y S2 => f S2 x y
theorem ev_bin {op : Operator} {r : R2} {f : F2} (ho : OpR X (binaryOp op) r) (hf : OpS X.K X.mg r f) (ha : EvE X a ma) (hb : EvE X b mb) : EvE X (.BinOp a op b pos) (mBin f ma mb) := PE.imp (pe_op ho ha hb) fun _ _ _ h => tOp_of hf h
theorem ev_cmp {op : CmpOp} {r : R2} {f : F2} (ho : OpR X (compareOp op) r) (hf : OpS X.K X.mg r f) (hm : behindInMarks op b = false) (ha : EvE X a ma) (hb : EvE X b mb) : EvE X (.Compare a [op] [b] pos) (mBin f ma mb) := PE.imp (pe_cmpR ho ha hb hm) fun _ _ _ h => tOp_of hf h
theorem ev_ixR {r : R2} {f : F2} (ho : IxR X r) (hf : OpS X.K X.mg r f) (ha : EvE X a ma) (hb : EvE X b mb) (hs : PlainIx b) : EvE X (.Subscript a b pos) (mBin f ma mb) := PE.imp (pe_ix ho ha hb hs) fun _ _ _ h => tOp_of hf h
/-- as a test -/
@[reducible] def mTst (ma : ME) : MT := fun sl S => (ma sl S).bind fun d S1 => match d with
  | .bl b => .ok b S1
  | _ => .bad
theorem tB_of {K : PySem.W.Frag} {mg : Str → Option Value} {σ : L2.St} {H : Hp} {Q : Bool → Hp → Prop} (h : tT K mg (mTst ma) σ H Q) : tB (tE K mg ma) σ H Q := by
  obtain ⟨G, μ, sl, S, A, post⟩ := h
  refine ⟨G, μ, sl, S, A, bindVT A post fun d S1 v1 G1 H1 μ1 st1 A1 r1 p1 => ?_⟩
  cases d with
  | bl b => exact ⟨b, r1, p1 G1 H1 μ1 (Step.refl A1.sub) A1.rel⟩
  | _ => exact p1.elim
theorem et_val (h : EvE X e ma) (he : ∀ whole, isTrue e X.env whole = (do let v ← whole; standAt e.pos; holding [v] (truthy v)) := by intro _; rfl) : EvT X e (mTst ma) := PT.imp (pt_val h he) fun _ _ _ h => tB_of h
theorem et_cmp {op : CmpOp} {r : R2} {f : F2} (ho : OpR X (compareOp op) r) (hf : OpS X.K X.mg r f) (hm : behindInMarks op b = false) (ha : EvE X a ma) (hb : EvE X b mb) : EvT X (.Compare a [op] [b] pos) (mTst (mBin f ma mb)) :=
  PT.imp (pt_cmpR ho ha hb hm) fun σ H Q h => by
    obtain ⟨G, μ, sl, S, A, post⟩ := h
    refine ⟨G, μ, sl, S, A, ?_⟩
    have p : PostT X.K X.mg ((ma sl S).bind fun x S1 => ((mb sl S1).bind fun y S2 => f S2 x y).bind fun d S1 => match d with | .bl b => .ok b S1 | _ => .bad) G H μ S.length Q := by
      have e : mTst (mBin f ma mb) sl S = ((ma sl S).bind fun x S1 => ((mb sl S1).bind fun y S2 => f S2 x y).bind fun d S1 => match d with | .bl b => .ok b S1 | _ => .bad) := by
        unfold mTst mBin
        cases ma sl S <;> rfl
      rw [← e]; exact post
    refine bindVT A p fun d1 S1 v1 G1 H1 μ1 st1 A1 r1 p1 => ?_
    refine ⟨G1, μ1, sl, S1, A1, ?_⟩
    have e2 : (((mb sl S1).bind fun y S2 => f S2 d1 y).bind fun d S1 => match d with | .bl b => .ok b S1 | _ => .bad) = ((mb sl S1).bind fun y S2 => (f S2 d1 y).bind fun d S1 => match d with | .bl b => Res.ok b S1 | _ => .bad) := by
      cases mb sl S1 <;> rfl
    rw [e2] at p1
    refine bindVT A1 p1 fun d2 S2 v2 G2 H2 μ2 st2 A2 r2 p2 => ?_
    refine hf G2 H2 μ2 S2 d1 d2 v1 v2 _ A2.sub A2.rel (r1.go st2 A1.sub A1.rel) r2 ?_
    refine bindVT A2 p2 fun d3 S3 v3 G3 H3 μ3 st3 A3 r3 p3 => ?_
    cases d3 with
    | bl b => exact ⟨b, r3, p3 G3 H3 μ3 (Step.refl A3.sub) A3.rel⟩
    | _ => exact p3.elim
/-- a < b < c -/
@[reducible] def mChain (f g : F2) (ma mb mc : ME) : ME := fun sl S => (ma sl S).bind fun x S1 => (mb sl S1).bind fun y S2 => (f S2 x y).bind fun z S3 => match z with
  | .bl true => (mc sl S3).bind fun u S4 => g S4 y u
  | .bl false => .ok (.bl false) S3
  | _ => .bad
theorem bindVV2 {K : PySem.W.Frag} {mg : Str → Option Value} {G H : Hp} {μ : Nat → Addr} {S : Sto} {sl : Sl} {σ : L2.St} {r : Res D} {Q : V → Hp → Prop} (A : At K mg G H μ S sl σ) (h : PostV K mg r G H μ S.length Q) : PostV K mg r G H μ S.length Q := h
section
variable {op op' : CmpOp} {r r' : R2} {f g : F2}
theorem tChain_of {K : PySem.W.Frag} {mg : Str → Option Value} (hf : OpS K mg r f) (hg : OpS K mg r' g) {σ : L2.St} {H : Hp} {Q : VK} (h : tE K mg (mChain f g ma mb mc) σ H Q) :
    (tE K mg ma) σ H fun x H1 => (tE K mg mb) σ H1 fun y H2 => r x y H2 fun z H3 => ∃ k, z = .bl k ∧ if k = true then (tE K mg mc) σ H3 fun u H4 => r' y u H4 Q else Q (.bl false) H3 := by
  obtain ⟨G, μ, sl, S, A, post⟩ := h
  refine ⟨G, μ, sl, S, A, bindV A post fun d1 S1 v1 G1 H1 μ1 st1 A1 r1 p1 => ?_⟩
  refine ⟨G1, μ1, sl, S1, A1, bindV A1 p1 fun d2 S2 v2 G2 H2 μ2 st2 A2 r2 p2 => ?_⟩
  refine hf G2 H2 μ2 S2 d1 d2 v1 v2 _ A2.sub A2.rel (r1.go st2 A1.sub A1.rel) r2 ?_
  refine bindV A2 p2 fun d3 S3 v3 G3 H3 μ3 st3 A3 r3 p3 => ?_
  cases d3 with
  | bl k =>
    refine ⟨k, r3, ?_⟩
    cases k with
    | true =>
      rw [if_pos rfl]
      refine ⟨G3, μ3, sl, S3, A3, bindV A3 p3 fun d4 S4 v4 G4 H4 μ4 st4 A4 r4 p4 => ?_⟩
      exact hg G4 H4 μ4 S4 d2 d4 v2 v4 Q A4.sub A4.rel (((r2.go st3 A2.sub A2.rel)).go st4 A3.sub A3.rel) r4 p4
    | false =>
      rw [if_neg Bool.false_ne_true]
      exact p3.here A3.sub A3.rel rfl
  | _ => exact p3.elim
theorem ev_chain (ho : OpR X (compareOp op) r) (hf : OpS X.K X.mg r f) (ho' : OpR X (compareOp op') r') (hg : OpS X.K X.mg r' g) (ha : EvE X a ma) (hb : EvE X b mb) (hc : EvE X c mc) (hm : lastMarks [op, op'] [b, c] = false := by with_unfolding_all rfl) :
    EvE X (.Compare a [op, op'] [b, c] pos) (mChain f g ma mb mc) := PE.imp (pe_chain ho ho' ha hb hc hm) fun _ _ _ h => tChain_of hf hg h
theorem tTest_of {K : PySem.W.Frag} {mg : Str → Option Value} {m : ME} {t : TE} {σ : L2.St} {H : Hp} {Q : Bool → Hp → Prop} (ht : ∀ σ H Q, tE K mg m σ H Q → t σ H Q) (h : tT K mg (mTst m) σ H Q) : tTest t σ H Q := ht σ H _ (tB_of h)
theorem et_chain (ho : OpR X (compareOp op) r) (hf : OpS X.K X.mg r f) (ho' : OpR X (compareOp op') r') (hg : OpS X.K X.mg r' g) (ha : EvE X a ma) (hb : EvE X b mb) (hc : EvE X c mc) (hm : lastMarks [op, op'] [b, c] = false := by with_unfolding_all rfl) :
    EvT X (.Compare a [op, op'] [b, c] pos) (mTst (mChain f g ma mb mc)) := PT.imp (pt_chain ho ho' ha hb hc hm) fun _ _ _ h => tTest_of (t := tChain r r' (tE X.K X.mg ma) (tE X.K X.mg mb) (tE X.K X.mg mc)) (fun _ _ _ h => tChain_of hf hg h) h
end
/-! ### and, or, not, if -/
section
variable {ta' tb' : MT} {rest : List Expr}
@[reducible] def mNotT (t : MT) : MT := fun sl S => (t sl S).bind fun k S1 => .ok (!k) S1
@[reducible] def mAndT (t u : MT) : MT := fun sl S => (t sl S).bind fun k S1 => match k with
  | true => u sl S1
  | false => .ok false S1
@[reducible] def mOrT (t u : MT) : MT := fun sl S => (t sl S).bind fun k S1 => match k with
  | true => .ok true S1
  | false => u sl S1
abbrev EvW (X : Cx) (e : Expr) (m : MT) : Prop := PW X e (tT X.K X.mg m)
theorem PW.imp {e : Expr} {t t' : TT} (h : PW X e t) (i : ∀ σ H Q, t' σ H Q → t σ H Q) : PW X e t' := ⟨fun wh pins s σ H Q I q => h.run wh pins s σ H Q I (i σ H Q q)⟩
theorem et_not (h : EvT X a ta') : EvT X (.UnaryOp .Not a pos) (mNotT ta') := PT.imp (pt_not h) fun σ H Q ⟨G, μ, sl, S, A, post⟩ =>
  ⟨G, μ, sl, S, A, bindTT A post fun d S1 G1 H1 μ1 st1 A1 p1 => p1 G1 H1 μ1 (Step.refl A1.sub) A1.rel⟩
theorem ew_and1 (h : EvT X a ta') : EvW X (.BoolOp .And [a] pos) ta' := pw_and1 h
theorem ew_or1 (h : EvT X a ta') : EvW X (.BoolOp .Or [a] pos) ta' := pw_or1 h
theorem ew_and (h : EvT X a ta') (h2 : EvW X (.BoolOp .And (b :: rest) pos) tb') : EvW X (.BoolOp .And (a :: b :: rest) pos) (mAndT ta' tb') := PW.imp (pw_and h h2) fun σ H Q ⟨G, μ, sl, S, A, post⟩ =>
  ⟨G, μ, sl, S, A, bindTT A post fun d S1 G1 H1 μ1 st1 A1 p1 => by
    cases d with
    | true => rw [if_pos rfl]; exact ⟨G1, μ1, sl, S1, A1, p1⟩
    | false => rw [if_neg Bool.false_ne_true]; exact p1 G1 H1 μ1 (Step.refl A1.sub) A1.rel⟩
theorem ew_or (h : EvT X a ta') (h2 : EvW X (.BoolOp .Or (b :: rest) pos) tb') : EvW X (.BoolOp .Or (a :: b :: rest) pos) (mOrT ta' tb') := PW.imp (pw_or h h2) fun σ H Q ⟨G, μ, sl, S, A, post⟩ =>
  ⟨G, μ, sl, S, A, bindTT A post fun d S1 G1 H1 μ1 st1 A1 p1 => by
    cases d with
    | false => rw [if_neg Bool.false_ne_true]; exact ⟨G1, μ1, sl, S1, A1, p1⟩
    | true => rw [if_pos rfl]; exact p1 G1 H1 μ1 (Step.refl A1.sub) A1.rel⟩
theorem et_w (h : EvW X a ta') : EvT X a ta' := PW.pt h
@[reducible] def mAndV (ma mb : ME) : ME := fun sl S => (ma sl S).bind fun k S1 => match k with
  | .bl true => mb sl S1
  | .bl false => .ok (.bl false) S1
  | _ => .bad
@[reducible] def mOrV (ma mb : ME) : ME := fun sl S => (ma sl S).bind fun k S1 => match k with
  | .bl true => .ok (.bl true) S1
  | .bl false => mb sl S1
  | _ => .bad
@[reducible] def mNotV (ma : ME) : ME := fun sl S => (ma sl S).bind fun k S1 => match k with
  | .bl k => .ok (.bl (!k)) S1
  | _ => .bad
@[reducible] def mIf (t : MT) (ma mb : ME) : ME := fun sl S => (t sl S).bind fun k S1 => match k with
  | true => ma sl S1
  | false => mb sl S1
theorem ev_one {op : BoolOp} (h : EvE X a ma) : EvE X (.BoolOp op [a] pos) ma := pe_one h
theorem ev_and (h : EvE X a ma) (h2 : EvE X (.BoolOp .And (b :: rest) pos) mb) : EvE X (.BoolOp .And (a :: b :: rest) pos) (mAndV ma mb) := PE.imp (pe_and h h2) fun σ H Q ⟨G, μ, sl, S, A, post⟩ =>
  ⟨G, μ, sl, S, A, bindV A post fun d S1 v1 G1 H1 μ1 st1 A1 r1 p1 => by
    cases d with
    | bl k =>
      refine ⟨k, r1, ?_⟩
      cases k with
      | true => rw [if_pos rfl]; exact ⟨G1, μ1, sl, S1, A1, p1⟩
      | false => rw [if_neg Bool.false_ne_true]; exact p1.here A1.sub A1.rel rfl
    | _ => exact p1.elim⟩
theorem ev_or (h : EvE X a ma) (h2 : EvE X (.BoolOp .Or (b :: rest) pos) mb) : EvE X (.BoolOp .Or (a :: b :: rest) pos) (mOrV ma mb) := PE.imp (pe_or h h2) fun σ H Q ⟨G, μ, sl, S, A, post⟩ =>
  ⟨G, μ, sl, S, A, bindV A post fun d S1 v1 G1 H1 μ1 st1 A1 r1 p1 => by
    cases d with
    | bl k =>
      refine ⟨k, r1, ?_⟩
      cases k with
      | false => rw [if_neg Bool.false_ne_true]; exact ⟨G1, μ1, sl, S1, A1, p1⟩
      | true => rw [if_pos rfl]; exact p1.here A1.sub A1.rel rfl
    | _ => exact p1.elim⟩
theorem ev_not (h : EvE X a ma) : EvE X (.UnaryOp .Not a pos) (mNotV ma) := PE.imp (pe_not h) fun σ H Q ⟨G, μ, sl, S, A, post⟩ =>
  ⟨G, μ, sl, S, A, bindV A post fun d S1 v1 G1 H1 μ1 st1 A1 r1 p1 => by
    cases d with
    | bl k => exact ⟨k, r1, p1.here A1.sub A1.rel rfl⟩
    | _ => exact p1.elim⟩
theorem ev_if (h : EvT X c ta') (h1 : EvE X a ma) (h2 : EvE X b mb) : EvE X (.IfExp c a b pos) (mIf ta' ma mb) := PE.imp (pe_ifExp h h1 h2) fun σ H Q ⟨G, μ, sl, S, A, post⟩ =>
  ⟨G, μ, sl, S, A, bindTV A post fun d S1 G1 H1 μ1 st1 A1 p1 => by
    cases d with
    | true => rw [if_pos rfl]; exact ⟨G1, μ1, sl, S1, A1, p1⟩
    | false => rw [if_neg Bool.false_ne_true]; exact ⟨G1, μ1, sl, S1, A1, p1⟩⟩
end
/-! ### argument lists, displays -/
section
variable {as : MA}
@[reducible] def mNil : MA := fun _ S => .ok [] S
@[reducible] def mCons (ma : ME) (mr : MA) : MA := fun sl S => (ma sl S).bind fun d S1 => (mr sl S1).bind fun ds S2 => .ok (d :: ds) S2
theorem ea_nil : EvA X [] mNil := PA.imp pa_nil fun σ H Q ⟨G, μ, sl, S, A, post⟩ => post [] G H μ (Step.refl A.sub) A.rel rfl
theorem ea_cons (ha : EvE X e ma) (hr : EvA X es as) (hs : starEach (e :: es) X.env = (false, eval e X.env) :: starEach es X.env := by rfl) : EvA X (e :: es) (mCons ma as) := PA.imp (pa_cons ha hr hs) fun σ H Q ⟨G, μ, sl, S, A, post⟩ =>
  ⟨G, μ, sl, S, A, bindVA A post fun d S1 v1 G1 H1 μ1 st1 A1 r1 p1 =>
    ⟨G1, μ1, sl, S1, A1, bindAA A1 p1 fun ds S2 vs G2 H2 μ2 st2 A2 r2 p2 => p2 (v1 :: vs) G2 H2 μ2 (Step.refl A2.sub) A2.rel (.cons (r1.go st2 A1.sub A1.rel) r2)⟩⟩
theorem lim_ok {n : Nat} (h : n ≤ 16777216) : n ≤ sizeLine := by rw [sizeLine_eq]; exact h
@[reducible] def mTup (as : MA) : ME := fun sl S => (as sl S).bind fun ds S1 => if ds.length ≤ 16777216 then .ok (.tup ds) S1 else .bad
@[reducible] def mLst (as : MA) : ME := fun sl S => (as sl S).bind fun ds S1 => if ds.length ≤ 16777216 then .ok (.lst ds) S1 else .bad
/-- a list that will be changed -/
@[reducible] def mLstA (as : MA) : ME := fun sl S => (as sl S).bind fun ds S1 => if ds.length ≤ 16777216 then .ok (.ref S1.length) (S1 ++ [.lst ds]) else .bad
theorem ev_tup {x1} (h : EvA X es as) : EvE X (.Tuple es x1 pos) (mTup as) := PE.imp (pe_tupP h) fun σ H Q ⟨G, μ, sl, S, A, post⟩ =>
  ⟨G, μ, sl, S, A, bindAV A post fun ds S1 vs G1 H1 μ1 st1 A1 r1 p1 => by
    by_cases hz : ds.length ≤ 16777216
    · rw [if_pos hz] at p1
      exact ⟨by rw [← r1.len]; exact lim_ok hz, fun p ob od hp => p1.tupN A1.sub A1.rel r1 od hp⟩
    · rw [if_neg hz] at p1; exact p1.elim⟩
theorem ev_lst (h : EvA X es as) : EvE X (.List es pos) (mLst as) := PE.imp (pe_lst h) fun σ H Q ⟨G, μ, sl, S, A, post⟩ =>
  ⟨G, μ, sl, S, A, bindAV A post fun ds S1 vs G1 H1 μ1 st1 A1 r1 p1 => by
    by_cases hz : ds.length ≤ 16777216
    · rw [if_pos hz] at p1
      exact ⟨by rw [← r1.len]; exact lim_ok hz, fun p hp => p1.lstN A1.sub A1.rel r1 hp⟩
    · rw [if_neg hz] at p1; exact p1.elim⟩
theorem ev_lstA (h : EvA X es as) : EvE X (.List es pos) (mLstA as) := PE.imp (pe_lst h) fun σ H Q ⟨G, μ, sl, S, A, post⟩ =>
  ⟨G, μ, sl, S, A, bindAV A post fun ds S1 vs G1 H1 μ1 st1 A1 r1 p1 => by
    by_cases hz : ds.length ≤ 16777216
    · rw [if_pos hz] at p1
      exact ⟨by rw [← r1.len]; exact lim_ok hz, fun p hp => p1.lstA A1.sub A1.rel r1 hp⟩
    · rw [if_neg hz] at p1; exact p1.elim⟩
/-! ### calls of built-ins by their values -/
abbrev FA := Sto → List D → Res D
def CallS (K : PySem.W.Frag) (mg : Str → Option Value) (r : List V → Hp → VK → Prop) (f : FA) : Prop := ∀ (G H : Hp) (μ : Nat → Addr) (S : Sto) (ds : List D) (vs : List V) (Q : VK), Sub G H → RelS K mg μ S G → RepVs K mg G μ S.length ds vs → PostV K mg (f S ds) G H μ S.length Q → r vs H Q
@[reducible] def mB (f : FA) (as : MA) : ME := fun sl S => (as sl S).bind fun ds S1 => f S1 ds
theorem tCB_of {K : PySem.W.Frag} {mg : Str → Option Value} {r : List V → Hp → VK → Prop} {f : FA} (hf : CallS K mg r f) {σ : L2.St} {H : Hp} {Q : VK} (h : tE K mg (mB f as) σ H Q) : tCB r (tA K mg as) σ H Q := by
  obtain ⟨G, μ, sl, S, A, post⟩ := h
  exact ⟨G, μ, sl, S, A, bindAV A post fun ds S1 vs G1 H1 μ1 st1 A1 r1 p1 => hf G1 H1 μ1 S1 ds vs Q A1.sub A1.rel r1 p1⟩
theorem ev_B {r : List V → Hp → VK → Prop} {f : FA} {id : String} {x : Str} {p : Pos} (hc : CallR X (.builtin id) r) (hf : CallS X.K X.mg r f) (hg : Gl X x) (hm : X.mg x = none) (hv : bootBuiltins x = some (.builtin id)) (ha : EvA X (e :: es) as) (hn : x ≠ "__name__" := by decide) (hdb : (x == ("__debug__" : Str)) = false := by decide)
    (he : starEach (e :: es) X.env = (false, eval e X.env) :: starEach es X.env := by rfl) (hpl : (backTo pos (starEach es X.env)).any (·.1) = false := by rfl) : EvE X (.Call (.Name x p) (e :: es) [] pos) (mB f as) := PE.imp (pe_callB hc hg hm hv ha hn hdb he hpl) fun _ _ _ h => tCB_of hf h
theorem ev_Ty {r : List V → Hp → VK → Prop} {f : FA} {T : String} {x : Str} {p : Pos} (hc : CallR X (.type T) r) (hf : CallS X.K X.mg r f) (hg : Gl X x) (hm : X.mg x = none) (hv : bootBuiltins x = some (.type T)) (ha : EvA X (e :: es) as) (hn : x ≠ "__name__" := by decide) (hdb : (x == ("__debug__" : Str)) = false := by decide)
    (he : starEach (e :: es) X.env = (false, eval e X.env) :: starEach es X.env := by rfl) (hpl : (backTo pos (starEach es X.env)).any (·.1) = false := by rfl) : EvE X (.Call (.Name x p) (e :: es) [] pos) (mB f as) := PE.imp (pe_callTy hc hg hm hv ha hn hdb he hpl) fun _ _ _ h => tCB_of hf h
end
end
end Ev

/-! Ev: the operators, subscripts, slices by data -/
namespace Ev
open PySem PySem.Spec PyProof.Rows L2
section
variable {X : Cx} {K : PySem.W.Frag} {mg : Str → Option Value}
theorem RepVs.nil_iff {G : Hp} {μ : Nat → Addr} {n : Nat} {ds : List D} {vs : List V} (h : RepVs K mg G μ n ds vs) : ds = [] ↔ vs = [] := by
  have := h.len
  constructor
  · intro e; subst e; exact List.length_eq_zero_iff.mp this.symm
  · intro e; subst e; exact List.length_eq_zero_iff.mp this
/-! ### + -/
def fCat (al : Bool) (S : Sto) (a b : D) : Res D := match asL S a, asL S b with
  | some xs, some ys => if xs.length + ys.length ≤ 16777216 then (if al = true then .ok (.ref S.length) (S ++ [.lst (xs ++ ys)]) else .ok (.lst (xs ++ ys)) S) else .bad
  | _, _ => .bad
def fAdd (al : Bool) : F2 := fun S a b => match a with
  | .int i => (match b with | .int j => .ok (.int (i + j)) S | _ => .bad)
  | .str x => (match b with | .str y => if x.length + y.length ≤ 16777216 then .ok (.str (x ++ y)) S else .bad | _ => .bad)
  | .tup xs => (match b with | .tup ys => if xs.length + ys.length ≤ 16777216 then .ok (.tup (xs ++ ys)) S else .bad | _ => .bad)
  | a => fCat al S a b
abbrev rAddI : R2 := rI0 fun i j => .int (i + j)
abbrev rAddS : R2 := fun x y H Q => ∃ i j, x = .str i ∧ y = .str j ∧ i.length + j.length ≤ sizeLine ∧ Q (.str (i ++ j)) H
abbrev rAddAll (K : PySem.W.Frag) : R2 := fun x y H Q => rAddI x y H Q ∨ (fun x y H Q => rAddS x y H Q ∨ (fun x y H Q => rCatP K x y H Q ∨ rCat x y H Q) x y H Q) x y H Q
theorem op_addAll : OpR X (binaryOp .Add) (rAddAll X.K) := op_add.or (op_add_str.or (op_catP.or op_cat))
theorem cat_rep {al : Bool} {G H : Hp} {μ : Nat → Addr} {S : Sto} {d1 d2 : D} {v1 v2 : V} {Q : VK} (a : Sub G H) (r : RelS K mg μ S G) (r1 : RepV K mg G μ S.length d1 v1) (r2 : RepV K mg G μ S.length d2 v2) (p : PostV K mg (fCat al S d1 d2) G H μ S.length Q) : rCat v1 v2 H Q := by
  unfold fCat at p
  cases e1 : asL S d1 with
  | none => rw [e1] at p; exact p.elim
  | some xs =>
    cases e2 : asL S d2 with
    | none => rw [e1, e2] at p; exact p.elim
    | some ys =>
      rw [e1, e2] at p
      obtain ⟨b1, vs, q1, g1, s1⟩ := asL_rep r r1 e1
      obtain ⟨b2, us, q2, g2, s2⟩ := asL_rep r r2 e2
      by_cases hz : xs.length + ys.length ≤ 16777216
      · simp only [if_pos hz] at p
        refine ⟨b1, b2, vs, us, q1, q2, a _ _ g1, a _ _ g2, by rw [← s1.len, ← s2.len]; exact lim_ok hz, fun p' hp => ?_⟩
        cases al with
        | true => exact PostV.lstA p a r (s1.app s2) hp
        | false => exact PostV.lstN p a r (s1.app s2) hp
      · simp only [if_neg hz] at p; exact p.elim
theorem os_add {al : Bool} : OpS K mg (rAddAll K) (fAdd al) := fun G H μ S d1 d2 v1 v2 Q a r r1 r2 p => by
  cases d1 with
  | int i =>
    cases d2 with
    | int j => exact .inl ⟨i, j, r1, r2, p.here a r rfl⟩
    | _ => exact p.elim
  | str x =>
    cases d2 with
    | str y =>
      have p : PostV K mg (if x.length + y.length ≤ 16777216 then .ok (.str (x ++ y)) S else .bad) G H μ S.length Q := p
      by_cases hz : x.length + y.length ≤ 16777216
      · rw [if_pos hz] at p
        exact .inr (.inl ⟨x, y, r1, r2, lim_ok hz, p.here a r rfl⟩)
      · rw [if_neg hz] at p; exact p.elim
    | _ => exact p.elim
  | tup xs =>
    cases d2 with
    | tup ys =>
      have p : PostV K mg (if xs.length + ys.length ≤ 16777216 then .ok (.tup (xs ++ ys)) S else .bad) G H μ S.length Q := p
      by_cases hz : xs.length + ys.length ≤ 16777216
      · rw [if_pos hz] at p
        obtain ⟨b1, vs, q1, g1, s1⟩ := r1
        obtain ⟨b2, us, q2, g2, s2⟩ := r2
        refine .inr (.inr (.inl ⟨b1, b2, vs, us, q1, q2, a.seqT g1.sq, a.seqT g2.sq, by rw [← s1.len, ← s2.len]; exact lim_ok hz, fun e => ?_, fun _ e => ?_, fun _ _ p' ob od hp => p.tupN a r (s1.app s2) od hp⟩))
        · rw [(RepVs.nil_iff s1).mpr e, List.nil_append] at p
          exact p.here a r ⟨b2, us, rfl, g2, s2⟩
        · rw [(RepVs.nil_iff s2).mpr e, List.append_nil] at p
          exact p.here a r ⟨b1, vs, rfl, g1, s1⟩
      · rw [if_neg hz] at p; exact p.elim
    | _ => exact p.elim
  | lst xs => exact .inr (.inr (.inr (cat_rep (al := al) a r r1 r2 p)))
  | ref n => exact .inr (.inr (.inr (cat_rep (al := al) a r r1 r2 p)))
  | non => exact .inr (.inr (.inr (cat_rep (al := al) a r r1 r2 p)))
  | bl b => exact .inr (.inr (.inr (cat_rep (al := al) a r r1 r2 p)))
  | dct k x => exact .inr (.inr (.inr (cat_rep (al := al) a r r1 r2 p)))
  | scr n => exact .inr (.inr (.inr (cat_rep (al := al) a r r1 r2 p)))
  | fn x => exact .inr (.inr (.inr (cat_rep (al := al) a r r1 r2 p)))
  | wtp x => exact .inr (.inr (.inr (cat_rep (al := al) a r r1 r2 p)))
  | adr x => exact .inr (.inr (.inr (cat_rep (al := al) a r r1 r2 p)))
  | exn x => exact .inr (.inr (.inr (cat_rep (al := al) a r r1 r2 p)))
  | err x => exact .inr (.inr (.inr (cat_rep (al := al) a r r1 r2 p)))
  | ktp x => exact .inr (.inr (.inr (cat_rep (al := al) a r r1 r2 p)))
/-! ### numbers -/
def fI (C : Int → Int → Bool) (g : Int → Int → D) : F2 := fun S a b => match a with
  | .int i => (match b with | .int j => if C i j = true then .ok (g i j) S else .bad | _ => .bad)
  | _ => .bad
theorem os_I {C : Int → Int → Bool} {C' : Int → Int → Prop} {g : Int → Int → D} {g' : Int → Int → V} (hc : ∀ i j, C i j = true → C' i j) (hg : ∀ G μ n i j, RepV K mg G μ n (g i j) (g' i j)) : OpS K mg (rI C' g') (fI C g) := fun G H μ S d1 d2 v1 v2 Q a r r1 r2 p => by
  cases d1 with
  | int i =>
    cases d2 with
    | int j =>
      have p : PostV K mg (if C i j = true then .ok (g i j) S else .bad) G H μ S.length Q := p
      by_cases hz : C i j = true
      · rw [if_pos hz] at p
        exact ⟨i, j, r1, r2, hc i j hz, p.here a r (hg _ _ _ _ _)⟩
      · rw [if_neg hz] at p; exact p.elim
    | _ => exact p.elim
  | _ => exact p.elim
def fI0 (g : Int → Int → D) : F2 := fun S a b => match a with
  | .int i => (match b with | .int j => .ok (g i j) S | _ => .bad)
  | _ => .bad
theorem os_I0 {g : Int → Int → D} {g' : Int → Int → V} (hg : ∀ G μ n i j, RepV K mg G μ n (g i j) (g' i j)) : OpS K mg (rI0 g') (fI0 g) := fun G H μ S d1 d2 v1 v2 Q a r r1 r2 p => by
  cases d1 with
  | int i =>
    cases d2 with
    | int j => exact ⟨i, j, r1, r2, p.here a r (hg _ _ _ _ _)⟩
    | _ => exact p.elim
  | _ => exact p.elim
abbrev fSub : F2 := fI0 fun i j => .int (i - j)
abbrev fMul : F2 := fI (fun i j => decide ((-(18446744073709551616 : Int) < i ∧ i < 18446744073709551616) ∨ (-(18446744073709551616 : Int) < j ∧ j < 18446744073709551616))) fun i j => .int (i * j)
abbrev fDiv : F2 := fI (fun i j => decide (0 < j ∧ j < 1073741824)) fun i j => .int (i / j)
abbrev fMod : F2 := fI (fun _ j => decide (0 < j)) fun i j => .int (i % j)
abbrev fPow : F2 := fI (fun i j => decide (0 ≤ j ∧ j ≤ 1000000 ∧ i.natAbs < 18446744073709551616)) fun i j => .int (i ^ j.toNat)
abbrev fLt : F2 := fI0 fun i j => .bl (decide (i < j))
abbrev fLe : F2 := fI0 fun i j => .bl (decide (i ≤ j))
abbrev fGt : F2 := fI0 fun i j => .bl (decide (j < i))
abbrev fGe : F2 := fI0 fun i j => .bl (decide (j ≤ i))
theorem os_sub : OpS K mg (rI0 fun i j => .int (i - j)) fSub := os_I0 fun _ _ _ _ _ => rfl
theorem os_mul : OpS K mg (rI CMul fun i j => .int (i * j)) fMul := os_I (fun i j h => by have h := of_decide_eq_true h; exact h) fun _ _ _ _ _ => rfl
theorem os_div : OpS K mg (rI CDiv fun i j => .int (i / j)) fDiv := os_I (fun i j h => by have h := of_decide_eq_true h; exact h) fun _ _ _ _ _ => rfl
theorem os_mod : OpS K mg (rI (fun _ j => 0 < j) fun i j => .int (i % j)) fMod := os_I (fun i j h => of_decide_eq_true h) fun _ _ _ _ _ => rfl
theorem os_pow : OpS K mg (rI CPow fun i j => .int (i ^ j.toNat)) fPow := os_I (fun i j h => by have h := of_decide_eq_true h; exact h) fun _ _ _ _ _ => rfl
theorem os_lt : OpS K mg (rI0 fun i j => .bl (decide (i < j))) fLt := os_I0 fun _ _ _ _ _ => rfl
theorem os_le : OpS K mg (rI0 fun i j => .bl (decide (i ≤ j))) fLe := os_I0 fun _ _ _ _ _ => rfl
theorem os_gt : OpS K mg (rI0 fun i j => .bl (decide (j < i))) fGt := os_I0 fun _ _ _ _ _ => rfl
theorem os_ge : OpS K mg (rI0 fun i j => .bl (decide (j ≤ i))) fGe := os_I0 fun _ _ _ _ _ => rfl
@[reducible] def mNeg (ma : ME) : ME := fun sl S => (ma sl S).bind fun d S1 => match d with
  | .int i => .ok (.int (-i)) S1
  | _ => .bad
theorem ev_neg {a : Expr} {ma : ME} {pos : Pos} (h : EvE X a ma) : EvE X (.UnaryOp .USub a pos) (mNeg ma) := PE.imp (pe_un un_neg h) fun σ H Q ⟨G, μ, sl, S, A, post⟩ =>
  ⟨G, μ, sl, S, A, bindV A post fun d S1 v1 G1 H1 μ1 st1 A1 r1 p1 => by
    cases d with
    | int i => exact ⟨i, r1, p1.here A1.sub A1.rel rfl⟩
    | _ => exact p1.elim⟩
/-! ### ==, !=, in of data; is None -/
def fEq (ng : Bool) : F2 := fun S a b => match toPy S a, toPy S b with
  | some p, some q => if (SeqAt.shaped p && SeqAt.shaped q) = true then .ok (.bl (if ng = true then !PyData.eqv p q else PyData.eqv p q)) S else .bad
  | _, _ => .bad
theorem os_eq : OpS K mg (rEqD K) (fEq false) := fun G H μ S d1 d2 v1 v2 Q a r r1 r2 p => by
  unfold fEq at p
  cases e1 : toPy S d1 with
  | none => rw [e1] at p; exact p.elim
  | some x =>
    cases e2 : toPy S d2 with
    | none => rw [e1, e2] at p; exact p.elim
    | some y =>
      rw [e1, e2] at p
      by_cases hz : (SeqAt.shaped x && SeqAt.shaped y) = true
      · simp only [if_pos hz] at p
        rw [Bool.and_eq_true] at hz
        exact ⟨x, y, toPy_rep a r r1 e1, toPy_rep a r r2 e2, hz.1, hz.2, p.here a r rfl⟩
      · simp only [if_neg hz] at p; exact p.elim
theorem os_ne : OpS K mg (rNeD K) (fEq true) := fun G H μ S d1 d2 v1 v2 Q a r r1 r2 p => by
  unfold fEq at p
  cases e1 : toPy S d1 with
  | none => rw [e1] at p; exact p.elim
  | some x =>
    cases e2 : toPy S d2 with
    | none => rw [e1, e2] at p; exact p.elim
    | some y =>
      rw [e1, e2] at p
      by_cases hz : (SeqAt.shaped x && SeqAt.shaped y) = true
      · simp only [if_pos hz] at p
        rw [Bool.and_eq_true] at hz
        exact ⟨x, y, toPy_rep a r r1 e1, toPy_rep a r r2 e2, hz.1, hz.2, p.here a r rfl⟩
      · simp only [if_neg hz] at p; exact p.elim
def D.isNon : D → Bool
  | .non => true
  | _ => false
theorem isNon_rep {G : Hp} {μ : Nat → Addr} {n : Nat} {d : D} {v : V} (r : RepV K mg G μ n d v) : decide (v = .non) = d.isNon := by
  cases d with
  | non => rw [show v = .non from r]; rfl
  | bl b => rw [show v = .bl b from r]; exact decide_eq_false (fun z => nomatch z)
  | int b => rw [show v = .int b from r]; exact decide_eq_false (fun z => nomatch z)
  | str b => rw [show v = .str b from r]; exact decide_eq_false (fun z => nomatch z)
  | tup xs => obtain ⟨a, vs, e, _⟩ := r; rw [e]; exact decide_eq_false (fun z => nomatch z)
  | lst xs => obtain ⟨a, vs, e, _⟩ := r; rw [e]; exact decide_eq_false (fun z => nomatch z)
  | dct k xs => obtain ⟨a, vs, e, _⟩ := r; rw [e]; exact decide_eq_false (fun z => nomatch z)
  | scr xs => obtain ⟨a, e, _⟩ := r; rw [e]; exact decide_eq_false (fun z => nomatch z)
  | ref xs => obtain ⟨a, e⟩ := r; rw [e]; exact decide_eq_false (fun z => nomatch z)
  | fn xs => obtain ⟨a, _, e⟩ := r; rw [e]; exact decide_eq_false (fun z => nomatch z)
  | wtp xs => obtain ⟨a, vs, e, _⟩ := r; rw [e]; exact decide_eq_false (fun z => nomatch z)
  | adr c => rw [show v = .ref c from r]; exact decide_eq_false (fun z => nomatch z)
  | exn c => exact False.elim r
  | err c => obtain ⟨a, C, e, _⟩ := r; rw [e]; exact decide_eq_false (fun z => nomatch z)
  | ktp c => obtain ⟨a, e, _⟩ := r; rw [e]; exact decide_eq_false (fun z => nomatch z)
def fIs (ng : Bool) : F2 := fun S a b => match b with
  | .non => .ok (.bl (if ng = true then !a.isNon else a.isNon)) S
  | _ => .bad
theorem os_is : OpS K mg (fun x y H Q => y = .non ∧ Q (.bl (decide (x = .non))) H) (fIs false) := fun G H μ S d1 d2 v1 v2 Q a r r1 r2 p => by
  cases d2 with
  | non =>
    refine ⟨r2, ?_⟩
    rw [isNon_rep r1]
    exact PostV.here (d := .bl d1.isNon) p a r rfl
  | _ => exact p.elim
theorem os_isnot : OpS K mg (fun x y H Q => y = .non ∧ Q (.bl (!decide (x = .non))) H) (fIs true) := fun G H μ S d1 d2 v1 v2 Q a r r1 r2 p => by
  cases d2 with
  | non =>
    refine ⟨r2, ?_⟩
    rw [isNon_rep r1]
    exact PostV.here (d := .bl (!d1.isNon)) p a r rfl
  | _ => exact p.elim
/-! ### a[i] -/
def fIx : F2 := fun S a b => match b with
  | .int i => (match asQ S a with
    | some xs => (match atI xs i with | some d => .ok d S | none => .bad)
    | none => match a with
      | .str z => if z.length ≤ 16777216 then (match atI z.cps.toList i with | some c => .ok (.str ⟨#[c]⟩) S | none => .bad) else .bad
      | _ => .bad)
  | _ => .bad
theorem atI_get {α : Type} {xs : List α} {i : Int} {x : α} (h : atI xs i = some x) : ∃ j, ixN xs.length i = some j ∧ xs[j]? = some x := by
  unfold atI at h
  cases e : ixN xs.length i with
  | none => rw [e] at h; cases h
  | some j => rw [e] at h; exact ⟨j, rfl, h⟩
theorem RepVs.atI {G : Hp} {μ : Nat → Addr} {n : Nat} {ds : List D} {vs : List V} (h : RepVs K mg G μ n ds vs) {i : Int} {d : D} (e : L2.atI ds i = some d) : ∃ v, L2.atI vs i = some v ∧ RepV K mg G μ n d v := by
  obtain ⟨j, e1, e2⟩ := atI_get e
  obtain ⟨v, e3, rv⟩ := h.get e2
  refine ⟨v, ?_, rv⟩
  unfold L2.atI
  rw [← h.len, e1]
  exact e3
theorem os_ix : OpS K mg (rIx K) fIx := fun G H μ S d1 d2 v1 v2 Q a r r1 r2 p => by
  cases d2 with
  | int i =>
    unfold fIx at p
    simp only at p
    cases e1 : asQ S d1 with
    | some xs =>
      rw [e1] at p
      simp only at p
      cases e2 : L2.atI xs i with
      | none => rw [e2] at p; exact p.elim
      | some d =>
        rw [e2] at p
        obtain ⟨b, vs, q, hs, rr⟩ := asQ_rep a r r1 e1
        obtain ⟨v, ev, rv⟩ := rr.atI e2
        rcases hs with hs | hs
        · exact .inl ⟨b, vs, i, v, q, r2, hs, ev, p.here a r rv⟩
        · exact .inr (.inl ⟨b, vs, i, v, q, r2, hs, ev, p.here a r rv⟩)
    | none =>
      rw [e1] at p
      cases d1 with
      | str z =>
        simp only at p
        by_cases hz : z.length ≤ 16777216
        · rw [if_pos hz] at p
          cases e2 : L2.atI z.cps.toList i with
          | none => rw [e2] at p; exact p.elim
          | some c =>
            rw [e2] at p
            exact .inr (.inr ⟨z, i, c, r1, r2, lim_ok hz, e2, p.here a r rfl⟩)
        · rw [if_neg hz] at p; exact p.elim
      | _ => exact p.elim
  | _ => exact p.elim
theorem ev_ix {a b : Expr} {ma mb : ME} {pos : Pos} (ha : EvE X a ma) (hb : EvE X b mb) (hs : PlainIx b := by exact fun _ _ => rfl) : EvE X (.Subscript a b pos) (mBin fIx ma mb) := ev_ixR ix_seq os_ix ha hb hs
/-! ### a[lo:hi] -/
abbrev MO := Sl → Sto → Res (Option Int)
def PostO (K : PySem.W.Frag) (mg : Str → Option Value) (r : Res (Option Int)) (G H : Hp) (μ : Nat → Addr) (n : Nat) (Q : Option Int → Hp → Prop) : Prop :=
  match r with
  | .ok d S' => ∀ G' H' μ', Step G H μ n G' H' μ' S'.length → RelS K mg μ' S' G' → Q d H'
  | .bad => False
def tOo (K : PySem.W.Frag) (mg : Str → Option Value) (m : MO) : TO := fun σ H Q => ∃ G μ sl S, At K mg G H μ S sl σ ∧ PostO K mg (m sl S) G H μ S.length Q
abbrev EvO (X : Cx) (e : Option Expr) (m : MO) : Prop := PO X e (tOo X.K X.mg m)
theorem PO.imp {e : Option Expr} {t t' : TO} (h : PO X e t) (i : ∀ σ H Q, t' σ H Q → t σ H Q) : PO X e t' := ⟨fun pins s σ H Q I q => h.run pins s σ H Q I (i σ H Q q)⟩
@[reducible] def mO0 : MO := fun _ S => .ok none S
@[reducible] def mO (ma : ME) : MO := fun sl S => (ma sl S).bind fun d S1 => match d with
  | .int i => .ok (some i) S1
  | _ => .bad
theorem eo_none : EvO X none mO0 := PO.imp po_none fun σ H Q ⟨G, μ, sl, S, A, post⟩ => post G H μ (Step.refl A.sub) A.rel
theorem eo_some {e : Expr} {ma : ME} (h : EvE X e ma) : EvO X (some e) (mO ma) := PO.imp (po_some h) fun σ H Q ⟨G, μ, sl, S, A, post⟩ => by
  refine ⟨G, μ, sl, S, A, ?_⟩
  have post : PostO X.K X.mg ((ma sl S).bind fun d S1 => match d with | .int i => .ok (some i) S1 | _ => .bad) G H μ S.length Q := post
  cases e1 : ma sl S with
  | bad => rw [e1] at post; exact post.elim
  | ok d S1 =>
    rw [e1] at post
    simp only [Res.bind_ok] at post
    intro v G' H' μ' st rl rp
    cases d with
    | int i => exact ⟨i, rp, post G' H' μ' st rl⟩
    | _ => exact post.elim
def cutD (xs : List D) (lo hi : Option Int) : List D := (xs.drop (HT.sIx xs.length 0 lo)).take (HT.sIx xs.length xs.length hi - HT.sIx xs.length 0 lo)
theorem RepVs.cut {G : Hp} {μ : Nat → Addr} {n : Nat} {ds : List D} {vs : List V} (h : RepVs K mg G μ n ds vs) (lo hi : Option Int) : RepVs K mg G μ n (cutD ds lo hi) (cutV vs lo hi) := by
  unfold cutD cutV
  rw [h.len]
  exact (h.drop _).take _
def fSl (al : Bool) (S : Sto) (a : D) (lo hi : Option Int) : Res D := match a with
  | .tup xs => .ok (.tup (cutD xs lo hi)) S
  | .wtp _ => .bad
  | .str z => if z.length ≤ 16777216 then .ok (.str (cutS z lo hi)) S else .bad
  | a => match asQ S a with
    | some xs => if al = true then .ok (.ref S.length) (S ++ [.lst (cutD xs lo hi)]) else .ok (.lst (cutD xs lo hi)) S
    | none => .bad
@[reducible] def mSl (al : Bool) (ma : ME) (ml mh : MO) : ME := fun sl S => (ma sl S).bind fun d S1 => (ml sl S1).bind fun l S2 => (mh sl S2).bind fun h S3 => fSl al S3 d l h
abbrev rSlAll (K : PySem.W.Frag) : V → Option Int → Option Int → Hp → VK → Prop := fun x lo hi H Q => rSlP K x lo hi H Q ∨ (fun x lo hi H Q => rSlS x lo hi H Q ∨ rSlL K x lo hi H Q) x lo hi H Q
theorem sl_all : SlR X (rSlAll X.K) := sl_tupP.or (sl_str.or sl_list)
theorem sIx_whole {α : Type} {xs : List α} {lo hi : Option Int} (h : HT.sIx xs.length 0 lo = 0 ∧ HT.sIx xs.length xs.length hi = xs.length) : (xs.drop (HT.sIx xs.length 0 lo)).take (HT.sIx xs.length xs.length hi - HT.sIx xs.length 0 lo) = xs := by
  rw [h.1, h.2]; simp
theorem asQ_notup {S : Sto} {d : D} {xs : List D} (h : asQ S d = some xs) (nt : ∀ ys, d ≠ .tup ys) (nw : ∀ ys, d ≠ .wtp ys) {G H : Hp} {μ : Nat → Addr} {v : V} (a : Sub G H) (r : RelS K mg μ S G) (rp : RepV K mg G μ S.length d v) : ∃ b vs, v = .ref b ∧ SqL K H b vs ∧ RepVs K mg G μ S.length xs vs := by
  cases d with
  | tup ys => exact absurd rfl (nt ys)
  | wtp ys => exact absurd rfl (nw ys)
  | scr ns =>
    obtain ⟨b, e, q⟩ := rp
    cases h
    exact ⟨b, _, e, scr_rd a q, RepVs.ints ns⟩
  | lst ys => obtain ⟨b, vs, e, q, rr⟩ := asL_rep r rp (show asL S (.lst ys) = some xs from h); exact ⟨b, vs, e, .inl (.inl (a _ _ q)), rr⟩
  | ref n => obtain ⟨b, vs, e, q, rr⟩ := asL_rep r rp (show asL S (.ref n) = some xs from h); exact ⟨b, vs, e, .inl (.inl (a _ _ q)), rr⟩
  | _ => cases h
theorem sl_rep {al : Bool} {G H : Hp} {μ : Nat → Addr} {S : Sto} {d : D} {v : V} {lo hi : Option Int} {Q : VK} (a : Sub G H) (r : RelS K mg μ S G) (rp : RepV K mg G μ S.length d v) (p : PostV K mg (fSl al S d lo hi) G H μ S.length Q) : rSlAll K v lo hi H Q := by
  have lists : (∀ ys, d ≠ .tup ys) → (∀ ys, d ≠ .wtp ys) → (PostV K mg (match asQ S d with | some xs => if al = true then .ok (.ref S.length) (S ++ [.lst (cutD xs lo hi)]) else .ok (.lst (cutD xs lo hi)) S | none => .bad) G H μ S.length Q) → rSlAll K v lo hi H Q := fun nt nw p => by
    cases e : asQ S d with
    | none => rw [e] at p; exact p.elim
    | some xs =>
      rw [e] at p
      obtain ⟨b, vs, q, hs, rr⟩ := asQ_notup e nt nw a r rp
      refine .inr (.inr ⟨b, vs, q, hs, fun p' hp => ?_⟩)
      cases al with
      | true => exact PostV.lstA p a r (rr.cut lo hi) hp
      | false => exact PostV.lstN p a r (rr.cut lo hi) hp
  cases d with
  | tup xs =>
    obtain ⟨b, vs, q, g, rr⟩ := rp
    refine .inl ⟨b, vs, q, a.seqT g.sq, fun hw => ?_, fun _ p' ob od hp => PostV.tupN p a r (rr.cut lo hi) od hp⟩
    have p : PostV K mg (.ok (.tup (cutD xs lo hi)) S) G H μ S.length Q := p
    have e : cutD xs lo hi = xs := by
      unfold cutD
      rw [← rr.len] at hw
      exact sIx_whole hw
    rw [e] at p
    exact p.here a r ⟨b, vs, rfl, g, rr⟩
  | str z =>
    have p : PostV K mg (if z.length ≤ 16777216 then .ok (.str (cutS z lo hi)) S else .bad) G H μ S.length Q := p
    by_cases hz : z.length ≤ 16777216
    · rw [if_pos hz] at p
      exact .inr (.inl ⟨z, rp, lim_ok hz, p.here a r rfl⟩)
    · rw [if_neg hz] at p; exact p.elim
  | wtp ys => exact p.elim
  | lst ys => exact lists (fun _ z => nomatch z) (fun _ z => nomatch z) p
  | ref n => exact lists (fun _ z => nomatch z) (fun _ z => nomatch z) p
  | scr n => exact lists (fun _ z => nomatch z) (fun _ z => nomatch z) p
  | _ => exact lists (fun _ z => nomatch z) (fun _ z => nomatch z) p
theorem PostO.bindV {G H : Hp} {μ : Nat → Addr} {S : Sto} {sl : Sl} {σ : L2.St} {r : Res (Option Int)} {f : Option Int → Sto → Res D} {Q : V → Hp → Prop} {Q' : Option Int → Hp → Prop} (A : At K mg G H μ S sl σ) (h : PostV K mg (r.bind f) G H μ S.length Q)
    (k : ∀ o S1 G1 H1 μ1, Step G H μ S.length G1 H1 μ1 S1.length → At K mg G1 H1 μ1 S1 sl σ → PostV K mg (f o S1) G1 H1 μ1 S1.length Q → Q' o H1) : PostO K mg r G H μ S.length Q' := by
  cases r with
  | bad => exact h
  | ok o S1 => exact fun G' H' μ' st rl => k o S1 G' H' μ' st (A.go st rl) (PostV.step h st A.sub)
theorem ev_sl {al : Bool} {e : Expr} {ma : ME} {lo hi : Option Expr} {ml mh : MO} {pos p2 : Pos} (he : EvE X e ma) (hl : EvO X lo ml) (hh : EvO X hi mh) : EvE X (.Subscript e (.Slice lo hi none p2) pos) (mSl al ma ml mh) :=
  PE.imp (pe_slice sl_all he hl hh) fun σ H Q ⟨G, μ, sl, S, A, post⟩ =>
    ⟨G, μ, sl, S, A, bindV A post fun d S1 v1 G1 H1 μ1 st1 A1 r1 p1 => ⟨G1, μ1, sl, S1, A1, PostO.bindV A1 p1 fun l S2 G2 H2 μ2 st2 A2 p2 =>
      ⟨G2, μ2, sl, S2, A2, PostO.bindV A2 p2 fun h S3 G3 H3 μ3 st3 A3 p3 => sl_rep A3.sub A3.rel ((r1.go st2 A1.sub A1.rel).go st3 A2.sub A2.rel) p3⟩⟩⟩
end
end Ev

/-! Ev: statements, loops, comprehensions -/
namespace Ev
open PySem PySem.Spec PyProof.Rows L2
section
variable {K : PySem.W.Frag} {mg : Str → Option Value}
theorem SlOk.set {G : Hp} {μ : Nat → Addr} {n : Nat} {sl : Sl} {σ : L2.St} (h : SlOk K mg G μ n sl σ) (i : Nat) {d : D} {v : V} (r : RepV K mg G μ n d v) : SlOk K mg G μ n (sl.set i (some d)) (σ.set i (some v)) := by
  refine ⟨by simp [h.1], fun j d' e => ?_⟩
  by_cases hj : i = j
  · subst hj
    by_cases hi : i < sl.length
    · rw [List.getElem?_set_self hi] at e
      cases e
      exact ⟨v, List.getElem?_set_self (by rw [← h.1]; exact hi), r⟩
    · rw [List.getElem?_eq_none (by simpa using hi)] at e; cases e
  · rw [List.getElem?_set_ne hj] at e
    obtain ⟨w, e2, r2⟩ := h.2 j d' e
    exact ⟨w, by rw [List.getElem?_set_ne hj]; exact e2, r2⟩
def wipeD (sl : Sl) : List Nat → Sl
  | [] => sl
  | v :: vs => (wipeD sl vs).set v none
theorem SlOk.wipe {G : Hp} {μ : Nat → Addr} {n : Nat} {sl : Sl} {σ : L2.St} (h : SlOk K mg G μ n sl σ) : ∀ vs, SlOk K mg G μ n (wipeD sl vs) (L2.wipe σ vs)
  | [] => h
  | i :: vs => by
    have ih := SlOk.wipe h vs
    refine ⟨by simp [wipeD, L2.wipe, ih.1], fun j d e => ?_⟩
    simp only [wipeD, L2.wipe] at e ⊢
    by_cases hj : i = j
    · subst hj
      by_cases hi : i < (wipeD sl vs).length
      · rw [List.getElem?_set_self hi] at e; cases e
      · rw [List.getElem?_eq_none (by simpa using hi)] at e; cases e
    · rw [List.getElem?_set_ne hj] at e ⊢
      exact ih.2 j d e
theorem wipe_get (σ : L2.St) (j : Nat) : ∀ vs, (L2.wipe σ vs)[j]? = if j ∈ vs then (if j < σ.length then some none else none) else σ[j]?
  | [] => by simp [L2.wipe]
  | i :: vs => by
    simp only [L2.wipe]
    by_cases hj : i = j
    · subst hj
      rw [List.getElem?_set]
      simp [wipe_length]
    · rw [List.getElem?_set_ne hj, wipe_get σ j vs]
      simp [Ne.symm hj]
theorem wipe_set (σ : L2.St) {i : Nat} {x : Option V} {vs : List Nat} (h : i ∈ vs) : L2.wipe (σ.set i x) vs = L2.wipe σ vs := by
  apply List.ext_getElem?
  intro j
  rw [wipe_get, wipe_get, List.length_set]
  by_cases hj : j ∈ vs
  · simp [hj]
  · simp only [hj, if_false]
    have hne : i ≠ j := fun z => hj (by rw [← z]; exact h)
    rw [List.getElem?_set_ne hne]
/-! ### small statements -/
theorem PostS.nxt {sl : Sl} {S : Sto} {G H : Hp} {μ : Nat → Addr} {σ : L2.St} {De : Ends} (h : PostS K mg (.ok (.nx sl) S) G H μ S.length De) (A : At K mg G H μ S sl σ) : De.nx σ H := h σ G H μ (Step.refl A.sub) A.rel A.slo
end
section
variable {X : Cx} {e : Expr} {st : Stmt} {rest : List Stmt} {me : ME} {mt : MT} {m m' : MS} {pos : Pos}
@[reducible] def mSkip : MS := fun sl S => .ok (.nx sl) S
@[reducible] def mNever : MS := fun _ _ => .bad
@[reducible] def mSeq (m m' : MS) : MS := fun sl S => (m sl S).bind fun fl S1 => match fl with
  | .nx sl1 => m' sl1 S1
  | f => .ok f S1
@[reducible] def mSet (i : Nat) (me : ME) : MS := fun sl S => (me sl S).bind fun d S1 => .ok (.nx (sl.set i (some d))) S1
@[reducible] def mDrop (me : ME) : MS := fun sl S => (me sl S).bind fun _ S1 => .ok (.nx sl) S1
@[reducible] def mRet (me : ME) : MS := fun sl S => (me sl S).bind fun d S1 => .ok (.rt d) S1
@[reducible] def mIte (mt : MT) (m m' : MS) : MS := fun sl S => (mt sl S).bind fun k S1 => match k with
  | true => m sl S1
  | false => m' sl S1
theorem es_nil : EvSs X [] mSkip := PSs.imp pss_nil fun De σ H ⟨G, μ, sl, S, A, post⟩ => PostS.nxt post A
theorem es_cons (h : EvS X st m) (h2 : EvSs X rest m') : EvSs X (st :: rest) (mSeq m m') := PSs.imp (pss_cons h h2) fun De σ H ⟨G, μ, sl, S, A, post⟩ => by
  refine ⟨G, μ, sl, S, A, ?_⟩
  have post : PostS X.K X.mg ((m sl S).bind fun fl S1 => match fl with | .nx sl1 => m' sl1 S1 | f => .ok f S1) G H μ S.length De := post
  cases e1 : m sl S with
  | bad => rw [e1] at post; exact post.elim
  | ok fl S1 =>
    rw [e1] at post
    simp only [Res.bind_ok] at post
    cases fl with
    | nx sl1 => exact fun σ' G' H' μ' st rl so => ⟨G', μ', sl1, S1, ⟨st.sub, rl, so⟩, PostS.step post st A.sub⟩
    | rt d => exact post
    | bk d => exact post
    | ct d => exact post
theorem es_one (h : EvS X st m) : EvSs X [st] m := pss_one h
theorem es_pass : EvS X (.Pass pos) mSkip := PS.imp ps_pass fun De σ H ⟨G, μ, sl, S, A, post⟩ => PostS.nxt post A
theorem es_break : EvS X (.Break pos) (fun sl S => .ok (.bk sl) S) := PS.imp ps_break fun De σ H ⟨G, μ, sl, S, A, post⟩ => post σ G H μ (Step.refl A.sub) A.rel A.slo
theorem es_cont : EvS X (.Continue pos) (fun sl S => .ok (.ct sl) S) := PS.imp ps_continue fun De σ H ⟨G, μ, sl, S, A, post⟩ => post σ G H μ (Step.refl A.sub) A.rel A.slo
theorem es_never : EvS X st mNever := PS.imp ps_never fun De σ H ⟨G, μ, sl, S, A, post⟩ => post.elim
theorem es_expr (h : EvE X e me) (hs : swapsWith e none pos.line X.env = pure false := by rfl) : EvS X (.Expr e pos) (mDrop me) := PS.imp (ps_expr h hs) fun De σ H ⟨G, μ, sl, S, A, post⟩ =>
  ⟨G, μ, sl, S, A, bindVS A post fun d S1 v1 G1 H1 μ1 st1 A1 r1 p1 => PostS.nxt p1 A1⟩
theorem es_ret (h : EvE X e me) : EvS X (.Return (some e) pos) (mRet me) := PS.imp (ps_ret h) fun De σ H ⟨G, μ, sl, S, A, post⟩ =>
  ⟨G, μ, sl, S, A, bindVS A post fun d S1 v1 G1 H1 μ1 st1 A1 r1 p1 => p1 v1 G1 H1 μ1 (Step.refl A1.sub) A1.rel r1⟩
theorem es_retN : EvS X (.Return none pos) (fun _ S => .ok (.rt .non) S) := PS.imp ps_retN fun De σ H ⟨G, μ, sl, S, A, post⟩ => post .non G H μ (Step.refl A.sub) A.rel rfl
theorem es_if {c : Expr} {a b : List Stmt} (h : EvT X c mt) (h1 : EvSs X a m) (h2 : EvSs X b m') : EvS X (.If c a b pos) (mIte mt m m') := PS.imp (ps_if h h1 h2) fun De σ H ⟨G, μ, sl, S, A, post⟩ =>
  ⟨G, μ, sl, S, A, bindTS A post fun d S1 G1 H1 μ1 st1 A1 p1 => by
    cases d with
    | true => rw [if_pos rfl]; exact ⟨G1, μ1, sl, S1, A1, p1⟩
    | false => rw [if_neg Bool.false_ne_true]; exact ⟨G1, μ1, sl, S1, A1, p1⟩⟩
theorem es_set {i : Nat} {x : Str} {p : Pos} (hN : X.N.Nodup) (hi : X.N[i]? = some x) (hx : Loc X.env.scope x) (h : EvE X e me) (hs : swapsWith e (some (.Name x p)) pos.line X.env = pure false := by rfl) (hf : X.fn x = true ∨ X.env.scope.names.lookup x = some .local := by first | exact .inl rfl | exact .inr rfl | assumption) :
    EvS X (.Assign [.Name x p] e pos) (mSet i me) := PS.imp (ps_set hN hi hx h hs hf) fun De σ H ⟨G, μ, sl, S, A, post⟩ =>
  ⟨G, μ, sl, S, A, bindVS A post fun d S1 v1 G1 H1 μ1 st1 A1 r1 p1 => PostS.nxt p1 ⟨A1.sub, A1.rel, A1.slo.set i r1⟩⟩
/-! ### targets -/
abbrev MG := D → Sl → Sto → Res Sl
abbrev MGs := List D → Sl → Sto → Res Sl
def PostG (K : PySem.W.Frag) (mg : Str → Option Value) (is : List Nat) (σ : L2.St) (r : Res Sl) (G H : Hp) (μ : Nat → Addr) (n : Nat) (Q : L2.St → Hp → Prop) : Prop :=
  match r with
  | .ok sl' S' => ∀ σ' G' H' μ', Step G H μ n G' H' μ' S'.length → RelS K mg μ' S' G' → SlOk K mg G' μ' S'.length sl' σ' → (∀ vs, (∀ i ∈ is, i ∈ vs) → L2.wipe σ' vs = L2.wipe σ vs) → Q σ' H'
  | .bad => False
def tGo (K : PySem.W.Frag) (mg : Str → Option Value) (is : List Nat) (g : MG) : TG := fun v σ H Q => ∃ G μ sl S d, At K mg G H μ S sl σ ∧ RepV K mg G μ S.length d v ∧ PostG K mg is σ (g d sl S) G H μ S.length Q
def tGos (K : PySem.W.Frag) (mg : Str → Option Value) (is : List Nat) (g : MGs) : TGs := fun vs σ H Q => ∃ G μ sl S ds, At K mg G H μ S sl σ ∧ RepVs K mg G μ S.length ds vs ∧ PostG K mg is σ (g ds sl S) G H μ S.length Q
abbrev EvG (X : Cx) (e : Expr) (is : List Nat) (g : MG) : Prop := PG X e (tGo X.K X.mg is g)
abbrev EvGs (X : Cx) (es : List Expr) (is : List Nat) (g : MGs) : Prop := PGs X es (tGos X.K X.mg is g)
theorem PG.imp {e : Expr} {t t' : TG} (h : PG X e t) (i : ∀ v σ H Q, t' v σ H Q → t v σ H Q) : PG X e t' := ⟨fun pins s σ H v u Q I r q => h.run pins s σ H v u Q I r (i v σ H Q q)⟩
theorem PGs.imp {es : List Expr} {t t' : TGs} (h : PGs X es t) (i : ∀ v σ H Q, t' v σ H Q → t v σ H Q) : PGs X es t' := ⟨fun pins s σ H v u Q I r q => h.run pins s σ H v u Q I r (i v σ H Q q)⟩
@[reducible] def gN (i : Nat) : MG := fun d sl S => .ok (sl.set i (some d)) S
@[reducible] def gNil' : MGs := fun ds sl S => match ds with
  | [] => .ok sl S
  | _ => .bad
@[reducible] def gCons' (g : MG) (gs : MGs) : MGs := fun ds sl S => match ds with
  | d :: r => (g d sl S).bind fun sl1 S1 => gs r sl1 S1
  | [] => .bad
@[reducible] def gT (n : Nat) (gs : MGs) : MG := fun d sl S => match d with
  | .tup xs => if xs.length = n then gs xs sl S else .bad
  | .wtp xs => if xs.length = n then gs xs sl S else .bad
  | _ => .bad
theorem eg_name {i : Nat} {x : Str} (hN : X.N.Nodup) (hi : X.N[i]? = some x) (hx : Loc X.env.scope x) (hf : X.fn x = true ∨ X.env.scope.names.lookup x = some .local := by first | exact .inl rfl | exact .inr rfl | assumption) : EvG X (.Name x pos) [i] (gN i) :=
  PG.imp (pg_name hN hi hx hf) fun v σ H Q ⟨G, μ, sl, S, d, A, r, post⟩ => post _ G H μ (Step.refl A.sub) A.rel (A.slo.set i r) fun vs hv => wipe_set σ (hv i (by simp))
theorem egs_nil : EvGs X [] [] gNil' := PGs.imp pgs_nil fun v σ H Q ⟨G, μ, sl, S, ds, A, r, post⟩ => by
  cases ds with
  | nil => exact ⟨r, post σ G H μ (Step.refl A.sub) A.rel A.slo fun _ _ => rfl⟩
  | cons d ds => exact post.elim
theorem egs_cons {e : Expr} {es : List Expr} {is js : List Nat} {g : MG} {gs : MGs} (h1 : EvG X e is g) (h2 : EvGs X es js gs) (hs : (assignEach (e :: es) X.env).map (·.2) = assign e X.env :: (assignEach es X.env).map (·.2) := by rfl) : EvGs X (e :: es) (is ++ js) (gCons' g gs) :=
  PGs.imp (pgs_cons h1 h2 hs) fun v σ H Q ⟨G, μ, sl, S, ds, A, r, post⟩ => by
    cases ds with
    | nil => exact post.elim
    | cons d ds =>
      obtain ⟨x, vr, ev, r1, r2⟩ := r
      refine ⟨x, vr, ev, G, μ, sl, S, d, A, r1, ?_⟩
      have post : PostG X.K X.mg (is ++ js) σ ((g d sl S).bind fun sl1 S1 => gs ds sl1 S1) G H μ S.length Q := post
      cases e1 : g d sl S with
      | bad => rw [e1] at post; exact post.elim
      | ok sl1 S1 =>
        rw [e1] at post
        simp only [Res.bind_ok] at post
        intro σ' G' H' μ' st rl so hw
        refine ⟨G', μ', sl1, S1, ds, ⟨st.sub, rl, so⟩, r2.go st A.sub A.rel, ?_⟩
        cases e2 : gs ds sl1 S1 with
        | bad => rw [e2] at post; exact post.elim
        | ok sl2 S2 =>
          rw [e2] at post
          intro σ'' G'' H'' μ'' st2 rl2 so2 hw2
          exact post σ'' G'' H'' μ'' (st.trans st2 A.sub) rl2 so2 fun vs hv => (hw2 vs fun i hi => hv i (List.mem_append_right _ hi)).trans (hw vs fun i hi => hv i (List.mem_append_left _ hi))
theorem eg_tup {es : List Expr} {k : Nat} {is : List Nat} {gs : MGs} {n : Nat} (hc : X.calm = true) (h : EvGs X es is gs) (hn : (assignEach es X.env).length = n := by rfl) (hst : (assignEach es X.env).findIdx? (·.1) = none := by rfl) : EvG X (.Tuple es k pos) is (gT n gs) :=
  PG.imp (pg_tup hc h hn hst) fun v σ H Q ⟨G, μ, sl, S, d, A, r, post⟩ => by
    cases d with
    | tup xs =>
      obtain ⟨a, vs, ev, q, rr⟩ := r
      have post : PostG X.K X.mg is σ (if xs.length = n then gs xs sl S else .bad) G H μ S.length Q := post
      by_cases hz : xs.length = n
      · rw [if_pos hz] at post
        exact ⟨a, vs, ev, A.sub.seqT q.sq, by rw [← rr.len]; exact hz, G, μ, sl, S, xs, A, rr, post⟩
      · rw [if_neg hz] at post; exact post.elim
    | wtp xs =>
      obtain ⟨a, vs, ev, q, rr⟩ := r
      have post : PostG X.K X.mg is σ (if xs.length = n then gs xs sl S else .bad) G H μ S.length Q := post
      by_cases hz : xs.length = n
      · rw [if_pos hz] at post
        exact ⟨a, vs, ev, A.sub.seqT q, by rw [← rr.len]; exact hz, G, μ, sl, S, xs, A, rr, post⟩
      · rw [if_neg hz] at post; exact post.elim
    | _ => exact post.elim
@[reducible] def mAsg (me : ME) (g : MG) : MS := fun sl S => (me sl S).bind fun d S1 => (g d sl S1).bind fun sl1 S2 => .ok (.nx sl1) S2
theorem es_asg {tg : Expr} {is : List Nat} {g : MG} (h : EvE X e me) (hg : EvG X tg is g) (hs : swapsWithSole [tg] e pos.line X.env = pure false := by rfl) (hw : swappedStores [tg] e X.env = pure none := by rfl) (h1 : (assignEach [tg] X.env).map (·.2) = [assign tg X.env] := by rfl) :
    EvS X (.Assign [tg] e pos) (mAsg me g) := PS.imp (ps_asg h hg hs hw h1) fun De σ H ⟨G, μ, sl, S, A, post⟩ =>
  ⟨G, μ, sl, S, A, bindVS A post fun d S1 v1 G1 H1 μ1 st1 A1 r1 p1 => ⟨G1, μ1, sl, S1, d, A1, r1, by
    cases e2 : g d sl S1 with
    | bad => rw [e2] at p1; exact p1.elim
    | ok sl2 S2 =>
      rw [e2] at p1
      exact fun σ' G' H' μ' st rl so _ => p1 σ' G' H' μ' st rl so⟩⟩
/-- a, b = x, y of plain locals -/
@[reducible] def mPar (i j : Nat) (as : MA) : MS := fun sl S => (as sl S).bind fun ds S1 => match ds with
  | [a, b] => .ok (.nx ((sl.set i (some a)).set j (some b))) S1
  | _ => .bad
theorem es_par {i j : Nat} {x y : Str} {a b : Expr} {as : MA} {px py pt : Pos} {kt k2 pt2} (hc : X.calm = true) (hN : X.N.Nodup) (hi : X.N[i]? = some x) (hj : X.N[j]? = some y) (hij : i ≠ j) (hx : X.env.scope.names.lookup x = some .local) (hy : X.env.scope.names.lookup y = some .local) (ha : EvA X [a, b] as)
    (hw : swappedStores [.Tuple [.Name x px, .Name y py] kt pt] (.Tuple [a, b] k2 pt2) X.env = pure (some [x, y])) (hs : swapsWithSole [.Tuple [.Name x px, .Name y py] kt pt] (.Tuple [a, b] k2 pt2) pos.line X.env = pure false := by rfl) :
    EvS X (.Assign [.Tuple [.Name x px, .Name y py] kt pt] (.Tuple [a, b] k2 pt2) pos) (mPar i j as) := PS.imp (ps_par hc hN hi hj hij hx hy ha hw hs) fun De σ H ⟨G, μ, sl, S, A, post⟩ =>
  ⟨G, μ, sl, S, A, bindAS A post fun ds S1 vs G1 H1 μ1 st1 A1 r1 p1 => by
    match ds, r1, p1 with
    | [d1, d2], r1, p1 =>
      obtain ⟨v, r, ev, h1, h2⟩ := r1
      obtain ⟨w, r', ev', h3, h4⟩ := h2
      subst ev'
      rw [show r' = [] from h4] at ev
      exact ⟨v, w, ev, PostS.nxt p1 ⟨A1.sub, A1.rel, (A1.slo.set i h1).set j h3⟩⟩
    | [], _, p1 => exact p1.elim
    | [_], _, p1 => exact p1.elim
    | _ :: _ :: _ :: _, _, p1 => exact p1.elim⟩
/-! ### what is walked -/
/-- a walk that gives the items -/
def Walks (K : PySem.W.Frag) (mg : Str → Option Value) (J : It) (G H : Hp) (μ : Nat → Addr) (n : Nat) (items : List D) : Prop :=
  ∃ (Gd : Hp → Prop) (Y : Nat → Hp → V → Hp → Prop), Walk J items.length Gd Y ∧ ∀ G' H' μ' (S' : Sto), Step G H μ n G' H' μ' S'.length → RelS K mg μ' S' G' → Gd H' ∧
    ∀ i x H3, i < items.length → Y i H' x H3 → ∃ G3 d, items[i]? = some d ∧ Step G' H' μ' S'.length G3 H3 μ' S'.length ∧ RelS K mg μ' S' G3 ∧ RepV K mg G3 μ' S'.length d x
abbrev MI := MA
def PostI (K : PySem.W.Frag) (mg : Str → Option Value) (r : Res (List D)) (G H : Hp) (μ : Nat → Addr) (n : Nat) (R : It → Hp → Prop) : Prop :=
  match r with
  | .ok items S' => ∀ J G' H' μ', Step G H μ n G' H' μ' S'.length → RelS K mg μ' S' G' → Walks K mg J G' H' μ' S'.length items → R J H'
  | .bad => False
def tIo (K : PySem.W.Frag) (mg : Str → Option Value) (mi : MI) : TI := fun σ H R => ∃ G μ sl S, At K mg G H μ S sl σ ∧ PostI K mg (mi sl S) G H μ S.length R
abbrev EvI (X : Cx) (tg e : Expr) (mi : MI) : Prop := PI X tg e (tIo X.K X.mg mi)
theorem PI.imp {tg e : Expr} {t t' : TI} (h : PI X tg e t) (i : ∀ σ H R, t' σ H R → t σ H R) : PI X tg e t' := ⟨fun pins s σ H R I q => h.run pins s σ H R I (i σ H R q)⟩
theorem PI.either {tg e : Expr} {t t' : TI} (h : PI X tg e t) (h' : PI X tg e t') : PI X tg e (fun σ H R => t σ H R ∨ t' σ H R) := ⟨fun pins s σ H R I q => q.elim (h.run pins s σ H R I) (h'.run pins s σ H R I)⟩
theorem walks_seq {K : PySem.W.Frag} {mg : Str → Option Value} {G H : Hp} {μ : Nat → Addr} {S : Sto} {a : Addr} {vs : List V} {items : List D} (r : RelS K mg μ S G) (hsub : Sub G H) (hq : ∀ G' H' μ' (S' : Sto), Step G H μ S.length G' H' μ' S'.length → RelS K mg μ' S' G' → SqL K H' a vs)
    (rr : RepVs K mg G μ S.length items vs) : Walks K mg (Itl K a) G H μ S.length items := by
  refine ⟨fun H => SqL K H a vs, YAt vs, by rw [rr.len]; exact walk_list, fun G' H' μ' S' st rl => ⟨hq G' H' μ' S' st rl, fun i x H3 hi y => ?_⟩⟩
  obtain ⟨rfl, e⟩ := y
  obtain ⟨d, ed, rd⟩ := rr.got e
  exact ⟨G', d, ed, Step.refl st.sub, rl, rd.go st hsub r⟩
theorem walks_tup {K : PySem.W.Frag} {mg : Str → Option Value} {G H : Hp} {μ : Nat → Addr} {S : Sto} {a : Addr} {vs : List V} {items : List D} (r : RelS K mg μ S G) (hsub : Sub G H) (hq : ∀ G' H' μ' (S' : Sto), Step G H μ S.length G' H' μ' S'.length → RelS K mg μ' S' G' → SqT K H' a vs)
    (rr : RepVs K mg G μ S.length items vs) : Walks K mg (Itt K a) G H μ S.length items := by
  refine ⟨fun H => SqT K H a vs, YAt vs, by rw [rr.len]; exact walk_tup, fun G' H' μ' S' st rl => ⟨hq G' H' μ' S' st rl, fun i x H3 hi y => ?_⟩⟩
  obtain ⟨rfl, e⟩ := y
  obtain ⟨d, ed, rd⟩ := rr.got e
  exact ⟨G', d, ed, Step.refl st.sub, rl, rd.go st hsub r⟩
/-- what the walk may rest on: a tuple, a list that nobody changes -/
def asI : D → Option (List D)
  | .tup xs => some xs
  | .wtp xs => some xs
  | .lst xs => some xs
  | .scr ns => some (ns.map .int)
  | .str z => if z.length ≤ 16777216 then some (z.cps.toList.map fun c => .str ⟨#[c]⟩) else none
  | _ => none
theorem lst_stays {K : PySem.W.Frag} {mg : Str → Option Value} {G H G' H' : Hp} {μ μ' : Nat → Addr} {S S' : Sto} {d : D} {v : V} {a : Addr} {vs : List V} (r : RelS K mg μ S G) (hsub : Sub G H) (st : Step G H μ S.length G' H' μ' S'.length)
    (rp : (G a = some (.lst vs) ∧ NoImg μ S.length a) ∨ (∃ o, G a = some (.frz o (.lst vs))) ∨ SqL K (fun _ => none) a vs) : SqL K H' a vs := by
  rcases rp with ⟨g, ni⟩ | ⟨o, g⟩ | g
  · exact .inl (.inl (st.hk _ _ (hsub _ _ g) ni))
  · exact .inl (.inr ⟨o, st.hk _ _ (hsub _ _ g) (r.notFrz g)⟩)
  · exact Sub.seqL (fun _ _ z => by cases z) g
theorem tup_stays {K : PySem.W.Frag} {mg : Str → Option Value} {G H G' H' : Hp} {μ μ' : Nat → Addr} {S S' : Sto} {a : Addr} {vs : List V} (r : RelS K mg μ S G) (hsub : Sub G H) (st : Step G H μ S.length G' H' μ' S'.length) (q : SqT K G a vs) : SqT K H' a vs := by
  rcases q with (q | ⟨o, q⟩) | q
  · exact .inl (.inl (st.hk _ _ (hsub _ _ q) (r.notTup q)))
  · exact .inl (.inr ⟨o, st.hk _ _ (hsub _ _ q) (r.notFrz q)⟩)
  · exact .inr q
@[reducible] def mIt (me : ME) : MI := fun sl S => (me sl S).bind fun d S1 => match asI d with
  | some xs => .ok xs S1
  | none => .bad
theorem bindVI {K : PySem.W.Frag} {mg : Str → Option Value} {G H : Hp} {μ : Nat → Addr} {S : Sto} {sl : Sl} {σ : L2.St} {r : Res D} {f : D → Sto → Res (List D)} {R : It → Hp → Prop} {Q' : V → Hp → Prop} (a : At K mg G H μ S sl σ) (h : PostI K mg (r.bind f) G H μ S.length R)
    (k : ∀ d S1 v G1 H1 μ1, r = .ok d S1 → Step G H μ S.length G1 H1 μ1 S1.length → At K mg G1 H1 μ1 S1 sl σ → RepV K mg G1 μ1 S1.length d v → PostI K mg (f d S1) G1 H1 μ1 S1.length R → Q' v H1) : PostV K mg r G H μ S.length Q' := by
  cases r with
  | bad => exact h
  | ok d S1 =>
    intro v G' H' μ' st rl rp
    refine k d S1 v G' H' μ' rfl st (a.go st rl) rp ?_
    have h : PostI K mg (f d S1) G H μ S.length R := h
    cases e : f d S1 with
    | bad => rw [e] at h; exact h.elim
    | ok items S2 => rw [e] at h; exact fun J G2 H2 μ2 st2 rl2 w => h J G2 H2 μ2 (st.trans st2 a.sub) rl2 w
theorem bindAI {K : PySem.W.Frag} {mg : Str → Option Value} {G H : Hp} {μ : Nat → Addr} {S : Sto} {sl : Sl} {σ : L2.St} {r : Res (List D)} {f : List D → Sto → Res (List D)} {R : It → Hp → Prop} {Q' : List V → Hp → Prop} (a : At K mg G H μ S sl σ) (h : PostI K mg (r.bind f) G H μ S.length R)
    (k : ∀ d S1 v G1 H1 μ1, Step G H μ S.length G1 H1 μ1 S1.length → At K mg G1 H1 μ1 S1 sl σ → RepVs K mg G1 μ1 S1.length d v → PostI K mg (f d S1) G1 H1 μ1 S1.length R → Q' v H1) : PostA K mg r G H μ S.length Q' := by
  cases r with
  | bad => exact h
  | ok d S1 =>
    intro v G' H' μ' st rl rp
    refine k d S1 v G' H' μ' st (a.go st rl) rp ?_
    have h : PostI K mg (f d S1) G H μ S.length R := h
    cases e : f d S1 with
    | bad => rw [e] at h; exact h.elim
    | ok items S2 => rw [e] at h; exact fun J G2 H2 μ2 st2 rl2 w => h J G2 H2 μ2 (st.trans st2 a.sub) rl2 w
theorem PostI.here {K : PySem.W.Frag} {mg : Str → Option Value} {G H : Hp} {μ : Nat → Addr} {S : Sto} {sl : Sl} {σ : L2.St} {items : List D} {R : It → Hp → Prop} {J : It} (h : PostI K mg (.ok items S) G H μ S.length R) (A : At K mg G H μ S sl σ) (w : Walks K mg J G H μ S.length items) : R J H :=
  h J G H μ (Step.refl A.sub) A.rel w
theorem ei_seq {tg e : Expr} (h : EvE X e me) : EvI X tg e (mIt me) := PI.imp (PI.either (pi_tup h) (PI.either (pi_list h) (pi_str h))) fun σ H R ⟨G, μ, sl, S, A, post⟩ => by
  have post : PostI X.K X.mg ((me sl S).bind fun d S1 => match asI d with | some xs => .ok xs S1 | none => .bad) G H μ S.length R := post
  cases e1 : me sl S with
  | bad => rw [e1] at post; exact post.elim
  | ok d S1 =>
    cases d with
    | tup xs =>
      refine .inl ⟨G, μ, sl, S, A, bindVI A post fun d S1' v G1 H1 μ1 e2 st1 A1 r1 p1 => ?_⟩
      rw [e1] at e2; cases e2
      obtain ⟨a, vs, ev, q, rr⟩ := r1
      exact ⟨a, ev, ⟨vs, A1.sub.seqT q.sq⟩, PostI.here p1 A1 (walks_tup A1.rel A1.sub (fun G' H' μ' S' st rl => tup_stays A1.rel A1.sub st q.sq) rr)⟩
    | wtp xs =>
      refine .inl ⟨G, μ, sl, S, A, bindVI A post fun d S1' v G1 H1 μ1 e2 st1 A1 r1 p1 => ?_⟩
      rw [e1] at e2; cases e2
      obtain ⟨a, vs, ev, q, rr⟩ := r1
      exact ⟨a, ev, ⟨vs, A1.sub.seqT q⟩, PostI.here p1 A1 (walks_tup A1.rel A1.sub (fun G' H' μ' S' st rl => tup_stays A1.rel A1.sub st q) rr)⟩
    | lst xs =>
      refine .inr (.inl ⟨G, μ, sl, S, A, bindVI A post fun d S1' v G1 H1 μ1 e2 st1 A1 r1 p1 => ?_⟩)
      rw [e1] at e2; cases e2
      obtain ⟨a, vs, ev, q, ni, rr⟩ := r1
      exact ⟨a, ev, ⟨vs, .inl (.inl (A1.sub _ _ q))⟩, PostI.here p1 A1 (walks_seq A1.rel A1.sub (fun G' H' μ' S' st rl => lst_stays (d := .non) (v := .non) A1.rel A1.sub st (.inl ⟨q, ni⟩)) rr)⟩
    | scr ns =>
      refine .inr (.inl ⟨G, μ, sl, S, A, bindVI A post fun d S1' v G1 H1 μ1 e2 st1 A1 r1 p1 => ?_⟩)
      rw [e1] at e2; cases e2
      obtain ⟨a, ev, q⟩ := r1
      exact ⟨a, ev, ⟨_, scr_rd A1.sub q⟩, PostI.here p1 A1 (walks_seq A1.rel A1.sub (fun G' H' μ' S' st rl => lst_stays (d := .non) (v := .non) A1.rel A1.sub st (.inr q)) (RepVs.ints ns))⟩
    | str z =>
      by_cases hz : z.length ≤ 16777216
      · refine .inr (.inr ⟨G, μ, sl, S, A, bindVI A post fun d S1' v G1 H1 μ1 e2 st1 A1 r1 p1 => ?_⟩)
        rw [e1] at e2; cases e2
        simp only [asI, if_pos hz] at p1
        refine ⟨z, r1, PostI.here p1 A1 ?_⟩
        refine ⟨fun _ => True, (fun i H v H' => H' = H ∧ ∃ c, z.cps[i]? = some c ∧ v = .str ⟨#[c]⟩), ?_, ?_⟩
        · rw [List.length_map, Array.length_toList]; exact walk_str
        · intro G' H' μ' S' st rl
          refine ⟨trivial, fun i x H3 hi y => ?_⟩
          obtain ⟨rfl, c, ec, ex⟩ := y
          exact ⟨G', .str ⟨#[c]⟩, by rw [List.getElem?_map, Array.getElem?_toList, ec]; rfl, Step.refl st.sub, rl, ex⟩
      · rw [e1] at post
        simp only [Res.bind_ok, asI, if_neg hz] at post
        exact post.elim
    | _ =>
      rw [e1] at post
      exact post.elim
/-! ### ranges, enumerate, zip -/
theorem walks_range {K : PySem.W.Frag} {mg : Str → Option Value} {G H : Hp} {μ : Nat → Addr} {n : Nat} (lo : Int) (m : Nat) : Walks K mg (Itr lo m) G H μ n ((List.range m).map fun i => .int (lo + (i : Nat))) := by
  refine ⟨fun _ => True, YFn fun i => .int (lo + i), by rw [List.length_map, List.length_range]; exact walk_range, fun G' H' μ' S' st rl => ⟨trivial, fun i x H3 hi y => ?_⟩⟩
  obtain ⟨rfl, rfl⟩ := y
  rw [List.length_map, List.length_range] at hi
  exact ⟨G', .int (lo + (i : Nat)), by simp [hi], Step.refl st.sub, rl, rfl⟩
def rngOk (i : Int) : Bool := decide (-(4611686018427387904 : Int) ≤ i ∧ i < 4611686018427387904)
theorem rngOk.of {i : Int} (h : rngOk i = true) : -(2 ^ 62) ≤ i ∧ i < 2 ^ 62 := by have h := of_decide_eq_true h; exact h
@[reducible] def mRng1 (ma : ME) : MI := fun sl S => (ma sl S).bind fun d S1 => match d with
  | .int j => if rngOk j = true then .ok ((List.range j.toNat).map fun i => .int (0 + (i : Nat))) S1 else .bad
  | _ => .bad
@[reducible] def mRng2 (ma mb : ME) : MI := fun sl S => (ma sl S).bind fun d S1 => (mb sl S1).bind fun d2 S2 => match d with
  | .int i => (match d2 with
    | .int j => if (rngOk i && rngOk j) = true then .ok ((List.range (j - i).toNat).map fun k => .int (i + (k : Nat))) S2 else .bad
    | _ => .bad)
  | _ => .bad
section
variable {tg a b : Expr} {ma mb : ME} {p : Pos}
theorem ei_rng1 (hg : Gl X "range") (hm : X.mg "range" = none) (ha : EvE X a ma) (hs : starEach [a] X.env = [(false, eval a X.env)] := by rfl) : EvI X tg (.Call (.Name "range" p) [a] [] pos) (mRng1 ma) :=
  PI.imp (pi_range1 hg hm (pa_cons ha pa_nil (by rw [hs]; rfl)) hs) fun σ H R ⟨G, μ, sl, S, A, post⟩ =>
    ⟨G, μ, sl, S, A, bindVI A post fun d S1 v G1 H1 μ1 e st1 A1 r1 p1 => by
      cases d with
      | int j =>
        have p1 : PostI X.K X.mg (if rngOk j = true then .ok ((List.range j.toNat).map fun i => .int (0 + (i : Nat))) S1 else .bad) G1 H1 μ1 S1.length R := p1
        by_cases hz : rngOk j = true
        · rw [if_pos hz] at p1
          obtain ⟨h1, h2⟩ := rngOk.of hz
          exact ⟨j, by rw [show v = .int j from r1], h1, h2, PostI.here p1 A1 (walks_range 0 j.toNat)⟩
        · rw [if_neg hz] at p1; exact p1.elim
      | _ => exact p1.elim⟩
theorem ei_rng2 (hg : Gl X "range") (hm : X.mg "range" = none) (ha : EvE X a ma) (hb : EvE X b mb) (hs : starEach [a, b] X.env = [(false, eval a X.env), (false, eval b X.env)] := by rfl) (hs2 : starEach [b] X.env = [(false, eval b X.env)] := by rfl) (hs3 : starEach (a :: [b]) X.env = (false, eval a X.env) :: starEach [b] X.env := by rfl) :
    EvI X tg (.Call (.Name "range" p) [a, b] [] pos) (mRng2 ma mb) :=
  PI.imp (pi_range2 hg hm (pa_cons ha (pa_cons hb pa_nil hs2) hs3) hs hs2) fun σ H R ⟨G, μ, sl, S, A, post⟩ =>
    ⟨G, μ, sl, S, A, bindVI A post fun d S1 v G1 H1 μ1 e st1 A1 r1 p1 => ⟨G1, μ1, sl, S1, A1, bindVI A1 p1 fun d2 S2 v2 G2 H2 μ2 e2 st2 A2 r2 p2 => by
      cases d with
      | int i =>
        cases d2 with
        | int j =>
          have p2 : PostI X.K X.mg (if (rngOk i && rngOk j) = true then .ok ((List.range (j - i).toNat).map fun k => .int (i + (k : Nat))) S2 else .bad) G2 H2 μ2 S2.length R := p2
          by_cases hz : (rngOk i && rngOk j) = true
          · rw [if_pos hz] at p2
            rw [Bool.and_eq_true] at hz
            obtain ⟨h1, h2⟩ := rngOk.of hz.1
            obtain ⟨h3, h4⟩ := rngOk.of hz.2
            exact ⟨i, j, by rw [show v = .int i from r1, show v2 = .int j from r2], ⟨h1, h2, h3, h4⟩, PostI.here p2 A2 (walks_range i (j - i).toNat)⟩
          · rw [if_neg hz] at p2; exact p2.elim
        | _ => exact p2.elim
      | _ => exact p2.elim⟩⟩
/-- items in new pairs -/
theorem walks_pair {K : PySem.W.Frag} {mg : Str → Option Value} {G H : Hp} {μ : Nat → Addr} {S : Sto} {J : It} {Gd : Hp → Prop} {f g : Nat → Option V} {items : List D} (w : Walk J items.length Gd (YPair f g)) (r : RelS K mg μ S G) (hsub : Sub G H) (hG : ∀ G' H' μ' (S' : Sto), Step G H μ S.length G' H' μ' S'.length → RelS K mg μ' S' G' → Gd H')
    (hi : ∀ i x y, i < items.length → f i = some x → g i = some y → ∃ d1 d2, items[i]? = some (.wtp [d1, d2]) ∧ RepV K mg G μ S.length d1 x ∧ RepV K mg G μ S.length d2 y) : Walks K mg J G H μ S.length items := by
  refine ⟨Gd, _, w, fun G' H' μ' S' st rl => ⟨hG G' H' μ' S' st rl, fun i x H3 hlt y => ?_⟩⟩
  obtain ⟨T, a, b, rfl, hT, rfl, fa, gb⟩ := y
  obtain ⟨d1, d2, e, r1, r2⟩ := hi i a b hlt fa gb
  have s2 : Step G' H' μ' S'.length (upd G' T (.tup [a, b])) (upd H' T (.tup [a, b])) μ' S'.length := Step.laid st.sub hT
  refine ⟨_, _, e, s2, rl.laid st.sub hT, T, [a, b], rfl, .inl (.inl upd_same), ?_⟩
  exact .cons ((r1.go st hsub r).go s2 st.sub rl) (.cons ((r2.go st hsub r).go s2 st.sub rl) .nil)
/-- a list that nobody changes -/
def asIL : D → Option (List D)
  | .lst xs => some xs
  | .scr ns => some (ns.map .int)
  | _ => none
theorem asIL_rep {K : PySem.W.Frag} {mg : Str → Option Value} {G H : Hp} {μ : Nat → Addr} {S : Sto} {d : D} {v : V} {xs : List D} (r : RelS K mg μ S G) (hsub : Sub G H) (rp : RepV K mg G μ S.length d v) (h : asIL d = some xs) :
    ∃ a vs, v = .ref a ∧ SqL K H a vs ∧ RepVs K mg G μ S.length xs vs ∧ ∀ G' H' μ' (S' : Sto), Step G H μ S.length G' H' μ' S'.length → RelS K mg μ' S' G' → SqL K H' a vs := by
  cases d with
  | lst ys =>
    cases h
    obtain ⟨a, vs, ev, q, ni, rr⟩ := rp
    exact ⟨a, vs, ev, .inl (.inl (hsub _ _ q)), rr, fun G' H' μ' S' st rl => lst_stays (d := .non) (v := .non) r hsub st (.inl ⟨q, ni⟩)⟩
  | scr ns =>
    cases h
    obtain ⟨a, ev, q⟩ := rp
    exact ⟨a, _, ev, scr_rd hsub q, RepVs.ints ns, fun G' H' μ' S' st rl => lst_stays (d := .non) (v := .non) r hsub st (.inr q)⟩
  | _ => cases h
def enumD (xs : List D) : List D := (List.range xs.length).map fun i => .wtp [.int (i : Nat), xs.getD i .non]
def zipD (xs ys : List D) : List D := (xs.zip ys).map fun p => .wtp [p.1, p.2]
@[reducible] def mEnum (ma : ME) : MI := fun sl S => (ma sl S).bind fun d S1 => match asIL d with
  | some xs => .ok (enumD xs) S1
  | none => .bad
theorem ei_enum {elts : List Expr} {kk : Nat} {tpos : Pos} (hg : Gl X "enumerate") (hm : X.mg "enumerate" = none) (ha : EvE X a ma) (hs : starEach [a] X.env = [(false, eval a X.env)] := by rfl) : EvI X (.Tuple elts kk tpos) (.Call (.Name "enumerate" p) [a] [] pos) (mEnum ma) :=
  PI.imp (pi_enum hg hm (pa_cons ha pa_nil (by rw [hs]; rfl)) hs) fun σ H R ⟨G, μ, sl, S, A, post⟩ =>
    ⟨G, μ, sl, S, A, bindVI A post fun d S1 v G1 H1 μ1 e st1 A1 r1 p1 => by
      cases e2 : asIL d with
      | none => rw [e2] at p1; exact p1.elim
      | some xs =>
        rw [e2] at p1
        obtain ⟨b, vs, ev, hq, rr, hst⟩ := asIL_rep A1.rel A1.sub r1 e2
        refine ⟨b, vs, by rw [ev], hq, PostI.here p1 A1 (walks_pair (f := fun i => some (.int (i : Nat))) (g := fun i => vs[i]?) (Gd := fun H => SqL X.K H b vs) ?_ A1.rel A1.sub hst fun i x y hi h1 h2 => ?_)⟩
        · have : (enumD xs).length = vs.length := by unfold enumD; rw [List.length_map, List.length_range, rr.len]
          rw [this]; exact walk_enum
        · obtain ⟨d2, ed, rd⟩ := rr.got h2
          have hx : x = .int (i : Nat) := (Option.some.inj h1).symm
          refine ⟨.int (i : Nat), d2, ?_, hx, rd⟩
          have hlt : i < xs.length := (List.getElem?_eq_some_iff.mp ed).1
          have hget : xs.getD i .non = d2 := by rw [List.getD_eq_getElem?_getD, ed]; rfl
          unfold enumD
          rw [List.getElem?_map, List.getElem?_range hlt]
          rw [← hget]; rfl⟩
def zipL (S : Sto) (d d2 : D) : Res (List D) := match asIL d with
  | some xs => (match asIL d2 with
    | some ys => .ok (zipD xs ys) S
    | none => .bad)
  | none => .bad
@[reducible] def mZip (ma mb : ME) : MI := fun sl S => (ma sl S).bind fun d S1 => (mb sl S1).bind fun d2 S2 => match d with
  | .tup xs => (match d2 with
    | .tup ys => .ok (zipD xs ys) S2
    | _ => .bad)
  | d => zipL S2 d d2
theorem zipD_get {xs ys : List D} {i : Nat} {d1 d2 : D} (h1 : xs[i]? = some d1) (h2 : ys[i]? = some d2) : (zipD xs ys)[i]? = some (.wtp [d1, d2]) := by
  unfold zipD
  have e : (xs.zip ys)[i]? = some (d1, d2) := List.getElem?_zip_eq_some.mpr ⟨h1, h2⟩
  rw [List.getElem?_map, e]
  rfl
theorem zipD_len {xs ys : List D} : (zipD xs ys).length = min xs.length ys.length := by unfold zipD; simp
theorem walk_zipT {K : PySem.W.Frag} {a b : Addr} {xs ys : List V} {n : Nat} (hn : n = min xs.length ys.length) : Walk (RZ.ItzT K a b) n (fun H => SqT K H a xs ∧ SqT K H b ys) (YPair (fun i => xs[i]?) (fun i => ys[i]?)) := by
  subst hn
  refine ⟨fun i _ hi q => ?_, fun _ q => ⟨xs, ys, q.1, q.2, by omega⟩, fun i H v H' _ q y => ?_⟩
  · have h1 : i < xs.length := by omega
    have h2 : i < ys.length := by omega
    exact ⟨xs, ys, xs[i], ys[i], q.1, q.2, by simp [h1], by simp [h2]⟩
  · obtain ⟨T, x, z, h1, h2, h3, h4, h5⟩ := y
    exact ⟨T, x, z, h1, h2, h3, h4 xs q.1, h5 ys q.2⟩
theorem ei_zip {elts : List Expr} {kk : Nat} {tpos : Pos} (hg : Gl X "zip") (hm : X.mg "zip" = none) (ha : EvE X a ma) (hb : EvE X b mb) (hs : starEach [a, b] X.env = (false, eval a X.env) :: starEach [b] X.env := by rfl) (hs2 : starEach [b] X.env = (false, eval b X.env) :: starEach [] X.env := by rfl) (hpl : (backTo pos (starEach [b] X.env)).any (·.1) = false := by rfl) :
    EvI X (.Tuple elts kk tpos) (.Call (.Name "zip" p) [a, b] [] pos) (mZip ma mb) :=
  PI.imp (RZ.pi_zipA hg hm (pa_cons ha (pa_cons hb pa_nil hs2) hs) hs hpl) fun σ H R ⟨G, μ, sl, S, A, post⟩ =>
    ⟨G, μ, sl, S, A, bindVI A post fun d S1 v G1 H1 μ1 e st1 A1 r1 p1 => ⟨G1, μ1, sl, S1, A1, bindVI A1 p1 fun d2 S2 v2 G2 H2 μ2 e2 st2 A2 r2 p2 => by
      have r1 := r1.go st2 A1.sub A1.rel
      have lists : PostI X.K X.mg (zipL S2 d d2) G2 H2 μ2 S2.length R →
          ∃ a b xs ys, [v, v2] = [.ref a, .ref b] ∧ ((SqL X.K H2 a xs ∧ SqL X.K H2 b ys ∧ R (Itz X.K a b) H2) ∨ (SqT X.K H2 a xs ∧ SqT X.K H2 b ys ∧ R (RZ.ItzT X.K a b) H2)) := fun q => by
        unfold zipL at q
        cases h1 : asIL d with
        | none => rw [h1] at q; exact q.elim
        | some xs =>
        rw [h1] at q
        simp only at q
        cases h2 : asIL d2 with
        | none => rw [h2] at q; exact q.elim
        | some ys =>
        rw [h2] at q
        simp only at q
        obtain ⟨b1, vs, ev, hq, rr, hst⟩ := asIL_rep A2.rel A2.sub r1 h1
        obtain ⟨b2, us, eu, hq2, rr2, hst2⟩ := asIL_rep A2.rel A2.sub r2 h2
        refine ⟨b1, b2, vs, us, by rw [ev, eu], .inl ⟨hq, hq2, PostI.here q A2 (walks_pair (f := fun i => vs[i]?) (g := fun i => us[i]?) (walk_zip ?_) A2.rel A2.sub (fun G' H' μ' S' st rl => ⟨hst G' H' μ' S' st rl, hst2 G' H' μ' S' st rl⟩) fun i x y hi g1 g2 => ?_)⟩⟩
        · rw [zipD_len, rr.len, rr2.len]
        · obtain ⟨x1, e1, q1⟩ := rr.got g1
          obtain ⟨x2, e2, q2⟩ := rr2.got g2
          exact ⟨x1, x2, zipD_get e1 e2, q1, q2⟩
      cases d with
      | tup xs =>
        cases d2 with
        | tup ys =>
          obtain ⟨b1, vs, ev, hq, rr⟩ := r1
          obtain ⟨b2, us, eu, hq2, rr2⟩ := r2
          have p2 : PostI X.K X.mg (.ok (zipD xs ys) S2) G2 H2 μ2 S2.length R := p2
          refine ⟨b1, b2, vs, us, by rw [ev, eu], .inr ⟨A2.sub.seqT hq.sq, A2.sub.seqT hq2.sq, PostI.here p2 A2 (walks_pair (f := fun i => vs[i]?) (g := fun i => us[i]?) (walk_zipT ?_) A2.rel A2.sub (fun G' H' μ' S' st rl => ⟨tup_stays A2.rel A2.sub st hq.sq, tup_stays A2.rel A2.sub st hq2.sq⟩) fun i x y hi g1 g2 => ?_)⟩⟩
          · rw [zipD_len, rr.len, rr2.len]
          · obtain ⟨x1, e1, q1⟩ := rr.got g1
            obtain ⟨x2, e2, q2⟩ := rr2.got g2
            exact ⟨x1, x2, zipD_get e1 e2, q1, q2⟩
        | _ => exact p2.elim
      | lst xs => exact lists p2
      | scr xs => exact lists p2
      | _ => exact lists p2⟩⟩
end
/-! ### for -/
def loopD (g : MG) (m : MS) : List D → Sl → Sto → Res Fl
  | [], sl, S => .ok (.nx sl) S
  | d :: ds, sl, S => (g d sl S).bind fun sl1 S1 => (m sl1 S1).bind fun fl S2 => match fl with
    | .nx sl2 => loopD g m ds sl2 S2
    | .ct sl2 => loopD g m ds sl2 S2
    | .bk sl2 => .ok (.nx sl2) S2
    | .rt d => .ok (.rt d) S2
@[reducible] def mFor (mi : MI) (g : MG) (m : MS) : MS := fun sl S => (mi sl S).bind fun items S1 => loopD g m items sl S1
theorem es_for {tg iter : Expr} {body : List Stmt} {mi : MI} {is : List Nat} {g : MG} (hp : PassesOwn (model X.prog X.w) X.A X.env X.xe) (hc : X.calm = true) (hi : EvI X tg iter mi) (hg : EvG X tg is g) (hb : EvSs X body m) (hs : ∀ x, foldedSetIterable iter X.env x = pure x := by intro _; rfl) : EvS X (.For tg iter body [] pos) (mFor mi g m) :=
  PS.imp (ps_for hp hc hi hg hb hs) fun De σ H ⟨G, μ, sl, S, A, post⟩ => by
    refine ⟨G, μ, sl, S, A, ?_⟩
    have post : PostS X.K X.mg ((mi sl S).bind fun items S1 => loopD g m items sl S1) G H μ S.length De := post
    cases e1 : mi sl S with
    | bad => rw [e1] at post; exact post.elim
    | ok items S1 =>
      rw [e1] at post
      simp only [Res.bind_ok] at post
      intro J G1 H1 μ1 st1 rl1 w
      obtain ⟨Gd, Y, wk, hw⟩ := w
      have A1 : At X.K X.mg G1 H1 μ1 S1 sl σ := A.go st1 rl1
      have post := PostS.step post st1 A.sub
      refine for_it wk (fun i σ' H' => ∃ G' μ' sl' S', At X.K X.mg G' H' μ' S' sl' σ' ∧ Step G1 H1 μ1 S1.length G' H' μ' S'.length ∧ PostS X.K X.mg (loopD g m (items.drop i) sl' S') G' H' μ' S'.length De) ⟨G1, μ1, sl, S1, A1, Step.refl A1.sub, post⟩
        (fun i σ' H' hi ⟨G', μ', sl', S', A', st', p'⟩ => (hw G' H' μ' S' st' A'.rel).1) (fun i x σ' H' H3 hi ⟨G', μ', sl', S', A', st', p'⟩ hy => ?_) (fun σ' H' ⟨G', μ', sl', S', A', st', p'⟩ => ?_)
      · obtain ⟨G3, d, ed, s3, rl3, rd⟩ := (hw G' H' μ' S' st' A'.rel).2 i x H3 hi hy
        have hdrop : items.drop i = d :: items.drop (i + 1) := by
          rw [List.drop_eq_getElem_cons hi]
          congr 1
          exact (List.getElem?_eq_some_iff.mp ed).2
        rw [hdrop] at p'
        have A3 : At X.K X.mg G3 H3 μ' S' sl' σ' := A'.go s3 rl3
        have p3 := PostS.step p' s3 A'.sub
        refine ⟨G3, μ', sl', S', d, A3, rd, ?_⟩
        have p3 : PostS X.K X.mg ((g d sl' S').bind fun sl1 S1 => (m sl1 S1).bind fun fl S2 => match fl with | .nx sl2 => loopD g m (items.drop (i + 1)) sl2 S2 | .ct sl2 => loopD g m (items.drop (i + 1)) sl2 S2 | .bk sl2 => .ok (.nx sl2) S2 | .rt d => .ok (.rt d) S2) G3 H3 μ' S'.length De := p3
        cases e2 : g d sl' S' with
        | bad => rw [e2] at p3; exact p3.elim
        | ok sl4 S4 =>
          rw [e2] at p3
          simp only [Res.bind_ok] at p3
          intro σ4 G4 H4 μ4 s4 rl4 so4 _
          refine ⟨G4, μ4, sl4, S4, ⟨s4.sub, rl4, so4⟩, ?_⟩
          have p4 := PostS.step p3 s4 A3.sub
          have st4 := (st'.trans s3 A1.sub).trans s4 A1.sub
          cases e3 : m sl4 S4 with
          | bad => rw [e3] at p4; exact p4.elim
          | ok fl S5 =>
            rw [e3] at p4
            simp only [Res.bind_ok] at p4
            cases fl with
            | nx sl5 => exact fun σ5 G5 H5 μ5 s5 rl5 so5 => ⟨G5, μ5, sl5, S5, ⟨s5.sub, rl5, so5⟩, st4.trans s5 A1.sub, PostS.step p4 s5 s4.sub⟩
            | ct sl5 => exact fun σ5 G5 H5 μ5 s5 rl5 so5 => ⟨G5, μ5, sl5, S5, ⟨s5.sub, rl5, so5⟩, st4.trans s5 A1.sub, PostS.step p4 s5 s4.sub⟩
            | bk sl5 => exact p4
            | rt d5 => exact p4
      · rw [List.drop_length] at p'
        exact PostS.nxt p' A'
end
end Ev

/-! Ev: comprehensions -/
namespace Ev
open PySem PySem.Spec PyProof.Rows L2
section
variable {K : PySem.W.Frag} {mg : Str → Option Value} {G G' H H' : Hp} {μ μ' : Nat → Addr} {n n' : Nat}
def del (H : Hp) (p : Addr) : Hp := fun b => if b = p then none else H b
theorem del_same {p : Addr} : del H p p = none := if_pos rfl
theorem del_ne {p b : Addr} (h : b ≠ p) : del H p b = H b := if_neg h
theorem del_upd {p : Addr} {o : HO} : del (upd H p o) p = del H p := by
  funext b
  by_cases hb : b = p
  · rw [hb, del_same, del_same]
  · rw [del_ne hb, del_ne hb, upd_ne hb]
theorem del_new {p : Addr} {o : HO} (h : H p = none) : del (upd H p o) p = H := by
  funext b
  by_cases hb : b = p
  · rw [hb, del_same, h]
  · rw [del_ne hb, upd_ne hb]
theorem upd_del {p : Addr} {o : HO} (h : H p = some o) : upd (del H p) p o = H := by
  funext b
  by_cases hb : b = p
  · rw [hb, upd_same, h]
  · rw [upd_ne hb, del_ne hb]
theorem Step.delS {p : Addr} (st : Step G H μ n G' H' μ' n') (hg : G p = none) (hh : Cell H p) : Step G (del H p) μ n G' (del H' p) μ' n' where
  sub := fun b o e => by
    by_cases hb : b = p
    · rw [hb, st.hid p hg hh] at e; cases e
    · rw [del_ne hb]; exact st.sub b o e
  len := st.len
  mu := st.mu
  new := fun i h1 h2 => by
    have q := st.new i h1 h2
    by_cases hb : μ' i = p
    · rw [hb, del_same]; exact fun o e => by cases e
    · rw [del_ne hb]; exact q
  gk := fun b o e ni nt => st.gk b o e ni nt
  hk := fun b o e ni nt => by
    by_cases hb : b = p
    · rw [hb, del_same] at e; cases e
    · rw [del_ne hb] at e ⊢; exact st.hk b o e ni nt
  hid := fun b e1 e2 => by
    by_cases hb : b = p
    · exact absurd del_same (hb ▸ e2.ne')
    · unfold Cell at e2; rw [del_ne hb] at e2; exact st.hid b e1 e2
  dom := fun b o e nt => by
    by_cases hb : b = p
    · rw [hb, del_same] at e; cases e
    · rw [del_ne hb] at e ⊢; exact st.dom b o e nt
  dmc := fun b e => by
    by_cases hb : b = p
    · exact absurd del_same (hb ▸ e.ne')
    · unfold Cell at e ⊢; rw [del_ne hb] at e ⊢; exact st.dmc b e
theorem Step.undel {p : Addr} (st : Step G H μ n G' (del H' p) μ' n') (hh : H p = none) : Step G H μ n G' H' μ' n' where
  sub := fun b o e => by
    have q := st.sub b o e
    by_cases hb : b = p
    · rw [hb, del_same] at q; cases q
    · rw [del_ne hb] at q; exact q
  len := st.len
  mu := st.mu
  new := st.new
  gk := fun b o e ni nt => st.gk b o e ni nt
  hk := fun b o e ni nt => by
    have q := st.hk b o e ni nt
    by_cases hb : b = p
    · rw [hb, del_same] at q; cases q
    · rw [del_ne hb] at q; exact q
  hid := st.hid
  dom := fun b o e nt => by
    obtain ⟨o', q, n'⟩ := st.dom b o e nt
    by_cases hb : b = p
    · rw [hb, del_same] at q; cases q
    · rw [del_ne hb] at q; exact ⟨o', q, n'⟩
  dmc := fun b e => by
    have q := st.dmc b e
    by_cases hb : b = p
    · exact absurd del_same (hb ▸ q.ne')
    · unfold Cell at q ⊢; rw [del_ne hb] at q; exact q
theorem RelS.noImg' {S : Sto} (r : RelS K mg μ S G) {p : Addr} (h : G p = none) : NoImg μ S.length p := fun i hi z => by
  obtain ⟨x, e, _⟩ := r.at hi
  rw [z, h] at e; cases e
theorem wipe_wipe (σ : L2.St) (vs : List Nat) : L2.wipe (L2.wipe σ vs) vs = L2.wipe σ vs := by
  apply List.ext_getElem?
  intro j
  rw [wipe_get, wipe_get, wipe_length]
  by_cases hj : j ∈ vs
  · simp [hj]
  · simp [hj]
end
section
variable {X : Cx}
abbrev EvTs (X : Cx) (es : List Expr) (m : MT) : Prop := PTs X es (tT X.K X.mg m)
theorem PTs.imp {es : List Expr} {t t' : TT} (h : PTs X es t) (i : ∀ σ H Q, t' σ H Q → t σ H Q) : PTs X es t' := ⟨fun pins s σ H Q I q => h.run pins s σ H Q I (i σ H Q q)⟩
@[reducible] def mYes : MT := fun _ S => .ok true S
theorem ets_nil : EvTs X [] mYes := PTs.imp pts_nil fun σ H Q ⟨G, μ, sl, S, A, post⟩ => post G H μ (Step.refl A.sub) A.rel
theorem ets_one {c : Expr} {mt : MT} (h : EvT X c mt) : EvTs X [c] mt := pts_one h
def compD (g : MG) (mt : MT) (me : ME) : List D → Sl → Sto → Res (List D)
  | [], _, S => .ok [] S
  | d :: ds, sl, S => (g d sl S).bind fun sl1 S1 => (mt sl1 S1).bind fun k S2 => match k with
    | true => (me sl1 S2).bind fun y S3 => (compD g mt me ds sl S3).bind fun ys S4 => .ok (y :: ys) S4
    | false => compD g mt me ds sl S2
def mkL (al : Bool) (xs : List D) (S : Sto) : Res D := if al = true then .ok (.ref S.length) (S ++ [.lst xs]) else .ok (.lst xs) S
@[reducible] def mComp (al : Bool) (vs : List Nat) (mi : MI) (g : MG) (mt : MT) (me : ME) : ME := fun sl S => (mi sl S).bind fun items S1 =>
  if items.length ≤ 16777216 then (compD g mt me items (wipeD sl vs) S1).bind fun ys S2 => mkL al ys S2 else .bad
theorem mkL_post {K : PySem.W.Frag} {mg : Str → Option Value} {al : Bool} {G H : Hp} {μ : Nat → Addr} {S : Sto} {ds : List D} {vs : List V} {p : Addr} {Q : V → Hp → Prop} (h : PostV K mg (mkL al ds S) G H μ S.length Q) (a : Sub G H) (r : RelS K mg μ S G) (rp : RepVs K mg G μ S.length ds vs) (hp : H p = none) : Q (.ref p) (upd H p (.lst vs)) := by
  cases al with
  | true => exact PostV.lstA h a r rp hp
  | false => exact PostV.lstN h a r rp hp
section
variable {elt tg iter : Expr} {ifs : List Expr} {scope : Scope} {own : List (Str × Nat)} {pos : Pos} {mi : MI} {is : List Nat} {g : MG} {mt : MT} {me : ME} {al : Bool}
theorem tLc_of {K : PySem.W.Frag} {mg : Str → Option Value} {vs : List Nat} (hv : ∀ i ∈ is, i ∈ vs) {σ : L2.St} {H : Hp} {Q : VK} (h : tE K mg (mComp al vs mi g mt me) σ H Q) : tLc (tIo K mg mi) (tGo K mg is g) (tT K mg mt) (tE K mg me) vs σ H Q := by
  obtain ⟨G, μ, sl, S, A, post⟩ := h
  refine ⟨G, μ, sl, S, A, ?_⟩
  have post : PostV K mg ((mi sl S).bind fun items S1 => if items.length ≤ 16777216 then (compD g mt me items (wipeD sl vs) S1).bind fun ys S2 => mkL al ys S2 else .bad) G H μ S.length Q := post
  cases e1 : mi sl S with
  | bad => rw [e1] at post; exact post.elim
  | ok items S1 =>
    rw [e1] at post
    simp only [Res.bind_ok] at post
    intro J G1 H1 μ1 st1 rl1 w
    obtain ⟨Gd, Y, wk, hw⟩ := w
    have A1 : At K mg G1 H1 μ1 S1 sl σ := A.go st1 rl1
    have post := PostV.step post st1 A.sub
    by_cases hz : items.length ≤ 16777216
    · rw [if_pos hz] at post
      intro P hP
      refine lc_it wk (fun i H' => ∃ G' μ' S' acc av, H' P = some (.lst av) ∧ acc.length ≤ i ∧ G' P = none ∧ RelS K mg μ' S' G' ∧ Step G1 H1 μ1 S1.length G' (del H' P) μ' S'.length ∧ RepVs K mg G' μ' S'.length acc av ∧
        PostV K mg ((compD g mt me (items.drop i) (wipeD sl vs) S').bind fun ys S2 => mkL al (acc ++ ys) S2) G1 H1 μ1 S1.length Q) ?_ ?_ ?_ ?_
      · refine ⟨G1, μ1, S1, [], [], upd_same, Nat.le_refl _, A1.sub.none hP, A1.rel, ?_, rfl, post⟩
        rw [del_new hP]; exact Step.refl A1.sub
      · rintro i H' hi ⟨G', μ', S', acc, av, h1, h2, h3, h4, h5, h6, h7⟩
        exact (hw G' H' μ' S' (h5.undel hP) h4).1
      · rintro i x H' H3 hi ⟨G', μ', S', acc, av, h1, h2, h3, h4, h5, h6, h7⟩ hy
        have hne : Cell H' P := .inl ⟨_, h1⟩
        have sub' : Sub G' H' := (h5.undel hP).sub
        obtain ⟨G3, d, ed, s3, rl3, rd⟩ := (hw G' H' μ' S' (h5.undel hP) h4).2 i x H3 hi hy
        have hdrop : items.drop i = d :: items.drop (i + 1) := by
          rw [List.drop_eq_getElem_cons hi]
          congr 1
          exact (List.getElem?_eq_some_iff.mp ed).2
        rw [hdrop] at h7
        have g3 : G3 P = none := s3.hid P h3 hne
        have p3 : H3 P = some (.lst av) := s3.hk P _ h1 (h4.noImg' h3)
        have st3 := h5.trans (s3.delS h3 hne) A1.sub
        have so3 : SlOk K mg G3 μ' S'.length (wipeD sl vs) (L2.wipe σ vs) := (A1.slo.wipe vs).go st3 A1.sub A1.rel
        have ac3 := h6.go s3 sub' h4
        have A3 : At K mg G3 H3 μ' S' (wipeD sl vs) (L2.wipe σ vs) := ⟨s3.sub, rl3, so3⟩
        refine ⟨G3, μ', wipeD sl vs, S', d, A3, rd, ?_⟩
        have h7 : PostV K mg (((g d (wipeD sl vs) S').bind fun sl1 S1 => (mt sl1 S1).bind fun k S2 => match k with
          | true => (me sl1 S2).bind fun y S3 => (compD g mt me (items.drop (i + 1)) (wipeD sl vs) S3).bind fun ys S4 => .ok (y :: ys) S4
          | false => compD g mt me (items.drop (i + 1)) (wipeD sl vs) S2).bind fun ys S2 => mkL al (acc ++ ys) S2) G1 H1 μ1 S1.length Q := h7
        cases e2 : g d (wipeD sl vs) S' with
        | bad => rw [e2] at h7; exact h7.elim
        | ok sl4 S4 =>
        rw [e2] at h7
        simp only [Res.bind_ok] at h7
        intro σ4 G4 H4 μ4 s4 rl4 so4 hw4
        refine ⟨(hw4 vs hv).trans (wipe_wipe σ vs), G4, μ4, sl4, S4, ⟨s4.sub, rl4, so4⟩, ?_⟩
        have ne3 : Cell H3 P := .inl ⟨_, p3⟩
        have g4 : G4 P = none := s4.hid P g3 ne3
        have p4 : H4 P = some (.lst av) := s4.hk P _ p3 (rl3.noImg' g3)
        have st4 := st3.trans (s4.delS g3 ne3) A1.sub
        have ac4 := ac3.go s4 s3.sub rl3
        cases e3 : mt sl4 S4 with
        | bad => rw [e3] at h7; exact h7.elim
        | ok k S5 =>
        rw [e3] at h7
        simp only [Res.bind_ok] at h7
        intro G5 H5 μ5 s5 rl5
        have ne4 : Cell H4 P := .inl ⟨_, p4⟩
        have g5 : G5 P = none := s5.hid P g4 ne4
        have p5 : H5 P = some (.lst av) := s5.hk P _ p4 (rl4.noImg' g4)
        have st5 := st4.trans (s5.delS g4 ne4) A1.sub
        have ac5 := ac4.go s5 s4.sub rl4
        cases k with
        | false =>
          rw [if_neg Bool.false_ne_true]
          exact ⟨G5, μ5, S5, acc, av, p5, Nat.le_succ_of_le h2, g5, rl5, st5, ac5, h7⟩
        | true =>
          rw [if_pos rfl]
          simp only at h7
          have so5 := so4.go s5 s4.sub rl4
          refine ⟨G5, μ5, sl4, S5, ⟨s5.sub, rl5, so5⟩, ?_⟩
          cases e4 : me sl4 S5 with
          | bad => rw [e4] at h7; exact h7.elim
          | ok y S6 =>
          rw [e4] at h7
          simp only [Res.bind_ok] at h7
          intro v G6 H6 μ6 s6 rl6 rv
          have ne5 : Cell H5 P := .inl ⟨_, p5⟩
          have g6 : G6 P = none := s6.hid P g5 ne5
          have p6 : H6 P = some (.lst av) := s6.hk P _ p5 (rl5.noImg' g5)
          have st6 := st5.trans (s6.delS g5 ne5) A1.sub
          have ac6 := ac5.go s6 s5.sub rl5
          have hlen : av.length < sizeLine := by
            rw [← ac6.len, sizeLine_eq]; omega
          refine ⟨av, p6, hlen, G6, μ6, S6, acc ++ [y], av ++ [v], upd_same, by simp; omega, g6, rl6, by rw [del_upd]; exact st6, ac6.app (.cons rv .nil), ?_⟩
          cases e5 : compD g mt me (items.drop (i + 1)) (wipeD sl vs) S6 with
          | bad => rw [e5] at h7; exact h7.elim
          | ok ys S7 =>
            rw [e5] at h7
            simp only [Res.bind_ok] at h7 ⊢
            rw [List.append_assoc]
            exact h7
      · rintro H' ⟨G', μ', S', acc, av, h1, h2, h3, h4, h5, h6, h7⟩
        rw [List.drop_length] at h7
        have h7 : PostV K mg (mkL al (acc ++ []) S') G1 H1 μ1 S1.length Q := h7
        rw [List.append_nil] at h7
        have q := mkL_post (p := P) (PostV.step h7 h5 A1.sub) h5.sub h4 h6 del_same
        rw [upd_del h1] at q
        exact q
    · rw [if_neg hz] at post; exact post.elim
theorem ev_lc (hc : X.calm = true) (hN : X.N.Nodup) (hi : EvI X tg iter mi) (ok : BlkOk X.N X.env.scope scope own) (hv : ∀ i ∈ is, i ∈ own.map (·.2))
    (hg : ∀ (s : Shared) (H : Hp) (C : Addr) (cl : List (Str × Addr)) (fp : List Addr), EvG (X.blk s H scope (compEnvC scope cl C X.env) fp) tg is g) (ht : ∀ (s : Shared) (H : Hp) (C : Addr) (cl : List (Str × Addr)) (fp : List Addr), EvTs (X.blk s H scope (compEnvC scope cl C X.env) fp) ifs mt)
    (he : ∀ (s : Shared) (H : Hp) (C : Addr) (cl : List (Str × Addr)) (fp : List Addr), EvE (X.blk s H scope (compEnvC scope cl C X.env) fp) elt me) (hs : ∀ x, foldedSetIterable iter X.env x = pure x := by intro _; rfl) :
    EvE X (.ListComp elt [⟨tg, iter, ifs, 0⟩] scope pos) (mComp al (own.map (·.2)) mi g mt me) := PE.imp (pe_lc (g := tGo X.K X.mg is g) (tt := tT X.K X.mg mt) (te := tE X.K X.mg me) hc hN hi ok hg ht he hs) fun _ _ _ h => tLc_of hv h
/-- name = [..] on one line -/
theorem es_lc {i : Nat} {y : Str} {py spos : Pos} (hc : X.calm = true) (hN : X.N.Nodup) (hy : X.N[i]? = some y) (hyl : X.env.scope.names.lookup y = some .local) (hsw : swapsWith (.ListComp elt [⟨tg, iter, ifs, 0⟩] scope pos) (some (.Name y py)) spos.line X.env = pure true)
    (hi : EvI X tg iter mi) (ok : BlkOk X.N X.env.scope scope own) (hv : ∀ i ∈ is, i ∈ own.map (·.2))
    (hg : ∀ (s : Shared) (H : Hp) (C : Addr) (cl : List (Str × Addr)) (fp : List Addr), EvG (X.blk s H scope (compEnvC scope cl C X.env) fp) tg is g) (ht : ∀ (s : Shared) (H : Hp) (C : Addr) (cl : List (Str × Addr)) (fp : List Addr), EvTs (X.blk s H scope (compEnvC scope cl C X.env) fp) ifs mt)
    (he : ∀ (s : Shared) (H : Hp) (C : Addr) (cl : List (Str × Addr)) (fp : List Addr), EvE (X.blk s H scope (compEnvC scope cl C X.env) fp) elt me) (hs : ∀ x, foldedSetIterable iter X.env x = pure x := by intro _; rfl) :
    EvS X (.Assign [.Name y py] (.ListComp elt [⟨tg, iter, ifs, 0⟩] scope pos) spos) (mSet i (mComp al (own.map (·.2)) mi g mt me)) :=
  PS.imp (ps_setLc (g := tGo X.K X.mg is g) (tt := tT X.K X.mg mt) (te := tE X.K X.mg me) hc hN hy hyl hsw hi ok hg ht he hs) fun De σ H ⟨G, μ, sl, S, A, post⟩ => by
    refine tLc_of (al := al) hv ⟨G, μ, sl, S, A, ?_⟩
    exact bindVS A post fun d S1 v1 G1 H1 μ1 st1 A1 r1 p1 => PostS.nxt p1 ⟨A1.sub, A1.rel, A1.slo.set i r1⟩
end
end
end Ev

/-! Ev: defs, calls, a law's end -/
namespace Ev
open PySem PySem.Spec PyProof.Rows L2
/-- a def computes what F does, where no repr is under way -/
structure FnG (P : Program) (w : World) (K : PySem.W.Frag) (mg : Str → Option Value) (base : Heap) (k : Nat) (f : Addr) (np : Nat) (F : FA) : Prop where
  run : ∀ (A : Around) (outer : List Env) (s : Shared) (H G : Hp) (μ : Nat → Addr) (S : Sto) (us : List Value) (vs : List V) (ds : List D) (Q : VK), Room k A → A.guards = some [] → Env0 P w K mg base A outer s H → Vals vs us → us.length = np → Sub G H → RelS K mg μ S G →
    RepVs K mg G μ S.length ds vs → PostV K mg (F S ds) G H μ S.length Q → codeAny (model P w) A (.call (.ref f) ⟨us, []⟩) (CR CX0 outer P w H s Q E0) s
section
variable {P : Program} {w : World} {K : PySem.W.Frag} {mg : Str → Option Value} {base : Heap} {k : Nat} {f : Addr} {np : Nat} {F : FA}
/-! ### store cells that are not needed any more -/
mutual
def D.bnd (n : Nat) : D → Bool
  | .ref i => decide (i < n)
  | .tup xs => D.bnds n xs
  | .lst xs => D.bnds n xs
  | .dct _ xs => D.bnds n xs
  | .wtp xs => D.bnds n xs
  | _ => true
def D.bnds (n : Nat) : List D → Bool
  | [] => true
  | d :: ds => D.bnd n d && D.bnds n ds
end
def Ob.bnd (n : Nat) : Ob → Bool
  | .lst xs => D.bnds n xs
  | .dct _ xs => D.bnds n xs
  | .dcu _ xs => D.bnds n xs
theorem NoImg.le {μ : Nat → Addr} {n n' : Nat} {a : Addr} (h : NoImg μ n a) (hn : n' ≤ n) : NoImg μ n' a := fun i hi => h i (Nat.lt_of_lt_of_le hi hn)
mutual
theorem RepV.cut {G : Hp} {μ : Nat → Addr} {n n' : Nat} (hn : n' ≤ n) : ∀ (d : D) {v : V}, RepV K mg G μ n d v → d.bnd n' = true → RepV K mg G μ n' d v
  | .non, _, h, _ => h
  | .bl _, _, h, _ => h
  | .int _, _, h, _ => h
  | .str _, _, h, _ => h
  | .fn _, _, h, _ => h
  | .scr _, _, h, _ => h
  | .adr _, _, h, _ => h
  | .exn _, _, h, _ => h
  | .err _, _, h, _ => h
  | .ktp _, _, h, _ => h
  | .ref i, v, h, b => ⟨of_decide_eq_true b, h.2⟩
  | .tup xs, v, h, b => by
    obtain ⟨a, vs, e, q, r⟩ := h
    exact ⟨a, vs, e, q, RepVs.cutn hn xs r b⟩
  | .lst xs, v, h, b => by
    obtain ⟨a, vs, e, q, ni, r⟩ := h
    exact ⟨a, vs, e, q, ni.le hn, RepVs.cutn hn xs r b⟩
  | .wtp xs, v, h, b => by
    obtain ⟨a, vs, e, q, r⟩ := h
    exact ⟨a, vs, e, q, RepVs.cutn hn xs r b⟩
  | .dct ks xs, v, h, b => by
    obtain ⟨a, vs, e, q, ni, hk, r⟩ := h
    exact ⟨a, vs, e, q, ni.le hn, hk, RepVs.cutn hn xs r b⟩
theorem RepVs.cutn {G : Hp} {μ : Nat → Addr} {n n' : Nat} (hn : n' ≤ n) : ∀ (ds : List D) {vs : List V}, RepVs K mg G μ n ds vs → D.bnds n' ds = true → RepVs K mg G μ n' ds vs
  | [], _, h, _ => h
  | d :: ds, vs, h, b => by
    obtain ⟨v, r, e, r1, r2⟩ := h
    have b : (D.bnd n' d && D.bnds n' ds) = true := b
    rw [Bool.and_eq_true] at b
    exact ⟨v, r, e, RepV.cut hn d r1 b.1, RepVs.cutn hn ds r2 b.2⟩
end
def trim (n : Nat) (d : D) (S : Sto) : Res D := if (d.bnd n && (S.take n).all (Ob.bnd n)) = true then .ok d (S.take n) else .ok d S
def trimF (F : FA) : FA := fun S ds => (F S ds).bind fun d S' => trim S.length d S'
theorem trim_post {G H : Hp} {μ : Nat → Addr} {S : Sto} {ds : List D} {Q : VK} (h : PostV K mg (trimF F S ds) G H μ S.length Q) : PostV K mg (F S ds) G H μ S.length Q := by
  unfold trimF at h
  cases e : F S ds with
  | bad => rw [e] at h; exact h
  | ok d S' =>
    rw [e] at h
    simp only [Res.bind_ok, trim] at h
    by_cases hz : (d.bnd S.length && (S'.take S.length).all (Ob.bnd S.length)) = true
    · rw [if_pos hz] at h
      rw [Bool.and_eq_true] at hz
      intro v G' H' μ' st rl rv
      have hl : (S'.take S.length).length = S.length := by rw [List.length_take]; exact Nat.min_eq_left st.len
      refine h v G' H' μ' ?_ ?_ ?_
      · rw [hl]
        exact ⟨st.sub, Nat.le_refl _, st.mu, fun i h1 h2 => absurd h2 (by omega), fun b o e ni nt => st.gk b o e ni nt, fun b o e ni nt => st.hk b o e ni nt, st.hid, st.dom, st.dmc⟩
      · refine ⟨fun i o e2 => ?_, fun i j hi hj => rl.inj i j (by rw [hl] at hi; exact Nat.lt_of_lt_of_le hi st.len) (by rw [hl] at hj; exact Nat.lt_of_lt_of_le hj st.len), rl.tab⟩
        have hi : i < S.length := by rw [← hl]; exact (List.getElem?_eq_some_iff.mp e2).1
        have e3 : S'[i]? = some o := by rw [List.getElem?_take_of_lt hi] at e2; exact e2
        have hb : Ob.bnd S.length o = true := List.all_eq_true.mp hz.2 o (List.mem_of_getElem? e2)
        have q := rl.sto i o e3
        rw [hl]
        cases o with
        | lst xs => obtain ⟨vs, h1, h2⟩ := q; exact ⟨vs, h1, h2.cutn st.len xs hb⟩
        | dct ks xs => obtain ⟨vs, h1, hk, h2⟩ := q; exact ⟨vs, h1, hk, h2.cutn st.len xs hb⟩
        | dcu ks xs => obtain ⟨vs, h1, hk, h2⟩ := q; exact ⟨vs, h1, hk, h2.cutn st.len xs hb⟩
      · rw [hl]; exact rv.cut st.len d hz.1
    · rw [if_neg hz] at h
      exact h
theorem FnG.trim (h : FnG P w K mg base k f np F) : FnG P w K mg base k f np (trimF F) :=
  ⟨fun A outer s H G μ S us vs ds Q hr hg he hv hl hs hrel hrep post => h.run A outer s H G μ S us vs ds Q hr hg he hv hl hs hrel hrep (trim_post post)⟩
theorem FnG.mono {j : Nat} (h : FnG P w K mg base j f np F) (hj : j ≤ k) : FnG P w K mg base k f np F :=
  ⟨fun A outer s H G μ S us vs ds Q hr => h.run A outer s H G μ S us vs ds Q (hr.mono hj)⟩
/-! ### a def by its body -/
def inits (nl : Nat) (ds : List D) : Sl := ds.map some ++ List.replicate (nl - ds.length) none
def outF (r : Res Fl) : Res D := r.bind fun fl S' => match fl with
  | .rt d => .ok d S'
  | .nx _ => .ok .non S'
  | _ => .bad
def runF (nl : Nat) (m : MS) : FA := fun S ds => outF (m (inits nl ds) S)
theorem inits_ok {G : Hp} {μ : Nat → Addr} {n : Nat} {ds : List D} {vs : List V} {N : List Str} (r : RepVs K mg G μ n ds vs) : SlOk K mg G μ n (inits N.length ds) (L2.start N vs) := by
  have hl := r.len
  refine ⟨by simp [inits, L2.start, hl], fun i d e => ?_⟩
  unfold inits at e
  by_cases hi : i < ds.length
  · rw [List.getElem?_append_left (by simpa using hi), List.getElem?_map] at e
    cases e2 : ds[i]? with
    | none => rw [e2] at e; cases e
    | some d' =>
      rw [e2] at e
      cases e
      obtain ⟨v, e3, rv⟩ := r.get e2
      refine ⟨v, ?_, rv⟩
      unfold L2.start
      rw [List.getElem?_append_left (by simpa [hl] using hi), List.getElem?_map, e3]
      rfl
  · rw [List.getElem?_append_right (by simpa using hi), List.getElem?_replicate] at e
    split at e <;> cases e
theorem fn_body {x qual : Str} {st : Stmt} {fd : FuncData} {N ps : List Str} {m : MS} (Fu : Fun K x qual st f fd) (sc : FnScope N ps (defScope st)) (hb : Binds K fd ps [])
    (hm : ∀ (cdv : Value) (A : Around) (outer : List Env) (s : Shared) (H : Hp), Room k (A.deeper (envOfC qual (defScope st) s.heap.objs.size f cdv)) → A.guards = some [] → fd.code = cdv → EvSs (cxOf CX0 P w K mg base N qual (defScope st) f cdv A outer s H E0) (defBody st) m) :
    FnG P w K mg base (k + 1) f ps.length (runF N.length m) := by
  obtain ⟨oc, od, kV, doc, pm, an, cdv, ct, osl, rfl, lk, hcd⟩ := Fu.ex
  refine ⟨fun A outer s H G μ S us vs ds Q hr hg he hv hl hs hrel hrep post => ?_⟩
  have KX : K.In s.heap := he.mod.kin.keeps fun b o e => (he.bs b o e).1
  have nl : s.heap.NoLimit := he.mod.nolimit.keeps fun b o e => (he.bs b o e).1
  have kinds : ∀ y ∈ ps.zip us, (defScope st).names.lookup y.1 = some .local ∨
      ((defScope st).names.lookup y.1 = some .cell ∧ ((cellsFrom (s.heap.objs.size + 1) (defScope st).names []).lookup y.1).isSome = true) := by
    rintro ⟨y, u⟩ hy
    cases sc.par y (List.of_mem_zip hy).1 with
    | inl q => exact .inl q
    | inr q => exact .inr ⟨q, PySem.W.cellsFrom_some _ _ _ (.inl q)⟩
  have hl' : (us ++ ([] : List Value)).length = ps.length := by rw [List.append_nil]; exact hl
  have bt := hb s us KX hl'
  rw [List.append_nil] at bt
  refine codeAny_call_function hr.depth (KX _ _ lk) rfl sc.co sc.gen rfl (PySem.W.codeRec_of KX hcd) (bt _ _ _ _ ?_)
  refine wpAny_newFunctionEnv_cells sc.kind kinds fun env eenv s1 inC => ?_
  subst eenv
  refine ⟨nl.keeps inC.toInCall.keep, codeAny_func ?_⟩
  have ev := hm cdv A outer s H (hr.deeper _) hg rfl
  have I := inv_start (CX := CX0) (E := E0) (f := f) (cd := cdv) (qual := qual) sc hr.hd he (by rw [hv.length]; exact hl) hv inC
  have rd : tS K mg m { nx := fun _ H' => Q .non H', rt := Q } (L2.start N vs) H := by
    refine ⟨G, μ, inits N.length ds, S, ⟨hs, hrel, inits_ok hrep⟩, ?_⟩
    have post : PostV K mg ((m (inits N.length ds) S).bind fun fl S' => match fl with | .rt d => .ok d S' | .nx _ => .ok .non S' | _ => .bad) G H μ S.length Q := post
    cases e : m (inits N.length ds) S with
    | bad => rw [e] at post; exact post.elim
    | ok fl S1 =>
      rw [e] at post
      simp only [Res.bind_ok] at post
      cases fl with
      | nx sl => exact fun σ' G' H' μ' st rl so => post .non G' H' μ' st rl rfl
      | rt d => exact post
      | bk sl => exact post.elim
      | ct sl => exact post.elim
  refine wpAny_mono (ev.run [] s1 (L2.start N vs) H _ I rd) (fun fl s' hq => ?_) fun e s' hq => hq
  cases fl with
  | ret u =>
    obtain ⟨v, σ', H', J, rv, q⟩ := hq
    exact ⟨v, H', J.os, J.bare, J.base, J.hok, rv, q⟩
  | next =>
    obtain ⟨σ', H', J, q⟩ := hq
    exact ⟨.non, H', J.os, J.bare, J.base, J.hok, rfl, q⟩
  | brk =>
    obtain ⟨_, _, _, q⟩ := hq
    exact q.elim
  | cont =>
    obtain ⟨_, _, _, q⟩ := hq
    exact q.elim
end
/-! ### calls -/
section
variable {X : Cx} {k : Nat} {f : Addr} {np : Nat} {F : FA} {x : Str} {p pos : Pos} {e : Expr} {es : List Expr} {as : MA}
theorem run_call {pins : List (Addr × Obj)} {σ : L2.St} {H G : Hp} {μ : Nat → Addr} {S : Sto} {s : Shared} {Q : VK} {us : List Value} {vs : List V} {ds : List D} (Fn : FnG X.prog X.w X.K X.mg X.base k f np F) (hr : Room k X.A) (hgd : X.A.guards = some []) (I : Inv X pins σ H s) (r : Vals vs us) (hl : us.length = np)
    (hs : Sub G H) (hrel : RelS X.K X.mg μ S G) (hrep : RepVs X.K X.mg G μ S.length ds vs) (post : PostV X.K X.mg (F S ds) G H μ S.length Q) : wpAny (model X.prog X.w) X.A (call (.ref f) us) (EP X pins σ Q) X.xe s := by
  refine wpAny_call (codeAny_mono (Fn.run X.A X.stack s H G μ S us vs ds Q hr hgd I.env0 r hl hs hrel hrep post) fun res s' hq => ?_)
  match res, hq with
  | .error _, hq => exact False.elim hq
  | .ok (.ret u), hq => exact I.after hq
  | .ok .next, hq => exact False.elim hq
  | .ok .brk, hq => exact False.elim hq
  | .ok .cont, hq => exact False.elim hq
def argN (n : Nat) (F : FA) : FA := fun S ds => if ds.length = n then F S ds else .bad
theorem ev_call (Fn : FnG X.prog X.w X.K X.mg X.base k f np F) (hr : Room k X.A) (hgd : X.A.guards = some []) (hg : Gl X x) (hm : X.mg x = some (.ref f)) (hk : PySem.W.keepIn X.K (.ref f) = true) (ha : EvA X (e :: es) as)
    (hdb : (x == ("__debug__" : Str)) = false := by decide) (he : starEach (e :: es) X.env = (false, eval e X.env) :: starEach es X.env := by rfl) (hpl : (backTo pos (starEach es X.env)).any (·.1) = false := by rfl) : EvE X (.Call (.Name x p) (e :: es) [] pos) (mB (argN np F) as) := by
  refine ⟨fun pins s σ H Q I ⟨G, μ, sl, S, A, post⟩ => ?_⟩
  have rd : tA X.K X.mg as σ H fun vs H1 => ∃ (G1 : Hp) (μ1 : Nat → Addr) (S1 : Sto) (ds : List D), ds.length = np ∧ Sub G1 H1 ∧ RelS X.K X.mg μ1 S1 G1 ∧ RepVs X.K X.mg G1 μ1 S1.length ds vs ∧ PostV X.K X.mg (F S1 ds) G1 H1 μ1 S1.length Q :=
    ⟨G, μ, sl, S, A, bindAV A post fun ds S1 vs G1 H1 μ1 st1 A1 r1 p1 => by
      unfold argN at p1
      by_cases hz : ds.length = np
      · rw [if_pos hz] at p1; exact ⟨G1, μ1, S1, ds, hz, A1.sub, A1.rel, r1, p1⟩
      · rw [if_neg hz] at p1; exact p1.elim⟩
  refine wpAny_Call_Name_kw (ld_glob I hg hm ?_ hdb)
  refine PySem.W.callWith_K (h₀ := X.base) I.ok.mod.kin hk (thn (ha.run pos pins s σ H _ I rd) fun us s1 hq => ?_) he hpl
  obtain ⟨vs, H1, I1, r, G1, μ1, S1, ds, hz, h1, h2, h3, h4⟩ := hq
  exact ⟨I1.kIn, run_call Fn hr hgd I1 r (show us.length = np by rw [← r.length, ← h3.len]; exact hz) h1 h2 h3 h4⟩
theorem ev_call0 (Fn : FnG X.prog X.w X.K X.mg X.base k f 0 F) (hr : Room k X.A) (hgd : X.A.guards = some []) (hg : Gl X x) (hm : X.mg x = some (.ref f)) (hk : PySem.W.keepIn X.K (.ref f) = true) (hdb : (x == ("__debug__" : Str)) = false := by decide) :
    EvE X (.Call (.Name x p) [] [] pos) (fun _ S => F S []) := by
  refine ⟨fun pins s σ H Q I ⟨G, μ, sl, S, A, post⟩ => ?_⟩
  refine wpAny_Call_Name_kw (ld_glob I hg hm ?_ hdb)
  exact PySem.W.callWith_K0 I.kIn hk (run_call (us := []) (vs := []) (ds := []) Fn hr hgd I .nil rfl A.sub A.rel rfl post)
/-- what a name of a table does -/
structure FnT (P : Program) (w : World) (K : PySem.W.Frag) (mg : Str → Option Value) (base : Heap) (k : Nat) (np : Nat) (tab : Str → Option FA) : Prop where
  get : ∀ x F, tab x = some F → ∃ f, mg x = some (.ref f) ∧ PySem.W.keepIn K (.ref f) = true ∧ FnG P w K mg base k f np F
def callT (tab : Str → Option FA) (np : Nat) (fd : D) (S : Sto) (ds : List D) : Res D := match fd with
  | .fn x => (match tab x with
    | some F => if ds.length = np then F S ds else .bad
    | none => .bad)
  | _ => .bad
@[reducible] def mCallT (tab : Str → Option FA) (np : Nat) (mf : ME) (as : MA) : ME := fun sl S => (mf sl S).bind fun fd S1 => (as sl S1).bind fun ds S2 => callT tab np fd S2 ds
theorem ev_callT {tab : Str → Option FA} {fe : Expr} {mf : ME} (T : FnT X.prog X.w X.K X.mg X.base k np tab) (hr : Room k X.A) (hgd : X.A.guards = some []) (hf : EvE X fe mf) (ha : EvA X (e :: es) as)
    (he : starEach (e :: es) X.env = (false, eval e X.env) :: starEach es X.env := by rfl) (hpl : (backTo pos (starEach es X.env)).any (·.1) = false := by rfl)
    (hc : eval (.Call fe (e :: es) [] pos) X.env = (do callWith pos (← eval fe X.env) [] (backTo pos (starEach (e :: es) X.env)) (backToKw pos (keywordEach [] X.env))) := by rfl) : EvE X (.Call fe (e :: es) [] pos) (mCallT tab np mf as) := by
  refine ⟨fun pins s σ H Q I ⟨G, μ, sl, S, A, post⟩ => ?_⟩
  have post : PostV X.K X.mg ((mf sl S).bind fun fd S1 => (as sl S1).bind fun ds S2 => callT tab np fd S2 ds) G H μ S.length Q := post
  have rd : tE X.K X.mg mf σ H fun v H1 => ∃ (G1 : Hp) (μ1 : Nat → Addr) (S1 : Sto) (x : Str) (f : Addr) (F : FA), tab x = some F ∧ v = .ref f ∧ X.mg x = some (.ref f) ∧ At X.K X.mg G1 H1 μ1 S1 sl σ ∧ PostV X.K X.mg ((as sl S1).bind fun ds S2 => if ds.length = np then F S2 ds else .bad) G1 H1 μ1 S1.length Q :=
    ⟨G, μ, sl, S, A, bindV A post fun d S1 v G1 H1 μ1 st1 A1 r1 p1 => by
      have dead : (as sl S1).bind (fun ds S2 => (Res.bad : Res D)) = .bad := by cases as sl S1 <;> rfl
      cases d with
      | fn x =>
        obtain ⟨f, hm, ev⟩ := r1
        cases e2 : tab x with
        | none => simp only [callT, e2] at p1; rw [dead] at p1; exact p1.elim
        | some F => simp only [callT, e2] at p1; exact ⟨G1, μ1, S1, x, f, F, e2, ev, hm, A1, p1⟩
      | _ => simp only [callT] at p1; rw [dead] at p1; exact p1.elim⟩
  refine Call_ (thn (hf.run pins s σ H _ I rd) fun u s1 hq => ?_) hc
  obtain ⟨v, H1, I1, r1, G1, μ1, S1, x, f, F, htab, ev, hmx, A1, p1⟩ := hq
  subst ev
  cases r1
  obtain ⟨f', hm', hk, Fn⟩ := T.get x F htab
  rw [hmx] at hm'
  cases hm'
  have rd2 : tA X.K X.mg as σ H1 fun vs H2 => ∃ (G2 : Hp) (μ2 : Nat → Addr) (S2 : Sto) (ds : List D), ds.length = np ∧ Sub G2 H2 ∧ RelS X.K X.mg μ2 S2 G2 ∧ RepVs X.K X.mg G2 μ2 S2.length ds vs ∧ PostV X.K X.mg (F S2 ds) G2 H2 μ2 S2.length Q :=
    ⟨G1, μ1, sl, S1, A1, bindAV A1 p1 fun ds S2 vs G2 H2 μ2 st2 A2 r2 p2 => by
      by_cases hz : ds.length = np
      · rw [if_pos hz] at p2; exact ⟨G2, μ2, S2, ds, hz, A2.sub, A2.rel, r2, p2⟩
      · rw [if_neg hz] at p2; exact p2.elim⟩
  refine PySem.W.callWith_K (h₀ := X.base) I1.ok.mod.kin hk (thn (ha.run pos pins s1 σ H1 _ I1 rd2) fun us s2 hq => ?_) he hpl
  obtain ⟨vs, H2, I2, r, G2, μ2, S2, ds, hz, h1, h2, h3, h4⟩ := hq
  exact ⟨I2.kIn, run_call Fn hr hgd I2 r (show us.length = np by rw [← r.length, ← h3.len]; exact hz) h1 h2 h3 h4⟩
end
/-! ### a law's end -/
/-- the code objects of the defs with lambdas, and their tables -/
def lamC (K : PySem.W.Frag) : List (Addr × Addr) := lamNm.map fun x => He.cT K (x, none)
theorem lamT_mem {K : PySem.W.Frag} {p : Addr × Str} (h : p ∈ lamT K) : ∃ q ∈ lamC K, q.2 = p.1 := by
  obtain ⟨x, hx, e⟩ := List.mem_map.mp h
  exact ⟨_, List.mem_map.mpr ⟨x, hx, rfl⟩, by rw [← e]; rfl⟩
/-- what is known of them where a law starts -/
structure LamOk (K : PySem.W.Frag) (h : Heap) : Prop where
  hd : ∀ p ∈ lamC K, PySem.W.codeHdIn K p.1 p.2 = true
  out : ∀ p ∈ lamC K, K.lookup p.2 = none
  empty : ∀ p ∈ lamC K, h.get? p.2 = some { cls := .none, data := .fields #[] }
def MainBlt (mg : Str → Option Value) (h : Heap) : Prop := ∃ (bm : Addr) (ob : Obj), mg "__builtins__" = some (.ref bm) ∧ bm ≠ builtinsNs ∧ h.get? bm = some ob ∧ ob.cls = .type "module" ∧ ob.dict = some builtinsNs ∧ ob.data = .plain
theorem law_core {P : Program} {w : World} {K : PySem.W.Frag} {mg mb : Str → Option Value} {k : Nat} {fa a : Addr} {F : FA} {s₁ : Shared} {vs : List Value} {ns : List Int} {H : Hp} (KX : K.In s₁.heap) (hns : s₁.heap.Ns mainGlobals mg) (hb : s₁.heap.Ns builtinsNs mb)
    (hbb : ∀ x : Str, x ≠ "__name__" → mb x = bootBuiltins x) (hlim : s₁.heap.NoLimit) (hgen : s₁.gens = #[]) (hob : s₁.heap.get? a = some { cls := .type "list", data := .seq vs.toArray }) (hr : Room k callerA) (LO : LamOk K s₁.heap) (MB : MainBlt mg s₁.heap)
    (tbs : ∀ p ∈ lamC K, H p.2 = some (.tbl #[]))
    (only : ∀ b u, H b = some u → (b = a ∧ ∃ ob, u = .frz ob (.lst (ns.map V.int))) ∨ (u = .tbl #[] ∧ ∃ p ∈ lamC K, p.2 = b)) (hka : H a ≠ none → K.lookup a = none) (hok : HOk P w H s₁.heap) (hscr : (∃ o, H a = some (.frz o (.lst (ns.map V.int)))) ∨ SqL K (fun _ => none) a (ns.map V.int))
    (Fn : ∀ base : Heap, K.In base → base.Ns mainGlobals mg → (∀ p ∈ lamC K, LamX.TabB base mg p.1 p.2) → FnG P w K mg base k fa 1 F) (good : ∃ S', F [] [.scr ns] = .ok (.bl true) S') :
    codeAny (model P w) callerA (.call (.ref fa) ⟨[.ref a], []⟩) (fun r s' => r = .ok (.ret (.bool true)) ∧ OldK s₁.heap s'.heap ∧ s'.os = s₁.os ∧ AllBare s'.gens) s₁ := by
  have Hn : ∀ {b : Addr} {o : Obj}, s₁.heap.get? b = some o → (∀ xs n, o.data ≠ .seq xs n) → o.data ≠ .fields #[] → H b = none := fun {b o} e n1 n2 => by
    cases q : H b with
    | none => rfl
    | some u =>
      rcases only b u q with ⟨z, _⟩ | ⟨_, p, hp, z⟩
      · rw [z, hob] at e; cases e; exact absurd rfl (n1 _ _)
      · rw [← z, LO.empty p hp] at e; cases e; exact absurd rfl n2
  have free : ∀ {b : Addr} {o : Obj} {es : Array DictEntry} {ep : Nat}, s₁.heap.get? b = some o → o.data = .dict es ep → H b = none := fun {b o es ep} e dd =>
    Hn e (fun _ _ z => by rw [dd] at z; cases z) (fun z => by rw [dd] at z; cases z)
  have keepNs : ∀ {b : Addr} {m : Str → Option Value}, s₁.heap.Ns b m → (hidT s₁.heap H).Ns b m := fun {b m} hN => by
    obtain ⟨o, es, ep, e, dd, rest⟩ := hN
    exact ⟨o, es, ep, hidT_get e (free e dd), dd, rest⟩
  have kin : K.In (hidT s₁.heap H) := fun b o e => by
    refine hidT_get (KX b o e) ?_
    cases q : H b with
    | none => rfl
    | some u =>
      rcases only b u q with ⟨hba, _⟩ | ⟨_, p, hp, z⟩
      · subst hba
        rw [hka (by rw [q]; exact fun z => nomatch z)] at e
        cases e
      · rw [← z, LO.out p hp] at e
        cases e
  have lim : (hidT s₁.heap H).NoLimit := by
    obtain ⟨mc, q1, q2⟩ := hlim
    exact ⟨mc, keepNs q1, q2⟩
  have nGl : ∀ {b : Addr} {o : Obj}, s₁.heap.get? b = some o → (∀ es ep, o.data ≠ .dict es ep) → b ≠ mainGlobals := fun {b o} e nd z => by
    obtain ⟨o2, es, ep, e2, dd, _⟩ := hns
    rw [z, e2] at e
    cases e
    exact nd _ _ dd
  have tb : ∀ p ∈ lamC K, LamX.TabB (hidT s₁.heap H) mg p.1 p.2 := fun p hp => by
    obtain ⟨bm, ob, m1, m2, m3, m4, m5, m6⟩ := MB
    have pe := LO.empty p hp
    refine ⟨PySem.W.codeHd_of_K kin (LO.hd p hp), ⟨bm, ob, m1, m2, nGl m3 (fun _ _ z => by rw [m6] at z; cases z), fun z => ?_, hidT_get m3 (Hn m3 (fun _ _ z => by rw [m6] at z; cases z) (fun z => by rw [m6] at z; cases z)), m4, m5, m6⟩, fun z => nGl pe (fun _ _ z => by cases z) z.symm⟩
    rw [z, pe] at m3
    cases m3
    cases m6
  have md : Mod K mg (hidT s₁.heap H) := ⟨kin, keepNs hns, ⟨mb, keepNs hb, hbb⟩, lim⟩
  have e0 : Env0 P w K mg (hidT s₁.heap H) callerA [] s₁ H :=
    ⟨rfl, md, fun _ _ e => of_hidT e, Nat.le_of_eq (hidT_size _ _), trivial, fun b hb => (by cases hb), hok, .of_eq hgen⟩
  have rel : RelS K mg (fun _ => 0) [] H := ⟨fun i o e => by simp at e, fun i j hi => absurd hi (Nat.not_lt_zero _), fun p hp => by
    obtain ⟨q, hq, e⟩ := lamT_mem hp
    rw [← e]
    exact LamX.TabS.nil (tbs q hq)⟩
  have rep : RepVs K mg H (fun _ => 0) 0 [.scr ns] [.ref a] := ⟨_, _, rfl, ⟨a, rfl, hscr⟩, rfl⟩
  obtain ⟨S', hS⟩ := good
  have post : PostV K mg (F [] [.scr ns]) H H (fun _ => 0) 0 (fun v _ => v = .bl true) := by
    rw [hS]
    exact fun v G' H' μ' st rl r => r
  have main := (Fn _ kin (keepNs hns) tb).run callerA [] s₁ H H (fun _ => 0) [] [.ref a] [.ref a] [.scr ns] _ hr rfl e0 (.cons rfl .nil) rfl Sub.refl rel rep post
  refine codeAny_mono main fun r s' hq => ?_
  match r, hq with
  | .error _, hq => exact False.elim hq
  | .ok .next, hq => exact False.elim hq
  | .ok .brk, hq => exact False.elim hq
  | .ok .cont, hq => exact False.elim hq
  | .ok (.ret u), hq =>
    obtain ⟨v, H', os, bare, un, hok', rr, q⟩ := hq
    have q : v = .bl true := q
    subst q
    obtain rfl : u = Value.bool true := rr
    have old : ∀ b o, s₁.heap.get? b = some o → (∃ p ∈ lamC K, p.2 = b) ∨ s'.heap.get? b = some o := fun b o e => by
      cases hH : H b with
      | none => exact .inr (un.keep b o e hH (fun z => by cases z) (fun z => by cases z))
      | some u =>
        rcases only b u hH with ⟨rfl, ob, rfl⟩ | ⟨_, z⟩
        · have h1 := (hok b _ hH).1
          have h2 := (hok' b _ (un.frzs b _ _ hH)).1
          rw [h1] at e
          cases e
          exact .inr h2
        · exact .inl z
    have tab' : ∀ p ∈ lamC K, ∃ more : Array Value, s'.heap.get? p.2 = some { cls := .none, data := .fields more } := fun p hp => by
      obtain ⟨more, z⟩ := un.tbls p.2 #[] (tbs p hp)
      exact ⟨_, hok' p.2 _ z⟩
    refine ⟨rfl, ⟨fun b o e => ?_, fun b o e => ?_⟩, os, bare⟩
    · rcases old b o e with ⟨p, hp, ep⟩ | z
      · obtain ⟨more, hm⟩ := tab' p hp
        rw [← ep] at e ⊢
        rw [LO.empty p hp] at e
        cases e
        exact .inr (.inl ⟨((PySem.W.codeHd_of_K KX (LO.hd p hp)).tab (LO.empty p hp)).isCodeTable, rfl, #[], more, rfl, by rw [Array.empty_append]; exact hm⟩)
      · exact .inl z
    · rcases old b o e with ⟨p, hp, ep⟩ | z
      · obtain ⟨more, hm⟩ := tab' p hp
        rw [← ep]
        exact ⟨_, hm⟩
      · exact ⟨o, z⟩
theorem law_end {P : Program} {w : World} {K : PySem.W.Frag} {mg mb : Str → Option Value} {k : Nat} {fa a : Addr} {F : FA} {s₁ : Shared} {vs : List Value} {ns : List Int} (KX : K.In s₁.heap) (hns : s₁.heap.Ns mainGlobals mg) (hb : s₁.heap.Ns builtinsNs mb)
    (hbb : ∀ x : Str, x ≠ "__name__" → mb x = bootBuiltins x) (hlim : s₁.heap.NoLimit) (hgen : s₁.gens = #[]) (hob : s₁.heap.get? a = some { cls := .type "list", data := .seq vs.toArray }) (hi : IntsAre vs ns) (hlen : ns.length ≤ sizeLine) (hr : Room k callerA) (LO : LamOk K s₁.heap) (MB : MainBlt mg s₁.heap)
    (Fn : ∀ base : Heap, K.In base → base.Ns mainGlobals mg → (∀ p ∈ lamC K, LamX.TabB base mg p.1 p.2) → FnG P w K mg base k fa 1 F) (good : ∃ S', F [] [.scr ns] = .ok (.bl true) S') :
    codeAny (model P w) callerA (.call (.ref fa) ⟨[.ref a], []⟩) (fun r s' => r = .ok (.ret (.bool true)) ∧ OldK s₁.heap s'.heap ∧ s'.os = s₁.os ∧ AllBare s'.gens) s₁ := by
  have rv := vals_ints hi
  have isT : ∀ b, b ∈ (lamC K).map (·.2) → ∃ p ∈ lamC K, p.2 = b := fun b hb => let ⟨p, hp, e⟩ := List.mem_map.mp hb; ⟨p, hp, e⟩
  have memT : ∀ p ∈ lamC K, p.2 ∈ (lamC K).map (·.2) := fun p hp => List.mem_map.mpr ⟨p, hp, rfl⟩
  have ne : ∀ p ∈ lamC K, p.2 ≠ a := fun p hp z => by
    have e := LO.empty p hp
    rw [z, hob] at e
    cases e
  let HT : Hp := fun b => if b ∈ (lamC K).map (·.2) then some (.tbl #[]) else none
  have HTs : ∀ b u, HT b = some u → u = .tbl #[] ∧ ∃ p ∈ lamC K, p.2 = b := fun b u e => by
    have e : (if b ∈ (lamC K).map (·.2) then some (HO.tbl #[]) else none) = some u := e
    by_cases h : b ∈ (lamC K).map (·.2)
    · rw [if_pos h] at e
      exact ⟨(Option.some.inj e).symm, isT b h⟩
    · rw [if_neg h] at e; cases e
  have HTt : ∀ p ∈ lamC K, HT p.2 = some (.tbl #[]) := fun p hp => if_pos (memT p hp)
  have okT : ∀ b u, HT b = some u → ∀ H', ObjOk P w H' s₁.heap b u := fun b u e H' => by
    obtain ⟨rfl, p, hp, e2⟩ := HTs b u e
    rw [← e2]
    exact LO.empty p hp
  have noA : HT a = none := if_neg fun z => let ⟨p, hp, e⟩ := isT a z; ne p hp e
  cases hka : K.lookup a with
  | some o =>
    have e := KX a o hka
    rw [hob] at e
    cases e
    have written : SqL K (fun _ => none) a (ns.map V.int) :=
      .inr ⟨_, vs.toArray, _, hka, rfl, rfl, rfl, by rw [List.size_toArray, hi.length]; exact hlen, by simpa using rv⟩
    exact law_core (H := HT) KX hns hb hbb hlim hgen hob hr LO MB HTt (fun b u z => .inr (HTs b u z)) (fun z => absurd noA z) (fun b u z => okT b u z _) (.inr written) Fn good
  | none =>
    let ob : Obj := { cls := .type "list", data := .seq vs.toArray }
    have same : ∀ b, b ≠ a → upd HT a (.frz ob (.lst (ns.map V.int))) b = HT b := fun b h => upd_ne h
    have only : ∀ b u, upd HT a (.frz ob (.lst (ns.map V.int))) b = some u → (b = a ∧ u = .frz ob (.lst (ns.map V.int))) ∨ HT b = some u := fun b u e => by
      by_cases hba : b = a
      · rw [hba, upd_same] at e
        exact .inl ⟨hba, (Option.some.inj e).symm⟩
      · rw [same b hba] at e; exact .inr e
    refine law_core (H := upd HT a (.frz ob (.lst (ns.map V.int)))) KX hns hb hbb hlim hgen hob hr LO MB (fun p hp => by rw [same _ (ne p hp)]; exact HTt p hp) (fun b u e => (only b u e).elim (fun z => .inl ⟨z.1, ob, z.2⟩) fun z => .inr (HTs b u z)) (fun _ => hka) (fun b u e => ?_) (.inl ⟨ob, upd_same⟩) Fn good
    rcases only b u e with ⟨rfl, rfl⟩ | z
    · exact ⟨hob, by rw [List.length_map]; exact hlen, vs, _, rv, hob⟩
    · exact okT b u z _
/-- the goal that the head leaves -/
theorem walk_G {l : PySem.W.OpenLaw} {n k : Nat} {q : Program} {loose : List Str} {XP : (Str → Option Value) → Heap → Prop} {YP : World → Heap → Prop} {d : DefRec} {F : FA} (hn : l.most = some n) (hn2 : n ≤ sizeLine) (hdf : d.params.defaults = []) (hr : Room k callerA)
    (Fn : ∀ (w : World) (mg : Str → Option Value) (fa : Addr) (h : Heap), YP w h → h.Ns mainGlobals mg → mg d.name = some (.ref fa) → ∃ K : PySem.W.Frag, K.In h ∧ LamOk K h ∧ ∀ base : Heap, K.In base → base.Ns mainGlobals mg → (∀ p ∈ lamC K, LamX.TabB base mg p.1 p.2) → FnG l.prog w K mg base k fa 1 F)
    (good : ∀ ns : List Int, ns.length ≤ n → ∃ S', F [] [.scr ns] = .ok (.bl true) S') : PySem.W.WalkO q loose XP YP l.row.toRowW d [] (fun f vs => PySem.call f vs) := by
  refine Att.attach_call hn hdf fun w s₀ s₁ mg mb fa o pm cd doc a vs ns G Y ho hd hcd hmg hobj hints hlen hg => ?_
  obtain ⟨K, KX, LO, hF⟩ := Fn w mg fa _ Y G.T.g hmg
  exact law_end KX G.T.g G.T.b G.T.builtins G.T.nolimit hg hobj hints (Nat.le_trans hlen hn2) hr LO G.T.bmain hF (good ns hlen)
end Ev

/-! Ev: built-ins, methods, stores by data -/
namespace Ev
open PySem PySem.Spec PyProof.Rows L2
section
variable {X : Cx} {K : PySem.W.Frag} {mg : Str → Option Value}
theorem rep1 {G : Hp} {μ : Nat → Addr} {n : Nat} {d : D} {vs : List V} (h : RepVs K mg G μ n [d] vs) : ∃ v, vs = [v] ∧ RepV K mg G μ n d v := by
  obtain ⟨v, r, e, h1, h2⟩ := h
  rw [show r = [] from h2] at e
  exact ⟨v, e, h1⟩
theorem rep2 {G : Hp} {μ : Nat → Addr} {n : Nat} {d e : D} {vs : List V} (h : RepVs K mg G μ n [d, e] vs) : ∃ v w, vs = [v, w] ∧ RepV K mg G μ n d v ∧ RepV K mg G μ n e w := by
  obtain ⟨v, r, ev, h1, h2⟩ := h
  obtain ⟨w, er, h3⟩ := rep1 h2
  exact ⟨v, w, by rw [ev, er], h1, h3⟩
/-! ### == of scalars too -/
def fEqA (ng : Bool) : F2 := fun S a b => match a with
  | .str x => (match b with | .str y => .ok (.bl (if ng = true then !(x == y) else x == y)) S | _ => fEq ng S a b)
  | .int x => (match b with | .int y => .ok (.bl (if ng = true then !(x == y) else x == y)) S | _ => fEq ng S a b)
  | _ => fEq ng S a b
theorem os_eqA : OpS K mg (fun x y H Q => rEq x y H Q ∨ rEqD K x y H Q) (fEqA false) := fun G H μ S d1 d2 v1 v2 Q a r r1 r2 p => by
  cases d1 with
  | str x =>
    cases d2 with
    | str y => exact .inl (by rw [show v1 = .str x from r1, show v2 = .str y from r2]; exact ⟨rfl, by rw [dec_str]; exact PostV.here (d := .bl (x == y)) p a r rfl⟩)
    | _ => exact .inr (os_eq G H μ S _ _ v1 v2 Q a r r1 r2 p)
  | int x =>
    cases d2 with
    | int y => exact .inl (by rw [show v1 = .int x from r1, show v2 = .int y from r2]; exact ⟨rfl, by rw [dec_int]; exact PostV.here (d := .bl (x == y)) p a r rfl⟩)
    | _ => exact .inr (os_eq G H μ S _ _ v1 v2 Q a r r1 r2 p)
  | _ => exact .inr (os_eq G H μ S _ _ v1 v2 Q a r r1 r2 p)
theorem os_neA : OpS K mg (fun x y H Q => rNe x y H Q ∨ rNeD K x y H Q) (fEqA true) := fun G H μ S d1 d2 v1 v2 Q a r r1 r2 p => by
  cases d1 with
  | str x =>
    cases d2 with
    | str y => exact .inl (by rw [show v1 = .str x from r1, show v2 = .str y from r2]; exact ⟨rfl, by rw [dec_str]; exact PostV.here (d := .bl (!(x == y))) p a r rfl⟩)
    | _ => exact .inr (os_ne G H μ S _ _ v1 v2 Q a r r1 r2 p)
  | int x =>
    cases d2 with
    | int y => exact .inl (by rw [show v1 = .int x from r1, show v2 = .int y from r2]; exact ⟨rfl, by rw [dec_int]; exact PostV.here (d := .bl (!(x == y))) p a r rfl⟩)
    | _ => exact .inr (os_ne G H μ S _ _ v1 v2 Q a r r1 r2 p)
  | _ => exact .inr (os_ne G H μ S _ _ v1 v2 Q a r r1 r2 p)
theorem op_eqA (hu : X.A.units + 64 < cLine) : OpR X (compareOp .Eq) (fun x y H Q => rEq x y H Q ∨ rEqD X.K x y H Q) := op_eq.or (op_eqD hu)
theorem op_neA (hu : X.A.units + 64 < cLine) : OpR X (compareOp .NotEq) (fun x y H Q => rNe x y H Q ∨ rNeD X.K x y H Q) := op_ne.or (op_neD hu)
/-! ### len, all, any, tuple, sorted -/
def lenS (S : Sto) : D → Res D
  | .str z => if z.length ≤ 16777216 then .ok (.int z.length) S else .bad
  | _ => .bad
def fLen : FA := fun S ds => match ds with
  | [d] => (match asQ S d with
    | some xs => .ok (.int xs.length) S
    | none => lenS S d)
  | _ => .bad
abbrev rLenA (K : PySem.W.Frag) : List V → Hp → VK → Prop := fun xs H Q => (∃ p ys, xs = [.ref p] ∧ (SqL K H p ys ∨ SqT K H p ys) ∧ Q (.int ys.length) H) ∨ ∃ z, xs = [.str z] ∧ z.length ≤ sizeLine ∧ Q (.int z.length) H
theorem CallR.or' {f : Value} {r r' : List V → Hp → VK → Prop} (h : CallR X f r) (h' : CallR X f r') : CallR X f (fun xs H Q => r xs H Q ∨ r' xs H Q) := fun pins s σ H xs us Q I ru q => q.elim (h pins s σ H xs us Q I ru) (h' pins s σ H xs us Q I ru)
theorem cr_lenA : CallR X (.builtin "len") (rLenA X.K) := CallR.or' call_len_seq call_len_str
theorem cs_len : CallS K mg (rLenA K) fLen := fun G H μ S ds vs Q a r rp p => by
  match ds, rp, p with
  | [d], rp, p =>
    obtain ⟨v, rfl, rv⟩ := rep1 rp
    have p : PostV K mg (match asQ S d with | some xs => .ok (.int xs.length) S | none => lenS S d) G H μ S.length Q := p
    cases e : asQ S d with
    | some xs =>
      rw [e] at p
      obtain ⟨b, ws, rfl, hq, rr⟩ := asQ_rep a r rv e
      refine .inl ⟨b, ws, rfl, hq, ?_⟩
      rw [← rr.len]
      exact p.here a r rfl
    | none =>
      rw [e] at p
      cases d with
      | str z =>
        simp only [lenS] at p
        by_cases hz : z.length ≤ 16777216
        · rw [if_pos hz] at p
          exact .inr ⟨z, by rw [show v = .str z from rv], lim_ok hz, p.here a r rfl⟩
        · rw [if_neg hz] at p; exact p.elim
      | _ => exact p.elim
  | [], _, p => exact p.elim
  | _ :: _ :: _, _, p => exact p.elim
def boolsD : List D → Option (List Bool)
  | [] => some []
  | d :: ds => match d with
    | .bl b => (match boolsD ds with | some bs => some (b :: bs) | none => none)
    | _ => none
theorem boolsD_rep {G : Hp} {μ : Nat → Addr} {n : Nat} : ∀ {ds : List D} {vs : List V} {bs : List Bool}, RepVs K mg G μ n ds vs → boolsD ds = some bs → vs = bs.map V.bl
  | [], vs, bs, r, h => by cases h; exact r
  | d :: ds, vs, bs, r, h => by
    obtain ⟨v, t, e, r1, r2⟩ := r
    cases d with
    | bl b =>
      simp only [boolsD] at h
      cases e2 : boolsD ds with
      | none => rw [e2] at h; cases h
      | some cs =>
        rw [e2] at h
        cases h
        rw [e, show v = .bl b from r1, boolsD_rep r2 e2]
        rfl
    | _ => cases h
theorem boolsD_map {α : Type} (f : α → Bool) : ∀ xs : List α, boolsD (xs.map fun x => .bl (f x)) = some (xs.map f)
  | [] => rfl
  | x :: xs => by simp only [List.map_cons, boolsD, boolsD_map f xs]
def asLs (S : Sto) : D → Option (List D)
  | .tup _ => none
  | .wtp _ => none
  | d => asQ S d
theorem asLs_rep {G H : Hp} {μ : Nat → Addr} {S : Sto} (a : Sub G H) (r : RelS K mg μ S G) {d : D} {v : V} {xs : List D} (rp : RepV K mg G μ S.length d v) (h : asLs S d = some xs) : ∃ b vs, v = .ref b ∧ SqL K H b vs ∧ RepVs K mg G μ S.length xs vs := by
  refine asQ_notup (S := S) (d := d) ?_ ?_ ?_ a r rp
  · cases d with
    | tup ys => cases h
    | wtp ys => cases h
    | _ => exact h
  · rintro ys rfl
    cases h
  · rintro ys rfl
    cases h
def fAll (f : List Bool → Bool) : FA := fun S ds => match ds with
  | [d] => (match asLs S d with
    | some xs => (match boolsD xs with | some bs => .ok (.bl (f bs)) S | none => .bad)
    | none => .bad)
  | _ => .bad
theorem cs_all {f : List Bool → Bool} : CallS K mg (fun vs H Q => ∃ (a : Addr) (bs : List Bool), vs = [V.ref a] ∧ SqL K H a (bs.map V.bl) ∧ Q (.bl (f bs)) H) (fAll f) := fun G H μ S ds vs Q a r rp p => by
  match ds, rp, p with
  | [d], rp, p =>
    obtain ⟨v, rfl, rv⟩ := rep1 rp
    have p : PostV K mg (match asLs S d with | some xs => (match boolsD xs with | some bs => .ok (.bl (f bs)) S | none => .bad) | none => .bad) G H μ S.length Q := p
    cases e : asLs S d with
    | none => rw [e] at p; exact p.elim
    | some xs =>
      rw [e] at p
      simp only at p
      cases e2 : boolsD xs with
      | none => rw [e2] at p; exact p.elim
      | some bs =>
        rw [e2] at p
        obtain ⟨b, ws, rfl, hq, rr⟩ := asLs_rep a r rv e
        exact ⟨b, bs, rfl, by rw [← boolsD_rep rr e2]; exact hq, p.here a r rfl⟩
  | [], _, p => exact p.elim
  | _ :: _ :: _, _, p => exact p.elim
def fTuple : FA := fun S ds => match ds with
  | [d] => (match d with
    | .tup xs => .ok (.tup xs) S
    | d => match asLs S d with
      | some xs => .ok (.tup xs) S
      | none => .bad)
  | _ => .bad
theorem cs_tuple : CallS K mg (fun xs H Q => ∃ p ys, xs = [.ref p] ∧ ((SqL K H p ys ∧ NewT Q H ys) ∨ (SqT K H p ys ∧ Q (.ref p) H))) fTuple := fun G H μ S ds vs Q a r rp p => by
  match ds, rp, p with
  | [d], rp, p =>
    obtain ⟨v, rfl, rv⟩ := rep1 rp
    have lists : PostV K mg (match asLs S d with | some xs => .ok (.tup xs) S | none => .bad) G H μ S.length Q → ∃ p ys, [v] = [.ref p] ∧ ((SqL K H p ys ∧ NewT Q H ys) ∨ (SqT K H p ys ∧ Q (.ref p) H)) := fun p => by
      cases e : asLs S d with
      | none => rw [e] at p; exact p.elim
      | some xs =>
        rw [e] at p
        obtain ⟨b, ws, rfl, hq, rr⟩ := asLs_rep a r rv e
        exact ⟨b, ws, rfl, .inl ⟨hq, fun l ob od hl => PostV.tupN p a r rr od hl⟩⟩
    cases d with
    | tup xs =>
      obtain ⟨b, ws, rfl, hq, rr⟩ := rv
      exact ⟨b, ws, rfl, .inr ⟨a.seqT hq.sq, PostV.here (d := .tup xs) p a r ⟨b, ws, rfl, hq, rr⟩⟩⟩
    | _ => exact lists p
  | [], _, p => exact p.elim
  | _ :: _ :: _, _, p => exact p.elim
/-- list(x) -/
def fList (al : Bool) : FA := fun S ds => match ds with
  | [d] => (match asQ S d with
    | some xs => mkL al xs S
    | none => .bad)
  | _ => .bad
theorem cs_list {al : Bool} : CallS K mg (fun xs H Q => ∃ p ys, xs = [.ref p] ∧ (SqL K H p ys ∨ SqT K H p ys) ∧ ∀ l, H l = none → Q (.ref l) (upd H l (.lst ys))) (fList al) := fun G H μ S ds vs Q a r rp p => by
  match ds, rp, p with
  | [d], rp, p =>
    obtain ⟨v, rfl, rv⟩ := rep1 rp
    have p : PostV K mg (match asQ S d with | some xs => mkL al xs S | none => .bad) G H μ S.length Q := p
    cases e : asQ S d with
    | none => rw [e] at p; exact p.elim
    | some xs =>
      rw [e] at p
      obtain ⟨b, ws, rfl, hq, rr⟩ := asQ_rep a r rv e
      exact ⟨b, ws, rfl, hq, fun l hl => mkL_post p a r rr hl⟩
  | [], _, p => exact p.elim
  | _ :: _ :: _, _, p => exact p.elim
/-! ### sorted, of ints -/
def insI (x : Int) : List Int → List Int
  | [] => [x]
  | y :: ys => if x ≤ y then x :: y :: ys else y :: insI x ys
def srtI : List Int → List Int
  | [] => []
  | x :: xs => insI x (srtI xs)
theorem insI_perm (x : Int) : ∀ ys, (insI x ys).Perm (x :: ys)
  | [] => .refl _
  | y :: ys => by
    unfold insI
    by_cases h : x ≤ y
    · rw [if_pos h]
    · rw [if_neg h]
      exact ((insI_perm x ys).cons y).trans (.swap _ _ _)
theorem srtI_perm : ∀ xs, (srtI xs).Perm xs
  | [] => .refl _
  | x :: xs => (insI_perm x _).trans ((srtI_perm xs).cons x)
theorem insI_sorted (x : Int) : ∀ {ys : List Int}, ys.Pairwise (· ≤ ·) → (insI x ys).Pairwise (· ≤ ·)
  | [], _ => by simp [insI]
  | y :: ys, h => by
    unfold insI
    by_cases hx : x ≤ y
    · rw [if_pos hx]
      refine List.pairwise_cons.mpr ⟨fun z hz => ?_, h⟩
      rcases List.mem_cons.mp hz with rfl | hz
      · exact hx
      · exact Int.le_trans hx ((List.pairwise_cons.mp h).1 z hz)
    · rw [if_neg hx]
      refine List.pairwise_cons.mpr ⟨fun z hz => ?_, insI_sorted x (List.pairwise_cons.mp h).2⟩
      rcases List.mem_cons.mp ((insI_perm x ys).mem_iff.mp hz) with rfl | hz
      · omega
      · exact (List.pairwise_cons.mp h).1 z hz
theorem srtI_sorted : ∀ xs, (srtI xs).Pairwise (· ≤ ·)
  | [] => .nil
  | x :: xs => insI_sorted x (srtI_sorted xs)
theorem sorted_one {xs ys : List Int} (h : xs.Perm ys) (h1 : xs.Pairwise (· ≤ ·)) (h2 : ys.Pairwise (· ≤ ·)) : xs = ys := by
  refine List.Perm.eq_of_pairwise (fun a b _ _ h1 h2 => Int.le_antisymm h1 h2) h1 h2 h
def intsD : List D → Option (List Int)
  | [] => some []
  | d :: ds => match d with
    | .int b => (match intsD ds with | some bs => some (b :: bs) | none => none)
    | _ => none
theorem intsD_rep {G : Hp} {μ : Nat → Addr} {n : Nat} : ∀ {ds : List D} {vs : List V} {bs : List Int}, RepVs K mg G μ n ds vs → intsD ds = some bs → vs = bs.map V.int
  | [], vs, bs, r, h => by cases h; exact r
  | d :: ds, vs, bs, r, h => by
    obtain ⟨v, t, e, r1, r2⟩ := r
    cases d with
    | int b =>
      simp only [intsD] at h
      cases e2 : intsD ds with
      | none => rw [e2] at h; cases h
      | some cs =>
        rw [e2] at h
        cases h
        rw [e, show v = .int b from r1, intsD_rep r2 e2]
        rfl
    | _ => cases h
theorem intsD_map : ∀ xs : List Int, intsD (xs.map D.int) = some xs
  | [] => rfl
  | x :: xs => by simp only [List.map_cons, intsD, intsD_map xs]
def fSorted (al : Bool) : FA := fun S ds => match ds with
  | [d] => (match asLs S d with
    | some xs => (match intsD xs with | some ns => mkL al ((srtI ns).map .int) S | none => .bad)
    | none => .bad)
  | _ => .bad
theorem cs_sorted {al : Bool} : CallS K mg (rSortedI K) (fSorted al) := fun G H μ S ds vs Q a r rp p => by
  match ds, rp, p with
  | [d], rp, p =>
    obtain ⟨v, rfl, rv⟩ := rep1 rp
    have p : PostV K mg (match asLs S d with | some xs => (match intsD xs with | some ns => mkL al ((srtI ns).map .int) S | none => .bad) | none => .bad) G H μ S.length Q := p
    cases e : asLs S d with
    | none => rw [e] at p; exact p.elim
    | some xs =>
      rw [e] at p
      simp only at p
      cases e2 : intsD xs with
      | none => rw [e2] at p; exact p.elim
      | some ns =>
        rw [e2] at p
        obtain ⟨b, ws, rfl, hq, rr⟩ := asLs_rep a r rv e
        refine ⟨b, ns, rfl, by rw [← intsD_rep rr e2]; exact hq, fun ns' q h1 h2 hn => ?_⟩
        have : ns' = srtI ns := sorted_one (h1.trans (srtI_perm ns).symm) h2 (srtI_sorted ns)
        subst this
        exact mkL_post p a r (RepVs.ints _) hn
  | [], _, p => exact p.elim
  | _ :: _ :: _, _, p => exact p.elim
/-! ### max, min of two -/
def f2I (g : Int → Int → Int) : FA := fun S ds => match ds with
  | [d, e] => (match d with
    | .int i => (match e with
      | .int j => .ok (.int (g i j)) S
      | _ => .bad)
    | _ => .bad)
  | _ => .bad
theorem cs_2I {g : Int → Int → Int} : CallS K mg (fun xs H Q => ∃ i j, xs = [.int i, .int j] ∧ Q (.int (g i j)) H) (f2I g) := fun G H μ S ds vs Q a r rp p => by
  match ds, rp, p with
  | [d, e], rp, p =>
    obtain ⟨v, w, rfl, h1, h2⟩ := rep2 rp
    cases d with
    | int i =>
      cases e with
      | int j => exact ⟨i, j, by rw [show v = .int i from h1, show w = .int j from h2], PostV.here (d := .int (g i j)) p a r rfl⟩
      | _ => exact p.elim
    | _ => exact p.elim
  | [], _, p => exact p.elim
  | [_], _, p => exact p.elim
  | _ :: _ :: _ :: _, _, p => exact p.elim
/-! ### repr -/
mutual
def pySz : PyData → Nat
  | .none => 4
  | .bool _ => 5
  | .int i => i.natAbs.log2 + 2
  | .str x => (reprText x).length
  | .list xs => pySzs xs + 2
  | .tuple xs => pySzs xs + 2
  | .dict _ => 0
def pySzs : List PyData → Nat
  | [] => 0
  | x :: xs => pySz x + 2 + pySzs xs
end
end
end Ev

/-! Ev: repr, isinstance, list methods, dicts -/
namespace Ev
open PySem PySem.Spec PyProof.Rows L2
section
variable {X : Cx} {K : PySem.W.Frag} {mg : Str → Option Value}
/-! ### repr -/
def fRepr : FA := fun S ds => match ds with
  | [d] => (match toPy S d with
    | some p => if (p.showable && (!p.hasDict && (decide (p.depth ≤ 60) && decide (p.shown.length ≤ 16777216)))) = true then .ok (.str p.shown) S else .bad
    | none => .bad)
  | _ => .bad
def rRepr (K : PySem.W.Frag) : List V → Hp → VK → Prop := fun xs H Q => ∃ v p, xs = [v] ∧ Dp K H v p ∧ p.showable = true ∧ p.hasDict = false ∧ p.depth ≤ 60 ∧ p.shown.length ≤ sizeLine ∧ Q (.str p.shown) H
theorem cr_repr (hg : X.A.guards = some []) (hu : X.A.units + 64 < cLine) : CallR X (.builtin "repr") (rRepr X.K) := by
  intro pins s σ H xs us Q I r h
  obtain ⟨v, p, rfl, hd, h1, h2, h3, h4, q⟩ := h
  obtain ⟨u, rfl, ru⟩ := vals1 r
  obtain ⟨as, rr⟩ := Dp.reads I p v u hd ru
  cases hd with
  | non => cases ru; exact PySem.P.repr_of_none ⟨.str _, H, I.tok _, ⟨_, rfl⟩, q⟩
  | bl b => cases ru; exact PySem.P.repr_of_bool ⟨.str _, H, I.tok _, ⟨_, rfl⟩, q⟩
  | int i => obtain ⟨t, rfl⟩ := ru; exact PySem.P.repr_of_int (of_decide_eq_true h1) ⟨.str _, H, I.tok _, ⟨_, rfl⟩, q⟩
  | str x => obtain ⟨t, rfl⟩ := ru; exact PySem.P.repr_of_str ⟨.str _, H, I.tok _, ⟨_, rfl⟩, q⟩ h4
  | lst hs ha => cases ru; exact repr_of_reads' rr h1 (PyData.noDict_hsm h2) hg (by omega) (fun _ _ e => e) (fun h' u tk hk => ⟨.str _, H, I.kept hk, ⟨_, rfl⟩, q⟩) h4
  | tup hs ha => cases ru; exact repr_of_reads' rr h1 (PyData.noDict_hsm h2) hg (by omega) (fun _ _ e => e) (fun h' u tk hk => ⟨.str _, H, I.kept hk, ⟨_, rfl⟩, q⟩) h4
theorem cs_repr : CallS K mg (rRepr K) fRepr := fun G H μ S ds vs Q a r rp p => by
  match ds, rp, p with
  | [d], rp, p =>
    obtain ⟨v, rfl, rv⟩ := rep1 rp
    unfold fRepr at p
    simp only at p
    cases e : toPy S d with
    | none => rw [e] at p; exact p.elim
    | some x =>
      rw [e] at p
      by_cases hz : (x.showable && (!x.hasDict && (decide (x.depth ≤ 60) && decide (x.shown.length ≤ 16777216)))) = true
      · simp only [if_pos hz] at p
        rw [Bool.and_eq_true, Bool.and_eq_true, Bool.and_eq_true] at hz
        exact ⟨v, x, rfl, toPy_rep a r rv e, hz.1, by simpa using hz.2.1, of_decide_eq_true hz.2.2.1, lim_ok (of_decide_eq_true hz.2.2.2), p.here a r rfl⟩
      · simp only [if_neg hz] at p; exact p.elim
  | [], _, p => exact p.elim
  | _ :: _ :: _, _, p => exact p.elim
/-! ### isinstance -/
inductive Ty where
  | non | bl | int | str | tup | lst | dct
  deriving DecidableEq
def Ty.nm : Ty → String
  | .non => "NoneType"
  | .bl => "bool"
  | .int => "int"
  | .str => "str"
  | .tup => "tuple"
  | .lst => "list"
  | .dct => "dict"
def Ty.isi : Ty → Ty → Bool
  | .bl, .int => true
  | a, b => decide (a = b)
theorem Ty.isi_ok (a b : Ty) (hb : b ≠ .non) : kitB a.nm b.nm = some (a.isi b) := by
  cases b with
  | non => exact absurd rfl hb
  | bl => cases a <;> decide +kernel
  | int => cases a <;> decide +kernel
  | str => cases a <;> decide +kernel
  | tup => cases a <;> decide +kernel
  | lst => cases a <;> decide +kernel
  | dct => cases a <;> decide +kernel
def tyS (S : Sto) : D → Option Ty
  | .non => some .non
  | .bl _ => some .bl
  | .int _ => some .int
  | .str _ => some .str
  | .tup _ => some .tup
  | .lst _ => some .lst
  | .dct _ _ => some .dct
  | .scr _ => some .lst
  | .ref n => match S[n]? with
    | some (.lst _) => some .lst
    | some (.dct _ _) => some .dct
    | some (.dcu _ _) => some .dct
    | none => none
  | .wtp _ => some .tup
  | _ => none
theorem tyL {H : Hp} {a : Addr} {xs : List V} (h : SqL K H a xs) : TyX K H (.ref a) (.type "list") := by
  rcases h with (h | ⟨o, h⟩) | ⟨o, its, n, h, c, _⟩
  · exact .base (.lst h)
  · exact .base (.frz h)
  · exact .kList h c
theorem tyT {H : Hp} {a : Addr} {xs : List V} (h : SqT K H a xs) : TyX K H (.ref a) (.type "tuple") := by
  rcases h with (h | ⟨o, h⟩) | ⟨o, its, n, h, c, _⟩
  · exact .base (.tup h)
  · exact .fTuple h
  · exact .kTuple h c
theorem tyS_rep {G H : Hp} {μ : Nat → Addr} {S : Sto} (a : Sub G H) (r : RelS K mg μ S G) {d : D} {v : V} {t : Ty} (rp : RepV K mg G μ S.length d v) (h : tyS S d = some t) : TyX K H v (.type t.nm) := by
  cases d with
  | non => cases h; rw [show v = .non from rp]; exact .base .non
  | bl b => cases h; rw [show v = .bl b from rp]; exact .base (.bl b)
  | int b => cases h; rw [show v = .int b from rp]; exact .base (.int b)
  | str b => cases h; rw [show v = .str b from rp]; exact .base (.str b)
  | tup xs => cases h; obtain ⟨b, vs, e, q, _⟩ := rp; rw [e]; exact tyT (a.seqT q.sq)
  | lst xs => cases h; obtain ⟨b, vs, e, q, _⟩ := rp; rw [e]; exact .base (.lst (a _ _ q))
  | dct k xs => cases h; obtain ⟨b, vs, e, q, _⟩ := rp; rw [e]; exact .base (.dK (a _ _ q))
  | scr ns => cases h; obtain ⟨b, e, q⟩ := rp; rw [e]; exact tyL (scr_rd a q)
  | ref n =>
    obtain ⟨hn, e⟩ := rp
    simp only [tyS] at h
    cases q : S[n]? with
    | none => rw [q] at h; cases h
    | some o =>
      rw [q] at h
      have z := r.sto n _ q
      cases o with
      | lst xs => cases h; obtain ⟨vs, h1, _⟩ := z; rw [e]; exact .base (.lst (a _ _ h1))
      | dct ks xs => cases h; obtain ⟨vs, h1, _⟩ := z; rw [e]; exact .base (.dK (a _ _ h1))
      | dcu ks xs => cases h; obtain ⟨vs, h1, _⟩ := z; rw [e]; exact .base (.dT (a _ _ h1))
  | fn x => cases h
  | wtp xs => cases h; obtain ⟨b, vs, e, q, _⟩ := rp; rw [e]; exact tyT (a.seqT q)
  | adr x => cases h
  | exn x => cases h
  | err x => cases h
  | ktp x => cases h
@[reducible] def mIsi (T : Ty) (ma : ME) : ME := fun sl S => (ma sl S).bind fun d S1 => match tyS S1 d with
  | some t => .ok (.bl (t.isi T)) S1
  | none => .bad
theorem ev_isi {a : Expr} {ma : ME} {p pt pos : Pos} (T : Ty) (hT : T ≠ .non) {x : Str} (hg : Gl X "isinstance") (hm : X.mg "isinstance" = none) (hgx : Gl X x) (hmx : X.mg x = none) (hx : bootBuiltins x = some (.type T.nm)) (ha : EvE X a ma) (hn : x ≠ "__name__" := by decide) (hdb : (x == ("__debug__" : Str)) = false := by decide)
    (he : starEach [a, .Name x pt] X.env = (false, eval a X.env) :: starEach [.Name x pt] X.env := by rfl) (he2 : starEach [.Name x pt] X.env = (false, eval (.Name x pt) X.env) :: starEach [] X.env := by rfl) (hpl : (backTo pos (starEach [.Name x pt] X.env)).any (·.1) = false := by rfl) : EvE X (.Call (.Name "isinstance" p) [a, .Name x pt] [] pos) (mIsi T ma) :=
  PE.imp (pe_callB call_isi hg hm (by decide +kernel) (pa_cons ha (pa_cons (pe_bltn (v := .ty T.nm) hgx hmx hx rfl hn hdb) pa_nil he2) he) (by decide) (by decide) he hpl) fun σ H Q ⟨G, μ, sl, S, A, post⟩ =>
    ⟨G, μ, sl, S, A, bindV A post fun d S1 v1 G1 H1 μ1 st1 A1 r1 p1 => by
      cases e : tyS S1 d with
      | none => rw [e] at p1; exact p1.elim
      | some t =>
        rw [e] at p1
        exact ⟨v1, .ty T.nm, .type t.nm, .type T.nm, _, rfl, .ty _, tyS_rep A1.sub A1.rel r1 e, kit_ty (Ty.isi_ok t T hT), p1.here A1.sub A1.rel rfl⟩⟩
/-! ### list(range(..)) -/
@[reducible] def mLRg (al : Bool) (mi : MI) : ME := fun sl S => (mi sl S).bind fun items S1 => if items.length ≤ 16777216 then mkL al items S1 else .bad
section
variable {a b : Expr} {ma mb : ME} {p pr pos pos2 : Pos} {al : Bool}
theorem rgV_D (lo hi : Int) {G : Hp} {μ : Nat → Addr} {n : Nat} : RepVs K mg G μ n ((List.range (hi - lo).toNat).map fun k => .int (lo + (k : Nat))) (rgV lo hi) := by
  have e : ((List.range (hi - lo).toNat).map fun k => D.int (lo + (k : Nat))) = ((List.range (hi - lo).toNat).map fun (k : Nat) => lo + (k : Int)).map D.int := by rw [List.map_map]; rfl
  have e2 : rgV lo hi = ((List.range (hi - lo).toNat).map fun (k : Nat) => lo + (k : Int)).map V.int := by unfold rgV; rw [List.map_map]; rfl
  rw [e, e2]
  exact RepVs.ints _
theorem ev_lrg2 (hc : X.calm = true) (hl : Gl X "list") (hml : X.mg "list" = none) (hg : Gl X "range") (hm : X.mg "range" = none) (ha : EvE X a ma) (hb : EvE X b mb) (na : starEach [a, b] X.env = (false, eval a X.env) :: starEach [b] X.env := by rfl)
    (nb : starEach [b] X.env = (false, eval b X.env) :: starEach [] X.env := by rfl) (hp : (backTo pos2 (starEach [b] X.env)).any (·.1) = false := by rfl) (n1 : starEach [.Call (.Name "range" pr) [a, b] [] pos2] X.env = (false, eval (.Call (.Name "range" pr) [a, b] [] pos2) X.env) :: starEach [] X.env := by rfl) :
    EvE X (.Call (.Name "list" p) [.Call (.Name "range" pr) [a, b] [] pos2] [] pos) (mLRg al (mRng2 ma mb)) :=
  PE.imp (pe_listRg hc hl hml (prg_2 hg hm ha hb na nb hp) n1) fun σ H Q ⟨G, μ, sl, S, A, post⟩ => by
    have post : PostV X.K X.mg (((ma sl S).bind fun d S1 => (mb sl S1).bind fun d2 S2 => match d with
      | .int i => (match d2 with
        | .int j => if (rngOk i && rngOk j) = true then .ok ((List.range (j - i).toNat).map fun k => D.int (i + (k : Nat))) S2 else .bad
        | _ => .bad)
      | _ => .bad).bind fun items S1 => if items.length ≤ 16777216 then mkL al items S1 else .bad) G H μ S.length Q := post
    refine ⟨G, μ, sl, S, A, ?_⟩
    cases e1 : ma sl S with
    | bad => rw [e1] at post; exact post.elim
    | ok d S1 =>
    rw [e1] at post
    simp only [Res.bind_ok] at post
    intro v1 G1 H1 μ1 st1 rl1 r1
    have A1 := A.go st1 rl1
    have post := PostV.step post st1 A.sub
    refine ⟨G1, μ1, sl, S1, A1, ?_⟩
    cases e2 : mb sl S1 with
    | bad => rw [e2] at post; exact post.elim
    | ok d2 S2 =>
    rw [e2] at post
    simp only [Res.bind_ok] at post
    intro v2 G2 H2 μ2 st2 rl2 r2
    have A2 := A1.go st2 rl2
    have post := PostV.step post st2 A1.sub
    cases d with
    | int i =>
      cases d2 with
      | int j =>
        simp only at post
        by_cases hz : (rngOk i && rngOk j) = true
        · rw [if_pos hz] at post
          simp only [Res.bind_ok] at post
          by_cases hl : ((List.range (j - i).toNat).map fun k => D.int (i + (k : Nat))).length ≤ 16777216
          · rw [if_pos hl] at post
            rw [Bool.and_eq_true] at hz
            obtain ⟨h1, h2⟩ := rngOk.of hz.1
            obtain ⟨h3, h4⟩ := rngOk.of hz.2
            rw [List.length_map, List.length_range] at hl
            exact ⟨i, j, r1, r2, ⟨h1, h2, h3, h4, by omega⟩, fun q hq => mkL_post post A2.sub A2.rel (rgV_D i j) hq⟩
          · rw [if_neg hl] at post; exact post.elim
        · rw [if_neg hz] at post; exact post.elim
      | _ => exact post.elim
    | _ => exact post.elim
theorem ev_lrg1 (hc : X.calm = true) (hl : Gl X "list") (hml : X.mg "list" = none) (hg : Gl X "range") (hm : X.mg "range" = none) (ha : EvE X a ma) (na : starEach [a] X.env = (false, eval a X.env) :: starEach [] X.env := by rfl)
    (n1 : starEach [.Call (.Name "range" pr) [a] [] pos2] X.env = (false, eval (.Call (.Name "range" pr) [a] [] pos2) X.env) :: starEach [] X.env := by rfl) :
    EvE X (.Call (.Name "list" p) [.Call (.Name "range" pr) [a] [] pos2] [] pos) (mLRg al (mRng1 ma)) :=
  PE.imp (pe_listRg hc hl hml (prg_1 hg hm ha na) n1) fun σ H Q ⟨G, μ, sl, S, A, post⟩ => by
    have post : PostV X.K X.mg (((ma sl S).bind fun d S1 => match d with
      | .int j => if rngOk j = true then .ok ((List.range j.toNat).map fun k => D.int (0 + (k : Nat))) S1 else .bad
      | _ => .bad).bind fun items S1 => if items.length ≤ 16777216 then mkL al items S1 else .bad) G H μ S.length Q := post
    refine ⟨G, μ, sl, S, A, ?_⟩
    cases e1 : ma sl S with
    | bad => rw [e1] at post; exact post.elim
    | ok d S1 =>
    rw [e1] at post
    simp only [Res.bind_ok] at post
    intro v1 G1 H1 μ1 st1 rl1 r1
    have A1 := A.go st1 rl1
    have post := PostV.step post st1 A.sub
    cases d with
    | int j =>
      simp only at post
      by_cases hz : rngOk j = true
      · rw [if_pos hz] at post
        simp only [Res.bind_ok] at post
        by_cases hl : ((List.range j.toNat).map fun k => D.int (0 + (k : Nat))).length ≤ 16777216
        · rw [if_pos hl] at post
          obtain ⟨h1, h2⟩ := rngOk.of hz
          rw [List.length_map, List.length_range] at hl
          have rr := rgV_D (K := X.K) (mg := X.mg) 0 j (G := G1) (μ := μ1) (n := S1.length)
          rw [show (j - 0).toNat = j.toNat by rw [Int.sub_zero]] at rr
          exact ⟨j, r1, ⟨by omega, by omega, h1, h2, by rw [Int.sub_zero]; omega⟩, fun q hq => mkL_post post A1.sub A1.rel rr hq⟩
        · rw [if_neg hl] at post; exact post.elim
      · rw [if_neg hz] at post; exact post.elim
    | _ => exact post.elim
end
/-! ### lists that are changed -/
def appD (S1 S2 : Sto) (o y : D) : Res D := match o with
  | .ref n => (match S1[n]? with
    | some (.lst _) => (match S2[n]? with
      | some (.lst xs) => if xs.length < 16777216 then .ok .non (S2.set n (.lst (xs ++ [y]))) else .bad
      | _ => .bad)
    | _ => .bad)
  | _ => .bad
@[reducible] def mApp (mo ma : ME) : ME := fun sl S => (mo sl S).bind fun o S1 => (ma sl S1).bind fun y S2 => appD S1 S2 o y
theorem lim_lt {n : Nat} (h : n < 16777216) : n < sizeLine := by rw [sizeLine_eq]; exact h
theorem RelS.getL {G : Hp} {μ : Nat → Addr} {S : Sto} (r : RelS K mg μ S G) {n : Nat} {xs : List D} (h : S[n]? = some (.lst xs)) : ∃ vs, G (μ n) = some (.lst vs) ∧ RepVs K mg G μ S.length xs vs ∧ n < S.length := by
  obtain ⟨vs, h1, h2⟩ := r.sto n _ h
  exact ⟨vs, h1, h2, (List.getElem?_eq_some_iff.mp h).1⟩
section
variable {o e : Expr} {mo me : ME} {apos cpos : Pos}
theorem ev_append (ho : EvE X o mo) (he : EvE X e me) (hbase : attributeBase o "append" X.env (eval o X.env) = eval o X.env := by rfl)
    (hfew : ((backTo cpos (starEach [e] X.env)).all (fun x => !x.1) && (backToKw cpos (keywordEach [] X.env)).all (fun x => x.1.isSome)
      && decide (([e] : List Expr).length + ([] : List Keyword).length + (if ([] : List Keyword).isEmpty then 0 else 1) < 30)) = true := by rfl)
    (hline : (apos.endLine == cpos.line) = true := by rfl) (hs : starEach [e] X.env = (false, eval e X.env) :: starEach [] X.env := by rfl) (hplain : (backTo cpos (starEach [] X.env)).any (·.1) = false := by rfl) :
    EvE X (.Call (.Attribute o "append" apos) [e] [] cpos) (mApp mo me) :=
  PE.imp (pe_bm PySem.F.plainAttrs_list PySem.F.slot_list_append PySem.F.type_list_append mt_append ho (pa_cons he pa_nil hs) hbase hfew hline hs hplain) fun σ H Q ⟨G, μ, sl, S, A, post⟩ =>
    ⟨G, μ, sl, S, A, bindV A post fun d S1 v1 G1 H1 μ1 st1 A1 r1 p1 => by
      have dead : (∀ S2 y, appD S1 S2 d y = .bad) → False := fun h => by
        have p1 : PostV X.K X.mg ((me sl S1).bind fun y S2 => appD S1 S2 d y) G1 H1 μ1 S1.length Q := p1
        cases q : me sl S1 with
        | bad => rw [q] at p1; exact p1
        | ok y S2 => rw [q] at p1; simp only [Res.bind_ok, h] at p1; exact p1
      cases d with
      | ref n =>
        cases q : S1[n]? with
        | none => exact (dead fun S2 y => by simp only [appD, q]).elim
        | some ob =>
          cases ob with
          | dct _ _ => exact (dead fun S2 y => by simp only [appD, q]).elim
          | dcu _ _ => exact (dead fun S2 y => by simp only [appD, q]).elim
          | lst xs =>
            obtain ⟨hn, ev⟩ := r1
            obtain ⟨vs, g1, rr, _⟩ := A1.rel.getL q
            refine ⟨by rw [ev]; exact .inl ⟨rfl, vs, .inl (.inl (A1.sub _ _ g1))⟩, G1, μ1, sl, S1, A1, bindV A1 p1 fun y S2 v2 G2 H2 μ2 st2 A2 r2 p2 => ?_⟩
            simp only [appD, q] at p2
            cases q2 : S2[n]? with
            | none => rw [q2] at p2; exact p2.elim
            | some ob2 =>
              rw [q2] at p2
              cases ob2 with
              | dct _ _ => exact p2.elim
              | dcu _ _ => exact p2.elim
              | lst ys =>
                simp only at p2
                by_cases hz : ys.length < 16777216
                · rw [if_pos hz] at p2
                  obtain ⟨ws, g2, rr2, hlt⟩ := A2.rel.getL q2
                  refine ⟨μ2 n, ws, v2, by rw [ev, st2.mu n hn], rfl, A2.sub _ _ g2, by rw [← rr2.len]; exact lim_lt hz, ?_⟩
                  exact p2.wrL A2.sub A2.rel hlt (rr2.app (.cons r2 .nil)) rfl
                · rw [if_neg hz] at p2; exact p2.elim
      | _ => exact (dead fun S2 y => by simp only [appD]).elim⟩
def popD (S1 S2 : Sto) (o y : D) : Res D := match o with
  | .ref n => (match S1[n]? with
    | some (.lst _) => (match S2[n]? with
      | some (.lst xs) => (match y with
        | .int i => (match ixN xs.length i with
          | some k => (match xs[k]? with
            | some d => if (decide (-(9223372036854775808 : Int) ≤ i) && decide (i < 9223372036854775808)) = true then .ok d (S2.set n (.lst (xs.eraseIdx k))) else .bad
            | none => .bad)
          | none => .bad)
        | _ => .bad)
      | _ => .bad)
    | _ => .bad)
  | _ => .bad
@[reducible] def mPop (mo ma : ME) : ME := fun sl S => (mo sl S).bind fun o S1 => (ma sl S1).bind fun y S2 => popD S1 S2 o y
theorem ev_popAt (ho : EvE X o mo) (he : EvE X e me) (hbase : attributeBase o "pop" X.env (eval o X.env) = eval o X.env := by rfl)
    (hfew : ((backTo cpos (starEach [e] X.env)).all (fun x => !x.1) && (backToKw cpos (keywordEach [] X.env)).all (fun x => x.1.isSome)
      && decide (([e] : List Expr).length + ([] : List Keyword).length + (if ([] : List Keyword).isEmpty then 0 else 1) < 30)) = true := by rfl)
    (hline : (apos.endLine == cpos.line) = true := by rfl) (hs : starEach [e] X.env = (false, eval e X.env) :: starEach [] X.env := by rfl) (hplain : (backTo cpos (starEach [] X.env)).any (·.1) = false := by rfl) :
    EvE X (.Call (.Attribute o "pop" apos) [e] [] cpos) (mPop mo me) :=
  PE.imp (pe_bm PySem.F.plainAttrs_list PySem.F.slot_list_pop PySem.F.type_list_pop mt_popAt ho (pa_cons he pa_nil hs) hbase hfew hline hs hplain) fun σ H Q ⟨G, μ, sl, S, A, post⟩ =>
    ⟨G, μ, sl, S, A, bindV A post fun d S1 v1 G1 H1 μ1 st1 A1 r1 p1 => by
      have dead : (∀ S2 y, popD S1 S2 d y = .bad) → False := fun h => by
        have p1 : PostV X.K X.mg ((me sl S1).bind fun y S2 => popD S1 S2 d y) G1 H1 μ1 S1.length Q := p1
        cases q : me sl S1 with
        | bad => rw [q] at p1; exact p1
        | ok y S2 => rw [q] at p1; simp only [Res.bind_ok, h] at p1; exact p1
      cases d with
      | ref n =>
        cases q : S1[n]? with
        | none => exact (dead fun S2 y => by simp only [popD, q]).elim
        | some ob =>
          cases ob with
          | dct _ _ => exact (dead fun S2 y => by simp only [popD, q]).elim
          | dcu _ _ => exact (dead fun S2 y => by simp only [popD, q]).elim
          | lst xs =>
            obtain ⟨hn, ev⟩ := r1
            obtain ⟨vs, g1, rr, _⟩ := A1.rel.getL q
            refine ⟨by rw [ev]; exact .inl ⟨rfl, vs, .inl (.inl (A1.sub _ _ g1))⟩, G1, μ1, sl, S1, A1, bindV A1 p1 fun y S2 v2 G2 H2 μ2 st2 A2 r2 p2 => ?_⟩
            simp only [popD, q] at p2
            cases q2 : S2[n]? with
            | none => rw [q2] at p2; exact p2.elim
            | some ob2 =>
              rw [q2] at p2
              cases ob2 with
              | dct _ _ => exact p2.elim
              | dcu _ _ => exact p2.elim
              | lst ys =>
                simp only at p2
                cases y with
                | int i =>
                  simp only at p2
                  cases q3 : ixN ys.length i with
                  | none => rw [q3] at p2; exact p2.elim
                  | some k =>
                    rw [q3] at p2
                    simp only at p2
                    cases q4 : ys[k]? with
                    | none => rw [q4] at p2; exact p2.elim
                    | some dd =>
                      rw [q4] at p2
                      simp only at p2
                      by_cases hz : (decide (-(9223372036854775808 : Int) ≤ i) && decide (i < 9223372036854775808)) = true
                      · rw [if_pos hz] at p2
                        rw [Bool.and_eq_true] at hz
                        obtain ⟨ws, g2, rr2, hlt⟩ := A2.rel.getL q2
                        obtain ⟨w, ew, rw'⟩ := rr2.get q4
                        refine ⟨μ2 n, ws, i, k, w, by rw [ev, st2.mu n hn], by rw [show v2 = .int i from r2], A2.sub _ _ g2, of_decide_eq_true hz.1, of_decide_eq_true hz.2, by rw [← rr2.len]; exact (ixN_seq q3).1, ew, ?_⟩
                        exact p2.wrL A2.sub A2.rel hlt (rr2.eraseIdx k) rw'
                      · rw [if_neg hz] at p2; exact p2.elim
                | _ => exact p2.elim
      | _ => exact (dead fun S2 y => by simp only [popD]).elim⟩
end
end
end Ev

/-! Ev: x[::-1], dicts, stores, multiples -/
namespace Ev
open PySem PySem.Spec PyProof.Rows L2
section
variable {X : Cx} {K : PySem.W.Frag} {mg : Str → Option Value}
def revD (al : Bool) (S : Sto) (d : D) : Res D := match d with
  | .tup xs => .ok (.tup xs.reverse) S
  | d => (match asLs S d with
    | some xs => mkL al xs.reverse S
    | none => .bad)
@[reducible] def mRev (al : Bool) (ma : ME) : ME := fun sl S => (ma sl S).bind fun d S1 => revD al S1 d
theorem ev_rev {al : Bool} {e : Expr} {me : ME} {k : Nat} {p1 p2 p3 pos : Pos} (he : EvE X e me) : EvE X (.Subscript e (.Slice none none (some (.UnaryOp .USub (.Constant (.int 1) k p1) p2)) p3) pos) (mRev al me) :=
  PE.imp (pe_revP he) fun σ H Q ⟨G, μ, sl, S, A, post⟩ => ⟨G, μ, sl, S, A, bindV A post fun d S1 v1 G1 H1 μ1 st1 A1 r1 p1 => by
    have lists : PostV X.K X.mg (match asLs S1 d with | some xs => mkL al xs.reverse S1 | none => .bad) G1 H1 μ1 S1.length Q → ∃ a xs, v1 = .ref a ∧ SqL X.K H1 a xs ∧ ∀ p, H1 p = none → Q (.ref p) (upd H1 p (.lst xs.reverse)) := fun p1 => by
      cases e : asLs S1 d with
      | none => rw [e] at p1; exact p1.elim
      | some xs =>
        rw [e] at p1
        obtain ⟨b, ws, rfl, hq, rr⟩ := asLs_rep A1.sub A1.rel r1 e
        exact ⟨b, ws, rfl, hq, fun p hp => mkL_post p1 A1.sub A1.rel rr.rev hp⟩
    cases d with
    | tup xs =>
      obtain ⟨b, ws, ev, hq, rr⟩ := r1
      exact .inr ⟨b, ws, ev, A1.sub.seqT hq.sq, fun p ob od hp => PostV.tupN p1 A1.sub A1.rel rr.rev od hp⟩
    | _ => exact .inl (lists p1)⟩
/-! ### dicts -/
def keyD : D → Option Key
  | .int i => some (.inl i)
  | .str x => some (.inr x)
  | _ => none
theorem keyD_rep {G : Hp} {μ : Nat → Addr} {n : Nat} {d : D} {v : V} {k : Key} (r : RepV K mg G μ n d v) (h : keyD d = some k) : v = kV k := by
  cases d with
  | int i => cases h; exact r
  | str x => cases h; exact r
  | _ => cases h
section
variable {κ : Type} [DecidableEq κ]
def valX : List κ → List D → κ → Option D
  | [], _, _ => none
  | j :: ks, xs, k => match xs with
    | [] => none
    | x :: xs => if j = k then some x else valX ks xs k
def repX : List κ → List D → κ → D → List D
  | [], _, _, _ => []
  | j :: ks, xs, k, d => match xs with
    | [] => []
    | x :: xs => (if j = k then d else x) :: repX ks xs k d
def hasK (ks : List κ) (k : κ) : Bool := ks.any fun j => decide (j = k)
section
variable {G : Hp} {μ : Nat → Addr} {n : Nat}
theorem valX_rep : ∀ {kvs : List (κ × V)} {xs : List D} {k : κ}, RepVs K mg G μ n xs (kvs.map (·.2)) → match valX (kvs.map (·.1)) xs k with
    | some d => ∃ v, valV kvs k = some v ∧ RepV K mg G μ n d v
    | none => valV kvs k = none
  | [], xs, k, r => rfl
  | (j, v) :: kvs, xs, k, r => by
    cases xs with
    | nil => cases r
    | cons x xs =>
      obtain ⟨v', r', e, r1, r2⟩ := r
      cases e
      show match (if j = k then some x else valX (kvs.map (·.1)) xs k) with | some d => ∃ v', valV ((j, v) :: kvs) k = some v' ∧ RepV K mg G μ n d v' | none => valV ((j, v) :: kvs) k = none
      by_cases h : j = k
      · rw [if_pos h, valV_pos (p := (j, v)) h]
        exact ⟨v, rfl, r1⟩
      · rw [if_neg h, valV_neg (p := (j, v)) h]
        exact valX_rep r2
theorem repX_rep : ∀ {kvs : List (κ × V)} {xs : List D} {k : κ} {d : D} {v : V}, RepV K mg G μ n d v → RepVs K mg G μ n xs (kvs.map (·.2)) →
    RepVs K mg G μ n (repX (kvs.map (·.1)) xs k d) ((kvs.map (fun kv => if kv.1 = k then (kv.1, v) else kv)).map (·.2))
  | [], xs, k, d, v, rd, r => rfl
  | (j, w) :: kvs, xs, k, d, v, rd, r => by
    cases xs with
    | nil => cases r
    | cons x xs =>
      obtain ⟨w', r', e, r1, r2⟩ := r
      cases e
      have ih := repX_rep (k := k) rd r2
      by_cases h : j = k
      · refine ⟨v, _, ?_, ?_, ih⟩
        · simp [h]
        · rw [if_pos h]; exact rd
      · refine ⟨w, _, ?_, ?_, ih⟩
        · simp [h]
        · rw [if_neg h]; exact r1
theorem putK_keys (kvs : List (κ × V)) (k : κ) (v : V) : (kvs.map fun kv => if kv.1 = k then (kv.1, v) else kv).map (·.1) = kvs.map (·.1) := by
  rw [List.map_map]
  apply List.map_congr_left
  intro kv _
  show (if kv.1 = k then (kv.1, v) else kv).1 = kv.1
  by_cases h : kv.1 = k
  · rw [if_pos h]
  · rw [if_neg h]
theorem hasK_map (kvs : List (κ × V)) (k : κ) : (kvs.any fun kv => decide (kv.1 = k)) = hasK (kvs.map (·.1)) k := by
  unfold hasK
  rw [List.any_map]; rfl
def putX (ks : List κ) (xs : List D) (k : κ) (d : D) : List κ × List D := if hasK ks k = true then (ks, repX ks xs k d) else (ks ++ [k], xs ++ [d])
theorem putX_rep {kvs : List (κ × V)} {xs : List D} {k : κ} {d : D} {v : V} (rd : RepV K mg G μ n d v) (r : RepVs K mg G μ n xs (kvs.map (·.2))) :
    (putK kvs k v).map (·.1) = (putX (kvs.map (·.1)) xs k d).1 ∧ RepVs K mg G μ n (putX (kvs.map (·.1)) xs k d).2 ((putK kvs k v).map (·.2)) := by
  unfold putK putX
  rw [hasK_map]
  by_cases h : hasK (kvs.map (·.1)) k = true
  · rw [if_pos h, if_pos h]
    exact ⟨putK_keys kvs k v, repX_rep rd r⟩
  · rw [if_neg h, if_neg h, List.map_append, List.map_append]
    exact ⟨rfl, r.app (.cons rd .nil)⟩
end
end
/-- d[k] -/
def dgetD (S : Sto) (a b : D) : Res D := match asD S a with
  | some kx => (match keyD b with
    | some k => (match valX kx.1 kx.2 k with
      | some d => .ok d S
      | none => .bad)
    | none => .bad)
  | none => .bad
def fIxD : F2 := dgetD
theorem ix_dict (hu : X.A.units + 1 < cLine) : IxR X (fun x y H Q => ∃ a v, x = .ref a ∧ DGet H a y (some v) ∧ Q v H) := by
  intro value slice pins s σ H x y v u Q I rx ry h hs
  obtain ⟨a, w, rfl, g, q⟩ := h
  obtain rfl : v = Value.ref a := rx
  exact tail_any (dict_typeIs I g) PySem.F.slot_dict_getitem.lookup (d_getItem hu I g ry fun w' s3 I3 rw' => ⟨w, H, I3, rw', q⟩) hs
theorem os_ixD : OpS K mg (fun x y H Q => ∃ a v, x = .ref a ∧ DGet H a y (some v) ∧ Q v H) fIxD := fun G H μ S d1 d2 v1 v2 Q a r r1 r2 p => by
  unfold fIxD dgetD at p
  cases e1 : asD S d1 with
  | none => rw [e1] at p; exact p.elim
  | some kx =>
    rw [e1] at p
    simp only at p
    cases e2 : keyD d2 with
    | none => rw [e2] at p; exact p.elim
    | some k =>
      rw [e2] at p
      simp only at p
      obtain ⟨b, kvs, rfl, g, hk, rr⟩ := asD_rep r r1 e1
      have z := valX_rep (k := k) rr
      rw [hk] at z
      cases e3 : valX kx.1 kx.2 k with
      | none => rw [e3] at p; exact p.elim
      | some d =>
        rw [e3] at p z
        obtain ⟨v, ev, rv⟩ := z
        refine ⟨b, v, rfl, .inl ⟨kvs, k, .inl (a _ _ g), keyD_rep r2 e2, ev.symm⟩, p.here a r rv⟩
theorem ev_ixD {a b : Expr} {ma mb : ME} {pos : Pos} (hu : X.A.units + 1 < cLine) (ha : EvE X a ma) (hb : EvE X b mb) (hs : PlainIx b := by exact fun _ _ => rfl) : EvE X (.Subscript a b pos) (mBin fIxD ma mb) := ev_ixR (ix_dict hu) os_ixD ha hb hs
/-- k in d -/
def fDin (ng : Bool) : F2 := fun S a b => match asD S b with
  | some kx => (match keyD a with
    | some k => .ok (.bl (if ng = true then !(valX kx.1 kx.2 k).isSome else (valX kx.1 kx.2 k).isSome)) S
    | none => .bad)
  | none => .bad
def rDin (ng : Bool) : R2 := fun y x H Q => ∃ a o, x = .ref a ∧ DGet H a y o ∧ Q (.bl (if ng = true then !o.isSome else o.isSome)) H
theorem op_din (hu : X.A.units + 1 < cLine) : OpR X (compareOp .In) (rDin false) := by
  intro pins s σ H x y v u Q I rx ry h
  obtain ⟨a, o, rfl, g, q⟩ := h
  obtain rfl : u = Value.ref a := ry
  exact d_in hu I g rx fun s3 I3 => ⟨.bl o.isSome, H, I3, rfl, q⟩
theorem op_dnin (hu : X.A.units + 1 < cLine) : OpR X (compareOp .NotIn) (rDin true) := by
  intro pins s σ H x y v u Q I rx ry h
  obtain ⟨a, o, rfl, g, q⟩ := h
  obtain rfl : u = Value.ref a := ry
  exact d_notIn hu I g rx fun s3 I3 => ⟨.bl (!o.isSome), H, I3, rfl, q⟩
theorem os_din {ng : Bool} : OpS K mg (rDin ng) (fDin ng) := fun G H μ S d1 d2 v1 v2 Q a r r1 r2 p => by
  unfold fDin at p
  cases e1 : asD S d2 with
  | none => rw [e1] at p; exact p.elim
  | some kx =>
    rw [e1] at p
    simp only at p
    cases e2 : keyD d1 with
    | none => rw [e2] at p; exact p.elim
    | some k =>
      rw [e2] at p
      simp only at p
      obtain ⟨b, kvs, rfl, g, hk, rr⟩ := asD_rep r r2 e1
      have z := valX_rep (k := k) rr
      rw [hk] at z
      have e4 : (valV kvs k).isSome = (valX kx.1 kx.2 k).isSome := by
        cases e3 : valX kx.1 kx.2 k with
        | none => rw [e3] at z; rw [z] <;> rfl
        | some d => rw [e3] at z; obtain ⟨v, ev, _⟩ := z; rw [ev] <;> rfl
      refine ⟨b, valV kvs k, rfl, .inl ⟨kvs, k, .inl (a _ _ g), keyD_rep r1 e2, rfl⟩, ?_⟩
      rw [e4]
      exact p.here a r rfl
/-! ### o[i] = v -/
def subD (S : Sto) (o i d : D) (sl : Sl) : Res Sl := match o with
  | .ref n => (match S[n]? with
    | some (.lst xs) => (match i with
      | .int k => (match ixN xs.length k with
        | some j => .ok sl (S.set n (.lst (xs.set j d)))
        | none => .bad)
      | _ => .bad)
    | some (.dct ks xs) => (match keyD i with
      | some k => if ks.length < 16777216 then .ok sl (S.set n (.dct (putX ks xs k d).1 (putX ks xs k d).2)) else .bad
      | none => .bad)
    | some (.dcu _ _) => .bad
    | none => .bad)
  | _ => .bad
@[reducible] def gSubD (mo mi : ME) : MG := fun d sl S => (mo sl S).bind fun o S1 => (mi sl S1).bind fun i S2 => subD S2 o i d sl
def rSetA : TSet := fun o i v H Q => rSetL o i v H Q ∨ rSetD o i v H Q
theorem set_any (hu : X.A.units + 1 < cLine) : PSet X rSetA := fun pins s σ H o i v ov iv u Q I ro ri rv h => h.elim (set_list pins s σ H o i v ov iv u Q I ro ri rv) (set_dict hu pins s σ H o i v ov iv u Q I ro ri rv)
theorem eg_sub {o i : Expr} {mo mi : ME} {pos : Pos} (hu : X.A.units + 1 < cLine) (ho : EvE X o mo) (hi : EvE X i mi)
    (ha : ∀ v, assign (.Subscript o i pos) X.env v = (do
      let ov ← holding [v] (eval o X.env)
      let iv ← holding [v, ov] (eval i X.env)
      standAt pos
      holding [v, ov, iv] (setItem ov iv v)
      release [v, ov, iv] []) := by intro _; rfl) : EvG X (.Subscript o i pos) [] (gSubD mo mi) :=
  PG.imp (pg_sub ho hi (set_any hu) ha) fun v σ H Q ⟨G, μ, sl, S, d, A, rd, post⟩ => by
    refine ⟨G, μ, sl, S, A, ?_⟩
    have post : PostG X.K X.mg [] σ ((mo sl S).bind fun o S1 => (mi sl S1).bind fun i S2 => subD S2 o i d sl) G H μ S.length Q := post
    cases e1 : mo sl S with
    | bad => rw [e1] at post; exact post.elim
    | ok od S1 =>
    rw [e1] at post
    simp only [Res.bind_ok] at post
    intro v1 G1 H1 μ1 st1 rl1 r1
    have A1 := A.go st1 rl1
    refine ⟨G1, μ1, sl, S1, A1, ?_⟩
    cases e2 : mi sl S1 with
    | bad => rw [e2] at post; exact post.elim
    | ok idd S2 =>
    rw [e2] at post
    simp only [Res.bind_ok] at post
    intro v2 G2 H2 μ2 st2 rl2 r2
    have A2 := A1.go st2 rl2
    have st := st1.trans st2 A.sub
    have rd2 := rd.go st A.sub A.rel
    have ro2 := r1.go st2 A1.sub A1.rel
    cases od with
    | ref m =>
      obtain ⟨hm, ev⟩ := ro2
      simp only [subD] at post
      cases e3 : S2[m]? with
      | none => rw [e3] at post; exact post.elim
      | some ob =>
        rw [e3] at post
        have fin : ∀ (ob' : Ob) (ho : HO) (_ : ∀ G', Step G2 H2 μ2 S2.length G' (upd H2 (μ2 m) ho) μ2 S2.length → G' = upd G2 (μ2 m) ho → RepO X.K X.mg G' μ2 S2.length (μ2 m) ob'), PostG X.K X.mg [] σ (.ok sl (S2.set m ob')) G H μ S.length Q → ((∃ xs, ho = .lst xs) ∨ (∃ kvs, ho = .dK kvs) ∨ ∃ kvs, ho = .dT kvs) → Q σ (upd H2 (μ2 m) ho) := fun ob' ho hrep p hcell => by
          obtain ⟨y, ey, _⟩ := A2.rel.at hm
          have st3 : Step G2 H2 μ2 S2.length (upd G2 (μ2 m) ho) (upd H2 (μ2 m) ho) μ2 S2.length := Step.wr A2.sub hm (by rw [ey]; exact fun z => nomatch z) hcell
          have hl : (S2.set m ob').length = S2.length := by simp
          refine p σ (upd G2 (μ2 m) ho) _ μ2 (by rw [hl]; exact st.trans st3 A.sub) (A2.rel.wr A2.sub hm (hrep _ st3 rfl)) ?_ fun _ _ => rfl
          rw [hl]
          exact A2.slo.go st3 A2.sub A2.rel
        have sto := A2.rel.sto m _ e3
        cases ob with
        | dcu _ _ => exact post.elim
        | lst xs =>
          obtain ⟨vs, g, rr⟩ := sto
          cases idd with
          | int k =>
            simp only at post
            cases e4 : ixN xs.length k with
            | none => rw [e4] at post; exact post.elim
            | some j =>
              rw [e4] at post
              refine .inl ⟨μ2 m, vs, k, j, ev, r2, A2.sub _ _ g, by rw [← rr.len]; exact e4, fin _ _ (fun G' st3 eG => ?_) post (.inl ⟨_, rfl⟩)⟩
              subst eG
              exact ⟨_, upd_same, (rr.set rd2 j).go st3 A2.sub A2.rel⟩
          | _ => exact post.elim
        | dct ks xs =>
          obtain ⟨kvs, g, hk, rr⟩ := sto
          simp only at post
          cases e4 : keyD idd with
          | none => rw [e4] at post; exact post.elim
          | some k =>
            rw [e4] at post
            simp only at post
            by_cases hz : ks.length < 16777216
            · rw [if_pos hz] at post
              have hz' : kvs.length < sizeLine := by
                rw [← List.length_map (f := fun (x : Key × V) => x.1), hk]; exact lim_lt hz
              have hy := keyD_rep r2 e4
              refine .inr ⟨μ2 m, upd H2 (μ2 m) (.dK (putK kvs k v)), ev, .inl ⟨kvs, k, A2.sub _ _ g, hy, hz', rfl⟩, fin _ _ (fun G' st3 eG => ?_) post (.inr (.inl ⟨_, rfl⟩))⟩
              subst eG
              have q := putX_rep (k := k) rd2 rr
              rw [hk] at q
              exact ⟨_, upd_same, q.1, RepVs.go q.2 st3 A2.sub A2.rel⟩
            · rw [if_neg hz] at post; exact post.elim
    | _ => exact post.elim
end
end Ev

/-! Ev: dict displays, multiples, loops over lists that may be changed, three at once -/
namespace Ev
open PySem PySem.Spec PyProof.Rows L2
section
variable {X : Cx} {K : PySem.W.Frag} {mg : Str → Option Value}
/-! ### {k: v, ..} -/
def mPairs : List (ME × ME) → Sl → Sto → Res (List D × List D)
  | [], _, S => .ok ([], []) S
  | p :: r, sl, S => (p.1 sl S).bind fun k S1 => (p.2 sl S1).bind fun v S2 => (mPairs r sl S2).bind fun q S3 => .ok (k :: q.1, v :: q.2) S3
def PostP (K : PySem.W.Frag) (mg : Str → Option Value) (r : Res (List D × List D)) (G H : Hp) (μ : Nat → Addr) (n : Nat) (Q : List (V × V) → Hp → Prop) : Prop :=
  match r with
  | .ok q S' => ∀ ps G' H' μ', Step G H μ n G' H' μ' S'.length → RelS K mg μ' S' G' → RepVs K mg G' μ' S'.length q.1 (ps.map (·.1)) → RepVs K mg G' μ' S'.length q.2 (ps.map (·.2)) → Q ps H'
  | .bad => False
def mTrs (K : PySem.W.Frag) (mg : Str → Option Value) (ms : List (ME × ME)) : List (TE × TE) := ms.map fun p => (tE K mg p.1, tE K mg p.2)
theorem tPairs_of : ∀ (ms : List (ME × ME)) {G H : Hp} {μ : Nat → Addr} {S : Sto} {sl : Sl} {σ : L2.St} {Q : List (V × V) → Hp → Prop}, At K mg G H μ S sl σ → PostP K mg (mPairs ms sl S) G H μ S.length Q → tPairs (mTrs K mg ms) σ H Q
  | [], G, H, μ, S, sl, σ, Q, A, post => post [] G H μ (Step.refl A.sub) A.rel rfl rfl
  | p :: r, G, H, μ, S, sl, σ, Q, A, post => by
    have post : PostP K mg ((p.1 sl S).bind fun k S1 => (p.2 sl S1).bind fun v S2 => (mPairs r sl S2).bind fun q S3 => .ok (k :: q.1, v :: q.2) S3) G H μ S.length Q := post
    show (tE K mg p.1) σ H fun x H1 => (tE K mg p.2) σ H1 fun y H2 => tPairs (mTrs K mg r) σ H2 fun ps H3 => Q ((x, y) :: ps) H3
    refine ⟨G, μ, sl, S, A, ?_⟩
    cases e1 : p.1 sl S with
    | bad => rw [e1] at post; exact post.elim
    | ok k S1 =>
    rw [e1] at post
    simp only [Res.bind_ok] at post
    intro v1 G1 H1 μ1 st1 rl1 r1
    have A1 := A.go st1 rl1
    refine ⟨G1, μ1, sl, S1, A1, ?_⟩
    cases e2 : p.2 sl S1 with
    | bad => rw [e2] at post; exact post.elim
    | ok v S2 =>
    rw [e2] at post
    simp only [Res.bind_ok] at post
    intro v2 G2 H2 μ2 st2 rl2 r2
    have A2 := A1.go st2 rl2
    have st := st1.trans st2 A.sub
    refine tPairs_of r A2 ?_
    cases e3 : mPairs r sl S2 with
    | bad => rw [e3] at post; exact post.elim
    | ok q S3 =>
      rw [e3] at post
      intro ps G3 H3 μ3 st3 rl3 q1 q2
      exact post ((v1, v2) :: ps) G3 H3 μ3 (st.trans st3 A.sub) rl3 (.cons ((r1.go st2 A1.sub A1.rel).go st3 A2.sub A2.rel) q1) (.cons (r2.go st3 A2.sub A2.rel) q2)
def keysD : List D → Option (List Key)
  | [] => some []
  | d :: ds => match keyD d with
    | some k => (match keysD ds with | some ks => some (k :: ks) | none => none)
    | none => none
theorem keysD_rep {G : Hp} {μ : Nat → Addr} {n : Nat} : ∀ {ds : List D} {vs : List V} {ks : List Key}, RepVs K mg G μ n ds vs → keysD ds = some ks → vs = ks.map kV
  | [], vs, ks, r, h => by cases h; exact r
  | d :: ds, vs, ks, r, h => by
    obtain ⟨v, t, e, r1, r2⟩ := r
    simp only [keysD] at h
    cases e1 : keyD d with
    | none => rw [e1] at h; cases h
    | some k =>
      rw [e1] at h
      simp only at h
      cases e2 : keysD ds with
      | none => rw [e2] at h; cases h
      | some ks' =>
        rw [e2] at h
        cases h
        rw [e, keyD_rep r1 e1, keysD_rep r2 e2]
        rfl
def mergeX : List Key → List D → List Key → List D → List Key × List D
  | ks, xs, [], _ => (ks, xs)
  | ks, xs, k :: js, ys => match ys with
    | [] => (ks, xs)
    | y :: ys => mergeX (putX ks xs k y).1 (putX ks xs k y).2 js ys
theorem mergeX_rep {G : Hp} {μ : Nat → Addr} {n : Nat} : ∀ (js : List Key) {ys : List D} {vs : List V} {kvs : List (Key × V)} {xs : List D}, js.length = vs.length → RepVs K mg G μ n ys vs → RepVs K mg G μ n xs (kvs.map (·.2)) →
    (mergeK kvs (js.zip vs)).map (·.1) = (mergeX (kvs.map (·.1)) xs js ys).1 ∧ RepVs K mg G μ n (mergeX (kvs.map (·.1)) xs js ys).2 ((mergeK kvs (js.zip vs)).map (·.2))
  | [], ys, vs, kvs, xs, hl, r, rx => ⟨rfl, rx⟩
  | k :: js, ys, vs, kvs, xs, hl, r, rx => by
    cases vs with
    | nil => cases hl
    | cons v vs =>
      cases ys with
      | nil => cases r
      | cons y ys =>
        obtain ⟨v', r', e, r1, r2⟩ := r
        cases e
        have q := putX_rep (k := k) (kvs := kvs) r1 rx
        have ih := mergeX_rep js (kvs := putK kvs k v) (by simpa using hl) r2 q.2
        rw [q.1] at ih
        exact ih
def mkD (al : Bool) (ks : List Key) (xs : List D) (S : Sto) : Res D := if al = true then .ok (.ref S.length) (S ++ [.dct ks xs]) else .ok (.dct ks xs) S
theorem mkD_post {al : Bool} {G H : Hp} {μ : Nat → Addr} {S : Sto} {ks : List Key} {xs : List D} {kvs : List (Key × V)} {p : Addr} {Q : V → Hp → Prop} (h : PostV K mg (mkD al ks xs S) G H μ S.length Q) (a : Sub G H) (r : RelS K mg μ S G) (hk : kvs.map (·.1) = ks) (rp : RepVs K mg G μ S.length xs (kvs.map (·.2))) (hp : H p = none) : Q (.ref p) (upd H p (.dK kvs)) := by
  cases al with
  | true => exact PostV.dctA h a r hk rp hp
  | false => exact PostV.dctN h a r hk rp hp
def dispD (al : Bool) (q : List D × List D) (S : Sto) : Res D := match keysD q.1 with
  | some ks => if (decide (ks.length ≤ 15) && decide (ks.length = q.2.length)) = true then mkD al (mergeX [] [] ks q.2).1 (mergeX [] [] ks q.2).2 S else .bad
  | none => .bad
@[reducible] def mDisp (al : Bool) (ms : List (ME × ME)) : ME := fun sl S => (mPairs ms sl S).bind fun q S1 => dispD al q S1
theorem upd_del' {H : Hp} {p : Addr} {o : HO} : upd (del H p) p o = upd H p o := by
  funext b
  by_cases hb : b = p
  · rw [hb, upd_same, upd_same]
  · rw [upd_ne hb, del_ne hb, upd_ne hb]
theorem kv_zip : ∀ (ks : List Key) (ps : List (V × V)), ps.map (·.1) = ks.map kV → ps = (ks.zip (ps.map (·.2))).map fun kv => (kV kv.1, kv.2)
  | [], ps, h => by
    cases ps with
    | nil => rfl
    | cons p ps => cases h
  | k :: ks, ps, h => by
    cases ps with
    | nil => cases h
    | cons p ps =>
      rw [List.map_cons, List.map_cons] at h
      injection h with h1 h2
      rw [List.map_cons, List.zip_cons_cons, List.map_cons, ← kv_zip ks ps h2, ← h1]
theorem ev_disp {al : Bool} {pos : Pos} {keys : List (Option Expr)} {values : List Expr} {ms : List (ME × ME)} (h : PPs X pos keys values (mTrs X.K X.mg ms)) (hall : keys.all (·.isSome) = true := by rfl) (hl : keys.length = values.length := by rfl) (h0 : keys ≠ [] := by exact fun z => nomatch z)
    (h15 : keys.length ≤ 15 := by decide) : EvE X (.Dict keys values pos) (mDisp al ms) := PE.imp (pe_disp h hall hl h0 h15) fun σ H Q ⟨G, μ, sl, S, A, post⟩ p hp => by
  have hg : G p = none := A.sub.none hp
  have hsub : Sub G (upd H p (.dK [])) := fun b o e => by
    have hb : b ≠ p := fun z => by rw [z, hg] at e; cases e
    rw [upd_ne hb]; exact A.sub b o e
  have A0 : At X.K X.mg G (upd H p (.dK [])) μ S sl σ := ⟨hsub, A.rel, A.slo⟩
  refine tPairs_of ms A0 ?_
  have post : PostV X.K X.mg ((mPairs ms sl S).bind fun q S1 => dispD al q S1) G H μ S.length Q := post
  cases e1 : mPairs ms sl S with
  | bad => rw [e1] at post; exact post.elim
  | ok q S1 =>
    rw [e1] at post
    simp only [Res.bind_ok] at post
    intro ps G1 H1 μ1 st rl q1 q2
    have hne : Cell (upd H p (.dK [])) p := .inr (.inl ⟨_, upd_same⟩)
    have hh : H1 p = some (.dK []) := st.hk _ _ upd_same (A.rel.noImg' hg)
    have g1 : G1 p = none := st.hid p hg hne
    have st' : Step G H μ S.length G1 (del H1 p) μ1 S1.length := by
      have z := st.delS hg hne
      rw [del_new hp] at z; exact z
    refine ⟨hh, ?_⟩
    have post := PostV.step post st' A.sub
    unfold dispD at post
    cases e2 : keysD q.1 with
    | none => rw [e2] at post; exact post.elim
    | some ks =>
      rw [e2] at post
      simp only at post
      by_cases hz : (decide (ks.length ≤ 15) && decide (ks.length = q.2.length)) = true
      · rw [if_pos hz] at post
        rw [Bool.and_eq_true] at hz
        have hz1 := of_decide_eq_true hz.1
        have hz2 := of_decide_eq_true hz.2
        have ek := keysD_rep q1 e2
        have hlen : ks.length = (ps.map (·.2)).length := by rw [hz2, q2.len]
        have m := mergeX_rep ks (kvs := []) (xs := []) hlen q2 rfl
        refine ⟨ks.zip (ps.map (·.2)), kv_zip ks ps ek, ?_, ?_⟩
        · rw [List.length_zip]; omega
        · have z := mkD_post (p := p) post st'.sub rl m.1 m.2 del_same
          rw [upd_del'] at z
          exact z
      · rw [if_neg hz] at post; exact post.elim
/-! ### multiples -/
theorem RepVs.rep {G : Hp} {μ : Nat → Addr} {n : Nat} {ds : List D} {vs : List V} (h : RepVs K mg G μ n ds vs) : ∀ k : Nat, RepVs K mg G μ n (List.replicate k ds).flatten (List.replicate k vs).flatten
  | 0 => rfl
  | k + 1 => by
    rw [List.replicate_succ, List.replicate_succ, List.flatten_cons, List.flatten_cons]
    exact h.app (RepVs.rep h k)
def mulL (al : Bool) (S : Sto) (a : D) (k : Int) : Res D := match asL S a with
  | some xs => if (decide (-(9223372036854775808 : Int) ≤ k) && (decide (k < 9223372036854775808) && decide (xs.length * k.toNat ≤ 16777216))) = true then mkL al (List.replicate k.toNat xs).flatten S else .bad
  | none => .bad
def fMulA (al : Bool) : F2 := fun S a b => match b with
  | .int k => (match a with
    | .int i => fMul S (.int i) (.int k)
    | .tup xs => if (decide (1 ≤ xs.length) && (decide (2 ≤ k) && (decide (k ≤ 6000) && decide (xs.length ≤ 1000)))) = true then .ok (.tup (List.replicate k.toNat xs).flatten) S else .bad
    | a => mulL al S a k)
  | _ => .bad
theorem op_mulA : OpR X (binaryOp .Mult) (fun x y H Q => rI CMul (fun i j => .int (i * j)) x y H Q ∨ (fun x y H Q => rMulTP X.K x y H Q ∨ rRep x y H Q) x y H Q) := op_mul.or (op_mulTP.or op_rep)
theorem os_mulA {al : Bool} : OpS K mg (fun x y H Q => rI CMul (fun i j => .int (i * j)) x y H Q ∨ (fun x y H Q => rMulTP K x y H Q ∨ rRep x y H Q) x y H Q) (fMulA al) := fun G H μ S d1 d2 v1 v2 Q a r r1 r2 p => by
  cases d2 with
  | int k =>
    have lists : PostV K mg (mulL al S d1 k) G H μ S.length Q → rRep v1 v2 H Q := fun p => by
      unfold mulL at p
      cases e : asL S d1 with
      | none => rw [e] at p; exact p.elim
      | some xs =>
        rw [e] at p
        simp only at p
        by_cases hz : (decide (-(9223372036854775808 : Int) ≤ k) && (decide (k < 9223372036854775808) && decide (xs.length * k.toNat ≤ 16777216))) = true
        · rw [if_pos hz] at p
          rw [Bool.and_eq_true, Bool.and_eq_true] at hz
          obtain ⟨b, vs, ev, g, rr⟩ := asL_rep r r1 e
          exact ⟨b, k, vs, ev, r2, a _ _ g, of_decide_eq_true hz.1, of_decide_eq_true hz.2.1, by rw [← rr.len]; exact lim_ok (of_decide_eq_true hz.2.2), fun q hq => mkL_post p a r (rr.rep k.toNat) hq⟩
        · rw [if_neg hz] at p; exact p.elim
    cases d1 with
    | int i => exact .inl (os_mul G H μ S _ _ v1 v2 Q a r r1 r2 p)
    | tup xs =>
      have p : PostV K mg (if (decide (1 ≤ xs.length) && (decide (2 ≤ k) && (decide (k ≤ 6000) && decide (xs.length ≤ 1000)))) = true then .ok (.tup (List.replicate k.toNat xs).flatten) S else .bad) G H μ S.length Q := p
      by_cases hz : (decide (1 ≤ xs.length) && (decide (2 ≤ k) && (decide (k ≤ 6000) && decide (xs.length ≤ 1000)))) = true
      · rw [if_pos hz] at p
        rw [Bool.and_eq_true, Bool.and_eq_true, Bool.and_eq_true] at hz
        obtain ⟨b, vs, ev, g, rr⟩ := r1
        have hl := rr.len
        refine .inr (.inl ⟨b, k, vs, ev, r2, a.seqT g.sq, fun e => ?_, of_decide_eq_true hz.2.1, of_decide_eq_true hz.2.2.1, by rw [← hl]; exact of_decide_eq_true hz.2.2.2, fun q ob od hq => PostV.tupN p a r (rr.rep k.toNat) od hq⟩)
        have z := of_decide_eq_true hz.1
        rw [hl, e] at z
        exact absurd z (by decide)
      · rw [if_neg hz] at p; exact p.elim
    | _ => exact .inr (.inr (lists p))
  | _ => exact p.elim
/-! ### x in xs, of flat items -/
def flatD : D → Bool
  | .non => true
  | .bl _ => true
  | .int _ => true
  | .str _ => true
  | _ => false
def eqDf : D → D → Bool
  | .non, b => (match b with | .non => true | _ => false)
  | .bl a, b => (match b with | .bl b => a == b | .int b => (if a then 1 else 0) == b | _ => false)
  | .int a, b => (match b with | .bl b => a == (if b then 1 else 0) | .int b => a == b | _ => false)
  | .str a, b => (match b with | .str b => a == b | _ => false)
  | _, _ => false
theorem flatD_rep {G : Hp} {μ : Nat → Addr} {n : Nat} {d : D} {v : V} (r : RepV K mg G μ n d v) (h : flatD d = true) : flatV v = true := by
  cases d with
  | non => rw [show v = .non from r]; rfl
  | bl b => rw [show v = .bl b from r]; rfl
  | int b => rw [show v = .int b from r]; rfl
  | str b => rw [show v = .str b from r]; rfl
  | _ => cases h
theorem eqDf_rep {G : Hp} {μ : Nat → Addr} {n : Nat} {d e : D} {v w : V} (r : RepV K mg G μ n d v) (r2 : RepV K mg G μ n e w) (h : flatD d = true) (h2 : flatD e = true) : eqV v w = eqDf d e := by
  cases d with
  | non =>
    rw [show v = .non from r]
    cases e with
    | non => rw [show w = .non from r2]; rfl
    | bl b => rw [show w = .bl b from r2]; rfl
    | int b => rw [show w = .int b from r2]; rfl
    | str b => rw [show w = .str b from r2]; rfl
    | _ => cases h2
  | bl b =>
    rw [show v = .bl b from r]
    cases e with
    | non => rw [show w = .non from r2]; rfl
    | bl b => rw [show w = .bl b from r2]; rfl
    | int b => rw [show w = .int b from r2]; rfl
    | str b => rw [show w = .str b from r2]; rfl
    | _ => cases h2
  | int b =>
    rw [show v = .int b from r]
    cases e with
    | non => rw [show w = .non from r2]; rfl
    | bl b => rw [show w = .bl b from r2]; rfl
    | int b => rw [show w = .int b from r2]; rfl
    | str b => rw [show w = .str b from r2]; rfl
    | _ => cases h2
  | str b =>
    rw [show v = .str b from r]
    cases e with
    | non => rw [show w = .non from r2]; rfl
    | bl b => rw [show w = .bl b from r2]; rfl
    | int b => rw [show w = .int b from r2]; rfl
    | str b => rw [show w = .str b from r2]; rfl
    | _ => cases h2
  | _ => cases h
theorem allFlat_rep {G : Hp} {μ : Nat → Addr} {n : Nat} : ∀ {ds : List D} {vs : List V}, RepVs K mg G μ n ds vs → ds.all flatD = true → vs.all flatV = true
  | [], vs, r, h => by rw [show vs = [] from r]; rfl
  | d :: ds, vs, r, h => by
    obtain ⟨v, t, e, r1, r2⟩ := r
    rw [List.all_cons, Bool.and_eq_true] at h
    rw [e, List.all_cons, flatD_rep r1 h.1, allFlat_rep r2 h.2]
    rfl
theorem inV_rep {G : Hp} {μ : Nat → Addr} {n : Nat} {x : D} {v : V} (rx : RepV K mg G μ n x v) (hx : flatD x = true) : ∀ {ds : List D} {vs : List V}, RepVs K mg G μ n ds vs → ds.all flatD = true → inV v vs = ds.any fun y => eqDf y x
  | [], vs, r, h => by rw [show vs = [] from r]; rfl
  | d :: ds, vs, r, h => by
    obtain ⟨w, t, e, r1, r2⟩ := r
    rw [List.all_cons, Bool.and_eq_true] at h
    have ih := inV_rep rx hx r2 h.2
    unfold inV at ih ⊢
    rw [e, List.any_cons, List.any_cons, ih, eqDf_rep r1 rx h.1 hx]
def fInF (ng : Bool) : F2 := fun S a b => match asQ S b with
  | some xs => if (flatD a && xs.all flatD) = true then .ok (.bl (if ng = true then !(xs.any fun y => eqDf y a) else xs.any fun y => eqDf y a)) S else .bad
  | none => .bad
theorem os_inF {ng : Bool} : OpS K mg (rIn K ng) (fInF ng) := fun G H μ S d1 d2 v1 v2 Q a r r1 r2 p => by
  unfold fInF at p
  cases e : asQ S d2 with
  | none => rw [e] at p; exact p.elim
  | some xs =>
    rw [e] at p
    simp only at p
    by_cases hz : (flatD d1 && xs.all flatD) = true
    · rw [if_pos hz] at p
      rw [Bool.and_eq_true] at hz
      obtain ⟨b, vs, ev, hq, rr⟩ := asQ_rep a r r2 e
      refine ⟨b, vs, ev, hq, flatD_rep r1 hz.1, allFlat_rep rr hz.2, ?_⟩
      rw [inV_rep r1 hz.1 rr hz.2]
      cases ng with
      | true => exact PostV.here (d := .bl (!(xs.any fun y => eqDf y d1))) p a r rfl
      | false => exact PostV.here (d := .bl (xs.any fun y => eqDf y d1)) p a r rfl
    · rw [if_neg hz] at p; exact p.elim
/-- x in a dict, a list or tuple of flat items -/
def fInA (ng : Bool) : F2 := fun S a b => match asD S b with
  | some _ => fDin ng S a b
  | none => fInF ng S a b
theorem op_inA (hu : X.A.units + 64 < cLine) : OpR X (compareOp .In) (fun x y H Q => rDin false x y H Q ∨ rIn X.K false x y H Q) := (op_din (by omega)).or op_in_seq
theorem op_ninA (hu : X.A.units + 64 < cLine) : OpR X (compareOp .NotIn) (fun x y H Q => rDin true x y H Q ∨ rIn X.K true x y H Q) := (op_dnin (by omega)).or op_notIn_seq
theorem os_inA {ng : Bool} : OpS K mg (fun x y H Q => rDin ng x y H Q ∨ rIn K ng x y H Q) (fInA ng) := fun G H μ S d1 d2 v1 v2 Q a r r1 r2 p => by
  unfold fInA at p
  cases e : asD S d2 with
  | some kx => rw [e] at p; exact .inl (os_din G H μ S d1 d2 v1 v2 Q a r r1 r2 p)
  | none => rw [e] at p; exact .inr (os_inF G H μ S d1 d2 v1 v2 Q a r r1 r2 p)
/-! ### a, b, c = x, y, z -/
@[reducible] def mPar3 (i j l : Nat) (as : MA) : MS := fun sl S => (as sl S).bind fun ds S1 => match ds with
  | [a, b, c] => .ok (.nx (((sl.set i (some a)).set j (some b)).set l (some c))) S1
  | _ => .bad
theorem es_par3 {i j l : Nat} {x y z : Str} {a b c : Expr} {as : MA} {px py pz pt pos : Pos} {kt k2 pt2} (hc : X.calm = true) (hN : X.N.Nodup) (hi : X.N[i]? = some x) (hj : X.N[j]? = some y) (hl : X.N[l]? = some z) (hij : i ≠ j) (hil : i ≠ l) (hjl : j ≠ l)
    (hx : X.env.scope.names.lookup x = some .local) (hy : X.env.scope.names.lookup y = some .local) (hz : X.env.scope.names.lookup z = some .local) (ha : EvA X [a, b, c] as)
    (hw : swappedStores [.Tuple [.Name x px, .Name y py, .Name z pz] kt pt] (.Tuple [a, b, c] k2 pt2) X.env = pure (some [x, y, z]))
    (hs : swapsWithSole [.Tuple [.Name x px, .Name y py, .Name z pz] kt pt] (.Tuple [a, b, c] k2 pt2) pos.line X.env = pure false := by rfl) :
    EvS X (.Assign [.Tuple [.Name x px, .Name y py, .Name z pz] kt pt] (.Tuple [a, b, c] k2 pt2) pos) (mPar3 i j l as) := PS.imp (ps_par3 hc hN hi hj hl hij hil hjl hx hy hz ha hw hs) fun De σ H ⟨G, μ, sl, S, A, post⟩ =>
  ⟨G, μ, sl, S, A, bindAS A post fun ds S1 vs G1 H1 μ1 st1 A1 r1 p1 => by
    match ds, r1, p1 with
    | [d1, d2, d3], r1, p1 =>
      obtain ⟨v, r, ev, h1, h2⟩ := r1
      obtain ⟨w, r', ev', h3, h4⟩ := h2
      obtain ⟨u, r'', ev'', h5, h6⟩ := h4
      subst ev' ev''
      rw [show r'' = [] from h6] at ev
      exact ⟨v, w, u, ev, PostS.nxt p1 ⟨A1.sub, A1.rel, ((A1.slo.set i h1).set j h3).set l h5⟩⟩
    | [], _, p1 => exact p1.elim
    | [_], _, p1 => exact p1.elim
    | [_, _], _, p1 => exact p1.elim
    | _ :: _ :: _ :: _ :: _, _, p1 => exact p1.elim⟩
/-! ### for over a list that may be changed (not in its length) -/
def loopL (g : MG) (m : MS) (n len : Nat) : Nat → Sl → Sto → Res Fl
  | 0, sl, S => (match S[n]? with
    | some (.lst xs) => if xs.length = len then .ok (.nx sl) S else .bad
    | _ => .bad)
  | k + 1, sl, S => (match S[n]? with
    | some (.lst xs) => if xs.length = len then (match xs[len - (k + 1)]? with
      | some d => (g d sl S).bind fun sl1 S1 => (m sl1 S1).bind fun fl S2 => match fl with
        | .nx sl2 => loopL g m n len k sl2 S2
        | .ct sl2 => loopL g m n len k sl2 S2
        | .bk sl2 => .ok (.nx sl2) S2
        | .rt d => .ok (.rt d) S2
      | none => .bad) else .bad
    | _ => .bad)
theorem loopL_at {g : MG} {m : MS} {n len k : Nat} {sl : Sl} {S : Sto} {G H : Hp} {μ : Nat → Addr} {j : Nat} {De : Ends} (h : PostS K mg (loopL g m n len k sl S) G H μ j De) : ∃ xs, S[n]? = some (.lst xs) ∧ xs.length = len := by
  cases k with
  | zero =>
    unfold loopL at h
    cases e : S[n]? with
    | none => rw [e] at h; exact h.elim
    | some o =>
      rw [e] at h
      cases o with
      | dct _ _ => exact h.elim
      | dcu _ _ => exact h.elim
      | lst xs =>
        simp only at h
        by_cases hz : xs.length = len
        · exact ⟨xs, rfl, hz⟩
        · rw [if_neg hz] at h; exact h.elim
  | succ k =>
    unfold loopL at h
    cases e : S[n]? with
    | none => rw [e] at h; exact h.elim
    | some o =>
      rw [e] at h
      cases o with
      | dct _ _ => exact h.elim
      | dcu _ _ => exact h.elim
      | lst xs =>
        simp only at h
        by_cases hz : xs.length = len
        · exact ⟨xs, rfl, hz⟩
        · rw [if_neg hz] at h; exact h.elim
def forL (g : MG) (m : MS) (d : D) (sl : Sl) (S : Sto) : Res Fl := match d with
  | .ref n => (match S[n]? with
    | some (.lst xs) => loopL g m n xs.length xs.length sl S
    | _ => .bad)
  | _ => .bad
@[reducible] def mForL (me : ME) (g : MG) (m : MS) : MS := fun sl S => (me sl S).bind fun d S1 => forL g m d sl S1
theorem es_forL {tg iter : Expr} {body : List Stmt} {me : ME} {is : List Nat} {g : MG} {m : MS} {pos : Pos} (hp : PassesOwn (model X.prog X.w) X.A X.env X.xe) (hc : X.calm = true) (hi : EvE X iter me) (hg : EvG X tg is g) (hb : EvSs X body m) (hs : ∀ x, foldedSetIterable iter X.env x = pure x := by intro _; rfl) : EvS X (.For tg iter body [] pos) (mForL me g m) :=
  PS.imp (ps_for hp hc (pi_list hi) hg hb hs) fun De σ H ⟨G, μ, sl, S, A, post⟩ => by
    refine ⟨G, μ, sl, S, A, bindVS A post fun d S1 v1 G1 H1 μ1 st1 A1 r1 p1 => ?_⟩
    cases d with
    | ref n =>
      obtain ⟨hn, ev⟩ := r1
      simp only [forL] at p1
      cases e0 : S1[n]? with
      | none => rw [e0] at p1; exact p1.elim
      | some ob =>
      rw [e0] at p1
      cases ob with
      | dct _ _ => exact p1.elim
      | dcu _ _ => exact p1.elim
      | lst xs =>
      simp only at p1
      obtain ⟨vs, g1, rr, _⟩ := A1.rel.getL e0
      refine ⟨μ1 n, ev, ⟨vs, .inl (.inl (A1.sub _ _ g1))⟩, ?_⟩
      have wk : Walk (Itl X.K (μ1 n)) xs.length (fun H => ∃ vs, SqL X.K H (μ1 n) vs ∧ vs.length = xs.length) (fun i H x H' => H' = H ∧ ∀ vs, SqL X.K H (μ1 n) vs → vs[i]? = some x) :=
        ⟨fun i _ hi q => let ⟨ws, q1, q2⟩ := q; ⟨ws, ws[i]'(by omega), q1, by simp [show i < ws.length by omega]⟩, fun _ q => let ⟨ws, q1, q2⟩ := q; ⟨ws, q1, by omega⟩, fun _ _ _ _ _ _ y => y⟩
      refine for_it wk (fun i σ' H' => ∃ G' μ' sl' S', At X.K X.mg G' H' μ' S' sl' σ' ∧ Step G1 H1 μ1 S1.length G' H' μ' S'.length ∧ PostS X.K X.mg (loopL g m n xs.length (xs.length - i) sl' S') G' H' μ' S'.length De) ⟨G1, μ1, sl, S1, A1, Step.refl A1.sub, by rw [Nat.sub_zero]; exact p1⟩
        (fun i σ' H' hi ⟨G', μ', sl', S', A', st', p'⟩ => ?_) (fun i x σ' H' H3 hi ⟨G', μ', sl', S', A', st', p'⟩ hy => ?_) (fun σ' H' ⟨G', μ', sl', S', A', st', p'⟩ => ?_)
      · obtain ⟨ys, e1, hl⟩ := loopL_at p'
        obtain ⟨ws, g2, rr2, _⟩ := A'.rel.getL e1
        rw [st'.mu n hn] at g2
        exact ⟨ws, .inl (.inl (A'.sub _ _ g2)), by rw [← rr2.len]; exact hl⟩
      · obtain ⟨rfl, hy⟩ := hy
        obtain ⟨ys, e1, hl⟩ := loopL_at p'
        obtain ⟨ws, g2, rr2, _⟩ := A'.rel.getL e1
        rw [st'.mu n hn] at g2
        have hx := hy ws (.inl (.inl (A'.sub _ _ g2)))
        obtain ⟨d, ed, rd⟩ := rr2.got hx
        have hk : xs.length - i = (xs.length - (i + 1)) + 1 := by omega
        rw [hk] at p'
        unfold loopL at p'
        rw [e1] at p'
        simp only [if_pos hl] at p'
        rw [show xs.length - (xs.length - (i + 1) + 1) = i by omega, ed] at p'
        simp only at p'
        refine ⟨G', μ', sl', S', d, A', rd, ?_⟩
        cases e2 : g d sl' S' with
        | bad => rw [e2] at p'; exact p'.elim
        | ok sl4 S4 =>
          rw [e2] at p'
          simp only [Res.bind_ok] at p'
          intro σ4 G4 H4 μ4 s4 rl4 so4 _
          refine ⟨G4, μ4, sl4, S4, ⟨s4.sub, rl4, so4⟩, ?_⟩
          have p4 := PostS.step p' s4 A'.sub
          have st4 := st'.trans s4 A1.sub
          cases e3 : m sl4 S4 with
          | bad => rw [e3] at p4; exact p4.elim
          | ok fl S5 =>
            rw [e3] at p4
            simp only [Res.bind_ok] at p4
            cases fl with
            | nx sl5 => exact fun σ5 G5 H5 μ5 s5 rl5 so5 => ⟨G5, μ5, sl5, S5, ⟨s5.sub, rl5, so5⟩, st4.trans s5 A1.sub, PostS.step p4 s5 s4.sub⟩
            | ct sl5 => exact fun σ5 G5 H5 μ5 s5 rl5 so5 => ⟨G5, μ5, sl5, S5, ⟨s5.sub, rl5, so5⟩, st4.trans s5 A1.sub, PostS.step p4 s5 s4.sub⟩
            | bk sl5 => exact p4
            | rt d5 => exact p4
      · obtain ⟨ys, e1, hl⟩ := loopL_at p'
        rw [Nat.sub_self] at p'
        unfold loopL at p'
        rw [e1] at p'
        simp only [if_pos hl] at p'
        exact PostS.nxt p' A'
    | _ => exact p1.elim
end
end Ev

/-! Ev: defs as the head tells them, what the generator's lines lean on -/
namespace Ev
open PySem PySem.Spec PyProof.Rows L2
theorem Room.u64 {k : Nat} {A : Around} (r : Room k A) : A.units + 64 < cLine := by have := r.un; omega
theorem Room.u1 {k : Nat} {A : Around} (r : Room k A) : A.units + 1 < cLine := by have := r.un; omega
theorem fn_bodyD {P : Program} {w : World} {K : PySem.W.Frag} {mg : Str → Option Value} {base : Heap} {k : Nat} {f : Addr} {x qual : Str} {st : Stmt} {fd : FuncData} {N ps : List Str} {m : MS} (Fu : FunD K x qual (defArgs st) (defBody st) (defScope st) [] [] f fd) (sc : FnScope N ps (defScope st)) (hb : Binds K fd ps [])
    (hm : ∀ (cdv : Value) (A : Around) (outer : List Env) (s : Shared) (H : Hp), Room k (A.deeper (envOfC qual (defScope st) s.heap.objs.size f cdv)) → A.guards = some [] → fd.code = cdv → EvSs (cxOf CX0 P w K mg base N qual (defScope st) f cdv A outer s H E0) (defBody st) m) :
    FnG P w K mg base (k + 1) f ps.length (runF N.length m) := by
  obtain ⟨oc, od, dV, kV, doc, pm, an, cdv, ct, osl, rfl, lk, hcd, hD, _⟩ := Fu.ex
  have hdV : dV = .none := by
    rcases hD with ⟨_, e⟩ | ⟨e, _⟩
    · exact e
    · exact absurd rfl e
  subst hdV
  exact fn_body (st := st) ⟨⟨oc, od, kV, doc, pm, an, cdv, ct, osl, rfl, lk, hcd⟩, Fu.kp⟩ sc hb hm
theorem bb_len : bootBuiltins "len" = some (.builtin "len") := by decide +kernel
theorem bb_all : bootBuiltins "all" = some (.builtin "all") := by decide +kernel
theorem bb_any : bootBuiltins "any" = some (.builtin "any") := by decide +kernel
theorem bb_repr : bootBuiltins "repr" = some (.builtin "repr") := by decide +kernel
theorem bb_sorted : bootBuiltins "sorted" = some (.builtin "sorted") := by decide +kernel
theorem bb_max : bootBuiltins "max" = some (.builtin "max") := by decide +kernel
theorem bb_min : bootBuiltins "min" = some (.builtin "min") := by decide +kernel
theorem bb_tuple : bootBuiltins "tuple" = some (.type "tuple") := by decide +kernel
theorem bb_list : bootBuiltins "list" = some (.type "list") := by decide +kernel
theorem bb_dict : bootBuiltins "dict" = some (.type "dict") := by decide +kernel
theorem bb_int : bootBuiltins "int" = some (.type "int") := by decide +kernel
theorem bb_bool : bootBuiltins "bool" = some (.type "bool") := by decide +kernel
theorem bb_str : bootBuiltins "str" = some (.type "str") := by decide +kernel
def maxI (i j : Int) : Int := if j > i then j else i
def minI (i j : Int) : Int := if j < i then j else i
end Ev

/-! Ev: tuples known to be plain; dict of pairs -/
namespace Ev
open PySem PySem.Spec PyProof.Rows L2
section
variable {X : Cx} {K : PySem.W.Frag} {mg : Str → Option Value}
theorem call_tupA : CallR X (.type "tuple") (fun xs H Q => ∃ p ys, xs = [.ref p] ∧ ((SqL X.K H p ys ∧ NewT Q H ys) ∨ (SqT X.K H p ys ∧ Q (.ref p) H))) := by
  intro pins s σ H xs us Q I r h
  obtain ⟨p, ys, rfl, h⟩ := h
  obtain ⟨u, rfl, rx⟩ := vals1 r
  cases rx
  rcases h with ⟨hq, q⟩ | ⟨hq, q⟩
  · obtain ⟨its, r', pl, hz⟩ := I.list hq
    have hlen := r'.length
    refine call_tuple_list pl.isList (fun h' kp => ?_) (by simp only [List.size_toArray] <;> omega)
    have I1 : Inv X pins σ H { s with heap := h' } := I.kept (t' := s.toks) kp
    exact ⟨.ref h'.objs.size, _, I1.laid (t' := s.toks) (o := .frz _ (.tup ys)) (fun b o e => Heap.get?_push_of_some _ e) (Nat.le_refl _) (frz_new hz r'), rfl, q _ _ rfl (I1.hok.fresh (Nat.le_refl _))⟩
  · obtain ⟨its, r', pl, hz⟩ := I.tuple hq
    exact call_tuple_same pl ⟨.ref p, H, I, rfl, q⟩
/-! ### dict of pairs: a list, a plain tuple -/
def rDictT (K : PySem.W.Frag) : List V → Hp → VK → Prop := fun xs H Q => ∃ (a : Addr) (o : Obj) (ps : List Addr) (kvs : List (Key × V)), xs = [.ref a] ∧ H a = some (.frz o (.tup (ps.map V.ref))) ∧ o.dict = none ∧ Paired (fun p kv => SqT K H p [kV kv.1, kv.2]) ps kvs ∧
  ∀ p, H p = none → Q (.ref p) (upd H p (.dK (mergeK [] kvs)))
theorem pairs_at {pins : List (Addr × Obj)} {σ : L2.St} {H : Hp} {s : Shared} (I : Inv X pins σ H s) : ∀ {ps : List Addr} {kvs : List (Key × V)}, Paired (fun p kv => SqT X.K H p [kV kv.1, kv.2]) ps kvs →
    ∃ (prs : List (Key × Value)) (qs : List (Value × Value)), KV kvs prs ∧ prs.length = ps.length ∧ qs.length = ps.length ∧ ∀ (j : Nat) (k v : Value), qs[j]? = some (k, v) → ps[j]? = some (ps.getD j 0) ∧ s.heap.IsTuple (ps.getD j 0) #[k, v] ∧ ∃ key, prs[j]? = some (key, v) ∧ (mixKind X.prog X.w).is key k = true
  | _, _, .nil => ⟨[], [], .nil, rfl, rfl, fun j k v e => by simp at e⟩
  | _, _, .cons (a := p) (b := kv) h t => by
    obtain ⟨prs, qs, r, hl, hl2, hp⟩ := pairs_at I t
    obtain ⟨its, rv, ht, _⟩ := I.tuple h
    obtain ⟨u, y, ei, ru, ry⟩ := vals2 rv
    subst ei
    refine ⟨(kv.1, y) :: prs, (u, y) :: qs, .cons ⟨rfl, ry⟩ r, by rw [List.length_cons, List.length_cons, hl], by rw [List.length_cons, List.length_cons, hl2], fun j k v e => ?_⟩
    cases j with
    | zero =>
      have e' : (u, y) = (k, v) := Option.some.inj e
      injection e' with e1 e2
      subst e1 e2
      obtain ⟨o, ho, hc, hn⟩ := ht
      exact ⟨rfl, ⟨o, ho, hc, hn⟩, kv.1, rfl, kV_is (P := X.prog) (w := X.w) ru⟩
    | succ j =>
      obtain ⟨e1, e2, key, e3, e4⟩ := hp j k v (by simpa using e)
      exact ⟨by simpa using e1, by simpa using e2, key, by simpa using e3, e4⟩
theorem call_dictT (hcalm : X.calm = true) : CallR X (.type "dict") (rDictT X.K) := by
  intro pins s σ H xs us Q I r q
  obtain ⟨a, o, ps, kvs, ex, hq, od, hp, q⟩ := q
  subst ex
  obtain ⟨u, eu, rx⟩ := vals1 r
  subst eu
  cases rx
  obtain ⟨ho, hz, its, rv, o', ho', hc, n, hd⟩ := (show ObjOk X.prog X.w H s.heap a (.frz o (.tup (ps.map V.ref))) from I.hok a _ hq)
  rw [ho] at ho'
  cases ho'
  have ei := refs_at rv
  subst ei
  rw [List.length_map] at hz
  obtain ⟨prs, qs, rel, hl, hl2, hpr⟩ := pairs_at I hp
  refine PySem.call_dict_pairs (knd := mixKind X.prog X.w) (kvs := prs) (n := qs.length) (Rel := PairRel qs) (PairArg.tuple a (ps.map Value.ref).toArray (fun j => ps.getD j 0) qs) (I.ok.hd hcalm) ⟨⟨o, n, ho, hc, od, hd⟩, by simp [hl2], fun j k v e => ?_⟩ ⟨by rw [hl, hl2], fun i key v e => ?_⟩ (by rw [hl2]; exact hz) fun h' tk hd' k => ?_
  · obtain ⟨e1, e2, _⟩ := hpr j k v e
    refine ⟨?_, .inl e2⟩
    show (ps.map Value.ref).toArray[j]? = some (Value.ref (ps.getD j 0))
    rw [List.getElem?_toArray, List.getElem?_map, e1]
    rfl
  · obtain ⟨_, _, kk, e3, e4⟩ := hpr i key v e
    exact ⟨kk, e3, e4⟩
  · have hm : (s.heap.objs.size == sysModules) = false := beq_eq_false_iff_ne.mpr (Nat.ne_of_gt I.big)
    have hlen : (mergeK [] kvs).length ≤ sizeLine := by
      refine Nat.le_trans (length_mergeK kvs []) ?_
      rw [List.length_nil, Nat.zero_add, rel.length, hl]
      exact hz
    exact ⟨.ref s.heap.objs.size, upd H s.heap.objs.size (.dK (mergeK [] kvs)), I.laid (t' := tk) (fun b o e => k b o (fun hb => nomatch hb) e) (Nat.le_refl _) (show ObjOk X.prog X.w _ _ _ (.dK (mergeK [] kvs)) from ⟨hlen, hm, merged [] prs, KV.merge rel .nil, hd'⟩), rfl, q _ (I.hok.fresh (Nat.le_refl _))⟩
/-- a tuple's items -/
def tupOf : D → Option (List D)
  | .tup xs => some xs
  | .wtp xs => some xs
  | _ => none
theorem tupOf_rep {G : Hp} {μ : Nat → Addr} {n : Nat} {d : D} {v : V} {xs : List D} (r : RepV K mg G μ n d v) (h : tupOf d = some xs) : ∃ a vs, v = .ref a ∧ SqT K G a vs ∧ RepVs K mg G μ n xs vs := by
  cases d with
  | tup ys => cases h; obtain ⟨a, vs, e, q, rr⟩ := r; exact ⟨a, vs, e, q.sq, rr⟩
  | wtp ys => cases h; obtain ⟨a, vs, e, q, rr⟩ := r; exact ⟨a, vs, e, q, rr⟩
  | _ => cases h
/-- the pairs by their data -/
def pairsD : List D → Option (List Key × List D)
  | [] => some ([], [])
  | d :: ds => match tupOf d with
    | some xs => (match xs with
      | [a, b] => (match keyD a with
        | some k => (match pairsD ds with
          | some q => some (k :: q.1, b :: q.2)
          | none => none)
        | none => none)
      | _ => none)
    | none => none
theorem pairsD_rep {G H : Hp} {μ : Nat → Addr} {n : Nat} (a : Sub G H) : ∀ {ds : List D} {vs : List V} {q : List Key × List D}, RepVs K mg G μ n ds vs → pairsD ds = some q →
    ∃ (ps : List Addr) (ws : List V), vs = ps.map V.ref ∧ q.1.length = ws.length ∧ RepVs K mg G μ n q.2 ws ∧ Paired (fun p kv => SqT K H p [kV kv.1, kv.2]) ps (q.1.zip ws)
  | [], vs, q, r, h => by cases h; exact ⟨[], [], r, rfl, rfl, .nil⟩
  | d :: ds, vs, q, r, h => by
    obtain ⟨v, t, e, r1, r2⟩ := r
    simp only [pairsD] at h
    cases e0 : tupOf d with
    | none => rw [e0] at h; cases h
    | some xs =>
      rw [e0] at h
      simp only at h
      have r1 := tupOf_rep r1 e0
      match xs, h, r1 with
      | [x, y], h, r1 =>
        simp only at h
        cases e1 : keyD x with
        | none => rw [e1] at h; cases h
        | some k =>
          rw [e1] at h
          simp only at h
          cases e2 : pairsD ds with
          | none => rw [e2] at h; cases h
          | some q' =>
            rw [e2] at h
            cases h
            obtain ⟨ps, ws, h1, h2, h3, h4⟩ := pairsD_rep a r2 e2
            obtain ⟨p, zs, ev, hs, rz⟩ := r1
            obtain ⟨z1, z2, ez, rz1, rz2⟩ := rep2 rz
            subst ez
            refine ⟨p :: ps, z2 :: ws, ?_, ?_, .cons rz2 h3, .cons ?_ h4⟩
            · rw [e, ev, h1]; rfl
            · simp [h2]
            · rw [← keyD_rep rz1 e1]
              exact a.seqT hs
      | [], h, _ => cases h
      | [_], h, _ => cases h
      | _ :: _ :: _ :: _, h, _ => cases h
theorem zip_snd {α β : Type} : ∀ {xs : List α} {ys : List β}, xs.length = ys.length → (xs.zip ys).map (·.2) = ys
  | [], ys, h => by cases ys with | nil => rfl | cons _ _ => cases h
  | x :: xs, ys, h => by
    cases ys with
    | nil => cases h
    | cons y ys =>
      rw [List.zip_cons_cons, List.map_cons, zip_snd (by simpa using h)]
def dictD (al : Bool) (S : Sto) (xs : List D) : Res D := match pairsD xs with
  | some q => mkD al (mergeX [] [] q.1 q.2).1 (mergeX [] [] q.1 q.2).2 S
  | none => .bad
def fDictT (al : Bool) : FA := fun S ds => match ds with
  | [d] => (match d with
    | .tup xs => dictD al S xs
    | d => (match asLs S d with
      | some xs => dictD al S xs
      | none => .bad))
  | _ => .bad
theorem call_dictA (hcalm : X.calm = true) : CallR X (.type "dict") (fun xs H Q => rDictT X.K xs H Q ∨ (∃ (a : Addr) (ps : List Addr) (kvs : List (Key × V)), xs = [.ref a] ∧ SqL X.K H a (ps.map V.ref) ∧ Paired (fun p kv => SqT X.K H p [kV kv.1, kv.2]) ps kvs ∧
    ∀ p, H p = none → Q (.ref p) (upd H p (.dK (mergeK [] kvs))))) := CallR.or' (call_dictT hcalm) (call_dictP hcalm)
theorem cs_dictA {al : Bool} : CallS K mg (fun xs H Q => rDictT K xs H Q ∨ (∃ (a : Addr) (ps : List Addr) (kvs : List (Key × V)), xs = [.ref a] ∧ SqL K H a (ps.map V.ref) ∧ Paired (fun p kv => SqT K H p [kV kv.1, kv.2]) ps kvs ∧
    ∀ p, H p = none → Q (.ref p) (upd H p (.dK (mergeK [] kvs))))) (fDictT al) := fun G H μ S ds vs Q a r rp p => by
  have fin : ∀ {xs : List D} {ws : List V}, RepVs K mg G μ S.length xs ws → PostV K mg (dictD al S xs) G H μ S.length Q → ∃ (ps : List Addr) (kvs : List (Key × V)), ws = ps.map V.ref ∧ Paired (fun p kv => SqT K H p [kV kv.1, kv.2]) ps kvs ∧ ∀ p, H p = none → Q (.ref p) (upd H p (.dK (mergeK [] kvs))) := fun {xs ws} rr p => by
    unfold dictD at p
    cases e : pairsD xs with
    | none => rw [e] at p; exact p.elim
    | some q =>
      rw [e] at p
      obtain ⟨ps, zs, h1, h2, h3, h4⟩ := pairsD_rep a rr e
      have m := mergeX_rep q.1 (kvs := []) (xs := []) h2 h3 rfl
      exact ⟨ps, q.1.zip zs, h1, h4, fun l hl => mkD_post p a r m.1 m.2 hl⟩
  match ds, rp, p with
  | [d], rp, p =>
    obtain ⟨v, rfl, rv⟩ := rep1 rp
    have lists : PostV K mg (match asLs S d with | some xs => dictD al S xs | none => .bad) G H μ S.length Q → ∃ (a : Addr) (ps : List Addr) (kvs : List (Key × V)), [v] = [V.ref a] ∧ SqL K H a (ps.map V.ref) ∧ Paired (fun p kv => SqT K H p [kV kv.1, kv.2]) ps kvs ∧
        ∀ p, H p = none → Q (.ref p) (upd H p (.dK (mergeK [] kvs))) := fun p => by
      cases e : asLs S d with
      | none => rw [e] at p; exact p.elim
      | some xs =>
        rw [e] at p
        obtain ⟨b, ws, rfl, hq, rr⟩ := asLs_rep a r rv e
        obtain ⟨ps, kvs, h1, h2, h3⟩ := fin rr p
        subst h1
        exact ⟨b, ps, kvs, rfl, hq, h2, h3⟩
    cases d with
    | tup xs =>
      obtain ⟨b, ws, ev, ⟨o, hq, od⟩, rr⟩ := rv
      obtain ⟨ps, kvs, h1, h2, h3⟩ := fin rr p
      subst h1
      exact .inl ⟨b, o, ps, kvs, by rw [ev], a _ _ hq, od, h2, h3⟩
    | _ => exact .inr (lists p)
  | [], _, p => exact p.elim
  | _ :: _ :: _, _, p => exact p.elim
end
end Ev

/-! Ev: what a computation is known to end in -/
namespace Ev
open PySem PySem.Spec PyProof.Rows L2
section
variable {α β : Type} {S S1 S2 : Sto} {sl : Sl}
/-- a mark that keeps simp from looking into what is wanted -/
inductive Tg {γ : Type} (q : γ) : Type | mk
abbrev tg {γ : Type} {q : γ} : Tg q := .mk
def Wp (r : Res α) (Q : α → Sto → Prop) (_ : Tg Q) : Prop := ∃ a S, r = .ok a S ∧ Q a S
theorem wp_ok {a : α} {Q : α → Sto → Prop} : Wp (.ok a S) Q tg = Q a S := propext ⟨fun ⟨_, _, e, q⟩ => by cases e; exact q, fun q => ⟨a, S, rfl, q⟩⟩
theorem wp_bad {Q : α → Sto → Prop} : Wp (.bad : Res α) Q tg = False := propext ⟨fun ⟨_, _, e, _⟩ => (nomatch e), fun q => False.elim q⟩
theorem wp_bind {r : Res α} {f : α → Sto → Res β} {Q : β → Sto → Prop} : Wp (r.bind f) Q tg = Wp r (fun a S => Wp (f a S) Q tg) tg := by
  cases r with
  | ok a S => rw [Res.bind_ok, wp_ok]
  | bad => rw [Res.bind_bad, wp_bad, wp_bad]
theorem wp_mono {r : Res α} {Q Q' : α → Sto → Prop} (h : Wp r Q tg) (k : ∀ a S, Q a S → Q' a S) : Wp r Q' tg := let ⟨a, S, e, q⟩ := h; ⟨a, S, e, k a S q⟩
theorem wp_of {r : Res α} {a : α} {Q : α → Sto → Prop} (h : r = .ok a S) (q : Q a S) : Wp r Q tg := ⟨a, S, h, q⟩
theorem of_wp {r : Res α} {a : α} (h : Wp r (fun b S' => b = a ∧ S' = S) tg) : r = .ok a S := let ⟨b, S', e, h1, h2⟩ := h; by rw [e, h1, h2]
/-! ### loops -/
/-- what is wanted behind one turn -/
@[reducible] def LTurn (N : Sl → Sto → Prop) (Q : Fl → Sto → Prop) (fl : Fl) (S : Sto) : Prop := match fl with
  | .nx sl => N sl S
  | .ct sl => N sl S
  | .bk sl => Q (.nx sl) S
  | .rt d => Q (.rt d) S
theorem wp_loop {ι : Type} {g : MG} {m : MS} {f : ι → D} {Q : Fl → Sto → Prop} (Pv : List ι → Sl → Sto → Prop) (st : ∀ x rest sl S, Pv (x :: rest) sl S → Wp (g (f x) sl S) (fun sl1 S1 => Wp (m sl1 S1) (LTurn (Pv rest) Q) tg) tg)
    (fin : ∀ sl S, Pv [] sl S → Q (.nx sl) S) : ∀ (xs : List ι) (sl : Sl) (S : Sto), Pv xs sl S → Wp (loopD g m (xs.map f) sl S) Q tg
  | [], sl, S, h => by
    show Wp (.ok (.nx sl) S) Q tg
    rw [wp_ok]; exact fin sl S h
  | x :: xs, sl, S, h => by
    show Wp ((g (f x) sl S).bind _) Q tg
    rw [wp_bind]
    refine wp_mono (st x xs sl S h) fun sl1 S1 h1 => ?_
    rw [wp_bind]
    refine wp_mono h1 fun fl S2 h2 => ?_
    cases fl with
    | nx sl2 => exact wp_loop Pv st fin xs sl2 S2 h2
    | ct sl2 => exact wp_loop Pv st fin xs sl2 S2 h2
    | bk sl2 => rw [wp_ok]; exact h2
    | rt d => rw [wp_ok]; exact h2
theorem wp_loopN {g : MG} {m : MS} {f : Nat → D} {Q : Fl → Sto → Prop} (n : Nat) (Pv : Nat → Sl → Sto → Prop) (st : ∀ i, i < n → ∀ sl S, Pv i sl S → Wp (g (f i) sl S) (fun sl1 S1 => Wp (m sl1 S1) (LTurn (Pv (i + 1)) Q) tg) tg)
    (fin : ∀ sl S, Pv n sl S → Q (.nx sl) S) (sl : Sl) (S : Sto) (h : Pv 0 sl S) : Wp (loopD g m ((List.range n).map f) sl S) Q tg := by
  rw [List.range_eq_range']
  have gen : ∀ k j sl S, j + k = n → Pv j sl S → Wp (loopD g m ((List.range' j k).map f) sl S) Q tg := by
    intro k
    induction k with
    | zero =>
      intro j sl S e h
      show Wp (.ok (.nx sl) S) Q tg
      rw [wp_ok]
      have e : j = n := e
      subst e
      exact fin sl S h
    | succ k ih =>
      intro j sl S e h
      rw [List.range'_succ, List.map_cons]
      show Wp ((g (f j) sl S).bind _) Q tg
      rw [wp_bind]
      refine wp_mono (st j (by omega) sl S h) fun sl1 S1 h1 => ?_
      rw [wp_bind]
      refine wp_mono h1 fun fl S2 h2 => ?_
      cases fl with
      | nx sl2 => exact ih (j + 1) sl2 S2 (by omega) h2
      | ct sl2 => exact ih (j + 1) sl2 S2 (by omega) h2
      | bk sl2 => rw [wp_ok]; exact h2
      | rt d => rw [wp_ok]; exact h2
  exact gen n 0 sl S (by omega) h
/-! ### comprehensions -/
@[reducible] def LTook (me : ME) (sl1 : Sl) (Y : D → Sto → Prop) (N : Sto → Prop) (k : Bool) (S : Sto) : Prop := match k with
  | true => Wp (me sl1 S) Y tg
  | false => N S
theorem wp_comp {ι : Type} {g : MG} {mt : MT} {me : ME} {f : ι → D} {Q : List D → Sto → Prop} (Pv : List ι → List D → Sto → Prop) (st : ∀ x rest acc S, Pv (x :: rest) acc S → Wp (g (f x) sl S) (fun sl1 S1 => Wp (mt sl1 S1) (LTook me sl1 (fun y S3 => Pv rest (acc ++ [y]) S3) (Pv rest acc)) tg) tg) : ∀ (xs : List ι) (acc : List D) (S : Sto), (∀ ys S', Pv [] (acc ++ ys) S' → Q ys S') → Pv xs acc S → Wp (compD g mt me (xs.map f) sl S) Q tg
  | [], acc, S, fin, h => by
    show Wp (.ok [] S) Q tg
    rw [wp_ok]; exact fin [] S (by rw [List.append_nil]; exact h)
  | x :: xs, acc, S, fin, h => by
    show Wp ((g (f x) sl S).bind _) Q tg
    rw [wp_bind]
    refine wp_mono (st x xs acc S h) fun sl1 S1 h1 => ?_
    rw [wp_bind]
    refine wp_mono h1 fun k S2 h2 => ?_
    cases k with
    | true =>
      show Wp ((me sl1 S2).bind _) Q tg
      rw [wp_bind]
      refine wp_mono h2 fun y S3 h3 => ?_
      rw [wp_bind]
      refine wp_comp (Q := fun ys S4 => Wp (.ok (y :: ys) S4) Q tg) Pv st xs (acc ++ [y]) S3 (fun ys S' h4 => ?_) h3
      rw [wp_ok]
      exact fin (y :: ys) S' (by rw [List.append_assoc] at h4; exact h4)
    | false => exact wp_comp Pv st xs acc S2 fin h2
theorem wp_compN {g : MG} {mt : MT} {me : ME} {f : Nat → D} {Q : List D → Sto → Prop} (n : Nat) (Pv : Nat → List D → Sto → Prop) (st : ∀ i, i < n → ∀ acc S, Pv i acc S → Wp (g (f i) sl S) (fun sl1 S1 => Wp (mt sl1 S1) (LTook me sl1 (fun y S3 => Pv (i + 1) (acc ++ [y]) S3) (Pv (i + 1) acc)) tg) tg) (S : Sto) (fin : ∀ ys S', Pv n ys S' → Q ys S') (h : Pv 0 [] S) : Wp (compD g mt me ((List.range n).map f) sl S) Q tg := by
  rw [List.range_eq_range']
  refine wp_comp (fun rem acc S => ∃ j, rem = List.range' j (n - j) ∧ j ≤ n ∧ Pv j acc S) (fun x rest acc S h => ?_) _ [] S (fun ys S' h => ?_) ⟨0, by rw [Nat.sub_zero], Nat.zero_le _, h⟩
  · obtain ⟨j, e, hj, h⟩ := h
    cases hk : n - j with
    | zero => rw [hk] at e; cases e
    | succ k =>
      rw [hk, List.range'_succ] at e
      injection e with e1 e2
      subst e1
      have hr : rest = List.range' (x + 1) (n - (x + 1)) := by rw [e2]; congr 1; omega
      refine wp_mono (st x (by omega) acc S h) fun sl1 S1 h1 => wp_mono h1 fun k S2 h2 => ?_
      cases k with
      | true => exact wp_mono h2 fun y S3 h3 => ⟨x + 1, hr, by omega, h3⟩
      | false => exact ⟨x + 1, hr, by omega, h2⟩
  · obtain ⟨j, e, hj, h⟩ := h
    have : n - j = 0 := by
      cases hk : n - j with
      | zero => rfl
      | succ k => rw [hk] at e; cases e
    have : j = n := by omega
    subst this
    exact fin ys S' h
/-- of what changes nothing -/
theorem comp_map {ι : Type} {g : MG} {mt : MT} {me : ME} {f : ι → D} {h : ι → D} : ∀ (xs : List ι), (∀ x ∈ xs, ∃ sl1, g (f x) sl S = .ok sl1 S ∧ mt sl1 S = .ok true S ∧ me sl1 S = .ok (h x) S) → compD g mt me (xs.map f) sl S = .ok (xs.map h) S
  | [], _ => rfl
  | x :: xs, st => by
    obtain ⟨sl1, e1, e2, e3⟩ := st x (by simp)
    have ih := comp_map xs fun y hy => st y (by simp [hy])
    show (g (f x) sl S).bind _ = _
    rw [e1, Res.bind_ok, e2, Res.bind_ok, e3, Res.bind_ok, ih]
    rfl
theorem comp_filter {ι : Type} {g : MG} {mt : MT} {me : ME} {f : ι → D} {p : ι → Bool} {h : ι → D} : ∀ (xs : List ι), (∀ x ∈ xs, ∃ sl1, g (f x) sl S = .ok sl1 S ∧ mt sl1 S = .ok (p x) S ∧ (p x = true → me sl1 S = .ok (h x) S)) → compD g mt me (xs.map f) sl S = .ok ((xs.filter p).map h) S
  | [], _ => rfl
  | x :: xs, st => by
    obtain ⟨sl1, e1, e2, e3⟩ := st x (by simp)
    have ih := comp_filter xs fun y hy => st y (by simp [hy])
    show (g (f x) sl S).bind _ = _
    rw [e1, Res.bind_ok, e2, Res.bind_ok, List.filter_cons]
    cases hp : p x with
    | true =>
      rw [if_pos rfl, List.map_cons, e3 hp, Res.bind_ok, ih]
      rfl
    | false =>
      rw [if_neg (by decide), ih]
theorem zip_map {ι κ : Type} {f : ι → D} {g : κ → D} (xs : List ι) (ys : List κ) : zipD (xs.map f) (ys.map g) = (xs.zip ys).map fun p => .wtp [f p.1, g p.2] := by
  unfold zipD
  rw [List.zip_map, List.map_map]
  rfl
theorem enum_map {ι : Type} {f : ι → D} (xs : List ι) (e : ι) : enumD (xs.map f) = (List.range xs.length).map fun i => .wtp [.int (i : Nat), f (xs.getD i e)] := by
  unfold enumD
  rw [List.length_map]
  refine List.map_congr_left fun i hi => ?_
  have hi := List.mem_range.mp hi
  rw [List.getD_eq_getElem?_getD, List.getD_eq_getElem?_getD, List.getElem?_map, List.getElem?_eq_getElem hi]
  rfl
/-! ### leaves -/
theorem fAdd_ok {al : Bool} {i j : Int} : fAdd al S (.int i) (.int j) = .ok (.int (i + j)) S := rfl
theorem fSub_ok {i j : Int} : fSub S (.int i) (.int j) = .ok (.int (i - j)) S := rfl
theorem fGt_ok {i j : Int} : fGt S (.int i) (.int j) = .ok (.bl (decide (j < i))) S := rfl
theorem fLt_ok {i j : Int} : fLt S (.int i) (.int j) = .ok (.bl (decide (i < j))) S := rfl
theorem fLe_ok {i j : Int} : fLe S (.int i) (.int j) = .ok (.bl (decide (i ≤ j))) S := rfl
theorem fGe_ok {i j : Int} : fGe S (.int i) (.int j) = .ok (.bl (decide (j ≤ i))) S := rfl
theorem fMul_ok {i j : Int} (h : (-18446744073709551616 < i ∧ i < 18446744073709551616) ∨ (-18446744073709551616 < j ∧ j < 18446744073709551616)) : fMul S (.int i) (.int j) = .ok (.int (i * j)) S := by
  show (if decide ((-18446744073709551616 < i ∧ i < 18446744073709551616) ∨ (-18446744073709551616 < j ∧ j < 18446744073709551616)) = true then _ else _) = _
  rw [if_pos (decide_eq_true h)]
theorem fMulA_ok {al : Bool} {i j : Int} (h : (-18446744073709551616 < i ∧ i < 18446744073709551616) ∨ (-18446744073709551616 < j ∧ j < 18446744073709551616)) : fMulA al S (.int i) (.int j) = .ok (.int (i * j)) S := fMul_ok h
theorem fMod_ok {i j : Int} (h : 0 < j) : fMod S (.int i) (.int j) = .ok (.int (i % j)) S := by
  show (if decide (0 < j) = true then _ else _) = _
  rw [if_pos (decide_eq_true h)]
theorem fDiv_ok {i j : Int} (h : 0 < j ∧ j < 1073741824) : fDiv S (.int i) (.int j) = .ok (.int (i / j)) S := by
  show (if decide (0 < j ∧ j < 1073741824) = true then _ else _) = _
  rw [if_pos (decide_eq_true h)]
theorem eqI_ok {i j : Int} : fEqA false S (.int i) (.int j) = .ok (.bl (decide (i = j))) S := rfl
theorem neI_ok {i j : Int} : fEqA true S (.int i) (.int j) = .ok (.bl (!decide (i = j))) S := rfl
theorem str_dec (i j : Str) : (i == j) = decide (i = j) := by
  rw [← dec_str]
  exact decide_eq_decide.mpr ⟨fun h => V.str.inj h, fun h => by rw [h]⟩
theorem eqS_ok {i j : Str} : fEqA false S (.str i) (.str j) = .ok (.bl (decide (i = j))) S := by
  show Res.ok (D.bl (i == j)) S = _
  rw [str_dec]
theorem neS_ok {i j : Str} : fEqA true S (.str i) (.str j) = .ok (.bl (!decide (i = j))) S := by
  show Res.ok (D.bl (!(i == j))) S = _
  rw [str_dec]
theorem argN1 {F : FA} {a : D} : argN 1 F S [a] = F S [a] := rfl
theorem argN2 {F : FA} {a b : D} : argN 2 F S [a, b] = F S [a, b] := rfl
theorem argN3 {F : FA} {a b c : D} : argN 3 F S [a, b, c] = F S [a, b, c] := rfl
theorem argN4 {F : FA} {a b c d : D} : argN 4 F S [a, b, c, d] = F S [a, b, c, d] := rfl
theorem argN5 {F : FA} {a b c d e : D} : argN 5 F S [a, b, c, d, e] = F S [a, b, c, d, e] := rfl
theorem argN_ok {n : Nat} {F : FA} {ds : List D} (h : ds.length = n) : argN n F S ds = F S ds := if_pos h
theorem lenT_ok {xs : List D} : fLen S [.tup xs] = .ok (.int (xs.length : Nat)) S := rfl
theorem lenL_ok {xs : List D} : fLen S [.lst xs] = .ok (.int (xs.length : Nat)) S := rfl
theorem lenM_ok {ns : List Int} : fLen S [.scr ns] = .ok (.int (ns.length : Nat)) S := by
  show Res.ok (D.int ((ns.map D.int).length : Nat)) S = _
  rw [List.length_map]
theorem lenR_ok {n : Nat} {xs : List D} (h : S[n]? = some (.lst xs)) : fLen S [.ref n] = .ok (.int (xs.length : Nat)) S := by
  simp only [fLen, asQ, asL, h]
theorem atI_mid {γ : Type} {A B : List γ} {x : γ} {i : Int} (h : i = (A.length : Nat)) : L2.atI (A ++ x :: B) i = some x := by
  subst h
  unfold L2.atI ixN
  rw [if_pos (by omega), if_pos (by rw [List.length_append, List.length_cons]; omega)]
  show (A ++ x :: B)[((A.length : Nat) : Int).toNat]? = _
  rw [Int.toNat_natCast, List.getElem?_append_right (Nat.le_refl _), Nat.sub_self]
  rfl
theorem atI_last {γ : Type} {A : List γ} {x : γ} : L2.atI (A ++ [x]) (-1) = some x := by
  unfold L2.atI ixN
  rw [if_neg (by omega)]
  have : (0 : Int) ≤ ((A ++ [x]).length : Nat) + -1 := by rw [List.length_append, List.length_singleton]; omega
  rw [if_pos (by omega)]
  have e : (((A ++ [x]).length : Nat) + (-1 : Int)).toNat = A.length := by rw [List.length_append, List.length_singleton]; omega
  first
    | (show (A ++ [x])[(((A ++ [x]).length : Nat) + (-1 : Int)).toNat]? = _
       rw [e, List.getElem?_append_right (Nat.le_refl _), Nat.sub_self]; rfl)
theorem nil_or_snoc {γ : Type} (xs : List γ) : xs = [] ∨ ∃ A p, xs = A ++ [p] := by
  rcases xs.eq_nil_or_concat with h | ⟨A, p, h⟩
  · exact .inl h
  · exact .inr ⟨A, p, by rw [h, List.concat_eq_append]⟩
theorem ixT_mid {A B : List D} {x : D} {i : Int} (h : i = (A.length : Nat)) : fIx S (.tup (A ++ x :: B)) (.int i) = .ok x S := by
  show (match L2.atI (A ++ x :: B) i with | some d => Res.ok d S | none => Res.bad) = _
  rw [atI_mid h]
theorem ixL_mid {A B : List D} {x : D} {i : Int} (h : i = (A.length : Nat)) : fIx S (.lst (A ++ x :: B)) (.int i) = .ok x S := by
  show (match L2.atI (A ++ x :: B) i with | some d => Res.ok d S | none => Res.bad) = _
  rw [atI_mid h]
theorem ixT_mid2 {A B : List D} {x : D} {i : Int} (h : i = (A.length : Nat)) : fIx S (.tup ((A ++ [x]) ++ B)) (.int i) = .ok x S := by
  rw [List.append_assoc]
  exact ixT_mid h
theorem ixT_last {A : List D} {x : D} : fIx S (.tup (A ++ [x])) (.int (-1)) = .ok x S := by
  show (match L2.atI (A ++ [x]) (-1) with | some d => Res.ok d S | none => Res.bad) = _
  rw [atI_last]
theorem ixT0 {x : D} {B : List D} : fIx S (.tup (x :: B)) (.int 0) = .ok x S := ixT_mid (A := []) rfl
theorem ixT1 {y x : D} {B : List D} : fIx S (.tup (y :: x :: B)) (.int 1) = .ok x S := ixT_mid (A := [y]) rfl
theorem ixT2 {z y x : D} {B : List D} : fIx S (.tup (z :: y :: x :: B)) (.int 2) = .ok x S := ixT_mid (A := [z, y]) rfl
theorem ixW0 {x : D} {B : List D} : fIx S (.wtp (x :: B)) (.int 0) = .ok x S := by
  show (match L2.atI ([] ++ x :: B) 0 with | some d => Res.ok d S | none => Res.bad) = _
  rw [atI_mid (A := []) (i := 0) rfl]
theorem ixW1 {y x : D} {B : List D} : fIx S (.wtp (y :: x :: B)) (.int 1) = .ok x S := by
  show (match L2.atI ([y] ++ x :: B) 1 with | some d => Res.ok d S | none => Res.bad) = _
  rw [atI_mid (A := [y]) (i := 1) rfl]
theorem ixL0 {x : D} {B : List D} : fIx S (.lst (x :: B)) (.int 0) = .ok x S := ixL_mid (A := []) rfl
theorem ixL1 {y x : D} {B : List D} : fIx S (.lst (y :: x :: B)) (.int 1) = .ok x S := ixL_mid (A := [y]) rfl
theorem ixL2 {z y x : D} {B : List D} : fIx S (.lst (z :: y :: x :: B)) (.int 2) = .ok x S := ixL_mid (A := [z, y]) rfl
/-- one of some, by number -/
theorem pick2_ok {a b : D} {v : Int} (h0 : 0 ≤ v) (h1 : v < 2) : fIx S (.lst [a, b]) (.int v) = .ok (if v = 0 then a else b) S := by
  rcases (by omega : v = 0 ∨ v = 1) with rfl | rfl <;> rfl
theorem pick3_ok {a b c : D} {v : Int} (h0 : 0 ≤ v) (h1 : v < 3) : fIx S (.lst [a, b, c]) (.int v) = .ok (if v = 0 then a else if v = 1 then b else c) S := by
  rcases (by omega : v = 0 ∨ v = 1 ∨ v = 2) with rfl | rfl | rfl <;> rfl
theorem pick4_ok {a b c d : D} {v : Int} (h0 : 0 ≤ v) (h1 : v < 4) : fIx S (.lst [a, b, c, d]) (.int v) = .ok (if v = 0 then a else if v = 1 then b else if v = 2 then c else d) S := by
  rcases (by omega : v = 0 ∨ v = 1 ∨ v = 2 ∨ v = 3) with rfl | rfl | rfl | rfl <;> rfl
theorem pick5_ok {a b c d e : D} {v : Int} (h0 : 0 ≤ v) (h1 : v < 5) : fIx S (.lst [a, b, c, d, e]) (.int v) = .ok (if v = 0 then a else if v = 1 then b else if v = 2 then c else if v = 3 then d else e) S := by
  rcases (by omega : v = 0 ∨ v = 1 ∨ v = 2 ∨ v = 3 ∨ v = 4) with rfl | rfl | rfl | rfl | rfl <;> rfl
theorem if_int {p : Prop} [Decidable p] {i j : Int} : (if p then D.int i else D.int j) = D.int (if p then i else j) := by
  by_cases h : p
  · rw [if_pos h, if_pos h]
  · rw [if_neg h, if_neg h]
theorem if_str {p : Prop} [Decidable p] {i j : Str} : (if p then D.str i else D.str j) = D.str (if p then i else j) := by
  by_cases h : p
  · rw [if_pos h, if_pos h]
  · rw [if_neg h, if_neg h]
theorem cut_to (xs : List D) (i : Nat) (h : i ≤ xs.length) : Ev.cutD xs none (some (i : Int)) = xs.take i := by
  unfold Ev.cutD
  rw [HT.sIx_nat, show HT.sIx xs.length 0 none = 0 from rfl, Nat.min_eq_left h]
  rfl
theorem cut_from (xs : List D) (i : Nat) (h : i ≤ xs.length) : Ev.cutD xs (some (i : Int)) none = xs.drop i := by
  unfold Ev.cutD
  rw [HT.sIx_nat, show HT.sIx xs.length xs.length none = xs.length from rfl, Nat.min_eq_left h, List.take_of_length_le (by rw [List.length_drop]; omega)]
theorem slT_to {al : Bool} {A B : List D} {i : Int} (h : i = (A.length : Nat)) : fSl al S (.tup (A ++ B)) none (some i) = .ok (.tup A) S := by
  subst h
  show Res.ok (D.tup (Ev.cutD (A ++ B) none (some ((A.length : Nat) : Int)))) S = _
  rw [cut_to _ _ (by rw [List.length_append]; omega), List.take_left']
  rfl
theorem slT_from {al : Bool} {A B : List D} {i : Int} (h : i = (A.length : Nat)) : fSl al S (.tup (A ++ B)) (some i) none = .ok (.tup B) S := by
  subst h
  show Res.ok (D.tup (Ev.cutD (A ++ B) (some ((A.length : Nat) : Int)) none)) S = _
  rw [cut_from _ _ (by rw [List.length_append]; omega), List.drop_left']
  rfl
theorem slT_from1 {al : Bool} {A B : List D} {x : D} {i : Int} (h : i = (A.length : Nat) + 1) : fSl al S (.tup (A ++ x :: B)) (some i) none = .ok (.tup B) S := by
  rw [show A ++ x :: B = (A ++ [x]) ++ B by simp]
  exact slT_from (by rw [h, List.length_append, List.length_singleton]; rfl)
theorem slT_to0 {al : Bool} {B : List D} : fSl al S (.tup B) none (some 0) = .ok (.tup []) S := slT_to (A := []) (B := B) rfl
theorem slT_fr0 {al : Bool} {B : List D} : fSl al S (.tup B) (some 0) none = .ok (.tup B) S := slT_from (A := []) (B := B) rfl
theorem slT_fr1 {al : Bool} {B : List D} {x : D} : fSl al S (.tup (x :: B)) (some 1) none = .ok (.tup B) S := slT_from (A := [x]) (B := B) rfl
theorem addT_ok {al : Bool} {xs ys : List D} (h : xs.length + ys.length ≤ 16777216) : fAdd al S (.tup xs) (.tup ys) = .ok (.tup (xs ++ ys)) S := if_pos h
theorem addL_ok {xs ys : List D} (h : xs.length + ys.length ≤ 16777216) : fAdd false S (.lst xs) (.lst ys) = .ok (.lst (xs ++ ys)) S := if_pos h
theorem tupL_ok {xs : List D} : fTuple S [.lst xs] = .ok (.tup xs) S := rfl
theorem tupR_ok {n : Nat} {xs : List D} (h : S[n]? = some (.lst xs)) : fTuple S [.ref n] = .ok (.tup xs) S := by
  simp only [fTuple, asLs, asQ, asL, h]
theorem split_ix {γ : Type} {xs : List γ} {i : Int} (h0 : 0 ≤ i) (h1 : i < (xs.length : Nat)) : ∃ A x B, xs = A ++ x :: B ∧ i = (A.length : Nat) := by
  have hi : i.toNat < xs.length := by omega
  refine ⟨xs.take i.toNat, xs[i.toNat], xs.drop (i.toNat + 1), ?_, ?_⟩
  · rw [← List.drop_eq_getElem_cons hi, List.take_append_drop]
  · rw [List.length_take]; omega
/-! ### all, any, == [] -/
theorem bools_map {ι : Type} {p : ι → Bool} : ∀ xs : List ι, boolsD (xs.map fun x => D.bl (p x)) = some (xs.map p)
  | [] => rfl
  | x :: xs => by
    simp only [List.map_cons, boolsD, bools_map xs]
theorem anyBl {ι : Type} {p : ι → Bool} {xs : List ι} : fAll (fun bs => bs.any id) S [.lst (xs.map fun x => D.bl (p x))] = .ok (.bl (xs.any p)) S := by
  show (match boolsD (xs.map fun x => D.bl (p x)) with | some bs => Res.ok (D.bl (bs.any id)) S | none => Res.bad) = _
  rw [bools_map]
  show Res.ok (D.bl ((xs.map p).any id)) S = _
  rw [List.any_map]
  rfl
theorem allBl {ι : Type} {p : ι → Bool} {xs : List ι} : fAll (fun bs => bs.all id) S [.lst (xs.map fun x => D.bl (p x))] = .ok (.bl (xs.all p)) S := by
  show (match boolsD (xs.map fun x => D.bl (p x)) with | some bs => Res.ok (D.bl (bs.all id)) S | none => Res.bad) = _
  rw [bools_map]
  show Res.ok (D.bl ((xs.map p).all id)) S = _
  rw [List.all_map]
  rfl
theorem pys_ints : ∀ xs : List Int, D.pys (xs.map .int) = some (xs.map PyData.int)
  | [] => rfl
  | x :: xs => by simp only [List.map_cons, D.pys, D.py, pys_ints xs]
theorem canLay_ints : ∀ xs : List Int, PyData.canLayAll0 (xs.map PyData.int) = true
  | [] => rfl
  | x :: xs => by simp only [List.map_cons, PyData.canLayAll0, PyData.canLay0, canLay_ints xs, Bool.and_self]
theorem depth_ints : ∀ xs : List Int, PyData.depthAll (xs.map PyData.int) = 0
  | [] => rfl
  | x :: xs => by simp only [List.map_cons, PyData.depthAll, PyData.depth, depth_ints xs, Nat.max_self]
theorem shaped_ints (xs : List Int) : SeqAt.shaped (.list (xs.map PyData.int)) = true := by
  unfold SeqAt.shaped
  rw [PyData.canLay0, canLay_ints, PyData.depth, depth_ints]
  rfl
theorem eqL_nil {ng : Bool} {ds : List D} {ps : List PyData} (h : D.pys ds = some ps) (hs : SeqAt.shaped (.list ps) = true) : fEqA ng S (.lst ds) (.lst []) = .ok (.bl (if ng = true then !ds.isEmpty else ds.isEmpty)) S := by
  have e : toPy S (.lst ds) = some (.list ps) := by
    show D.py (.lst ds) = _
    simp only [D.py, h]
  show fEq ng S (.lst ds) (.lst []) = _
  unfold fEq
  rw [e]
  show (if (SeqAt.shaped (.list ps) && SeqAt.shaped (.list [])) = true then _ else _) = _
  rw [hs, show SeqAt.shaped (.list []) = true by decide]
  cases ds with
  | nil =>
    have h : some [] = some ps := h
    cases h
    cases ng <;> rfl
  | cons x xs =>
    cases ps with
    | nil =>
      simp only [D.pys] at h
      split at h <;> first | cases h | skip
      split at h <;> cases h
    | cons p ps => cases ng <;> rfl
theorem neI_nil {ns : List Int} : fEqA true S (.lst (ns.map .int)) (.lst []) = .ok (.bl (!ns.isEmpty)) S := by
  rw [eqL_nil (pys_ints ns) (shaped_ints ns), if_pos rfl]
  cases ns <;> rfl
theorem eqI_nil {ns : List Int} : fEqA false S (.lst (ns.map .int)) (.lst []) = .ok (.bl ns.isEmpty) S := by
  rw [eqL_nil (pys_ints ns) (shaped_ints ns), if_neg (by decide)]
  cases ns <;> rfl
theorem filter_empty {ι : Type} {p : ι → Bool} : ∀ xs : List ι, (xs.filter p).isEmpty = !xs.any p
  | [] => rfl
  | x :: xs => by
    rw [List.filter_cons, List.any_cons]
    cases h : p x with
    | true => rfl
    | false => rw [if_neg (by decide), filter_empty xs, Bool.false_or]
/-! ### cells behind some state -/
theorem sto_snoc {M T : Sto} {o : List Ob} : (M ++ T) ++ o = M ++ (T ++ o) := List.append_assoc _ _ _
theorem listT_ref {xs : List D} : fList true S [.tup xs] = .ok (.ref S.length) (S ++ [.lst xs]) := rfl
theorem listT_val {xs : List D} : fList false S [.tup xs] = .ok (.lst xs) S := rfl
theorem cell_at {M T U : Sto} {x : Ob} {n : Nat} (h : n = M.length + T.length) : (M ++ (T ++ x :: U))[n]? = some x := by
  subst h
  rw [List.getElem?_append_right (by omega), List.getElem?_append_right (by omega)]
  rw [show M.length + T.length - M.length - T.length = 0 by omega]
  rfl
theorem cell_set {M T U : Sto} {x y : Ob} {n : Nat} (h : n = M.length + T.length) : (M ++ (T ++ x :: U)).set n y = M ++ (T ++ y :: U) := by
  subst h
  rw [List.set_append_right _ _ (by omega), List.set_append_right _ _ (by omega)]
  rw [show M.length + T.length - M.length - T.length = 0 by omega]
  rfl
theorem app_ok {n : Nat} {xs ys : List D} {y : D} (h1 : S1[n]? = some (.lst xs)) (h2 : S2[n]? = some (.lst ys)) (hl : ys.length < 16777216) : appD S1 S2 (.ref n) y = .ok .non (S2.set n (.lst (ys ++ [y]))) := by
  simp only [appD, h1, h2, if_pos hl]
theorem ixR_ok {n : Nat} {xs : List D} {i : Int} {d : D} (h1 : S[n]? = some (.lst xs)) (h2 : fIx S (.lst xs) (.int i) = .ok d S) : fIx S (.ref n) (.int i) = .ok d S := by
  rw [← h2]
  simp only [fIx, asQ, asL, h1]
theorem putR_ok {n : Nat} {A B : List D} {x y : D} {i : Int} (h1 : S[n]? = some (.lst (A ++ x :: B))) (h2 : i = (A.length : Nat)) : subD S (.ref n) (.int i) y sl = .ok sl (S.set n (.lst (A ++ y :: B))) := by
  subst h2
  unfold subD
  simp only [h1]
  have e : ixN (A ++ x :: B).length ((A.length : Nat) : Int) = some A.length := by
    unfold ixN
    rw [if_pos (by omega), if_pos (by rw [List.length_append, List.length_cons]; omega), Int.toNat_natCast]
  rw [e]
  show Res.ok sl (S.set n (.lst ((A ++ x :: B).set A.length y))) = _
  rw [List.set_append_right _ _ (Nat.le_refl _), Nat.sub_self]
  rfl
/-- trimmed back -/
theorem trim_cells {M0 M T U : Sto} {d : D} (h : M.length = M0.length) (hd : d.bnd (M0.length + T.length) = true) (hM : M.all (Ob.bnd (M0.length + T.length)) = true) (hT : T.all (Ob.bnd (M0.length + T.length)) = true) : trim (M0 ++ T).length d (M ++ (T ++ U)) = .ok d (M ++ T) := by
  unfold trim
  have e : (M ++ (T ++ U)).take (M0 ++ T).length = M ++ T := by
    rw [← List.append_assoc, List.take_left']
    rw [List.length_append, List.length_append, h]
  rw [e, List.length_append, hd, List.all_append, hM, hT]
  rfl
mutual
theorem D.bnd_le {n m : Nat} (h : n ≤ m) : ∀ d : D, d.bnd n = true → d.bnd m = true
  | .ref i, b => decide_eq_true (Nat.lt_of_lt_of_le (of_decide_eq_true b) h)
  | .tup xs, b => D.bnds_le h xs b
  | .lst xs, b => D.bnds_le h xs b
  | .dct _ xs, b => D.bnds_le h xs b
  | .wtp xs, b => D.bnds_le h xs b
  | .non, _ => rfl
  | .bl _, _ => rfl
  | .int _, _ => rfl
  | .str _, _ => rfl
  | .scr _, _ => rfl
  | .fn _, _ => rfl
  | .adr _, _ => rfl
  | .exn _, _ => rfl
  | .err _, _ => rfl
  | .ktp _, _ => rfl
theorem D.bnds_le {n m : Nat} (h : n ≤ m) : ∀ ds : List D, D.bnds n ds = true → D.bnds m ds = true
  | [], _ => rfl
  | d :: ds, b => by
    have b : (D.bnd n d && D.bnds n ds) = true := b
    rw [Bool.and_eq_true] at b
    show (D.bnd m d && D.bnds m ds) = true
    rw [D.bnd_le h d b.1, D.bnds_le h ds b.2]
    rfl
end
theorem Ob.bnd_le {n m : Nat} (h : n ≤ m) : ∀ o : Ob, o.bnd n = true → o.bnd m = true
  | .lst xs, b => D.bnds_le h xs b
  | .dct _ xs, b => D.bnds_le h xs b
  | .dcu _ xs, b => D.bnds_le h xs b
theorem bnds_map {ι : Type} {f : ι → D} {n : Nat} (h : ∀ x, (f x).bnd n = true) : ∀ xs : List ι, D.bnds n (xs.map f) = true
  | [] => rfl
  | x :: xs => by
    show (D.bnd n (f x) && D.bnds n (xs.map f)) = true
    rw [h x, bnds_map h xs]
    rfl
/-- cells of plain data -/
def Tok (T : Sto) : Prop := T.all (Ob.bnd 0) = true
theorem Tok.nil : Tok [] := rfl
theorem Tok.snoc {T : Sto} {o : Ob} (h : Tok T) (ho : o.bnd 0 = true) : Tok (T ++ [o]) := by
  show (T ++ [o]).all (Ob.bnd 0) = true
  rw [List.all_append, show T.all (Ob.bnd 0) = true from h]
  show (true && (o.bnd 0 && true)) = true
  rw [ho]; rfl
theorem all_le {n m : Nat} (h : n ≤ m) : ∀ T : Sto, T.all (Ob.bnd n) = true → T.all (Ob.bnd m) = true
  | [], _ => rfl
  | o :: T, b => by
    rw [List.all_cons, Bool.and_eq_true] at b
    rw [List.all_cons, Ob.bnd_le h o b.1, all_le h T b.2]
    rfl
end
end Ev

/-! Ev: more rules -/
namespace Ev
open PySem PySem.Spec PyProof.Rows L2
section
variable {K : PySem.W.Frag} {mg : Str → Option Value} {X : Cx}
/-! ### is, of truths too -/
def fIsA (ng : Bool) : F2 := fun S a b => match b with
  | .bl y => (match a with
    | .bl x => .ok (.bl (if ng = true then !decide (x = y) else decide (x = y))) S
    | _ => .bad)
  | b => fIs ng S a b
theorem os_isA : OpS K mg (fun x y H Q => (y = .non ∧ Q (.bl (decide (x = .non))) H) ∨ rIsB x y H Q) (fIsA false) := fun G H μ S d1 d2 v1 v2 Q a r r1 r2 p => by
  cases d2 with
  | bl y =>
    cases d1 with
    | bl x => exact .inr ⟨x, y, r1, r2, PostV.here (d := .bl (decide (x = y))) p a r rfl⟩
    | _ => exact p.elim
  | _ => exact .inl (os_is G H μ S _ _ v1 v2 Q a r r1 r2 p)
theorem os_isnotA : OpS K mg (fun x y H Q => (y = .non ∧ Q (.bl (!decide (x = .non))) H) ∨ rNotB x y H Q) (fIsA true) := fun G H μ S d1 d2 v1 v2 Q a r r1 r2 p => by
  cases d2 with
  | bl y =>
    cases d1 with
    | bl x => exact .inr ⟨x, y, r1, r2, PostV.here (d := .bl (!decide (x = y))) p a r rfl⟩
    | _ => exact p.elim
  | _ => exact .inl (os_isnot G H μ S _ _ v1 v2 Q a r r1 r2 p)
theorem op_isA : OpR X (compareOp .Is) (fun x y H Q => (y = .non ∧ Q (.bl (decide (x = .non))) H) ∨ rIsB x y H Q) := op_isN.or op_isBl
theorem op_isnotA : OpR X (compareOp .IsNot) (fun x y H Q => (y = .non ∧ Q (.bl (!decide (x = .non))) H) ∨ rNotB x y H Q) := op_notN.or op_notBl
/-! ### int of a truth, a number -/
def fInt : FA := fun S ds => match ds with
  | [d] => (match d with
    | .int i => .ok (.int i) S
    | .bl b => .ok (.int (if b = true then 1 else 0)) S
    | _ => .bad)
  | _ => .bad
theorem cs_int : CallS K mg (fun xs H Q => (∃ i, xs = [.int i] ∧ Q (.int i) H) ∨ ∃ k, xs = [.bl k] ∧ Q (.int (if k then 1 else 0)) H) fInt := fun G H μ S ds vs Q a r rp p => by
  match ds, rp, p with
  | [d], rp, p =>
    obtain ⟨v, rfl, rv⟩ := rep1 rp
    cases d with
    | int i => exact .inl ⟨i, by rw [show v = .int i from rv], PostV.here (d := .int i) p a r rfl⟩
    | bl b => exact .inr ⟨b, by rw [show v = .bl b from rv], PostV.here (d := .int (if b = true then 1 else 0)) p a r rfl⟩
    | _ => exact p.elim
  | [], _, p => exact p.elim
  | _ :: _ :: _, _, p => exact p.elim
/-! ### max, min, sum of a list of numbers -/
def maxL : List Int → Int
  | [] => 0
  | [x] => x
  | x :: y :: xs => if x < maxL (y :: xs) then maxL (y :: xs) else x
def minL : List Int → Int
  | [] => 0
  | [x] => x
  | x :: y :: xs => if minL (y :: xs) < x then minL (y :: xs) else x
theorem maxL_ok : ∀ (x : Int) (xs : List Int), maxL (x :: xs) ∈ x :: xs ∧ ∀ y ∈ x :: xs, y ≤ maxL (x :: xs)
  | x, [] => ⟨by simp [maxL], fun y h => by simp [maxL] at *; omega⟩
  | x, y :: xs => by
    obtain ⟨h1, h2⟩ := maxL_ok y xs
    show (if x < maxL (y :: xs) then maxL (y :: xs) else x) ∈ _ ∧ ∀ z ∈ _, z ≤ (if x < maxL (y :: xs) then maxL (y :: xs) else x)
    by_cases h : x < maxL (y :: xs)
    · rw [if_pos h]
      refine ⟨List.mem_cons_of_mem _ h1, fun z hz => ?_⟩
      rcases List.mem_cons.mp hz with rfl | hz
      · omega
      · exact h2 z hz
    · rw [if_neg h]
      refine ⟨by simp, fun z hz => ?_⟩
      rcases List.mem_cons.mp hz with rfl | hz
      · omega
      · have := h2 z hz
        omega
theorem minL_ok : ∀ (x : Int) (xs : List Int), minL (x :: xs) ∈ x :: xs ∧ ∀ y ∈ x :: xs, minL (x :: xs) ≤ y
  | x, [] => ⟨by simp [minL], fun y h => by simp [minL] at *; omega⟩
  | x, y :: xs => by
    obtain ⟨h1, h2⟩ := minL_ok y xs
    show (if minL (y :: xs) < x then minL (y :: xs) else x) ∈ _ ∧ ∀ z ∈ _, (if minL (y :: xs) < x then minL (y :: xs) else x) ≤ z
    by_cases h : minL (y :: xs) < x
    · rw [if_pos h]
      refine ⟨List.mem_cons_of_mem _ h1, fun z hz => ?_⟩
      rcases List.mem_cons.mp hz with rfl | hz
      · omega
      · exact h2 z hz
    · rw [if_neg h]
      refine ⟨by simp, fun z hz => ?_⟩
      rcases List.mem_cons.mp hz with rfl | hz
      · omega
      · have := h2 z hz
        omega
def fNs (f : List Int → Option Int) : FA := fun S ds => match ds with
  | [d] => (match asLs S d with
    | some xs => (match intsD xs with
      | some ns => (match f ns with | some i => .ok (.int i) S | none => .bad)
      | none => .bad)
    | none => .bad)
  | _ => .bad
theorem cs_ns {f : List Int → Option Int} {r : List V → Hp → VK → Prop} (h : ∀ (a : Addr) (ns : List Int) (i : Int) (H : Hp) (Q : VK), f ns = some i → SqL K H a (ns.map V.int) → Q (.int i) H → r [.ref a] H Q) : CallS K mg r (fNs f) := fun G H μ S ds vs Q a rl rp p => by
  match ds, rp, p with
  | [d], rp, p =>
    obtain ⟨v, rfl, rv⟩ := rep1 rp
    have p : PostV K mg (match asLs S d with | some xs => (match intsD xs with | some ns => (match f ns with | some i => .ok (.int i) S | none => .bad) | none => .bad) | none => .bad) G H μ S.length Q := p
    cases e : asLs S d with
    | none => rw [e] at p; exact p.elim
    | some xs =>
      rw [e] at p
      simp only at p
      cases e2 : intsD xs with
      | none => rw [e2] at p; exact p.elim
      | some ns =>
        rw [e2] at p
        simp only at p
        cases e3 : f ns with
        | none => rw [e3] at p; exact p.elim
        | some i =>
          rw [e3] at p
          obtain ⟨b, ws, rfl, hq, rr⟩ := asLs_rep a rl rv e
          exact h b ns i H Q e3 (by rw [← intsD_rep rr e2]; exact hq) (PostV.here (d := .int i) p a rl rfl)
  | [], _, p => exact p.elim
  | _ :: _ :: _, _, p => exact p.elim
def maxO (ns : List Int) : Option Int := if ns = [] then none else some (maxL ns)
def minO (ns : List Int) : Option Int := if ns = [] then none else some (minL ns)
theorem cs_maxL : CallS K mg (rMax K) (fNs maxO) := cs_ns fun b ns i H Q e hq q => by
  cases ns with
  | nil => cases e
  | cons x xs =>
    cases e
    refine ⟨b, _, rfl, hq, Nat.succ_pos _, fun m h1 h2 => ?_⟩
    obtain ⟨k1, k2⟩ := maxL_ok x xs
    rw [show m = maxL (x :: xs) from Int.le_antisymm (k2 m h1) (h2 _ k1)]
    exact q
theorem cs_minL : CallS K mg (rMin K) (fNs minO) := cs_ns fun b ns i H Q e hq q => by
  cases ns with
  | nil => cases e
  | cons x xs =>
    cases e
    refine ⟨b, _, rfl, hq, Nat.succ_pos _, fun m h1 h2 => ?_⟩
    obtain ⟨k1, k2⟩ := minL_ok x xs
    rw [show m = minL (x :: xs) from Int.le_antisymm (h2 _ k1) (k2 m h1)]
    exact q
theorem cs_sum : CallS K mg (rSum K) (fNs fun ns => some ns.sum) := cs_ns fun b ns i H Q e hq q => by
  cases e
  exact ⟨b, ns, rfl, hq, q⟩
/-- of a list of numbers, or of two -/
def fMM (f : List Int → Option Int) (g : Int → Int → Int) : FA := fun S ds => match ds with
  | [d] => fNs f S [d]
  | ds => f2I g S ds
theorem cs_MM {f : List Int → Option Int} {g : Int → Int → Int} {r r' : List V → Hp → VK → Prop} (h : CallS K mg r (fNs f)) (h' : CallS K mg r' (f2I g)) : CallS K mg (fun xs H Q => r xs H Q ∨ r' xs H Q) (fMM f g) := fun G H μ S ds vs Q a rl rp p => by
  match ds, rp, p with
  | [d], rp, p => exact .inl (h G H μ S _ vs Q a rl rp p)
  | [], rp, p => exact .inr (h' G H μ S _ vs Q a rl rp p)
  | d :: e :: ds, rp, p => exact .inr (h' G H μ S _ vs Q a rl rp p)
/-! ### d.get(k), d.get(k, x) -/
def getD (S1 S : Sto) (o k z : D) : Res D := match asD S1 o with
  | some _ => (match asD S o with
    | some kx => (match keyD k with
      | some k => .ok ((valX kx.1 kx.2 k).getD z) S
      | none => .bad)
    | none => .bad)
  | none => .bad
@[reducible] def mGet1 (mo me : ME) : ME := fun sl S => (mo sl S).bind fun o S1 => (me sl S1).bind fun k S2 => getD S1 S2 o k .non
@[reducible] def mGet2 (mo me mf : ME) : ME := fun sl S => (mo sl S).bind fun o S1 => (me sl S1).bind fun k S2 => (mf sl S2).bind fun z S3 => getD S1 S3 o k z
theorem getD_post {G H : Hp} {μ : Nat → Addr} {S S1 : Sto} {o k z : D} {u v w : V} {Q : VK} (a : Sub G H) (r : RelS K mg μ S G) (ro : RepV K mg G μ S.length o u) (rk : RepV K mg G μ S.length k v) (rz : RepV K mg G μ S.length z w) (p : PostV K mg (getD S1 S o k z) G H μ S.length Q) :
    ∃ a o', u = .ref a ∧ DGet H a v o' ∧ Q (o'.getD w) H := by
  unfold getD at p
  cases e0 : asD S1 o with
  | none => rw [e0] at p; exact p.elim
  | some kx0 =>
    rw [e0] at p
    simp only at p
    cases e1 : asD S o with
    | none => rw [e1] at p; exact p.elim
    | some kx =>
      rw [e1] at p
      simp only at p
      cases e2 : keyD k with
      | none => rw [e2] at p; exact p.elim
      | some key =>
        rw [e2] at p
        simp only at p
        obtain ⟨b, kvs, rfl, g, hk, rr⟩ := asD_rep r ro e1
        have q := valX_rep (k := key) rr
        rw [hk] at q
        refine ⟨b, valV kvs key, rfl, .inl ⟨kvs, key, .inl (a _ _ g), keyD_rep rk e2, rfl⟩, ?_⟩
        cases e3 : valX kx.1 kx.2 key with
        | none => rw [e3] at p q; rw [q]; exact p.here a r rz
        | some d => rw [e3] at p q; obtain ⟨x, ex, rx⟩ := q; rw [ex]; exact p.here a r rx
theorem asD_isD {G H : Hp} {μ : Nat → Addr} {S : Sto} {o : D} {u : V} {kx : List Key × List D} (a : Sub G H) (r : RelS K mg μ S G) (ro : RepV K mg G μ S.length o u) (e : asD S o = some kx) : ∃ b, u = .ref b ∧ IsD H b := by
  obtain ⟨b, kvs, rfl, g, _, _⟩ := asD_rep r ro e
  exact ⟨b, rfl, .inl ⟨kvs, .inl (a _ _ g)⟩⟩
section
variable {o e f : Expr} {mo me mf : ME} {apos cpos : Pos}
theorem ev_get1 (hu : X.A.units + 1 < cLine) (ho : EvE X o mo) (he : EvE X e me) (m : M1 X o "get" apos e cpos := by exact ⟨by rfl, by rfl, by rfl, by rfl⟩) : EvE X (.Call (.Attribute o "get" apos) [e] [] cpos) (mGet1 mo me) :=
  PE.imp (pe_dget1 hu ho he m) fun σ H Q ⟨G, μ, sl, S, A, post⟩ => ⟨G, μ, sl, S, A, bindV A post fun d S1 v1 G1 H1 μ1 st1 A1 r1 p1 => by
    cases e0 : asD S1 d with
    | none =>
      have p1 : PostV X.K X.mg ((me sl S1).bind fun k S2 => getD S1 S2 d k .non) G1 H1 μ1 S1.length Q := p1
      cases q : me sl S1 with
      | bad => rw [q] at p1; exact p1.elim
      | ok y S2 => rw [q] at p1; simp only [Res.bind_ok, getD, e0] at p1; exact p1.elim
    | some kx =>
      obtain ⟨b, eb, hb⟩ := asD_isD A1.sub A1.rel r1 e0
      refine ⟨b, eb, hb, G1, μ1, sl, S1, A1, bindV A1 p1 fun y S2 v2 G2 H2 μ2 st2 A2 r2 p2 => ?_⟩
      obtain ⟨b', o', eb', g, q⟩ := getD_post A2.sub A2.rel (r1.go st2 A1.sub A1.rel) r2 (show RepV X.K X.mg G2 μ2 S2.length .non .non from rfl) p2
      rw [eb] at eb'
      cases eb'
      exact ⟨o', g, q⟩⟩
theorem ev_get2 (hu : X.A.units + 1 < cLine) (ho : EvE X o mo) (he : EvE X e me) (hf : EvE X f mf) (m : M2 X o "get" apos e f cpos := by exact ⟨by rfl, by rfl, by rfl, by rfl⟩) : EvE X (.Call (.Attribute o "get" apos) [e, f] [] cpos) (mGet2 mo me mf) :=
  PE.imp (pe_dget2 hu ho he hf m) fun σ H Q ⟨G, μ, sl, S, A, post⟩ => ⟨G, μ, sl, S, A, bindV A post fun d S1 v1 G1 H1 μ1 st1 A1 r1 p1 => by
    cases e0 : asD S1 d with
    | none =>
      have p1 : PostV X.K X.mg ((me sl S1).bind fun k S2 => (mf sl S2).bind fun z S3 => getD S1 S3 d k z) G1 H1 μ1 S1.length Q := p1
      cases q : me sl S1 with
      | bad => rw [q] at p1; exact p1.elim
      | ok y S2 =>
        rw [q] at p1
        simp only [Res.bind_ok] at p1
        cases q2 : mf sl S2 with
        | bad => rw [q2] at p1; exact p1.elim
        | ok z S3 => rw [q2] at p1; simp only [Res.bind_ok, getD, e0] at p1; exact p1.elim
    | some kx =>
      obtain ⟨b, eb, hb⟩ := asD_isD A1.sub A1.rel r1 e0
      refine ⟨b, eb, hb, G1, μ1, sl, S1, A1, bindV A1 p1 fun y S2 v2 G2 H2 μ2 st2 A2 r2 p2 => ?_⟩
      refine ⟨G2, μ2, sl, S2, A2, bindV A2 p2 fun z S3 v3 G3 H3 μ3 st3 A3 r3 p3 => ?_⟩
      obtain ⟨b', o', eb', g, q⟩ := getD_post A3.sub A3.rel ((r1.go st2 A1.sub A1.rel).go st3 A2.sub A2.rel) (r2.go st3 A2.sub A2.rel) r3 p3
      rw [eb] at eb'
      cases eb'
      exact ⟨o', g, q⟩⟩
/-! ### a.join(xs) -/
def strsD : List D → Option (List Str)
  | [] => some []
  | d :: ds => match d with
    | .str b => (match strsD ds with | some bs => some (b :: bs) | none => none)
    | _ => none
theorem strsD_rep {G : Hp} {μ : Nat → Addr} {n : Nat} : ∀ {ds : List D} {vs : List V} {bs : List Str}, RepVs K mg G μ n ds vs → strsD ds = some bs → vs = bs.map V.str
  | [], vs, bs, r, h => by cases h; exact r
  | d :: ds, vs, bs, r, h => by
    obtain ⟨v, t, e, r1, r2⟩ := r
    cases d with
    | str b =>
      simp only [strsD] at h
      cases e2 : strsD ds with
      | none => rw [e2] at h; cases h
      | some cs =>
        rw [e2] at h
        cases h
        rw [e, show v = .str b from r1, strsD_rep r2 e2]
        rfl
    | _ => cases h
theorem strsD_map : ∀ xs : List Str, strsD (xs.map D.str) = some xs
  | [] => rfl
  | x :: xs => by simp only [List.map_cons, strsD, strsD_map xs]
def joinD (S : Sto) (o y : D) : Res D := match o with
  | .str a => (match asQ S y with
    | some xs => (match strsD xs with
      | some ys => if (ys.map (·.length)).sum + ys.length * a.length ≤ 16777216 then .ok (.str (Txt.join a ys)) S else .bad
      | none => .bad)
    | none => .bad)
  | _ => .bad
@[reducible] def mJoin (mo ma : ME) : ME := fun sl S => (mo sl S).bind fun o S1 => (ma sl S1).bind fun y S2 => joinD S2 o y
theorem ev_join (ho : EvE X o mo) (he : EvE X e me) (hs : starEach [e] X.env = [(false, eval e X.env)] := by rfl) (hbase : attributeBase o "join" X.env (eval o X.env) = eval o X.env := by rfl) (hline : (apos.endLine == cpos.line) = true := by rfl) :
    EvE X (.Call (.Attribute o "join" apos) [e] [] cpos) (mJoin mo me) :=
  PE.imp (pe_join ho he hs hbase hline) fun σ H Q ⟨G, μ, sl, S, A, post⟩ => ⟨G, μ, sl, S, A, bindV A post fun d S1 v1 G1 H1 μ1 st1 A1 r1 p1 => by
    have dead : (∀ S2 y, joinD S2 d y = .bad) → False := fun h => by
      have p1 : PostV X.K X.mg ((me sl S1).bind fun y S2 => joinD S2 d y) G1 H1 μ1 S1.length Q := p1
      cases q : me sl S1 with
      | bad => rw [q] at p1; exact p1
      | ok y S2 => rw [q] at p1; simp only [Res.bind_ok, h] at p1; exact p1
    cases d with
    | str a =>
      refine ⟨⟨a, r1⟩, G1, μ1, sl, S1, A1, bindV A1 p1 fun y S2 v2 G2 H2 μ2 st2 A2 r2 p2 => ?_⟩
      have p2 : PostV X.K X.mg (match asQ S2 y with
        | some xs => (match strsD xs with
          | some ys => if (ys.map (·.length)).sum + ys.length * a.length ≤ 16777216 then .ok (.str (Txt.join a ys)) S2 else .bad
          | none => .bad)
        | none => .bad) G2 H2 μ2 S2.length Q := p2
      cases e1 : asQ S2 y with
      | none => rw [e1] at p2; exact p2.elim
      | some xs =>
        rw [e1] at p2
        simp only at p2
        cases e2 : strsD xs with
        | none => rw [e2] at p2; exact p2.elim
        | some ys =>
          rw [e2] at p2
          simp only at p2
          by_cases hz : (ys.map (·.length)).sum + ys.length * a.length ≤ 16777216
          · rw [if_pos hz] at p2
            obtain ⟨b, ws, rfl, hq, rr⟩ := asQ_rep A2.sub A2.rel r2 e1
            refine ⟨a, b, ys, r1, rfl, by rw [← strsD_rep rr e2]; exact hq, hz, PostV.here (d := .str (Txt.join a ys)) p2 A2.sub A2.rel rfl⟩
          · rw [if_neg hz] at p2; exact p2.elim
    | _ => exact (dead fun S2 y => rfl).elim⟩
/-! ### xs.extend(ys) -/
def extD (S1 S2 : Sto) (o y : D) : Res D := match o with
  | .ref n => (match S1[n]? with
    | some (.lst _) => (match S2[n]? with
      | some (.lst xs) => (match asL S2 y with
        | some zs => if xs.length + zs.length ≤ 16777216 then .ok .non (S2.set n (.lst (xs ++ zs))) else .bad
        | none => .bad)
      | _ => .bad)
    | _ => .bad)
  | _ => .bad
@[reducible] def mExt (mo ma : ME) : ME := fun sl S => (mo sl S).bind fun o S1 => (ma sl S1).bind fun y S2 => extD S1 S2 o y
theorem ev_extend (ho : EvE X o mo) (he : EvE X e me) (hbase : attributeBase o "extend" X.env (eval o X.env) = eval o X.env := by rfl)
    (hfew : ((backTo cpos (starEach [e] X.env)).all (fun x => !x.1) && (backToKw cpos (keywordEach [] X.env)).all (fun x => x.1.isSome)
      && decide (([e] : List Expr).length + ([] : List Keyword).length + (if ([] : List Keyword).isEmpty then 0 else 1) < 30)) = true := by rfl)
    (hline : (apos.endLine == cpos.line) = true := by rfl) (hs : starEach [e] X.env = (false, eval e X.env) :: starEach [] X.env := by rfl) (hplain : (backTo cpos (starEach [] X.env)).any (·.1) = false := by rfl) :
    EvE X (.Call (.Attribute o "extend" apos) [e] [] cpos) (mExt mo me) :=
  PE.imp (pe_bm PySem.F.plainAttrs_list PySem.F.slot_list_extend PySem.F.type_list_extend mt_extend ho (pa_cons he pa_nil hs) hbase hfew hline hs hplain) fun σ H Q ⟨G, μ, sl, S, A, post⟩ =>
    ⟨G, μ, sl, S, A, bindV A post fun d S1 v1 G1 H1 μ1 st1 A1 r1 p1 => by
      have dead : (∀ S2 y, extD S1 S2 d y = .bad) → False := fun h => by
        have p1 : PostV X.K X.mg ((me sl S1).bind fun y S2 => extD S1 S2 d y) G1 H1 μ1 S1.length Q := p1
        cases q : me sl S1 with
        | bad => rw [q] at p1; exact p1
        | ok y S2 => rw [q] at p1; simp only [Res.bind_ok, h] at p1; exact p1
      cases d with
      | ref n =>
        cases q : S1[n]? with
        | none => exact (dead fun S2 y => by simp only [extD, q]).elim
        | some ob =>
          cases ob with
          | dct _ _ => exact (dead fun S2 y => by simp only [extD, q]).elim
          | dcu _ _ => exact (dead fun S2 y => by simp only [extD, q]).elim
          | lst xs =>
            obtain ⟨hn, ev⟩ := r1
            obtain ⟨vs, g1, rr, _⟩ := A1.rel.getL q
            refine ⟨by rw [ev]; exact .inl ⟨rfl, vs, .inl (.inl (A1.sub _ _ g1))⟩, G1, μ1, sl, S1, A1, bindV A1 p1 fun y S2 v2 G2 H2 μ2 st2 A2 r2 p2 => ?_⟩
            simp only [extD, q] at p2
            cases q2 : S2[n]? with
            | none => rw [q2] at p2; exact p2.elim
            | some ob2 =>
              rw [q2] at p2
              cases ob2 with
              | dct _ _ => exact p2.elim
              | dcu _ _ => exact p2.elim
              | lst ys =>
                simp only at p2
                cases q3 : asL S2 y with
                | none => rw [q3] at p2; exact p2.elim
                | some zs =>
                  rw [q3] at p2
                  simp only at p2
                  by_cases hz : ys.length + zs.length ≤ 16777216
                  · rw [if_pos hz] at p2
                    obtain ⟨ws, g2, rr2, hlt⟩ := A2.rel.getL q2
                    obtain ⟨b, us, eb, gb, rb⟩ := asL_rep A2.rel r2 q3
                    refine ⟨μ2 n, b, ws, us, by rw [ev, st2.mu n hn], by rw [eb], A2.sub _ _ g2, A2.sub _ _ gb, by rw [← rr2.len, ← rb.len]; exact lim_ok hz, ?_⟩
                    exact p2.wrL A2.sub A2.rel hlt (rr2.app rb) rfl
                  · rw [if_neg hz] at p2; exact p2.elim
      | _ => exact (dead fun S2 y => by simp only [extD]).elim⟩
end
end
end Ev

/-! Ev: lists that are handed back, recursion, texts, tables of the top -/
namespace Ev
open PySem PySem.Spec PyProof.Rows L2
section
variable {P : Program} {w : World} {K : PySem.W.Frag} {mg : Str → Option Value} {base : Heap} {k : Nat} {f : Addr} {np : Nat} {F : FA}
/-! ### the cells that a def has laid fall away; a list that it hands back is nobody else's -/
def frz (n : Nat) (d : D) (S : Sto) : Res D := match d with
  | .ref i => (match S[i]? with
    | some (.lst xs) => if (decide (n ≤ i) && (D.bnds n xs && (S.take n).all (Ob.bnd n))) = true then .ok (.lst xs) (S.take n) else .ok (.ref i) S
    | some (.dct ks xs) => if (decide (n ≤ i) && (D.bnds n xs && (S.take n).all (Ob.bnd n))) = true then .ok (.dct ks xs) (S.take n) else .ok (.ref i) S
    | some (.dcu _ _) => .ok (.ref i) S
    | none => .ok (.ref i) S)
  | d => trim n d S
def frzF (F : FA) : FA := fun S ds => (F S ds).bind fun d S' => frz S.length d S'
theorem cut_post {G H : Hp} {μ : Nat → Addr} {S S' : Sto} {d' : D} {G' H' : Hp} {μ' : Nat → Addr} {v : V} {Q : VK} (h : PostV K mg (.ok d' (S'.take S.length)) G H μ S.length Q) (hz : (S'.take S.length).all (Ob.bnd S.length) = true)
    (st : Step G H μ S.length G' H' μ' S'.length) (rl : RelS K mg μ' S' G') (rv : RepV K mg G' μ' S.length d' v) : Q v H' := by
  have hl : (S'.take S.length).length = S.length := by rw [List.length_take]; exact Nat.min_eq_left st.len
  refine h v G' H' μ' ?_ ?_ (by rw [hl]; exact rv)
  · rw [hl]
    exact ⟨st.sub, Nat.le_refl _, st.mu, fun i h1 h2 => absurd h2 (by omega), fun b o e ni nt => st.gk b o e ni nt, fun b o e ni nt => st.hk b o e ni nt, st.hid, st.dom, st.dmc⟩
  · refine ⟨fun i o e2 => ?_, fun i j hi hj => rl.inj i j (by rw [hl] at hi; exact Nat.lt_of_lt_of_le hi st.len) (by rw [hl] at hj; exact Nat.lt_of_lt_of_le hj st.len), rl.tab⟩
    have hi : i < S.length := by rw [← hl]; exact (List.getElem?_eq_some_iff.mp e2).1
    have e3 : S'[i]? = some o := by rw [List.getElem?_take_of_lt hi] at e2; exact e2
    have hb : Ob.bnd S.length o = true := List.all_eq_true.mp hz o (List.mem_of_getElem? e2)
    have q := rl.sto i o e3
    rw [hl]
    cases o with
    | lst xs => obtain ⟨vs, h1, h2⟩ := q; exact ⟨vs, h1, h2.cutn st.len xs hb⟩
    | dct ks xs => obtain ⟨vs, h1, hk, h2⟩ := q; exact ⟨vs, h1, hk, h2.cutn st.len xs hb⟩
    | dcu ks xs => obtain ⟨vs, h1, hk, h2⟩ := q; exact ⟨vs, h1, hk, h2.cutn st.len xs hb⟩
theorem frz_post {G H : Hp} {μ : Nat → Addr} {S : Sto} {ds : List D} {Q : VK} (h : PostV K mg (frzF F S ds) G H μ S.length Q) : PostV K mg (F S ds) G H μ S.length Q := by
  unfold frzF at h
  cases e : F S ds with
  | bad => rw [e] at h; exact h
  | ok d S' =>
    rw [e] at h
    simp only [Res.bind_ok] at h
    have other : PostV K mg (trim S.length d S') G H μ S.length Q → PostV K mg (.ok d S') G H μ S.length Q := fun h => by
      have e1 : trimF (fun _ _ => .ok d S') S ds = trim S.length d S' := rfl
      exact trim_post (F := fun _ _ => .ok d S') (ds := ds) (by rw [e1]; exact h)
    cases d with
    | ref i =>
      have h : PostV K mg (match S'[i]? with
        | some (.lst xs) => if (decide (S.length ≤ i) && (D.bnds S.length xs && (S'.take S.length).all (Ob.bnd S.length))) = true then .ok (.lst xs) (S'.take S.length) else .ok (.ref i) S'
        | some (.dct ks xs) => if (decide (S.length ≤ i) && (D.bnds S.length xs && (S'.take S.length).all (Ob.bnd S.length))) = true then .ok (.dct ks xs) (S'.take S.length) else .ok (.ref i) S'
        | some (.dcu _ _) => .ok (.ref i) S'
        | none => .ok (.ref i) S') G H μ S.length Q := h
      cases q : S'[i]? with
      | none => rw [q] at h; exact h
      | some o =>
        rw [q] at h
        have hi := (List.getElem?_eq_some_iff.mp q).1
        cases o with
        | dcu _ _ => exact h
        | lst xs =>
          simp only at h
          by_cases hz : (decide (S.length ≤ i) && (D.bnds S.length xs && (S'.take S.length).all (Ob.bnd S.length))) = true
          · rw [if_pos hz] at h
            rw [Bool.and_eq_true, Bool.and_eq_true] at hz
            have hle := of_decide_eq_true hz.1
            intro v G' H' μ' st rl rv
            obtain ⟨_, ev⟩ := rv
            obtain ⟨vs, h1, h2⟩ := rl.sto i _ q
            refine cut_post h hz.2.2 st rl ⟨μ' i, vs, ev, h1, fun j hj e => ?_, h2.cutn st.len xs hz.2.1⟩
            have := rl.inj j i (Nat.lt_of_lt_of_le hj st.len) hi e
            omega
          · rw [if_neg hz] at h
            exact h
        | dct ks xs =>
          simp only at h
          by_cases hz : (decide (S.length ≤ i) && (D.bnds S.length xs && (S'.take S.length).all (Ob.bnd S.length))) = true
          · rw [if_pos hz] at h
            rw [Bool.and_eq_true, Bool.and_eq_true] at hz
            have hle := of_decide_eq_true hz.1
            intro v G' H' μ' st rl rv
            obtain ⟨_, ev⟩ := rv
            obtain ⟨kvs, h1, hk, h2⟩ := rl.sto i _ q
            refine cut_post h hz.2.2 st rl ⟨μ' i, kvs, ev, h1, fun j hj e => ?_, hk, h2.cutn st.len xs hz.2.1⟩
            have := rl.inj j i (Nat.lt_of_lt_of_le hj st.len) hi e
            omega
          · rw [if_neg hz] at h
            exact h
    | _ => exact other h
theorem FnG.frz (h : FnG P w K mg base k f np F) : FnG P w K mg base k f np (frzF F) :=
  ⟨fun A outer s H G μ S us vs ds Q hr hg he hv hl hs hrel hrep post => h.run A outer s H G μ S us vs ds Q hr hg he hv hl hs hrel hrep (frz_post post)⟩
/-- what is never called -/
theorem FnG.bad : FnG P w K mg base k f np (fun _ _ => .bad) := ⟨fun _ _ _ _ _ _ _ _ _ _ _ _ _ _ _ _ _ _ _ post => post.elim⟩
end
section
variable {K : PySem.W.Frag} {mg : Str → Option Value} {X : Cx}
/-! ### a sign in a text -/
def fInX (ng : Bool) : F2 := fun S a b => match b with
  | .str z => (match a with
    | .str x => (match x.cps.toList with
      | [c] => .ok (.bl (if ng = true then !decide (c ∈ z.cps.toList) else decide (c ∈ z.cps.toList))) S
      | _ => .bad)
    | _ => .bad)
  | b => fInA ng S a b
def rSign (ng : Bool) : R2 := fun x y H Q => ∃ (c : Nat) (z : Str), x = .str ⟨#[c]⟩ ∧ y = .str z ∧ Q (.bl (if ng = true then !decide (c ∈ z.cps.toList) else decide (c ∈ z.cps.toList))) H
theorem op_inX (hu : X.A.units + 64 < cLine) : OpR X (compareOp .In) (fun x y H Q => rSign false x y H Q ∨ (fun x y H Q => rDin false x y H Q ∨ rIn X.K false x y H Q) x y H Q) :=
  OpR.or (r := rSign false) op_in_sign (op_inA hu)
theorem op_ninX (hu : X.A.units + 64 < cLine) : OpR X (compareOp .NotIn) (fun x y H Q => rSign true x y H Q ∨ (fun x y H Q => rDin true x y H Q ∨ rIn X.K true x y H Q) x y H Q) :=
  OpR.or (r := rSign true) op_notIn_sign (op_ninA hu)
theorem os_inX {ng : Bool} : OpS K mg (fun x y H Q => rSign ng x y H Q ∨ (fun x y H Q => rDin ng x y H Q ∨ rIn K ng x y H Q) x y H Q) (fInX ng) := fun G H μ S d1 d2 v1 v2 Q a r r1 r2 p => by
  cases d2 with
  | str z =>
    cases d1 with
    | str x =>
      have p : PostV K mg (match x.cps.toList with
        | [c] => .ok (.bl (if ng = true then !decide (c ∈ z.cps.toList) else decide (c ∈ z.cps.toList))) S
        | _ => .bad) G H μ S.length Q := p
      cases e : x.cps.toList with
      | nil => rw [e] at p; exact p.elim
      | cons c cs =>
        cases cs with
        | nil =>
          rw [e] at p
          have ex : x = ⟨#[c]⟩ := by
            obtain ⟨a⟩ := x
            have e : a.toList = [c] := e
            have : a = #[c] := by rw [← Array.toArray_toList (xs := a), e]
            rw [this]
          exact .inl ⟨c, z, by rw [show v1 = .str x from r1, ex], r2, PostV.here (d := .bl (if ng = true then !decide (c ∈ z.cps.toList) else decide (c ∈ z.cps.toList))) p a r rfl⟩
        | cons c2 cs => rw [e] at p; exact p.elim
    | _ => exact p.elim
  | _ => exact .inr (os_inA G H μ S _ _ v1 v2 Q a r r1 r2 p)
/-! ### a tuple of texts that the top has laid -/
theorem RepVs.strs {G : Hp} {μ : Nat → Addr} {n : Nat} : ∀ (ns : List Str), RepVs K mg G μ n (ns.map D.str) (ns.map V.str)
  | [] => rfl
  | i :: ns => ⟨_, _, rfl, rfl, RepVs.strs ns⟩
theorem ev_gtup {x : Str} {f : Addr} {zs : List Str} {p : Pos} (hg : Gl X x) (hm : X.mg x = some (.ref f)) (hT : ∀ H, SqT X.K H f (zs.map V.str)) (hd : (x == ("__debug__" : Str)) = false := by decide) : EvE X (.Name x p) (mC (.wtp (zs.map D.str))) :=
  ev_c (pe_glob (v := .ref f) hg hm rfl hd) fun G μ n => ⟨f, zs.map V.str, rfl, hT G, RepVs.strs zs⟩
/-! ### xs.count(x) -/
def cntD (S1 S2 : Sto) (o y : D) : Res D := match asLs S1 o with
  | some _ => (match toPy S2 o with
    | some (.list ps) => (match toPy S2 y with
      | some d => if (PyData.plainAll ps && (d.plain && decide (d.depth ≤ 60))) = true then .ok (.int (ps.countP fun p => PyData.eqv p d : Nat)) S2 else .bad
      | none => .bad)
    | _ => .bad)
  | none => .bad
@[reducible] def mCnt (mo ma : ME) : ME := fun sl S => (mo sl S).bind fun o S1 => (ma sl S1).bind fun y S2 => cntD S1 S2 o y
def rCntD (K : PySem.W.Frag) (V0 : Prop) : V → List V → Hp → VK → Prop := fun x xs H Q => ∃ p v ds d, x = .ref p ∧ xs = [v] ∧ Dp K H (.ref p) (.list ds) ∧ Dp K H v d ∧ PyData.plainAll ds = true ∧ d.plain = true ∧ d.depth ≤ 60 ∧ Q (.int (ds.countP fun y => PyData.eqv y d : Nat)) H
theorem mt_cntD (hu : X.A.units + 64 < cLine) : MtR X "list.count" (rCntD X.K True) := by
  intro pins s σ H x xs v us Q I rx rxs h
  obtain ⟨p, y, ds, d, rfl, rfl, hl, hd, h1, h2, h3, q⟩ := h
  cases rx
  obtain ⟨u, rfl, ru⟩ := rxs.one
  obtain ⟨bs, rx⟩ := Dp.reads I d y u hd ru
  cases hl with
  | lst hs ha =>
    obtain ⟨its, rv, hq, hlen⟩ := I.list hs
    obtain ⟨as, rs⟩ := Dp.readsAll I ds _ its ha rv
    refine SeqAt.count_list_data hq.isList (vs := its.toArray) (by simpa using rs) rx h1 h2 (by omega) ?_
    exact ⟨.int _, H, I.tok _, ⟨s.toks, rfl⟩, q⟩
section
variable {o e : Expr} {mo me : ME} {apos cpos : Pos}
theorem ev_count (hu : X.A.units + 64 < cLine) (ho : EvE X o mo) (he : EvE X e me) (hbase : attributeBase o "count" X.env (eval o X.env) = eval o X.env := by rfl)
    (hfew : ((backTo cpos (starEach [e] X.env)).all (fun x => !x.1) && (backToKw cpos (keywordEach [] X.env)).all (fun x => x.1.isSome)
      && decide (([e] : List Expr).length + ([] : List Keyword).length + (if ([] : List Keyword).isEmpty then 0 else 1) < 30)) = true := by rfl)
    (hline : (apos.endLine == cpos.line) = true := by rfl) (hs : starEach [e] X.env = (false, eval e X.env) :: starEach [] X.env := by rfl) (hplain : (backTo cpos (starEach [] X.env)).any (·.1) = false := by rfl) :
    EvE X (.Call (.Attribute o "count" apos) [e] [] cpos) (mCnt mo me) :=
  PE.imp (pe_bm PySem.F.plainAttrs_list PySem.F.slot_list_count PySem.F.type_list_count (mt_cntD hu) ho (pa_cons he pa_nil hs) hbase hfew hline hs hplain) fun σ H Q ⟨G, μ, sl, S, A, post⟩ =>
    ⟨G, μ, sl, S, A, bindV A post fun d S1 v1 G1 H1 μ1 st1 A1 r1 p1 => by
      cases e0 : asLs S1 d with
      | none =>
        have p1 : PostV X.K X.mg ((me sl S1).bind fun y S2 => cntD S1 S2 d y) G1 H1 μ1 S1.length Q := p1
        cases q : me sl S1 with
        | bad => rw [q] at p1; exact p1.elim
        | ok y S2 => rw [q] at p1; simp only [Res.bind_ok, cntD, e0] at p1; exact p1.elim
      | some xs0 =>
        obtain ⟨b, ws, eb, hq, _⟩ := asLs_rep A1.sub A1.rel r1 e0
        refine ⟨by rw [eb]; exact .inl ⟨rfl, ws, hq⟩, G1, μ1, sl, S1, A1, bindV A1 p1 fun y S2 v2 G2 H2 μ2 st2 A2 r2 p2 => ?_⟩
        simp only [cntD, e0] at p2
        cases e1 : toPy S2 d with
        | none => rw [e1] at p2; exact p2.elim
        | some pd =>
          rw [e1] at p2
          cases pd with
          | list ps =>
            simp only at p2
            cases e2 : toPy S2 y with
            | none => rw [e2] at p2; exact p2.elim
            | some dd =>
              rw [e2] at p2
              simp only at p2
              by_cases hz : (PyData.plainAll ps && (dd.plain && decide (dd.depth ≤ 60))) = true
              · rw [if_pos hz] at p2
                rw [Bool.and_eq_true, Bool.and_eq_true] at hz
                have rd := toPy_rep A2.sub A2.rel (r1.go st2 A1.sub A1.rel) e1
                have ry := toPy_rep A2.sub A2.rel r2 e2
                exact ⟨b, v2, ps, dd, eb, rfl, by rw [← eb]; exact rd, ry, hz.1, hz.2.1, of_decide_eq_true hz.2.2, PostV.here (d := .int _) p2 A2.sub A2.rel rfl⟩
              · rw [if_neg hz] at p2; exact p2.elim
          | _ => exact p2.elim⟩
end
end
/-! ### the head, with one more look at what the top has laid -/
abbrev AlE : Type := He.AlD × Bool
def obsDE (n : Nat) (fa : List He.Fa) (fn : List He.DefD) (ex : PySem.W.Frag → Bool) (g : Addr → Option Obj) : AlE := (He.obsD fa fn (He.frG g (He.asD g n)), ex (He.frG g (He.asD g n)))
def hookDE (n : Nat) (fa : List He.Fa) (fn : List He.DefD) (ex : PySem.W.Frag → Bool) : PySem.W.Hook where
  α := AlE
  obs := fun s => obsDE n fa fn ex s.heap.get?
  val := fun _ => (He.valD fn, true)
  says := fun _ h => ∃ K : PySem.W.Frag, K.In h ∧ (He.SaysD fa fn K ∧ ex K = true)
  of := fun _ _ e => ⟨_, He.frG_in, congrArg (fun z : AlE => z.1) e, congrArg (fun z : AlE => z.2) e⟩
  keeps := fun _ _ _ ⟨K, hK, c⟩ k => ⟨K, PySem.W.Frag.In.keeps hK k, c⟩
theorem obsDE_eq {n : Nat} {fa : List He.Fa} {fn : List He.DefD} {ex : PySem.W.Frag → Bool} {g : Addr → Option Obj} {s : Shared} (h : ∀ a, g a = s.heap.get? a) : obsDE n fa fn ex g = (hookDE n fa fn ex).obs s := by
  have e : g = s.heap.get? := funext h
  rw [e] <;> rfl
end Ev

/-! Ev: defs that may raise -/
namespace Ev
open PySem PySem.Spec PyProof.Rows L2
section
variable (K : PySem.W.Frag) (mg : Str → Option Value)
def PostE (r : Res D) (G H : Hp) (μ : Nat → Addr) (n : Nat) (E : XK) : Prop :=
  ∀ c S' C G' H' μ', r = .ok (.exn c) S' → mg c = some (.ref C) → Step G H μ n G' H' μ' S'.length → RelS K mg μ' S' G' → E (.ref C) none H'
def PostF (r : Res Fl) (G H : Hp) (μ : Nat → Addr) (n : Nat) (E : XK) : Prop :=
  ∀ c S' C G' H' μ', r = .ok (.rt (.exn c)) S' → mg c = some (.ref C) → Step G H μ n G' H' μ' S'.length → RelS K mg μ' S' G' → E (.ref C) none H'
def tEx (E : XK) (m : ME) : TE := fun σ H Q => ∃ G μ sl S, At K mg G H μ S sl σ ∧ PostV K mg (m sl S) G H μ S.length Q ∧ PostE K mg (m sl S) G H μ S.length E
def tSx (E : XK) (m : MS) : TS := fun De σ H => ∃ G μ sl S, At K mg G H μ S sl σ ∧ PostS K mg (m sl S) G H μ S.length De ∧ PostF K mg (m sl S) G H μ S.length E
end
abbrev EvEx (X : Cx) (E : XK) (e : Expr) (m : ME) : Prop := PE X e (tEx X.K X.mg E m)
abbrev EvSx (X : Cx) (E : XK) (s : Stmt) (m : MS) : Prop := PS X s (tSx X.K X.mg E m)
abbrev EvSxs (X : Cx) (E : XK) (s : List Stmt) (m : MS) : Prop := PSs X s (tSx X.K X.mg E m)
section
variable {K : PySem.W.Frag} {mg : Str → Option Value} {G G1 H H1 : Hp} {μ μ1 : Nat → Addr} {n n1 : Nat} {E : XK}
theorem PostE.step {r : Res D} (h : PostE K mg r G H μ n E) (st : Step G H μ n G1 H1 μ1 n1) (hs : Sub G H) : PostE K mg r G1 H1 μ1 n1 E := fun c S' C G' H' μ' e m s2 rl => h c S' C G' H' μ' e m (st.trans s2 hs) rl
theorem PostF.step {r : Res Fl} (h : PostF K mg r G H μ n E) (st : Step G H μ n G1 H1 μ1 n1) (hs : Sub G H) : PostF K mg r G1 H1 μ1 n1 E := fun c S' C G' H' μ' e m s2 rl => h c S' C G' H' μ' e m (st.trans s2 hs) rl
end
section
variable {X : Cx} {E : XK} {e : Expr} {st : Stmt} {rest : List Stmt} {me : ME} {mt : MT} {m m' : MS} {pos : Pos}
theorem esx_of (h : EvS X st m) : EvSx X E st m := PS.imp h fun De σ H ⟨G, μ, sl, S, A, post, _⟩ => ⟨G, μ, sl, S, A, post⟩
theorem esxs_of (h : EvSs X rest m) : EvSxs X E rest m := PSs.imp h fun De σ H ⟨G, μ, sl, S, A, post, _⟩ => ⟨G, μ, sl, S, A, post⟩
theorem eex_of (h : EvE X e me) : EvEx X E e me := PE.imp h fun σ H Q ⟨G, μ, sl, S, A, post, _⟩ => ⟨G, μ, sl, S, A, post⟩
theorem esx_cons (h : EvSx X E st m) (h2 : EvSxs X E rest m') : EvSxs X E (st :: rest) (mSeq m m') := PSs.imp (pss_cons h h2) fun De σ H ⟨G, μ, sl, S, A, post, px⟩ => by
  refine ⟨G, μ, sl, S, A, ?_, fun c S' C G' H' μ' er => px c S' C G' H' μ' (by show (m sl S).bind _ = _; rw [er] <;> rfl)⟩
  have post : PostS X.K X.mg ((m sl S).bind fun fl S1 => match fl with | .nx sl1 => m' sl1 S1 | f => .ok f S1) G H μ S.length De := post
  have px : PostF X.K X.mg ((m sl S).bind fun fl S1 => match fl with | .nx sl1 => m' sl1 S1 | f => .ok f S1) G H μ S.length E := px
  cases e1 : m sl S with
  | bad => rw [e1] at post; exact post.elim
  | ok fl S1 =>
    rw [e1] at post px
    simp only [Res.bind_ok] at post px
    cases fl with
    | nx sl1 => exact fun σ' G' H' μ' st rl so => ⟨G', μ', sl1, S1, ⟨st.sub, rl, so⟩, PostS.step post st A.sub, px.step st A.sub⟩
    | rt d => exact post
    | bk d => exact post
    | ct d => exact post
theorem esx_one (h : EvSx X E st m) : EvSxs X E [st] m := PSs.imp (pss_one h) fun De σ H z => z
theorem esx_if {c : Expr} {a b : List Stmt} (h : EvT X c mt) (h1 : EvSxs X E a m) (h2 : EvSxs X E b m') : EvSx X E (.If c a b pos) (mIte mt m m') := PS.imp (ps_if h h1 h2) fun De σ H ⟨G, μ, sl, S, A, post, px⟩ => by
  refine ⟨G, μ, sl, S, A, ?_⟩
  have post : PostS X.K X.mg ((mt sl S).bind fun k S1 => match k with | true => m sl S1 | false => m' sl S1) G H μ S.length De := post
  have px : PostF X.K X.mg ((mt sl S).bind fun k S1 => match k with | true => m sl S1 | false => m' sl S1) G H μ S.length E := px
  cases e1 : mt sl S with
  | bad => rw [e1] at post; exact post.elim
  | ok k S1 =>
    rw [e1] at post px
    simp only [Res.bind_ok] at post px
    intro G' H' μ' st rl
    cases k with
    | true => rw [if_pos rfl]; exact ⟨G', μ', sl, S1, A.go st rl, PostS.step post st A.sub, px.step st A.sub⟩
    | false => rw [if_neg Bool.false_ne_true]; exact ⟨G', μ', sl, S1, A.go st rl, PostS.step post st A.sub, px.step st A.sub⟩
/-- raise x('m') -/
@[reducible] def mRaise (x : Str) : MS := fun _ S => .ok (.rt (.exn x)) S
theorem esx_raise {C : Addr} {bmB : List Value} {B newId initId : String} {x z : Str} {j : Nat} {p p2 pos2 : Pos} (hc : X.calm = true) (tk : Takes X fun cls d _ H => E cls d H) (F : ExcBaseFacts B newId initId bmB) (q : PySem.W.excIn X.K C bmB newId = true) (gC : X.mg x = some (.ref C)) (kC : PySem.W.keepIn X.K (.ref C) = true)
    (r : Raises X (.ref C)) (hg : Gl X x) (hdb : (x == ("__debug__" : Str)) = false := by decide) : EvSx X E (.Raise (some (.Call (.Name x p) [.Constant (.str z) j p2] [] pos)) none pos2) (mRaise x) :=
  PS.imp (ps_raise hc tk (pmk_own F q gC kC r hg hdb)) fun De σ H ⟨G, μ, sl, S, A, post, px⟩ => px x S C G H μ rfl gC (Step.refl A.sub) A.rel
/-- a call's own end, where it may raise -/
@[reducible] def mDropX (me : ME) : MS := fun sl S => (me sl S).bind fun d S1 => match d with
  | .exn c => .ok (.rt (.exn c)) S1
  | _ => .ok (.nx sl) S1
@[reducible] def mSetX (i : Nat) (me : ME) : MS := fun sl S => (me sl S).bind fun d S1 => match d with
  | .exn c => .ok (.rt (.exn c)) S1
  | d => .ok (.nx (sl.set i (some d))) S1
theorem esx_expr (h : EvEx X E e me) (hs : swapsWith e none pos.line X.env = pure false := by rfl) : EvSx X E (.Expr e pos) (mDropX me) := PS.imp (ps_expr h hs) fun De σ H ⟨G, μ, sl, S, A, post, px⟩ => by
  refine ⟨G, μ, sl, S, A, ?_, fun c S' C G' H' μ' er => px c S' C G' H' μ' (by show (me sl S).bind _ = _; rw [er] <;> rfl)⟩
  have post : PostS X.K X.mg ((me sl S).bind fun d S1 => match d with | .exn c => .ok (.rt (.exn c)) S1 | _ => .ok (.nx sl) S1) G H μ S.length De := post
  cases e1 : me sl S with
  | bad => rw [e1] at post; exact post.elim
  | ok d S1 =>
    rw [e1] at post
    simp only [Res.bind_ok] at post
    cases d <;> first | exact fun v G' H' μ' st rl rv => (show False from rv).elim | exact fun v G' H' μ' st rl rv => PostS.nxt (PostS.step post st A.sub) (A.go st rl)
theorem esx_set {i : Nat} {x : Str} {p : Pos} (hN : X.N.Nodup) (hi : X.N[i]? = some x) (hx : Loc X.env.scope x) (h : EvEx X E e me) (hs : swapsWith e (some (.Name x p)) pos.line X.env = pure false := by rfl) (hf : X.fn x = true ∨ X.env.scope.names.lookup x = some .local := by first | exact .inl rfl | exact .inr rfl | assumption) :
    EvSx X E (.Assign [.Name x p] e pos) (mSetX i me) := PS.imp (ps_set hN hi hx h hs hf) fun De σ H ⟨G, μ, sl, S, A, post, px⟩ => by
  refine ⟨G, μ, sl, S, A, ?_, fun c S' C G' H' μ' er => px c S' C G' H' μ' (by show (me sl S).bind _ = _; rw [er] <;> rfl)⟩
  have post : PostS X.K X.mg ((me sl S).bind fun d S1 => match d with | .exn c => .ok (.rt (.exn c)) S1 | d => .ok (.nx (sl.set i (some d))) S1) G H μ S.length De := post
  cases e1 : me sl S with
  | bad => rw [e1] at post; exact post.elim
  | ok d S1 =>
    rw [e1] at post
    simp only [Res.bind_ok] at post
    cases d <;> first
      | exact fun v G' H' μ' st rl rv => (show False from rv).elim
      | exact fun v G' H' μ' st rl rv => PostS.nxt (PostS.step post st A.sub) ⟨st.sub, rl, (A.go st rl).slo.set i rv⟩
theorem esx_ret (h : EvEx X E e me) : EvSx X E (.Return (some e) pos) (mRet me) := PS.imp (ps_ret h) fun De σ H ⟨G, μ, sl, S, A, post, px⟩ => by
  refine ⟨G, μ, sl, S, A, ?_, fun c S' C G' H' μ' er => px c S' C G' H' μ' (by show (me sl S).bind _ = _; rw [er] <;> rfl)⟩
  have post : PostS X.K X.mg ((me sl S).bind fun d S1 => .ok (.rt d) S1) G H μ S.length De := post
  cases e1 : me sl S with
  | bad => rw [e1] at post; exact post.elim
  | ok d S1 =>
    rw [e1] at post
    exact post
end
/-- a def that may raise -/
structure FnX (P : Program) (w : World) (K : PySem.W.Frag) (mg : Str → Option Value) (base : Heap) (k : Nat) (f : Addr) (np : Nat) (F : FA) : Prop where
  run : ∀ (A : Around) (outer : List Env) (s : Shared) (H G : Hp) (μ : Nat → Addr) (S : Sto) (us : List Value) (vs : List V) (ds : List D) (Q : VK) (E : XK), Room k A → A.guards = some [] → Env0 P w K mg base A outer s H → Vals vs us → us.length = np → Sub G H → RelS K mg μ S G →
    RepVs K mg G μ S.length ds vs → PostV K mg (F S ds) G H μ S.length Q → PostE K mg (F S ds) G H μ S.length E → codeAny (model P w) A (.call (.ref f) ⟨us, []⟩) (CR (L2.CX P w) outer P w H s Q E) s
section
variable {P : Program} {w : World} {K : PySem.W.Frag} {mg : Str → Option Value} {base : Heap} {k : Nat} {f : Addr} {np : Nat} {F : FA}
theorem FnX.mono {j : Nat} (h : FnX P w K mg base j f np F) (hj : j ≤ k) : FnX P w K mg base k f np F :=
  ⟨fun A outer s H G μ S us vs ds Q E hr => h.run A outer s H G μ S us vs ds Q E (hr.mono hj)⟩
/-- .. where it does not -/
def noX (F : FA) : FA := fun S ds => (F S ds).bind fun d S1 => match d with
  | .exn _ => .bad
  | d => .ok d S1
theorem noX_ok {S S1 : Sto} {ds : List D} {d : D} (h : F S ds = .ok d S1) (hd : ∀ c, d ≠ .exn c) : noX F S ds = .ok d S1 := by
  unfold noX
  rw [h]
  cases d <;> first | rfl | exact absurd rfl (hd _)
theorem FnX.pure (h : FnX P w K mg base k f np F) : FnG P w K mg base k f np (noX F) := ⟨fun A outer s H G μ S us vs ds Q hr hg he hv hl hs hrel hrep post => by
  have both : PostV K mg (F S ds) G H μ S.length Q ∧ PostE K mg (F S ds) G H μ S.length (fun _ _ _ => False) := by
    unfold noX at post
    cases e1 : F S ds with
    | bad => rw [e1] at post; exact post.elim
    | ok d S1 =>
      rw [e1] at post
      simp only [Res.bind_ok] at post
      cases d <;> first | exact post.elim | exact ⟨post, fun c S' C G' H' μ' e => by cases e⟩
  refine codeAny_mono (h.run A outer s H G μ S us vs ds Q _ hr hg he hv hl hs hrel hrep both.1 both.2) fun r s' hq => ?_
  cases r with
  | ok fl => cases fl <;> exact hq
  | error e =>
    obtain ⟨_, _, _, _, _, _, _, _, _, _, _, _, z⟩ := hq
    exact z.elim⟩
theorem fn_bodyX {x qual : Str} {st : Stmt} {fd : FuncData} {N ps : List Str} {m : MS} (Fu : FunD K x qual (defArgs st) (defBody st) (defScope st) [] [] f fd) (sc : FnScope N ps (defScope st)) (hb : Binds K fd ps [])
    (hm : ∀ (E : XK) (cdv : Value) (A : Around) (outer : List Env) (s : Shared) (H : Hp), Room k (A.deeper (envOfC qual (defScope st) s.heap.objs.size f cdv)) → A.guards = some [] → fd.code = cdv → EvSxs (cxOf (L2.CX P w) P w K mg base N qual (defScope st) f cdv A outer s H E) E (defBody st) m) :
    FnX P w K mg base (k + 1) f ps.length (runF N.length m) := by
  obtain ⟨oc, od, dV, kV, doc, pm, an, cdv, ct, osl, rfl, lk, hcd, hD, _⟩ := Fu.ex
  have hdV : dV = .none := by
    rcases hD with ⟨_, e⟩ | ⟨e, _⟩
    · exact e
    · exact absurd rfl e
  subst hdV
  refine ⟨fun A outer s H G μ S us vs ds Q E hr hg he hv hl hs hrel hrep post px => ?_⟩
  have KX : K.In s.heap := he.mod.kin.keeps fun b o e => (he.bs b o e).1
  have nl : s.heap.NoLimit := he.mod.nolimit.keeps fun b o e => (he.bs b o e).1
  have kinds : ∀ y ∈ ps.zip us, (defScope st).names.lookup y.1 = some .local ∨
      ((defScope st).names.lookup y.1 = some .cell ∧ ((cellsFrom (s.heap.objs.size + 1) (defScope st).names []).lookup y.1).isSome = true) := by
    rintro ⟨y, u⟩ hy
    cases sc.par y (List.of_mem_zip hy).1 with
    | inl q => exact .inl q
    | inr q => exact .inr ⟨q, PySem.W.cellsFrom_some _ _ _ (.inl q)⟩
  have hl' : (us ++ ([] : List Value)).length = ps.length := by rw [List.append_nil]; exact hl
  have bt := hb s us KX hl'
  rw [List.append_nil] at bt
  refine codeAny_call_function hr.depth (KX _ _ lk) rfl sc.co sc.gen rfl (PySem.W.codeRec_of KX hcd) (bt _ _ _ _ ?_)
  refine wpAny_newFunctionEnv_cells sc.kind kinds fun env eenv s1 inC => ?_
  subst eenv
  refine ⟨nl.keeps inC.toInCall.keep, codeAny_func ?_⟩
  have ev := hm E cdv A outer s H (hr.deeper _) hg rfl
  have I := inv_start (CX := L2.CX P w) (E := E) (f := f) (cd := cdv) (qual := qual) sc hr.hd he (by rw [hv.length]; exact hl) hv inC
  have rd : tSx K mg E m { nx := fun _ H' => Q .non H', rt := Q } (L2.start N vs) H := by
    refine ⟨G, μ, inits N.length ds, S, ⟨hs, hrel, inits_ok hrep⟩, ?_, fun c S' C G' H' μ' er => px c S' C G' H' μ' (by show outF (m (inits N.length ds) S) = _; rw [er] <;> rfl)⟩
    have post : PostV K mg ((m (inits N.length ds) S).bind fun fl S' => match fl with | .rt d => .ok d S' | .nx _ => .ok .non S' | _ => .bad) G H μ S.length Q := post
    cases e : m (inits N.length ds) S with
    | bad => rw [e] at post; exact post.elim
    | ok fl S1 =>
      rw [e] at post
      simp only [Res.bind_ok] at post
      cases fl with
      | nx sl => exact fun σ' G' H' μ' st rl so => post .non G' H' μ' st rl rfl
      | rt d => exact post
      | bk sl => exact post.elim
      | ct sl => exact post.elim
  refine wpAny_mono (ev.run [] s1 (L2.start N vs) H _ I rd) (fun fl s' hq => ?_) fun e s' hq => hq
  cases fl with
  | ret u =>
    obtain ⟨v, σ', H', J, rv, q⟩ := hq
    exact ⟨v, H', J.os, J.bare, J.base, J.hok, rv, q⟩
  | next =>
    obtain ⟨σ', H', J, q⟩ := hq
    exact ⟨.non, H', J.os, J.bare, J.base, J.hok, rfl, q⟩
  | brk =>
    obtain ⟨_, _, _, q⟩ := hq
    exact q.elim
  | cont =>
    obtain ⟨_, _, _, q⟩ := hq
    exact q.elim
end
section
variable {X : Cx} {E : XK} {k : Nat} {f : Addr} {np : Nat} {F : FA} {x : Str} {p pos : Pos} {e : Expr} {es : List Expr} {as : MA}
theorem eex_call (Fn : FnX X.prog X.w X.K X.mg X.base k f np F) (tk : Takes X fun cls d _ H => E cls d H) (hr : Room k X.A) (hgd : X.A.guards = some []) (hg : Gl X x) (hm : X.mg x = some (.ref f)) (hk : PySem.W.keepIn X.K (.ref f) = true) (ha : EvA X (e :: es) as)
    (hdb : (x == ("__debug__" : Str)) = false := by decide) (he : starEach (e :: es) X.env = (false, eval e X.env) :: starEach es X.env := by rfl) (hpl : (backTo pos (starEach es X.env)).any (·.1) = false := by rfl) : EvEx X E (.Call (.Name x p) (e :: es) [] pos) (mB (argN np F) as) := by
  refine ⟨fun pins s σ H Q I ⟨G, μ, sl, S, A, post, px⟩ => ?_⟩
  have rd : tA X.K X.mg as σ H fun vs H1 => ∃ (G1 : Hp) (μ1 : Nat → Addr) (S1 : Sto) (ds : List D), ds.length = np ∧ Sub G1 H1 ∧ RelS X.K X.mg μ1 S1 G1 ∧ RepVs X.K X.mg G1 μ1 S1.length ds vs ∧ PostV X.K X.mg (F S1 ds) G1 H1 μ1 S1.length Q ∧ PostE X.K X.mg (F S1 ds) G1 H1 μ1 S1.length E := by
    refine ⟨G, μ, sl, S, A, ?_⟩
    have post : PostV X.K X.mg ((as sl S).bind fun ds S1 => argN np F S1 ds) G H μ S.length Q := post
    have px : PostE X.K X.mg ((as sl S).bind fun ds S1 => argN np F S1 ds) G H μ S.length E := px
    cases e1 : as sl S with
    | bad => rw [e1] at post; exact post.elim
    | ok ds S1 =>
      rw [e1] at post px
      simp only [Res.bind_ok, argN] at post px
      by_cases hz : ds.length = np
      · rw [if_pos hz] at post px
        exact fun vs G1 H1 μ1 st rl rv => ⟨G1, μ1, S1, ds, hz, st.sub, rl, rv, PostV.step post st A.sub, px.step st A.sub⟩
      · rw [if_neg hz] at post; exact post.elim
  refine wpAny_Call_Name_kw (ld_glob I hg hm ?_ hdb)
  refine PySem.W.callWith_K (h₀ := X.base) I.ok.mod.kin hk (thn (ha.run pos pins s σ H _ I rd) fun us s1 hq => ?_) he hpl
  obtain ⟨vs, H1, I1, r, G1, μ1, S1, ds, hz, h1, h2, h3, h4, h5⟩ := hq
  refine ⟨I1.kIn, wpAny_call (codeAny_mono (Fn.run X.A X.stack s1 H1 G1 μ1 S1 us vs ds Q E hr hgd I1.env0 r (by rw [← r.length, ← h3.len]; exact hz) h1 h2 h3 h4 h5) fun res s' hq => ?_)⟩
  match res, hq with
  | .error u, hq => exact passes_call tk (E := E) (fun _ _ _ _ z => z) pins σ H1 s1 u s' I1 hq
  | .ok (.ret u), hq => exact I1.after hq
  | .ok .next, hq => exact False.elim hq
  | .ok .brk, hq => exact False.elim hq
  | .ok .cont, hq => exact False.elim hq
end
end Ev

/-! Ev: exceptions caught, lambdas -/
namespace Ev
open PySem PySem.Spec PyProof.Rows L2
section
variable {X : Cx}
/-! ### isinstance of an exception that was caught -/
def rIsX (K : PySem.W.Frag) : List V → Hp → VK → Prop := fun xs H Q => ∃ (a D : Addr) (c : V) (cv : Value) (b : Bool), xs = [.ref a, c] ∧ (∀ u, RelV c u → u = cv) ∧ H a = some (ErrO (.ref D) a) ∧ ExcC K D ∧ PySem.W.kitOne K (.ref D) cv = some b ∧ Q (.bl b) H
theorem call_isX : CallR X (.builtin "isinstance") (rIsX X.K) := by
  intro pins s σ H xs us Q I r h
  obtain ⟨a, D, c, cv, b, rfl, hc, ha, C, e, q⟩ := h
  obtain ⟨u1, u2, rfl, r1, r2⟩ := vals2 r
  cases r1
  obtain rfl := hc _ r2
  obtain ⟨⟨oe, vs, he, hz, hd⟩, _, _⟩ := I.hok a _ ha
  have J : PySem.W.InstAt s.heap a oe D none := by
    obtain ⟨oc, od, oda, osl⟩ := oe
    obtain ⟨h1, h2⟩ := hz
    dsimp only at h1 h2 hd
    subst h1 h2 hd
    exact ⟨he, rfl, rfl, trivial⟩
  exact PySem.W.kia_one (PySem.W.handS_kitx_exc C.hg C.hk C.hs C.hd C.ha C.hn C.ht C.hm) I.kIn J e (fun z => nomatch z) fun tk => ⟨.bl b, H, I.tok tk, rfl, q⟩
def isXd (tab : Str → Option Bool) (d : D) (S : Sto) : Res D := match d with
  | .err c => (match tab c with
    | some b => .ok (.bl b) S
    | none => .bad)
  | _ => .bad
@[reducible] def mIsX (tab : Str → Option Bool) (ma : ME) : ME := fun sl S => (ma sl S).bind fun d S1 => isXd tab d S1
structure IsTab (K : PySem.W.Frag) (mg : Str → Option Value) (cv : Value) (tab : Str → Option Bool) : Prop where
  get : ∀ c b D, tab c = some b → mg c = some (.ref D) → ExcC K D ∧ PySem.W.kitOne K (.ref D) cv = some b
theorem isX_post {cv : Value} {c : V} {tab : Str → Option Bool} (T : IsTab X.K X.mg cv tab) (hc : ∀ u, RelV c u → u = cv) {G H : Hp} {μ : Nat → Addr} {S : Sto} {sl : Sl} {σ : L2.St} {d : D} {v : V} {Q : VK} (A : At X.K X.mg G H μ S sl σ) (r : RepV X.K X.mg G μ S.length d v)
    (p : PostV X.K X.mg (isXd tab d S) G H μ S.length Q) : rIsX X.K [v, c] H Q := by
  cases d with
  | err x =>
    obtain ⟨a, DC, rfl, hD, ga⟩ := r
    have p : PostV X.K X.mg (match tab x with | some b => .ok (.bl b) S | none => .bad : Res D) G H μ S.length Q := p
    cases e : tab x with
    | none => rw [e] at p; exact p.elim
    | some b =>
      rw [e] at p
      obtain ⟨h1, h2⟩ := T.get x b DC e hD
      exact ⟨a, DC, c, cv, b, rfl, hc, A.sub _ _ ga, h1, h2, p.here A.sub A.rel rfl⟩
  | _ => exact p.elim
theorem ev_isiX {a : Expr} {ma : ME} {p pt pos : Pos} {tab : Str → Option Bool} {C : Addr} {x : Str} (T : IsTab X.K X.mg (.ref C) tab) (hg : Gl X "isinstance") (hm : X.mg "isinstance" = none) (hgx : Gl X x) (hmx : X.mg x = some (.ref C)) (ha : EvE X a ma) (hdb : (x == ("__debug__" : Str)) = false := by decide)
    (he : starEach [a, .Name x pt] X.env = (false, eval a X.env) :: starEach [.Name x pt] X.env := by rfl) (he2 : starEach [.Name x pt] X.env = (false, eval (.Name x pt) X.env) :: starEach [] X.env := by rfl) (hpl : (backTo pos (starEach [.Name x pt] X.env)).any (·.1) = false := by rfl) : EvE X (.Call (.Name "isinstance" p) [a, .Name x pt] [] pos) (mIsX tab ma) :=
  PE.imp (pe_callB call_isX hg hm (by decide +kernel) (pa_cons ha (pa_cons (pe_glob (v := .ref C) hgx hmx rfl hdb) pa_nil he2) he) (by decide) (by decide) he hpl) fun σ H Q ⟨G, μ, sl, S, A, post⟩ =>
    ⟨G, μ, sl, S, A, bindV A post fun d S1 v1 G1 H1 μ1 st1 A1 r1 p1 => isX_post (c := .ref C) (cv := .ref C) T (fun _ z => z) A1 r1 p1⟩
theorem ev_isiXb {a : Expr} {ma : ME} {p pt pos : Pos} {tab : Str → Option Bool} {x : Str} {t : String} (T : IsTab X.K X.mg (.type t) tab) (hg : Gl X "isinstance") (hm : X.mg "isinstance" = none) (hgx : Gl X x) (hmx : X.mg x = none) (hx : bootBuiltins x = some (.type t)) (ha : EvE X a ma) (hn : x ≠ "__name__" := by decide) (hdb : (x == ("__debug__" : Str)) = false := by decide)
    (he : starEach [a, .Name x pt] X.env = (false, eval a X.env) :: starEach [.Name x pt] X.env := by rfl) (he2 : starEach [.Name x pt] X.env = (false, eval (.Name x pt) X.env) :: starEach [] X.env := by rfl) (hpl : (backTo pos (starEach [.Name x pt] X.env)).any (·.1) = false := by rfl) : EvE X (.Call (.Name "isinstance" p) [a, .Name x pt] [] pos) (mIsX tab ma) :=
  PE.imp (pe_callB call_isX hg hm (by decide +kernel) (pa_cons ha (pa_cons (pe_bltn (v := .ty t) hgx hmx hx rfl hn hdb) pa_nil he2) he) (by decide) (by decide) he hpl) fun σ H Q ⟨G, μ, sl, S, A, post⟩ =>
    ⟨G, μ, sl, S, A, bindV A post fun d S1 v1 G1 H1 μ1 st1 A1 r1 p1 => isX_post (c := .ty t) (cv := .type t) T (fun _ z => z) A1 r1 p1⟩
end
/-! ### what an except clause has caught is kept -/
section
variable {X : Cx} {pins : List (Addr × Obj)} {σ : L2.St} {H : Hp} {s : Shared}
theorem track {a : Addr} {oe : Obj} {vs : Array Value} {cls : Value} (I : Inv X pins σ H s) (ha : s.heap.get? a = some oe) (hz : Zc cls none oe) (hd : oe.data = .fields vs) (na : H a = none) (n0 : X.s_0.heap.get? a = none) (nL : a ≠ X.env.locals) (np : ∀ p ∈ X.pn ++ pins, p.1 ≠ a) :
    Inv X pins σ (upd H a (ErrO cls a)) s := by
  have old : ∀ b o, X.s_0.heap.get? b = some o → b ≠ a := fun b o e z => by rw [z, n0] at e; cases e
  have st : ∀ {b : Addr} {o : HO}, H b = some o → upd H a (ErrO cls a) b = some o := fun {b o} e => by rw [upd_ne (ne_of_none e na)]; exact e
  refine ⟨I.ok, I.os, I.bare, ⟨I.base.keep, I.base.slot, fun b o e n hx => ?_, I.base.there, fun b xs e => st (I.base.tups b xs e), fun b o u e => st (I.base.frzs b o u e), fun b ps e => ?_⟩, I.loc, I.cell, ?_, fun x c e => ?_, fun p hp => ?_, fun b u e => ?_, I.len⟩
  · rw [upd_ne (old b o e)]; exact I.base.free b o e n hx
  · obtain ⟨more, q⟩ := I.base.tbls b ps e
    exact ⟨more, st q⟩
  · rw [upd_ne nL.symm]; exact I.free
  · obtain ⟨v, o, ho, hv⟩ := I.cell x c e
    have ne : c ≠ a := fun z => by
      rw [z, ha] at ho
      cases ho
      rw [hd] at hv
      cases hv
    rw [upd_ne ne]
    exact I.freeC x c e
  · obtain ⟨q1, q2, q3, q4, q5⟩ := I.pin p hp
    exact ⟨q1, by rw [upd_ne (np p hp)]; exact q2, q3, q4, q5⟩
  · by_cases hb : b = a
    · rw [hb, upd_same] at e
      cases e
      rw [hb]
      exact ⟨⟨oe, vs, ha, hz, hd⟩, ⟨oe, ha⟩, fun _ _ ⟨o, v, q, r⟩ k => ⟨o, v, k o q, r⟩⟩
    · rw [upd_ne hb] at e
      exact (I.hok b u e).stay (fun _ _ _ q => q) (fun c q => st q) fun c xs q => st q
end
/-- what 'except x as n: y = n' wishes: all is caught -/
def wLet (K : PySem.W.Frag) (c : Value) (i j : Nat) (D : Ends) : WX := fun cls d σ H => PySem.W.exmOne K cls c = some true ∧ d = none ∧ ∀ a, H a = none → D.nx ((σ.set j (some (.ref a))).set i none) (upd H a (ErrO cls a))
section
variable {X : Cx} {x n y : Str} {c : Value} {i j : Nat} {body : List Stmt} {np pos pos' yp np2 ap : Pos} {tb : WX → TS}
theorem ps_try_let (hs : X.stack = X.env :: X.outer) (hf : X.env.frame = some X.env.locals) (hex : X.ex = []) (hN : X.N.Nodup) (hi : X.N[i]? = some n) (hln : X.env.kindOf n = some .local) (hj : X.N[j]? = some y) (hly : X.env.kindOf y = some .local) (hij : i ≠ j) (hc : Names X x c)
    (hb : ∀ (W : WX) (pn : List (Addr × Obj)) (xe : Value → Shared → Prop), Takes (X.tr pn xe) W → PSs (X.tr pn xe) body (tb W))
    (hnd : (n == ("__debug__" : Str)) = false := by decide) (hnc : (n == ("__classdict__" : Str)) = false := by decide) (hsw : swapsWith (.Name n np2) (some (.Name y yp)) ap.line X.env = pure false := by rfl) :
    PS X (.Try body [.ExceptHandler (some (.Name x np)) (some n) [.Assign [.Name y yp] (.Name n np2) ap] pos'] [] [] pos) (fun D σ H => tb (wLet X.K c i j D) D σ H) := by
  refine ⟨fun pins s σ H D I h => ?_⟩
  have okX := I.ok
  have frX : X.A.frames = some (X.env :: X.outer) := by rw [okX.frames, hs]
  refine wpAny_Try_except ?_
  have bodyRun := (hb (wLet X.K c i j D) (X.pn ++ pins) (fun e s₁ => wpAny (model X.prog X.w) X.A (noteFrame e X.env) (fun _ s₂ => wpAny (model X.prog X.w) X.A (setFlight e none) (fun _ s₃ =>
    wpAny (model X.prog X.w) X.A (handleBy e X.env [.ExceptHandler (some (.Name x np)) (some n) [.Assign [.Name y yp] (.Name n np2) ap] pos']) (SP X pins D) X.xe s₃) X.xe s₂) X.xe s₁) (fun u s' xx => ?_)).run [] s σ H D (I.toTry _) h
  · refine wpAny_mono bodyRun (fun f s1 hsp => ?_) fun e s1 he => he
    cases f with
    | next => obtain ⟨σ1, H1, J1, q1⟩ := hsp; exact wpAny_execs_nil ⟨σ1, H1, J1.ofTry okX, q1⟩
    | brk => obtain ⟨σ1, H1, J1, q1⟩ := hsp; exact ⟨σ1, H1, J1.ofTry okX, q1⟩
    | cont => obtain ⟨σ1, H1, J1, q1⟩ := hsp; exact ⟨σ1, H1, J1.ofTry okX, q1⟩
    | ret u => obtain ⟨v1, σ1, H1, J1, r1, q1⟩ := hsp; exact ⟨v1, σ1, H1, J1.ofTry okX, r1, q1⟩
  · obtain ⟨a, B, sI, pinsI, σI, HI, cls, d, rfl, J0, nb, up, sky, na, os, ag, hcls, hdn, hfin⟩ := xx
    subst hdn
    have J : Inv X pins σI HI sI := J0.ofTry okX
    rw [show (X.tr (X.pn ++ pins) _).stack = X.env :: X.outer from hs] at sky
    show wpAny (model X.prog X.w) X.A (noteFrame (.ref a) X.env) _ _ _
    refine Sky.land Zc.steady frX hf sky fun h3 fl3 up3 => ?_
    have J3 : Inv X pins σI HI { s' with heap := h3 } := J.landed nb fl3.1 (up.trans up3) os ag
    obtain ⟨oe3, vs3, he3, hz3, hd3⟩ := fl3.there
    have offFr : a ∉ frs (X.env :: X.outer) := fun hm => by
      obtain ⟨_, o2, e2, hnf⟩ := fl3.2.2.1.mem hm
      rw [he3] at e2
      cases e2
      exact hnf _ hd3
    have nL : a ≠ X.env.locals := fun z => offFr (List.mem_filterMap.mpr ⟨X.env, List.mem_cons_self, by rw [hf, z]⟩)
    have nF : a ∉ X.fs := fun hm => by
      obtain ⟨e, he, q⟩ := List.mem_filterMap.mp hm
      exact offFr (List.mem_filterMap.mpr ⟨e, List.mem_cons_of_mem _ he, q⟩)
    have newI : sI.heap.get? a = none := by
      cases e : sI.heap.get? a with
      | none => rfl
      | some o =>
        have z := nb a o e (by rw [show (X.tr (X.pn ++ pins) _).stack = X.env :: X.outer from hs]; exact offFr)
        rw [fl3.2.1] at z
        cases z
    have new0 : X.s_0.heap.get? a = none := by
      cases e : X.s_0.heap.get? a with
      | none => rfl
      | some o =>
        obtain ⟨o', z⟩ := J.base.there a o e (by rw [hex]; exact fun z => by cases z)
        rw [newI] at z
        cases z
    have offP : ∀ p ∈ X.pn ++ pins, p.1 ≠ a := fun p hp z => by
      have q := (J.pin p hp).1
      rw [z, newI] at q
      cases q
    refine wpAny_handleBy_cons (codeAny_handlers_test ?_) (by intro q; cases q)
    have lookT : PySem.W.Looks (model X.prog X.w) h3 (typeOf (.ref a)) cls := fun A Q E s k q => wpAny_typeOf_ref (k _ _ he3) (by rw [hz3.1]; exact q)
    have lookM := PySem.W.exm_one (M := model X.prog X.w) (J3.kIn) lookT hcls
    have S3 := J3.suite he3 hd3 na nL nF
    have name : ∀ {Q : Value → Shared → Prop} {E : Value → Shared → Prop}, Q c { s' with heap := h3 } → wpAny (model X.prog X.w) (X.A.mark (some (.ref a))) (eval (.Name x np) X.env) Q E { s' with heap := h3 } := fun {Q E} q => by
      obtain ⟨hg, hdbg, hm | ⟨hm, hv, hnn⟩⟩ := hc
      · exact ld_glob (X := X.suite a ((a, oe3) :: (X.pn ++ pins))) S3 hg hm q hdbg
      · exact ld_blt (X := X.suite a ((a, oe3) :: (X.pn ++ pins))) S3 hg hm hv q hnn hdbg
    refine name (lookM.here (codeAny_handlers_suite_as ?_))
    refine HandSPX.lands_againZ fl3 fun h4 fl4 up4 => ?_
    have J4 : Inv X pins σI HI { s' with heap := h4 } := J.landed nb fl4.1 ((up.trans up3).trans up4) os ag
    obtain ⟨oe4, vs4, he4, hz4, hd4⟩ := fl4.there
    refine store_ok (X := X.suite a ((a, oe4) :: (X.pn ++ pins))) (v := .ref a) (J4.suite he4 hd4 na nL nF) hN hi (.inl hln) rfl (fun s5 S5 => ?_) (.inr hln)
    have asg : PSs (X.suite a ((a, oe4) :: (X.pn ++ pins))) [.Assign [.Name y yp] (.Name n np2) ap] _ := pss_one (ps_set (X := X.suite a ((a, oe4) :: (X.pn ++ pins))) (i := j) hN hj (.inl hly) (pe_var (i := i) hi (.inl hln) hnd hnc) hsw (.inr hly))
    have hlen : i < σI.length := by rw [J.len]; exact (List.getElem?_eq_some_iff.mp hi).1
    refine wpAny_mono (asg.run [] s5 _ HI { nx := fun σ6 H6 => σ6 = (σI.set i (some (.ref a))).set j (some (.ref a)) ∧ H6 = HI, rt := fun _ _ => False } S5 ⟨.ref a, by simp [hlen], rfl, rfl⟩) (fun f s6 hsp => ?_) (fun _ _ z => False.elim z)
    cases f with
    | next =>
      obtain ⟨σ6, H6, S6, e1, e2⟩ := hsp
      subst e1 e2
      have pin6 := (S6.pin (a, oe4) (List.mem_append.mpr (.inl List.mem_cons_self))).1
      have T6 := track (S6.unsuite okX) pin6 hz4 hd4 na new0 nL offP
      show wpAny (model X.prog X.w) X.A (do bindName X.env n .none; unbindBehindTheSuite X.env n pos') (fun _ s7 => _) X.xe s6
      refine gone_ok T6 hN hi hln fun s7 J7 => ⟨_, _, J7, ?_⟩
      rw [List.set_comm _ _ hij, List.set_set]
      exact hfin a na
    | brk => obtain ⟨_, _, _, z⟩ := hsp; exact False.elim z
    | cont => obtain ⟨_, _, _, z⟩ := hsp; exact False.elim z
    | ret u => obtain ⟨_, _, _, _, _, z⟩ := hsp; exact False.elim z
end
end Ev

/-! Ev: told(lambda: ..) -/
namespace Ev
open PySem PySem.Spec PyProof.Rows L2
open Classical in
/-- a lambda is made: the tables grow -/
theorem lam_step {K : PySem.W.Frag} {mg : Str → Option Value} {G H H1 : Hp} {μ : Nat → Addr} {S : Sto} (hs : Sub G H) (hr : RelS K mg μ S G) (hE : LamX.ExtN H H1) (hT : LamX.Tabs (lamT K) H1) : ∃ G1, Step G H μ S.length G1 H1 μ S.length ∧ RelS K mg μ S G1 := by
  let P : Addr → Prop := fun b => ∃ o, G b = some o ∧ Nt o
  let G1 : Hp := fun b => if P b then G b else if Cell H b then none else H1 b
  have eP : ∀ {b}, P b → G1 b = G b := fun h => if_pos h
  have eC : ∀ {b}, ¬ P b → Cell H b → G1 b = none := fun h h2 => (if_neg h).trans (if_pos h2)
  have eN : ∀ {b}, ¬ P b → ¬ Cell H b → G1 b = H1 b := fun h h2 => (if_neg h).trans (if_neg h2)
  have cellS : ∀ {b}, Cell H b → Cell H1 b := fun {b} h => h.elim (fun ⟨x, e⟩ => .inl ⟨x, hE b _ e (fun _ z => by cases z)⟩) fun h => h.elim (fun ⟨x, e⟩ => .inr (.inl ⟨x, hE b _ e (fun _ z => by cases z)⟩)) fun ⟨x, e⟩ => .inr (.inr ⟨x, hE b _ e (fun _ z => by cases z)⟩)
  have st : Step G H μ S.length G1 H1 μ S.length := by
    refine ⟨fun b o e => ?_, Nat.le_refl _, fun _ _ => rfl, fun i h1 h2 => absurd h2 (by omega), fun b o e _ nt => (eP ⟨o, e, nt⟩).trans e, fun b o e _ nt => hE b o e nt, fun b e hc => eC (fun ⟨o, z, _⟩ => by rw [e] at z; cases z) hc, fun b o e nt => ⟨o, hE b o e nt, nt⟩, fun b => cellS⟩
    by_cases hp : P b
    · obtain ⟨u, e2, nt⟩ := hp
      rw [eP ⟨u, e2, nt⟩, e2] at e
      cases e
      exact hE b _ (hs _ _ e2) nt
    · by_cases hc : Cell H b
      · rw [eC hp hc] at e; cases e
      · rw [eN hp hc] at e; exact e
  refine ⟨G1, st, hr.go st hs (fun i hi => ?_) fun p hp => ?_⟩
  · obtain ⟨o, e, k⟩ := hr.at hi
    exact eP ⟨o, e, fun ps z => by rcases k with ⟨_, q⟩ | ⟨_, q⟩ | ⟨_, q⟩ <;> rw [q] at z <;> cases z⟩
  · obtain ⟨ps, h1, h2, h3⟩ := hT p hp
    obtain ⟨ps0, g1, _, _⟩ := hr.tab p hp
    have nP : ¬ P p.1 := fun ⟨o, e, nt⟩ => by rw [g1] at e; exact nt ps0 (Option.some.inj e).symm
    have nC : ¬ Cell H p.1 := fun z => by
      rcases z with ⟨x, e⟩ | ⟨x, e⟩ | ⟨x, e⟩ <;> rw [hs _ _ g1] at e <;> cases e
    refine ⟨ps, (eN nP nC).trans h1, h2, fun pos cv hc => ?_⟩
    obtain ⟨c, e1, e2⟩ := h3 pos cv hc
    refine ⟨c, e1, ?_⟩
    by_cases hp : P c
    · obtain ⟨o, e, nt⟩ := hp
      have z := hE c o (hs _ _ e) nt
      rw [e2] at z
      cases z
      exact (eP ⟨_, e, nt⟩).trans e
    · by_cases hc : Cell H c
      · rcases cellS hc with ⟨x, e⟩ | ⟨x, e⟩ | ⟨x, e⟩ <;> rw [e2] at e <;> unfold LamX.CodeO at e <;> cases e
      · exact (eN hp hc).trans e2
/-- what is told of a deed's end -/
def toldD (okc : Str → Bool) (Fc : FA) (r : Res D) : Res D := r.bind fun d S1 => match d with
  | .exn c => if okc c = true then Fc S1 [.err c] else .bad
  | d => .ok (.lst [d]) S1
def TTold2 (K : PySem.W.Frag) (mg : Str → Option Value) (okc : Str → Bool) (Fc : FA) : (XK → Hp → VK → Prop) → Hp → VK → Prop := fun tl H Q => ∃ G μ S r, Sub G H ∧ RelS K mg μ S G ∧
  (∀ G2 H2 μ2, Step G H μ S.length G2 H2 μ2 S.length → RelS K mg μ2 S G2 → ∀ E Q', PostV K mg r G2 H2 μ2 S.length Q' → PostE K mg r G2 H2 μ2 S.length E → tl E H2 Q') ∧ PostV K mg (toldD okc Fc r) G H μ S.length Q
theorem ret_post {K : PySem.W.Frag} {mg : Str → Option Value} {G H : Hp} {μ : Nat → Addr} {n : Nat} {r : Res D} {De : Ends} (h : PostV K mg r G H μ n De.rt) : PostS K mg (r.bind fun d S1 => .ok (.rt d) S1) G H μ n De := by
  cases r with
  | bad => exact h.elim
  | ok d S' => exact h
section
variable {X : Cx}
theorem told_gives2 {x a y fo e q cn : Str} {sg : Scope} {g CS : Addr} {cdg : Value} {okc : Str → Bool} {Fc : FA} {st1 st2 st4 : Stmt} {m4 : MS} {p1 p2 p3 p4 p5 p6 p7 p8 p9 p10 p11 : Pos}
    (hN : [a, y, fo, e].Nodup) (hge : sg.names.lookup cn = some .globalImplicit) (hme : X.mg cn = some (.ref CS)) (hle : sg.names.lookup e = some .local) (hly : sg.names.lookup y = some .local) (hlf : sg.names.lookup fo = some .local)
    (h1 : ∀ s H, EvS (cxOf C8.CX0 X.prog X.w X.K X.mg X.base [a, y, fo, e] x sg g cdg X.A X.stack s H C8.E0).nox st1 (mSet 1 (mC .non))) (h2 : ∀ s H, EvS (cxOf C8.CX0 X.prog X.w X.K X.mg X.base [a, y, fo, e] x sg g cdg X.A X.stack s H C8.E0).nox st2 (mSet 2 (mLst mNil)))
    (h4 : ∀ s H, EvS (cxOf C8.CX0 X.prog X.w X.K X.mg X.base [a, y, fo, e] x sg g cdg X.A X.stack s H C8.E0).nox st4 m4)
    (q1 : ∀ f d S, m4 [some (.adr f), some .non, some d, none] S = .ok (.rt d) S) (q2 : ∀ c S, m4 [none, some (.err c), none, none] S = (Fc S [.err c]).bind fun d S1 => .ok (.rt d) S1)
    (hok : ∀ c C, okc c = true → X.mg c = some (.ref C) → PySem.W.exmOne X.K (.ref C) (.ref CS) = some true)
    (hdb : (cn == ("__debug__" : Str)) = false := by decide) (hnd : (e == ("__debug__" : Str)) = false := by decide) (hnc : (e == ("__classdict__" : Str)) = false := by decide) :
    LamX.GivesTo X [a, y, fo, e] x sg g cdg [st1, st2, .Try [.Assign [.Name fo p1] (.List [.Call (.Name a p2) [] [] p3] p4) p5] [.ExceptHandler (some (.Name cn p6)) (some e) [.Assign [.Name y p7] (.Name e p8) p9] p10] [] [] p11, st4] a q (TTold2 X.K X.mg okc Fc) := by
  intro f c' s H Q tl act hc h
  obtain ⟨G, μ, S, r, hs, hrel, hdeed, post⟩ := h
  have tryP := ps_try_let (X := (cxOf C8.CX0 X.prog X.w X.K X.mg X.base [a, y, fo, e] x sg g cdg X.A X.stack s H C8.E0).nox) (x := cn) (n := e) (y := y) (c := .ref CS) (i := 3) (j := 1) (np := p6) (pos := p11) (pos' := p10) (yp := p7) (np2 := p8) (ap := p9)
    (body := [.Assign [.Name fo p1] (.List [.Call (.Name a p2) [] [] p3] p4) p5])
    (tb := fun W D σ H => ∃ Ech : XK, (∀ cls d (σ' : L2.St) H', Ech cls d H' → σ'.length = 4 → W cls d σ' H') ∧ σ[0]? = some (some (.ref f)) ∧ H c' = some (LamX.CodeO c' q) ∧ tl Ech H (fun v H1 => ([v] : List V).length ≤ sizeLine ∧ ∀ p, H1 p = none → D.nx (σ.set 2 (some (.ref p))) (upd H1 p (.lst [v]))))
    rfl rfl rfl hN rfl hle rfl hly (by decide) ⟨hge, hdb, .inl hme⟩ (fun W pn xe tk => by
      refine ⟨fun pins s' σ H' D I h' => ?_⟩
      obtain ⟨Ech, hW, z1, z2, z3⟩ := h'
      have hp := act (fun cls d σ H => σ.length = 4 → W cls d σ H) pn xe Ech p2 p3 (fun u s' xx => by
        obtain ⟨b1, b2, b3, b4, b5, b6, b7, b8, b9, J, b10, b11, b12, b13, b14, b15, w⟩ := xx
        exact tk u s' ⟨b1, b2, b3, b4, b5, b6, b7, b8, b9, J, b10, b11, b12, b13, b14, b15, w J.len⟩) (fun cls d σ' H' z zl => hW cls d σ' H' z zl)
      have hq := pss_one (ps_set (X := (cxOf C8.CX0 X.prog X.w X.K X.mg X.base [a, y, fo, e] x sg g cdg X.A X.stack s H C8.E0).tr pn xe) (x := fo) (pos' := p1) (pos := p5) (i := 2) hN rfl (.inl hlf) (pe_lst (pos := p4) (pa_cons hp pa_nil)) (by rfl) (.inr hlf))
      exact hq.run pins s' σ H' D I ⟨z1, z2, z3⟩) hnd hnc (by rfl)
  refine ⟨_, pss_cons (h1 s H) (pss_cons (h2 s H) (pss_cons tryP (pss_one (h4 s H)))), ?_⟩
  refine ⟨G, μ, [some (.adr f), none, none, none], S, ⟨hs, hrel, inits_ok (N := [a, y, fo, e]) (ds := [.adr f]) (vs := [.ref f]) ⟨_, _, rfl, rfl, rfl⟩⟩, ?_⟩
  intro σ1 G1 H1 μ1 st1 rl1 so1
  refine ⟨G1, μ1, _, S, ⟨st1.sub, rl1, so1⟩, ?_⟩
  intro σ2 G2 H2 μ2 st2 rl2 so2
  have st12 : Step G H μ S.length G2 H2 μ2 S.length := st1.trans st2 hs
  obtain ⟨vf, ef, rf⟩ := so2.2 0 (.adr f) rfl
  obtain rfl : vf = .ref f := rf
  have hc2 : H2 c' = some (LamX.CodeO c' q) := st12.hk c' _ hc (fun i hi z => by
    obtain ⟨o, eo, ko⟩ := hrel.at hi
    have z2 := hs _ _ eo
    rw [z, hc] at z2
    cases z2
    rcases ko with ⟨_, k⟩ | ⟨_, k⟩ | ⟨_, k⟩ <;> unfold LamX.CodeO at k <;> cases k) LamX.codeO_ne
  refine ⟨fun cls dd H' => ∃ c C S1 G' μ', r = .ok (.exn c) S1 ∧ cls = .ref C ∧ dd = none ∧ X.mg c = some (.ref C) ∧ Step G H μ S.length G' H' μ' S1.length ∧ RelS X.K X.mg μ' S1 G', ?_, ef, hc2, ?_⟩
  · rintro cls dd σ' H' ⟨c, C, S1, G', μ', er, rfl, rfl, hC, st', rl'⟩ hl
    rw [er] at post
    have post : PostV X.K X.mg (if okc c = true then Fc S1 [.err c] else .bad) G H μ S.length Q := post
    by_cases hk : okc c = true
    · rw [if_pos hk] at post
      refine ⟨hok c C hk hC, rfl, fun b hb => ?_⟩
      have stl : Step G' H' μ' S1.length (upd G' b (ErrO (.ref C) b)) (upd H' b (ErrO (.ref C) b)) μ' S1.length := Step.laid st'.sub hb
      have rl4 := rl'.laid (o := ErrO (.ref C) b) st'.sub hb
      refine ⟨upd G' b (ErrO (.ref C) b), μ', [none, some (.err c), none, none], S1, ⟨stl.sub, rl4, by simp [hl], fun i d e => ?_⟩, ?_⟩
      · match i, e with
        | 1, e =>
          have e : some (some (Ev.D.err c)) = some (some d) := e
          cases e
          exact ⟨.ref b, by rw [List.getElem?_set_ne (by decide), List.getElem?_set_self (by rw [hl]; decide)], b, C, rfl, hC, upd_same⟩
        | 0, e => cases e
        | 2, e => cases e
        | 3, e => cases e
        | n + 4, e => cases e
      · rw [q2]
        exact ret_post (PostV.step (PostV.step post st' hs) stl st'.sub)
    · rw [if_neg hk] at post; exact post.elim
  · refine hdeed G2 H2 μ2 st12 rl2 _ _ ?_ ?_
    · cases r with
      | bad => exact (show False from post).elim
      | ok d S1 =>
        have main : (∀ c, d ≠ .exn c) → PostV X.K X.mg (.ok (.lst [d]) S1) G H μ S.length Q := fun hd => by
          cases d <;> first | exact post | exact absurd rfl (hd _)
        intro v G3 H3 μ3 st3 rl3 rv
        have post := main fun c z => by subst z; exact rv
        refine ⟨by rw [sizeLine_eq]; simp, fun p hp => ?_⟩
        have stl : Step G3 H3 μ3 S1.length (upd G3 p (.lst [v])) (upd H3 p (.lst [v])) μ3 S1.length := Step.laid st3.sub hp
        have rl4 := rl3.laid (o := .lst [v]) st3.sub hp
        have rep : RepV X.K X.mg (upd G3 p (.lst [v])) μ3 S1.length (.lst [d]) (.ref p) := ⟨p, [v], rfl, upd_same, noImgN st3.sub rl3 hp, v, [], rfl, rv.go stl st3.sub rl3, rfl⟩
        refine ⟨upd G3 p (.lst [v]), μ3, [some (.adr f), some .non, some (.lst [d]), none], S1, ⟨stl.sub, rl4, ((so2.go st3 st2.sub rl2).go stl st3.sub rl3).set 2 rep⟩, ?_⟩
        rw [q1]
        exact fun v' G' H' μ' st' rl' rv' => post v' G' H' μ' (((st12.trans st3 hs).trans stl hs).trans st' hs) rl' rv'
    · exact fun c S' C G' H' μ' er hC st' rl' => ⟨c, C, S', G', μ', er, rfl, rfl, hC, st12.trans st' hs, rl'⟩
/-- the lambda's own call, where no repr is under way -/
theorem act2 {pins : List (Addr × Obj)} {σ : L2.St} {H : Hp} {s : Shared} {Ng : List Str} {qg nm : Str} {sg scope : Scope} {g f c' : Addr} {cdg pm ctv : Value} {params : Arguments} {body : Expr} {k : Nat} {a : Str} {pn : List (Addr × Obj)} {xe : Value → Shared → Prop} {W : WX} {E : XK} {tb : TE} {p1 p2 : Pos}
    (I : Inv X pins σ H s) (L : LamX.LamS X.env.scope scope) (enm : nm = X.env.qual ++ "<lambda>") (hf : s.heap.get? f = some (PySem.W.kla_obj "<lambda>" nm params body scope (cloFrom X.env.cells scope.names []) pm c' ctv)) (hfn : H f = none) (hfr : f ∉ frs X.stack)
    (hbind : bindArgs (PySem.W.kla_fn "<lambda>" nm params body scope (cloFrom X.env.cells scope.names []) pm (.ref c') ctv) ⟨[], []⟩ = pure [])
    (tk : Takes ((cxOf C8.CX0 X.prog X.w X.K X.mg X.base Ng qg sg g cdg X.A X.stack s H C8.E0).tr pn xe) W) (hW : ∀ cls d σ' H', E cls d H' → W cls d σ' H') (hr : Room (k + 1) (X.A.deeper (envOfC qg sg s.heap.objs.size g cdg))) (hgd : X.A.guards = some [])
    (hbody : ∀ (A : Around) (outer : List Env) (s : Shared) (H : Hp), Room k (A.deeper (LamX.lamEnv X scope s.heap.objs.size f c')) → A.guards = some [] → PE (LamX.lamCx X A outer s H E scope f c') body tb)
    (hN : Ng[0]? = some a) (hv : Vis sg a) (hd : (a == ("__debug__" : Str)) = false) (hcd : (a == ("__classdict__" : Str)) = false) :
    PE ((cxOf C8.CX0 X.prog X.w X.K X.mg X.base Ng qg sg g cdg X.A X.stack s H C8.E0).tr pn xe) (.Call (.Name a p1) [] [] p2) (fun σZ HZ Q => σZ[0]? = some (some (.ref f)) ∧ HZ c' = some (LamX.CodeO c' nm) ∧ tb σ HZ Q) := by
  subst enm
  refine ⟨fun pinsZ sZ σZ HZ Q IZ ⟨slot, hcode, want⟩ => wpAny_Call_Name_kw ?_⟩
  have rd := (pe_var (X := (cxOf C8.CX0 X.prog X.w X.K X.mg X.base Ng qg sg g cdg X.A X.stack s H C8.E0).tr pn xe) (pos := p1) (i := 0) hN hv hd hcd).run pinsZ sZ σZ HZ (fun v H1 => v = .ref f ∧ H1 = HZ) IZ ⟨.ref f, slot, rfl, rfl⟩
  refine thn rd fun u s1 ⟨v, H1, I1, rv, ev, eH⟩ => ?_
  subst ev
  subst eH
  obtain rfl : u = Value.ref f := rv
  have ob := I1.base.keep f _ hf hfn hfr (fun z => nomatch (show f ∈ ([] : List Addr) from z))
  obtain ⟨⟨oc, vs, t, hoc, hdc, hvc⟩, _, _⟩ := I1.hok c' _ hcode
  have ends : codeAny (model X.prog X.w) (X.A.deeper (envOfC qg sg s.heap.objs.size g cdg)) (.call (.ref f) ⟨[], []⟩) (CR (L2.CX X.prog X.w) (envOfC qg sg s.heap.objs.size g cdg :: X.stack) X.prog X.w H1 s1 Q E) s1 := by
    refine PySem.W.kla_callFunE hr.depth ob rfl L.co L.gen rfl ⟨c', oc, vs, t, rfl, hoc, hdc, hvc⟩ ?_
    rw [hbind]
    refine wpAny_pure (wpAny_newFunctionEnv (fun y hy => (L.own y hy).2) (fun y hy => absurd hy (by simp)) (fun h₁ hns hsb => ⟨I1.nolimit.fresh _ hsb, ?_⟩) L.kind)
    have same : ∀ b o, s1.heap.get? b = some o → h₁.get? b = some o := fun b o eb => hsb.extBut b o (Nat.ne_of_lt (Heap.lt_size eb)) (Heap.get?_push_of_some _ eb)
    have J : Inv (LamX.lamCx X (X.A.deeper (envOfC qg sg s.heap.objs.size g cdg)) (envOfC qg sg s.heap.objs.size g cdg :: X.stack) s1 H1 E scope f c') [] σ H1 { s1 with heap := h₁, toks := s1.toks + ([] : List (Str × Value)).length } :=
      LamX.lam_start2 I L I1.env0 hr.hd (show Un (frs X.stack) [] H H1 s.heap s1.heap from I1.base) hns same
    have go := (hbody (X.A.deeper (envOfC qg sg s.heap.objs.size g cdg)) (envOfC qg sg s.heap.objs.size g cdg :: X.stack) s1 H1 (hr.deeper _) hgd).run [] _ _ H1 Q J want
    refine PySem.W.kla_codeExpr (wpAny_mono go (fun v s' hq => ?_) fun e s' hq => hq)
    obtain ⟨w', H', J', rw_, q⟩ := hq
    exact ⟨w', H', J'.os, J'.bare, J'.base, J'.hok, rw_, q⟩
  refine PySem.W.callWith_F0 ⟨_, _, _, _, ob⟩ (wpAny_call (codeAny_mono ends fun r s' hq => ?_))
  match r, hq with
  | .error e, hq => exact passes_call tk hW pinsZ σZ H1 s1 e s' I1 hq
  | .ok (.ret u), hq => exact I1.after hq
  | .ok .next, hq => exact False.elim hq
  | .ok .brk, hq => exact False.elim hq
  | .ok .cont, hq => exact False.elim hq
/-- told(lambda: body) -/
@[reducible] def mTold (okc : Str → Bool) (Fc : FA) (me : ME) : ME := fun sl S => toldD okc Fc (me sl S)
theorem code_of {K : PySem.W.Frag} {x qual : Str} {pa : Arguments} {bo : List Stmt} {sc : Scope} {f : Addr} {fd : FuncData} (Fu : FunD K x qual pa bo sc [] [] f fd) (hf : f = He.fAd K (x, none)) : fd.code = .ref (He.codeOf K (x, none)) := by
  obtain ⟨oc, od, dV, kV, doc, pm, an, cdv, ct, osl, rfl, lk, hcd, _⟩ := Fu.ex
  obtain ⟨c, rfl⟩ := He.codeIn_ref hcd
  rw [He.codeOf_eq (p := (x, none)) (by rw [← hf]; exact lk) rfl] <;> rfl
theorem ev_told {x a me_ : Str} {g : Addr} {k : Nat} {Ng : List Str} {sg : Scope} {pg : Arguments} {bg : List Stmt} {okc : Str → Bool} {Fc : FA} {me : ME} {params : Arguments} {body : Expr} {scope : Scope} {p lpos pos : Pos} (Fu0 : ∃ fd, FunD X.K x x pg bg sg [] [] g fd)
    (hg : Gl X x) (hm : X.mg x = some (.ref g)) (hb0 : ∀ fd, FunD X.K x x pg bg sg [] [] g fd → L2.Binds X.K fd [a] []) (Sg : FnScope Ng [a] sg) (hNg : Ng[0]? = some a) (hva : Vis sg a)
    (hG : ∀ cdv, LamX.GivesTo X Ng x sg g cdv bg a (me_ ++ ".<locals>." ++ "<lambda>") (TTold2 X.K X.mg okc Fc))
    (hq : X.env.qual = me_ ++ ".<locals>.") (hcode : X.env.code = .ref (He.codeOf X.K (me_, none))) (hin : me_ ∈ lamNm) (TB : ∀ p ∈ lamC X.K, LamX.TabB X.base X.mg p.1 p.2)
    (hu : ∀ p ∈ lamT X.K, p.1 = He.tabOf X.K (He.codeOf X.K (me_, none)) → p.2 = me_ ++ ".<locals>." ++ "<lambda>") (hr : Room (k + 2) X.A) (L : LamX.LamS X.env.scope scope) (hdef : defaultsOf params X.env = ([], []))
    (hgd : X.A.guards = some []) (hbind : ∀ (q : Str) (cl : List (Str × Addr)) (pm cv ctv : Value), bindArgs (PySem.W.kla_fn "<lambda>" q params body scope cl pm cv ctv) ⟨[], []⟩ = pure [])
    (hbody : ∀ (A : Around) (outer : List Env) (s : Shared) (H : Hp) (E : XK) (f c' : Addr), Room k (A.deeper (LamX.lamEnv X scope s.heap.objs.size f c')) → A.guards = some [] → EvEx (LamX.lamCx X A outer s H E scope f c') E body me)
    (hdb : (x == ("__debug__" : Str)) = false := by decide) (hd : (a == ("__debug__" : Str)) = false := by decide) (hcd : (a == ("__classdict__" : Str)) = false := by decide) : EvE X (.Call (.Name x p) [.Lambda params body scope lpos] [] pos) (mTold okc Fc me) := by
  obtain ⟨fd, Fu⟩ := Fu0
  have hb := hb0 fd Fu
  obtain ⟨oc, od, dV, kV, doc, pm, an, cdv, ct, osl, rfl, lk, hcg, _⟩ := Fu.ex
  have TBx := TB (He.cT X.K (me_, none)) (List.mem_map.mpr ⟨me_, hin, rfl⟩)
  have mT : (He.tabOf X.K (He.codeOf X.K (me_, none)), X.env.qual ++ "<lambda>") ∈ lamT X.K := by
    rw [hq]
    exact List.mem_map.mpr ⟨me_, hin, rfl⟩
  refine ⟨fun pins s σ H Q I ⟨G, μ, sl, S, A, post⟩ => wpAny_Call_Name_kw (ld_glob I hg hm ?_ hdb)⟩
  refine PySem.W.callWith_K (h₀ := X.base) I.ok.mod.kin Fu.kp ?_ (by rfl) (by rfl)
  show wpAny _ _ (spliced ((false, eval (.Lambda params body scope lpos) X.env) :: backTo pos (starEach [] X.env))) _ _ s
  have tabsH : LamX.Tabs (lamT X.K) H := A.rel.tab.ext A.sub
  refine Calls.spliced_cons (LamX.lam_make2 I TBx hcode mT (fun p hp e => by rw [hq]; exact hu p hp e) tabsH hdef (L.has I.ok) fun f c' pm' ctv H1 s' I1 eN T1 hf hfn hfr hco => Calls.spliced_nil ⟨I1.kIn, ?_⟩)
  obtain ⟨G1, st1, rl1⟩ := lam_step A.sub A.rel eN T1
  have run : codeAny (model X.prog X.w) X.A (.call (.ref g) ⟨[.ref f], []⟩) (CR C8.CX0 X.stack X.prog X.w H1 s' Q C8.E0) s' := by
    refine LamX.run_ofS (N := Ng) (ps := [a]) (us := [.ref f]) (vs := [.ref f]) lk hcg Sg hr I1.env0 (hb s' [.ref f] I1.kIn rfl) (.cons rfl .nil) rfl fun hr' => ?_
    obtain ⟨t', ht', hq'⟩ := hG cdv f c' s' H1 Q (fun E H' Q' => tEx X.K X.mg E me σ H' Q') (fun W pn xe E p1 p2 tk hW => by
      rw [← hq]
      exact act2 I1 L rfl hf hfn hfr (hbind _ _ _ _ _) tk hW hr' hgd (fun A outer s H hr2 hg2 => hbody A outer s H E f c' hr2 hg2) hNg hva hd hcd) (by rw [← hq]; exact hco)
      ⟨G1, μ, S, me sl S, st1.sub, rl1, fun G2 H2 μ2 st rl E Q' pv pe => ⟨G2, μ2, sl, S, (A.go st1 rl1).go st rl, pv, pe⟩, PostV.step post st1 A.sub⟩
    exact ⟨t', ht'.nox, hq'⟩
  refine wpAny_call (codeAny_mono run fun r s2 hq => ?_)
  match r, hq with
  | .error _, hq => exact False.elim hq
  | .ok (.ret u), hq => exact I1.after hq
  | .ok .next, hq => exact False.elim hq
  | .ok .brk, hq => exact False.elim hq
  | .ok .cont, hq => exact False.elim hq
end
end Ev

/-! Ev: texts times numbers; the head, with tables of code objects -/
namespace Ev
open PySem PySem.Spec PyProof.Rows L2
section
variable {X : Cx} {K : PySem.W.Frag} {mg : Str → Option Value}
def rMulS : R2 := fun x y H Q => ∃ z k, x = .str z ∧ y = .int k ∧ MulOk z k ∧ Q (.str (Txt.mul z k)) H
theorem op_mulS : OpR X (binaryOp .Mult) rMulS := by
  intro pins s σ H x y v u Q I rx ry h
  obtain ⟨z, k, rfl, rfl, ok, q⟩ := h
  obtain ⟨t, rfl⟩ := rx
  obtain ⟨t2, rfl⟩ := ry
  exact PySem.SB.mul ok fun t' n => ⟨.str (Txt.mul z k), H, I.tok n, ⟨t', rfl⟩, q⟩
def mulSok (z : Str) (k : Int) : Bool := decide (-(4611686018427387904 : Int) ≤ k) && (decide (k ≤ 16777216) && decide (z.length * k.toNat ≤ 16777216))
theorem mulSok_ok {z : Str} {k : Int} (h : mulSok z k = true) : MulOk z k := by
  unfold mulSok at h
  rw [Bool.and_eq_true, Bool.and_eq_true] at h
  have h1 := of_decide_eq_true h.1
  have h2 := of_decide_eq_true h.2.1
  have h3 := of_decide_eq_true h.2.2
  refine ⟨?_, fun hk hz => ?_, fun hk hz => ?_⟩
  · simp only [Bool.or_eq_false_iff, decide_eq_false_iff_not]
    omega
  · have e : k = (k.toNat : Int) := by omega
    have hd : ((z.length * k.toNat : Nat) : Int) ≤ 2 ^ 63 - 1 := by omega
    have : (z.length : Int) ≤ (2 ^ 63 - 1) / k := by
      rw [Int.le_ediv_iff_mul_le (by omega), e]
      have e2 : ((z.length * k.toNat : Nat) : Int) = (z.length : Int) * (k.toNat : Int) := by simp
      rw [← e2]; exact hd
    omega
  · unfold Builtin.Str.tooLong
    have := lim_ok h3
    simp only [decide_eq_false_iff_not]
    omega
def fMulX (al : Bool) : F2 := fun S a b => match a with
  | .str z => (match b with
    | .int k => if mulSok z k = true then .ok (.str (Txt.mul z k)) S else .bad
    | _ => .bad)
  | a => fMulA al S a b
theorem op_mulX : OpR X (binaryOp .Mult) (fun x y H Q => rMulS x y H Q ∨ (fun x y H Q => rI CMul (fun i j => .int (i * j)) x y H Q ∨ (fun x y H Q => rMulTP X.K x y H Q ∨ rRep x y H Q) x y H Q) x y H Q) := op_mulS.or op_mulA
theorem os_mulX {al : Bool} : OpS K mg (fun x y H Q => rMulS x y H Q ∨ (fun x y H Q => rI CMul (fun i j => .int (i * j)) x y H Q ∨ (fun x y H Q => rMulTP K x y H Q ∨ rRep x y H Q) x y H Q) x y H Q) (fMulX al) := fun G H μ S d1 d2 v1 v2 Q a r r1 r2 p => by
  cases d1 with
  | str z =>
    cases d2 with
    | int k =>
      have p : PostV K mg (if mulSok z k = true then .ok (.str (Txt.mul z k)) S else .bad) G H μ S.length Q := p
      by_cases hz : mulSok z k = true
      · rw [if_pos hz] at p
        exact .inl ⟨z, k, r1, r2, mulSok_ok hz, p.here a r rfl⟩
      · rw [if_neg hz] at p; exact p.elim
    | _ => exact p.elim
  | _ => exact .inr (os_mulA (al := al) G H μ S _ d2 v1 v2 Q a r r1 r2 p)
end
/-! ### classes of exceptions -/
def excB (K : PySem.W.Frag) (x : Str) : Bool := He.eqO (PySem.W.findIn K (.ref (He.ga K x)) "__getattribute__") (some (some (.builtin "BaseException.__getattribute__"))) && (He.eqO (PySem.W.findIn K (.ref (He.ga K x)) "__getattr__") (some none) && (decide (PySem.W.subIn K (.ref (He.ga K x)) (.type "BaseException") = some true) && (PySem.W.hasDictIn K (He.ga K x) &&
  (He.eqO (PySem.W.findIn K (.ref (He.ga K x)) "__class__") (some (some (.builtin "object.__class__"))) && (He.eqO (PySem.W.specialIn K (.builtin "object.__class__") "__get__") (some (some (.builtin "getset_descriptor.__get__"))) && (decide (PySem.W.takesIn K (.builtin "object.__class__") = some true) && decide (PySem.W.mroIn K (He.ga K x) (.type "object") = some true)))))))
theorem excB_ok {K : PySem.W.Frag} {x : Str} (h : excB K x = true) : ExcC K (He.ga K x) := by
  obtain ⟨h1, h⟩ := He.ba h
  obtain ⟨h2, h⟩ := He.ba h
  obtain ⟨h3, h⟩ := He.ba h
  obtain ⟨h4, h⟩ := He.ba h
  obtain ⟨h5, h⟩ := He.ba h
  obtain ⟨h6, h⟩ := He.ba h
  obtain ⟨h7, h8⟩ := He.ba h
  exact ⟨He.eqO_ok h1, He.eqO_ok h2, of_decide_eq_true h3, h4, He.eqO_ok h5, He.eqO_ok h6, of_decide_eq_true h7, of_decide_eq_true h8⟩
def isTabB (K : PySem.W.Frag) (cv : Value) (l : List (Str × Bool)) : Bool := l.all fun p => excB K p.1 && decide (PySem.W.kitOne K (.ref (He.ga K p.1)) cv = some p.2)
def tabL (l : List (Str × Bool)) : Str → Option Bool := fun c => l.lookup c
theorem mem_of_lookup' {γ : Type} {c : Str} {b : γ} : ∀ {l : List (Str × γ)}, l.lookup c = some b → (c, b) ∈ l := fun h => PySem.mem_of_lookup h
theorem isTab_ok {K : PySem.W.Frag} {mg : Str → Option Value} {cv : Value} {l : List (Str × Bool)} (hm : ∀ p ∈ l, mg p.1 = some (.ref (He.ga K p.1))) (h : isTabB K cv l = true) : IsTab K mg cv (tabL l) := ⟨fun c b D e eD => by
  have m : (c, b) ∈ l := PySem.mem_of_lookup e
  obtain ⟨h1, h2⟩ := He.ba (List.all_eq_true.mp h (c, b) m)
  have e2 := hm (c, b) m
  rw [eD] at e2
  cases e2
  exact ⟨excB_ok h1, of_decide_eq_true h2⟩⟩
theorem exAt {l : List Bool} (h : l.all id = true) (i : Nat) {b : Bool} (e : l[i]? = some b) : b = true := List.all_eq_true.mp h b (List.mem_of_getElem? e)
/-- the tables are the defs' own -/
def lamU (K : PySem.W.Frag) : Bool := (lamT K).all fun p => (lamT K).all fun r => !decide (p.1 = r.1) || decide (p.2 = r.2)
theorem lamU_ok {K : PySem.W.Frag} (h : lamU K = true) {x : Str} (hx : x ∈ lamNm) : ∀ p ∈ lamT K, p.1 = He.tabOf K (He.codeOf K (x, none)) → p.2 = x ++ ".<locals>." ++ "<lambda>" := fun p hp e => by
  have hr : (He.tabOf K (He.codeOf K (x, none)), x ++ ".<locals>." ++ "<lambda>") ∈ lamT K := List.mem_map.mpr ⟨x, hx, rfl⟩
  have z := List.all_eq_true.mp (List.all_eq_true.mp h p hp) _ hr
  rw [Bool.or_eq_true, Bool.not_eq_true', decide_eq_false_iff_not, decide_eq_true_eq] at z
  exact z.elim (fun n => absurd e n) id
/-! ### the head -/
def lamD : List He.Defn := lamNm.map fun x => (x, none)
def obsDT (n : Nat) (fa : List He.Fa) (fn : List He.DefD) (ex : PySem.W.Frag → Bool) (g : Addr → Option Obj) : AlE := (He.obsD fa fn (He.frT g (He.asD g n)), ex (He.frT g (He.asD g n)) && He.tabsB g lamD (He.frT g (He.asD g n)))
theorem lamOk_of {n : Nat} {h : Heap} (e : He.tabsB h.get? lamD (He.frT h.get? (He.asD h.get? n)) = true) : LamOk (He.frT h.get? (He.asD h.get? n)) h := by
  have key : ∀ x ∈ lamNm, PySem.W.codeHdIn (He.frT h.get? (He.asD h.get? n)) (He.cT (He.frT h.get? (He.asD h.get? n)) (x, none)).1 (He.cT (He.frT h.get? (He.asD h.get? n)) (x, none)).2 = true ∧ ∃ o, h.get? (He.cT (He.frT h.get? (He.asD h.get? n)) (x, none)).2 = some o ∧ He.emptyTab o = true := fun x hx => by
    obtain ⟨h3, h4⟩ := He.ba (List.all_eq_true.mp e (x, none) (List.mem_map.mpr ⟨x, hx, rfl⟩))
    refine ⟨h3, ?_⟩
    cases q : h.get? (He.cT (He.frT h.get? (He.asD h.get? n)) (x, none)).2 with
    | none => rw [q] at h4; cases h4
    | some o => rw [q] at h4; exact ⟨o, rfl, h4⟩
  refine ⟨fun p hp => ?_, fun p hp => ?_, fun p hp => ?_⟩ <;> obtain ⟨x, hx, rfl⟩ := List.mem_map.mp hp <;> obtain ⟨k1, o, k2, k3⟩ := key x hx
  · exact k1
  · exact He.frT_none k2 k3
  · rw [k2, He.emptyTab_eq k3]
def hookDT (n : Nat) (fa : List He.Fa) (fn : List He.DefD) (ex : PySem.W.Frag → Bool) : PySem.W.Hook where
  α := AlE
  obs := fun s => obsDT n fa fn ex s.heap.get?
  val := fun _ => (He.valD fn, true)
  says := fun _ h => ∃ K : PySem.W.Frag, K.In h ∧ (He.SaysD fa fn K ∧ ex K = true ∧ LamOk K h)
  of := fun _ h e => ⟨_, He.frT_in, congrArg (fun z : AlE => z.1) e, (He.ba (congrArg (fun z : AlE => z.2) e)).1, lamOk_of (He.ba (congrArg (fun z : AlE => z.2) e)).2⟩
  keeps := fun _ _ _ ⟨K, hK, c1, c2, c3⟩ k => ⟨K, PySem.W.Frag.In.keeps hK k, c1, c2, ⟨c3.hd, c3.out, fun p hp => k _ _ (c3.empty p hp)⟩⟩
theorem obsDT_eq {n : Nat} {fa : List He.Fa} {fn : List He.DefD} {ex : PySem.W.Frag → Bool} {g : Addr → Option Obj} {s : Shared} (h : ∀ a, g a = s.heap.get? a) : obsDT n fa fn ex g = (hookDT n fa fn ex).obs s := by
  have e : g = s.heap.get? := funext h
  rw [e] <;> rfl
end Ev
namespace Ev
open PySem PySem.Spec PyProof.Rows L2
/-- the classes that are caught -/
def okL (l : List Str) : Str → Bool := fun c => decide (c ∈ l)
theorem okL_ok {K : PySem.W.Frag} {mg : Str → Option Value} {CS : Addr} {l : List Str} (h : ∀ x ∈ l, mg x = some (.ref (He.ga K x)) ∧ PySem.W.exmOne K (.ref (He.ga K x)) (.ref CS) = some true) : ∀ c C, okL l c = true → mg c = some (.ref C) → PySem.W.exmOne K (.ref C) (.ref CS) = some true := fun c C hk hC => by
  obtain ⟨h1, h2⟩ := h c (of_decide_eq_true hk)
  rw [hC] at h1
  cases h1
  exact h2
end Ev

/-! Ev: a tuple times a truth -/
namespace Ev
open PySem PySem.Spec PyProof.Rows L2
theorem idx_bool : typeLookup (.type "bool") (Str.ofString "__index__") = pure (some (.builtin "int.__index__")) := by rw [typeLookup_type, builtinLookup_eq_fast]; kernel_rfl
theorem tmul_yes (l : Addr) (items : Array Value) (n : Nat) (dd : Option Addr) (sl : Array (Option Value)) :
    Meets (Builtin.«tuple.__mul__» ⟨[.ref l, .bool true], []⟩) (fun _ R s => s.heap.get? l = some { cls := .type "tuple", dict := dd, data := .seq items n, slots := sl } ∧ R (.ok (.ret (Value.ref l))) s) :=
  .of_wp fun prog w A R s h => by
    obtain ⟨hp, g, d, tk, os⟩ := s
    obtain ⟨hl, h⟩ := h
    have f1 := idx_bool
    have e : (items.isEmpty || (1 : Int) == 1) = true := by rw [Bool.or_eq_true]; exact .inr rfl
    wp_walk using wpAny_loadPart' hl
    exact ⟨_, rfl, h⟩
theorem tmul_no (l : Addr) (items : Array Value) (n : Nat) (dd : Option Addr) (sl : Array (Option Value)) (hne : items.isEmpty = false) :
    Meets (Builtin.«tuple.__mul__» ⟨[.ref l, .bool false], []⟩) (fun _ R s => s.heap.get? l = some { cls := .type "tuple", dict := dd, data := .seq items n, slots := sl } ∧
      R (.ok (.ret (Value.ref s.heap.objs.size))) { s with heap := s.heap.push { cls := Value.type "tuple", data := Data.seq #[] }, toks := s.toks }) :=
  .of_wp fun prog w A R s h => by
    obtain ⟨hp, g, d, tk, os⟩ := s
    obtain ⟨hl, h⟩ := h
    have f1 := idx_bool
    have e : (items.isEmpty || (0 : Int) == 1) = false := by rw [hne] <;> rfl
    wp_walk using wpAny_loadPart' hl
    exact ⟨_, rfl, h⟩
theorem brmul_tuple (a : Bool) (l : Addr) (items : Array Value) (n : Nat) (dd : Option Addr) (sl : Array (Option Value)) :
    Meets (Builtin.«int.__rmul__» ⟨[.bool a, .ref l], []⟩) (fun _ R s => s.heap.get? l = some { cls := .type "tuple", dict := dd, data := .seq items n, slots := sl } ∧ R (.ok (.ret Value.notImplemented)) s) :=
  .of_wp fun prog w A R s h => by obtain ⟨hp, g, d, tk, os⟩ := s; obtain ⟨hl, h⟩ := h; wp_walk using wpAny_loadPart' hl; exact ⟨_, rfl, h⟩
section
variable {X : Cx} {K : PySem.W.Frag} {mg : Str → Option Value}
def rMulTB (K : PySem.W.Frag) : R2 := fun x y H Q => ∃ a k xs, x = .ref a ∧ y = .bl k ∧ SqT K H a xs ∧ xs ≠ [] ∧ (k = true → Q (.ref a) H) ∧ (k = false → NewT Q H [])
theorem op_mulTB : OpR X (binaryOp .Mult) (rMulTB X.K) := fun pins s σ H x y v u Q I rx ry h => by
  obtain ⟨a, k, vs, rfl, rfl, hT, hne, q1, q2⟩ := h
  obtain rfl : v = .ref a := rx
  obtain rfl : u = .bool k := ry
  obtain ⟨us, r, ⟨⟨c, dd, da, sl⟩, ho, hc, n, hd⟩, -⟩ := I.tuple hT
  cases hc
  cases hd
  have nemp : us.toArray.isEmpty = false := by
    cases us with
    | cons _ _ => rfl
    | nil => exact absurd (List.eq_nil_of_length_eq_zero r.length) hne
  refine wpAny_binaryOp_repeat_ref (T := "tuple") (U := "bool") (by decide) ⟨_, ho, rfl⟩ (fun s' => rfl) noFill_tuple_mul F.fills_bool_mul F.slot_bool_rmul repeat_tuple F.slot_bool_index.lookup ?_
  cases k with
  | true =>
    refine call_meets F.slot_bool_rmul rfl F.entry_int_rmul (F.args_int_rmul_2 _ _) (brmul_tuple true a us.toArray n dd sl) ⟨ho, rfl, ⟨_, ho, rfl⟩, call_meets F.slot_tuple_mul ⟨_, ho, rfl⟩ F.entry_tuple_mul (F.args_tuple_mul_2 _ _) (tmul_yes a us.toArray n dd sl) ⟨ho, ?_⟩⟩
    exact ⟨.ref a, H, I, rfl, q1 rfl⟩
  | false =>
    refine call_meets F.slot_bool_rmul rfl F.entry_int_rmul (F.args_int_rmul_2 _ _) (brmul_tuple false a us.toArray n dd sl) ⟨ho, rfl, ⟨_, ho, rfl⟩, call_meets F.slot_tuple_mul ⟨_, ho, rfl⟩ F.entry_tuple_mul (F.args_tuple_mul_2 _ _) (tmul_no a us.toArray n dd sl nemp) ⟨ho, ?_⟩⟩
    exact ⟨.ref s.heap.objs.size, _, I.laid (t' := s.toks) (o := .frz _ (.tup [])) (fun b ob e => Heap.get?_push_of_some _ e) (Nat.le_refl _) (frz_new (xs := []) (its := []) (Nat.zero_le _) .nil), rfl, q2 rfl _ _ rfl (I.hok.fresh (Nat.le_refl _))⟩
def fMulB : F2 := fun S a b => match a with
  | .tup xs => (match b with
    | .bl k => if xs.isEmpty = true then .bad else .ok (.tup (if k = true then xs else [])) S
    | _ => .bad)
  | _ => .bad
theorem os_mulTB : OpS K mg (rMulTB K) fMulB := fun G H μ S d1 d2 v1 v2 Q a r r1 r2 p => by
  cases d1 with
  | tup xs =>
    cases d2 with
    | bl k =>
      have p : PostV K mg (if xs.isEmpty = true then .bad else .ok (.tup (if k = true then xs else [])) S) G H μ S.length Q := p
      by_cases hz : xs.isEmpty = true
      · rw [if_pos hz] at p; exact p.elim
      · rw [if_neg hz] at p
        have r0 : RepV K mg G μ S.length (.tup xs) v1 := r1
        obtain ⟨b, vs, ev, g, rr⟩ := r1
        have hl := rr.len
        refine ⟨b, k, vs, ev, r2, a.seqT g.sq, fun e => ?_, fun e => ?_, fun e q ob od hq => ?_⟩
        · rw [e] at hl
          exact hz (by rw [List.eq_nil_of_length_eq_zero hl] <;> rfl)
        · subst e; rw [← ev]; exact p.here a r r0
        · subst e; exact PostV.tupN p a r RepVs.nil od hq
    | _ => exact p.elim
  | _ => exact p.elim
end
end Ev

/-! Ev: x or y by truth -/
namespace Ev
open PySem PySem.Spec PyProof.Rows L2
section
variable {X : Cx} {K : PySem.W.Frag} {mg : Str → Option Value} {a b : Expr} {ma mb : ME} {rest : List Expr} {pos : Pos}
def truD : D → Option Bool
  | .non => some false
  | .bl b => some b
  | .int i => some (i != 0)
  | .tup xs => some (!xs.isEmpty)
  | .wtp xs => some (!xs.isEmpty)
  | .lst xs => some (!xs.isEmpty)
  | _ => none
theorem emp_rep {G : Hp} {μ : Nat → Addr} {n : Nat} {ds : List D} {vs : List V} (h : RepVs K mg G μ n ds vs) : ds.isEmpty = vs.isEmpty := by
  cases ds with
  | nil => rw [show vs = [] from h] <;> rfl
  | cons d ds => obtain ⟨v, r, rfl, _⟩ := h; rfl
theorem truD_rep {G H : Hp} {μ : Nat → Addr} {S : Sto} (s : Sub G H) (r : RelS K mg μ S G) {d : D} {v : V} {k : Bool} (rp : RepV K mg G μ S.length d v) (h : truD d = some k) : TruV K v H k := by
  cases d with
  | non => cases h; rw [show v = .non from rp]; rfl
  | bl b' => rw [show v = .bl b' from rp]; cases h; rfl
  | int i => rw [show v = .int i from rp]; cases h; rfl
  | tup xs => cases h; obtain ⟨c, vs, rfl, q, rr⟩ := rp; exact .inr (.inl ⟨vs, s.seqT q.sq, by rw [emp_rep rr]⟩)
  | wtp xs => cases h; obtain ⟨c, vs, rfl, q, rr⟩ := rp; exact .inr (.inl ⟨vs, s.seqT q, by rw [emp_rep rr]⟩)
  | lst xs => cases h; obtain ⟨c, vs, rfl, q, _, rr⟩ := rp; exact .inl ⟨vs, .inl (.inl (s _ _ q)), by rw [emp_rep rr]⟩
  | _ => cases h
@[reducible] def mOrX (ma mb : ME) : ME := fun sl S => (ma sl S).bind fun d S1 => match truD d with
  | some true => .ok d S1
  | some false => mb sl S1
  | none => .bad
@[reducible] def mAndX (ma mb : ME) : ME := fun sl S => (ma sl S).bind fun d S1 => match truD d with
  | some true => mb sl S1
  | some false => .ok d S1
  | none => .bad
theorem ev_orX (h : EvE X a ma) (h2 : EvE X (.BoolOp .Or (b :: rest) pos) mb) : EvE X (.BoolOp .Or (a :: b :: rest) pos) (mOrX ma mb) := PE.imp (pe_orT h h2) fun σ H Q ⟨G, μ, sl, S, A, post⟩ =>
  ⟨G, μ, sl, S, A, bindV A post fun d S1 v1 G1 H1 μ1 st1 A1 r1 p1 => by
    cases e : truD d with
    | none => rw [e] at p1; exact p1.elim
    | some k =>
      rw [e] at p1
      refine ⟨k, truD_rep A1.sub A1.rel r1 e, ?_⟩
      cases k with
      | true => rw [if_pos rfl]; exact p1.here A1.sub A1.rel r1
      | false => rw [if_neg Bool.false_ne_true]; exact ⟨G1, μ1, sl, S1, A1, p1⟩⟩
theorem ev_andX (h : EvE X a ma) (h2 : EvE X (.BoolOp .And (b :: rest) pos) mb) : EvE X (.BoolOp .And (a :: b :: rest) pos) (mAndX ma mb) := PE.imp (pe_andT h h2) fun σ H Q ⟨G, μ, sl, S, A, post⟩ =>
  ⟨G, μ, sl, S, A, bindV A post fun d S1 v1 G1 H1 μ1 st1 A1 r1 p1 => by
    cases e : truD d with
    | none => rw [e] at p1; exact p1.elim
    | some k =>
      rw [e] at p1
      refine ⟨k, truD_rep A1.sub A1.rel r1 e, ?_⟩
      cases k with
      | false => rw [if_neg Bool.false_ne_true]; exact p1.here A1.sub A1.rel r1
      | true => rw [if_pos rfl]; exact ⟨G1, μ1, sl, S1, A1, p1⟩⟩
end
end Ev

/-! more leaves -/
namespace Ev
open PySem PySem.Spec PyProof.Rows L2
section
variable {α β : Type} {S S1 S2 : Sto} {sl : Sl}
theorem bb_sum : bootBuiltins "sum" = some (.builtin "sum") := by decide +kernel
theorem appR_ok {n : Nat} {xs ys : List D} {y : D} (h1 : S1[n]? = some (.lst xs)) (h2 : S2[n]? = some (.lst ys)) (hl : ys.length < 16777216) : appD S1 S2 (.ref n) y = .ok .non (S2.set n (.lst (ys ++ [y]))) := by
  simp only [appD, h1, h2, if_pos hl]
theorem if_lim {γ : Type} {n : Nat} {a b : γ} (h : n ≤ 16777216) : (if n ≤ 16777216 then a else b) = a := if_pos h
theorem cell1 {M T : Sto} {x : Ob} (h : M.length = 3) : (M ++ (T ++ [x]))[3 + T.length]? = some x := cell_at (U := []) (by omega)
theorem set1 {M T : Sto} {x y : Ob} (h : M.length = 3) : (M ++ (T ++ [x])).set (3 + T.length) y = M ++ (T ++ [y]) := cell_set (U := []) (by omega)
theorem slT_tail {ι : Type} {f : ι → D} {al : Bool} {xs : List ι} : fSl al S (.tup (xs.map f)) (some 1) none = .ok (.tup ((xs.drop 1).map f)) S := by
  cases xs with
  | nil => rfl
  | cons x xs =>
    rw [List.map_cons, slT_fr1]
    rfl
/-! ### plain data whose text and equality are known -/
def Nc (d : D) (k dep : Nat) : Prop := ∃ p, D.py d = some p ∧ p.showable = true ∧ p.hasDict = false ∧ p.depth ≤ dep ∧ p.leavesShort 13 = true ∧ p.bulk ≤ k ∧ p.canLay0 = true
theorem nc_int {i : Int} (h : -1000000000000 < i ∧ i < 1000000000000) : Nc (.int i) 0 0 := by
  have h1 : i.natAbs < 10 ^ 12 := by
    show i.natAbs < 1000000000000
    omega
  refine ⟨.int i, rfl, ?_, rfl, Nat.le_refl _, ?_, Nat.le_refl _, rfl⟩
  · show decide (i.natAbs.log2 < 1920) = true
    refine decide_eq_true ?_
    by_cases h0 : i.natAbs = 0
    · rw [h0]; decide
    · rw [Nat.log2_lt h0]
      exact Nat.lt_of_lt_of_le h1 (Nat.le_trans (show 10 ^ 12 ≤ 2 ^ 40 by decide) (Nat.pow_le_pow_right (by decide) (by decide)))
  · show decide ((toString i : Str).length ≤ 13) = true
    refine decide_eq_true ?_
    rw [PySem.ofString_length]
    exact int_text_length_le10 (k := 12) (by decide) h1
theorem nc_bl (b : Bool) : Nc (.bl b) 0 0 := ⟨.bool b, rfl, rfl, rfl, Nat.le_refl _, rfl, Nat.le_refl _, rfl⟩
theorem nc_non : Nc .non 0 0 := ⟨.none, rfl, rfl, rfl, Nat.le_refl _, rfl, Nat.le_refl _, rfl⟩
theorem nc_all {k dep : Nat} : ∀ (xs : List D), (∀ d ∈ xs, Nc d k dep) → ∃ ps, D.pys xs = some ps ∧ PyData.showableAll ps = true ∧ PyData.hasDictAll ps = false ∧ PyData.depthAll ps ≤ dep ∧ PyData.leavesShortAll 13 ps = true ∧ PyData.bulkAll ps ≤ xs.length * (k + 1) ∧ PyData.canLayAll0 ps = true
  | [], _ => ⟨[], rfl, rfl, rfl, Nat.zero_le _, rfl, Nat.zero_le _, rfl⟩
  | x :: xs, h => by
    obtain ⟨p, a1, a2, a3, a4, a5, a6, a7⟩ := h x (by simp)
    obtain ⟨ps, b1, b2, b3, b4, b5, b6, b7⟩ := nc_all xs fun d hd => h d (by simp [hd])
    refine ⟨p :: ps, by simp only [D.pys, a1, b1], by simp only [PyData.showableAll, a2, b2, Bool.and_self], by simp only [PyData.hasDictAll, a3, b3, Bool.or_self], by simp only [PyData.depthAll]; omega, by simp only [PyData.leavesShortAll, a5, b5, Bool.and_self], ?_, by simp only [PyData.canLayAll0, a7, b7, Bool.and_self]⟩
    simp only [PyData.bulkAll, List.length_cons, Nat.add_mul, Nat.one_mul]
    omega
theorem nc_tup {k dep : Nat} {xs : List D} (h : ∀ d ∈ xs, Nc d k dep) : Nc (.tup xs) (xs.length * (k + 1)) (dep + 1) := by
  obtain ⟨ps, b1, b2, b3, b4, b5, b6, b7⟩ := nc_all xs h
  exact ⟨.tuple ps, by simp only [D.py, b1], by simp only [PyData.showable, b2], by simp only [PyData.hasDict, b3], by simp only [PyData.depth]; omega, by simp only [PyData.leavesShort, b5], by simp only [PyData.bulk]; exact b6, by simp only [PyData.canLay0, b7]⟩
theorem nc_lst {k dep : Nat} {xs : List D} (h : ∀ d ∈ xs, Nc d k dep) : Nc (.lst xs) (xs.length * (k + 1)) (dep + 1) := by
  obtain ⟨ps, b1, b2, b3, b4, b5, b6, b7⟩ := nc_all xs h
  exact ⟨.list ps, by simp only [D.py, b1], by simp only [PyData.showable, b2], by simp only [PyData.hasDict, b3], by simp only [PyData.depth]; omega, by simp only [PyData.leavesShort, b5], by simp only [PyData.bulk]; exact b6, by simp only [PyData.canLay0, b7]⟩
theorem Nc.mono {d : D} {k dep k' dep' : Nat} (h : Nc d k dep) (hk : k ≤ k') (hd : dep ≤ dep') : Nc d k' dep' := by
  obtain ⟨p, a1, a2, a3, a4, a5, a6, a7⟩ := h
  exact ⟨p, a1, a2, a3, Nat.le_trans a4 hd, a5, Nat.le_trans a6 hk, a7⟩
/-- of tuples, lists with a bound on how many -/
theorem nc_tupN {k dep n : Nat} {xs : List D} (h : ∀ d ∈ xs, Nc d k dep) (hn : xs.length ≤ n) : Nc (.tup xs) (n * (k + 1)) (dep + 1) := (nc_tup h).mono (Nat.mul_le_mul_right _ hn) (Nat.le_refl _)
theorem nc_lstN {k dep n : Nat} {xs : List D} (h : ∀ d ∈ xs, Nc d k dep) (hn : xs.length ≤ n) : Nc (.lst xs) (n * (k + 1)) (dep + 1) := (nc_lst h).mono (Nat.mul_le_mul_right _ hn) (Nat.le_refl _)
theorem toPy_tup {xs : List D} {p : PyData} (h : D.py (.tup xs) = some p) : toPy S (.tup xs) = some p := h
theorem nc_repr' {d : D} {k dep : Nat} (h : Nc d k dep) (hr : ∀ S : Sto, toPy S d = D.py d) (hk : k ≤ 1000000) (hd : dep ≤ 60) : ∃ s : Str, ∀ S, fRepr S [d] = .ok (.str s) S := by
  obtain ⟨p, a1, a2, a3, a4, a5, a6, a7⟩ := h
  refine ⟨p.shown, fun S => ?_⟩
  have e : toPy S d = some p := (hr S).trans a1
  have hs : p.shown.length ≤ 16777216 := by
    have := PyData.shown_fits_bulk (B := 13) (by decide) (by decide) a5 (Nat.le_trans a6 (Nat.le_trans hk (by decide)))
    rw [sizeLine_eq] at this
    exact this
  unfold fRepr
  simp only [e, a2, a3, decide_eq_true (Nat.le_trans a4 hd), decide_eq_true hs, Bool.not_false, Bool.and_self, if_true]
theorem nc_reprT {xs : List D} {k dep : Nat} (h : Nc (.tup xs) k dep) (hk : k ≤ 1000000) (hd : dep ≤ 60) : ∃ s : Str, ∀ S, fRepr S [.tup xs] = .ok (.str s) S := nc_repr' h (fun _ => rfl) hk hd
theorem nc_reprL {xs : List D} {k dep : Nat} (h : Nc (.lst xs) k dep) (hk : k ≤ 1000000) (hd : dep ≤ 60) : ∃ s : Str, ∀ S, fRepr S [.lst xs] = .ok (.str s) S := nc_repr' h (fun _ => rfl) hk hd
theorem nc_fEq {ng : Bool} {d : D} {k dep : Nat} (h : Nc d k dep) (hr : ∀ S : Sto, toPy S d = D.py d) (hd : dep ≤ 60) : fEq ng S d d = .ok (.bl (!ng)) S := by
  obtain ⟨p, a1, a2, a3, a4, a5, a6, a7⟩ := h
  have e : toPy S d = some p := (hr S).trans a1
  have sh : SeqAt.shaped p = true := by
    unfold SeqAt.shaped
    rw [a7, decide_eq_true (by omega)] <;> rfl
  unfold fEq
  rw [e]
  simp only [sh, Bool.and_self, if_true, SeqAt.eqv_refl p a7]
  cases ng <;> rfl
theorem nc_eqT {xs : List D} {k dep : Nat} (h : Nc (.tup xs) k dep) (hd : dep ≤ 60) : fEqA false S (.tup xs) (.tup xs) = .ok (.bl true) S := nc_fEq (ng := false) h (fun _ => rfl) hd
theorem nc_neT {xs : List D} {k dep : Nat} (h : Nc (.tup xs) k dep) (hd : dep ≤ 60) : fEqA true S (.tup xs) (.tup xs) = .ok (.bl false) S := nc_fEq (ng := true) h (fun _ => rfl) hd
theorem nc_eqL {xs : List D} {k dep : Nat} (h : Nc (.lst xs) k dep) (hd : dep ≤ 60) : fEqA false S (.lst xs) (.lst xs) = .ok (.bl true) S := nc_fEq (ng := false) h (fun _ => rfl) hd
theorem nc_neL {xs : List D} {k dep : Nat} (h : Nc (.lst xs) k dep) (hd : dep ≤ 60) : fEqA true S (.lst xs) (.lst xs) = .ok (.bl false) S := nc_fEq (ng := true) h (fun _ => rfl) hd
theorem eqLnil : fEqA false S (.lst []) (.lst []) = .ok (.bl true) S := rfl
theorem neLnil : fEqA true S (.lst []) (.lst []) = .ok (.bl false) S := rfl
theorem neSs (s : Str) : fEqA true S (.str s) (.str s) = .ok (.bl false) S := by
  rw [neS_ok, decide_eq_true rfl]; rfl
theorem eqSs (s : Str) : fEqA false S (.str s) (.str s) = .ok (.bl true) S := by
  rw [eqS_ok, decide_eq_true rfl]
/-! ### places -/
theorem ixL_rng {f : Nat → D} {n : Nat} {i : Int} (h0 : 0 ≤ i) (h1 : i < (n : Nat)) : fIx S (.lst ((List.range n).map f)) (.int i) = .ok (f i.toNat) S := by
  have hi : i.toNat < n := by omega
  show (match L2.atI ((List.range n).map f) i with | some d => Res.ok d S | none => Res.bad) = _
  have e : L2.atI ((List.range n).map f) i = some (f i.toNat) := by
    unfold L2.atI ixN
    rw [if_pos h0, if_pos (by rw [List.length_map, List.length_range]; exact h1)]
    show ((List.range n).map f)[i.toNat]? = _
    rw [List.getElem?_map, List.getElem?_range hi]
    rfl
  rw [e]
theorem ixT_get {ι : Type} {f : ι → D} {xs : List ι} {i : Int} {x : ι} (h0 : 0 ≤ i) (h1 : xs[i.toNat]? = some x) : fIx S (.tup (xs.map f)) (.int i) = .ok (f x) S := by
  have hi := (List.getElem?_eq_some_iff.mp h1).1
  show (match L2.atI (xs.map f) i with | some d => Res.ok d S | none => Res.bad) = _
  have e : L2.atI (xs.map f) i = some (f x) := by
    unfold L2.atI ixN
    rw [if_pos h0, if_pos (by rw [List.length_map]; omega)]
    show (xs.map f)[i.toNat]? = _
    rw [List.getElem?_map, h1]
    rfl
  rw [e]
theorem ixL_get {ι : Type} {f : ι → D} {xs : List ι} {i : Int} {x : ι} (h0 : 0 ≤ i) (h1 : xs[i.toNat]? = some x) : fIx S (.lst (xs.map f)) (.int i) = .ok (f x) S := by
  have := ixT_get (S := S) (f := f) h0 h1
  exact this
theorem enum_zip {ι : Type} {f : ι → D} (xs : List ι) : enumD (xs.map f) = xs.zipIdx.map fun p => .wtp [.int (p.2 : Nat), f p.1] := by
  unfold enumD
  rw [List.length_map]
  apply List.ext_getElem?
  intro i
  rw [List.getElem?_map, List.getElem?_map, List.getElem?_zipIdx]
  by_cases hi : i < xs.length
  · rw [List.getElem?_range hi, List.getElem?_eq_getElem hi]
    show some (D.wtp [.int (i : Nat), (xs.map f).getD i .non]) = some (D.wtp [.int ((0 + i : Nat)), f xs[i]])
    rw [List.getD_eq_getElem?_getD, List.getElem?_map, List.getElem?_eq_getElem hi, Nat.zero_add]
    rfl
  · rw [List.getElem?_eq_none (by rw [List.length_range]; omega), List.getElem?_eq_none (by omega)]
    rfl
/-! ### dicts of pairs -/
theorem hasK_iff {ks : List Key} {k : Key} : hasK ks k = true ↔ k ∈ ks := by
  unfold hasK
  rw [List.any_eq_true]
  exact ⟨fun ⟨x, hx, e⟩ => by rw [← of_decide_eq_true e]; exact hx, fun h => ⟨k, h, decide_eq_true rfl⟩⟩
theorem merge_new : ∀ (js : List Key) (ys : List D) (ks : List Key) (xs : List D), js.length = ys.length → (ks ++ js).Nodup → mergeX ks xs js ys = (ks ++ js, xs ++ ys)
  | [], ys, ks, xs, hl, _ => by
    have : ys = [] := List.eq_nil_of_length_eq_zero hl.symm
    subst this
    show (ks, xs) = _
    rw [List.append_nil, List.append_nil]
  | k :: js, ys, ks, xs, hl, hn => by
    cases ys with
    | nil => cases hl
    | cons y ys =>
      have hk : hasK ks k = false := by
        cases h : hasK ks k with
        | false => rfl
        | true =>
          have h1 := hasK_iff.mp h
          rw [List.nodup_append] at hn
          exact absurd rfl (hn.2.2 k h1 k (by simp))
      show mergeX (putX ks xs k y).1 (putX ks xs k y).2 js ys = _
      have e : putX ks xs k y = (ks ++ [k], xs ++ [y]) := by
        unfold putX
        rw [hk]
        rfl
      rw [e, merge_new js ys _ _ (by simpa using hl) (by simpa using hn)]
      simp
theorem valX_map {ι : Type} {kf : ι → Key} {vf : ι → D} {k : Key} : ∀ xs : List ι, valX (xs.map kf) (xs.map vf) k = (xs.find? fun x => decide (kf x = k)).map vf
  | [] => rfl
  | x :: xs => by
    show (if kf x = k then some (vf x) else valX (xs.map kf) (xs.map vf) k) = _
    by_cases h : kf x = k
    · rw [if_pos h, List.find?_cons_of_pos (by simpa using h)]
      rfl
    · rw [if_neg h, List.find?_cons_of_neg (by simpa using h), valX_map xs]
theorem revL_ok {xs : List D} : revD false S (.lst xs) = .ok (.lst xs.reverse) S := rfl
theorem revT_ok {al : Bool} {xs : List D} : revD al S (.tup xs) = .ok (.tup xs.reverse) S := by cases al <;> rfl
/-! ### texts -/
theorem lenS_ok {s : Str} (h : s.cps.size ≤ 16777216) : fLen S [.str s] = .ok (.int (s.cps.size : Nat)) S := by
  show lenS S (.str s) = _
  unfold lenS
  exact if_pos h
theorem inT_strs {s : Str} {zs : List Str} : fInX false S (.str s) (.wtp (zs.map D.str)) = .ok (.bl (zs.any fun z => decide (z = s))) S := by
  show fInF false S (.str s) (.wtp (zs.map D.str)) = _
  have h1 : ∀ zs : List Str, (zs.map D.str).all flatD = true := fun zs => by
    induction zs with
    | nil => rfl
    | cons z zs ih => rw [List.map_cons, List.all_cons, ih] <;> rfl
  have h2 : ((zs.map D.str).any fun y => eqDf y (.str s)) = zs.any fun z => decide (z = s) := by
    rw [List.any_map]
    have e : (fun y => eqDf y (.str s)) ∘ D.str = fun z => decide (z = s) := by
      funext z
      exact str_dec z s
    rw [e]
  unfold fInF
  simp only [asQ, h1, h2, show flatD (.str s) = true from rfl, Bool.and_self, if_true, Bool.false_eq_true, if_false]
theorem inS_ok {c : Nat} {z : Str} : fInX false S (.str ⟨#[c]⟩) (.str z) = .ok (.bl (decide (c ∈ z.cps.toList))) S := rfl
theorem asI_str {z : Str} (h : z.cps.size ≤ 16777216) : asI (.str z) = some (z.cps.toList.map fun c => .str ⟨#[c]⟩) := if_pos h
theorem nc_str {s : Str} {k : Nat} (h : ∀ c ∈ s.cps.toList, c < 1114112) (hl : s.cps.size ≤ k) : Nc (.str s) k 0 := by
  refine ⟨.str s, rfl, rfl, rfl, Nat.le_refl _, ?_, hl, ?_⟩
  · show (s.cps.toList.all fun c => decide (c < 16 ^ 8)) = true
    exact List.all_eq_true.mpr fun c hc => decide_eq_true (Nat.lt_of_lt_of_le (h c hc) (by decide))
  · show (s.cps.all fun c => decide (c < 0x110000)) = true
    rw [← Array.all_toList]
    exact List.all_eq_true.mpr fun c hc => decide_eq_true (h c hc)
theorem ixS_ok {z : Str} {i : Int} (hz : z.cps.size ≤ 16777216) (h0 : 0 ≤ i) (h1 : i < (z.cps.size : Nat)) : fIx S (.str z) (.int i) = .ok (.str ⟨#[z.cps.toList.getD i.toNat 0]⟩) S := by
  show (if z.length ≤ 16777216 then (match L2.atI z.cps.toList i with | some c => Res.ok (D.str ⟨#[c]⟩) S | none => Res.bad) else Res.bad) = _
  rw [if_pos (show z.length ≤ 16777216 from hz)]
  have hi : i.toNat < z.cps.toList.length := by rw [Array.length_toList]; omega
  have e : L2.atI z.cps.toList i = some (z.cps.toList.getD i.toNat 0) := by
    unfold L2.atI ixN
    rw [if_pos h0, if_pos (by rw [Array.length_toList]; exact h1)]
    show z.cps.toList[i.toNat]? = _
    rw [List.getD_eq_getElem?_getD, List.getElem?_eq_getElem hi]
    rfl
  rw [e]
/-! ### ends of lists -/
theorem ixT_first {ι : Type} {f : ι → D} {xs : List ι} (e : ι) (h : xs ≠ []) : fIx S (.tup (xs.map f)) (.int 0) = .ok (f (xs.headD e)) S := by
  cases xs with
  | nil => exact absurd rfl h
  | cons x xs =>
    rw [List.map_cons, ixT0]
    rfl
theorem ixT_end {ι : Type} {f : ι → D} {xs : List ι} (e : ι) (h : xs ≠ []) : fIx S (.tup (xs.map f)) (.int (-1)) = .ok (f (xs.getLastD e)) S := by
  rcases nil_or_snoc xs with rfl | ⟨A, x, rfl⟩
  · exact absurd rfl h
  · rw [List.map_append, List.map_cons, List.map_nil, ixT_last]
    congr 2
    simp
theorem getD_mem' {γ : Type} {xs : List γ} {i : Nat} {e : γ} (h : i < xs.length) : xs.getD i e ∈ xs := by
  rw [List.getD_eq_getElem?_getD, List.getElem?_eq_getElem h]
  exact List.getElem_mem h
/-! ### a text of signs -/
theorem addS_ok {al : Bool} {x y : Str} (h : x.cps.size + y.cps.size ≤ 16777216) : fAdd al S (.str x) (.str y) = .ok (.str (x ++ y)) S := if_pos h
def sg (c : Nat) : Str := ⟨#[c]⟩
theorem join_signs : ∀ cs : List Nat, (Txt.join (⟨#[]⟩ : Str) (cs.map sg)).cps.toList = cs := by
  intro cs
  rw [TL.join_eq]
  induction cs with
  | nil => rfl
  | cons c cs ih =>
    cases cs with
    | nil => rfl
    | cons c2 cs =>
      have e : Str.join (⟨#[]⟩ : Str) ((c :: c2 :: cs).map sg) = sg c ++ (⟨#[]⟩ : Str) ++ Str.join (⟨#[]⟩ : Str) ((c2 :: cs).map sg) := rfl
      rw [e]
      show ((#[c] ++ #[]) ++ (Str.join (⟨#[]⟩ : Str) ((c2 :: cs).map sg)).cps).toList = _
      rw [Array.toList_append, ih]
      rfl
theorem sum_signs : ∀ cs : List Nat, ((cs.map sg).map (fun x : Str => x.length)).sum = cs.length
  | [] => rfl
  | c :: cs => by
    rw [List.map_cons, List.map_cons, List.sum_cons, sum_signs cs, List.length_cons]
    show 1 + cs.length = _
    omega
theorem joinS_ok {cs : List Nat} (h : cs.length ≤ 1000) : joinD S (.str (⟨#[]⟩ : Str)) (.lst (cs.map fun c => .str (sg c))) = .ok (.str (Txt.join (⟨#[]⟩ : Str) (cs.map sg))) S := by
  have e : strsD (cs.map fun c => D.str (sg c)) = some (cs.map sg) := by
    rw [show (cs.map fun c => D.str (sg c)) = (cs.map sg).map D.str by rw [List.map_map]; rfl]
    exact strsD_map _
  show (match strsD (cs.map fun c => D.str (sg c)) with | some ys => if (ys.map (fun x : Str => x.length)).sum + ys.length * (⟨#[]⟩ : Str).length ≤ 16777216 then Res.ok (D.str (Txt.join (⟨#[]⟩ : Str) ys)) S else Res.bad | none => Res.bad) = _
  rw [e]
  show (if ((cs.map sg).map (fun x : Str => x.length)).sum + (cs.map sg).length * 0 ≤ 16777216 then _ else _) = _
  rw [if_pos (by rw [sum_signs]; omega)]
/-! ### a def's own list, laid last, handed back -/
theorem cellS {x : Ob} : (S ++ [x])[S.length]? = some x := by
  rw [List.getElem?_append_right (Nat.le_refl _), Nat.sub_self]
  rfl
theorem setS {x y : Ob} : (S ++ [x]).set S.length y = S ++ [y] := by
  rw [List.set_append_right _ _ (Nat.le_refl _), Nat.sub_self]
  rfl
theorem extR_ok {n : Nat} {xs0 xs zs : List D} (h1 : S1[n]? = some (.lst xs0)) (h2 : S2[n]? = some (.lst xs)) (hl : xs.length + zs.length ≤ 16777216) : extD S1 S2 (.ref n) (.lst zs) = .ok .non (S2.set n (.lst (xs ++ zs))) := by
  simp only [extD, h1, h2, asL, if_pos hl]
theorem frzS {xs : List D} {n : Nat} (hn : n = S.length) (hx : D.bnds n xs = true) (hS : S.all (Ob.bnd S.length) = true) : frz n (.ref n) (S ++ [.lst xs]) = .ok (.lst xs) S := by
  subst hn
  unfold frz
  have e : (S ++ [Ob.lst xs]).take S.length = S := List.take_left' rfl
  simp only [cellS, e, hx, hS, Nat.le_refl, decide_true, Bool.and_self, if_true]
theorem bnd_snoc {o : Ob} (hS : S.all (Ob.bnd S.length) = true) (ho : o.bnd 0 = true) : (S ++ [o]).all (Ob.bnd (S ++ [o]).length) = true := by
  rw [List.all_append, List.length_append, List.length_singleton, all_le (by omega) S hS]
  show (true && (o.bnd (S.length + 1) && true)) = true
  rw [Ob.bnd_le (Nat.zero_le _) o ho]
  rfl
end
section
variable {X : Cx}
/-! ### {} -/
@[reducible] def mDict0 (al : Bool) : ME := fun _ S => mkD al [] [] S
theorem ev_dict0 {al : Bool} {pos : Pos} : EvE X (.Dict [] [] pos) (mDict0 al) := PE.imp pe_dnewK fun σ H Q ⟨G, μ, sl, S, A, post⟩ p hp => mkD_post (kvs := []) post A.sub A.rel rfl (show RepVs X.K X.mg G μ S.length [] [] from rfl) hp
end
end Ev

/-! Ev: enumerate(a tuple) -/
namespace Ev
open PySem PySem.Spec PyProof.Rows L2
theorem meets_enum1 {v : Value} {o : Obj} {Hh : Heap → Prop} (B : Begins v o Hh) :
    Meets (Builtin.«enumerate.__new__» ⟨[.type "enumerate", v], []⟩) (fun _ R s => Hh s.heap ∧
      R (.ok (.ret (.ref (s.heap.push o).objs.size))) { s with heap := (s.heap.push o).push { cls := .type "enumerate", data := .fields #[.none, .bool false, .ref s.heap.objs.size, rawInt 0, .none, .none] } }) :=
  .of_wp fun prog w A R s h => by
    obtain ⟨hp, g, d, tk, os⟩ := s; obtain ⟨h1, h⟩ := h
    have hsub := sub_enumerate
    have q1 : ∀ {A' : Around} {E : Value → Shared → Prop} {Q : Value → Shared → Prop}, Q (.ref hp.objs.size) ⟨hp.push o, g, d, tk, os⟩ → wpAny (model prog w) A' (pyIter v) Q E ⟨hp, g, d, tk, os⟩ :=
      fun q => B.iter prog w _ _ ⟨hp, g, d, tk, os⟩ _ h1 q
    wp_walk using q1
    refine wpAny_stack_any fun st => wpAny_pure ?_
    split
    · rename_i c _ _ _ _ _
      cases (c == Value.type "enumerate")
      · wp_walk using q1
        exact ⟨_, rfl, h⟩
      · wp_walk using q1
        exact ⟨_, rfl, h⟩
    · wp_walk using q1
      exact ⟨_, rfl, h⟩
theorem enum_begins1 {prog : Program} {w : World} {A : Around} {E : Value → Shared → Prop} {s : Shared} {v : Value} {o : Obj} {Hh : Heap → Prop} {Q : Value → Shared → Prop} (B : Begins v o Hh) (h1 : Hh s.heap)
    (h : ∀ h', IsEnum h' (s.heap.objs.size + 1) s.heap.objs.size 0 .none → h'.get? s.heap.objs.size = some o → h'.objs.size = s.heap.objs.size + 2 →
      (∀ b o, s.heap.get? b = some o → h'.get? b = some o) → Q (.ref (s.heap.objs.size + 1)) { s with heap := h' }) :
    wpAny (model prog w) A (call (.type "enumerate") [v]) Q E s := by
  refine callType_new PySem.F.called_enumerate (by decide) (PySem.F.typeCall_enumerate_1 _) (PySem.F.newCall_enumerate_1 _) (fun obj => PySem.F.args_object_init_2 obj _) PySem.F.entry_enumerate_new
    (meets_enum1 B) ⟨h1, ?_⟩
  have hz : (s.heap.push o).objs.size = s.heap.objs.size + 1 := Heap.size_push ..
  show _ ∧ _
  rw [hz]
  have he : IsEnum ((s.heap.push o).push { cls := .type "enumerate", data := .fields #[.none, .bool false, .ref s.heap.objs.size, rawInt 0, .none, .none] }) (s.heap.objs.size + 1) s.heap.objs.size 0 .none := by
    have := Heap.get?_push_size (s.heap.push o) (o := { cls := .type "enumerate", data := .fields #[.none, .bool false, .ref s.heap.objs.size, rawInt 0, .none, .none] }) rfl
    rw [hz] at this; exact this
  refine ⟨⟨_, he, rfl⟩, h _ he (Heap.get?_push_of_some _ (Heap.get?_push_size _ B.free)) (by rw [Heap.size_push, hz]) fun b o x => Heap.get?_push_of_some _ (Heap.get?_push_of_some _ x)⟩
/-- the tuple at a as it stands at each turn, each item in a new pair -/
def IteT (K : PySem.W.Frag) (a : Addr) : It :=
  ⟨fun i H => ∃ (xs : List V) (x : V), SqT K H a xs ∧ xs[i]? = some x, fun i H v H' => ∃ T x, v = .ref T ∧ H T = none ∧ H' = upd H T (.tup [.int (i : Nat), x]) ∧ ∀ xs, SqT K H a xs → xs[i]? = some x, fun i H => ∃ xs : List V, SqT K H a xs ∧ xs.length ≤ i⟩
theorem turn_enumT {P : Program} {w : World} {K : PySem.W.Frag} {elts : List Expr} {kk : Nat} {tpos : Pos} (a e it : Addr) (hae : a ≠ e) (hai : a ≠ it) :
    Turn P w K (.Tuple elts kk tpos) (IteT K a) [e, it] e (fun i h => (∃ old, IsEnum h e it ((i : Nat) : Int) old) ∧ h.IsTupleIter it a i ∧ e ≠ it) where
  mem := by simp
  obj := fun i h st b hb => by
    obtain ⟨⟨old, he⟩, ⟨o, ho, hc, hd⟩, _⟩ := st
    have e' : b = e ∨ b = it := by simpa using hb
    rcases e' with z | z
    · rw [z]; exact ⟨_, he, fun v q => nomatch q⟩
    · rw [z]; exact ⟨o, ho, fun v q => by rw [hd] at q; cases q⟩
  keep := fun i h h' st k => let ⟨⟨old, he⟩, hi, hne⟩ := st; ⟨⟨old, k e (by simp) _ he⟩, hi.at fun o q => k it (by simp) o q, hne⟩
  item := by
    intro X hP hw hK hc i pins s σ H E I hf st hg
    subst hP hw hK
    obtain ⟨⟨old, he⟩, hit, hne⟩ := st
    obtain ⟨xs, x, hq, hx⟩ := hg
    obtain ⟨its, rv, p, hz⟩ := I.tuple hq
    obtain ⟨u, hu, ru⟩ := rv.get hx
    have hel : e < s.heap.objs.size := Heap.lt_size he
    have hil : it < s.heap.objs.size := by obtain ⟨_, q, _⟩ := hit; exact Heap.lt_size q
    have hi : i < its.toArray.size := (Array.getElem?_eq_some_iff.mp (show its.toArray[i]? = some u by simpa using hu)).1
    have hd : X.A.in1.handled = none := I.ok.hd hc
    refine wpAny_pyNext_enum_itemD (Draws.tuple hd it a hai its.toArray) he ⟨hit, show s.heap.IsTuple a its.toArray from p⟩ hi hne (by simp [hne, Ne.symm hae]) fun y h' tk hy ho hst' hT hsz hk => ?_
    have ey : y = u := by
      have hy : its.toArray[i]? = some y := hy
      rw [show its.toArray[i]? = some u by simpa using hu] at hy
      exact (Option.some.inj hy).symm
    subst ey
    refine ⟨_, rfl, wpAny_letOwnedTupleGo_enum (s := { s with heap := h', toks := tk + 1 }) ho fun h'' he' sb => ?_⟩
    have hT2 : h''.get? s.heap.objs.size = some { cls := .type "tuple", data := .seq #[.int i tk, y] } := (sb.2 _ (Nat.ne_of_gt hel)).trans hT
    have new : ObjOk X.prog X.w (upd H s.heap.objs.size (.tup [.int (i : Nat), x])) h'' s.heap.objs.size (.tup [.int (i : Nat), x]) :=
      ⟨by show 2 ≤ sizeLine; decide, [.int i tk, y], .cons ⟨_, rfl⟩ (.cons ru .nil), ⟨_, hT2, rfl, _, rfl⟩⟩
    have I1 : Inv X pins σ (upd H s.heap.objs.size (.tup [.int (i : Nat), x])) { s with heap := h'', toks := tk + 1 } :=
      I.turnedNew (t' := tk + 1) (ch := [e, it]) (fun b ob hb q => (sb.2 b (fun z => hb (by simp [z]))).trans (hk b ob (fun z => hb (by simp [z])) (fun z => hb (by simp [z])) q)) hf (Nat.le_refl _) new
    refine ⟨.ref s.heap.objs.size, _, I1, rfl, ⟨_, x, rfl, I.hok.fresh (Nat.le_refl _), rfl, fun ys hy => by rw [I.tuple_inj hy hq]; exact hx⟩, ⟨⟨y, ?_⟩, hst'.1.at fun o q => (sb.2 it (Ne.symm hne)).trans q, hne⟩, fun b hb => ?_⟩
    · have e1 : ((i + 1 : Nat) : Int) = (i : Int) + 1 := by omega
      rw [e1]; exact he'
    · have hb' : b < s.heap.objs.size := by
        have e' : b = e ∨ b = it := by simpa using hb
        rcases e' with z | z
        · rw [z]; exact hel
        · rw [z]; exact hil
      rw [upd_ne (Nat.ne_of_lt hb')]
      exact (hf b hb).1
  done := by
    intro X hP hw hK hc i pins s σ H E I hf st hg
    subst hP hw hK
    obtain ⟨⟨old, he⟩, hit, hne⟩ := st
    obtain ⟨xs, hq, hx⟩ := hg
    obtain ⟨its, rv, p, hz⟩ := I.tuple hq
    obtain ⟨f0, f1, f2, f3, f4, f5⟩ := hf it (by simp)
    have hl := rv.length
    have hd : X.A.in1.handled = none := I.ok.hd hc
    have hn : its.toArray[i]? = none := by simp; omega
    have hT : s.TypeIs (.ref e) "enumerate" := ⟨_, he, rfl⟩
    unfold pyNext
    refine wpAny_bind (wpAny_attempt (wpAny_callSpecial?_slot (name := Str.ofString "__next__") hT PySem.F.slot_enumerate_next
      (wpAny_call_entry PySem.F.slot_enumerate_next hT PySem.F.entry_enumerate_next ?_ (PySem.F.args_enumerate_next_1 _))))
    show wpAny _ _ (field (.ref e) 2 >>= _) _ _ _
    refine wpAny_bind (wpAny_field he rfl (x := .ref it) rfl ?_)
    refine wpAny_bind (wpAny_nextOf_tuple_end hd hit (show s.heap.IsTuple a its.toArray from p) hn fun h' x he' hx' => ?_)
    obtain ⟨o, ho, hc⟩ := hx'
    refine wpAny_bind (wpAny_isInstance (T := "StopIteration") (b := true) ⟨o, ho, hc⟩ isSubtype_stop ?_)
    exact wpAny_pure ⟨rfl, I.turned (t' := s.toks) (fun b o hb q => he' b o hb q) f0 f1 f3 f4 f5⟩
  self := fun A i s Q E st h => let ⟨⟨_, he⟩, _⟩ := st; wpAny_pyIter_enum he h
def iEnumT (K : PySem.W.Frag) (ta : TA) : TI := fun σ H R => ta σ H fun vs H1 => ∃ a xs, vs = [.ref a] ∧ SqT K H1 a xs ∧ R (IteT K a) H1
theorem pi_enumT {X : Cx} {e : Expr} {ta : TA} {p pos tpos : Pos} {elts : List Expr} {kk : Nat} (hg : Gl X "enumerate") (hm : X.mg "enumerate" = none) (ha : PA X [e] ta) (hs : starEach [e] X.env = [(false, eval e X.env)] := by rfl) :
    PI X (.Tuple elts kk tpos) (.Call (.Name "enumerate" p) [e] [] pos) (iEnumT X.K ta) := by
  refine ⟨fun pins s σ H R I h => ?_⟩
  refine Call_ (ld_blt I hg hm boot_enumerate (PyProof.Rows.callWith_type1 (thn (ha.run pos pins s σ H _ I h) fun us s1 ⟨vs, H1, I1, r1, q1⟩ => ?_) hs rfl))
  obtain ⟨a, xs, ex, hq, q⟩ := q1
  subst ex
  cases r1 with
  | cons r rr =>
    cases rr
    cases r
    obtain ⟨its, rv, p', hz⟩ := I1.tuple hq
    have al : a < s1.heap.objs.size := by
      obtain ⟨o1, ho1, _⟩ := id p'
      exact Heap.lt_size ho1
    refine enum_begins1 (begins_tuple a its.toArray) (show s1.heap.IsTuple a its.toArray from p') fun h' he hit hsz hk => wpAny_pyIter_enum he ?_
    have I2 : Inv X pins σ H1 { s1 with heap := h' } := I1.kept (t' := s1.toks) hk
    refine ⟨s1.heap.objs.size + 1, [s1.heap.objs.size + 1, s1.heap.objs.size], _, _, H1, rfl, I2, turn_enumT a (s1.heap.objs.size + 1) s1.heap.objs.size (Nat.ne_of_lt (Nat.lt_succ_of_lt al)) (Nat.ne_of_lt al), ⟨⟨.none, he⟩, ⟨_, hit, rfl, rfl⟩, Nat.succ_ne_self _⟩, fun b hb => ?_, q⟩
    have e' : b = s1.heap.objs.size + 1 ∨ b = s1.heap.objs.size := by simpa using hb
    have hle : s1.heap.objs.size ≤ b := by
      rcases e' with z | z
      · rw [z]; exact Nat.le_add_right _ _
      · rw [z]; exact Nat.le_refl _
    exact I1.fpOk hle (I1.hok.fresh hle)
section
variable {K : PySem.W.Frag} {a : Addr} {xs : List V}
theorem walk_enumT : Walk (IteT K a) xs.length (fun H => SqT K H a xs) (YPair (fun i => some (.int (i : Nat))) (fun i => xs[i]?)) := by
  refine ⟨fun i _ hi q => ⟨xs, xs[i], q, by simp [hi]⟩, fun _ q => ⟨xs, q, Nat.le_refl _⟩, fun i H v H' _ q y => ?_⟩
  obtain ⟨T, x, h1, h2, h3, h4⟩ := y
  exact ⟨T, .int (i : Nat), x, h1, h2, h3, rfl, h4 xs q⟩
end
section
variable {X : Cx} {a : Expr} {ma : ME} {p pos : Pos}
@[reducible] def mEnumT (ma : ME) : MI := fun sl S => (ma sl S).bind fun d S1 => match d with
  | .tup xs => .ok (enumD xs) S1
  | _ => .bad
theorem ei_enumT {elts : List Expr} {kk : Nat} {tpos : Pos} (hg : Gl X "enumerate") (hm : X.mg "enumerate" = none) (ha : EvE X a ma) (hs : starEach [a] X.env = [(false, eval a X.env)] := by rfl) : EvI X (.Tuple elts kk tpos) (.Call (.Name "enumerate" p) [a] [] pos) (mEnumT ma) :=
  PI.imp (pi_enumT hg hm (pa_cons ha pa_nil (by rw [hs]; rfl)) hs) fun σ H R ⟨G, μ, sl, S, A, post⟩ =>
    ⟨G, μ, sl, S, A, bindVI A post fun d S1 v G1 H1 μ1 e st1 A1 r1 p1 => by
      cases d with
      | tup xs =>
        obtain ⟨b, vs, ev, hq, rr⟩ := r1
        have p1 : PostI X.K X.mg (.ok (enumD xs) S1) G1 H1 μ1 S1.length R := p1
        refine ⟨b, vs, by rw [ev], A1.sub.seqT hq.sq, PostI.here p1 A1 (walks_pair (f := fun i => some (.int (i : Nat))) (g := fun i => vs[i]?) (Gd := fun H => SqT X.K H b vs) ?_ A1.rel A1.sub (fun G' H' μ' S' st rl => tup_stays A1.rel A1.sub st hq.sq) fun i x y hi h1 h2 => ?_)⟩
        · have : (enumD xs).length = vs.length := by unfold enumD; rw [List.length_map, List.length_range, rr.len]
          rw [this]; exact walk_enumT
        · obtain ⟨d2, ed, rd⟩ := rr.got h2
          have hx : x = .int (i : Nat) := (Option.some.inj h1).symm
          refine ⟨.int (i : Nat), d2, ?_, hx, rd⟩
          have hlt : i < xs.length := (List.getElem?_eq_some_iff.mp ed).1
          have hget : xs.getD i .non = d2 := by rw [List.getD_eq_getElem?_getD, ed]; rfl
          unfold enumD
          rw [List.getElem?_map, List.getElem?_range hlt]
          rw [← hget]; rfl
      | _ => exact p1.elim⟩
end
end Ev

namespace K16
open PySem PySem.Spec PyProof.Rows L2 Ev
/-! ### the text -/
def topS (i : Nat) : Stmt := PySem.Challenge.pw_coolbook_k16_whole_units_told_otherwise.main.body.getD i (.Pass ⟨0, 0, 0, 0⟩)
abbrev s__law_mixed : Stmt := topS 24
abbrev N__law_mixed : List Str := ["_law_cell", "_law_k", "_law_number"]
theorem sc__law_mixed : FnScope N__law_mixed ["_law_cell", "_law_k"] (defScope s__law_mixed) := ⟨rfl, rfl, rfl, by decide +kernel, rfl, by decide +kernel, by decide +kernel⟩
abbrev s__law_draw : Stmt := topS 26
abbrev N__law_draw : List Str := ["_law_m", "_law_many", "_law_k", "_law_at", "_law_cell"]
theorem sc__law_draw : FnScope N__law_draw ["_law_m", "_law_many"] (defScope s__law_draw) := ⟨rfl, rfl, rfl, by decide +kernel, rfl, by decide +kernel, by decide +kernel⟩
abbrev s__law_folded : Stmt := topS 25
abbrev N__law_folded : List Str := ["_law_script", "_law_found", "_law_k", "_law_cell"]
theorem sc__law_folded : FnScope N__law_folded ["_law_script"] (defScope s__law_folded) := ⟨rfl, rfl, rfl, by decide +kernel, rfl, by decide +kernel, by decide +kernel⟩
abbrev s__law_begun : Stmt := topS 27
abbrev N__law_begun : List Str := ["_law_script", "_law_m", "_law_cell"]
theorem sc__law_begun : FnScope N__law_begun ["_law_script"] (defScope s__law_begun) := ⟨rfl, rfl, rfl, by decide +kernel, rfl, by decide +kernel, by decide +kernel⟩
abbrev s__law_budget : Stmt := topS 28
abbrev N__law_budget : List Str := ["_law_m", "_law_above", "_law_rates", "_law_k"]
theorem sc__law_budget : FnScope N__law_budget ["_law_m"] (defScope s__law_budget) := ⟨rfl, rfl, rfl, by decide +kernel, rfl, by decide +kernel, by decide +kernel⟩
abbrev s__law_any_budget : Stmt := topS 29
abbrev N__law_any_budget : List Str := ["_law_m", "_law_left", "_law_rows", "_law_most", "_law_k", "_law_above"]
theorem sc__law_any_budget : FnScope N__law_any_budget ["_law_m"] (defScope s__law_any_budget) := ⟨rfl, rfl, rfl, by decide +kernel, rfl, by decide +kernel, by decide +kernel⟩
abbrev s__law_any_grade : Stmt := topS 30
abbrev N__law_any_grade : List Str := ["_law_m", "_law_k"]
theorem sc__law_any_grade : FnScope N__law_any_grade ["_law_m"] (defScope s__law_any_grade) := ⟨rfl, rfl, rfl, by decide +kernel, rfl, by decide +kernel, by decide +kernel⟩
abbrev s_is_whole : Stmt := topS 5
abbrev N_is_whole : List Str := ["thing", "least", "most"]
theorem sc_is_whole : FnScope N_is_whole ["thing", "least", "most"] (defScope s_is_whole) := ⟨rfl, rfl, rfl, by decide +kernel, rfl, by decide +kernel, by decide +kernel⟩
abbrev s_is_warmth : Stmt := topS 9
abbrev N_is_warmth : List Str := ["thing"]
theorem sc_is_warmth : FnScope N_is_warmth ["thing"] (defScope s_is_warmth) := ⟨rfl, rfl, rfl, by decide +kernel, rfl, by decide +kernel, by decide +kernel⟩
abbrev s_is_rate : Stmt := topS 15
abbrev N_is_rate : List Str := ["thing"]
theorem sc_is_rate : FnScope N_is_rate ["thing"] (defScope s_is_rate) := ⟨rfl, rfl, rfl, by decide +kernel, rfl, by decide +kernel, by decide +kernel⟩
abbrev s_is_budget : Stmt := topS 16
abbrev N_is_budget : List Str := ["thing", "rises", "rate", "one", "other"]
theorem sc_is_budget : FnScope N_is_budget ["thing"] (defScope s_is_budget) := ⟨rfl, rfl, rfl, by decide +kernel, rfl, by decide +kernel, by decide +kernel⟩
abbrev s_is_grade : Stmt := topS 17
abbrev N_is_grade : List Str := ["thing", "one"]
theorem sc_is_grade : FnScope N_is_grade ["thing"] (defScope s_is_grade) := ⟨rfl, rfl, rfl, by decide +kernel, rfl, by decide +kernel, by decide +kernel⟩
abbrev s_need_grade : Stmt := topS 18
abbrev N_need_grade : List Str := ["thing"]
theorem sc_need_grade : FnScope N_need_grade ["thing"] (defScope s_need_grade) := ⟨rfl, rfl, rfl, by decide +kernel, rfl, by decide +kernel, by decide +kernel⟩
abbrev s_units_of : Stmt := topS 19
abbrev N_units_of : List Str := ["budget", "warmth", "found", "above", "many"]
theorem sc_units_of : FnScope N_units_of ["budget", "warmth"] (defScope s_units_of) := ⟨rfl, rfl, rfl, by decide +kernel, rfl, by decide +kernel, by decide +kernel⟩
abbrev s_need_warmth : Stmt := topS 20
abbrev N_need_warmth : List Str := ["thing"]
theorem sc_need_warmth : FnScope N_need_warmth ["thing"] (defScope s_need_warmth) := ⟨rfl, rfl, rfl, by decide +kernel, rfl, by decide +kernel, by decide +kernel⟩
abbrev s_units_by : Stmt := topS 22
abbrev N_units_by : List Str := ["grade", "warmth", "budget"]
theorem sc_units_by : FnScope N_units_by ["grade", "warmth"] (defScope s_units_by) := ⟨rfl, rfl, rfl, by decide +kernel, rfl, by decide +kernel, by decide +kernel⟩
abbrev s__law_row : Stmt := topS 31
abbrev N__law_row : List Str := ["_law_grade", "_law_warmth"]
theorem sc__law_row : FnScope N__law_row ["_law_grade"] (defScope s__law_row) := ⟨rfl, rfl, rfl, by decide +kernel, rfl, by decide +kernel, by decide +kernel⟩
abbrev s__law_moved : Stmt := topS 32
abbrev N__law_moved : List Str := ["_law_grade", "_law_many", "_law_found", "_law_rates", "_law_most", "_law_rows", "_law_above", "_law_own"]
theorem sc__law_moved : FnScope N__law_moved ["_law_grade", "_law_many"] (defScope s__law_moved) := ⟨rfl, rfl, rfl, by decide +kernel, rfl, by decide +kernel, by decide +kernel⟩
abbrev s__law_moved_right : Stmt := topS 33
abbrev N__law_moved_right : List Str := ["_law_grade", "_law_row_here", "_law_many", "_law_other", "_law_moved_here", "_law_here", "_law_k", "_law_warmth"]
theorem sc__law_moved_right : FnScope N__law_moved_right ["_law_grade", "_law_row_here", "_law_many"] (defScope s__law_moved_right) := ⟨rfl, rfl, rfl, by decide +kernel, rfl, by decide +kernel, by decide +kernel⟩
abbrev s_units : Stmt := topS 21
abbrev N_units : List Str := ["budget", "warmth"]
theorem sc_units : FnScope N_units ["budget", "warmth"] (defScope s_units) := ⟨rfl, rfl, rfl, by decide +kernel, rfl, by decide +kernel, by decide +kernel⟩
abbrev s__law_steps_right : Stmt := topS 34
abbrev N__law_steps_right : List Str := ["_law_budget_here", "_law_rates", "_law_own", "_law_behind", "_law_warmth", "_law_ahead", "_law_here", "_law_k", "_law_above", "_law_many", "_law_one"]
theorem sc__law_steps_right : FnScope N__law_steps_right ["_law_budget_here"] (defScope s__law_steps_right) := ⟨rfl, rfl, rfl, by decide +kernel, rfl, by decide +kernel, by decide +kernel⟩
abbrev s__law_parts_right : Stmt := topS 35
abbrev N__law_parts_right : List Str := ["_law_grade", "_law_row_here", "_law_k", "_law_budget_here", "_law_own", "_law_one", "_law_warmth"]
theorem sc__law_parts_right : FnScope N__law_parts_right ["_law_grade", "_law_row_here"] (defScope s__law_parts_right) := ⟨rfl, rfl, rfl, by decide +kernel, rfl, by decide +kernel, by decide +kernel⟩
abbrev s__law_rates_right : Stmt := topS 36
abbrev N__law_rates_right : List Str := ["_law_m", "_law_budget_here", "_law_rates", "_law_most", "_law_warmth", "_law_alone", "_law_less", "_law_k", "_law_above", "_law_many"]
theorem sc__law_rates_right : FnScope N__law_rates_right ["_law_m", "_law_budget_here"] (defScope s__law_rates_right) := ⟨rfl, rfl, rfl, by decide +kernel, rfl, by decide +kernel, by decide +kernel⟩
abbrev s_law : Stmt := topS 37
abbrev N_law : List Str := ["_law_script", "_law_m", "_law_turn", "_law_grade", "_law_row_here", "_law_kept", "_law_many", "_law_spared", "_law_budget_here", "_law_rates", "_law_most"]
theorem sc_law : FnScope N_law ["_law_script"] (defScope s_law) := ⟨rfl, rfl, rfl, by decide +kernel, rfl, by decide +kernel, by decide +kernel⟩
/-! ### what the defs compute -/
def m__law_mixed : MS := (mSeq (mSet 2 (mBin (fAdd false) (mBin (fAdd false) (mBin fMod (mBin (fMulA false) (mBin (fMulA false) (mVar 0) (mBin (fAdd false) (mC (.int 1)) (mBin (fMulA false) (mC (.int 2)) (mVar 1)))) (mC (.int 48271))) (mC (.int 2147483647))) (mBin (fMulA false) (mBin (fMulA false) (mC (.int 7919)) (mVar 1)) (mVar 1))) (mBin (fMulA false) (mC (.int 104729)) (mVar 1))))
  (mRet (mBin fDiv (mBin fMod (mBin (fMulA false) (mVar 2) (mC (.int 69621))) (mC (.int 2147483629))) (mC (.int 7)))))
def F__law_mixed : FA := runF 3 m__law_mixed
def m__law_draw : MS := (mSeq (mSet 2 (mBin fIxD (mVar 0) (mC (.str "at"))))
  (mSeq (mAsg (mBin (fAdd false) (mVar 2) (mC (.int 1))) (gSubD (mVar 0) (mC (.str "at"))))
  (mSeq (mIte (mTst (mBin (fEqA true) (mBin fIxD (mVar 0) (mC (.str "left"))) (mLst mNil))) (mSeq (mSet 3 (mBin fMod (mVar 2) (mB fLen (mCons (mBin fIxD (mVar 0) (mC (.str "left"))) mNil))))
  (mSeq (mSet 4 (mBin fIx (mBin fIxD (mVar 0) (mC (.str "left"))) (mVar 3)))
  (mIte (mTst (mBin fGt (mVar 4) (mC (.int 0)))) (mSeq (mAsg (mBin fDiv (mVar 4) (mVar 1)) (gSubD (mBin fIxD (mVar 0) (mC (.str "left"))) (mVar 3)))
  (mRet (mBin fMod (mVar 4) (mVar 1)))) mSkip))) mSkip)
  (mRet (mBin fMod (mB (argN 2 F__law_mixed) (mCons (mB (argN 2 F__law_mixed) (mCons (mBin (fAdd false) (mBin fIx (mBin fIxD (mVar 0) (mC (.str "cells"))) (mBin fMod (mVar 2) (mC (.int 64)))) (mBin (fMulA false) (mC (.int 31)) (mBin fDiv (mVar 2) (mC (.int 64))))) (mCons (mVar 2) mNil))) (mCons (mBin (fAdd false) (mVar 2) (mC (.int 7))) mNil))) (mVar 1))))))
def F__law_draw : FA := runF 5 m__law_draw
def m__law_folded : MS := (mSeq (mSet 1 (mComp true [2] (mRng1 (mC (.int 64))) (gN 2) mYes (mBin (fAdd false) (mC (.int 17)) (mVar 2))))
  (mSeq (mFor (mEnum (mVar 0)) (gT 2 (gCons' (gN 2) (gCons' (gN 3) gNil')))
  (mAsg (mBin fMod (mBin (fAdd false) (mBin (fMulA false) (mBin fIx (mVar 1) (mBin fMod (mVar 2) (mC (.int 64)))) (mC (.int 48271))) (mVar 3)) (mC (.int 2147483647))) (gSubD (mVar 1) (mBin fMod (mVar 2) (mC (.int 64))))))
  (mSeq (mFor (mRng2 (mC (.int 1)) (mC (.int 64))) (gN 2)
  (mAsg (mBin fMod (mBin (fAdd false) (mBin fIx (mVar 1) (mVar 2)) (mBin (fMulA false) (mBin fIx (mVar 1) (mBin fSub (mVar 2) (mC (.int 1)))) (mC (.int 16807)))) (mC (.int 2147483647))) (gSubD (mVar 1) (mVar 2))))
  (mRet (mVar 1)))))
def F__law_folded : FA := runF 4 m__law_folded
def m__law_begun : MS := (mSeq (mSet 1 (mDisp true [((mC (.str "cells")), (mB (argN 1 F__law_folded) (mCons (mVar 0) mNil))), ((mC (.str "left")), (mLst mNil)), ((mC (.str "at")), (mC (.int 0)))]))
  (mSeq (mAsg (mComp true [2] (mIt (mVar 0)) (gN 2) mYes (mIf (mTst (mBin fGe (mVar 2) (mBin fPow (mC (.int 10)) (mC (.int 18))))) (mVar 2) (mC (.int 0)))) (gSubD (mVar 1) (mC (.str "left"))))
  (mRet (mVar 1))))
def F__law_begun : FA := runF 3 m__law_begun
def m__law_budget : MS := (mSeq (mPar 1 2 (mCons (mBin fSub (mB (argN 2 F__law_draw) (mCons (mVar 0) (mCons (mC (.int 6)) mNil))) (mC (.int 2))) (mCons (mLstA mNil) mNil)))
  (mSeq (mFor (mRng1 (mBin (fAdd false) (mC (.int 1)) (mB (argN 2 F__law_draw) (mCons (mVar 0) (mCons (mBin fIx (mLst (mCons (mC (.int 2)) (mCons (mC (.int 5)) mNil))) (mB (argN 2 F__law_draw) (mCons (mVar 0) (mCons (mC (.int 2)) mNil)))) mNil))))) (gN 3)
  (mSeq (mDrop (mApp (mVar 2) (mTup (mCons (mVar 1) (mCons (mBin fIx (mLst (mCons (mC (.int 0)) (mCons (mC (.int 1)) (mCons (mC (.int 1)) (mCons (mC (.int 2)) (mCons (mB (argN 2 F__law_draw) (mCons (mVar 0) (mCons (mC (.int 10)) mNil))) mNil)))))) (mB (argN 2 F__law_draw) (mCons (mVar 0) (mCons (mC (.int 5)) mNil)))) mNil)))))
  (mSet 1 (mBin (fAdd false) (mBin (fAdd false) (mVar 1) (mC (.int 1))) (mB (argN 2 F__law_draw) (mCons (mVar 0) (mCons (mBin fIx (mLst (mCons (mC (.int 3)) (mCons (mC (.int 11)) mNil))) (mB (argN 2 F__law_draw) (mCons (mVar 0) (mCons (mC (.int 2)) mNil)))) mNil)))))))
  (mRet (mTup (mCons (mB fTuple (mCons (mVar 2) mNil)) (mCons (mBin fIx (mLst (mCons (mB (argN 2 F__law_draw) (mCons (mVar 0) (mCons (mC (.int 20)) mNil))) (mCons (mB (argN 2 F__law_draw) (mCons (mVar 0) (mCons (mC (.int 60)) mNil))) (mCons (mC (.int 9999)) (mCons (mC (.int 0)) mNil))))) (mB (argN 2 F__law_draw) (mCons (mVar 0) (mCons (mC (.int 4)) mNil)))) mNil))))))
def F__law_budget : FA := trimF (runF 4 m__law_budget)
def m__law_any_budget : MS := (mSeq (mSet 1 (mIf (mTst (mBin (fEqA false) (mB (argN 2 F__law_draw) (mCons (mVar 0) (mCons (mC (.int 2)) mNil))) (mC (.int 0)))) (mLRg true (mRng2 (mNeg (mC (.int 60))) (mC (.int 61)))) (mLRg true (mRng2 (mNeg (mC (.int 3))) (mC (.int 9))))))
  (mSeq (mSet 2 (mB (fSorted false) (mCons (mComp false [4] (mRng1 (mBin (fAdd false) (mC (.int 1)) (mB (argN 2 F__law_draw) (mCons (mVar 0) (mCons (mC (.int 5)) mNil))))) (gN 4) mYes (mPop (mVar 1) (mB (argN 2 F__law_draw) (mCons (mVar 0) (mCons (mB fLen (mCons (mVar 1) mNil)) mNil))))) mNil)))
  (mSeq (mSet 3 (mBin fIx (mLst (mCons (mC (.int 0)) (mCons (mC (.int 9999)) (mCons (mB (argN 2 F__law_draw) (mCons (mVar 0) (mCons (mC (.int 10000)) mNil))) (mCons (mB (argN 2 F__law_draw) (mCons (mVar 0) (mCons (mC (.int 60)) mNil))) mNil))))) (mB (argN 2 F__law_draw) (mCons (mVar 0) (mCons (mC (.int 4)) mNil)))))
  (mRet (mTup (mCons (mB fTuple (mCons (mComp false [5] (mIt (mVar 2)) (gN 5) mYes (mTup (mCons (mVar 5) (mCons (mB (argN 2 F__law_draw) (mCons (mVar 0) (mCons (mC (.int 10)) mNil))) mNil)))) mNil)) (mCons (mVar 3) mNil)))))))
def F__law_any_budget : FA := trimF (runF 6 m__law_any_budget)
def tab_0 : Str → Option FA := fun x => if x = "_law_budget" then some F__law_budget else if x = "_law_any_budget" then some F__law_any_budget else none
def m__law_any_grade : MS := (mRet (mB fTuple (mCons (mComp false [1] (mRng1 (mBin (fAdd false) (mC (.int 1)) (mB (argN 2 F__law_draw) (mCons (mVar 0) (mCons (mC (.int 3)) mNil))))) (gN 1) mYes (mCallT tab_0 1 (mBin fIx (mLst (mCons (mC (.fn "_law_budget")) (mCons (mC (.fn "_law_any_budget")) mNil))) (mB (argN 2 F__law_draw) (mCons (mVar 0) (mCons (mC (.int 2)) mNil)))) (mCons (mVar 0) mNil))) mNil)))
def F__law_any_grade : FA := runF 2 m__law_any_grade
def m_is_whole : MS := (mRet (mAndV (mIsi .int (mVar 0)) (mAndV (mNotV (mIsi .bl (mVar 0))) (mChain fLe fLe (mVar 1) (mVar 0) (mVar 2)))))
def F_is_whole : FA := runF 3 m_is_whole
def m_is_warmth : MS := (mRet (mB (argN 3 F_is_whole) (mCons (mVar 0) (mCons (mC (.int (-60))) (mCons (mC (.int (60))) mNil)))))
def F_is_warmth : FA := runF 1 m_is_warmth
def m_is_rate : MS := (mSeq (mIte (mOrT (mNotT (mTst (mIsi .tup (mVar 0)))) (mTst (mBin (fEqA true) (mB fLen (mCons (mVar 0) mNil)) (mC (.int 2))))) (mRet (mC (.bl false))) mSkip)
  (mRet (mAndV (mB (argN 1 F_is_warmth) (mCons (mBin fIx (mVar 0) (mC (.int 0))) mNil)) (mB (argN 3 F_is_whole) (mCons (mBin fIx (mVar 0) (mC (.int 1))) (mCons (mC (.int 0)) (mCons (mC (.int (9))) mNil)))))))
def F_is_rate : FA := runF 1 m_is_rate
def m_is_budget : MS := (mSeq (mIte (mOrT (mNotT (mTst (mIsi .tup (mVar 0)))) (mOrT (mTst (mBin (fEqA true) (mB fLen (mCons (mVar 0) mNil)) (mC (.int 2)))) (mNotT (mTst (mIsi .tup (mBin fIx (mVar 0) (mC (.int 0)))))))) (mRet (mC (.bl false))) mSkip)
  (mSeq (mIte (mOrT (mNotT (mTst (mChain fLe fLe (mC (.int 1)) (mB fLen (mCons (mBin fIx (mVar 0) (mC (.int 0))) mNil)) (mC (.int (5)))))) (mNotT (mTst (mB (fAll fun bs => bs.all id) (mCons (mComp false [2] (mIt (mBin fIx (mVar 0) (mC (.int 0)))) (gN 2) mYes (mB (argN 1 F_is_rate) (mCons (mVar 2) mNil))) mNil))))) (mRet (mC (.bl false))) mSkip)
  (mSeq (mSet 1 (mB (fAll fun bs => bs.all id) (mCons (mComp false [3, 4] (mZip (mBin fIx (mVar 0) (mC (.int 0))) (mSl false (mBin fIx (mVar 0) (mC (.int 0))) (mO (mC (.int 1))) mO0)) (gT 2 (gCons' (gN 3) (gCons' (gN 4) gNil'))) mYes (mBin fLt (mBin fIx (mVar 3) (mC (.int 0))) (mBin fIx (mVar 4) (mC (.int 0))))) mNil)))
  (mRet (mAndV (mVar 1) (mB (argN 3 F_is_whole) (mCons (mBin fIx (mVar 0) (mC (.int 1))) (mCons (mC (.int 0)) (mCons (mC (.int (9999))) mNil)))))))))
def F_is_budget : FA := runF 5 m_is_budget
def m_is_grade : MS := (mRet (mAndV (mIsi .tup (mVar 0)) (mAndV (mChain fLe fLe (mC (.int 1)) (mB fLen (mCons (mVar 0) mNil)) (mC (.int (3)))) (mB (fAll fun bs => bs.all id) (mCons (mComp false [1] (mIt (mVar 0)) (gN 1) mYes (mB (argN 1 F_is_budget) (mCons (mVar 1) mNil))) mNil)))))
def F_is_grade : FA := runF 2 m_is_grade
def m_need_grade : MS := (mIte (mNotT (mTst (mB (argN 1 F_is_grade) (mCons (mVar 0) mNil)))) (mRaise "BadGrade") mSkip)
def F_need_grade : FA := runF 1 m_need_grade
def m_units_of : MS := (mSeq (mSet 2 (mC (.int 0)))
  (mSeq (mFor (mIt (mBin fIx (mVar 0) (mC (.int 0)))) (gT 2 (gCons' (gN 3) (gCons' (gN 4) gNil')))
  (mIte (mTst (mBin fGt (mVar 1) (mVar 3))) (mSet 2 (mVar 4)) mSkip))
  (mRet (mVar 2))))
def F_units_of : FA := runF 5 m_units_of
def m_need_warmth : MS := (mIte (mNotT (mTst (mB (argN 1 F_is_warmth) (mCons (mVar 0) mNil)))) (mRaise "BadWarmth") mSkip)
def F_need_warmth : FA := runF 1 m_need_warmth
def m_units_by : MS := (mSeq (mDropX (mB (argN 1 F_need_grade) (mCons (mVar 0) mNil)))
  (mSeq (mDropX (mB (argN 1 F_need_warmth) (mCons (mVar 1) mNil)))
  (mRet (mB fTuple (mCons (mComp false [2] (mIt (mVar 0)) (gN 2) mYes (mB (argN 2 F_units_of) (mCons (mVar 2) (mCons (mVar 1) mNil)))) mNil)))))
def F_units_by : FA := runF 3 m_units_by
def m__law_row : MS := (mRet (mComp false [1] (mRng2 (mNeg (mC (.int 60))) (mC (.int 61))) (gN 1) mYes (mB (argN 2 (noX F_units_by)) (mCons (mVar 0) (mCons (mVar 1) mNil)))))
def F__law_row : FA := runF 2 m__law_row
def m__law_moved : MS := (mSeq (mSet 2 (mLstA mNil))
  (mSeq (mFor (mIt (mVar 0)) (gT 2 (gCons' (gN 3) (gCons' (gN 4) gNil')))
  (mSeq (mSet 5 (mComp false [6, 7] (mIt (mVar 3)) (gT 2 (gCons' (gN 6) (gCons' (gN 7) gNil'))) (mTst (mChain fLt fLt (mNeg (mC (.int 61))) (mBin (fAdd false) (mVar 6) (mVar 1)) (mC (.int 61)))) (mTup (mCons (mBin (fAdd false) (mVar 6) (mVar 1)) (mCons (mVar 7) mNil)))))
  (mDrop (mApp (mVar 2) (mTup (mCons (mB fTuple (mCons (mVar 5) mNil)) (mCons (mVar 4) mNil)))))))
  (mRet (mB fTuple (mCons (mVar 2) mNil)))))
def F__law_moved : FA := trimF (runF 8 m__law_moved)
def m__law_moved_right : MS := (mSeq (mSet 3 (mB (argN 2 F__law_moved) (mCons (mVar 0) (mCons (mVar 2) mNil))))
  (mSeq (mIte (mTst (mBin (fEqA true) (mComp false [6] (mRng1 (mB fLen (mCons (mVar 0) mNil))) (gN 6) (mTst (mBin fLt (mB fLen (mCons (mBin fIx (mBin fIx (mVar 3) (mVar 6)) (mC (.int 0))) mNil)) (mB fLen (mCons (mBin fIx (mBin fIx (mVar 0) (mVar 6)) (mC (.int 0))) mNil)))) (mVar 6)) (mLst mNil))) (mRet (mC (.bl true))) mSkip)
  (mSeq (mSet 4 (mB (argN 1 F__law_row) (mCons (mVar 3) mNil)))
  (mSeq (mSet 5 (mComp false [7] (mRng2 (mNeg (mC (.int 60))) (mC (.int 61))) (gN 7) (mTst (mChain fLt fLt (mNeg (mC (.int 61))) (mBin fSub (mVar 7) (mVar 2)) (mC (.int 61)))) (mVar 7)))
  (mRet (mBin (fEqA false) (mComp false [7] (mIt (mVar 5)) (gN 7) (mTst (mBin (fEqA true) (mBin fIx (mVar 4) (mBin (fAdd false) (mVar 7) (mC (.int 60)))) (mBin fIx (mVar 1) (mBin (fAdd false) (mBin fSub (mVar 7) (mVar 2)) (mC (.int 60)))))) (mVar 7)) (mLst mNil)))))))
def F__law_moved_right : FA := runF 8 m__law_moved_right
def m_units : MS := (mSeq (mIte (mNotT (mTst (mB (argN 1 F_is_budget) (mCons (mVar 0) mNil)))) (mRaise "BadGrade") mSkip)
  (mSeq (mDropX (mB (argN 1 F_need_warmth) (mCons (mVar 1) mNil)))
  (mRet (mB (argN 2 F_units_of) (mCons (mVar 0) (mCons (mVar 1) mNil))))))
def F_units : FA := runF 2 m_units
def m__law_steps_right : MS := (mSeq (mAsg (mTup (mCons (mBin fIx (mVar 0) (mC (.int 0))) (mCons (mComp false [4] (mRng2 (mNeg (mC (.int 60))) (mC (.int 61))) (gN 4) mYes (mB (argN 2 (noX F_units)) (mCons (mVar 0) (mCons (mVar 4) mNil)))) mNil))) (gT 2 (gCons' (gN 1) (gCons' (gN 2) gNil'))))
  (mSeq (mSet 3 (mB (fDictT false) (mCons (mComp false [7, 8, 9] (mEnumT (mVar 1)) (gT 2 (gCons' (gN 7) (gCons' (gT 2 (gCons' (gN 8) (gCons' (gN 9) gNil'))) gNil'))) mYes (mTup (mCons (mBin (fAdd false) (mVar 8) (mC (.int 1))) (mCons (mTup (mCons (mBin fIx (mBin fIx (mBin (fAdd false) (mLst (mCons (mTup (mCons (mC (.int 0)) (mCons (mC (.int 0)) mNil))) mNil)) (mB (fList false) (mCons (mVar 1) mNil))) (mVar 7)) (mC (.int 1))) (mCons (mBin fIx (mBin fIx (mVar 1) (mVar 7)) (mC (.int 1))) mNil))) mNil)))) mNil)))
  (mSeq (mFor (mRng2 (mNeg (mC (.int 59))) (mC (.int 61))) (gN 4)
  (mSeq (mAsg (mGet2 (mVar 3) (mVar 4) (mTup (mCons (mBin fIx (mVar 2) (mBin (fAdd false) (mVar 4) (mC (.int 60)))) (mCons (mBin fIx (mVar 2) (mBin (fAdd false) (mVar 4) (mC (.int 60)))) mNil)))) (gT 2 (gCons' (gN 5) (gCons' (gN 6) gNil'))))
  (mIte (mOrT (mTst (mBin (fEqA true) (mBin fIx (mVar 2) (mBin (fAdd false) (mVar 4) (mC (.int 60)))) (mVar 6))) (mTst (mBin (fEqA true) (mBin fIx (mVar 2) (mBin (fAdd false) (mVar 4) (mC (.int 59)))) (mVar 5)))) (mRet (mC (.bl false))) mSkip)))
  (mRet (mAndV (mBin (fEqA false) (mBin fIx (mVar 2) (mC (.int 0))) (mC (.int 0))) (mBin (fEqA false) (mComp false [10] (mIt (mVar 2)) (gN 10) (mTst (mIsi .bl (mVar 10))) (mVar 10)) (mLst mNil)))))))
def F__law_steps_right : FA := runF 11 m__law_steps_right
def m__law_parts_right : MS := (mSeq (mFor (mEnumT (mVar 0)) (gT 2 (gCons' (gN 2) (gCons' (gN 3) gNil')))
  (mSeq (mSet 4 (mComp false [5] (mIt (mVar 1)) (gN 5) mYes (mBin fIx (mVar 5) (mVar 2))))
  (mSeq (mIte (mOrT (mTst (mBin (fEqA true) (mComp false [6] (mRng2 (mNeg (mC (.int 60))) (mC (.int 61))) (gN 6) mYes (mB (argN 2 (noX F_units)) (mCons (mVar 3) (mCons (mVar 6) mNil)))) (mVar 4))) (mNotT (mTst (mB (argN 1 F__law_steps_right) (mCons (mVar 3) mNil))))) (mRet (mC (.bl false))) mSkip)
  (mIte (mTst (mBin (fEqA true) (mB (argN 1 F__law_row) (mCons (mBin (fMulA false) (mTup (mCons (mVar 3) mNil)) (mC (.int 3))) mNil)) (mComp false [5] (mIt (mVar 4)) (gN 5) mYes (mBin (fMulA false) (mTup (mCons (mVar 5) mNil)) (mC (.int 3)))))) (mRet (mC (.bl false))) mSkip))))
  (mRet (mBin (fEqA false) (mB (argN 1 F__law_row) (mCons (mRev false (mVar 0)) mNil)) (mComp false [5] (mIt (mVar 1)) (gN 5) mYes (mRev false (mVar 5))))))
def F__law_parts_right : FA := runF 7 m__law_parts_right
def m__law_rates_right : MS := (mSeq (mAsg (mVar 1) (gT 2 (gCons' (gN 2) (gCons' (gN 3) gNil'))))
  (mSeq (mFor (mIt (mComp false [7] (mRng1 (mC (.int 12))) (gN 7) mYes (mBin fSub (mB (argN 2 F__law_draw) (mCons (mVar 0) (mCons (mC (.int 121)) mNil))) (mC (.int 60))))) (gN 4)
  (mSeq (mSet 5 (mComp false [7] (mRng1 (mB fLen (mCons (mVar 2) mNil))) (gN 7) mYes (mB (argN 2 (noX F_units)) (mCons (mTup (mCons (mSl false (mVar 2) (mO (mVar 7)) (mO (mBin (fAdd false) (mVar 7) (mC (.int 1))))) (mCons (mVar 3) mNil))) (mCons (mVar 4) mNil)))))
  (mSeq (mIte (mTst (mBin (fEqA true) (mVar 5) (mComp false [8, 9] (mIt (mVar 2)) (gT 2 (gCons' (gN 8) (gCons' (gN 9) gNil'))) mYes (mBin fIx (mLst (mCons (mC (.int 0)) (mCons (mVar 9) mNil))) (mB fInt (mCons (mBin fLt (mVar 8) (mVar 4)) mNil)))))) (mRet (mC (.bl false))) mSkip)
  (mSeq (mSet 6 (mComp false [7] (mRng1 (mB fLen (mCons (mVar 2) mNil))) (gN 7) (mTst (mBin fLt (mBin fIx (mBin fIx (mVar 2) (mVar 7)) (mC (.int 0))) (mVar 4))) (mVar 7)))
  (mSeq (mIte (mTst (mBin (fEqA true) (mB (argN 2 (noX F_units)) (mCons (mVar 1) (mCons (mVar 4) mNil))) (mBin fIx (mBin (fAdd false) (mLst (mCons (mC (.int 0)) mNil)) (mComp false [7] (mIt (mVar 6)) (gN 7) mYes (mBin fIx (mVar 5) (mVar 7)))) (mNeg (mC (.int 1)))))) (mRet (mC (.bl false))) mSkip)
  (mIte (mAndT (mTst (mBin (fEqA true) (mVar 6) (mLst mNil))) (mTst (mBin (fEqA true) (mB (argN 2 (noX F_units)) (mCons (mTup (mCons (mSl false (mVar 2) (mO (mBin fIx (mVar 6) (mNeg (mC (.int 1))))) mO0) (mCons (mC (.int 0)) mNil))) (mCons (mVar 4) mNil))) (mB (argN 2 (noX F_units)) (mCons (mVar 1) (mCons (mVar 4) mNil)))))) (mRet (mC (.bl false))) mSkip))))))
  (mRet (mC (.bl true)))))
def F__law_rates_right : FA := runF 10 m__law_rates_right
def m_law : MS := (mSeq (mSet 1 (mB (argN 1 F__law_begun) (mCons (mVar 0) mNil)))
  (mSeq (mFor (mRng1 (mC (.int 5))) (gN 2)
  (mSeq (mSet 3 (mB (argN 1 F__law_any_grade) (mCons (mVar 1) mNil)))
  (mSeq (mPar 4 5 (mCons (mB (argN 1 F__law_row) (mCons (mVar 3) mNil)) (mCons (mB fRepr (mCons (mVar 3) mNil)) mNil)))
  (mSeq (mIte (mNotT (mTst (mB (argN 2 F__law_parts_right) (mCons (mVar 3) (mCons (mVar 4) mNil))))) (mRet (mC (.bl false))) mSkip)
  (mSeq (mFor (mIt (mTup (mCons (mBin (fAdd false) (mC (.int 1)) (mB (argN 2 F__law_draw) (mCons (mVar 1) (mCons (mC (.int 9)) mNil)))) (mCons (mBin fSub (mNeg (mC (.int 1))) (mB (argN 2 F__law_draw) (mCons (mVar 1) (mCons (mC (.int 40)) mNil)))) mNil)))) (gN 6)
  (mIte (mNotT (mTst (mB (argN 3 F__law_moved_right) (mCons (mVar 3) (mCons (mVar 4) (mCons (mVar 6) mNil)))))) (mRet (mC (.bl false))) mSkip))
  (mSeq (mIte (mTst (mBin (fEqA true) (mComp false [8] (mIt (mVar 3)) (gN 8) (mNotT (mTst (mB (argN 2 F__law_rates_right) (mCons (mVar 1) (mCons (mVar 8) mNil))))) (mVar 8)) (mLst mNil))) (mRet (mC (.bl false))) mSkip)
  (mSeq (mSet 7 (mB fTuple (mCons (mComp false [9, 10] (mIt (mVar 3)) (gT 2 (gCons' (gN 9) (gCons' (gN 10) gNil'))) mYes (mTup (mCons (mVar 9) (mCons (mB (argN 2 F__law_draw) (mCons (mVar 1) (mCons (mC (.int 10000)) mNil))) mNil)))) mNil)))
  (mIte (mOrT (mTst (mBin (fEqA true) (mB (argN 1 F__law_row) (mCons (mVar 7) mNil)) (mVar 4))) (mTst (mBin (fEqA true) (mB fRepr (mCons (mVar 3) mNil)) (mVar 5)))) (mRet (mC (.bl false))) mSkip))))))))
  (mRet (mC (.bl true)))))
def F_law : FA := runF 11 m_law
/-! ### the head: facts by names -/
def d__law_mixed : He.DefD := ⟨("_law_mixed", none), "_law_mixed", "_law_mixed", defArgs s__law_mixed, defBody s__law_mixed, defScope s__law_mixed, [], []⟩
def d__law_draw : He.DefD := ⟨("_law_draw", none), "_law_draw", "_law_draw", defArgs s__law_draw, defBody s__law_draw, defScope s__law_draw, [], []⟩
def d__law_folded : He.DefD := ⟨("_law_folded", none), "_law_folded", "_law_folded", defArgs s__law_folded, defBody s__law_folded, defScope s__law_folded, [], []⟩
def d__law_begun : He.DefD := ⟨("_law_begun", none), "_law_begun", "_law_begun", defArgs s__law_begun, defBody s__law_begun, defScope s__law_begun, [], []⟩
def d__law_budget : He.DefD := ⟨("_law_budget", none), "_law_budget", "_law_budget", defArgs s__law_budget, defBody s__law_budget, defScope s__law_budget, [], []⟩
def d__law_any_budget : He.DefD := ⟨("_law_any_budget", none), "_law_any_budget", "_law_any_budget", defArgs s__law_any_budget, defBody s__law_any_budget, defScope s__law_any_budget, [], []⟩
def d__law_any_grade : He.DefD := ⟨("_law_any_grade", none), "_law_any_grade", "_law_any_grade", defArgs s__law_any_grade, defBody s__law_any_grade, defScope s__law_any_grade, [], []⟩
def d_is_whole : He.DefD := ⟨("is_whole", none), "is_whole", "is_whole", defArgs s_is_whole, defBody s_is_whole, defScope s_is_whole, [], []⟩
def d_is_warmth : He.DefD := ⟨("is_warmth", none), "is_warmth", "is_warmth", defArgs s_is_warmth, defBody s_is_warmth, defScope s_is_warmth, [], []⟩
def d_is_rate : He.DefD := ⟨("is_rate", none), "is_rate", "is_rate", defArgs s_is_rate, defBody s_is_rate, defScope s_is_rate, [], []⟩
def d_is_budget : He.DefD := ⟨("is_budget", none), "is_budget", "is_budget", defArgs s_is_budget, defBody s_is_budget, defScope s_is_budget, [], []⟩
def d_is_grade : He.DefD := ⟨("is_grade", none), "is_grade", "is_grade", defArgs s_is_grade, defBody s_is_grade, defScope s_is_grade, [], []⟩
def d_need_grade : He.DefD := ⟨("need_grade", none), "need_grade", "need_grade", defArgs s_need_grade, defBody s_need_grade, defScope s_need_grade, [], []⟩
def d_units_of : He.DefD := ⟨("units_of", none), "units_of", "units_of", defArgs s_units_of, defBody s_units_of, defScope s_units_of, [], []⟩
def d_need_warmth : He.DefD := ⟨("need_warmth", none), "need_warmth", "need_warmth", defArgs s_need_warmth, defBody s_need_warmth, defScope s_need_warmth, [], []⟩
def d_units_by : He.DefD := ⟨("units_by", none), "units_by", "units_by", defArgs s_units_by, defBody s_units_by, defScope s_units_by, [], []⟩
def d__law_row : He.DefD := ⟨("_law_row", none), "_law_row", "_law_row", defArgs s__law_row, defBody s__law_row, defScope s__law_row, [], []⟩
def d__law_moved : He.DefD := ⟨("_law_moved", none), "_law_moved", "_law_moved", defArgs s__law_moved, defBody s__law_moved, defScope s__law_moved, [], []⟩
def d__law_moved_right : He.DefD := ⟨("_law_moved_right", none), "_law_moved_right", "_law_moved_right", defArgs s__law_moved_right, defBody s__law_moved_right, defScope s__law_moved_right, [], []⟩
def d_units : He.DefD := ⟨("units", none), "units", "units", defArgs s_units, defBody s_units, defScope s_units, [], []⟩
def d__law_steps_right : He.DefD := ⟨("_law_steps_right", none), "_law_steps_right", "_law_steps_right", defArgs s__law_steps_right, defBody s__law_steps_right, defScope s__law_steps_right, [], []⟩
def d__law_parts_right : He.DefD := ⟨("_law_parts_right", none), "_law_parts_right", "_law_parts_right", defArgs s__law_parts_right, defBody s__law_parts_right, defScope s__law_parts_right, [], []⟩
def d__law_rates_right : He.DefD := ⟨("_law_rates_right", none), "_law_rates_right", "_law_rates_right", defArgs s__law_rates_right, defBody s__law_rates_right, defScope s__law_rates_right, [], []⟩
def d_law : He.DefD := ⟨("law", none), "law", "law", defArgs s_law, defBody s_law, defScope s_law, [], []⟩
def fn : List He.DefD := [d__law_mixed, d__law_draw, d__law_folded, d__law_begun, d__law_budget, d__law_any_budget, d__law_any_grade, d_is_whole, d_is_warmth, d_is_rate, d_is_budget, d_is_grade, d_need_grade, d_units_of, d_need_warmth, d_units_by, d__law_row, d__law_moved, d__law_moved_right, d_units, d__law_steps_right, d__law_parts_right, d__law_rates_right, d_law]
def fa : List He.Fa := [.free "isinstance", .free "bool", .free "int", .int "COLDEST" (-60), .int "WARMEST" (60), .glo "is_whole", .free "len", .free "tuple", .int "MOST_UNITS" (9), .glo "is_warmth", .glo "is_rate", .free "all", .int "MOST_RATES" (5), .free "zip", .int "MOST_IN_ALL" (9999), .glo "is_budget", .int "MOST_BUDGETS" (3), .glo "is_grade", .exc "BadGrade", .glo "BadGrade", .exc "BadWarmth", .glo "BadWarmth", .glo "need_warmth", .glo "units_of", .glo "need_grade", .free "range", .free "enumerate", .glo "_law_mixed", .glo "_law_folded", .glo "_law_draw", .free "list", .free "sorted", .glo "_law_budget", .glo "_law_any_budget", .glo "units_by", .glo "_law_moved", .glo "_law_row", .glo "units", .free "dict", .glo "_law_steps_right", .glo "_law_begun", .glo "_law_any_grade", .free "repr", .glo "_law_parts_right", .glo "_law_moved_right", .glo "_law_rates_right", .glo "law"]
def exL (K : PySem.W.Frag) : List Bool := []
def exK (K : PySem.W.Frag) : Bool := (exL K).all id
structure Cn (K : PySem.W.Frag) (mg : Str → Option Value) : Prop where
  ex : ∃ h : Heap, K.In h ∧ h.Ns mainGlobals mg ∧ He.SaysD fa fn K
  tx : exK K = true
section
variable {K : PySem.W.Frag} {mg : Str → Option Value}
theorem w_free_isinstance (C : Cn K mg) : mg "isinstance" = none := let ⟨_, X, G, c⟩ := C.ex; He.free_ok X G (c.fact 0 (f := .free "isinstance") rfl)
theorem w_free_bool (C : Cn K mg) : mg "bool" = none := let ⟨_, X, G, c⟩ := C.ex; He.free_ok X G (c.fact 1 (f := .free "bool") rfl)
theorem w_free_int (C : Cn K mg) : mg "int" = none := let ⟨_, X, G, c⟩ := C.ex; He.free_ok X G (c.fact 2 (f := .free "int") rfl)
theorem w_int_COLDEST (C : Cn K mg) : ∃ t, mg "COLDEST" = some (.int (-60) t) := let ⟨_, X, G, c⟩ := C.ex; He.int_ok X G (c.fact 3 (f := .int "COLDEST" (-60)) rfl)
theorem w_int_WARMEST (C : Cn K mg) : ∃ t, mg "WARMEST" = some (.int (60) t) := let ⟨_, X, G, c⟩ := C.ex; He.int_ok X G (c.fact 4 (f := .int "WARMEST" (60)) rfl)
theorem w_glo_is_whole (C : Cn K mg) : mg "is_whole" = some (.ref (He.ga K "is_whole")) := let ⟨_, X, G, c⟩ := C.ex; He.glo_ok X G (c.fact 5 (f := .glo "is_whole") rfl)
theorem w_free_len (C : Cn K mg) : mg "len" = none := let ⟨_, X, G, c⟩ := C.ex; He.free_ok X G (c.fact 6 (f := .free "len") rfl)
theorem w_free_tuple (C : Cn K mg) : mg "tuple" = none := let ⟨_, X, G, c⟩ := C.ex; He.free_ok X G (c.fact 7 (f := .free "tuple") rfl)
theorem w_int_MOST_UNITS (C : Cn K mg) : ∃ t, mg "MOST_UNITS" = some (.int (9) t) := let ⟨_, X, G, c⟩ := C.ex; He.int_ok X G (c.fact 8 (f := .int "MOST_UNITS" (9)) rfl)
theorem w_glo_is_warmth (C : Cn K mg) : mg "is_warmth" = some (.ref (He.ga K "is_warmth")) := let ⟨_, X, G, c⟩ := C.ex; He.glo_ok X G (c.fact 9 (f := .glo "is_warmth") rfl)
theorem w_glo_is_rate (C : Cn K mg) : mg "is_rate" = some (.ref (He.ga K "is_rate")) := let ⟨_, X, G, c⟩ := C.ex; He.glo_ok X G (c.fact 10 (f := .glo "is_rate") rfl)
theorem w_free_all (C : Cn K mg) : mg "all" = none := let ⟨_, X, G, c⟩ := C.ex; He.free_ok X G (c.fact 11 (f := .free "all") rfl)
theorem w_int_MOST_RATES (C : Cn K mg) : ∃ t, mg "MOST_RATES" = some (.int (5) t) := let ⟨_, X, G, c⟩ := C.ex; He.int_ok X G (c.fact 12 (f := .int "MOST_RATES" (5)) rfl)
theorem w_free_zip (C : Cn K mg) : mg "zip" = none := let ⟨_, X, G, c⟩ := C.ex; He.free_ok X G (c.fact 13 (f := .free "zip") rfl)
theorem w_int_MOST_IN_ALL (C : Cn K mg) : ∃ t, mg "MOST_IN_ALL" = some (.int (9999) t) := let ⟨_, X, G, c⟩ := C.ex; He.int_ok X G (c.fact 14 (f := .int "MOST_IN_ALL" (9999)) rfl)
theorem w_glo_is_budget (C : Cn K mg) : mg "is_budget" = some (.ref (He.ga K "is_budget")) := let ⟨_, X, G, c⟩ := C.ex; He.glo_ok X G (c.fact 15 (f := .glo "is_budget") rfl)
theorem w_int_MOST_BUDGETS (C : Cn K mg) : ∃ t, mg "MOST_BUDGETS" = some (.int (3) t) := let ⟨_, X, G, c⟩ := C.ex; He.int_ok X G (c.fact 16 (f := .int "MOST_BUDGETS" (3)) rfl)
theorem w_glo_is_grade (C : Cn K mg) : mg "is_grade" = some (.ref (He.ga K "is_grade")) := let ⟨_, X, G, c⟩ := C.ex; He.glo_ok X G (c.fact 17 (f := .glo "is_grade") rfl)
theorem w_exc_BadGrade (C : Cn K mg) : PySem.W.excIn K (He.ga K "BadGrade") He.veBase "ValueError.__new__" = true ∧ PySem.W.keepIn K (.ref (He.ga K "BadGrade")) = true ∧ PySem.W.subIn K (.ref (He.ga K "BadGrade")) (.type "BaseException") = some true ∧ PySem.W.typeIn K (.ref (He.ga K "BadGrade")) = some (.type "type") := let ⟨_, X, G, c⟩ := C.ex; He.exc_ok (c.fact 18 (f := .exc "BadGrade") rfl)
theorem w_glo_BadGrade (C : Cn K mg) : mg "BadGrade" = some (.ref (He.ga K "BadGrade")) := let ⟨_, X, G, c⟩ := C.ex; He.glo_ok X G (c.fact 19 (f := .glo "BadGrade") rfl)
theorem w_exc_BadWarmth (C : Cn K mg) : PySem.W.excIn K (He.ga K "BadWarmth") He.veBase "ValueError.__new__" = true ∧ PySem.W.keepIn K (.ref (He.ga K "BadWarmth")) = true ∧ PySem.W.subIn K (.ref (He.ga K "BadWarmth")) (.type "BaseException") = some true ∧ PySem.W.typeIn K (.ref (He.ga K "BadWarmth")) = some (.type "type") := let ⟨_, X, G, c⟩ := C.ex; He.exc_ok (c.fact 20 (f := .exc "BadWarmth") rfl)
theorem w_glo_BadWarmth (C : Cn K mg) : mg "BadWarmth" = some (.ref (He.ga K "BadWarmth")) := let ⟨_, X, G, c⟩ := C.ex; He.glo_ok X G (c.fact 21 (f := .glo "BadWarmth") rfl)
theorem w_glo_need_warmth (C : Cn K mg) : mg "need_warmth" = some (.ref (He.ga K "need_warmth")) := let ⟨_, X, G, c⟩ := C.ex; He.glo_ok X G (c.fact 22 (f := .glo "need_warmth") rfl)
theorem w_glo_units_of (C : Cn K mg) : mg "units_of" = some (.ref (He.ga K "units_of")) := let ⟨_, X, G, c⟩ := C.ex; He.glo_ok X G (c.fact 23 (f := .glo "units_of") rfl)
theorem w_glo_need_grade (C : Cn K mg) : mg "need_grade" = some (.ref (He.ga K "need_grade")) := let ⟨_, X, G, c⟩ := C.ex; He.glo_ok X G (c.fact 24 (f := .glo "need_grade") rfl)
theorem w_free_range (C : Cn K mg) : mg "range" = none := let ⟨_, X, G, c⟩ := C.ex; He.free_ok X G (c.fact 25 (f := .free "range") rfl)
theorem w_free_enumerate (C : Cn K mg) : mg "enumerate" = none := let ⟨_, X, G, c⟩ := C.ex; He.free_ok X G (c.fact 26 (f := .free "enumerate") rfl)
theorem w_glo__law_mixed (C : Cn K mg) : mg "_law_mixed" = some (.ref (He.ga K "_law_mixed")) := let ⟨_, X, G, c⟩ := C.ex; He.glo_ok X G (c.fact 27 (f := .glo "_law_mixed") rfl)
theorem w_glo__law_folded (C : Cn K mg) : mg "_law_folded" = some (.ref (He.ga K "_law_folded")) := let ⟨_, X, G, c⟩ := C.ex; He.glo_ok X G (c.fact 28 (f := .glo "_law_folded") rfl)
theorem w_glo__law_draw (C : Cn K mg) : mg "_law_draw" = some (.ref (He.ga K "_law_draw")) := let ⟨_, X, G, c⟩ := C.ex; He.glo_ok X G (c.fact 29 (f := .glo "_law_draw") rfl)
theorem w_free_list (C : Cn K mg) : mg "list" = none := let ⟨_, X, G, c⟩ := C.ex; He.free_ok X G (c.fact 30 (f := .free "list") rfl)
theorem w_free_sorted (C : Cn K mg) : mg "sorted" = none := let ⟨_, X, G, c⟩ := C.ex; He.free_ok X G (c.fact 31 (f := .free "sorted") rfl)
theorem w_glo__law_budget (C : Cn K mg) : mg "_law_budget" = some (.ref (He.ga K "_law_budget")) := let ⟨_, X, G, c⟩ := C.ex; He.glo_ok X G (c.fact 32 (f := .glo "_law_budget") rfl)
theorem w_glo__law_any_budget (C : Cn K mg) : mg "_law_any_budget" = some (.ref (He.ga K "_law_any_budget")) := let ⟨_, X, G, c⟩ := C.ex; He.glo_ok X G (c.fact 33 (f := .glo "_law_any_budget") rfl)
theorem w_glo_units_by (C : Cn K mg) : mg "units_by" = some (.ref (He.ga K "units_by")) := let ⟨_, X, G, c⟩ := C.ex; He.glo_ok X G (c.fact 34 (f := .glo "units_by") rfl)
theorem w_glo__law_moved (C : Cn K mg) : mg "_law_moved" = some (.ref (He.ga K "_law_moved")) := let ⟨_, X, G, c⟩ := C.ex; He.glo_ok X G (c.fact 35 (f := .glo "_law_moved") rfl)
theorem w_glo__law_row (C : Cn K mg) : mg "_law_row" = some (.ref (He.ga K "_law_row")) := let ⟨_, X, G, c⟩ := C.ex; He.glo_ok X G (c.fact 36 (f := .glo "_law_row") rfl)
theorem w_glo_units (C : Cn K mg) : mg "units" = some (.ref (He.ga K "units")) := let ⟨_, X, G, c⟩ := C.ex; He.glo_ok X G (c.fact 37 (f := .glo "units") rfl)
theorem w_free_dict (C : Cn K mg) : mg "dict" = none := let ⟨_, X, G, c⟩ := C.ex; He.free_ok X G (c.fact 38 (f := .free "dict") rfl)
theorem w_glo__law_steps_right (C : Cn K mg) : mg "_law_steps_right" = some (.ref (He.ga K "_law_steps_right")) := let ⟨_, X, G, c⟩ := C.ex; He.glo_ok X G (c.fact 39 (f := .glo "_law_steps_right") rfl)
theorem w_glo__law_begun (C : Cn K mg) : mg "_law_begun" = some (.ref (He.ga K "_law_begun")) := let ⟨_, X, G, c⟩ := C.ex; He.glo_ok X G (c.fact 40 (f := .glo "_law_begun") rfl)
theorem w_glo__law_any_grade (C : Cn K mg) : mg "_law_any_grade" = some (.ref (He.ga K "_law_any_grade")) := let ⟨_, X, G, c⟩ := C.ex; He.glo_ok X G (c.fact 41 (f := .glo "_law_any_grade") rfl)
theorem w_free_repr (C : Cn K mg) : mg "repr" = none := let ⟨_, X, G, c⟩ := C.ex; He.free_ok X G (c.fact 42 (f := .free "repr") rfl)
theorem w_glo__law_parts_right (C : Cn K mg) : mg "_law_parts_right" = some (.ref (He.ga K "_law_parts_right")) := let ⟨_, X, G, c⟩ := C.ex; He.glo_ok X G (c.fact 43 (f := .glo "_law_parts_right") rfl)
theorem w_glo__law_moved_right (C : Cn K mg) : mg "_law_moved_right" = some (.ref (He.ga K "_law_moved_right")) := let ⟨_, X, G, c⟩ := C.ex; He.glo_ok X G (c.fact 44 (f := .glo "_law_moved_right") rfl)
theorem w_glo__law_rates_right (C : Cn K mg) : mg "_law_rates_right" = some (.ref (He.ga K "_law_rates_right")) := let ⟨_, X, G, c⟩ := C.ex; He.glo_ok X G (c.fact 45 (f := .glo "_law_rates_right") rfl)
theorem w_glo_law (C : Cn K mg) : mg "law" = some (.ref (He.ga K "law")) := let ⟨_, X, G, c⟩ := C.ex; He.glo_ok X G (c.fact 46 (f := .glo "law") rfl)
theorem u__law_mixed (C : Cn K mg) : ∃ fd, FunD K "_law_mixed" "_law_mixed" (defArgs s__law_mixed) (defBody s__law_mixed) (defScope s__law_mixed) [] [] (He.ga K "_law_mixed") fd := let ⟨_, _, _, c⟩ := C.ex; c.def_ 0 (d := d__law_mixed) rfl
theorem k__law_mixed (C : Cn K mg) : PySem.W.keepIn K (.ref (He.ga K "_law_mixed")) = true := let ⟨_, F⟩ := u__law_mixed C; F.kp
theorem u__law_draw (C : Cn K mg) : ∃ fd, FunD K "_law_draw" "_law_draw" (defArgs s__law_draw) (defBody s__law_draw) (defScope s__law_draw) [] [] (He.ga K "_law_draw") fd := let ⟨_, _, _, c⟩ := C.ex; c.def_ 1 (d := d__law_draw) rfl
theorem k__law_draw (C : Cn K mg) : PySem.W.keepIn K (.ref (He.ga K "_law_draw")) = true := let ⟨_, F⟩ := u__law_draw C; F.kp
theorem u__law_folded (C : Cn K mg) : ∃ fd, FunD K "_law_folded" "_law_folded" (defArgs s__law_folded) (defBody s__law_folded) (defScope s__law_folded) [] [] (He.ga K "_law_folded") fd := let ⟨_, _, _, c⟩ := C.ex; c.def_ 2 (d := d__law_folded) rfl
theorem k__law_folded (C : Cn K mg) : PySem.W.keepIn K (.ref (He.ga K "_law_folded")) = true := let ⟨_, F⟩ := u__law_folded C; F.kp
theorem u__law_begun (C : Cn K mg) : ∃ fd, FunD K "_law_begun" "_law_begun" (defArgs s__law_begun) (defBody s__law_begun) (defScope s__law_begun) [] [] (He.ga K "_law_begun") fd := let ⟨_, _, _, c⟩ := C.ex; c.def_ 3 (d := d__law_begun) rfl
theorem k__law_begun (C : Cn K mg) : PySem.W.keepIn K (.ref (He.ga K "_law_begun")) = true := let ⟨_, F⟩ := u__law_begun C; F.kp
theorem u__law_budget (C : Cn K mg) : ∃ fd, FunD K "_law_budget" "_law_budget" (defArgs s__law_budget) (defBody s__law_budget) (defScope s__law_budget) [] [] (He.ga K "_law_budget") fd := let ⟨_, _, _, c⟩ := C.ex; c.def_ 4 (d := d__law_budget) rfl
theorem k__law_budget (C : Cn K mg) : PySem.W.keepIn K (.ref (He.ga K "_law_budget")) = true := let ⟨_, F⟩ := u__law_budget C; F.kp
theorem u__law_any_budget (C : Cn K mg) : ∃ fd, FunD K "_law_any_budget" "_law_any_budget" (defArgs s__law_any_budget) (defBody s__law_any_budget) (defScope s__law_any_budget) [] [] (He.ga K "_law_any_budget") fd := let ⟨_, _, _, c⟩ := C.ex; c.def_ 5 (d := d__law_any_budget) rfl
theorem k__law_any_budget (C : Cn K mg) : PySem.W.keepIn K (.ref (He.ga K "_law_any_budget")) = true := let ⟨_, F⟩ := u__law_any_budget C; F.kp
theorem u__law_any_grade (C : Cn K mg) : ∃ fd, FunD K "_law_any_grade" "_law_any_grade" (defArgs s__law_any_grade) (defBody s__law_any_grade) (defScope s__law_any_grade) [] [] (He.ga K "_law_any_grade") fd := let ⟨_, _, _, c⟩ := C.ex; c.def_ 6 (d := d__law_any_grade) rfl
theorem k__law_any_grade (C : Cn K mg) : PySem.W.keepIn K (.ref (He.ga K "_law_any_grade")) = true := let ⟨_, F⟩ := u__law_any_grade C; F.kp
theorem u_is_whole (C : Cn K mg) : ∃ fd, FunD K "is_whole" "is_whole" (defArgs s_is_whole) (defBody s_is_whole) (defScope s_is_whole) [] [] (He.ga K "is_whole") fd := let ⟨_, _, _, c⟩ := C.ex; c.def_ 7 (d := d_is_whole) rfl
theorem k_is_whole (C : Cn K mg) : PySem.W.keepIn K (.ref (He.ga K "is_whole")) = true := let ⟨_, F⟩ := u_is_whole C; F.kp
theorem u_is_warmth (C : Cn K mg) : ∃ fd, FunD K "is_warmth" "is_warmth" (defArgs s_is_warmth) (defBody s_is_warmth) (defScope s_is_warmth) [] [] (He.ga K "is_warmth") fd := let ⟨_, _, _, c⟩ := C.ex; c.def_ 8 (d := d_is_warmth) rfl
theorem k_is_warmth (C : Cn K mg) : PySem.W.keepIn K (.ref (He.ga K "is_warmth")) = true := let ⟨_, F⟩ := u_is_warmth C; F.kp
theorem u_is_rate (C : Cn K mg) : ∃ fd, FunD K "is_rate" "is_rate" (defArgs s_is_rate) (defBody s_is_rate) (defScope s_is_rate) [] [] (He.ga K "is_rate") fd := let ⟨_, _, _, c⟩ := C.ex; c.def_ 9 (d := d_is_rate) rfl
theorem k_is_rate (C : Cn K mg) : PySem.W.keepIn K (.ref (He.ga K "is_rate")) = true := let ⟨_, F⟩ := u_is_rate C; F.kp
theorem u_is_budget (C : Cn K mg) : ∃ fd, FunD K "is_budget" "is_budget" (defArgs s_is_budget) (defBody s_is_budget) (defScope s_is_budget) [] [] (He.ga K "is_budget") fd := let ⟨_, _, _, c⟩ := C.ex; c.def_ 10 (d := d_is_budget) rfl
theorem k_is_budget (C : Cn K mg) : PySem.W.keepIn K (.ref (He.ga K "is_budget")) = true := let ⟨_, F⟩ := u_is_budget C; F.kp
theorem u_is_grade (C : Cn K mg) : ∃ fd, FunD K "is_grade" "is_grade" (defArgs s_is_grade) (defBody s_is_grade) (defScope s_is_grade) [] [] (He.ga K "is_grade") fd := let ⟨_, _, _, c⟩ := C.ex; c.def_ 11 (d := d_is_grade) rfl
theorem k_is_grade (C : Cn K mg) : PySem.W.keepIn K (.ref (He.ga K "is_grade")) = true := let ⟨_, F⟩ := u_is_grade C; F.kp
theorem u_need_grade (C : Cn K mg) : ∃ fd, FunD K "need_grade" "need_grade" (defArgs s_need_grade) (defBody s_need_grade) (defScope s_need_grade) [] [] (He.ga K "need_grade") fd := let ⟨_, _, _, c⟩ := C.ex; c.def_ 12 (d := d_need_grade) rfl
theorem k_need_grade (C : Cn K mg) : PySem.W.keepIn K (.ref (He.ga K "need_grade")) = true := let ⟨_, F⟩ := u_need_grade C; F.kp
theorem u_units_of (C : Cn K mg) : ∃ fd, FunD K "units_of" "units_of" (defArgs s_units_of) (defBody s_units_of) (defScope s_units_of) [] [] (He.ga K "units_of") fd := let ⟨_, _, _, c⟩ := C.ex; c.def_ 13 (d := d_units_of) rfl
theorem k_units_of (C : Cn K mg) : PySem.W.keepIn K (.ref (He.ga K "units_of")) = true := let ⟨_, F⟩ := u_units_of C; F.kp
theorem u_need_warmth (C : Cn K mg) : ∃ fd, FunD K "need_warmth" "need_warmth" (defArgs s_need_warmth) (defBody s_need_warmth) (defScope s_need_warmth) [] [] (He.ga K "need_warmth") fd := let ⟨_, _, _, c⟩ := C.ex; c.def_ 14 (d := d_need_warmth) rfl
theorem k_need_warmth (C : Cn K mg) : PySem.W.keepIn K (.ref (He.ga K "need_warmth")) = true := let ⟨_, F⟩ := u_need_warmth C; F.kp
theorem u_units_by (C : Cn K mg) : ∃ fd, FunD K "units_by" "units_by" (defArgs s_units_by) (defBody s_units_by) (defScope s_units_by) [] [] (He.ga K "units_by") fd := let ⟨_, _, _, c⟩ := C.ex; c.def_ 15 (d := d_units_by) rfl
theorem k_units_by (C : Cn K mg) : PySem.W.keepIn K (.ref (He.ga K "units_by")) = true := let ⟨_, F⟩ := u_units_by C; F.kp
theorem u__law_row (C : Cn K mg) : ∃ fd, FunD K "_law_row" "_law_row" (defArgs s__law_row) (defBody s__law_row) (defScope s__law_row) [] [] (He.ga K "_law_row") fd := let ⟨_, _, _, c⟩ := C.ex; c.def_ 16 (d := d__law_row) rfl
theorem k__law_row (C : Cn K mg) : PySem.W.keepIn K (.ref (He.ga K "_law_row")) = true := let ⟨_, F⟩ := u__law_row C; F.kp
theorem u__law_moved (C : Cn K mg) : ∃ fd, FunD K "_law_moved" "_law_moved" (defArgs s__law_moved) (defBody s__law_moved) (defScope s__law_moved) [] [] (He.ga K "_law_moved") fd := let ⟨_, _, _, c⟩ := C.ex; c.def_ 17 (d := d__law_moved) rfl
theorem k__law_moved (C : Cn K mg) : PySem.W.keepIn K (.ref (He.ga K "_law_moved")) = true := let ⟨_, F⟩ := u__law_moved C; F.kp
theorem u__law_moved_right (C : Cn K mg) : ∃ fd, FunD K "_law_moved_right" "_law_moved_right" (defArgs s__law_moved_right) (defBody s__law_moved_right) (defScope s__law_moved_right) [] [] (He.ga K "_law_moved_right") fd := let ⟨_, _, _, c⟩ := C.ex; c.def_ 18 (d := d__law_moved_right) rfl
theorem k__law_moved_right (C : Cn K mg) : PySem.W.keepIn K (.ref (He.ga K "_law_moved_right")) = true := let ⟨_, F⟩ := u__law_moved_right C; F.kp
theorem u_units (C : Cn K mg) : ∃ fd, FunD K "units" "units" (defArgs s_units) (defBody s_units) (defScope s_units) [] [] (He.ga K "units") fd := let ⟨_, _, _, c⟩ := C.ex; c.def_ 19 (d := d_units) rfl
theorem k_units (C : Cn K mg) : PySem.W.keepIn K (.ref (He.ga K "units")) = true := let ⟨_, F⟩ := u_units C; F.kp
theorem u__law_steps_right (C : Cn K mg) : ∃ fd, FunD K "_law_steps_right" "_law_steps_right" (defArgs s__law_steps_right) (defBody s__law_steps_right) (defScope s__law_steps_right) [] [] (He.ga K "_law_steps_right") fd := let ⟨_, _, _, c⟩ := C.ex; c.def_ 20 (d := d__law_steps_right) rfl
theorem k__law_steps_right (C : Cn K mg) : PySem.W.keepIn K (.ref (He.ga K "_law_steps_right")) = true := let ⟨_, F⟩ := u__law_steps_right C; F.kp
theorem u__law_parts_right (C : Cn K mg) : ∃ fd, FunD K "_law_parts_right" "_law_parts_right" (defArgs s__law_parts_right) (defBody s__law_parts_right) (defScope s__law_parts_right) [] [] (He.ga K "_law_parts_right") fd := let ⟨_, _, _, c⟩ := C.ex; c.def_ 21 (d := d__law_parts_right) rfl
theorem k__law_parts_right (C : Cn K mg) : PySem.W.keepIn K (.ref (He.ga K "_law_parts_right")) = true := let ⟨_, F⟩ := u__law_parts_right C; F.kp
theorem u__law_rates_right (C : Cn K mg) : ∃ fd, FunD K "_law_rates_right" "_law_rates_right" (defArgs s__law_rates_right) (defBody s__law_rates_right) (defScope s__law_rates_right) [] [] (He.ga K "_law_rates_right") fd := let ⟨_, _, _, c⟩ := C.ex; c.def_ 22 (d := d__law_rates_right) rfl
theorem k__law_rates_right (C : Cn K mg) : PySem.W.keepIn K (.ref (He.ga K "_law_rates_right")) = true := let ⟨_, F⟩ := u__law_rates_right C; F.kp
theorem u_law (C : Cn K mg) : ∃ fd, FunD K "law" "law" (defArgs s_law) (defBody s_law) (defScope s_law) [] [] (He.ga K "law") fd := let ⟨_, _, _, c⟩ := C.ex; c.def_ 23 (d := d_law) rfl
theorem k_law (C : Cn K mg) : PySem.W.keepIn K (.ref (He.ga K "law")) = true := let ⟨_, F⟩ := u_law C; F.kp
end
/-! ### each def computes that -/
section
variable {P : Program} {w : World} {K : PySem.W.Frag} {mg : Str → Option Value} {base : Heap}
theorem ok__law_mixed (C : Cn K mg) (TB : ∀ p ∈ lamC K, LamX.TabB base mg p.1 p.2) : FnG P w K mg base 1 (He.ga K "_law_mixed") 2 F__law_mixed := by
  obtain ⟨fd, Fu⟩ := u__law_mixed C
  refine fn_bodyD (k := 0) (N := N__law_mixed) (ps := ["_law_cell", "_law_k"]) (m := m__law_mixed) Fu sc__law_mixed (Fu.bindsN fun _ _ _ _ _ _ us hl => match us, hl with | [_, _], _ => rfl) fun cdv A outer s H hr hgd hcv => PSs.nox ?_
  delta m__law_mixed
  exact (es_cons (es_set (i := 2) sc__law_mixed.nd rfl (by first | exact .inl rfl | exact .inr rfl) (ev_bin op_addAll (os_add (al := false)) (ev_bin op_addAll (os_add (al := false)) (ev_bin op_mod os_mod (ev_bin op_mulA (os_mulA (al := false)) (ev_bin op_mulA (os_mulA (al := false)) (ev_var 0 (pv 0)) (ev_bin op_addAll (os_add (al := false)) ev_int (ev_bin op_mulA (os_mulA (al := false)) ev_int (ev_var 1 (pv 1))))) ev_int) ev_int) (ev_bin op_mulA (os_mulA (al := false)) (ev_bin op_mulA (os_mulA (al := false)) ev_int (ev_var 1 (pv 1))) (ev_var 1 (pv 1)))) (ev_bin op_mulA (os_mulA (al := false)) ev_int (ev_var 1 (pv 1)))))
  (es_one (es_ret (ev_bin op_fdiv os_div (ev_bin op_mod os_mod (ev_bin op_mulA (os_mulA (al := false)) (ev_var 2 (pv 2)) ev_int) ev_int) ev_int))))
theorem ok__law_draw (C : Cn K mg) (TB : ∀ p ∈ lamC K, LamX.TabB base mg p.1 p.2) : FnG P w K mg base 2 (He.ga K "_law_draw") 2 F__law_draw := by
  obtain ⟨fd, Fu⟩ := u__law_draw C
  refine fn_bodyD (k := 1) (N := N__law_draw) (ps := ["_law_m", "_law_many"]) (m := m__law_draw) Fu sc__law_draw (Fu.bindsN fun _ _ _ _ _ _ us hl => match us, hl with | [_, _], _ => rfl) fun cdv A outer s H hr hgd hcv => PSs.nox ?_
  delta m__law_draw
  exact (es_cons (es_set (i := 2) sc__law_draw.nd rfl (by first | exact .inl rfl | exact .inr rfl) (ev_ixD (Ev.Room.u1 hr) (ev_var 0 (pv 0)) ev_str))
  (es_cons (es_asg (ev_bin op_addAll (os_add (al := false)) (ev_var 2 (pv 2)) ev_int) (eg_sub (Ev.Room.u1 hr) (ev_var 0 (pv 0)) ev_str))
  (es_cons (es_if (et_cmp (op_neA (Ev.Room.u64 hr)) os_neA (nomark _) (ev_ixD (Ev.Room.u1 hr) (ev_var 0 (pv 0)) ev_str) (ev_lst ea_nil)) (es_cons (es_set (i := 3) sc__law_draw.nd rfl (by first | exact .inl rfl | exact .inr rfl) (ev_bin op_mod os_mod (ev_var 2 (pv 2)) (ev_B cr_lenA cs_len (by rfl) (w_free_len C) bb_len (ea_cons (ev_ixD (Ev.Room.u1 hr) (ev_var 0 (pv 0)) ev_str) ea_nil))))
  (es_cons (es_set (i := 4) sc__law_draw.nd rfl (by first | exact .inl rfl | exact .inr rfl) (ev_ix (ev_ixD (Ev.Room.u1 hr) (ev_var 0 (pv 0)) ev_str) (ev_var 3 (pv 3))))
  (es_one (es_if (et_cmp op_gt os_gt (nomark _) (ev_var 4 (pv 4)) ev_int) (es_cons (es_asg (ev_bin op_fdiv os_div (ev_var 4 (pv 4)) (ev_var 1 (pv 1))) (eg_sub (Ev.Room.u1 hr) (ev_ixD (Ev.Room.u1 hr) (ev_var 0 (pv 0)) ev_str) (ev_var 3 (pv 3))))
  (es_one (es_ret (ev_bin op_mod os_mod (ev_var 4 (pv 4)) (ev_var 1 (pv 1)))))) es_nil)))) es_nil)
  (es_one (es_ret (ev_bin op_mod os_mod (ev_call (ok__law_mixed C TB) (hr.mono (by decide)) hgd (by rfl) (w_glo__law_mixed C) (k__law_mixed C) (ea_cons (ev_call (ok__law_mixed C TB) (hr.mono (by decide)) hgd (by rfl) (w_glo__law_mixed C) (k__law_mixed C) (ea_cons (ev_bin op_addAll (os_add (al := false)) (ev_ix (ev_ixD (Ev.Room.u1 hr) (ev_var 0 (pv 0)) ev_str) (ev_bin op_mod os_mod (ev_var 2 (pv 2)) ev_int)) (ev_bin op_mulA (os_mulA (al := false)) ev_int (ev_bin op_fdiv os_div (ev_var 2 (pv 2)) ev_int))) (ea_cons (ev_var 2 (pv 2)) ea_nil))) (ea_cons (ev_bin op_addAll (os_add (al := false)) (ev_var 2 (pv 2)) ev_int) ea_nil))) (ev_var 1 (pv 1))))))))
theorem ok__law_folded (C : Cn K mg) (TB : ∀ p ∈ lamC K, LamX.TabB base mg p.1 p.2) : FnG P w K mg base 1 (He.ga K "_law_folded") 1 F__law_folded := by
  obtain ⟨fd, Fu⟩ := u__law_folded C
  refine fn_bodyD (k := 0) (N := N__law_folded) (ps := ["_law_script"]) (m := m__law_folded) Fu sc__law_folded (Fu.bindsN fun _ _ _ _ _ _ us hl => match us, hl with | [_], _ => rfl) fun cdv A outer s H hr hgd hcv => PSs.nox ?_
  delta m__law_folded
  exact (es_cons (es_lc (i := 1) (al := true) (own := [("_law_k", 2)]) rfl sc__law_folded.nd rfl rfl (by rfl) (ei_rng1 (by rfl) (w_free_range C) ev_int) (blkOk_by (own := [("_law_k", 2)]) (N := N__law_folded) (sc := defScope s__law_folded) (by decide +kernel)) (by decide) (fun _ _ _ _ _ => (eg_name (i := 2) sc__law_folded.nd rfl (by first | exact .inl rfl | exact .inr rfl))) (fun _ _ _ _ _ => ets_nil) (fun _ _ _ _ _ => (ev_bin op_addAll (os_add (al := false)) ev_int (ev_var 2 (pv 2)))))
  (es_cons (es_for PassesOwn.never rfl (ei_enum (by rfl) (w_free_enumerate C) (ev_var 0 (pv 0))) (eg_tup rfl (egs_cons (eg_name (i := 2) sc__law_folded.nd rfl (by first | exact .inl rfl | exact .inr rfl)) (egs_cons (eg_name (i := 3) sc__law_folded.nd rfl (by first | exact .inl rfl | exact .inr rfl)) egs_nil)))
  (es_one (es_asg (ev_bin op_mod os_mod (ev_bin op_addAll (os_add (al := false)) (ev_bin op_mulA (os_mulA (al := false)) (ev_ix (ev_var 1 (pv 1)) (ev_bin op_mod os_mod (ev_var 2 (pv 2)) ev_int)) ev_int) (ev_var 3 (pv 3))) ev_int) (eg_sub (Ev.Room.u1 hr) (ev_var 1 (pv 1)) (ev_bin op_mod os_mod (ev_var 2 (pv 2)) ev_int)))))
  (es_cons (es_for PassesOwn.never rfl (ei_rng2 (by rfl) (w_free_range C) ev_int ev_int) (eg_name (i := 2) sc__law_folded.nd rfl (by first | exact .inl rfl | exact .inr rfl))
  (es_one (es_asg (ev_bin op_mod os_mod (ev_bin op_addAll (os_add (al := false)) (ev_ix (ev_var 1 (pv 1)) (ev_var 2 (pv 2))) (ev_bin op_mulA (os_mulA (al := false)) (ev_ix (ev_var 1 (pv 1)) (ev_bin op_sub os_sub (ev_var 2 (pv 2)) ev_int)) ev_int)) ev_int) (eg_sub (Ev.Room.u1 hr) (ev_var 1 (pv 1)) (ev_var 2 (pv 2))))))
  (es_one (es_ret (ev_var 1 (pv 1)))))))
theorem ok__law_begun (C : Cn K mg) (TB : ∀ p ∈ lamC K, LamX.TabB base mg p.1 p.2) : FnG P w K mg base 2 (He.ga K "_law_begun") 1 F__law_begun := by
  obtain ⟨fd, Fu⟩ := u__law_begun C
  refine fn_bodyD (k := 1) (N := N__law_begun) (ps := ["_law_script"]) (m := m__law_begun) Fu sc__law_begun (Fu.bindsN fun _ _ _ _ _ _ us hl => match us, hl with | [_], _ => rfl) fun cdv A outer s H hr hgd hcv => PSs.nox ?_
  delta m__law_begun
  exact (es_cons (es_set (i := 1) sc__law_begun.nd rfl (by first | exact .inl rfl | exact .inr rfl) (ev_disp (al := true) (ms := [((mC (.str "cells")), (mB (argN 1 F__law_folded) (mCons (mVar 0) mNil))), ((mC (.str "left")), (mLst mNil)), ((mC (.str "at")), (mC (.int 0)))]) (pps_cons ev_str (ev_call (ok__law_folded C TB) (hr.mono (by decide)) hgd (by rfl) (w_glo__law_folded C) (k__law_folded C) (ea_cons (ev_var 0 (pv 0)) ea_nil)) (pps_cons ev_str (ev_lst ea_nil) (pps_cons ev_str ev_int pps_nil)))))
  (es_cons (es_asg (ev_lc (al := true) (own := [("_law_cell", 2)]) rfl sc__law_begun.nd (ei_seq (ev_var 0 (pv 0))) (blkOk_by (own := [("_law_cell", 2)]) (N := N__law_begun) (sc := defScope s__law_begun) (by decide +kernel)) (by decide) (fun _ _ _ _ _ => (eg_name (i := 2) sc__law_begun.nd rfl (by first | exact .inl rfl | exact .inr rfl))) (fun _ _ _ _ _ => ets_nil) (fun _ _ _ _ _ => (ev_if (et_cmp op_ge os_ge (nomark _) (ev_var 2 (pv 2)) (ev_bin op_pow os_pow ev_int ev_int)) (ev_var 2 (pv 2)) ev_int))) (eg_sub (Ev.Room.u1 hr) (ev_var 1 (pv 1)) ev_str))
  (es_one (es_ret (ev_var 1 (pv 1))))))
theorem ok__law_budget (C : Cn K mg) (TB : ∀ p ∈ lamC K, LamX.TabB base mg p.1 p.2) : FnG P w K mg base 3 (He.ga K "_law_budget") 1 F__law_budget := by
  obtain ⟨fd, Fu⟩ := u__law_budget C
  refine FnG.trim (fn_bodyD (k := 2) (N := N__law_budget) (ps := ["_law_m"]) (m := m__law_budget) Fu sc__law_budget (Fu.bindsN fun _ _ _ _ _ _ us hl => match us, hl with | [_], _ => rfl) fun cdv A outer s H hr hgd hcv => PSs.nox ?_)
  delta m__law_budget
  exact (es_cons (es_par (i := 1) (j := 2) rfl sc__law_budget.nd rfl rfl (by decide) rfl rfl (ea_cons (ev_bin op_sub os_sub (ev_call (ok__law_draw C TB) (hr.mono (by decide)) hgd (by rfl) (w_glo__law_draw C) (k__law_draw C) (ea_cons (ev_var 0 (pv 0)) (ea_cons ev_int ea_nil))) ev_int) (ea_cons (ev_lstA ea_nil) ea_nil)) (by rfl))
  (es_cons (es_for PassesOwn.never rfl (ei_rng1 (by rfl) (w_free_range C) (ev_bin op_addAll (os_add (al := false)) ev_int (ev_call (ok__law_draw C TB) (hr.mono (by decide)) hgd (by rfl) (w_glo__law_draw C) (k__law_draw C) (ea_cons (ev_var 0 (pv 0)) (ea_cons (ev_ix (ev_lst (ea_cons ev_int (ea_cons ev_int ea_nil))) (ev_call (ok__law_draw C TB) (hr.mono (by decide)) hgd (by rfl) (w_glo__law_draw C) (k__law_draw C) (ea_cons (ev_var 0 (pv 0)) (ea_cons ev_int ea_nil)))) ea_nil))))) (eg_name (i := 3) sc__law_budget.nd rfl (by first | exact .inl rfl | exact .inr rfl))
  (es_cons (es_expr (ev_append (ev_var 2 (pv 2)) (ev_tup (ea_cons (ev_var 1 (pv 1)) (ea_cons (ev_ix (ev_lst (ea_cons ev_int (ea_cons ev_int (ea_cons ev_int (ea_cons ev_int (ea_cons (ev_call (ok__law_draw C TB) (hr.mono (by decide)) hgd (by rfl) (w_glo__law_draw C) (k__law_draw C) (ea_cons (ev_var 0 (pv 0)) (ea_cons ev_int ea_nil))) ea_nil)))))) (ev_call (ok__law_draw C TB) (hr.mono (by decide)) hgd (by rfl) (w_glo__law_draw C) (k__law_draw C) (ea_cons (ev_var 0 (pv 0)) (ea_cons ev_int ea_nil)))) ea_nil)))))
  (es_one (es_set (i := 1) sc__law_budget.nd rfl (by first | exact .inl rfl | exact .inr rfl) (ev_bin op_addAll (os_add (al := false)) (ev_bin op_addAll (os_add (al := false)) (ev_var 1 (pv 1)) ev_int) (ev_call (ok__law_draw C TB) (hr.mono (by decide)) hgd (by rfl) (w_glo__law_draw C) (k__law_draw C) (ea_cons (ev_var 0 (pv 0)) (ea_cons (ev_ix (ev_lst (ea_cons ev_int (ea_cons ev_int ea_nil))) (ev_call (ok__law_draw C TB) (hr.mono (by decide)) hgd (by rfl) (w_glo__law_draw C) (k__law_draw C) (ea_cons (ev_var 0 (pv 0)) (ea_cons ev_int ea_nil)))) ea_nil))))))))
  (es_one (es_ret (ev_tup (ea_cons (ev_Ty call_tupA cs_tuple (by rfl) (w_free_tuple C) bb_tuple (ea_cons (ev_var 2 (pv 2)) ea_nil)) (ea_cons (ev_ix (ev_lst (ea_cons (ev_call (ok__law_draw C TB) (hr.mono (by decide)) hgd (by rfl) (w_glo__law_draw C) (k__law_draw C) (ea_cons (ev_var 0 (pv 0)) (ea_cons ev_int ea_nil))) (ea_cons (ev_call (ok__law_draw C TB) (hr.mono (by decide)) hgd (by rfl) (w_glo__law_draw C) (k__law_draw C) (ea_cons (ev_var 0 (pv 0)) (ea_cons ev_int ea_nil))) (ea_cons ev_int (ea_cons ev_int ea_nil))))) (ev_call (ok__law_draw C TB) (hr.mono (by decide)) hgd (by rfl) (w_glo__law_draw C) (k__law_draw C) (ea_cons (ev_var 0 (pv 0)) (ea_cons ev_int ea_nil)))) ea_nil)))))))
theorem ok__law_any_budget (C : Cn K mg) (TB : ∀ p ∈ lamC K, LamX.TabB base mg p.1 p.2) : FnG P w K mg base 3 (He.ga K "_law_any_budget") 1 F__law_any_budget := by
  obtain ⟨fd, Fu⟩ := u__law_any_budget C
  refine FnG.trim (fn_bodyD (k := 2) (N := N__law_any_budget) (ps := ["_law_m"]) (m := m__law_any_budget) Fu sc__law_any_budget (Fu.bindsN fun _ _ _ _ _ _ us hl => match us, hl with | [_], _ => rfl) fun cdv A outer s H hr hgd hcv => PSs.nox ?_)
  delta m__law_any_budget
  exact (es_cons (es_set (i := 1) sc__law_any_budget.nd rfl (by first | exact .inl rfl | exact .inr rfl) (ev_if (et_cmp (op_eqA (Ev.Room.u64 hr)) os_eqA (nomark _) (ev_call (ok__law_draw C TB) (hr.mono (by decide)) hgd (by rfl) (w_glo__law_draw C) (k__law_draw C) (ea_cons (ev_var 0 (pv 0)) (ea_cons ev_int ea_nil))) ev_int) (ev_lrg2 (al := true) rfl (by rfl) (w_free_list C) (by rfl) (w_free_range C) (ev_neg ev_int) ev_int) (ev_lrg2 (al := true) rfl (by rfl) (w_free_list C) (by rfl) (w_free_range C) (ev_neg ev_int) ev_int)))
  (es_cons (es_set (i := 2) sc__law_any_budget.nd rfl (by first | exact .inl rfl | exact .inr rfl) (ev_B cr_sortedI (cs_sorted (al := false)) (by rfl) (w_free_sorted C) bb_sorted (ea_cons (ev_lc (al := false) (own := [("_law_k", 4)]) rfl sc__law_any_budget.nd (ei_rng1 (by rfl) (w_free_range C) (ev_bin op_addAll (os_add (al := false)) ev_int (ev_call (ok__law_draw C TB) (hr.mono (by decide)) hgd (by rfl) (w_glo__law_draw C) (k__law_draw C) (ea_cons (ev_var 0 (pv 0)) (ea_cons ev_int ea_nil))))) (blkOk_by (own := [("_law_k", 4)]) (N := N__law_any_budget) (sc := defScope s__law_any_budget) (by decide +kernel)) (by decide) (fun _ _ _ _ _ => (eg_name (i := 4) sc__law_any_budget.nd rfl (by first | exact .inl rfl | exact .inr rfl))) (fun _ _ _ _ _ => ets_nil) (fun _ _ _ _ _ => (ev_popAt (ev_var 1 (pv 1)) (ev_call (ok__law_draw C TB) (hr.mono (by decide)) hgd (by rfl) (w_glo__law_draw C) (k__law_draw C) (ea_cons (ev_var 0 (pv 0)) (ea_cons (ev_B cr_lenA cs_len (by rfl) (w_free_len C) bb_len (ea_cons (ev_var 1 (pv 1)) ea_nil)) ea_nil)))))) ea_nil)))
  (es_cons (es_set (i := 3) sc__law_any_budget.nd rfl (by first | exact .inl rfl | exact .inr rfl) (ev_ix (ev_lst (ea_cons ev_int (ea_cons ev_int (ea_cons (ev_call (ok__law_draw C TB) (hr.mono (by decide)) hgd (by rfl) (w_glo__law_draw C) (k__law_draw C) (ea_cons (ev_var 0 (pv 0)) (ea_cons ev_int ea_nil))) (ea_cons (ev_call (ok__law_draw C TB) (hr.mono (by decide)) hgd (by rfl) (w_glo__law_draw C) (k__law_draw C) (ea_cons (ev_var 0 (pv 0)) (ea_cons ev_int ea_nil))) ea_nil))))) (ev_call (ok__law_draw C TB) (hr.mono (by decide)) hgd (by rfl) (w_glo__law_draw C) (k__law_draw C) (ea_cons (ev_var 0 (pv 0)) (ea_cons ev_int ea_nil)))))
  (es_one (es_ret (ev_tup (ea_cons (ev_Ty call_tupA cs_tuple (by rfl) (w_free_tuple C) bb_tuple (ea_cons (ev_lc (al := false) (own := [("_law_above", 5)]) rfl sc__law_any_budget.nd (ei_seq (ev_var 2 (pv 2))) (blkOk_by (own := [("_law_above", 5)]) (N := N__law_any_budget) (sc := defScope s__law_any_budget) (by decide +kernel)) (by decide) (fun _ _ _ _ _ => (eg_name (i := 5) sc__law_any_budget.nd rfl (by first | exact .inl rfl | exact .inr rfl))) (fun _ _ _ _ _ => ets_nil) (fun _ _ _ _ _ => (ev_tup (ea_cons (ev_var 5 (pv 5)) (ea_cons (ev_call (ok__law_draw C TB) (hr.mono (by decide)) hgd (by rfl) (w_glo__law_draw C) (k__law_draw C) (ea_cons (ev_var 0 (pv 0)) (ea_cons ev_int ea_nil))) ea_nil))))) ea_nil)) (ea_cons (ev_var 3 (pv 3)) ea_nil))))))))
theorem tabOk_0 (C : Cn K mg) (TB : ∀ p ∈ lamC K, LamX.TabB base mg p.1 p.2) : FnT P w K mg base 3 1 tab_0 := ⟨fun x F h => by
  unfold tab_0 at h
  by_cases h__law_budget : x = "_law_budget"
  · rw [if_pos h__law_budget] at h; cases h; subst h__law_budget; exact ⟨_, w_glo__law_budget C, k__law_budget C, (ok__law_budget C TB).mono (by decide)⟩
  rw [if_neg h__law_budget] at h
  by_cases h__law_any_budget : x = "_law_any_budget"
  · rw [if_pos h__law_any_budget] at h; cases h; subst h__law_any_budget; exact ⟨_, w_glo__law_any_budget C, k__law_any_budget C, (ok__law_any_budget C TB).mono (by decide)⟩
  rw [if_neg h__law_any_budget] at h
  cases h⟩
theorem ok__law_any_grade (C : Cn K mg) (TB : ∀ p ∈ lamC K, LamX.TabB base mg p.1 p.2) : FnG P w K mg base 4 (He.ga K "_law_any_grade") 1 F__law_any_grade := by
  obtain ⟨fd, Fu⟩ := u__law_any_grade C
  refine fn_bodyD (k := 3) (N := N__law_any_grade) (ps := ["_law_m"]) (m := m__law_any_grade) Fu sc__law_any_grade (Fu.bindsN fun _ _ _ _ _ _ us hl => match us, hl with | [_], _ => rfl) fun cdv A outer s H hr hgd hcv => PSs.nox ?_
  delta m__law_any_grade
  exact (es_one (es_ret (ev_Ty call_tupA cs_tuple (by rfl) (w_free_tuple C) bb_tuple (ea_cons (ev_lc (al := false) (own := [("_law_k", 1)]) rfl sc__law_any_grade.nd (ei_rng1 (by rfl) (w_free_range C) (ev_bin op_addAll (os_add (al := false)) ev_int (ev_call (ok__law_draw C TB) (hr.mono (by decide)) hgd (by rfl) (w_glo__law_draw C) (k__law_draw C) (ea_cons (ev_var 0 (pv 0)) (ea_cons ev_int ea_nil))))) (blkOk_by (own := [("_law_k", 1)]) (N := N__law_any_grade) (sc := defScope s__law_any_grade) (by decide +kernel)) (by decide) (fun _ _ _ _ _ => (eg_name (i := 1) sc__law_any_grade.nd rfl (by first | exact .inl rfl | exact .inr rfl))) (fun _ _ _ _ _ => ets_nil) (fun _ _ _ _ _ => (ev_callT (tabOk_0 C TB) (hr.mono (by decide)) hgd (ev_ix (ev_lst (ea_cons (ev_gfn (by rfl) (w_glo__law_budget C)) (ea_cons (ev_gfn (by rfl) (w_glo__law_any_budget C)) ea_nil))) (ev_call (ok__law_draw C TB) (hr.mono (by decide)) hgd (by rfl) (w_glo__law_draw C) (k__law_draw C) (ea_cons (ev_var 0 (pv 0)) (ea_cons ev_int ea_nil)))) (ea_cons (ev_var 0 (pv 0)) ea_nil)))) ea_nil))))
theorem ok_is_whole (C : Cn K mg) (TB : ∀ p ∈ lamC K, LamX.TabB base mg p.1 p.2) : FnG P w K mg base 1 (He.ga K "is_whole") 3 F_is_whole := by
  obtain ⟨fd, Fu⟩ := u_is_whole C
  refine fn_bodyD (k := 0) (N := N_is_whole) (ps := ["thing", "least", "most"]) (m := m_is_whole) Fu sc_is_whole (Fu.bindsN fun _ _ _ _ _ _ us hl => match us, hl with | [_, _, _], _ => rfl) fun cdv A outer s H hr hgd hcv => PSs.nox ?_
  delta m_is_whole
  exact (es_one (es_ret (ev_and (ev_isi .int (by decide) (by rfl) (w_free_isinstance C) (by rfl) (w_free_int C) bb_int (ev_var 0 (pv 0))) (ev_and (ev_not (ev_isi .bl (by decide) (by rfl) (w_free_isinstance C) (by rfl) (w_free_bool C) bb_bool (ev_var 0 (pv 0)))) (ev_one (ev_chain op_le os_le op_le os_le (ev_var 1 (pv 1)) (ev_var 0 (pv 0)) (ev_var 2 (pv 2))))))))
theorem ok_is_warmth (C : Cn K mg) (TB : ∀ p ∈ lamC K, LamX.TabB base mg p.1 p.2) : FnG P w K mg base 2 (He.ga K "is_warmth") 1 F_is_warmth := by
  obtain ⟨fd, Fu⟩ := u_is_warmth C
  refine fn_bodyD (k := 1) (N := N_is_warmth) (ps := ["thing"]) (m := m_is_warmth) Fu sc_is_warmth (Fu.bindsN fun _ _ _ _ _ _ us hl => match us, hl with | [_], _ => rfl) fun cdv A outer s H hr hgd hcv => PSs.nox ?_
  delta m_is_warmth
  exact (es_one (es_ret (ev_call (ok_is_whole C TB) (hr.mono (by decide)) hgd (by rfl) (w_glo_is_whole C) (k_is_whole C) (ea_cons (ev_var 0 (pv 0)) (ea_cons (ev_gint (by rfl) (w_int_COLDEST C)) (ea_cons (ev_gint (by rfl) (w_int_WARMEST C)) ea_nil))))))
theorem ok_is_rate (C : Cn K mg) (TB : ∀ p ∈ lamC K, LamX.TabB base mg p.1 p.2) : FnG P w K mg base 3 (He.ga K "is_rate") 1 F_is_rate := by
  obtain ⟨fd, Fu⟩ := u_is_rate C
  refine fn_bodyD (k := 2) (N := N_is_rate) (ps := ["thing"]) (m := m_is_rate) Fu sc_is_rate (Fu.bindsN fun _ _ _ _ _ _ us hl => match us, hl with | [_], _ => rfl) fun cdv A outer s H hr hgd hcv => PSs.nox ?_
  delta m_is_rate
  exact (es_cons (es_if (et_w (ew_or (et_not (et_val (ev_isi .tup (by decide) (by rfl) (w_free_isinstance C) (by rfl) (w_free_tuple C) bb_tuple (ev_var 0 (pv 0))))) (ew_or1 (et_cmp (op_neA (Ev.Room.u64 hr)) os_neA (nomark _) (ev_B cr_lenA cs_len (by rfl) (w_free_len C) bb_len (ea_cons (ev_var 0 (pv 0)) ea_nil)) ev_int)))) (es_one (es_ret ev_bl)) es_nil)
  (es_one (es_ret (ev_and (ev_call (ok_is_warmth C TB) (hr.mono (by decide)) hgd (by rfl) (w_glo_is_warmth C) (k_is_warmth C) (ea_cons (ev_ix (ev_var 0 (pv 0)) ev_int) ea_nil)) (ev_one (ev_call (ok_is_whole C TB) (hr.mono (by decide)) hgd (by rfl) (w_glo_is_whole C) (k_is_whole C) (ea_cons (ev_ix (ev_var 0 (pv 0)) ev_int) (ea_cons ev_int (ea_cons (ev_gint (by rfl) (w_int_MOST_UNITS C)) ea_nil)))))))))
theorem ok_is_budget (C : Cn K mg) (TB : ∀ p ∈ lamC K, LamX.TabB base mg p.1 p.2) : FnG P w K mg base 4 (He.ga K "is_budget") 1 F_is_budget := by
  obtain ⟨fd, Fu⟩ := u_is_budget C
  refine fn_bodyD (k := 3) (N := N_is_budget) (ps := ["thing"]) (m := m_is_budget) Fu sc_is_budget (Fu.bindsN fun _ _ _ _ _ _ us hl => match us, hl with | [_], _ => rfl) fun cdv A outer s H hr hgd hcv => PSs.nox ?_
  delta m_is_budget
  exact (es_cons (es_if (et_w (ew_or (et_not (et_val (ev_isi .tup (by decide) (by rfl) (w_free_isinstance C) (by rfl) (w_free_tuple C) bb_tuple (ev_var 0 (pv 0))))) (ew_or (et_cmp (op_neA (Ev.Room.u64 hr)) os_neA (nomark _) (ev_B cr_lenA cs_len (by rfl) (w_free_len C) bb_len (ea_cons (ev_var 0 (pv 0)) ea_nil)) ev_int) (ew_or1 (et_not (et_val (ev_isi .tup (by decide) (by rfl) (w_free_isinstance C) (by rfl) (w_free_tuple C) bb_tuple (ev_ix (ev_var 0 (pv 0)) ev_int)))))))) (es_one (es_ret ev_bl)) es_nil)
  (es_cons (es_if (et_w (ew_or (et_not (et_chain op_le os_le op_le os_le ev_int (ev_B cr_lenA cs_len (by rfl) (w_free_len C) bb_len (ea_cons (ev_ix (ev_var 0 (pv 0)) ev_int) ea_nil)) (ev_gint (by rfl) (w_int_MOST_RATES C)))) (ew_or1 (et_not (et_val (ev_B (cr_all rfl) cs_all (by rfl) (w_free_all C) bb_all (ea_cons (ev_lc (al := false) (own := [("rate", 2)]) rfl sc_is_budget.nd (ei_seq (ev_ix (ev_var 0 (pv 0)) ev_int)) (blkOk_by (own := [("rate", 2)]) (N := N_is_budget) (sc := defScope s_is_budget) (by decide +kernel)) (by decide) (fun _ _ _ _ _ => (eg_name (i := 2) sc_is_budget.nd rfl (by first | exact .inl rfl | exact .inr rfl))) (fun _ _ _ _ _ => ets_nil) (fun _ _ _ _ _ => (ev_call (ok_is_rate C TB) (hr.mono (by decide)) hgd (by rfl) (w_glo_is_rate C) (k_is_rate C) (ea_cons (ev_var 2 (pv 2)) ea_nil)))) ea_nil))))))) (es_one (es_ret ev_bl)) es_nil)
  (es_cons (es_set (i := 1) sc_is_budget.nd rfl (by first | exact .inl rfl | exact .inr rfl) (ev_B (cr_all rfl) cs_all (by rfl) (w_free_all C) bb_all (ea_cons (ev_lc (al := false) (own := [("one", 3), ("other", 4)]) rfl sc_is_budget.nd (ei_zip (by rfl) (w_free_zip C) (ev_ix (ev_var 0 (pv 0)) ev_int) (ev_sl (al := false) (ev_ix (ev_var 0 (pv 0)) ev_int) (eo_some ev_int) eo_none)) (blkOk_by (own := [("one", 3), ("other", 4)]) (N := N_is_budget) (sc := defScope s_is_budget) (by decide +kernel)) (by decide) (fun _ _ _ _ _ => (eg_tup rfl (egs_cons (eg_name (i := 3) sc_is_budget.nd rfl (by first | exact .inl rfl | exact .inr rfl)) (egs_cons (eg_name (i := 4) sc_is_budget.nd rfl (by first | exact .inl rfl | exact .inr rfl)) egs_nil)))) (fun _ _ _ _ _ => ets_nil) (fun _ _ _ _ _ => (ev_cmp op_lt os_lt (nomark _) (ev_ix (ev_var 3 (pv 3)) ev_int) (ev_ix (ev_var 4 (pv 4)) ev_int)))) ea_nil)))
  (es_one (es_ret (ev_and (ev_var 1 (pv 1)) (ev_one (ev_call (ok_is_whole C TB) (hr.mono (by decide)) hgd (by rfl) (w_glo_is_whole C) (k_is_whole C) (ea_cons (ev_ix (ev_var 0 (pv 0)) ev_int) (ea_cons ev_int (ea_cons (ev_gint (by rfl) (w_int_MOST_IN_ALL C)) ea_nil)))))))))))
theorem ok_is_grade (C : Cn K mg) (TB : ∀ p ∈ lamC K, LamX.TabB base mg p.1 p.2) : FnG P w K mg base 5 (He.ga K "is_grade") 1 F_is_grade := by
  obtain ⟨fd, Fu⟩ := u_is_grade C
  refine fn_bodyD (k := 4) (N := N_is_grade) (ps := ["thing"]) (m := m_is_grade) Fu sc_is_grade (Fu.bindsN fun _ _ _ _ _ _ us hl => match us, hl with | [_], _ => rfl) fun cdv A outer s H hr hgd hcv => PSs.nox ?_
  delta m_is_grade
  exact (es_one (es_ret (ev_and (ev_isi .tup (by decide) (by rfl) (w_free_isinstance C) (by rfl) (w_free_tuple C) bb_tuple (ev_var 0 (pv 0))) (ev_and (ev_chain op_le os_le op_le os_le ev_int (ev_B cr_lenA cs_len (by rfl) (w_free_len C) bb_len (ea_cons (ev_var 0 (pv 0)) ea_nil)) (ev_gint (by rfl) (w_int_MOST_BUDGETS C))) (ev_one (ev_B (cr_all rfl) cs_all (by rfl) (w_free_all C) bb_all (ea_cons (ev_lc (al := false) (own := [("one", 1)]) rfl sc_is_grade.nd (ei_seq (ev_var 0 (pv 0))) (blkOk_by (own := [("one", 1)]) (N := N_is_grade) (sc := defScope s_is_grade) (by decide +kernel)) (by decide) (fun _ _ _ _ _ => (eg_name (i := 1) sc_is_grade.nd rfl (by first | exact .inl rfl | exact .inr rfl))) (fun _ _ _ _ _ => ets_nil) (fun _ _ _ _ _ => (ev_call (ok_is_budget C TB) (hr.mono (by decide)) hgd (by rfl) (w_glo_is_budget C) (k_is_budget C) (ea_cons (ev_var 1 (pv 1)) ea_nil)))) ea_nil)))))))
theorem ok_need_grade (C : Cn K mg) (TB : ∀ p ∈ lamC K, LamX.TabB base mg p.1 p.2) : FnX P w K mg base 6 (He.ga K "need_grade") 1 F_need_grade := by
  obtain ⟨fd, Fu⟩ := u_need_grade C
  refine fn_bodyX (k := 5) (N := N_need_grade) (ps := ["thing"]) (m := m_need_grade) Fu sc_need_grade (Fu.bindsN fun _ _ _ _ _ _ us hl => match us, hl with | [_], _ => rfl) fun E cdv A outer s H hr hgd hcv => ?_
  delta m_need_grade
  exact (esx_one (esx_if (et_not (et_val (ev_call (ok_is_grade C TB) (hr.mono (by decide)) hgd (by rfl) (w_glo_is_grade C) (k_is_grade C) (ea_cons (ev_var 0 (pv 0)) ea_nil)))) (esx_one (esx_raise rfl (takes_of rfl rfl rfl rfl) PySem.F.excBase_ValueError (w_exc_BadGrade C).1 (w_glo_BadGrade C) (w_exc_BadGrade C).2.1 (raises_own (w_exc_BadGrade C).2.2.1 (w_exc_BadGrade C).2.2.2) rfl)) (esxs_of es_nil)))
theorem ok_units_of (C : Cn K mg) (TB : ∀ p ∈ lamC K, LamX.TabB base mg p.1 p.2) : FnG P w K mg base 1 (He.ga K "units_of") 2 F_units_of := by
  obtain ⟨fd, Fu⟩ := u_units_of C
  refine fn_bodyD (k := 0) (N := N_units_of) (ps := ["budget", "warmth"]) (m := m_units_of) Fu sc_units_of (Fu.bindsN fun _ _ _ _ _ _ us hl => match us, hl with | [_, _], _ => rfl) fun cdv A outer s H hr hgd hcv => PSs.nox ?_
  delta m_units_of
  exact (es_cons (es_set (i := 2) sc_units_of.nd rfl (by first | exact .inl rfl | exact .inr rfl) ev_int)
  (es_cons (es_for PassesOwn.never rfl (ei_seq (ev_ix (ev_var 0 (pv 0)) ev_int)) (eg_tup rfl (egs_cons (eg_name (i := 3) sc_units_of.nd rfl (by first | exact .inl rfl | exact .inr rfl)) (egs_cons (eg_name (i := 4) sc_units_of.nd rfl (by first | exact .inl rfl | exact .inr rfl)) egs_nil)))
  (es_one (es_if (et_cmp op_gt os_gt (nomark _) (ev_var 1 (pv 1)) (ev_var 3 (pv 3))) (es_one (es_set (i := 2) sc_units_of.nd rfl (by first | exact .inl rfl | exact .inr rfl) (ev_var 4 (pv 4)))) es_nil)))
  (es_one (es_ret (ev_var 2 (pv 2))))))
theorem ok_need_warmth (C : Cn K mg) (TB : ∀ p ∈ lamC K, LamX.TabB base mg p.1 p.2) : FnX P w K mg base 3 (He.ga K "need_warmth") 1 F_need_warmth := by
  obtain ⟨fd, Fu⟩ := u_need_warmth C
  refine fn_bodyX (k := 2) (N := N_need_warmth) (ps := ["thing"]) (m := m_need_warmth) Fu sc_need_warmth (Fu.bindsN fun _ _ _ _ _ _ us hl => match us, hl with | [_], _ => rfl) fun E cdv A outer s H hr hgd hcv => ?_
  delta m_need_warmth
  exact (esx_one (esx_if (et_not (et_val (ev_call (ok_is_warmth C TB) (hr.mono (by decide)) hgd (by rfl) (w_glo_is_warmth C) (k_is_warmth C) (ea_cons (ev_var 0 (pv 0)) ea_nil)))) (esx_one (esx_raise rfl (takes_of rfl rfl rfl rfl) PySem.F.excBase_ValueError (w_exc_BadWarmth C).1 (w_glo_BadWarmth C) (w_exc_BadWarmth C).2.1 (raises_own (w_exc_BadWarmth C).2.2.1 (w_exc_BadWarmth C).2.2.2) rfl)) (esxs_of es_nil)))
theorem ok_units_by (C : Cn K mg) (TB : ∀ p ∈ lamC K, LamX.TabB base mg p.1 p.2) : FnX P w K mg base 7 (He.ga K "units_by") 2 F_units_by := by
  obtain ⟨fd, Fu⟩ := u_units_by C
  refine fn_bodyX (k := 6) (N := N_units_by) (ps := ["grade", "warmth"]) (m := m_units_by) Fu sc_units_by (Fu.bindsN fun _ _ _ _ _ _ us hl => match us, hl with | [_, _], _ => rfl) fun E cdv A outer s H hr hgd hcv => ?_
  delta m_units_by
  exact (esx_cons (esx_expr (eex_call (ok_need_grade C TB) (takes_of rfl rfl rfl rfl) (hr.mono (by decide)) hgd (by rfl) (w_glo_need_grade C) (k_need_grade C) (ea_cons (ev_var 0 (pv 0)) ea_nil)))
  (esx_cons (esx_expr (eex_call (ok_need_warmth C TB) (takes_of rfl rfl rfl rfl) (hr.mono (by decide)) hgd (by rfl) (w_glo_need_warmth C) (k_need_warmth C) (ea_cons (ev_var 1 (pv 1)) ea_nil)))
  (esx_one (esx_of (es_ret (ev_Ty call_tupA cs_tuple (by rfl) (w_free_tuple C) bb_tuple (ea_cons (ev_lc (al := false) (own := [("budget", 2)]) rfl sc_units_by.nd (ei_seq (ev_var 0 (pv 0))) (blkOk_by (own := [("budget", 2)]) (N := N_units_by) (sc := defScope s_units_by) (by decide +kernel)) (by decide) (fun _ _ _ _ _ => (eg_name (i := 2) sc_units_by.nd rfl (by first | exact .inl rfl | exact .inr rfl))) (fun _ _ _ _ _ => ets_nil) (fun _ _ _ _ _ => (ev_call (ok_units_of C TB) (hr.mono (by decide)) hgd (by rfl) (w_glo_units_of C) (k_units_of C) (ea_cons (ev_var 2 (pv 2)) (ea_cons (ev_var 1 (pv 1)) ea_nil))))) ea_nil)))))))
theorem ok__law_row (C : Cn K mg) (TB : ∀ p ∈ lamC K, LamX.TabB base mg p.1 p.2) : FnG P w K mg base 8 (He.ga K "_law_row") 1 F__law_row := by
  obtain ⟨fd, Fu⟩ := u__law_row C
  refine fn_bodyD (k := 7) (N := N__law_row) (ps := ["_law_grade"]) (m := m__law_row) Fu sc__law_row (Fu.bindsN fun _ _ _ _ _ _ us hl => match us, hl with | [_], _ => rfl) fun cdv A outer s H hr hgd hcv => PSs.nox ?_
  delta m__law_row
  exact (es_one (es_ret (ev_lc (al := false) (own := [("_law_warmth", 1)]) rfl sc__law_row.nd (ei_rng2 (by rfl) (w_free_range C) (ev_neg ev_int) ev_int) (blkOk_by (own := [("_law_warmth", 1)]) (N := N__law_row) (sc := defScope s__law_row) (by decide +kernel)) (by decide) (fun _ _ _ _ _ => (eg_name (i := 1) sc__law_row.nd rfl (by first | exact .inl rfl | exact .inr rfl))) (fun _ _ _ _ _ => ets_nil) (fun _ _ _ _ _ => (ev_call (FnX.pure (ok_units_by C TB)) (hr.mono (by decide)) hgd (by rfl) (w_glo_units_by C) (k_units_by C) (ea_cons (ev_var 0 (pv 0)) (ea_cons (ev_var 1 (pv 1)) ea_nil)))))))
theorem ok__law_moved (C : Cn K mg) (TB : ∀ p ∈ lamC K, LamX.TabB base mg p.1 p.2) : FnG P w K mg base 1 (He.ga K "_law_moved") 2 F__law_moved := by
  obtain ⟨fd, Fu⟩ := u__law_moved C
  refine FnG.trim (fn_bodyD (k := 0) (N := N__law_moved) (ps := ["_law_grade", "_law_many"]) (m := m__law_moved) Fu sc__law_moved (Fu.bindsN fun _ _ _ _ _ _ us hl => match us, hl with | [_, _], _ => rfl) fun cdv A outer s H hr hgd hcv => PSs.nox ?_)
  delta m__law_moved
  exact (es_cons (es_set (i := 2) sc__law_moved.nd rfl (by first | exact .inl rfl | exact .inr rfl) (ev_lstA ea_nil))
  (es_cons (es_for PassesOwn.never rfl (ei_seq (ev_var 0 (pv 0))) (eg_tup rfl (egs_cons (eg_name (i := 3) sc__law_moved.nd rfl (by first | exact .inl rfl | exact .inr rfl)) (egs_cons (eg_name (i := 4) sc__law_moved.nd rfl (by first | exact .inl rfl | exact .inr rfl)) egs_nil)))
  (es_cons (es_lc (i := 5) (al := false) (own := [("_law_above", 6), ("_law_own", 7)]) rfl sc__law_moved.nd rfl rfl (by rfl) (ei_seq (ev_var 3 (pv 3))) (blkOk_by (own := [("_law_above", 6), ("_law_own", 7)]) (N := N__law_moved) (sc := defScope s__law_moved) (by decide +kernel)) (by decide) (fun _ _ _ _ _ => (eg_tup rfl (egs_cons (eg_name (i := 6) sc__law_moved.nd rfl (by first | exact .inl rfl | exact .inr rfl)) (egs_cons (eg_name (i := 7) sc__law_moved.nd rfl (by first | exact .inl rfl | exact .inr rfl)) egs_nil)))) (fun _ _ _ _ _ => (ets_one (et_chain op_lt os_lt op_lt os_lt (ev_neg ev_int) (ev_bin op_addAll (os_add (al := false)) (ev_var 6 (pv 6)) (ev_var 1 (pv 1))) ev_int))) (fun _ _ _ _ _ => (ev_tup (ea_cons (ev_bin op_addAll (os_add (al := false)) (ev_var 6 (pv 6)) (ev_var 1 (pv 1))) (ea_cons (ev_var 7 (pv 7)) ea_nil)))))
  (es_one (es_expr (ev_append (ev_var 2 (pv 2)) (ev_tup (ea_cons (ev_Ty call_tupA cs_tuple (by rfl) (w_free_tuple C) bb_tuple (ea_cons (ev_var 5 (pv 5)) ea_nil)) (ea_cons (ev_var 4 (pv 4)) ea_nil))))))))
  (es_one (es_ret (ev_Ty call_tupA cs_tuple (by rfl) (w_free_tuple C) bb_tuple (ea_cons (ev_var 2 (pv 2)) ea_nil))))))
theorem ok__law_moved_right (C : Cn K mg) (TB : ∀ p ∈ lamC K, LamX.TabB base mg p.1 p.2) : FnG P w K mg base 9 (He.ga K "_law_moved_right") 3 F__law_moved_right := by
  obtain ⟨fd, Fu⟩ := u__law_moved_right C
  refine fn_bodyD (k := 8) (N := N__law_moved_right) (ps := ["_law_grade", "_law_row_here", "_law_many"]) (m := m__law_moved_right) Fu sc__law_moved_right (Fu.bindsN fun _ _ _ _ _ _ us hl => match us, hl with | [_, _, _], _ => rfl) fun cdv A outer s H hr hgd hcv => PSs.nox ?_
  delta m__law_moved_right
  exact (es_cons (es_set (i := 3) sc__law_moved_right.nd rfl (by first | exact .inl rfl | exact .inr rfl) (ev_call (ok__law_moved C TB) (hr.mono (by decide)) hgd (by rfl) (w_glo__law_moved C) (k__law_moved C) (ea_cons (ev_var 0 (pv 0)) (ea_cons (ev_var 2 (pv 2)) ea_nil))))
  (es_cons (es_if (et_cmp (op_neA (Ev.Room.u64 hr)) os_neA (nomark _) (ev_lc (al := false) (own := [("_law_k", 6)]) rfl sc__law_moved_right.nd (ei_rng1 (by rfl) (w_free_range C) (ev_B cr_lenA cs_len (by rfl) (w_free_len C) bb_len (ea_cons (ev_var 0 (pv 0)) ea_nil))) (blkOk_by (own := [("_law_k", 6)]) (N := N__law_moved_right) (sc := defScope s__law_moved_right) (by decide +kernel)) (by decide) (fun _ _ _ _ _ => (eg_name (i := 6) sc__law_moved_right.nd rfl (by first | exact .inl rfl | exact .inr rfl))) (fun _ _ _ _ _ => (ets_one (et_cmp op_lt os_lt (nomark _) (ev_B cr_lenA cs_len (by rfl) (w_free_len C) bb_len (ea_cons (ev_ix (ev_ix (ev_var 3 (pv 3)) (ev_var 6 (pv 6))) ev_int) ea_nil)) (ev_B cr_lenA cs_len (by rfl) (w_free_len C) bb_len (ea_cons (ev_ix (ev_ix (ev_var 0 (pv 0)) (ev_var 6 (pv 6))) ev_int) ea_nil))))) (fun _ _ _ _ _ => (ev_var 6 (pv 6)))) (ev_lst ea_nil)) (es_one (es_ret ev_bl)) es_nil)
  (es_cons (es_set (i := 4) sc__law_moved_right.nd rfl (by first | exact .inl rfl | exact .inr rfl) (ev_call (ok__law_row C TB) (hr.mono (by decide)) hgd (by rfl) (w_glo__law_row C) (k__law_row C) (ea_cons (ev_var 3 (pv 3)) ea_nil)))
  (es_cons (es_lc (i := 5) (al := false) (own := [("_law_warmth", 7)]) rfl sc__law_moved_right.nd rfl rfl (by rfl) (ei_rng2 (by rfl) (w_free_range C) (ev_neg ev_int) ev_int) (blkOk_by (own := [("_law_warmth", 7)]) (N := N__law_moved_right) (sc := defScope s__law_moved_right) (by decide +kernel)) (by decide) (fun _ _ _ _ _ => (eg_name (i := 7) sc__law_moved_right.nd rfl (by first | exact .inl rfl | exact .inr rfl))) (fun _ _ _ _ _ => (ets_one (et_chain op_lt os_lt op_lt os_lt (ev_neg ev_int) (ev_bin op_sub os_sub (ev_var 7 (pv 7)) (ev_var 2 (pv 2))) ev_int))) (fun _ _ _ _ _ => (ev_var 7 (pv 7))))
  (es_one (es_ret (ev_cmp (op_eqA (Ev.Room.u64 hr)) os_eqA (nomark _) (ev_lc (al := false) (own := [("_law_warmth", 7)]) rfl sc__law_moved_right.nd (ei_seq (ev_var 5 (pv 5))) (blkOk_by (own := [("_law_warmth", 7)]) (N := N__law_moved_right) (sc := defScope s__law_moved_right) (by decide +kernel)) (by decide) (fun _ _ _ _ _ => (eg_name (i := 7) sc__law_moved_right.nd rfl (by first | exact .inl rfl | exact .inr rfl))) (fun _ _ _ _ _ => (ets_one (et_cmp (op_neA (Ev.Room.u64 hr)) os_neA (nomark _) (ev_ix (ev_var 4 (pv 4)) (ev_bin op_addAll (os_add (al := false)) (ev_var 7 (pv 7)) ev_int)) (ev_ix (ev_var 1 (pv 1)) (ev_bin op_addAll (os_add (al := false)) (ev_bin op_sub os_sub (ev_var 7 (pv 7)) (ev_var 2 (pv 2))) ev_int))))) (fun _ _ _ _ _ => (ev_var 7 (pv 7)))) (ev_lst ea_nil))))))))
theorem ok_units (C : Cn K mg) (TB : ∀ p ∈ lamC K, LamX.TabB base mg p.1 p.2) : FnX P w K mg base 5 (He.ga K "units") 2 F_units := by
  obtain ⟨fd, Fu⟩ := u_units C
  refine fn_bodyX (k := 4) (N := N_units) (ps := ["budget", "warmth"]) (m := m_units) Fu sc_units (Fu.bindsN fun _ _ _ _ _ _ us hl => match us, hl with | [_, _], _ => rfl) fun E cdv A outer s H hr hgd hcv => ?_
  delta m_units
  exact (esx_cons (esx_if (et_not (et_val (ev_call (ok_is_budget C TB) (hr.mono (by decide)) hgd (by rfl) (w_glo_is_budget C) (k_is_budget C) (ea_cons (ev_var 0 (pv 0)) ea_nil)))) (esx_one (esx_raise rfl (takes_of rfl rfl rfl rfl) PySem.F.excBase_ValueError (w_exc_BadGrade C).1 (w_glo_BadGrade C) (w_exc_BadGrade C).2.1 (raises_own (w_exc_BadGrade C).2.2.1 (w_exc_BadGrade C).2.2.2) rfl)) (esxs_of es_nil))
  (esx_cons (esx_expr (eex_call (ok_need_warmth C TB) (takes_of rfl rfl rfl rfl) (hr.mono (by decide)) hgd (by rfl) (w_glo_need_warmth C) (k_need_warmth C) (ea_cons (ev_var 1 (pv 1)) ea_nil)))
  (esx_one (esx_of (es_ret (ev_call (ok_units_of C TB) (hr.mono (by decide)) hgd (by rfl) (w_glo_units_of C) (k_units_of C) (ea_cons (ev_var 0 (pv 0)) (ea_cons (ev_var 1 (pv 1)) ea_nil))))))))
theorem ok__law_steps_right (C : Cn K mg) (TB : ∀ p ∈ lamC K, LamX.TabB base mg p.1 p.2) : FnG P w K mg base 6 (He.ga K "_law_steps_right") 1 F__law_steps_right := by
  obtain ⟨fd, Fu⟩ := u__law_steps_right C
  refine fn_bodyD (k := 5) (N := N__law_steps_right) (ps := ["_law_budget_here"]) (m := m__law_steps_right) Fu sc__law_steps_right (Fu.bindsN fun _ _ _ _ _ _ us hl => match us, hl with | [_], _ => rfl) fun cdv A outer s H hr hgd hcv => PSs.nox ?_
  delta m__law_steps_right
  exact (es_cons (es_asg (ev_tup (ea_cons (ev_ix (ev_var 0 (pv 0)) ev_int) (ea_cons (ev_lc (al := false) (own := [("_law_warmth", 4)]) rfl sc__law_steps_right.nd (ei_rng2 (by rfl) (w_free_range C) (ev_neg ev_int) ev_int) (blkOk_by (own := [("_law_warmth", 4)]) (N := N__law_steps_right) (sc := defScope s__law_steps_right) (by decide +kernel)) (by decide) (fun _ _ _ _ _ => (eg_name (i := 4) sc__law_steps_right.nd rfl (by first | exact .inl rfl | exact .inr rfl))) (fun _ _ _ _ _ => ets_nil) (fun _ _ _ _ _ => (ev_call (FnX.pure (ok_units C TB)) (hr.mono (by decide)) hgd (by rfl) (w_glo_units C) (k_units C) (ea_cons (ev_var 0 (pv 0)) (ea_cons (ev_var 4 (pv 4)) ea_nil))))) ea_nil))) (eg_tup rfl (egs_cons (eg_name (i := 1) sc__law_steps_right.nd rfl (by first | exact .inl rfl | exact .inr rfl)) (egs_cons (eg_name (i := 2) sc__law_steps_right.nd rfl (by first | exact .inl rfl | exact .inr rfl)) egs_nil))))
  (es_cons (es_set (i := 3) sc__law_steps_right.nd rfl (by first | exact .inl rfl | exact .inr rfl) (ev_Ty (call_dictA rfl) (cs_dictA (al := false)) (by rfl) (w_free_dict C) bb_dict (ea_cons (ev_lc (al := false) (own := [("_law_k", 7), ("_law_above", 8), ("_law_many", 9)]) rfl sc__law_steps_right.nd (ei_enumT (by rfl) (w_free_enumerate C) (ev_var 1 (pv 1))) (blkOk_by (own := [("_law_k", 7), ("_law_above", 8), ("_law_many", 9)]) (N := N__law_steps_right) (sc := defScope s__law_steps_right) (by decide +kernel)) (by decide) (fun _ _ _ _ _ => (eg_tup rfl (egs_cons (eg_name (i := 7) sc__law_steps_right.nd rfl (by first | exact .inl rfl | exact .inr rfl)) (egs_cons (eg_tup rfl (egs_cons (eg_name (i := 8) sc__law_steps_right.nd rfl (by first | exact .inl rfl | exact .inr rfl)) (egs_cons (eg_name (i := 9) sc__law_steps_right.nd rfl (by first | exact .inl rfl | exact .inr rfl)) egs_nil))) egs_nil)))) (fun _ _ _ _ _ => ets_nil) (fun _ _ _ _ _ => (ev_tup (ea_cons (ev_bin op_addAll (os_add (al := false)) (ev_var 8 (pv 8)) ev_int) (ea_cons (ev_tup (ea_cons (ev_ix (ev_ix (ev_bin op_addAll (os_add (al := false)) (ev_lst (ea_cons (ev_tup (ea_cons ev_int (ea_cons ev_int ea_nil))) ea_nil)) (ev_Ty call_list_of (cs_list (al := false)) (by rfl) (w_free_list C) bb_list (ea_cons (ev_var 1 (pv 1)) ea_nil))) (ev_var 7 (pv 7))) ev_int) (ea_cons (ev_ix (ev_ix (ev_var 1 (pv 1)) (ev_var 7 (pv 7))) ev_int) ea_nil))) ea_nil))))) ea_nil)))
  (es_cons (es_for PassesOwn.never rfl (ei_rng2 (by rfl) (w_free_range C) (ev_neg ev_int) ev_int) (eg_name (i := 4) sc__law_steps_right.nd rfl (by first | exact .inl rfl | exact .inr rfl))
  (es_cons (es_asg (ev_get2 (Ev.Room.u1 hr) (ev_var 3 (pv 3)) (ev_var 4 (pv 4)) (ev_tup (ea_cons (ev_ix (ev_var 2 (pv 2)) (ev_bin op_addAll (os_add (al := false)) (ev_var 4 (pv 4)) ev_int)) (ea_cons (ev_ix (ev_var 2 (pv 2)) (ev_bin op_addAll (os_add (al := false)) (ev_var 4 (pv 4)) ev_int)) ea_nil)))) (eg_tup rfl (egs_cons (eg_name (i := 5) sc__law_steps_right.nd rfl (by first | exact .inl rfl | exact .inr rfl)) (egs_cons (eg_name (i := 6) sc__law_steps_right.nd rfl (by first | exact .inl rfl | exact .inr rfl)) egs_nil))))
  (es_one (es_if (et_w (ew_or (et_cmp (op_neA (Ev.Room.u64 hr)) os_neA (nomark _) (ev_ix (ev_var 2 (pv 2)) (ev_bin op_addAll (os_add (al := false)) (ev_var 4 (pv 4)) ev_int)) (ev_var 6 (pv 6))) (ew_or1 (et_cmp (op_neA (Ev.Room.u64 hr)) os_neA (nomark _) (ev_ix (ev_var 2 (pv 2)) (ev_bin op_addAll (os_add (al := false)) (ev_var 4 (pv 4)) ev_int)) (ev_var 5 (pv 5)))))) (es_one (es_ret ev_bl)) es_nil))))
  (es_one (es_ret (ev_and (ev_cmp (op_eqA (Ev.Room.u64 hr)) os_eqA (nomark _) (ev_ix (ev_var 2 (pv 2)) ev_int) ev_int) (ev_one (ev_cmp (op_eqA (Ev.Room.u64 hr)) os_eqA (nomark _) (ev_lc (al := false) (own := [("_law_one", 10)]) rfl sc__law_steps_right.nd (ei_seq (ev_var 2 (pv 2))) (blkOk_by (own := [("_law_one", 10)]) (N := N__law_steps_right) (sc := defScope s__law_steps_right) (by decide +kernel)) (by decide) (fun _ _ _ _ _ => (eg_name (i := 10) sc__law_steps_right.nd rfl (by first | exact .inl rfl | exact .inr rfl))) (fun _ _ _ _ _ => (ets_one (et_val (ev_isi .bl (by decide) (by rfl) (w_free_isinstance C) (by rfl) (w_free_bool C) bb_bool (ev_var 10 (pv 10)))))) (fun _ _ _ _ _ => (ev_var 10 (pv 10)))) (ev_lst ea_nil)))))))))
theorem ok__law_parts_right (C : Cn K mg) (TB : ∀ p ∈ lamC K, LamX.TabB base mg p.1 p.2) : FnG P w K mg base 9 (He.ga K "_law_parts_right") 2 F__law_parts_right := by
  obtain ⟨fd, Fu⟩ := u__law_parts_right C
  refine fn_bodyD (k := 8) (N := N__law_parts_right) (ps := ["_law_grade", "_law_row_here"]) (m := m__law_parts_right) Fu sc__law_parts_right (Fu.bindsN fun _ _ _ _ _ _ us hl => match us, hl with | [_, _], _ => rfl) fun cdv A outer s H hr hgd hcv => PSs.nox ?_
  delta m__law_parts_right
  exact (es_cons (es_for PassesOwn.never rfl (ei_enumT (by rfl) (w_free_enumerate C) (ev_var 0 (pv 0))) (eg_tup rfl (egs_cons (eg_name (i := 2) sc__law_parts_right.nd rfl (by first | exact .inl rfl | exact .inr rfl)) (egs_cons (eg_name (i := 3) sc__law_parts_right.nd rfl (by first | exact .inl rfl | exact .inr rfl)) egs_nil)))
  (es_cons (es_lc (i := 4) (al := false) (own := [("_law_one", 5)]) rfl sc__law_parts_right.nd rfl rfl (by rfl) (ei_seq (ev_var 1 (pv 1))) (blkOk_by (own := [("_law_one", 5)]) (N := N__law_parts_right) (sc := defScope s__law_parts_right) (by decide +kernel)) (by decide) (fun _ _ _ _ _ => (eg_name (i := 5) sc__law_parts_right.nd rfl (by first | exact .inl rfl | exact .inr rfl))) (fun _ _ _ _ _ => ets_nil) (fun _ _ _ _ _ => (ev_ix (ev_var 5 (pv 5)) (ev_var 2 (pv 2)))))
  (es_cons (es_if (et_w (ew_or (et_cmp (op_neA (Ev.Room.u64 hr)) os_neA (nomark _) (ev_lc (al := false) (own := [("_law_warmth", 6)]) rfl sc__law_parts_right.nd (ei_rng2 (by rfl) (w_free_range C) (ev_neg ev_int) ev_int) (blkOk_by (own := [("_law_warmth", 6)]) (N := N__law_parts_right) (sc := defScope s__law_parts_right) (by decide +kernel)) (by decide) (fun _ _ _ _ _ => (eg_name (i := 6) sc__law_parts_right.nd rfl (by first | exact .inl rfl | exact .inr rfl))) (fun _ _ _ _ _ => ets_nil) (fun _ _ _ _ _ => (ev_call (FnX.pure (ok_units C TB)) (hr.mono (by decide)) hgd (by rfl) (w_glo_units C) (k_units C) (ea_cons (ev_var 3 (pv 3)) (ea_cons (ev_var 6 (pv 6)) ea_nil))))) (ev_var 4 (pv 4))) (ew_or1 (et_not (et_val (ev_call (ok__law_steps_right C TB) (hr.mono (by decide)) hgd (by rfl) (w_glo__law_steps_right C) (k__law_steps_right C) (ea_cons (ev_var 3 (pv 3)) ea_nil))))))) (es_one (es_ret ev_bl)) es_nil)
  (es_one (es_if (et_cmp (op_neA (Ev.Room.u64 hr)) os_neA (nomark _) (ev_call (ok__law_row C TB) (hr.mono (by decide)) hgd (by rfl) (w_glo__law_row C) (k__law_row C) (ea_cons (ev_bin op_mulA (os_mulA (al := false)) (ev_tup (ea_cons (ev_var 3 (pv 3)) ea_nil)) ev_int) ea_nil)) (ev_lc (al := false) (own := [("_law_one", 5)]) rfl sc__law_parts_right.nd (ei_seq (ev_var 4 (pv 4))) (blkOk_by (own := [("_law_one", 5)]) (N := N__law_parts_right) (sc := defScope s__law_parts_right) (by decide +kernel)) (by decide) (fun _ _ _ _ _ => (eg_name (i := 5) sc__law_parts_right.nd rfl (by first | exact .inl rfl | exact .inr rfl))) (fun _ _ _ _ _ => ets_nil) (fun _ _ _ _ _ => (ev_bin op_mulA (os_mulA (al := false)) (ev_tup (ea_cons (ev_var 5 (pv 5)) ea_nil)) ev_int)))) (es_one (es_ret ev_bl)) es_nil)))))
  (es_one (es_ret (ev_cmp (op_eqA (Ev.Room.u64 hr)) os_eqA (nomark _) (ev_call (ok__law_row C TB) (hr.mono (by decide)) hgd (by rfl) (w_glo__law_row C) (k__law_row C) (ea_cons (ev_rev (al := false) (ev_var 0 (pv 0))) ea_nil)) (ev_lc (al := false) (own := [("_law_one", 5)]) rfl sc__law_parts_right.nd (ei_seq (ev_var 1 (pv 1))) (blkOk_by (own := [("_law_one", 5)]) (N := N__law_parts_right) (sc := defScope s__law_parts_right) (by decide +kernel)) (by decide) (fun _ _ _ _ _ => (eg_name (i := 5) sc__law_parts_right.nd rfl (by first | exact .inl rfl | exact .inr rfl))) (fun _ _ _ _ _ => ets_nil) (fun _ _ _ _ _ => (ev_rev (al := false) (ev_var 5 (pv 5)))))))))
theorem ok__law_rates_right (C : Cn K mg) (TB : ∀ p ∈ lamC K, LamX.TabB base mg p.1 p.2) : FnG P w K mg base 6 (He.ga K "_law_rates_right") 2 F__law_rates_right := by
  obtain ⟨fd, Fu⟩ := u__law_rates_right C
  refine fn_bodyD (k := 5) (N := N__law_rates_right) (ps := ["_law_m", "_law_budget_here"]) (m := m__law_rates_right) Fu sc__law_rates_right (Fu.bindsN fun _ _ _ _ _ _ us hl => match us, hl with | [_, _], _ => rfl) fun cdv A outer s H hr hgd hcv => PSs.nox ?_
  delta m__law_rates_right
  exact (es_cons (es_asg (ev_var 1 (pv 1)) (eg_tup rfl (egs_cons (eg_name (i := 2) sc__law_rates_right.nd rfl (by first | exact .inl rfl | exact .inr rfl)) (egs_cons (eg_name (i := 3) sc__law_rates_right.nd rfl (by first | exact .inl rfl | exact .inr rfl)) egs_nil))))
  (es_cons (es_for PassesOwn.never rfl (ei_seq (ev_lc (al := false) (own := [("_law_k", 7)]) rfl sc__law_rates_right.nd (ei_rng1 (by rfl) (w_free_range C) ev_int) (blkOk_by (own := [("_law_k", 7)]) (N := N__law_rates_right) (sc := defScope s__law_rates_right) (by decide +kernel)) (by decide) (fun _ _ _ _ _ => (eg_name (i := 7) sc__law_rates_right.nd rfl (by first | exact .inl rfl | exact .inr rfl))) (fun _ _ _ _ _ => ets_nil) (fun _ _ _ _ _ => (ev_bin op_sub os_sub (ev_call (ok__law_draw C TB) (hr.mono (by decide)) hgd (by rfl) (w_glo__law_draw C) (k__law_draw C) (ea_cons (ev_var 0 (pv 0)) (ea_cons ev_int ea_nil))) ev_int)))) (eg_name (i := 4) sc__law_rates_right.nd rfl (by first | exact .inl rfl | exact .inr rfl))
  (es_cons (es_set (i := 5) sc__law_rates_right.nd rfl (by first | exact .inl rfl | exact .inr rfl) (ev_lc (al := false) (own := [("_law_k", 7)]) rfl sc__law_rates_right.nd (ei_rng1 (by rfl) (w_free_range C) (ev_B cr_lenA cs_len (by rfl) (w_free_len C) bb_len (ea_cons (ev_var 2 (pv 2)) ea_nil))) (blkOk_by (own := [("_law_k", 7)]) (N := N__law_rates_right) (sc := defScope s__law_rates_right) (by decide +kernel)) (by decide) (fun _ _ _ _ _ => (eg_name (i := 7) sc__law_rates_right.nd rfl (by first | exact .inl rfl | exact .inr rfl))) (fun _ _ _ _ _ => ets_nil) (fun _ _ _ _ _ => (ev_call (FnX.pure (ok_units C TB)) (hr.mono (by decide)) hgd (by rfl) (w_glo_units C) (k_units C) (ea_cons (ev_tup (ea_cons (ev_sl (al := false) (ev_var 2 (pv 2)) (eo_some (ev_var 7 (pv 7))) (eo_some (ev_bin op_addAll (os_add (al := false)) (ev_var 7 (pv 7)) ev_int))) (ea_cons (ev_var 3 (pv 3)) ea_nil))) (ea_cons (ev_var 4 (pv 4)) ea_nil))))))
  (es_cons (es_if (et_cmp (op_neA (Ev.Room.u64 hr)) os_neA (nomark _) (ev_var 5 (pv 5)) (ev_lc (al := false) (own := [("_law_above", 8), ("_law_many", 9)]) rfl sc__law_rates_right.nd (ei_seq (ev_var 2 (pv 2))) (blkOk_by (own := [("_law_above", 8), ("_law_many", 9)]) (N := N__law_rates_right) (sc := defScope s__law_rates_right) (by decide +kernel)) (by decide) (fun _ _ _ _ _ => (eg_tup rfl (egs_cons (eg_name (i := 8) sc__law_rates_right.nd rfl (by first | exact .inl rfl | exact .inr rfl)) (egs_cons (eg_name (i := 9) sc__law_rates_right.nd rfl (by first | exact .inl rfl | exact .inr rfl)) egs_nil)))) (fun _ _ _ _ _ => ets_nil) (fun _ _ _ _ _ => (ev_ix (ev_lst (ea_cons ev_int (ea_cons (ev_var 9 (pv 9)) ea_nil))) (ev_Ty call_int1 cs_int (by rfl) (w_free_int C) bb_int (ea_cons (ev_cmp op_lt os_lt (nomark _) (ev_var 8 (pv 8)) (ev_var 4 (pv 4))) ea_nil)))))) (es_one (es_ret ev_bl)) es_nil)
  (es_cons (es_lc (i := 6) (al := false) (own := [("_law_k", 7)]) rfl sc__law_rates_right.nd rfl rfl (by rfl) (ei_rng1 (by rfl) (w_free_range C) (ev_B cr_lenA cs_len (by rfl) (w_free_len C) bb_len (ea_cons (ev_var 2 (pv 2)) ea_nil))) (blkOk_by (own := [("_law_k", 7)]) (N := N__law_rates_right) (sc := defScope s__law_rates_right) (by decide +kernel)) (by decide) (fun _ _ _ _ _ => (eg_name (i := 7) sc__law_rates_right.nd rfl (by first | exact .inl rfl | exact .inr rfl))) (fun _ _ _ _ _ => (ets_one (et_cmp op_lt os_lt (nomark _) (ev_ix (ev_ix (ev_var 2 (pv 2)) (ev_var 7 (pv 7))) ev_int) (ev_var 4 (pv 4))))) (fun _ _ _ _ _ => (ev_var 7 (pv 7))))
  (es_cons (es_if (et_cmp (op_neA (Ev.Room.u64 hr)) os_neA (nomark _) (ev_call (FnX.pure (ok_units C TB)) (hr.mono (by decide)) hgd (by rfl) (w_glo_units C) (k_units C) (ea_cons (ev_var 1 (pv 1)) (ea_cons (ev_var 4 (pv 4)) ea_nil))) (ev_ix (ev_bin op_addAll (os_add (al := false)) (ev_lst (ea_cons ev_int ea_nil)) (ev_lc (al := false) (own := [("_law_k", 7)]) rfl sc__law_rates_right.nd (ei_seq (ev_var 6 (pv 6))) (blkOk_by (own := [("_law_k", 7)]) (N := N__law_rates_right) (sc := defScope s__law_rates_right) (by decide +kernel)) (by decide) (fun _ _ _ _ _ => (eg_name (i := 7) sc__law_rates_right.nd rfl (by first | exact .inl rfl | exact .inr rfl))) (fun _ _ _ _ _ => ets_nil) (fun _ _ _ _ _ => (ev_ix (ev_var 5 (pv 5)) (ev_var 7 (pv 7)))))) (ev_neg ev_int))) (es_one (es_ret ev_bl)) es_nil)
  (es_one (es_if (et_w (ew_and (et_cmp (op_neA (Ev.Room.u64 hr)) os_neA (nomark _) (ev_var 6 (pv 6)) (ev_lst ea_nil)) (ew_and1 (et_cmp (op_neA (Ev.Room.u64 hr)) os_neA (nomark _) (ev_call (FnX.pure (ok_units C TB)) (hr.mono (by decide)) hgd (by rfl) (w_glo_units C) (k_units C) (ea_cons (ev_tup (ea_cons (ev_sl (al := false) (ev_var 2 (pv 2)) (eo_some (ev_ix (ev_var 6 (pv 6)) (ev_neg ev_int))) eo_none) (ea_cons ev_int ea_nil))) (ea_cons (ev_var 4 (pv 4)) ea_nil))) (ev_call (FnX.pure (ok_units C TB)) (hr.mono (by decide)) hgd (by rfl) (w_glo_units C) (k_units C) (ea_cons (ev_var 1 (pv 1)) (ea_cons (ev_var 4 (pv 4)) ea_nil))))))) (es_one (es_ret ev_bl)) es_nil)))))))
  (es_one (es_ret ev_bl))))
theorem ok_law (C : Cn K mg) (TB : ∀ p ∈ lamC K, LamX.TabB base mg p.1 p.2) : FnG P w K mg base 10 (He.ga K "law") 1 F_law := by
  obtain ⟨fd, Fu⟩ := u_law C
  refine fn_bodyD (k := 9) (N := N_law) (ps := ["_law_script"]) (m := m_law) Fu sc_law (Fu.bindsN fun _ _ _ _ _ _ us hl => match us, hl with | [_], _ => rfl) fun cdv A outer s H hr hgd hcv => PSs.nox ?_
  delta m_law
  exact (es_cons (es_set (i := 1) sc_law.nd rfl (by first | exact .inl rfl | exact .inr rfl) (ev_call (ok__law_begun C TB) (hr.mono (by decide)) hgd (by rfl) (w_glo__law_begun C) (k__law_begun C) (ea_cons (ev_var 0 (pv 0)) ea_nil)))
  (es_cons (es_for PassesOwn.never rfl (ei_rng1 (by rfl) (w_free_range C) ev_int) (eg_name (i := 2) sc_law.nd rfl (by first | exact .inl rfl | exact .inr rfl))
  (es_cons (es_set (i := 3) sc_law.nd rfl (by first | exact .inl rfl | exact .inr rfl) (ev_call (ok__law_any_grade C TB) (hr.mono (by decide)) hgd (by rfl) (w_glo__law_any_grade C) (k__law_any_grade C) (ea_cons (ev_var 1 (pv 1)) ea_nil)))
  (es_cons (es_par (i := 4) (j := 5) rfl sc_law.nd rfl rfl (by decide) rfl rfl (ea_cons (ev_call (ok__law_row C TB) (hr.mono (by decide)) hgd (by rfl) (w_glo__law_row C) (k__law_row C) (ea_cons (ev_var 3 (pv 3)) ea_nil)) (ea_cons (ev_B (cr_repr hgd (Ev.Room.u64 hr)) cs_repr (by rfl) (w_free_repr C) bb_repr (ea_cons (ev_var 3 (pv 3)) ea_nil)) ea_nil)) (by rfl))
  (es_cons (es_if (et_not (et_val (ev_call (ok__law_parts_right C TB) (hr.mono (by decide)) hgd (by rfl) (w_glo__law_parts_right C) (k__law_parts_right C) (ea_cons (ev_var 3 (pv 3)) (ea_cons (ev_var 4 (pv 4)) ea_nil))))) (es_one (es_ret ev_bl)) es_nil)
  (es_cons (es_for PassesOwn.never rfl (ei_seq (ev_tup (ea_cons (ev_bin op_addAll (os_add (al := false)) ev_int (ev_call (ok__law_draw C TB) (hr.mono (by decide)) hgd (by rfl) (w_glo__law_draw C) (k__law_draw C) (ea_cons (ev_var 1 (pv 1)) (ea_cons ev_int ea_nil)))) (ea_cons (ev_bin op_sub os_sub (ev_neg ev_int) (ev_call (ok__law_draw C TB) (hr.mono (by decide)) hgd (by rfl) (w_glo__law_draw C) (k__law_draw C) (ea_cons (ev_var 1 (pv 1)) (ea_cons ev_int ea_nil)))) ea_nil)))) (eg_name (i := 6) sc_law.nd rfl (by first | exact .inl rfl | exact .inr rfl))
  (es_one (es_if (et_not (et_val (ev_call (ok__law_moved_right C TB) (hr.mono (by decide)) hgd (by rfl) (w_glo__law_moved_right C) (k__law_moved_right C) (ea_cons (ev_var 3 (pv 3)) (ea_cons (ev_var 4 (pv 4)) (ea_cons (ev_var 6 (pv 6)) ea_nil)))))) (es_one (es_ret ev_bl)) es_nil)))
  (es_cons (es_if (et_cmp (op_neA (Ev.Room.u64 hr)) os_neA (nomark _) (ev_lc (al := false) (own := [("_law_budget_here", 8)]) rfl sc_law.nd (ei_seq (ev_var 3 (pv 3))) (blkOk_by (own := [("_law_budget_here", 8)]) (N := N_law) (sc := defScope s_law) (by decide +kernel)) (by decide) (fun _ _ _ _ _ => (eg_name (i := 8) sc_law.nd rfl (by first | exact .inl rfl | exact .inr rfl))) (fun _ _ _ _ _ => (ets_one (et_not (et_val (ev_call (ok__law_rates_right C TB) (hr.mono (by decide)) hgd (by rfl) (w_glo__law_rates_right C) (k__law_rates_right C) (ea_cons (ev_var 1 (pv 1)) (ea_cons (ev_var 8 (pv 8)) ea_nil))))))) (fun _ _ _ _ _ => (ev_var 8 (pv 8)))) (ev_lst ea_nil)) (es_one (es_ret ev_bl)) es_nil)
  (es_cons (es_set (i := 7) sc_law.nd rfl (by first | exact .inl rfl | exact .inr rfl) (ev_Ty call_tupA cs_tuple (by rfl) (w_free_tuple C) bb_tuple (ea_cons (ev_lc (al := false) (own := [("_law_rates", 9), ("_law_most", 10)]) rfl sc_law.nd (ei_seq (ev_var 3 (pv 3))) (blkOk_by (own := [("_law_rates", 9), ("_law_most", 10)]) (N := N_law) (sc := defScope s_law) (by decide +kernel)) (by decide) (fun _ _ _ _ _ => (eg_tup rfl (egs_cons (eg_name (i := 9) sc_law.nd rfl (by first | exact .inl rfl | exact .inr rfl)) (egs_cons (eg_name (i := 10) sc_law.nd rfl (by first | exact .inl rfl | exact .inr rfl)) egs_nil)))) (fun _ _ _ _ _ => ets_nil) (fun _ _ _ _ _ => (ev_tup (ea_cons (ev_var 9 (pv 9)) (ea_cons (ev_call (ok__law_draw C TB) (hr.mono (by decide)) hgd (by rfl) (w_glo__law_draw C) (k__law_draw C) (ea_cons (ev_var 1 (pv 1)) (ea_cons ev_int ea_nil))) ea_nil))))) ea_nil)))
  (es_one (es_if (et_w (ew_or (et_cmp (op_neA (Ev.Room.u64 hr)) os_neA (nomark _) (ev_call (ok__law_row C TB) (hr.mono (by decide)) hgd (by rfl) (w_glo__law_row C) (k__law_row C) (ea_cons (ev_var 7 (pv 7)) ea_nil)) (ev_var 4 (pv 4))) (ew_or1 (et_cmp (op_neA (Ev.Room.u64 hr)) os_neA (nomark _) (ev_B (cr_repr hgd (Ev.Room.u64 hr)) cs_repr (by rfl) (w_free_repr C) bb_repr (ea_cons (ev_var 3 (pv 3)) ea_nil)) (ev_var 5 (pv 5)))))) (es_one (es_ret ev_bl)) es_nil)))))))))
  (es_one (es_ret ev_bl))))
end
/-! ### the head -/
abbrev R : PySem.W.OpenRow := PySem.W.OpenLaw.row PySem.Challenge.rw_coolbook_k16_whole_units_told_otherwise
abbrev hk : PySem.W.Hook := hookDT 4 fa fn exK
def ob (s : PySem.W.SharedT) : AlE := obsDT 4 fa fn exK (HandSHeadRun.getT s)
theorem ob_eq (s : PySem.W.SharedT) : ob s = hk.obs s.abs := obsDT_eq (HandSHeadRun.getT_eq s)
def names0 : List PySem.Str := ["is_whole", "is_warmth", "is_rate", "is_budget", "is_grade", "need_grade", "units_of", "need_warmth", "units", "units_by", "_law_mixed", "_law_folded", "_law_draw", "_law_begun", "_law_budget", "_law_any_budget", "_law_any_grade", "_law_row", "_law_moved", "_law_moved_right", "_law_steps_right", "_law_parts_right", "_law_rates_right", "COLDEST", "WARMEST", "MOST_RATES", "MOST_UNITS", "MOST_IN_ALL", "MOST_BUDGETS", "CoolError"]
def names1 : List PySem.Str := ["BadWarmth", "BadGrade"]
def names : List PySem.Str := names0 ++ names1
theorem run (w : World) : HandSHeadRun.RunEq R (PySem.W.view R.prog [37]) hk ob 4000 names w := by
  intro os
  kernel_rfl
end K16

namespace K16
open PySem PySem.Spec PyProof.Rows L2 Ev
/-! ### the law's own numbers -/
abbrev kC : Key := .inr "cells"
abbrev kL : Key := .inr "left"
abbrev kA : Key := .inr "at"
def S3 (cells left : List Int) (at_ : Int) (T : Sto) : Sto := .lst (cells.map .int) :: .dct [kC, kL, kA] [.ref 0, .ref 2, .int at_] :: .lst (left.map .int) :: T
theorem val_at (a b c : D) : valX [kC, kL, kA] [a, b, c] kA = some c := rfl
theorem val_left (a b c : D) : valX [kC, kL, kA] [a, b, c] kL = some b := rfl
theorem val_cells (a b c : D) : valX [kC, kL, kA] [a, b, c] kC = some a := rfl
theorem put_at (a b c d : D) : putX [kC, kL, kA] [a, b, c] kA d = ([kC, kL, kA], [a, b, d]) := rfl
def mixed (c k : Int) : Int := (c * (1 + 2 * k) * 48271 % 2147483647 + 7919 * k * k + 104729 * k) * 69621 % 2147483629 / 7
theorem mixed_lo (c k : Int) : 0 ≤ mixed c k := by unfold mixed; omega
theorem mixed_hi (c k : Int) : mixed c k < 2147483629 := by unfold mixed; omega
def mulOk (i j : Int) : Prop := (-18446744073709551616 < i ∧ i < 18446744073709551616) ∨ (-18446744073709551616 < j ∧ j < 18446744073709551616)
theorem mixed_ok (S : Sto) (c k : Int) (hc : -18446744073709551616 < c ∧ c < 18446744073709551616) (hk : -4611686018427387904 < k ∧ k < 4611686018427387904) : F__law_mixed S [.int c, .int k] = .ok (.int (mixed c k)) S := by
  unfold F__law_mixed m__law_mixed
  simp (disch := first | assumption | omega | (simp only [List.length_map, List.length_append, List.length_range, List.length_zip, List.length_drop, List.length_reverse, Int.reduceToNat, Bool.and_self, List.length_cons, List.length_nil, List.length_range] <;> omega) | fail) only [↓wp_bind, wp_bind, wp_ok, LTurn, LTook, runF, outF, inits, mSeq, mSet, mRet, mBin, mVar, mC, mIte, mTst, mB, mCons, mNil, mSkip, mAsg, mDrop, mPar, mPar3, mIf, mNotT, mAndT, mOrT, mNotV, mAndV, mOrV, mLst, mLstA, mTup, mFor, mIt, asI, asIL, mYes, mSl, mO, mO0, mNeg, mRng1, mRng2, mChain, mComp, mkL, wipeD, mZip, mEnum, mEnumT, mIsi, gN, gT, gCons', gNil', List.map_cons, List.map_nil, List.length_cons, List.length_nil, List.length_map, List.length_append, List.length_range, List.length_zip, List.length_drop, List.length_reverse, Int.reduceToNat, Bool.and_self, List.map_append, List.replicate, List.cons_append, List.nil_append, List.getElem?_cons_zero, List.getElem?_cons_succ, List.set_cons_zero, List.set_cons_succ, Res.bind_ok, Res.bind_bad, Nat.reduceAdd, Nat.reduceSub, Nat.reduceLeDiff, Int.cast_ofNat_Int, Int.natCast_add, Int.reduceNeg, Int.reduceSub, Int.reduceAdd, Int.reduceEq, Int.reduceLT, Int.reduceLE, reduceCtorEq, reduceIte, if_true, if_false, if_lim, decide_true, decide_false, Bool.not_true, Bool.not_false, Bool.false_eq_true, argN1, argN2, argN3, argN4, argN5, fMulA_ok, fMod_ok, fDiv_ok, fAdd_ok, fSub_ok, fGt_ok, fLt_ok, fLe_ok, fGe_ok, eqI_ok, neI_ok, eqS_ok, neS_ok, lenT_ok, lenL_ok, lenM_ok, ixT0, ixT1, ixT2, ixW0, ixW1, ixL0, ixL1, ixL2, ixT_last, ixT_mid, ixT_mid2, pick2_ok, pick3_ok, pick4_ok, pick5_ok, if_int, if_str, slT_to, slT_from, slT_from1, slT_to0, slT_fr0, slT_fr1, addT_ok, addL_ok, tupL_ok, anyBl, allBl, neI_nil, eqI_nil, sto_snoc, listT_ref, listT_val, Nat.zero_add]
  rfl

theorem get_at (cells left : List Int) (k : Int) (T : Sto) : fIxD (S3 cells left k T) (.ref 1) (.str "at") = .ok (.int k) (S3 cells left k T) := rfl
theorem get_left (cells left : List Int) (k : Int) (T : Sto) : fIxD (S3 cells left k T) (.ref 1) (.str "left") = .ok (.ref 2) (S3 cells left k T) := rfl
theorem get_cells (cells left : List Int) (k : Int) (T : Sto) : fIxD (S3 cells left k T) (.ref 1) (.str "cells") = .ok (.ref 0) (S3 cells left k T) := rfl
theorem put_at' (cells left : List Int) (k j : Int) (T : Sto) (sl : Sl) : subD (S3 cells left k T) (.ref 1) (.str "at") (.int j) sl = .ok sl (S3 cells left j T) := rfl
theorem shaped_nil : SeqAt.shaped (.list []) = true := by decide
theorem ne_nil (cells left : List Int) (k : Int) (T : Sto) : fEqA true (S3 cells left k T) (.ref 2) (.lst []) = .ok (.bl (!left.isEmpty)) (S3 cells left k T) := by
  have e : toPy (S3 cells left k T) (.ref 2) = some (.list (left.map PyData.int)) := by
    show (match D.pys (left.map .int) with | some ps => some (PyData.list ps) | none => none) = _
    rw [pys_ints]
  show fEq true (S3 cells left k T) (.ref 2) (.lst []) = _
  unfold fEq
  rw [e]
  show (if (SeqAt.shaped (.list (left.map PyData.int)) && SeqAt.shaped (.list [])) = true then _ else _) = _
  rw [shaped_ints, shaped_nil]
  cases left with
  | nil => rfl
  | cons x xs => rfl
theorem len_left (cells left : List Int) (k : Int) (T : Sto) : fLen (S3 cells left k T) [.ref 2] = .ok (.int left.length) (S3 cells left k T) := by
  show Res.ok (D.int ((left.map D.int).length : Nat)) _ = _
  rw [List.length_map]
theorem atI_nat' {α : Type} (xs : List α) {i : Int} (h0 : 0 ≤ i) (h1 : i < xs.length) : L2.atI xs i = xs[i.toNat]? := by
  unfold L2.atI ixN
  rw [if_pos h0, if_pos h1]
  rfl
theorem ix_ints (S : Sto) (d : D) (xs : List Int) (h : asQ S d = some (xs.map .int)) {i : Int} (h0 : 0 ≤ i) (h1 : i < xs.length) : fIx S d (.int i) = .ok (.int (xs.getD i.toNat 0)) S := by
  unfold fIx
  rw [h]
  show (match L2.atI (xs.map D.int) i with | some d => Res.ok d S | none => Res.bad) = _
  have hi : i.toNat < xs.length := by omega
  rw [atI_nat' _ h0 (by rw [List.length_map]; exact h1), List.getElem?_map, List.getD_eq_getElem?_getD, List.getElem?_eq_getElem hi]
  rfl
theorem ix_left (cells left : List Int) (k : Int) (T : Sto) {i : Int} (h0 : 0 ≤ i) (h1 : i < left.length) : fIx (S3 cells left k T) (.ref 2) (.int i) = .ok (.int (left.getD i.toNat 0)) (S3 cells left k T) := ix_ints _ _ _ rfl h0 h1
theorem ix_cells (cells left : List Int) (k : Int) (T : Sto) {i : Int} (h0 : 0 ≤ i) (h1 : i < cells.length) : fIx (S3 cells left k T) (.ref 0) (.int i) = .ok (.int (cells.getD i.toNat 0)) (S3 cells left k T) := ix_ints _ _ _ rfl h0 h1
theorem put_left (cells left : List Int) (k j : Int) (T : Sto) (sl : Sl) {i : Int} (h0 : 0 ≤ i) (h1 : i < left.length) : subD (S3 cells left k T) (.ref 2) (.int i) (.int j) sl = .ok sl (S3 cells (left.set i.toNat j) k T) := by
  show (match ixN (left.map D.int).length i with | some m => Res.ok sl ((S3 cells left k T).set 2 (.lst ((left.map D.int).set m (.int j)))) | none => Res.bad) = _
  unfold ixN
  rw [List.length_map, if_pos h0, if_pos h1]
  show Res.ok sl _ = Res.ok sl _
  unfold S3
  rw [List.map_set]
  rfl
def G (n : Nat) (S : Sto) : Prop := ∃ cells left k, S = S3 cells left k [] ∧ cells.length = 64 ∧ (∀ c ∈ cells, 0 ≤ c ∧ c < 2147483647) ∧ 0 ≤ k ∧ k + (n : Int) ≤ 1152921504606846976
theorem getD_mem {xs : List Int} {i : Nat} (h : i < xs.length) : xs.getD i 0 ∈ xs := by
  rw [List.getD_eq_getElem?_getD, List.getElem?_eq_getElem h]
  exact List.getElem_mem h
theorem draw_ok {n : Nat} {S : Sto} (g : G (n + 1) S) {many : Int} (h0 : 0 < many) (h1 : many < 1073741824) : ∃ v S', (∀ T, F__law_draw (S ++ T) [.ref 1, .int many] = .ok (.int v) (S' ++ T)) ∧ 0 ≤ v ∧ v < many ∧ G n S' := by
  obtain ⟨cells, left, k, rfl, hl, hc, hk, hn⟩ := g
  have hk64 : 0 ≤ k % 64 ∧ k % 64 < cells.length := by rw [hl]; omega
  have hcell : 0 ≤ cells.getD (k % 64).toNat 0 ∧ cells.getD (k % 64).toNat 0 < 2147483647 := hc _ (getD_mem (by omega))
  have app : ∀ (cells left : List Int) (k : Int) (T : Sto), S3 cells left k [] ++ T = S3 cells left k T := fun _ _ _ _ => rfl
  have last : ∀ (left : List Int) (T : Sto), ((fIx (S3 cells left (k + 1) T) (.ref 0) (.int (k % 64)))) = .ok (.int (cells.getD (k % 64).toNat 0)) (S3 cells left (k + 1) T) := fun left T => ix_cells cells left (k + 1) T hk64.1 hk64.2
  have fin : ∀ (c : Int), 0 ≤ c % many ∧ c % many < many := fun c => ⟨Int.emod_nonneg _ (by omega), Int.emod_lt_of_pos _ h0⟩
  have deep : 0 ≤ mixed (cells.getD (k % 64).toNat 0 + 31 * (k / 64)) k ∧ mixed (cells.getD (k % 64).toNat 0 + 31 * (k / 64)) k < 2147483629 := ⟨mixed_lo _ _, mixed_hi _ _⟩
  by_cases he : left = []
  · subst he
    refine ⟨mixed (mixed (cells.getD (k % 64).toNat 0 + 31 * (k / 64)) k) (k + 7) % many, S3 cells [] (k + 1) [], fun T => ?_, (fin _).1, (fin _).2, cells, [], k + 1, rfl, hl, hc, by omega, by omega⟩
    rw [app]
    unfold F__law_draw m__law_draw
    simp (disch := first | assumption | omega | (simp only [List.length_map, List.length_append, List.length_range, List.length_zip, List.length_drop, List.length_reverse, Int.reduceToNat, Bool.and_self, List.length_cons, List.length_nil, List.length_range] <;> omega) | fail) only [↓wp_bind, wp_bind, wp_ok, LTurn, LTook, runF, outF, inits, mSeq, mSet, mRet, mBin, mVar, mC, mIte, mTst, mB, mCons, mNil, mSkip, mAsg, mDrop, mPar, mPar3, mIf, mNotT, mAndT, mOrT, mNotV, mAndV, mOrV, mLst, mLstA, mTup, mFor, mIt, asI, asIL, mYes, mSl, mO, mO0, mNeg, mRng1, mRng2, mChain, mComp, mkL, wipeD, mZip, mEnum, mEnumT, mIsi, gN, gT, gCons', gNil', List.map_cons, List.map_nil, List.length_cons, List.length_nil, List.length_map, List.length_append, List.length_range, List.length_zip, List.length_drop, List.length_reverse, Int.reduceToNat, Bool.and_self, List.map_append, List.replicate, List.cons_append, List.nil_append, List.getElem?_cons_zero, List.getElem?_cons_succ, List.set_cons_zero, List.set_cons_succ, Res.bind_ok, Res.bind_bad, Nat.reduceAdd, Nat.reduceSub, Nat.reduceLeDiff, Int.cast_ofNat_Int, Int.natCast_add, Int.reduceNeg, Int.reduceSub, Int.reduceAdd, Int.reduceEq, Int.reduceLT, Int.reduceLE, reduceCtorEq, reduceIte, if_true, if_false, if_lim, decide_true, decide_false, Bool.not_true, Bool.not_false, Bool.false_eq_true, argN1, argN2, argN3, argN4, argN5, fMulA_ok, fMod_ok, fDiv_ok, fAdd_ok, fSub_ok, fGt_ok, fLt_ok, fLe_ok, fGe_ok, eqI_ok, neI_ok, eqS_ok, neS_ok, lenT_ok, lenL_ok, lenM_ok, ixT0, ixT1, ixT2, ixW0, ixW1, ixL0, ixL1, ixL2, ixT_last, ixT_mid, ixT_mid2, pick2_ok, pick3_ok, pick4_ok, pick5_ok, if_int, if_str, slT_to, slT_from, slT_from1, slT_to0, slT_fr0, slT_fr1, addT_ok, addL_ok, tupL_ok, anyBl, allBl, neI_nil, eqI_nil, sto_snoc, listT_ref, listT_val, Nat.zero_add, get_at, gSubD, put_at', get_left, ne_nil, List.isEmpty_nil, Bool.not_true, get_cells, ix_cells, last, mixed_ok, app]
  · have hpos : 0 < (left.length : Int) := by
      have := List.length_pos_iff.mpr he
      omega
    have hemp : left.isEmpty = false := by simpa using he
    have hk2 : 0 ≤ k % (left.length : Int) ∧ k % (left.length : Int) < left.length := ⟨Int.emod_nonneg _ (by omega), Int.emod_lt_of_pos _ hpos⟩
    by_cases hp : 0 < left.getD (k % (left.length : Int)).toNat 0
    · refine ⟨left.getD (k % (left.length : Int)).toNat 0 % many, S3 cells (left.set (k % (left.length : Int)).toNat (left.getD (k % (left.length : Int)).toNat 0 / many)) (k + 1) [], fun T => ?_, (fin _).1, (fin _).2, cells, _, k + 1, rfl, hl, hc, by omega, by omega⟩
      rw [app, app]
      unfold F__law_draw m__law_draw
      simp (disch := first | assumption | omega | (simp only [List.length_map, List.length_append, List.length_range, List.length_zip, List.length_drop, List.length_reverse, Int.reduceToNat, Bool.and_self, List.length_cons, List.length_nil, List.length_range] <;> omega) | fail) only [↓wp_bind, wp_bind, wp_ok, LTurn, LTook, runF, outF, inits, mSeq, mSet, mRet, mBin, mVar, mC, mIte, mTst, mB, mCons, mNil, mSkip, mAsg, mDrop, mPar, mPar3, mIf, mNotT, mAndT, mOrT, mNotV, mAndV, mOrV, mLst, mLstA, mTup, mFor, mIt, asI, asIL, mYes, mSl, mO, mO0, mNeg, mRng1, mRng2, mChain, mComp, mkL, wipeD, mZip, mEnum, mEnumT, mIsi, gN, gT, gCons', gNil', List.map_cons, List.map_nil, List.length_cons, List.length_nil, List.length_map, List.length_append, List.length_range, List.length_zip, List.length_drop, List.length_reverse, Int.reduceToNat, Bool.and_self, List.map_append, List.replicate, List.cons_append, List.nil_append, List.getElem?_cons_zero, List.getElem?_cons_succ, List.set_cons_zero, List.set_cons_succ, Res.bind_ok, Res.bind_bad, Nat.reduceAdd, Nat.reduceSub, Nat.reduceLeDiff, Int.cast_ofNat_Int, Int.natCast_add, Int.reduceNeg, Int.reduceSub, Int.reduceAdd, Int.reduceEq, Int.reduceLT, Int.reduceLE, reduceCtorEq, reduceIte, if_true, if_false, if_lim, decide_true, decide_false, Bool.not_true, Bool.not_false, Bool.false_eq_true, argN1, argN2, argN3, argN4, argN5, fMulA_ok, fMod_ok, fDiv_ok, fAdd_ok, fSub_ok, fGt_ok, fLt_ok, fLe_ok, fGe_ok, eqI_ok, neI_ok, eqS_ok, neS_ok, lenT_ok, lenL_ok, lenM_ok, ixT0, ixT1, ixT2, ixW0, ixW1, ixL0, ixL1, ixL2, ixT_last, ixT_mid, ixT_mid2, pick2_ok, pick3_ok, pick4_ok, pick5_ok, if_int, if_str, slT_to, slT_from, slT_from1, slT_to0, slT_fr0, slT_fr1, addT_ok, addL_ok, tupL_ok, anyBl, allBl, neI_nil, eqI_nil, sto_snoc, listT_ref, listT_val, Nat.zero_add, get_at, gSubD, put_at', get_left, ne_nil, hemp, Bool.not_false, len_left, ix_left, put_left, hp, decide_true]
    · refine ⟨mixed (mixed (cells.getD (k % 64).toNat 0 + 31 * (k / 64)) k) (k + 7) % many, S3 cells left (k + 1) [], fun T => ?_, (fin _).1, (fin _).2, cells, left, k + 1, rfl, hl, hc, by omega, by omega⟩
      rw [app, app]
      unfold F__law_draw m__law_draw
      simp (disch := first | assumption | omega | (simp only [List.length_map, List.length_append, List.length_range, List.length_zip, List.length_drop, List.length_reverse, Int.reduceToNat, Bool.and_self, List.length_cons, List.length_nil, List.length_range] <;> omega) | fail) only [↓wp_bind, wp_bind, wp_ok, LTurn, LTook, runF, outF, inits, mSeq, mSet, mRet, mBin, mVar, mC, mIte, mTst, mB, mCons, mNil, mSkip, mAsg, mDrop, mPar, mPar3, mIf, mNotT, mAndT, mOrT, mNotV, mAndV, mOrV, mLst, mLstA, mTup, mFor, mIt, asI, asIL, mYes, mSl, mO, mO0, mNeg, mRng1, mRng2, mChain, mComp, mkL, wipeD, mZip, mEnum, mEnumT, mIsi, gN, gT, gCons', gNil', List.map_cons, List.map_nil, List.length_cons, List.length_nil, List.length_map, List.length_append, List.length_range, List.length_zip, List.length_drop, List.length_reverse, Int.reduceToNat, Bool.and_self, List.map_append, List.replicate, List.cons_append, List.nil_append, List.getElem?_cons_zero, List.getElem?_cons_succ, List.set_cons_zero, List.set_cons_succ, Res.bind_ok, Res.bind_bad, Nat.reduceAdd, Nat.reduceSub, Nat.reduceLeDiff, Int.cast_ofNat_Int, Int.natCast_add, Int.reduceNeg, Int.reduceSub, Int.reduceAdd, Int.reduceEq, Int.reduceLT, Int.reduceLE, reduceCtorEq, reduceIte, if_true, if_false, if_lim, decide_true, decide_false, Bool.not_true, Bool.not_false, Bool.false_eq_true, argN1, argN2, argN3, argN4, argN5, fMulA_ok, fMod_ok, fDiv_ok, fAdd_ok, fSub_ok, fGt_ok, fLt_ok, fLe_ok, fGe_ok, eqI_ok, neI_ok, eqS_ok, neS_ok, lenT_ok, lenL_ok, lenM_ok, ixT0, ixT1, ixT2, ixW0, ixW1, ixL0, ixL1, ixL2, ixT_last, ixT_mid, ixT_mid2, pick2_ok, pick3_ok, pick4_ok, pick5_ok, if_int, if_str, slT_to, slT_from, slT_from1, slT_to0, slT_fr0, slT_fr1, addT_ok, addL_ok, tupL_ok, anyBl, allBl, neI_nil, eqI_nil, sto_snoc, listT_ref, listT_val, Nat.zero_add, get_at, gSubD, put_at', get_left, ne_nil, hemp, Bool.not_false, len_left, ix_left, put_left, hp, decide_false, get_cells, ix_cells, last, mixed_ok]
/-! ### loops, comprehensions -/
theorem loop_inv {g : MG} {m : MS} (Pv : Nat → Sl → Sto → Prop) : ∀ (items : List D) (sl : Sl) (S : Sto), (∀ d ∈ items, ∀ k sl S, Pv (k + 1) sl S → ∃ sl1 S1 sl2 S2, g d sl S = .ok sl1 S1 ∧ m sl1 S1 = .ok (.nx sl2) S2 ∧ Pv k sl2 S2) → Pv items.length sl S → ∃ sl' S', loopD g m items sl S = .ok (.nx sl') S' ∧ Pv 0 sl' S'
  | [], sl, S, _, h => ⟨sl, S, rfl, h⟩
  | d :: ds, sl, S, st, h => by
    obtain ⟨sl1, S1, sl2, S2, e1, e2, h2⟩ := st d (by simp) _ sl S h
    obtain ⟨sl', S', e3, h3⟩ := loop_inv Pv ds sl2 S2 (fun d hd => st d (by simp [hd])) h2
    refine ⟨sl', S', ?_, h3⟩
    show (g d sl S).bind _ = _
    rw [e1]
    simp only [Res.bind_ok]
    rw [e2]
    simp only [Res.bind_ok]
    exact e3
theorem comp_all {g : MG} {mt : MT} {me : ME} {f : D → D} : ∀ (items : List D) (sl : Sl) (S : Sto), (∀ d ∈ items, ∃ sl1, g d sl S = .ok sl1 S ∧ mt sl1 S = .ok true S ∧ me sl1 S = .ok (f d) S) → compD g mt me items sl S = .ok (items.map f) S
  | [], _, _, _ => rfl
  | d :: ds, sl, S, h => by
    obtain ⟨sl1, e1, e2, e3⟩ := h d (by simp)
    have ih := comp_all ds sl S fun d hd => h d (by simp [hd])
    show (g d sl S).bind _ = _
    rw [e1]
    simp only [Res.bind_ok]
    rw [e2]
    simp only [Res.bind_ok]
    rw [e3]
    simp only [Res.bind_ok]
    rw [ih]
    rfl
/-- nothing of it is taken -/
theorem comp_none {g : MG} {mt : MT} {me : ME} : ∀ (items : List D) (sl : Sl) (S : Sto), (∀ d ∈ items, ∃ sl1, g d sl S = .ok sl1 S ∧ mt sl1 S = .ok false S) → compD g mt me items sl S = .ok [] S
  | [], _, _, _ => rfl
  | d :: ds, sl, S, h => by
    obtain ⟨sl1, e1, e2⟩ := h d (by simp)
    have ih := comp_none (me := me) ds sl S fun d hd => h d (by simp [hd])
    show (g d sl S).bind _ = _
    rw [e1]
    simp only [Res.bind_ok]
    rw [e2]
    simp only [Res.bind_ok]
    exact ih
/-- with a state -/
theorem comp_st {g : MG} {mt : MT} {me : ME} (Pv : Nat → Sto → List D → Prop) : ∀ (items : List D) (sl : Sl) (S : Sto) (acc : List D), (∀ d ∈ items, ∀ k S acc, Pv (k + 1) S acc → ∃ sl1 y S2, g d sl S = .ok sl1 S ∧ mt sl1 S = .ok true S ∧ me sl1 S = .ok y S2 ∧ Pv k S2 (acc ++ [y])) → Pv items.length S acc → ∃ ys S', compD g mt me items sl S = .ok ys S' ∧ Pv 0 S' (acc ++ ys)
  | [], sl, S, acc, _, h => ⟨[], S, rfl, by rw [List.append_nil]; exact h⟩
  | d :: ds, sl, S, acc, st, h => by
    obtain ⟨sl1, y, S2, e1, e2, e3, h2⟩ := st d (by simp) _ S acc h
    obtain ⟨ys, S', e4, h3⟩ := comp_st Pv ds sl S2 (acc ++ [y]) (fun d hd => st d (by simp [hd])) h2
    refine ⟨y :: ys, S', ?_, by rw [List.append_assoc] at h3; exact h3⟩
    show (g d sl S).bind _ = _
    rw [e1]
    simp only [Res.bind_ok]
    rw [e2]
    simp only [Res.bind_ok]
    rw [e3]
    simp only [Res.bind_ok]
    rw [e4]
    rfl
theorem put_ints {S : Sto} {n : Nat} {xs : List Int} (h : S[n]? = some (.lst (xs.map .int))) (j : Int) (sl : Sl) {i : Int} (h0 : 0 ≤ i) (h1 : i < xs.length) : subD S (.ref n) (.int i) (.int j) sl = .ok sl (S.set n (.lst ((xs.set i.toNat j).map .int))) := by
  unfold subD
  simp only [h]
  have e : ixN (xs.map D.int).length i = some i.toNat := by
    unfold ixN
    rw [List.length_map, if_pos h0, if_pos h1]
  rw [e, List.map_set]
theorem seq_nx {m m' : MS} {sl sl1 : Sl} {S S1 : Sto} {r : Res Fl} (h : m sl S = .ok (.nx sl1) S1) (h2 : m' sl1 S1 = r) : mSeq m m' sl S = r := by
  show (m sl S).bind _ = _
  rw [h]
  exact h2
theorem set_ok {i : Nat} {me : ME} {sl : Sl} {S S1 : Sto} {d : D} (h : me sl S = .ok d S1) : mSet i me sl S = .ok (.nx (sl.set i (some d))) S1 := by
  show (me sl S).bind _ = _
  rw [h]
  rfl
theorem ret_ok {me : ME} {sl : Sl} {S S1 : Sto} {d : D} (h : me sl S = .ok d S1) : mRet me sl S = .ok (.rt d) S1 := by
  show (me sl S).bind _ = _
  rw [h]
  rfl
theorem for_ok {mi : MI} {g : MG} {m : MS} {sl sl1 : Sl} {S S1 S2 : Sto} {items : List D} (h : mi sl S = .ok items S1) (h2 : loopD g m items sl S1 = .ok (.nx sl1) S2) : mFor mi g m sl S = .ok (.nx sl1) S2 := by
  show (mi sl S).bind _ = _
  rw [h]
  exact h2
theorem run_rt {n : Nat} {m : MS} {S S1 : Sto} {ds : List D} {d : D} (h : m (inits n ds) S = .ok (.rt d) S1) : runF n m S ds = .ok d S1 := by
  show outF (m (inits n ds) S) = _
  rw [h]
  rfl
theorem asg_ok {me : ME} {g : MG} {sl sl1 : Sl} {S S1 S2 : Sto} {d : D} (h : me sl S = .ok d S1) (h2 : g d sl S1 = .ok sl1 S2) : mAsg me g sl S = .ok (.nx sl1) S2 := by
  show (me sl S).bind _ = _
  rw [h]
  simp only [Res.bind_ok]
  rw [h2]
  rfl
theorem comp_ok {al : Bool} {vs : List Nat} {mi : MI} {g : MG} {mt : MT} {me : ME} {sl : Sl} {S S1 S2 : Sto} {items ys : List D} {r : Res D} (h : mi sl S = .ok items S1) (hl : items.length ≤ 16777216) (h2 : compD g mt me items (wipeD sl vs) S1 = .ok ys S2) (h3 : mkL al ys S2 = r) : mComp al vs mi g mt me sl S = r := by
  show (mi sl S).bind _ = _
  rw [h]
  simp only [Res.bind_ok, if_pos hl]
  rw [h2]
  exact h3
/-! ### the begin -/
def Cells (c : List Int) : Prop := c.length = 64 ∧ ∀ x ∈ c, 0 ≤ x ∧ x < 2147483647
theorem Cells.set {c : List Int} (h : Cells c) (i : Nat) {x : Int} (hx : 0 ≤ x ∧ x < 2147483647) : Cells (c.set i x) := by
  refine ⟨by simp [h.1], fun y hy => ?_⟩
  rcases List.mem_or_eq_of_mem_set hy with hy | hy
  · exact h.2 y hy
  · subst hy; exact hx
def init64 : List Int := (List.range 64).map fun (k : Nat) => 17 + (0 + (k : Int))
theorem init_ok : Cells init64 := by
  refine ⟨rfl, fun x hx => ?_⟩
  obtain ⟨k, hk, rfl⟩ := List.mem_map.mp hx
  have := List.mem_range.mp hk
  omega
theorem enum_mem {xs : List Int} {d : D} (h : d ∈ enumD (xs.map .int)) : ∃ (i : Nat) (c : Int), d = .wtp [.int (i : Nat), .int c] := by
  unfold enumD at h
  obtain ⟨i, hi, rfl⟩ := List.mem_map.mp h
  have hi := List.mem_range.mp hi
  rw [List.length_map] at hi
  refine ⟨i, xs[i], ?_⟩
  rw [List.getD_eq_getElem?_getD, List.getElem?_map, List.getElem?_eq_getElem hi]
  rfl
theorem folded_ok (ns : List Int) : ∃ c, Cells c ∧ F__law_folded [] [.scr ns] = .ok (.ref 0) [.lst (c.map .int)] := by
  unfold F__law_folded m__law_folded
  -- the numbers 17 ..
  have first : mComp true [2] (mRng1 (mC (.int 64))) (gN 2) mYes (mBin (fAdd false) (mC (.int 17)) (mVar 2)) [some (.scr ns), none, none, none] [] = .ok (.ref 0) [.lst (init64.map .int)] := rfl
  -- the cells
  have second := loop_inv (g := gT 2 (gCons' (gN 2) (gCons' (gN 3) gNil'))) (m := mAsg (mBin fMod (mBin (fAdd false) (mBin (fMulA false) (mBin fIx (mVar 1) (mBin fMod (mVar 2) (mC (.int 64)))) (mC (.int 48271))) (mVar 3)) (mC (.int 2147483647))) (gSubD (mVar 1) (mBin fMod (mVar 2) (mC (.int 64)))))
    (fun _ sl S => ∃ x y c, sl = [some (.scr ns), some (.ref 0), x, y] ∧ Cells c ∧ S = [.lst (c.map .int)]) (enumD (ns.map .int)) [some (.scr ns), some (.ref 0), none, none] [.lst (init64.map .int)]
    (fun d hd k sl S h => by
      obtain ⟨x, y, c, rfl, hc, rfl⟩ := h
      obtain ⟨i, z, rfl⟩ := enum_mem hd
      refine ⟨[some (.scr ns), some (.ref 0), some (.int (i : Nat)), some (.int z)], [.lst (c.map .int)], [some (.scr ns), some (.ref 0), some (.int (i : Nat)), some (.int z)], [.lst ((c.set ((i : Int) % 64).toNat ((c.getD ((i : Int) % 64).toNat 0 * 48271 + z) % 2147483647)).map .int)], rfl, ?_, _, _, _, rfl, hc.set _ ⟨by omega, by omega⟩, rfl⟩
      have h1 : 0 ≤ (i : Int) % 64 := by omega
      have h2 : (i : Int) % 64 < c.length := by rw [hc.1]; omega
      have e := ix_ints [.lst (c.map .int)] (.ref 0) c rfl h1 h2
      have e2 := put_ints (S := [.lst (c.map .int)]) (n := 0) (xs := c) rfl ((c.getD ((i : Int) % 64).toNat 0 * 48271 + z) % 2147483647) [some (.scr ns), some (.ref 0), some (.int (i : Nat)), some (.int z)] h1 h2
      simp (disch := first | assumption | omega | (simp only [List.length_map, List.length_append, List.length_range, List.length_zip, List.length_drop, List.length_reverse, Int.reduceToNat, Bool.and_self, List.length_cons, List.length_nil, List.length_range] <;> omega) | fail) only [↓wp_bind, wp_bind, wp_ok, LTurn, LTook, runF, outF, inits, mSeq, mSet, mRet, mBin, mVar, mC, mIte, mTst, mB, mCons, mNil, mSkip, mAsg, mDrop, mPar, mPar3, mIf, mNotT, mAndT, mOrT, mNotV, mAndV, mOrV, mLst, mLstA, mTup, mFor, mIt, asI, asIL, mYes, mSl, mO, mO0, mNeg, mRng1, mRng2, mChain, mComp, mkL, wipeD, mZip, mEnum, mEnumT, mIsi, gN, gT, gCons', gNil', List.map_cons, List.map_nil, List.length_cons, List.length_nil, List.length_map, List.length_append, List.length_range, List.length_zip, List.length_drop, List.length_reverse, Int.reduceToNat, Bool.and_self, List.map_append, List.replicate, List.cons_append, List.nil_append, List.getElem?_cons_zero, List.getElem?_cons_succ, List.set_cons_zero, List.set_cons_succ, Res.bind_ok, Res.bind_bad, Nat.reduceAdd, Nat.reduceSub, Nat.reduceLeDiff, Int.cast_ofNat_Int, Int.natCast_add, Int.reduceNeg, Int.reduceSub, Int.reduceAdd, Int.reduceEq, Int.reduceLT, Int.reduceLE, reduceCtorEq, reduceIte, if_true, if_false, if_lim, decide_true, decide_false, Bool.not_true, Bool.not_false, Bool.false_eq_true, argN1, argN2, argN3, argN4, argN5, fMulA_ok, fMod_ok, fDiv_ok, fAdd_ok, fSub_ok, fGt_ok, fLt_ok, fLe_ok, fGe_ok, eqI_ok, neI_ok, eqS_ok, neS_ok, lenT_ok, lenL_ok, lenM_ok, ixT0, ixT1, ixT2, ixW0, ixW1, ixL0, ixL1, ixL2, ixT_last, ixT_mid, ixT_mid2, pick2_ok, pick3_ok, pick4_ok, pick5_ok, if_int, if_str, slT_to, slT_from, slT_from1, slT_to0, slT_fr0, slT_fr1, addT_ok, addL_ok, tupL_ok, anyBl, allBl, neI_nil, eqI_nil, sto_snoc, listT_ref, listT_val, Nat.zero_add, gSubD, e, e2])
    ⟨none, none, init64, rfl, init_ok, rfl⟩
  obtain ⟨sl2, S2, e2, x, y, c, rfl, hc, rfl⟩ := second
  have third := loop_inv (g := gN 2) (m := mAsg (mBin fMod (mBin (fAdd false) (mBin fIx (mVar 1) (mVar 2)) (mBin (fMulA false) (mBin fIx (mVar 1) (mBin fSub (mVar 2) (mC (.int 1)))) (mC (.int 16807)))) (mC (.int 2147483647))) (gSubD (mVar 1) (mVar 2)))
    (fun _ sl S => ∃ x y c, sl = [some (.scr ns), some (.ref 0), x, y] ∧ Cells c ∧ S = [.lst (c.map .int)]) ((List.range ((64 : Int) - 1).toNat).map fun k => D.int (1 + (k : Nat))) [some (.scr ns), some (.ref 0), x, y] [.lst (c.map .int)]
    (fun d hd k sl S h => by
      obtain ⟨x, y, c, rfl, hc, rfl⟩ := h
      obtain ⟨i, hi, rfl⟩ := List.mem_map.mp hd
      have hi := List.mem_range.mp hi
      have hi : i < 63 := hi
      refine ⟨[some (.scr ns), some (.ref 0), some (.int (1 + (i : Nat))), y], [.lst (c.map .int)], [some (.scr ns), some (.ref 0), some (.int (1 + (i : Nat))), y], [.lst ((c.set ((1 : Int) + i).toNat ((c.getD ((1 : Int) + i).toNat 0 + c.getD ((1 : Int) + i - 1).toNat 0 * 16807) % 2147483647)).map .int)], rfl, ?_, _, _, _, rfl, hc.set _ ⟨by omega, by omega⟩, rfl⟩
      have h1 : 0 ≤ (1 : Int) + i := by omega
      have h2 : (1 : Int) + i < c.length := by rw [hc.1]; omega
      have h3 : 0 ≤ (1 : Int) + i - 1 := by omega
      have h4 : (1 : Int) + i - 1 < c.length := by rw [hc.1]; omega
      have e := ix_ints [.lst (c.map .int)] (.ref 0) c rfl h1 h2
      have e' := ix_ints [.lst (c.map .int)] (.ref 0) c rfl h3 h4
      have e2 := put_ints (S := [.lst (c.map .int)]) (n := 0) (xs := c) rfl ((c.getD ((1 : Int) + i).toNat 0 + c.getD ((1 : Int) + i - 1).toNat 0 * 16807) % 2147483647) [some (.scr ns), some (.ref 0), some (.int (1 + (i : Nat))), y] h1 h2
      simp (disch := first | assumption | omega | (simp only [List.length_map, List.length_append, List.length_range, List.length_zip, List.length_drop, List.length_reverse, Int.reduceToNat, Bool.and_self, List.length_cons, List.length_nil, List.length_range] <;> omega) | fail) only [↓wp_bind, wp_bind, wp_ok, LTurn, LTook, runF, outF, inits, mSeq, mSet, mRet, mBin, mVar, mC, mIte, mTst, mB, mCons, mNil, mSkip, mAsg, mDrop, mPar, mPar3, mIf, mNotT, mAndT, mOrT, mNotV, mAndV, mOrV, mLst, mLstA, mTup, mFor, mIt, asI, asIL, mYes, mSl, mO, mO0, mNeg, mRng1, mRng2, mChain, mComp, mkL, wipeD, mZip, mEnum, mEnumT, mIsi, gN, gT, gCons', gNil', List.map_cons, List.map_nil, List.length_cons, List.length_nil, List.length_map, List.length_append, List.length_range, List.length_zip, List.length_drop, List.length_reverse, Int.reduceToNat, Bool.and_self, List.map_append, List.replicate, List.cons_append, List.nil_append, List.getElem?_cons_zero, List.getElem?_cons_succ, List.set_cons_zero, List.set_cons_succ, Res.bind_ok, Res.bind_bad, Nat.reduceAdd, Nat.reduceSub, Nat.reduceLeDiff, Int.cast_ofNat_Int, Int.natCast_add, Int.reduceNeg, Int.reduceSub, Int.reduceAdd, Int.reduceEq, Int.reduceLT, Int.reduceLE, reduceCtorEq, reduceIte, if_true, if_false, if_lim, decide_true, decide_false, Bool.not_true, Bool.not_false, Bool.false_eq_true, argN1, argN2, argN3, argN4, argN5, fMulA_ok, fMod_ok, fDiv_ok, fAdd_ok, fSub_ok, fGt_ok, fLt_ok, fLe_ok, fGe_ok, eqI_ok, neI_ok, eqS_ok, neS_ok, lenT_ok, lenL_ok, lenM_ok, ixT0, ixT1, ixT2, ixW0, ixW1, ixL0, ixL1, ixL2, ixT_last, ixT_mid, ixT_mid2, pick2_ok, pick3_ok, pick4_ok, pick5_ok, if_int, if_str, slT_to, slT_from, slT_from1, slT_to0, slT_fr0, slT_fr1, addT_ok, addL_ok, tupL_ok, anyBl, allBl, neI_nil, eqI_nil, sto_snoc, listT_ref, listT_val, Nat.zero_add, gSubD, e, e', e2])
    ⟨x, y, c, rfl, hc, rfl⟩
  obtain ⟨sl3, S3', e3, x3, y3, c3, rfl, hc3, rfl⟩ := third
  exact ⟨c3, hc3, run_rt (seq_nx (set_ok first) (seq_nx (for_ok rfl e2) (seq_nx (for_ok rfl e3) (ret_ok rfl))))⟩
def leftOf (c : Int) : Int := if 1000000000000000000 ≤ c then c else 0
theorem pow18 (S : Sto) : fPow S (.int 10) (.int 18) = .ok (.int 1000000000000000000) S := rfl
theorem begun_ok (ns : List Int) (hn : ns.length ≤ 63) : ∃ S, F__law_begun [] [.scr ns] = .ok (.ref 1) S ∧ G 1000000 S := by
  obtain ⟨c, hc, e⟩ := folded_ok ns
  unfold F__law_begun m__law_begun
  have first : mDisp true [((mC (.str "cells")), (mB (argN 1 F__law_folded) (mCons (mVar 0) mNil))), ((mC (.str "left")), (mLst mNil)), ((mC (.str "at")), (mC (.int 0)))] [some (.scr ns), none, none] [] = .ok (.ref 1) [.lst (c.map .int), .dct [kC, kL, kA] [.ref 0, .lst [], .int 0]] := by
    unfold mDisp
    simp only [mPairs]
    simp (disch := first | assumption | omega | (simp only [List.length_map, List.length_append, List.length_range, List.length_zip, List.length_drop, List.length_reverse, Int.reduceToNat, Bool.and_self, List.length_cons, List.length_nil, List.length_range] <;> omega) | fail) only [↓wp_bind, wp_bind, wp_ok, LTurn, LTook, runF, outF, inits, mSeq, mSet, mRet, mBin, mVar, mC, mIte, mTst, mB, mCons, mNil, mSkip, mAsg, mDrop, mPar, mPar3, mIf, mNotT, mAndT, mOrT, mNotV, mAndV, mOrV, mLst, mLstA, mTup, mFor, mIt, asI, asIL, mYes, mSl, mO, mO0, mNeg, mRng1, mRng2, mChain, mComp, mkL, wipeD, mZip, mEnum, mEnumT, mIsi, gN, gT, gCons', gNil', List.map_cons, List.map_nil, List.length_cons, List.length_nil, List.length_map, List.length_append, List.length_range, List.length_zip, List.length_drop, List.length_reverse, Int.reduceToNat, Bool.and_self, List.map_append, List.replicate, List.cons_append, List.nil_append, List.getElem?_cons_zero, List.getElem?_cons_succ, List.set_cons_zero, List.set_cons_succ, Res.bind_ok, Res.bind_bad, Nat.reduceAdd, Nat.reduceSub, Nat.reduceLeDiff, Int.cast_ofNat_Int, Int.natCast_add, Int.reduceNeg, Int.reduceSub, Int.reduceAdd, Int.reduceEq, Int.reduceLT, Int.reduceLE, reduceCtorEq, reduceIte, if_true, if_false, if_lim, decide_true, decide_false, Bool.not_true, Bool.not_false, Bool.false_eq_true, argN1, argN2, argN3, argN4, argN5, fMulA_ok, fMod_ok, fDiv_ok, fAdd_ok, fSub_ok, fGt_ok, fLt_ok, fLe_ok, fGe_ok, eqI_ok, neI_ok, eqS_ok, neS_ok, lenT_ok, lenL_ok, lenM_ok, ixT0, ixT1, ixT2, ixW0, ixW1, ixL0, ixL1, ixL2, ixT_last, ixT_mid, ixT_mid2, pick2_ok, pick3_ok, pick4_ok, pick5_ok, if_int, if_str, slT_to, slT_from, slT_from1, slT_to0, slT_fr0, slT_fr1, addT_ok, addL_ok, tupL_ok, anyBl, allBl, neI_nil, eqI_nil, sto_snoc, listT_ref, listT_val, Nat.zero_add, e]
    rfl
  have second : mComp true [2] (mIt (mVar 0)) (gN 2) mYes (mIf (mTst (mBin fGe (mVar 2) (mBin fPow (mC (.int 10)) (mC (.int 18))))) (mVar 2) (mC (.int 0))) [some (.scr ns), some (.ref 1), none] [.lst (c.map .int), .dct [kC, kL, kA] [.ref 0, .lst [], .int 0]]
      = .ok (.ref 2) [.lst (c.map .int), .dct [kC, kL, kA] [.ref 0, .lst [], .int 0], .lst ((ns.map leftOf).map .int)] := by
    refine comp_ok (items := ns.map .int) rfl (by rw [List.length_map]; omega) (comp_all (f := fun d => match d with | .int c => .int (leftOf c) | d => d) _ _ _ fun d hd => ?_) ?_
    · obtain ⟨z, hz, rfl⟩ := List.mem_map.mp hd
      refine ⟨[some (.scr ns), some (.ref 1), some (.int z)], rfl, rfl, ?_⟩
      unfold leftOf
      by_cases h : 1000000000000000000 ≤ z
      · simp (disch := first | assumption | omega | (simp only [List.length_map, List.length_append, List.length_range, List.length_zip, List.length_drop, List.length_reverse, Int.reduceToNat, Bool.and_self, List.length_cons, List.length_nil, List.length_range] <;> omega) | fail) only [↓wp_bind, wp_bind, wp_ok, LTurn, LTook, runF, outF, inits, mSeq, mSet, mRet, mBin, mVar, mC, mIte, mTst, mB, mCons, mNil, mSkip, mAsg, mDrop, mPar, mPar3, mIf, mNotT, mAndT, mOrT, mNotV, mAndV, mOrV, mLst, mLstA, mTup, mFor, mIt, asI, asIL, mYes, mSl, mO, mO0, mNeg, mRng1, mRng2, mChain, mComp, mkL, wipeD, mZip, mEnum, mEnumT, mIsi, gN, gT, gCons', gNil', List.map_cons, List.map_nil, List.length_cons, List.length_nil, List.length_map, List.length_append, List.length_range, List.length_zip, List.length_drop, List.length_reverse, Int.reduceToNat, Bool.and_self, List.map_append, List.replicate, List.cons_append, List.nil_append, List.getElem?_cons_zero, List.getElem?_cons_succ, List.set_cons_zero, List.set_cons_succ, Res.bind_ok, Res.bind_bad, Nat.reduceAdd, Nat.reduceSub, Nat.reduceLeDiff, Int.cast_ofNat_Int, Int.natCast_add, Int.reduceNeg, Int.reduceSub, Int.reduceAdd, Int.reduceEq, Int.reduceLT, Int.reduceLE, reduceCtorEq, reduceIte, if_true, if_false, if_lim, decide_true, decide_false, Bool.not_true, Bool.not_false, Bool.false_eq_true, argN1, argN2, argN3, argN4, argN5, fMulA_ok, fMod_ok, fDiv_ok, fAdd_ok, fSub_ok, fGt_ok, fLt_ok, fLe_ok, fGe_ok, eqI_ok, neI_ok, eqS_ok, neS_ok, lenT_ok, lenL_ok, lenM_ok, ixT0, ixT1, ixT2, ixW0, ixW1, ixL0, ixL1, ixL2, ixT_last, ixT_mid, ixT_mid2, pick2_ok, pick3_ok, pick4_ok, pick5_ok, if_int, if_str, slT_to, slT_from, slT_from1, slT_to0, slT_fr0, slT_fr1, addT_ok, addL_ok, tupL_ok, anyBl, allBl, neI_nil, eqI_nil, sto_snoc, listT_ref, listT_val, Nat.zero_add, pow18, h, decide_true, if_true]
      · simp (disch := first | assumption | omega | (simp only [List.length_map, List.length_append, List.length_range, List.length_zip, List.length_drop, List.length_reverse, Int.reduceToNat, Bool.and_self, List.length_cons, List.length_nil, List.length_range] <;> omega) | fail) only [↓wp_bind, wp_bind, wp_ok, LTurn, LTook, runF, outF, inits, mSeq, mSet, mRet, mBin, mVar, mC, mIte, mTst, mB, mCons, mNil, mSkip, mAsg, mDrop, mPar, mPar3, mIf, mNotT, mAndT, mOrT, mNotV, mAndV, mOrV, mLst, mLstA, mTup, mFor, mIt, asI, asIL, mYes, mSl, mO, mO0, mNeg, mRng1, mRng2, mChain, mComp, mkL, wipeD, mZip, mEnum, mEnumT, mIsi, gN, gT, gCons', gNil', List.map_cons, List.map_nil, List.length_cons, List.length_nil, List.length_map, List.length_append, List.length_range, List.length_zip, List.length_drop, List.length_reverse, Int.reduceToNat, Bool.and_self, List.map_append, List.replicate, List.cons_append, List.nil_append, List.getElem?_cons_zero, List.getElem?_cons_succ, List.set_cons_zero, List.set_cons_succ, Res.bind_ok, Res.bind_bad, Nat.reduceAdd, Nat.reduceSub, Nat.reduceLeDiff, Int.cast_ofNat_Int, Int.natCast_add, Int.reduceNeg, Int.reduceSub, Int.reduceAdd, Int.reduceEq, Int.reduceLT, Int.reduceLE, reduceCtorEq, reduceIte, if_true, if_false, if_lim, decide_true, decide_false, Bool.not_true, Bool.not_false, Bool.false_eq_true, argN1, argN2, argN3, argN4, argN5, fMulA_ok, fMod_ok, fDiv_ok, fAdd_ok, fSub_ok, fGt_ok, fLt_ok, fLe_ok, fGe_ok, eqI_ok, neI_ok, eqS_ok, neS_ok, lenT_ok, lenL_ok, lenM_ok, ixT0, ixT1, ixT2, ixW0, ixW1, ixL0, ixL1, ixL2, ixT_last, ixT_mid, ixT_mid2, pick2_ok, pick3_ok, pick4_ok, pick5_ok, if_int, if_str, slT_to, slT_from, slT_from1, slT_to0, slT_fr0, slT_fr1, addT_ok, addL_ok, tupL_ok, anyBl, allBl, neI_nil, eqI_nil, sto_snoc, listT_ref, listT_val, Nat.zero_add, pow18, h, decide_false, if_false]
    · rw [List.map_map, List.map_map]
      rfl
  refine ⟨S3 c (ns.map leftOf) 0 [], run_rt (seq_nx (set_ok first) (seq_nx (asg_ok second rfl) (ret_ok rfl))), c, ns.map leftOf, 0, rfl, hc.1, hc.2, by decide, by decide⟩
theorem G.len {n : Nat} {S : Sto} (g : G n S) : S.length = 3 := by
  obtain ⟨_, _, _, rfl, _⟩ := g
  rfl
theorem G.le {n m : Nat} {S : Sto} (g : G n S) (h : m ≤ n) : G m S := by
  obtain ⟨c, l, k, rfl, h1, h2, h3, h4⟩ := g
  exact ⟨c, l, k, rfl, h1, h2, h3, by omega⟩
theorem bnds_ints (n : Nat) : ∀ xs : List Int, D.bnds n (xs.map .int) = true
  | [] => rfl
  | x :: xs => by
    show (true && D.bnds n (xs.map .int)) = true
    rw [bnds_ints n xs] <;> rfl
theorem G.bnd {n : Nat} {S : Sto} (g : G n S) : S.all (Ob.bnd 3) = true := by
  obtain ⟨c, l, k, rfl, _⟩ := g
  show (D.bnds 3 (c.map .int) && (true && (D.bnds 3 (l.map .int) && true))) = true
  rw [bnds_ints, bnds_ints] <;> rfl
theorem wp_draw {n : Nat} {M T : Sto} {many : Int} {Q : D → Sto → Prop} (g : G (n + 1) M) (h0 : 0 < many) (h1 : many < 1073741824) (k : ∀ v M', 0 ≤ v → v < many → G n M' → Q (.int v) (M' ++ T)) : Wp (F__law_draw (M ++ T) [.ref 1, .int many]) Q tg := by
  obtain ⟨v, M', e, a, b, g'⟩ := draw_ok g h0 h1
  exact wp_of (e T) (k v M' a b g')
theorem G.bnd' {n : Nat} {M : Sto} (g : G n M) (m : Nat) (h : 3 ≤ m) : M.all (Ob.bnd m) = true := all_le h M g.bnd
theorem trim_ok' {n m : Nat} {M0 M T U : Sto} (g0 : G m M0) (g : G n M) (tok : Tok T) {d : D} (hd : d.bnd 3 = true) : trim (M0 ++ T).length d (M ++ (T ++ U)) = .ok d (M ++ T) := by
  have l0 := g0.len
  have l1 := g.len
  exact trim_cells (by rw [l0, l1]) (D.bnd_le (by omega) d hd) (g.bnd' _ (by omega)) (all_le (Nat.zero_le _) T tok)
theorem rngOk_ok {i : Int} (h : -4611686018427387904 ≤ i ∧ i < 4611686018427387904) : rngOk i = true := decide_eq_true h
end K16

namespace K16
open PySem PySem.Spec PyProof.Rows L2 Ev
theorem is_whole_ok (S : Sto) (a lo hi : Int) (h : lo ≤ a ∧ a ≤ hi) : F_is_whole S [.int a, .int lo, .int hi] = .ok (.bl true) S := by
  unfold F_is_whole m_is_whole
  refine of_wp ?_
  simp (disch := first | assumption | omega | (simp only [List.length_map, List.length_append, List.length_range, List.length_zip, List.length_drop, List.length_reverse, Int.reduceToNat, Bool.and_self, List.length_cons, List.length_nil, List.length_range] <;> omega) | fail) only [↓wp_bind, wp_bind, wp_ok, LTurn, LTook, runF, outF, inits, mSeq, mSet, mRet, mBin, mVar, mC, mIte, mTst, mB, mCons, mNil, mSkip, mAsg, mDrop, mPar, mPar3, mIf, mNotT, mAndT, mOrT, mNotV, mAndV, mOrV, mLst, mLstA, mTup, mFor, mIt, asI, asIL, mYes, mSl, mO, mO0, mNeg, mRng1, mRng2, mChain, mComp, mkL, wipeD, mZip, mEnum, mEnumT, mIsi, gN, gT, gCons', gNil', List.map_cons, List.map_nil, List.length_cons, List.length_nil, List.length_map, List.length_append, List.length_range, List.length_zip, List.length_drop, List.length_reverse, Int.reduceToNat, Bool.and_self, List.map_append, List.replicate, List.cons_append, List.nil_append, List.getElem?_cons_zero, List.getElem?_cons_succ, List.set_cons_zero, List.set_cons_succ, Res.bind_ok, Res.bind_bad, Nat.reduceAdd, Nat.reduceSub, Nat.reduceLeDiff, Int.cast_ofNat_Int, Int.natCast_add, Int.reduceNeg, Int.reduceSub, Int.reduceAdd, Int.reduceEq, Int.reduceLT, Int.reduceLE, reduceCtorEq, reduceIte, if_true, if_false, if_lim, decide_true, decide_false, Bool.not_true, Bool.not_false, Bool.false_eq_true, argN1, argN2, argN3, argN4, argN5, fMulA_ok, fMod_ok, fDiv_ok, fAdd_ok, fSub_ok, fGt_ok, fLt_ok, fLe_ok, fGe_ok, eqI_ok, neI_ok, eqS_ok, neS_ok, lenT_ok, lenL_ok, lenM_ok, ixT0, ixT1, ixT2, ixW0, ixW1, ixL0, ixL1, ixL2, ixT_last, ixT_mid, ixT_mid2, pick2_ok, pick3_ok, pick4_ok, pick5_ok, if_int, if_str, slT_to, slT_from, slT_from1, slT_to0, slT_fr0, slT_fr1, addT_ok, addL_ok, tupL_ok, anyBl, allBl, neI_nil, eqI_nil, sto_snoc, listT_ref, listT_val, Nat.zero_add, tyS, Ty.isi, h.1, h.2]
  exact ⟨(by first | rfl | trivial), (by first | rfl | trivial)⟩
theorem all_yes {ι : Type} : ∀ xs : List ι, xs.all (fun _ => true) = true
  | [] => rfl
  | x :: xs => by rw [List.all_cons, all_yes xs] <;> rfl
end K16

namespace K16
open PySem PySem.Spec PyProof.Rows L2 Ev
/-! ### budgets -/
abbrev Bd := List (Int × Int) × Int
def rD (r : Int × Int) : D := .tup [.int r.1, .int r.2]
def bD (b : Bd) : D := .tup [.tup (b.1.map rD), .int b.2]
structure Bok (b : Bd) : Prop where
  few : 1 ≤ b.1.length ∧ b.1.length ≤ 5
  rise : (b.1.map (·.1)).Pairwise (· < ·)
  at_ : ∀ r ∈ b.1, (-60 ≤ r.1 ∧ r.1 ≤ 60) ∧ 0 ≤ r.2 ∧ r.2 ≤ 9
  most : 0 ≤ b.2 ∧ b.2 ≤ 9999
theorem bnd_r (n : Nat) (r : Int × Int) : (rD r).bnd n = true := rfl
theorem bnd_b (n : Nat) (b : Bd) : (bD b).bnd n = true := by
  show ((D.bnds n (b.1.map rD)) && (true && true)) = true
  rw [bnds_map (bnd_r n)] <;> rfl
theorem wp_budget {n : Nat} {M T : Sto} {Q : D → Sto → Prop} (g : G (n + 40) M) (tok : Tok T) (k : ∀ b M', Bok b → G n M' → Q (bD b) (M' ++ T)) : Wp (F__law_budget (M ++ T) [.ref 1]) Q tg := by
  have g0 := g
  have l0 := g.len
  unfold F__law_budget trimF m__law_budget
  simp (disch := first | assumption | omega | (simp only [List.length_map, List.length_append, List.length_range, List.length_zip, List.length_drop, List.length_reverse, Int.reduceToNat, Bool.and_self, List.length_cons, List.length_nil, List.length_range] <;> omega) | fail) only [↓wp_bind, wp_bind, wp_ok, LTurn, LTook, runF, outF, inits, mSeq, mSet, mRet, mBin, mVar, mC, mIte, mTst, mB, mCons, mNil, mSkip, mAsg, mDrop, mPar, mPar3, mIf, mNotT, mAndT, mOrT, mNotV, mAndV, mOrV, mLst, mLstA, mTup, mFor, mIt, asI, asIL, mYes, mSl, mO, mO0, mNeg, mRng1, mRng2, mChain, mComp, mkL, wipeD, mZip, mEnum, mEnumT, mIsi, gN, gT, gCons', gNil', List.map_cons, List.map_nil, List.length_cons, List.length_nil, List.length_map, List.length_append, List.length_range, List.length_zip, List.length_drop, List.length_reverse, Int.reduceToNat, Bool.and_self, List.map_append, List.replicate, List.cons_append, List.nil_append, List.getElem?_cons_zero, List.getElem?_cons_succ, List.set_cons_zero, List.set_cons_succ, Res.bind_ok, Res.bind_bad, Nat.reduceAdd, Nat.reduceSub, Nat.reduceLeDiff, Int.cast_ofNat_Int, Int.natCast_add, Int.reduceNeg, Int.reduceSub, Int.reduceAdd, Int.reduceEq, Int.reduceLT, Int.reduceLE, reduceCtorEq, reduceIte, if_true, if_false, if_lim, decide_true, decide_false, Bool.not_true, Bool.not_false, Bool.false_eq_true, argN1, argN2, argN3, argN4, argN5, fMulA_ok, fMod_ok, fDiv_ok, fAdd_ok, fSub_ok, fGt_ok, fLt_ok, fLe_ok, fGe_ok, eqI_ok, neI_ok, eqS_ok, neS_ok, lenT_ok, lenL_ok, lenM_ok, ixT0, ixT1, ixT2, ixW0, ixW1, ixL0, ixL1, ixL2, ixT_last, ixT_mid, ixT_mid2, pick2_ok, pick3_ok, pick4_ok, pick5_ok, if_int, if_str, slT_to, slT_from, slT_from1, slT_to0, slT_fr0, slT_fr1, addT_ok, addL_ok, tupL_ok, anyBl, allBl, neI_nil, eqI_nil, sto_snoc, listT_ref, listT_val, Nat.zero_add]
  refine wp_draw g (by omega) (by omega) fun v1 _ v10 v11 g => ?_; have l0 := g.len
  simp (disch := first | assumption | omega | (simp only [List.length_map, List.length_append, List.length_range, List.length_zip, List.length_drop, List.length_reverse, Int.reduceToNat, Bool.and_self, List.length_cons, List.length_nil, List.length_range] <;> omega) | fail) only [↓wp_bind, wp_bind, wp_ok, LTurn, LTook, runF, outF, inits, mSeq, mSet, mRet, mBin, mVar, mC, mIte, mTst, mB, mCons, mNil, mSkip, mAsg, mDrop, mPar, mPar3, mIf, mNotT, mAndT, mOrT, mNotV, mAndV, mOrV, mLst, mLstA, mTup, mFor, mIt, asI, asIL, mYes, mSl, mO, mO0, mNeg, mRng1, mRng2, mChain, mComp, mkL, wipeD, mZip, mEnum, mEnumT, mIsi, gN, gT, gCons', gNil', List.map_cons, List.map_nil, List.length_cons, List.length_nil, List.length_map, List.length_append, List.length_range, List.length_zip, List.length_drop, List.length_reverse, Int.reduceToNat, Bool.and_self, List.map_append, List.replicate, List.cons_append, List.nil_append, List.getElem?_cons_zero, List.getElem?_cons_succ, List.set_cons_zero, List.set_cons_succ, Res.bind_ok, Res.bind_bad, Nat.reduceAdd, Nat.reduceSub, Nat.reduceLeDiff, Int.cast_ofNat_Int, Int.natCast_add, Int.reduceNeg, Int.reduceSub, Int.reduceAdd, Int.reduceEq, Int.reduceLT, Int.reduceLE, reduceCtorEq, reduceIte, if_true, if_false, if_lim, decide_true, decide_false, Bool.not_true, Bool.not_false, Bool.false_eq_true, argN1, argN2, argN3, argN4, argN5, fMulA_ok, fMod_ok, fDiv_ok, fAdd_ok, fSub_ok, fGt_ok, fLt_ok, fLe_ok, fGe_ok, eqI_ok, neI_ok, eqS_ok, neS_ok, lenT_ok, lenL_ok, lenM_ok, ixT0, ixT1, ixT2, ixW0, ixW1, ixL0, ixL1, ixL2, ixT_last, ixT_mid, ixT_mid2, pick2_ok, pick3_ok, pick4_ok, pick5_ok, if_int, if_str, slT_to, slT_from, slT_from1, slT_to0, slT_fr0, slT_fr1, addT_ok, addL_ok, tupL_ok, anyBl, allBl, neI_nil, eqI_nil, sto_snoc, listT_ref, listT_val, Nat.zero_add, l0]
  refine wp_draw g (by omega) (by omega) fun v2 _ v20 v21 g => ?_; have l0 := g.len
  simp (disch := first | assumption | omega | (simp only [List.length_map, List.length_append, List.length_range, List.length_zip, List.length_drop, List.length_reverse, Int.reduceToNat, Bool.and_self, List.length_cons, List.length_nil, List.length_range] <;> omega) | fail) only [↓wp_bind, wp_bind, wp_ok, LTurn, LTook, runF, outF, inits, mSeq, mSet, mRet, mBin, mVar, mC, mIte, mTst, mB, mCons, mNil, mSkip, mAsg, mDrop, mPar, mPar3, mIf, mNotT, mAndT, mOrT, mNotV, mAndV, mOrV, mLst, mLstA, mTup, mFor, mIt, asI, asIL, mYes, mSl, mO, mO0, mNeg, mRng1, mRng2, mChain, mComp, mkL, wipeD, mZip, mEnum, mEnumT, mIsi, gN, gT, gCons', gNil', List.map_cons, List.map_nil, List.length_cons, List.length_nil, List.length_map, List.length_append, List.length_range, List.length_zip, List.length_drop, List.length_reverse, Int.reduceToNat, Bool.and_self, List.map_append, List.replicate, List.cons_append, List.nil_append, List.getElem?_cons_zero, List.getElem?_cons_succ, List.set_cons_zero, List.set_cons_succ, Res.bind_ok, Res.bind_bad, Nat.reduceAdd, Nat.reduceSub, Nat.reduceLeDiff, Int.cast_ofNat_Int, Int.natCast_add, Int.reduceNeg, Int.reduceSub, Int.reduceAdd, Int.reduceEq, Int.reduceLT, Int.reduceLE, reduceCtorEq, reduceIte, if_true, if_false, if_lim, decide_true, decide_false, Bool.not_true, Bool.not_false, Bool.false_eq_true, argN1, argN2, argN3, argN4, argN5, fMulA_ok, fMod_ok, fDiv_ok, fAdd_ok, fSub_ok, fGt_ok, fLt_ok, fLe_ok, fGe_ok, eqI_ok, neI_ok, eqS_ok, neS_ok, lenT_ok, lenL_ok, lenM_ok, ixT0, ixT1, ixT2, ixW0, ixW1, ixL0, ixL1, ixL2, ixT_last, ixT_mid, ixT_mid2, pick2_ok, pick3_ok, pick4_ok, pick5_ok, if_int, if_str, slT_to, slT_from, slT_from1, slT_to0, slT_fr0, slT_fr1, addT_ok, addL_ok, tupL_ok, anyBl, allBl, neI_nil, eqI_nil, sto_snoc, listT_ref, listT_val, Nat.zero_add]
  refine wp_draw g (by omega) (by omega) fun v3 _ v30 v31 g => ?_; have l0 := g.len
  simp (disch := first | assumption | omega | (simp only [List.length_map, List.length_append, List.length_range, List.length_zip, List.length_drop, List.length_reverse, Int.reduceToNat, Bool.and_self, List.length_cons, List.length_nil, List.length_range] <;> omega) | fail) only [↓wp_bind, wp_bind, wp_ok, LTurn, LTook, runF, outF, inits, mSeq, mSet, mRet, mBin, mVar, mC, mIte, mTst, mB, mCons, mNil, mSkip, mAsg, mDrop, mPar, mPar3, mIf, mNotT, mAndT, mOrT, mNotV, mAndV, mOrV, mLst, mLstA, mTup, mFor, mIt, asI, asIL, mYes, mSl, mO, mO0, mNeg, mRng1, mRng2, mChain, mComp, mkL, wipeD, mZip, mEnum, mEnumT, mIsi, gN, gT, gCons', gNil', List.map_cons, List.map_nil, List.length_cons, List.length_nil, List.length_map, List.length_append, List.length_range, List.length_zip, List.length_drop, List.length_reverse, Int.reduceToNat, Bool.and_self, List.map_append, List.replicate, List.cons_append, List.nil_append, List.getElem?_cons_zero, List.getElem?_cons_succ, List.set_cons_zero, List.set_cons_succ, Res.bind_ok, Res.bind_bad, Nat.reduceAdd, Nat.reduceSub, Nat.reduceLeDiff, Int.cast_ofNat_Int, Int.natCast_add, Int.reduceNeg, Int.reduceSub, Int.reduceAdd, Int.reduceEq, Int.reduceLT, Int.reduceLE, reduceCtorEq, reduceIte, if_true, if_false, if_lim, decide_true, decide_false, Bool.not_true, Bool.not_false, Bool.false_eq_true, argN1, argN2, argN3, argN4, argN5, fMulA_ok, fMod_ok, fDiv_ok, fAdd_ok, fSub_ok, fGt_ok, fLt_ok, fLe_ok, fGe_ok, eqI_ok, neI_ok, eqS_ok, neS_ok, lenT_ok, lenL_ok, lenM_ok, ixT0, ixT1, ixT2, ixW0, ixW1, ixL0, ixL1, ixL2, ixT_last, ixT_mid, ixT_mid2, pick2_ok, pick3_ok, pick4_ok, pick5_ok, if_int, if_str, slT_to, slT_from, slT_from1, slT_to0, slT_fr0, slT_fr1, addT_ok, addL_ok, tupL_ok, anyBl, allBl, neI_nil, eqI_nil, sto_snoc, listT_ref, listT_val, Nat.zero_add, rngOk_ok]
  refine wp_loopN _ (fun i sl S => ∃ rs above M' x, sl = [some (.ref 1), some (.int above), some (.ref (3 + T.length)), x] ∧ S = M' ++ (T ++ [.lst (rs.map rD)]) ∧ G (n + 4 + 4 * (5 - i)) M' ∧ rs.length = i ∧ -2 ≤ above ∧ above ≤ 3 + 11 * (i : Int) ∧ (rs.map (·.1)).Pairwise (· < ·) ∧ ∀ r ∈ rs, -2 ≤ r.1 ∧ r.1 < above ∧ r.1 ≤ 3 + 11 * ((i : Int) - 1) ∧ 0 ≤ r.2 ∧ r.2 ≤ 9) (fun i hi sl S hP => ?_) (fun sl S hP => ?_) _ _ ⟨[], v1 - 2, _, _, rfl, rfl, g.le (by omega), rfl, by omega, by omega, .nil, fun r hr => by cases hr⟩
  · obtain ⟨rs, above, M', x, rfl, rfl, g, hlen, hlo, hhi, hr1, hr2⟩ := hP
    have g := g.le (m := n + 4 + 4 * (5 - (i + 1)) + 4) (by omega)
    have lM := g.len
    have lk : ∀ M1 : Sto, M1.length = 3 → (M1 ++ (T ++ [Ob.lst (rs.map rD)]))[3 + T.length]? = some (.lst (rs.map rD)) := fun M1 h => cell_at (U := []) (by omega)
    simp (disch := first | assumption | omega | (simp only [List.length_map, List.length_append, List.length_range, List.length_zip, List.length_drop, List.length_reverse, Int.reduceToNat, Bool.and_self, List.length_cons, List.length_nil, List.length_range] <;> omega) | fail) only [↓wp_bind, wp_bind, wp_ok, LTurn, LTook, runF, outF, inits, mSeq, mSet, mRet, mBin, mVar, mC, mIte, mTst, mB, mCons, mNil, mSkip, mAsg, mDrop, mPar, mPar3, mIf, mNotT, mAndT, mOrT, mNotV, mAndV, mOrV, mLst, mLstA, mTup, mFor, mIt, asI, asIL, mYes, mSl, mO, mO0, mNeg, mRng1, mRng2, mChain, mComp, mkL, wipeD, mZip, mEnum, mEnumT, mIsi, gN, gT, gCons', gNil', List.map_cons, List.map_nil, List.length_cons, List.length_nil, List.length_map, List.length_append, List.length_range, List.length_zip, List.length_drop, List.length_reverse, Int.reduceToNat, Bool.and_self, List.map_append, List.replicate, List.cons_append, List.nil_append, List.getElem?_cons_zero, List.getElem?_cons_succ, List.set_cons_zero, List.set_cons_succ, Res.bind_ok, Res.bind_bad, Nat.reduceAdd, Nat.reduceSub, Nat.reduceLeDiff, Int.cast_ofNat_Int, Int.natCast_add, Int.reduceNeg, Int.reduceSub, Int.reduceAdd, Int.reduceEq, Int.reduceLT, Int.reduceLE, reduceCtorEq, reduceIte, if_true, if_false, if_lim, decide_true, decide_false, Bool.not_true, Bool.not_false, Bool.false_eq_true, argN1, argN2, argN3, argN4, argN5, fMulA_ok, fMod_ok, fDiv_ok, fAdd_ok, fSub_ok, fGt_ok, fLt_ok, fLe_ok, fGe_ok, eqI_ok, neI_ok, eqS_ok, neS_ok, lenT_ok, lenL_ok, lenM_ok, ixT0, ixT1, ixT2, ixW0, ixW1, ixL0, ixL1, ixL2, ixT_last, ixT_mid, ixT_mid2, pick2_ok, pick3_ok, pick4_ok, pick5_ok, if_int, if_str, slT_to, slT_from, slT_from1, slT_to0, slT_fr0, slT_fr1, addT_ok, addL_ok, tupL_ok, anyBl, allBl, neI_nil, eqI_nil, sto_snoc, listT_ref, listT_val, Nat.zero_add, mApp]
    refine wp_draw (n := n + 4 + 4 * (5 - (i + 1)) + 3) g (by omega) (by omega) fun w1 _ w10 w11 g => ?_; have l0 := g.len
    have l1 := l0
    simp (disch := first | assumption | omega | (simp only [List.length_map, List.length_append, List.length_range, List.length_zip, List.length_drop, List.length_reverse, Int.reduceToNat, Bool.and_self, List.length_cons, List.length_nil, List.length_range] <;> omega) | fail) only [↓wp_bind, wp_bind, wp_ok, LTurn, LTook, runF, outF, inits, mSeq, mSet, mRet, mBin, mVar, mC, mIte, mTst, mB, mCons, mNil, mSkip, mAsg, mDrop, mPar, mPar3, mIf, mNotT, mAndT, mOrT, mNotV, mAndV, mOrV, mLst, mLstA, mTup, mFor, mIt, asI, asIL, mYes, mSl, mO, mO0, mNeg, mRng1, mRng2, mChain, mComp, mkL, wipeD, mZip, mEnum, mEnumT, mIsi, gN, gT, gCons', gNil', List.map_cons, List.map_nil, List.length_cons, List.length_nil, List.length_map, List.length_append, List.length_range, List.length_zip, List.length_drop, List.length_reverse, Int.reduceToNat, Bool.and_self, List.map_append, List.replicate, List.cons_append, List.nil_append, List.getElem?_cons_zero, List.getElem?_cons_succ, List.set_cons_zero, List.set_cons_succ, Res.bind_ok, Res.bind_bad, Nat.reduceAdd, Nat.reduceSub, Nat.reduceLeDiff, Int.cast_ofNat_Int, Int.natCast_add, Int.reduceNeg, Int.reduceSub, Int.reduceAdd, Int.reduceEq, Int.reduceLT, Int.reduceLE, reduceCtorEq, reduceIte, if_true, if_false, if_lim, decide_true, decide_false, Bool.not_true, Bool.not_false, Bool.false_eq_true, argN1, argN2, argN3, argN4, argN5, fMulA_ok, fMod_ok, fDiv_ok, fAdd_ok, fSub_ok, fGt_ok, fLt_ok, fLe_ok, fGe_ok, eqI_ok, neI_ok, eqS_ok, neS_ok, lenT_ok, lenL_ok, lenM_ok, ixT0, ixT1, ixT2, ixW0, ixW1, ixL0, ixL1, ixL2, ixT_last, ixT_mid, ixT_mid2, pick2_ok, pick3_ok, pick4_ok, pick5_ok, if_int, if_str, slT_to, slT_from, slT_from1, slT_to0, slT_fr0, slT_fr1, addT_ok, addL_ok, tupL_ok, anyBl, allBl, neI_nil, eqI_nil, sto_snoc, listT_ref, listT_val, Nat.zero_add]
    refine wp_draw g (by omega) (by omega) fun w2 _ w20 w21 g => ?_; have l0 := g.len
    have hm : (rs.map rD).length < 16777216 := by rw [List.length_map]; omega
    simp (disch := first | assumption | omega | (simp only [List.length_map, List.length_append, List.length_range, List.length_zip, List.length_drop, List.length_reverse, Int.reduceToNat, Bool.and_self, List.length_cons, List.length_nil, List.length_range] <;> omega) | fail) only [↓wp_bind, wp_bind, wp_ok, LTurn, LTook, runF, outF, inits, mSeq, mSet, mRet, mBin, mVar, mC, mIte, mTst, mB, mCons, mNil, mSkip, mAsg, mDrop, mPar, mPar3, mIf, mNotT, mAndT, mOrT, mNotV, mAndV, mOrV, mLst, mLstA, mTup, mFor, mIt, asI, asIL, mYes, mSl, mO, mO0, mNeg, mRng1, mRng2, mChain, mComp, mkL, wipeD, mZip, mEnum, mEnumT, mIsi, gN, gT, gCons', gNil', List.map_cons, List.map_nil, List.length_cons, List.length_nil, List.length_map, List.length_append, List.length_range, List.length_zip, List.length_drop, List.length_reverse, Int.reduceToNat, Bool.and_self, List.map_append, List.replicate, List.cons_append, List.nil_append, List.getElem?_cons_zero, List.getElem?_cons_succ, List.set_cons_zero, List.set_cons_succ, Res.bind_ok, Res.bind_bad, Nat.reduceAdd, Nat.reduceSub, Nat.reduceLeDiff, Int.cast_ofNat_Int, Int.natCast_add, Int.reduceNeg, Int.reduceSub, Int.reduceAdd, Int.reduceEq, Int.reduceLT, Int.reduceLE, reduceCtorEq, reduceIte, if_true, if_false, if_lim, decide_true, decide_false, Bool.not_true, Bool.not_false, Bool.false_eq_true, argN1, argN2, argN3, argN4, argN5, fMulA_ok, fMod_ok, fDiv_ok, fAdd_ok, fSub_ok, fGt_ok, fLt_ok, fLe_ok, fGe_ok, eqI_ok, neI_ok, eqS_ok, neS_ok, lenT_ok, lenL_ok, lenM_ok, ixT0, ixT1, ixT2, ixW0, ixW1, ixL0, ixL1, ixL2, ixT_last, ixT_mid, ixT_mid2, pick2_ok, pick3_ok, pick4_ok, pick5_ok, if_int, if_str, slT_to, slT_from, slT_from1, slT_to0, slT_fr0, slT_fr1, addT_ok, addL_ok, tupL_ok, anyBl, allBl, neI_nil, eqI_nil, sto_snoc, listT_ref, listT_val, Nat.zero_add, appR_ok (lk _ lM) (lk _ l0) hm, cell_set]
    refine wp_draw g (by omega) (by omega) fun w3 _ w30 w31 g => ?_; have l0 := g.len
    simp (disch := first | assumption | omega | (simp only [List.length_map, List.length_append, List.length_range, List.length_zip, List.length_drop, List.length_reverse, Int.reduceToNat, Bool.and_self, List.length_cons, List.length_nil, List.length_range] <;> omega) | fail) only [↓wp_bind, wp_bind, wp_ok, LTurn, LTook, runF, outF, inits, mSeq, mSet, mRet, mBin, mVar, mC, mIte, mTst, mB, mCons, mNil, mSkip, mAsg, mDrop, mPar, mPar3, mIf, mNotT, mAndT, mOrT, mNotV, mAndV, mOrV, mLst, mLstA, mTup, mFor, mIt, asI, asIL, mYes, mSl, mO, mO0, mNeg, mRng1, mRng2, mChain, mComp, mkL, wipeD, mZip, mEnum, mEnumT, mIsi, gN, gT, gCons', gNil', List.map_cons, List.map_nil, List.length_cons, List.length_nil, List.length_map, List.length_append, List.length_range, List.length_zip, List.length_drop, List.length_reverse, Int.reduceToNat, Bool.and_self, List.map_append, List.replicate, List.cons_append, List.nil_append, List.getElem?_cons_zero, List.getElem?_cons_succ, List.set_cons_zero, List.set_cons_succ, Res.bind_ok, Res.bind_bad, Nat.reduceAdd, Nat.reduceSub, Nat.reduceLeDiff, Int.cast_ofNat_Int, Int.natCast_add, Int.reduceNeg, Int.reduceSub, Int.reduceAdd, Int.reduceEq, Int.reduceLT, Int.reduceLE, reduceCtorEq, reduceIte, if_true, if_false, if_lim, decide_true, decide_false, Bool.not_true, Bool.not_false, Bool.false_eq_true, argN1, argN2, argN3, argN4, argN5, fMulA_ok, fMod_ok, fDiv_ok, fAdd_ok, fSub_ok, fGt_ok, fLt_ok, fLe_ok, fGe_ok, eqI_ok, neI_ok, eqS_ok, neS_ok, lenT_ok, lenL_ok, lenM_ok, ixT0, ixT1, ixT2, ixW0, ixW1, ixL0, ixL1, ixL2, ixT_last, ixT_mid, ixT_mid2, pick2_ok, pick3_ok, pick4_ok, pick5_ok, if_int, if_str, slT_to, slT_from, slT_from1, slT_to0, slT_fr0, slT_fr1, addT_ok, addL_ok, tupL_ok, anyBl, allBl, neI_nil, eqI_nil, sto_snoc, listT_ref, listT_val, Nat.zero_add]
    refine wp_draw g (by omega) (by omega) fun w4 _ w40 w41 g => ?_; have l0 := g.len
    simp (disch := first | assumption | omega | (simp only [List.length_map, List.length_append, List.length_range, List.length_zip, List.length_drop, List.length_reverse, Int.reduceToNat, Bool.and_self, List.length_cons, List.length_nil, List.length_range] <;> omega) | fail) only [↓wp_bind, wp_bind, wp_ok, LTurn, LTook, runF, outF, inits, mSeq, mSet, mRet, mBin, mVar, mC, mIte, mTst, mB, mCons, mNil, mSkip, mAsg, mDrop, mPar, mPar3, mIf, mNotT, mAndT, mOrT, mNotV, mAndV, mOrV, mLst, mLstA, mTup, mFor, mIt, asI, asIL, mYes, mSl, mO, mO0, mNeg, mRng1, mRng2, mChain, mComp, mkL, wipeD, mZip, mEnum, mEnumT, mIsi, gN, gT, gCons', gNil', List.map_cons, List.map_nil, List.length_cons, List.length_nil, List.length_map, List.length_append, List.length_range, List.length_zip, List.length_drop, List.length_reverse, Int.reduceToNat, Bool.and_self, List.map_append, List.replicate, List.cons_append, List.nil_append, List.getElem?_cons_zero, List.getElem?_cons_succ, List.set_cons_zero, List.set_cons_succ, Res.bind_ok, Res.bind_bad, Nat.reduceAdd, Nat.reduceSub, Nat.reduceLeDiff, Int.cast_ofNat_Int, Int.natCast_add, Int.reduceNeg, Int.reduceSub, Int.reduceAdd, Int.reduceEq, Int.reduceLT, Int.reduceLE, reduceCtorEq, reduceIte, if_true, if_false, if_lim, decide_true, decide_false, Bool.not_true, Bool.not_false, Bool.false_eq_true, argN1, argN2, argN3, argN4, argN5, fMulA_ok, fMod_ok, fDiv_ok, fAdd_ok, fSub_ok, fGt_ok, fLt_ok, fLe_ok, fGe_ok, eqI_ok, neI_ok, eqS_ok, neS_ok, lenT_ok, lenL_ok, lenM_ok, ixT0, ixT1, ixT2, ixW0, ixW1, ixL0, ixL1, ixL2, ixT_last, ixT_mid, ixT_mid2, pick2_ok, pick3_ok, pick4_ok, pick5_ok, if_int, if_str, slT_to, slT_from, slT_from1, slT_to0, slT_fr0, slT_fr1, addT_ok, addL_ok, tupL_ok, anyBl, allBl, neI_nil, eqI_nil, sto_snoc, listT_ref, listT_val, Nat.zero_add]
    refine ⟨rs ++ [(above, if w2 = 0 then 0 else if w2 = 1 then 1 else if w2 = 2 then 1 else if w2 = 3 then 2 else w1)], above + 1 + w4, _, _, rfl, ?_, g, by simp [hlen], by omega, by omega, ?_, fun r hr => ?_⟩
    · rw [List.map_append]; rfl
    · rw [List.map_append, List.pairwise_append]
      refine ⟨hr1, by simp, fun a ha b hb => ?_⟩
      obtain ⟨r, hr, rfl⟩ := List.mem_map.mp ha
      have hb : b = above := by simpa using hb
      subst hb
      exact (hr2 r hr).2.1
    · rcases List.mem_append.mp hr with hr | hr
      · have := hr2 r hr
        omega
      · have hr := List.mem_singleton.mp hr
        subst hr
        simp only
        omega
  · obtain ⟨rs, above, M', x, rfl, rfl, g, hlen, hlo, hhi, hr1, hr2⟩ := hP
    have g := g.le (m := n + 3) (by omega)
    have l0 := g.len
    have lk : ∀ M1 : Sto, M1.length = 3 → (M1 ++ (T ++ [Ob.lst (rs.map rD)]))[3 + T.length]? = some (.lst (rs.map rD)) := fun M1 h => cell_at (U := []) (by omega)
    simp (disch := first | assumption | omega | (simp only [List.length_map, List.length_append, List.length_range, List.length_zip, List.length_drop, List.length_reverse, Int.reduceToNat, Bool.and_self, List.length_cons, List.length_nil, List.length_range] <;> omega) | fail) only [↓wp_bind, wp_bind, wp_ok, LTurn, LTook, runF, outF, inits, mSeq, mSet, mRet, mBin, mVar, mC, mIte, mTst, mB, mCons, mNil, mSkip, mAsg, mDrop, mPar, mPar3, mIf, mNotT, mAndT, mOrT, mNotV, mAndV, mOrV, mLst, mLstA, mTup, mFor, mIt, asI, asIL, mYes, mSl, mO, mO0, mNeg, mRng1, mRng2, mChain, mComp, mkL, wipeD, mZip, mEnum, mEnumT, mIsi, gN, gT, gCons', gNil', List.map_cons, List.map_nil, List.length_cons, List.length_nil, List.length_map, List.length_append, List.length_range, List.length_zip, List.length_drop, List.length_reverse, Int.reduceToNat, Bool.and_self, List.map_append, List.replicate, List.cons_append, List.nil_append, List.getElem?_cons_zero, List.getElem?_cons_succ, List.set_cons_zero, List.set_cons_succ, Res.bind_ok, Res.bind_bad, Nat.reduceAdd, Nat.reduceSub, Nat.reduceLeDiff, Int.cast_ofNat_Int, Int.natCast_add, Int.reduceNeg, Int.reduceSub, Int.reduceAdd, Int.reduceEq, Int.reduceLT, Int.reduceLE, reduceCtorEq, reduceIte, if_true, if_false, if_lim, decide_true, decide_false, Bool.not_true, Bool.not_false, Bool.false_eq_true, argN1, argN2, argN3, argN4, argN5, fMulA_ok, fMod_ok, fDiv_ok, fAdd_ok, fSub_ok, fGt_ok, fLt_ok, fLe_ok, fGe_ok, eqI_ok, neI_ok, eqS_ok, neS_ok, lenT_ok, lenL_ok, lenM_ok, ixT0, ixT1, ixT2, ixW0, ixW1, ixL0, ixL1, ixL2, ixT_last, ixT_mid, ixT_mid2, pick2_ok, pick3_ok, pick4_ok, pick5_ok, if_int, if_str, slT_to, slT_from, slT_from1, slT_to0, slT_fr0, slT_fr1, addT_ok, addL_ok, tupL_ok, anyBl, allBl, neI_nil, eqI_nil, sto_snoc, listT_ref, listT_val, Nat.zero_add, tupR_ok (lk _ l0)]
    refine wp_draw g (by omega) (by omega) fun u1 _ u10 u11 g => ?_; have l0 := g.len
    simp (disch := first | assumption | omega | (simp only [List.length_map, List.length_append, List.length_range, List.length_zip, List.length_drop, List.length_reverse, Int.reduceToNat, Bool.and_self, List.length_cons, List.length_nil, List.length_range] <;> omega) | fail) only [↓wp_bind, wp_bind, wp_ok, LTurn, LTook, runF, outF, inits, mSeq, mSet, mRet, mBin, mVar, mC, mIte, mTst, mB, mCons, mNil, mSkip, mAsg, mDrop, mPar, mPar3, mIf, mNotT, mAndT, mOrT, mNotV, mAndV, mOrV, mLst, mLstA, mTup, mFor, mIt, asI, asIL, mYes, mSl, mO, mO0, mNeg, mRng1, mRng2, mChain, mComp, mkL, wipeD, mZip, mEnum, mEnumT, mIsi, gN, gT, gCons', gNil', List.map_cons, List.map_nil, List.length_cons, List.length_nil, List.length_map, List.length_append, List.length_range, List.length_zip, List.length_drop, List.length_reverse, Int.reduceToNat, Bool.and_self, List.map_append, List.replicate, List.cons_append, List.nil_append, List.getElem?_cons_zero, List.getElem?_cons_succ, List.set_cons_zero, List.set_cons_succ, Res.bind_ok, Res.bind_bad, Nat.reduceAdd, Nat.reduceSub, Nat.reduceLeDiff, Int.cast_ofNat_Int, Int.natCast_add, Int.reduceNeg, Int.reduceSub, Int.reduceAdd, Int.reduceEq, Int.reduceLT, Int.reduceLE, reduceCtorEq, reduceIte, if_true, if_false, if_lim, decide_true, decide_false, Bool.not_true, Bool.not_false, Bool.false_eq_true, argN1, argN2, argN3, argN4, argN5, fMulA_ok, fMod_ok, fDiv_ok, fAdd_ok, fSub_ok, fGt_ok, fLt_ok, fLe_ok, fGe_ok, eqI_ok, neI_ok, eqS_ok, neS_ok, lenT_ok, lenL_ok, lenM_ok, ixT0, ixT1, ixT2, ixW0, ixW1, ixL0, ixL1, ixL2, ixT_last, ixT_mid, ixT_mid2, pick2_ok, pick3_ok, pick4_ok, pick5_ok, if_int, if_str, slT_to, slT_from, slT_from1, slT_to0, slT_fr0, slT_fr1, addT_ok, addL_ok, tupL_ok, anyBl, allBl, neI_nil, eqI_nil, sto_snoc, listT_ref, listT_val, Nat.zero_add]
    refine wp_draw g (by omega) (by omega) fun u2 _ u20 u21 g => ?_; have l0 := g.len
    simp (disch := first | assumption | omega | (simp only [List.length_map, List.length_append, List.length_range, List.length_zip, List.length_drop, List.length_reverse, Int.reduceToNat, Bool.and_self, List.length_cons, List.length_nil, List.length_range] <;> omega) | fail) only [↓wp_bind, wp_bind, wp_ok, LTurn, LTook, runF, outF, inits, mSeq, mSet, mRet, mBin, mVar, mC, mIte, mTst, mB, mCons, mNil, mSkip, mAsg, mDrop, mPar, mPar3, mIf, mNotT, mAndT, mOrT, mNotV, mAndV, mOrV, mLst, mLstA, mTup, mFor, mIt, asI, asIL, mYes, mSl, mO, mO0, mNeg, mRng1, mRng2, mChain, mComp, mkL, wipeD, mZip, mEnum, mEnumT, mIsi, gN, gT, gCons', gNil', List.map_cons, List.map_nil, List.length_cons, List.length_nil, List.length_map, List.length_append, List.length_range, List.length_zip, List.length_drop, List.length_reverse, Int.reduceToNat, Bool.and_self, List.map_append, List.replicate, List.cons_append, List.nil_append, List.getElem?_cons_zero, List.getElem?_cons_succ, List.set_cons_zero, List.set_cons_succ, Res.bind_ok, Res.bind_bad, Nat.reduceAdd, Nat.reduceSub, Nat.reduceLeDiff, Int.cast_ofNat_Int, Int.natCast_add, Int.reduceNeg, Int.reduceSub, Int.reduceAdd, Int.reduceEq, Int.reduceLT, Int.reduceLE, reduceCtorEq, reduceIte, if_true, if_false, if_lim, decide_true, decide_false, Bool.not_true, Bool.not_false, Bool.false_eq_true, argN1, argN2, argN3, argN4, argN5, fMulA_ok, fMod_ok, fDiv_ok, fAdd_ok, fSub_ok, fGt_ok, fLt_ok, fLe_ok, fGe_ok, eqI_ok, neI_ok, eqS_ok, neS_ok, lenT_ok, lenL_ok, lenM_ok, ixT0, ixT1, ixT2, ixW0, ixW1, ixL0, ixL1, ixL2, ixT_last, ixT_mid, ixT_mid2, pick2_ok, pick3_ok, pick4_ok, pick5_ok, if_int, if_str, slT_to, slT_from, slT_from1, slT_to0, slT_fr0, slT_fr1, addT_ok, addL_ok, tupL_ok, anyBl, allBl, neI_nil, eqI_nil, sto_snoc, listT_ref, listT_val, Nat.zero_add]
    refine wp_draw g (by omega) (by omega) fun u3 _ u30 u31 g => ?_; have l0 := g.len
    have e := trim_ok' (U := [.lst (rs.map rD)]) g0 g tok (bnd_b 3 (rs, if u3 = 0 then u1 else if u3 = 1 then u2 else if u3 = 2 then 9999 else 0))
    simp only [bD, List.length_append] at e
    simp (disch := first | assumption | omega | (simp only [List.length_map, List.length_append, List.length_range, List.length_zip, List.length_drop, List.length_reverse, Int.reduceToNat, Bool.and_self, List.length_cons, List.length_nil, List.length_range] <;> omega) | fail) only [↓wp_bind, wp_bind, wp_ok, LTurn, LTook, runF, outF, inits, mSeq, mSet, mRet, mBin, mVar, mC, mIte, mTst, mB, mCons, mNil, mSkip, mAsg, mDrop, mPar, mPar3, mIf, mNotT, mAndT, mOrT, mNotV, mAndV, mOrV, mLst, mLstA, mTup, mFor, mIt, asI, asIL, mYes, mSl, mO, mO0, mNeg, mRng1, mRng2, mChain, mComp, mkL, wipeD, mZip, mEnum, mEnumT, mIsi, gN, gT, gCons', gNil', List.map_cons, List.map_nil, List.length_cons, List.length_nil, List.length_map, List.length_append, List.length_range, List.length_zip, List.length_drop, List.length_reverse, Int.reduceToNat, Bool.and_self, List.map_append, List.replicate, List.cons_append, List.nil_append, List.getElem?_cons_zero, List.getElem?_cons_succ, List.set_cons_zero, List.set_cons_succ, Res.bind_ok, Res.bind_bad, Nat.reduceAdd, Nat.reduceSub, Nat.reduceLeDiff, Int.cast_ofNat_Int, Int.natCast_add, Int.reduceNeg, Int.reduceSub, Int.reduceAdd, Int.reduceEq, Int.reduceLT, Int.reduceLE, reduceCtorEq, reduceIte, if_true, if_false, if_lim, decide_true, decide_false, Bool.not_true, Bool.not_false, Bool.false_eq_true, argN1, argN2, argN3, argN4, argN5, fMulA_ok, fMod_ok, fDiv_ok, fAdd_ok, fSub_ok, fGt_ok, fLt_ok, fLe_ok, fGe_ok, eqI_ok, neI_ok, eqS_ok, neS_ok, lenT_ok, lenL_ok, lenM_ok, ixT0, ixT1, ixT2, ixW0, ixW1, ixL0, ixL1, ixL2, ixT_last, ixT_mid, ixT_mid2, pick2_ok, pick3_ok, pick4_ok, pick5_ok, if_int, if_str, slT_to, slT_from, slT_from1, slT_to0, slT_fr0, slT_fr1, addT_ok, addL_ok, tupL_ok, anyBl, allBl, neI_nil, eqI_nil, sto_snoc, listT_ref, listT_val, Nat.zero_add, e]
    exact k (rs, if u3 = 0 then u1 else if u3 = 1 then u2 else if u3 = 2 then 9999 else 0) _ ⟨by simp only; omega, hr1, fun r hr => by have := hr2 r hr; omega, by simp only; omega⟩ (g.le (by omega))
theorem map_erase {α β : Type} (f : α → β) : ∀ (xs : List α) (i : Nat), (xs.map f).eraseIdx i = (xs.eraseIdx i).map f
  | [], _ => rfl
  | _ :: _, 0 => rfl
  | x :: xs, i + 1 => by
    show f x :: (xs.map f).eraseIdx i = f x :: (xs.eraseIdx i).map f
    rw [map_erase f xs i]
theorem sorted_ok {S : Sto} (ys : List Int) : fSorted false S [.lst (ys.map .int)] = .ok (.lst ((srtI ys).map .int)) S := by
  show (match intsD (ys.map .int) with | some ns => mkL false ((srtI ns).map .int) S | none => .bad) = _
  rw [intsD_map]
  rfl
theorem strict {ys : List Int} (h : ys.Nodup) : (srtI ys).Pairwise (· < ·) := by
  have h1 := srtI_sorted ys
  have h2 : (srtI ys).Nodup := (srtI_perm ys).nodup_iff.mpr h
  refine (h1.and h2).imp fun {a b} h => ?_
  have := h.1
  have := h.2
  omega
theorem erase_perm : ∀ {L : List Int} {i : Nat}, i < L.length → (L.getD i 0 :: L.eraseIdx i).Perm L
  | [], _, h => absurd h (Nat.not_lt_zero _)
  | _ :: _, 0, _ => .refl _
  | x :: xs, i + 1, h => by
    have ih := erase_perm (L := xs) (i := i) (by simpa using h)
    show (xs.getD i 0 :: x :: xs.eraseIdx i).Perm (x :: xs)
    exact (List.Perm.swap _ _ _).trans (ih.cons x)
/-- rising numbers lo .. -/
def rise (lo : Int) (n : Nat) : List Int := (List.range n).map fun (k : Nat) => lo + (k : Int)
theorem rise_nodup (lo : Int) (n : Nat) : (rise lo n).Nodup := by
  unfold rise
  refine List.Pairwise.map _ (fun a b h => ?_) List.nodup_range
  intro e
  exact h (by omega)
theorem popR_ok {S1 S2 : Sto} {n : Nat} {xs : List D} {L : List Int} {v : Int} (h1 : S1[n]? = some (.lst xs)) (h2 : S2[n]? = some (.lst (L.map .int))) (h0 : 0 ≤ v) (hv : v < L.length) (hb : v < 9223372036854775808) : popD S1 S2 (.ref n) (.int v) = .ok (.int (L.getD v.toNat 0)) (S2.set n (.lst ((L.eraseIdx v.toNat).map .int))) := by
  have hv' : v.toNat < L.length := by omega
  have e1 : ixN (L.map D.int).length v = some v.toNat := by
    unfold ixN
    rw [List.length_map, if_pos h0, if_pos hv]
  have e2 : (L.map D.int)[v.toNat]? = some (.int (L.getD v.toNat 0)) := by
    rw [List.getElem?_map, List.getD_eq_getElem?_getD, List.getElem?_eq_getElem hv']
    rfl
  have e3 : (decide (-(9223372036854775808 : Int) ≤ v) && decide (v < 9223372036854775808)) = true := by
    rw [decide_eq_true (by omega), decide_eq_true hb] <;> rfl
  simp only [popD, h1, h2, e1, e2, e3, if_true]
  rw [map_erase]
theorem wp_any_budget {n : Nat} {M T : Sto} {Q : D → Sto → Prop} (g : G (n + 40) M) (tok : Tok T) (k : ∀ b M', Bok b → G n M' → Q (bD b) (M' ++ T)) : Wp (F__law_any_budget (M ++ T) [.ref 1]) Q tg := by
  have g0 := g
  have l0 := g.len
  unfold F__law_any_budget trimF m__law_any_budget
  simp (disch := first | assumption | omega | (simp only [List.length_map, List.length_append, List.length_range, List.length_zip, List.length_drop, List.length_reverse, Int.reduceToNat, Bool.and_self, List.length_cons, List.length_nil, List.length_range] <;> omega) | fail) only [↓wp_bind, wp_bind, wp_ok, LTurn, LTook, runF, outF, inits, mSeq, mSet, mRet, mBin, mVar, mC, mIte, mTst, mB, mCons, mNil, mSkip, mAsg, mDrop, mPar, mPar3, mIf, mNotT, mAndT, mOrT, mNotV, mAndV, mOrV, mLst, mLstA, mTup, mFor, mIt, asI, asIL, mYes, mSl, mO, mO0, mNeg, mRng1, mRng2, mChain, mComp, mkL, wipeD, mZip, mEnum, mEnumT, mIsi, gN, gT, gCons', gNil', List.map_cons, List.map_nil, List.length_cons, List.length_nil, List.length_map, List.length_append, List.length_range, List.length_zip, List.length_drop, List.length_reverse, Int.reduceToNat, Bool.and_self, List.map_append, List.replicate, List.cons_append, List.nil_append, List.getElem?_cons_zero, List.getElem?_cons_succ, List.set_cons_zero, List.set_cons_succ, Res.bind_ok, Res.bind_bad, Nat.reduceAdd, Nat.reduceSub, Nat.reduceLeDiff, Int.cast_ofNat_Int, Int.natCast_add, Int.reduceNeg, Int.reduceSub, Int.reduceAdd, Int.reduceEq, Int.reduceLT, Int.reduceLE, reduceCtorEq, reduceIte, if_true, if_false, if_lim, decide_true, decide_false, Bool.not_true, Bool.not_false, Bool.false_eq_true, argN1, argN2, argN3, argN4, argN5, fMulA_ok, fMod_ok, fDiv_ok, fAdd_ok, fSub_ok, fGt_ok, fLt_ok, fLe_ok, fGe_ok, eqI_ok, neI_ok, eqS_ok, neS_ok, lenT_ok, lenL_ok, lenM_ok, ixT0, ixT1, ixT2, ixW0, ixW1, ixL0, ixL1, ixL2, ixT_last, ixT_mid, ixT_mid2, pick2_ok, pick3_ok, pick4_ok, pick5_ok, if_int, if_str, slT_to, slT_from, slT_from1, slT_to0, slT_fr0, slT_fr1, addT_ok, addL_ok, tupL_ok, anyBl, allBl, neI_nil, eqI_nil, sto_snoc, listT_ref, listT_val, Nat.zero_add]
  refine wp_draw g (by omega) (by omega) fun v1 _ v10 v11 g => ?_; have l0 := g.len
  simp (disch := first | assumption | omega | (simp only [List.length_map, List.length_append, List.length_range, List.length_zip, List.length_drop, List.length_reverse, Int.reduceToNat, Bool.and_self, List.length_cons, List.length_nil, List.length_range] <;> omega) | fail) only [↓wp_bind, wp_bind, wp_ok, LTurn, LTook, runF, outF, inits, mSeq, mSet, mRet, mBin, mVar, mC, mIte, mTst, mB, mCons, mNil, mSkip, mAsg, mDrop, mPar, mPar3, mIf, mNotT, mAndT, mOrT, mNotV, mAndV, mOrV, mLst, mLstA, mTup, mFor, mIt, asI, asIL, mYes, mSl, mO, mO0, mNeg, mRng1, mRng2, mChain, mComp, mkL, wipeD, mZip, mEnum, mEnumT, mIsi, gN, gT, gCons', gNil', List.map_cons, List.map_nil, List.length_cons, List.length_nil, List.length_map, List.length_append, List.length_range, List.length_zip, List.length_drop, List.length_reverse, Int.reduceToNat, Bool.and_self, List.map_append, List.replicate, List.cons_append, List.nil_append, List.getElem?_cons_zero, List.getElem?_cons_succ, List.set_cons_zero, List.set_cons_succ, Res.bind_ok, Res.bind_bad, Nat.reduceAdd, Nat.reduceSub, Nat.reduceLeDiff, Int.cast_ofNat_Int, Int.natCast_add, Int.reduceNeg, Int.reduceSub, Int.reduceAdd, Int.reduceEq, Int.reduceLT, Int.reduceLE, reduceCtorEq, reduceIte, if_true, if_false, if_lim, decide_true, decide_false, Bool.not_true, Bool.not_false, Bool.false_eq_true, argN1, argN2, argN3, argN4, argN5, fMulA_ok, fMod_ok, fDiv_ok, fAdd_ok, fSub_ok, fGt_ok, fLt_ok, fLe_ok, fGe_ok, eqI_ok, neI_ok, eqS_ok, neS_ok, lenT_ok, lenL_ok, lenM_ok, ixT0, ixT1, ixT2, ixW0, ixW1, ixL0, ixL1, ixL2, ixT_last, ixT_mid, ixT_mid2, pick2_ok, pick3_ok, pick4_ok, pick5_ok, if_int, if_str, slT_to, slT_from, slT_from1, slT_to0, slT_fr0, slT_fr1, addT_ok, addL_ok, tupL_ok, anyBl, allBl, neI_nil, eqI_nil, sto_snoc, listT_ref, listT_val, Nat.zero_add]
  refine wp_mono (Q := fun a S => ∃ (L : List Int) (M1 : Sto), a = .ref (3 + T.length) ∧ S = M1 ++ (T ++ [.lst (L.map .int)]) ∧ G (n + 39) M1 ∧ 12 ≤ L.length ∧ L.length ≤ 121 ∧ L.Nodup ∧ ∀ x ∈ L, -60 ≤ x ∧ x ≤ 60) ?_ ?_
  · by_cases h : v1 = 0
    · simp (disch := first | assumption | omega | (simp only [List.length_map, List.length_append, List.length_range, List.length_zip, List.length_drop, List.length_reverse, Int.reduceToNat, Bool.and_self, List.length_cons, List.length_nil, List.length_range] <;> omega) | fail) only [↓wp_bind, wp_bind, wp_ok, LTurn, LTook, runF, outF, inits, mSeq, mSet, mRet, mBin, mVar, mC, mIte, mTst, mB, mCons, mNil, mSkip, mAsg, mDrop, mPar, mPar3, mIf, mNotT, mAndT, mOrT, mNotV, mAndV, mOrV, mLst, mLstA, mTup, mFor, mIt, asI, asIL, mYes, mSl, mO, mO0, mNeg, mRng1, mRng2, mChain, mComp, mkL, wipeD, mZip, mEnum, mEnumT, mIsi, gN, gT, gCons', gNil', List.map_cons, List.map_nil, List.length_cons, List.length_nil, List.length_map, List.length_append, List.length_range, List.length_zip, List.length_drop, List.length_reverse, Int.reduceToNat, Bool.and_self, List.map_append, List.replicate, List.cons_append, List.nil_append, List.getElem?_cons_zero, List.getElem?_cons_succ, List.set_cons_zero, List.set_cons_succ, Res.bind_ok, Res.bind_bad, Nat.reduceAdd, Nat.reduceSub, Nat.reduceLeDiff, Int.cast_ofNat_Int, Int.natCast_add, Int.reduceNeg, Int.reduceSub, Int.reduceAdd, Int.reduceEq, Int.reduceLT, Int.reduceLE, reduceCtorEq, reduceIte, if_true, if_false, if_lim, decide_true, decide_false, Bool.not_true, Bool.not_false, Bool.false_eq_true, argN1, argN2, argN3, argN4, argN5, fMulA_ok, fMod_ok, fDiv_ok, fAdd_ok, fSub_ok, fGt_ok, fLt_ok, fLe_ok, fGe_ok, eqI_ok, neI_ok, eqS_ok, neS_ok, lenT_ok, lenL_ok, lenM_ok, ixT0, ixT1, ixT2, ixW0, ixW1, ixL0, ixL1, ixL2, ixT_last, ixT_mid, ixT_mid2, pick2_ok, pick3_ok, pick4_ok, pick5_ok, if_int, if_str, slT_to, slT_from, slT_from1, slT_to0, slT_fr0, slT_fr1, addT_ok, addL_ok, tupL_ok, anyBl, allBl, neI_nil, eqI_nil, sto_snoc, listT_ref, listT_val, Nat.zero_add, mLRg, h, rngOk_ok, l0]
      exact ⟨rise (-60) 121, _, (by first | rfl | trivial), by rw [rise, List.map_map]; rfl, g, by decide, by decide, rise_nodup _ _, by decide⟩
    · simp (disch := first | assumption | omega | (simp only [List.length_map, List.length_append, List.length_range, List.length_zip, List.length_drop, List.length_reverse, Int.reduceToNat, Bool.and_self, List.length_cons, List.length_nil, List.length_range] <;> omega) | fail) only [↓wp_bind, wp_bind, wp_ok, LTurn, LTook, runF, outF, inits, mSeq, mSet, mRet, mBin, mVar, mC, mIte, mTst, mB, mCons, mNil, mSkip, mAsg, mDrop, mPar, mPar3, mIf, mNotT, mAndT, mOrT, mNotV, mAndV, mOrV, mLst, mLstA, mTup, mFor, mIt, asI, asIL, mYes, mSl, mO, mO0, mNeg, mRng1, mRng2, mChain, mComp, mkL, wipeD, mZip, mEnum, mEnumT, mIsi, gN, gT, gCons', gNil', List.map_cons, List.map_nil, List.length_cons, List.length_nil, List.length_map, List.length_append, List.length_range, List.length_zip, List.length_drop, List.length_reverse, Int.reduceToNat, Bool.and_self, List.map_append, List.replicate, List.cons_append, List.nil_append, List.getElem?_cons_zero, List.getElem?_cons_succ, List.set_cons_zero, List.set_cons_succ, Res.bind_ok, Res.bind_bad, Nat.reduceAdd, Nat.reduceSub, Nat.reduceLeDiff, Int.cast_ofNat_Int, Int.natCast_add, Int.reduceNeg, Int.reduceSub, Int.reduceAdd, Int.reduceEq, Int.reduceLT, Int.reduceLE, reduceCtorEq, reduceIte, if_true, if_false, if_lim, decide_true, decide_false, Bool.not_true, Bool.not_false, Bool.false_eq_true, argN1, argN2, argN3, argN4, argN5, fMulA_ok, fMod_ok, fDiv_ok, fAdd_ok, fSub_ok, fGt_ok, fLt_ok, fLe_ok, fGe_ok, eqI_ok, neI_ok, eqS_ok, neS_ok, lenT_ok, lenL_ok, lenM_ok, ixT0, ixT1, ixT2, ixW0, ixW1, ixL0, ixL1, ixL2, ixT_last, ixT_mid, ixT_mid2, pick2_ok, pick3_ok, pick4_ok, pick5_ok, if_int, if_str, slT_to, slT_from, slT_from1, slT_to0, slT_fr0, slT_fr1, addT_ok, addL_ok, tupL_ok, anyBl, allBl, neI_nil, eqI_nil, sto_snoc, listT_ref, listT_val, Nat.zero_add, mLRg, h, rngOk_ok, l0]
      exact ⟨rise (-3) 12, _, (by first | rfl | trivial), by rw [rise, List.map_map]; rfl, g, by decide, by decide, rise_nodup _ _, by decide⟩
  rintro a S ⟨L, M1, rfl, rfl, g, hL1, hL2, hL3, hL4⟩
  have l0 := g.len
  simp (disch := first | assumption | omega | (simp only [List.length_map, List.length_append, List.length_range, List.length_zip, List.length_drop, List.length_reverse, Int.reduceToNat, Bool.and_self, List.length_cons, List.length_nil, List.length_range] <;> omega) | fail) only [↓wp_bind, wp_bind, wp_ok, LTurn, LTook, runF, outF, inits, mSeq, mSet, mRet, mBin, mVar, mC, mIte, mTst, mB, mCons, mNil, mSkip, mAsg, mDrop, mPar, mPar3, mIf, mNotT, mAndT, mOrT, mNotV, mAndV, mOrV, mLst, mLstA, mTup, mFor, mIt, asI, asIL, mYes, mSl, mO, mO0, mNeg, mRng1, mRng2, mChain, mComp, mkL, wipeD, mZip, mEnum, mEnumT, mIsi, gN, gT, gCons', gNil', List.map_cons, List.map_nil, List.length_cons, List.length_nil, List.length_map, List.length_append, List.length_range, List.length_zip, List.length_drop, List.length_reverse, Int.reduceToNat, Bool.and_self, List.map_append, List.replicate, List.cons_append, List.nil_append, List.getElem?_cons_zero, List.getElem?_cons_succ, List.set_cons_zero, List.set_cons_succ, Res.bind_ok, Res.bind_bad, Nat.reduceAdd, Nat.reduceSub, Nat.reduceLeDiff, Int.cast_ofNat_Int, Int.natCast_add, Int.reduceNeg, Int.reduceSub, Int.reduceAdd, Int.reduceEq, Int.reduceLT, Int.reduceLE, reduceCtorEq, reduceIte, if_true, if_false, if_lim, decide_true, decide_false, Bool.not_true, Bool.not_false, Bool.false_eq_true, argN1, argN2, argN3, argN4, argN5, fMulA_ok, fMod_ok, fDiv_ok, fAdd_ok, fSub_ok, fGt_ok, fLt_ok, fLe_ok, fGe_ok, eqI_ok, neI_ok, eqS_ok, neS_ok, lenT_ok, lenL_ok, lenM_ok, ixT0, ixT1, ixT2, ixW0, ixW1, ixL0, ixL1, ixL2, ixT_last, ixT_mid, ixT_mid2, pick2_ok, pick3_ok, pick4_ok, pick5_ok, if_int, if_str, slT_to, slT_from, slT_from1, slT_to0, slT_fr0, slT_fr1, addT_ok, addL_ok, tupL_ok, anyBl, allBl, neI_nil, eqI_nil, sto_snoc, listT_ref, listT_val, Nat.zero_add]
  refine wp_draw g (by omega) (by omega) fun v2 _ v20 v21 g => ?_; have l0 := g.len
  simp (disch := first | assumption | omega | (simp only [List.length_map, List.length_append, List.length_range, List.length_zip, List.length_drop, List.length_reverse, Int.reduceToNat, Bool.and_self, List.length_cons, List.length_nil, List.length_range] <;> omega) | fail) only [↓wp_bind, wp_bind, wp_ok, LTurn, LTook, runF, outF, inits, mSeq, mSet, mRet, mBin, mVar, mC, mIte, mTst, mB, mCons, mNil, mSkip, mAsg, mDrop, mPar, mPar3, mIf, mNotT, mAndT, mOrT, mNotV, mAndV, mOrV, mLst, mLstA, mTup, mFor, mIt, asI, asIL, mYes, mSl, mO, mO0, mNeg, mRng1, mRng2, mChain, mComp, mkL, wipeD, mZip, mEnum, mEnumT, mIsi, gN, gT, gCons', gNil', List.map_cons, List.map_nil, List.length_cons, List.length_nil, List.length_map, List.length_append, List.length_range, List.length_zip, List.length_drop, List.length_reverse, Int.reduceToNat, Bool.and_self, List.map_append, List.replicate, List.cons_append, List.nil_append, List.getElem?_cons_zero, List.getElem?_cons_succ, List.set_cons_zero, List.set_cons_succ, Res.bind_ok, Res.bind_bad, Nat.reduceAdd, Nat.reduceSub, Nat.reduceLeDiff, Int.cast_ofNat_Int, Int.natCast_add, Int.reduceNeg, Int.reduceSub, Int.reduceAdd, Int.reduceEq, Int.reduceLT, Int.reduceLE, reduceCtorEq, reduceIte, if_true, if_false, if_lim, decide_true, decide_false, Bool.not_true, Bool.not_false, Bool.false_eq_true, argN1, argN2, argN3, argN4, argN5, fMulA_ok, fMod_ok, fDiv_ok, fAdd_ok, fSub_ok, fGt_ok, fLt_ok, fLe_ok, fGe_ok, eqI_ok, neI_ok, eqS_ok, neS_ok, lenT_ok, lenL_ok, lenM_ok, ixT0, ixT1, ixT2, ixW0, ixW1, ixL0, ixL1, ixL2, ixT_last, ixT_mid, ixT_mid2, pick2_ok, pick3_ok, pick4_ok, pick5_ok, if_int, if_str, slT_to, slT_from, slT_from1, slT_to0, slT_fr0, slT_fr1, addT_ok, addL_ok, tupL_ok, anyBl, allBl, neI_nil, eqI_nil, sto_snoc, listT_ref, listT_val, Nat.zero_add, rngOk_ok]
  refine wp_compN _ (fun i acc S => ∃ (ys L : List Int) (M' : Sto), acc = ys.map .int ∧ S = M' ++ (T ++ [.lst (L.map .int)]) ∧ G (n + 30 + (5 - i)) M' ∧ ys.length = i ∧ 7 + (5 - i) ≤ L.length ∧ L.length ≤ 121 ∧ (ys ++ L).Nodup ∧ ∀ x ∈ ys ++ L, -60 ≤ x ∧ x ≤ 60) (fun i hi acc S hP => ?_) _ (fun ys S hP => ?_) ⟨[], L, _, rfl, rfl, g.le (by omega), rfl, by omega, hL2, hL3, hL4⟩
  · obtain ⟨ys, L, M', rfl, rfl, g, hlen, hl1, hl2, hnd, hall⟩ := hP
    obtain ⟨N, hN⟩ : ∃ N, N + 1 = n + 30 + (5 - i) := ⟨n + 30 + (4 - i), by omega⟩
    rw [← hN] at g
    have lM := g.len
    have lk : ∀ M1 : Sto, M1.length = 3 → (M1 ++ (T ++ [Ob.lst (L.map .int)]))[3 + T.length]? = some (.lst (L.map .int)) := fun M1 h => cell_at (U := []) (by omega)
    simp (disch := first | assumption | omega | (simp only [List.length_map, List.length_append, List.length_range, List.length_zip, List.length_drop, List.length_reverse, Int.reduceToNat, Bool.and_self, List.length_cons, List.length_nil, List.length_range] <;> omega) | fail) only [↓wp_bind, wp_bind, wp_ok, LTurn, LTook, runF, outF, inits, mSeq, mSet, mRet, mBin, mVar, mC, mIte, mTst, mB, mCons, mNil, mSkip, mAsg, mDrop, mPar, mPar3, mIf, mNotT, mAndT, mOrT, mNotV, mAndV, mOrV, mLst, mLstA, mTup, mFor, mIt, asI, asIL, mYes, mSl, mO, mO0, mNeg, mRng1, mRng2, mChain, mComp, mkL, wipeD, mZip, mEnum, mEnumT, mIsi, gN, gT, gCons', gNil', List.map_cons, List.map_nil, List.length_cons, List.length_nil, List.length_map, List.length_append, List.length_range, List.length_zip, List.length_drop, List.length_reverse, Int.reduceToNat, Bool.and_self, List.map_append, List.replicate, List.cons_append, List.nil_append, List.getElem?_cons_zero, List.getElem?_cons_succ, List.set_cons_zero, List.set_cons_succ, Res.bind_ok, Res.bind_bad, Nat.reduceAdd, Nat.reduceSub, Nat.reduceLeDiff, Int.cast_ofNat_Int, Int.natCast_add, Int.reduceNeg, Int.reduceSub, Int.reduceAdd, Int.reduceEq, Int.reduceLT, Int.reduceLE, reduceCtorEq, reduceIte, if_true, if_false, if_lim, decide_true, decide_false, Bool.not_true, Bool.not_false, Bool.false_eq_true, argN1, argN2, argN3, argN4, argN5, fMulA_ok, fMod_ok, fDiv_ok, fAdd_ok, fSub_ok, fGt_ok, fLt_ok, fLe_ok, fGe_ok, eqI_ok, neI_ok, eqS_ok, neS_ok, lenT_ok, lenL_ok, lenM_ok, ixT0, ixT1, ixT2, ixW0, ixW1, ixL0, ixL1, ixL2, ixT_last, ixT_mid, ixT_mid2, pick2_ok, pick3_ok, pick4_ok, pick5_ok, if_int, if_str, slT_to, slT_from, slT_from1, slT_to0, slT_fr0, slT_fr1, addT_ok, addL_ok, tupL_ok, anyBl, allBl, neI_nil, eqI_nil, sto_snoc, listT_ref, listT_val, Nat.zero_add, mPop, lenR_ok (lk _ lM)]
    refine wp_draw g (by omega) (by omega) fun w _ w0 w1 g => ?_; have l0 := g.len
    have hw : w.toNat < L.length := by omega
    have pm := erase_perm hw
    simp (disch := first | assumption | omega | (simp only [List.length_map, List.length_append, List.length_range, List.length_zip, List.length_drop, List.length_reverse, Int.reduceToNat, Bool.and_self, List.length_cons, List.length_nil, List.length_range] <;> omega) | fail) only [↓wp_bind, wp_bind, wp_ok, LTurn, LTook, runF, outF, inits, mSeq, mSet, mRet, mBin, mVar, mC, mIte, mTst, mB, mCons, mNil, mSkip, mAsg, mDrop, mPar, mPar3, mIf, mNotT, mAndT, mOrT, mNotV, mAndV, mOrV, mLst, mLstA, mTup, mFor, mIt, asI, asIL, mYes, mSl, mO, mO0, mNeg, mRng1, mRng2, mChain, mComp, mkL, wipeD, mZip, mEnum, mEnumT, mIsi, gN, gT, gCons', gNil', List.map_cons, List.map_nil, List.length_cons, List.length_nil, List.length_map, List.length_append, List.length_range, List.length_zip, List.length_drop, List.length_reverse, Int.reduceToNat, Bool.and_self, List.map_append, List.replicate, List.cons_append, List.nil_append, List.getElem?_cons_zero, List.getElem?_cons_succ, List.set_cons_zero, List.set_cons_succ, Res.bind_ok, Res.bind_bad, Nat.reduceAdd, Nat.reduceSub, Nat.reduceLeDiff, Int.cast_ofNat_Int, Int.natCast_add, Int.reduceNeg, Int.reduceSub, Int.reduceAdd, Int.reduceEq, Int.reduceLT, Int.reduceLE, reduceCtorEq, reduceIte, if_true, if_false, if_lim, decide_true, decide_false, Bool.not_true, Bool.not_false, Bool.false_eq_true, argN1, argN2, argN3, argN4, argN5, fMulA_ok, fMod_ok, fDiv_ok, fAdd_ok, fSub_ok, fGt_ok, fLt_ok, fLe_ok, fGe_ok, eqI_ok, neI_ok, eqS_ok, neS_ok, lenT_ok, lenL_ok, lenM_ok, ixT0, ixT1, ixT2, ixW0, ixW1, ixL0, ixL1, ixL2, ixT_last, ixT_mid, ixT_mid2, pick2_ok, pick3_ok, pick4_ok, pick5_ok, if_int, if_str, slT_to, slT_from, slT_from1, slT_to0, slT_fr0, slT_fr1, addT_ok, addL_ok, tupL_ok, anyBl, allBl, neI_nil, eqI_nil, sto_snoc, listT_ref, listT_val, Nat.zero_add, popR_ok (lk _ lM) (lk _ l0) w0 w1 (by omega), cell_set]
    refine ⟨ys ++ [L.getD w.toNat 0], L.eraseIdx w.toNat, _, by rw [List.map_append]; rfl, rfl, g.le (by omega), ?_, ?_, ?_, ?_, ?_⟩
    · rw [List.length_append, List.length_singleton]; omega
    · rw [List.length_eraseIdx_of_lt hw]; omega
    · rw [List.length_eraseIdx_of_lt hw]; omega
    · rw [List.append_assoc]
      exact (pm.append_left ys).nodup_iff.mpr hnd
    · intro x hx
      rw [List.append_assoc] at hx
      exact hall x ((pm.append_left ys).mem_iff.mp hx)
  · obtain ⟨ys, L, M', rfl, rfl, g, hlen, hl1, hl2, hnd, hall⟩ := hP
    have g := g.le (m := n + 29) (by omega)
    have l0 := g.len
    have sp := srtI_perm ys
    have hys : (srtI ys).length = ys.length := sp.length_eq
    simp (disch := first | assumption | omega | (simp only [List.length_map, List.length_append, List.length_range, List.length_zip, List.length_drop, List.length_reverse, Int.reduceToNat, Bool.and_self, List.length_cons, List.length_nil, List.length_range] <;> omega) | fail) only [↓wp_bind, wp_bind, wp_ok, LTurn, LTook, runF, outF, inits, mSeq, mSet, mRet, mBin, mVar, mC, mIte, mTst, mB, mCons, mNil, mSkip, mAsg, mDrop, mPar, mPar3, mIf, mNotT, mAndT, mOrT, mNotV, mAndV, mOrV, mLst, mLstA, mTup, mFor, mIt, asI, asIL, mYes, mSl, mO, mO0, mNeg, mRng1, mRng2, mChain, mComp, mkL, wipeD, mZip, mEnum, mEnumT, mIsi, gN, gT, gCons', gNil', List.map_cons, List.map_nil, List.length_cons, List.length_nil, List.length_map, List.length_append, List.length_range, List.length_zip, List.length_drop, List.length_reverse, Int.reduceToNat, Bool.and_self, List.map_append, List.replicate, List.cons_append, List.nil_append, List.getElem?_cons_zero, List.getElem?_cons_succ, List.set_cons_zero, List.set_cons_succ, Res.bind_ok, Res.bind_bad, Nat.reduceAdd, Nat.reduceSub, Nat.reduceLeDiff, Int.cast_ofNat_Int, Int.natCast_add, Int.reduceNeg, Int.reduceSub, Int.reduceAdd, Int.reduceEq, Int.reduceLT, Int.reduceLE, reduceCtorEq, reduceIte, if_true, if_false, if_lim, decide_true, decide_false, Bool.not_true, Bool.not_false, Bool.false_eq_true, argN1, argN2, argN3, argN4, argN5, fMulA_ok, fMod_ok, fDiv_ok, fAdd_ok, fSub_ok, fGt_ok, fLt_ok, fLe_ok, fGe_ok, eqI_ok, neI_ok, eqS_ok, neS_ok, lenT_ok, lenL_ok, lenM_ok, ixT0, ixT1, ixT2, ixW0, ixW1, ixL0, ixL1, ixL2, ixT_last, ixT_mid, ixT_mid2, pick2_ok, pick3_ok, pick4_ok, pick5_ok, if_int, if_str, slT_to, slT_from, slT_from1, slT_to0, slT_fr0, slT_fr1, addT_ok, addL_ok, tupL_ok, anyBl, allBl, neI_nil, eqI_nil, sto_snoc, listT_ref, listT_val, Nat.zero_add, sorted_ok]
    refine wp_draw g (by omega) (by omega) fun u1 _ u10 u11 g => ?_; have l0 := g.len
    simp (disch := first | assumption | omega | (simp only [List.length_map, List.length_append, List.length_range, List.length_zip, List.length_drop, List.length_reverse, Int.reduceToNat, Bool.and_self, List.length_cons, List.length_nil, List.length_range] <;> omega) | fail) only [↓wp_bind, wp_bind, wp_ok, LTurn, LTook, runF, outF, inits, mSeq, mSet, mRet, mBin, mVar, mC, mIte, mTst, mB, mCons, mNil, mSkip, mAsg, mDrop, mPar, mPar3, mIf, mNotT, mAndT, mOrT, mNotV, mAndV, mOrV, mLst, mLstA, mTup, mFor, mIt, asI, asIL, mYes, mSl, mO, mO0, mNeg, mRng1, mRng2, mChain, mComp, mkL, wipeD, mZip, mEnum, mEnumT, mIsi, gN, gT, gCons', gNil', List.map_cons, List.map_nil, List.length_cons, List.length_nil, List.length_map, List.length_append, List.length_range, List.length_zip, List.length_drop, List.length_reverse, Int.reduceToNat, Bool.and_self, List.map_append, List.replicate, List.cons_append, List.nil_append, List.getElem?_cons_zero, List.getElem?_cons_succ, List.set_cons_zero, List.set_cons_succ, Res.bind_ok, Res.bind_bad, Nat.reduceAdd, Nat.reduceSub, Nat.reduceLeDiff, Int.cast_ofNat_Int, Int.natCast_add, Int.reduceNeg, Int.reduceSub, Int.reduceAdd, Int.reduceEq, Int.reduceLT, Int.reduceLE, reduceCtorEq, reduceIte, if_true, if_false, if_lim, decide_true, decide_false, Bool.not_true, Bool.not_false, Bool.false_eq_true, argN1, argN2, argN3, argN4, argN5, fMulA_ok, fMod_ok, fDiv_ok, fAdd_ok, fSub_ok, fGt_ok, fLt_ok, fLe_ok, fGe_ok, eqI_ok, neI_ok, eqS_ok, neS_ok, lenT_ok, lenL_ok, lenM_ok, ixT0, ixT1, ixT2, ixW0, ixW1, ixL0, ixL1, ixL2, ixT_last, ixT_mid, ixT_mid2, pick2_ok, pick3_ok, pick4_ok, pick5_ok, if_int, if_str, slT_to, slT_from, slT_from1, slT_to0, slT_fr0, slT_fr1, addT_ok, addL_ok, tupL_ok, anyBl, allBl, neI_nil, eqI_nil, sto_snoc, listT_ref, listT_val, Nat.zero_add]
    refine wp_draw g (by omega) (by omega) fun u2 _ u20 u21 g => ?_; have l0 := g.len
    simp (disch := first | assumption | omega | (simp only [List.length_map, List.length_append, List.length_range, List.length_zip, List.length_drop, List.length_reverse, Int.reduceToNat, Bool.and_self, List.length_cons, List.length_nil, List.length_range] <;> omega) | fail) only [↓wp_bind, wp_bind, wp_ok, LTurn, LTook, runF, outF, inits, mSeq, mSet, mRet, mBin, mVar, mC, mIte, mTst, mB, mCons, mNil, mSkip, mAsg, mDrop, mPar, mPar3, mIf, mNotT, mAndT, mOrT, mNotV, mAndV, mOrV, mLst, mLstA, mTup, mFor, mIt, asI, asIL, mYes, mSl, mO, mO0, mNeg, mRng1, mRng2, mChain, mComp, mkL, wipeD, mZip, mEnum, mEnumT, mIsi, gN, gT, gCons', gNil', List.map_cons, List.map_nil, List.length_cons, List.length_nil, List.length_map, List.length_append, List.length_range, List.length_zip, List.length_drop, List.length_reverse, Int.reduceToNat, Bool.and_self, List.map_append, List.replicate, List.cons_append, List.nil_append, List.getElem?_cons_zero, List.getElem?_cons_succ, List.set_cons_zero, List.set_cons_succ, Res.bind_ok, Res.bind_bad, Nat.reduceAdd, Nat.reduceSub, Nat.reduceLeDiff, Int.cast_ofNat_Int, Int.natCast_add, Int.reduceNeg, Int.reduceSub, Int.reduceAdd, Int.reduceEq, Int.reduceLT, Int.reduceLE, reduceCtorEq, reduceIte, if_true, if_false, if_lim, decide_true, decide_false, Bool.not_true, Bool.not_false, Bool.false_eq_true, argN1, argN2, argN3, argN4, argN5, fMulA_ok, fMod_ok, fDiv_ok, fAdd_ok, fSub_ok, fGt_ok, fLt_ok, fLe_ok, fGe_ok, eqI_ok, neI_ok, eqS_ok, neS_ok, lenT_ok, lenL_ok, lenM_ok, ixT0, ixT1, ixT2, ixW0, ixW1, ixL0, ixL1, ixL2, ixT_last, ixT_mid, ixT_mid2, pick2_ok, pick3_ok, pick4_ok, pick5_ok, if_int, if_str, slT_to, slT_from, slT_from1, slT_to0, slT_fr0, slT_fr1, addT_ok, addL_ok, tupL_ok, anyBl, allBl, neI_nil, eqI_nil, sto_snoc, listT_ref, listT_val, Nat.zero_add]
    refine wp_draw g (by omega) (by omega) fun u3 _ u30 u31 g => ?_; have l0 := g.len
    simp (disch := first | assumption | omega | (simp only [List.length_map, List.length_append, List.length_range, List.length_zip, List.length_drop, List.length_reverse, Int.reduceToNat, Bool.and_self, List.length_cons, List.length_nil, List.length_range] <;> omega) | fail) only [↓wp_bind, wp_bind, wp_ok, LTurn, LTook, runF, outF, inits, mSeq, mSet, mRet, mBin, mVar, mC, mIte, mTst, mB, mCons, mNil, mSkip, mAsg, mDrop, mPar, mPar3, mIf, mNotT, mAndT, mOrT, mNotV, mAndV, mOrV, mLst, mLstA, mTup, mFor, mIt, asI, asIL, mYes, mSl, mO, mO0, mNeg, mRng1, mRng2, mChain, mComp, mkL, wipeD, mZip, mEnum, mEnumT, mIsi, gN, gT, gCons', gNil', List.map_cons, List.map_nil, List.length_cons, List.length_nil, List.length_map, List.length_append, List.length_range, List.length_zip, List.length_drop, List.length_reverse, Int.reduceToNat, Bool.and_self, List.map_append, List.replicate, List.cons_append, List.nil_append, List.getElem?_cons_zero, List.getElem?_cons_succ, List.set_cons_zero, List.set_cons_succ, Res.bind_ok, Res.bind_bad, Nat.reduceAdd, Nat.reduceSub, Nat.reduceLeDiff, Int.cast_ofNat_Int, Int.natCast_add, Int.reduceNeg, Int.reduceSub, Int.reduceAdd, Int.reduceEq, Int.reduceLT, Int.reduceLE, reduceCtorEq, reduceIte, if_true, if_false, if_lim, decide_true, decide_false, Bool.not_true, Bool.not_false, Bool.false_eq_true, argN1, argN2, argN3, argN4, argN5, fMulA_ok, fMod_ok, fDiv_ok, fAdd_ok, fSub_ok, fGt_ok, fLt_ok, fLe_ok, fGe_ok, eqI_ok, neI_ok, eqS_ok, neS_ok, lenT_ok, lenL_ok, lenM_ok, ixT0, ixT1, ixT2, ixW0, ixW1, ixL0, ixL1, ixL2, ixT_last, ixT_mid, ixT_mid2, pick2_ok, pick3_ok, pick4_ok, pick5_ok, if_int, if_str, slT_to, slT_from, slT_from1, slT_to0, slT_fr0, slT_fr1, addT_ok, addL_ok, tupL_ok, anyBl, allBl, neI_nil, eqI_nil, sto_snoc, listT_ref, listT_val, Nat.zero_add]
    refine wp_comp (fun (R : List Int) acc S => ∃ zs M', acc = zs.map rD ∧ S = M' ++ (T ++ [.lst (L.map .int)]) ∧ G (n + 10 + R.length) M' ∧ zs.map (·.1) ++ R = srtI ys ∧ ∀ z ∈ zs, 0 ≤ z.2 ∧ z.2 ≤ 9) (fun x rest acc S hP => ?_) _ [] _ (fun zs' S hP => ?_) ⟨[], _, rfl, rfl, g.le (by rw [hys]; omega), rfl, fun z hz => by cases hz⟩
    · obtain ⟨zs, M', rfl, rfl, g, hzs, hzb⟩ := hP
      simp (disch := first | assumption | omega | (simp only [List.length_map, List.length_append, List.length_range, List.length_zip, List.length_drop, List.length_reverse, Int.reduceToNat, Bool.and_self, List.length_cons, List.length_nil, List.length_range] <;> omega) | fail) only [↓wp_bind, wp_bind, wp_ok, LTurn, LTook, runF, outF, inits, mSeq, mSet, mRet, mBin, mVar, mC, mIte, mTst, mB, mCons, mNil, mSkip, mAsg, mDrop, mPar, mPar3, mIf, mNotT, mAndT, mOrT, mNotV, mAndV, mOrV, mLst, mLstA, mTup, mFor, mIt, asI, asIL, mYes, mSl, mO, mO0, mNeg, mRng1, mRng2, mChain, mComp, mkL, wipeD, mZip, mEnum, mEnumT, mIsi, gN, gT, gCons', gNil', List.map_cons, List.map_nil, List.length_cons, List.length_nil, List.length_map, List.length_append, List.length_range, List.length_zip, List.length_drop, List.length_reverse, Int.reduceToNat, Bool.and_self, List.map_append, List.replicate, List.cons_append, List.nil_append, List.getElem?_cons_zero, List.getElem?_cons_succ, List.set_cons_zero, List.set_cons_succ, Res.bind_ok, Res.bind_bad, Nat.reduceAdd, Nat.reduceSub, Nat.reduceLeDiff, Int.cast_ofNat_Int, Int.natCast_add, Int.reduceNeg, Int.reduceSub, Int.reduceAdd, Int.reduceEq, Int.reduceLT, Int.reduceLE, reduceCtorEq, reduceIte, if_true, if_false, if_lim, decide_true, decide_false, Bool.not_true, Bool.not_false, Bool.false_eq_true, argN1, argN2, argN3, argN4, argN5, fMulA_ok, fMod_ok, fDiv_ok, fAdd_ok, fSub_ok, fGt_ok, fLt_ok, fLe_ok, fGe_ok, eqI_ok, neI_ok, eqS_ok, neS_ok, lenT_ok, lenL_ok, lenM_ok, ixT0, ixT1, ixT2, ixW0, ixW1, ixL0, ixL1, ixL2, ixT_last, ixT_mid, ixT_mid2, pick2_ok, pick3_ok, pick4_ok, pick5_ok, if_int, if_str, slT_to, slT_from, slT_from1, slT_to0, slT_fr0, slT_fr1, addT_ok, addL_ok, tupL_ok, anyBl, allBl, neI_nil, eqI_nil, sto_snoc, listT_ref, listT_val, Nat.zero_add]
      refine wp_draw (n := n + 10 + rest.length) g (by omega) (by omega) fun w M'' w0 w1 g => ?_
      simp (disch := first | assumption | omega | (simp only [List.length_map, List.length_append, List.length_range, List.length_zip, List.length_drop, List.length_reverse, Int.reduceToNat, Bool.and_self, List.length_cons, List.length_nil, List.length_range] <;> omega) | fail) only [↓wp_bind, wp_bind, wp_ok, LTurn, LTook, runF, outF, inits, mSeq, mSet, mRet, mBin, mVar, mC, mIte, mTst, mB, mCons, mNil, mSkip, mAsg, mDrop, mPar, mPar3, mIf, mNotT, mAndT, mOrT, mNotV, mAndV, mOrV, mLst, mLstA, mTup, mFor, mIt, asI, asIL, mYes, mSl, mO, mO0, mNeg, mRng1, mRng2, mChain, mComp, mkL, wipeD, mZip, mEnum, mEnumT, mIsi, gN, gT, gCons', gNil', List.map_cons, List.map_nil, List.length_cons, List.length_nil, List.length_map, List.length_append, List.length_range, List.length_zip, List.length_drop, List.length_reverse, Int.reduceToNat, Bool.and_self, List.map_append, List.replicate, List.cons_append, List.nil_append, List.getElem?_cons_zero, List.getElem?_cons_succ, List.set_cons_zero, List.set_cons_succ, Res.bind_ok, Res.bind_bad, Nat.reduceAdd, Nat.reduceSub, Nat.reduceLeDiff, Int.cast_ofNat_Int, Int.natCast_add, Int.reduceNeg, Int.reduceSub, Int.reduceAdd, Int.reduceEq, Int.reduceLT, Int.reduceLE, reduceCtorEq, reduceIte, if_true, if_false, if_lim, decide_true, decide_false, Bool.not_true, Bool.not_false, Bool.false_eq_true, argN1, argN2, argN3, argN4, argN5, fMulA_ok, fMod_ok, fDiv_ok, fAdd_ok, fSub_ok, fGt_ok, fLt_ok, fLe_ok, fGe_ok, eqI_ok, neI_ok, eqS_ok, neS_ok, lenT_ok, lenL_ok, lenM_ok, ixT0, ixT1, ixT2, ixW0, ixW1, ixL0, ixL1, ixL2, ixT_last, ixT_mid, ixT_mid2, pick2_ok, pick3_ok, pick4_ok, pick5_ok, if_int, if_str, slT_to, slT_from, slT_from1, slT_to0, slT_fr0, slT_fr1, addT_ok, addL_ok, tupL_ok, anyBl, allBl, neI_nil, eqI_nil, sto_snoc, listT_ref, listT_val, Nat.zero_add]
      refine ⟨zs ++ [(x, w)], _, by rw [List.map_append]; rfl, rfl, g, by rw [List.map_append, List.append_assoc]; exact hzs, fun z hz => ?_⟩
      rcases List.mem_append.mp hz with hz | hz
      · exact hzb z hz
      · have : z = (x, w) := List.mem_singleton.mp hz
        subst this
        exact ⟨w0, by show w ≤ 9; omega⟩
    · obtain ⟨zs, M', hz, rfl, g, hzs, hzb⟩ := hP
      rw [List.nil_append] at hz
      subst hz
      rw [List.append_nil] at hzs
      have hzl : zs.length = ys.length := by rw [← hys, ← hzs, List.length_map]
      have e := trim_ok' (U := [.lst (L.map .int)]) g0 g tok (bnd_b 3 (zs, if u3 = 0 then 0 else if u3 = 1 then 9999 else if u3 = 2 then u1 else u2))
      simp only [bD, List.length_append] at e
      simp (disch := first | assumption | omega | (simp only [List.length_map, List.length_append, List.length_range, List.length_zip, List.length_drop, List.length_reverse, Int.reduceToNat, Bool.and_self, List.length_cons, List.length_nil, List.length_range] <;> omega) | fail) only [↓wp_bind, wp_bind, wp_ok, LTurn, LTook, runF, outF, inits, mSeq, mSet, mRet, mBin, mVar, mC, mIte, mTst, mB, mCons, mNil, mSkip, mAsg, mDrop, mPar, mPar3, mIf, mNotT, mAndT, mOrT, mNotV, mAndV, mOrV, mLst, mLstA, mTup, mFor, mIt, asI, asIL, mYes, mSl, mO, mO0, mNeg, mRng1, mRng2, mChain, mComp, mkL, wipeD, mZip, mEnum, mEnumT, mIsi, gN, gT, gCons', gNil', List.map_cons, List.map_nil, List.length_cons, List.length_nil, List.length_map, List.length_append, List.length_range, List.length_zip, List.length_drop, List.length_reverse, Int.reduceToNat, Bool.and_self, List.map_append, List.replicate, List.cons_append, List.nil_append, List.getElem?_cons_zero, List.getElem?_cons_succ, List.set_cons_zero, List.set_cons_succ, Res.bind_ok, Res.bind_bad, Nat.reduceAdd, Nat.reduceSub, Nat.reduceLeDiff, Int.cast_ofNat_Int, Int.natCast_add, Int.reduceNeg, Int.reduceSub, Int.reduceAdd, Int.reduceEq, Int.reduceLT, Int.reduceLE, reduceCtorEq, reduceIte, if_true, if_false, if_lim, decide_true, decide_false, Bool.not_true, Bool.not_false, Bool.false_eq_true, argN1, argN2, argN3, argN4, argN5, fMulA_ok, fMod_ok, fDiv_ok, fAdd_ok, fSub_ok, fGt_ok, fLt_ok, fLe_ok, fGe_ok, eqI_ok, neI_ok, eqS_ok, neS_ok, lenT_ok, lenL_ok, lenM_ok, ixT0, ixT1, ixT2, ixW0, ixW1, ixL0, ixL1, ixL2, ixT_last, ixT_mid, ixT_mid2, pick2_ok, pick3_ok, pick4_ok, pick5_ok, if_int, if_str, slT_to, slT_from, slT_from1, slT_to0, slT_fr0, slT_fr1, addT_ok, addL_ok, tupL_ok, anyBl, allBl, neI_nil, eqI_nil, sto_snoc, listT_ref, listT_val, Nat.zero_add, e]
      refine k (zs, if u3 = 0 then 0 else if u3 = 1 then 9999 else if u3 = 2 then u1 else u2) _ ⟨by simp only; omega, by show (zs.map (·.1)).Pairwise _; rw [hzs]; exact strict (List.nodup_append.mp hnd).1, fun r hr => ?_, by simp only; omega⟩ (g.le (by omega))
      have h1 : r.1 ∈ zs.map (·.1) := List.mem_map.mpr ⟨r, hr, rfl⟩
      rw [hzs] at h1
      exact ⟨hall r.1 (List.mem_append_left _ (sp.mem_iff.mp h1)), hzb r hr⟩
/-! ### grades -/
def gD (gr : List Bd) : D := .tup (gr.map bD)
structure Gok (gr : List Bd) : Prop where
  few : 1 ≤ gr.length ∧ gr.length ≤ 3
  all : ∀ b ∈ gr, Bok b
theorem bnd_g (n : Nat) (gr : List Bd) : (gD gr).bnd n = true := bnds_map (fun b => bnd_b n b) gr
theorem tab_b : tab_0 "_law_budget" = some F__law_budget := rfl
theorem tab_a : tab_0 "_law_any_budget" = some F__law_any_budget := rfl
theorem wp_any_grade {n : Nat} {M T : Sto} {Q : D → Sto → Prop} (g : G (n + 130) M) (tok : Tok T) (k : ∀ gr M', Gok gr → G n M' → Q (gD gr) (M' ++ T)) : Wp (F__law_any_grade (M ++ T) [.ref 1]) Q tg := by
  unfold F__law_any_grade m__law_any_grade
  simp (disch := first | assumption | omega | (simp only [List.length_map, List.length_append, List.length_range, List.length_zip, List.length_drop, List.length_reverse, Int.reduceToNat, Bool.and_self, List.length_cons, List.length_nil, List.length_range] <;> omega) | fail) only [↓wp_bind, wp_bind, wp_ok, LTurn, LTook, runF, outF, inits, mSeq, mSet, mRet, mBin, mVar, mC, mIte, mTst, mB, mCons, mNil, mSkip, mAsg, mDrop, mPar, mPar3, mIf, mNotT, mAndT, mOrT, mNotV, mAndV, mOrV, mLst, mLstA, mTup, mFor, mIt, asI, asIL, mYes, mSl, mO, mO0, mNeg, mRng1, mRng2, mChain, mComp, mkL, wipeD, mZip, mEnum, mEnumT, mIsi, gN, gT, gCons', gNil', List.map_cons, List.map_nil, List.length_cons, List.length_nil, List.length_map, List.length_append, List.length_range, List.length_zip, List.length_drop, List.length_reverse, Int.reduceToNat, Bool.and_self, List.map_append, List.replicate, List.cons_append, List.nil_append, List.getElem?_cons_zero, List.getElem?_cons_succ, List.set_cons_zero, List.set_cons_succ, Res.bind_ok, Res.bind_bad, Nat.reduceAdd, Nat.reduceSub, Nat.reduceLeDiff, Int.cast_ofNat_Int, Int.natCast_add, Int.reduceNeg, Int.reduceSub, Int.reduceAdd, Int.reduceEq, Int.reduceLT, Int.reduceLE, reduceCtorEq, reduceIte, if_true, if_false, if_lim, decide_true, decide_false, Bool.not_true, Bool.not_false, Bool.false_eq_true, argN1, argN2, argN3, argN4, argN5, fMulA_ok, fMod_ok, fDiv_ok, fAdd_ok, fSub_ok, fGt_ok, fLt_ok, fLe_ok, fGe_ok, eqI_ok, neI_ok, eqS_ok, neS_ok, lenT_ok, lenL_ok, lenM_ok, ixT0, ixT1, ixT2, ixW0, ixW1, ixL0, ixL1, ixL2, ixT_last, ixT_mid, ixT_mid2, pick2_ok, pick3_ok, pick4_ok, pick5_ok, if_int, if_str, slT_to, slT_from, slT_from1, slT_to0, slT_fr0, slT_fr1, addT_ok, addL_ok, tupL_ok, anyBl, allBl, neI_nil, eqI_nil, sto_snoc, listT_ref, listT_val, Nat.zero_add]
  refine wp_draw g (by omega) (by omega) fun v _ v0 v1 g => ?_; have l0 := g.len
  simp (disch := first | assumption | omega | (simp only [List.length_map, List.length_append, List.length_range, List.length_zip, List.length_drop, List.length_reverse, Int.reduceToNat, Bool.and_self, List.length_cons, List.length_nil, List.length_range] <;> omega) | fail) only [↓wp_bind, wp_bind, wp_ok, LTurn, LTook, runF, outF, inits, mSeq, mSet, mRet, mBin, mVar, mC, mIte, mTst, mB, mCons, mNil, mSkip, mAsg, mDrop, mPar, mPar3, mIf, mNotT, mAndT, mOrT, mNotV, mAndV, mOrV, mLst, mLstA, mTup, mFor, mIt, asI, asIL, mYes, mSl, mO, mO0, mNeg, mRng1, mRng2, mChain, mComp, mkL, wipeD, mZip, mEnum, mEnumT, mIsi, gN, gT, gCons', gNil', List.map_cons, List.map_nil, List.length_cons, List.length_nil, List.length_map, List.length_append, List.length_range, List.length_zip, List.length_drop, List.length_reverse, Int.reduceToNat, Bool.and_self, List.map_append, List.replicate, List.cons_append, List.nil_append, List.getElem?_cons_zero, List.getElem?_cons_succ, List.set_cons_zero, List.set_cons_succ, Res.bind_ok, Res.bind_bad, Nat.reduceAdd, Nat.reduceSub, Nat.reduceLeDiff, Int.cast_ofNat_Int, Int.natCast_add, Int.reduceNeg, Int.reduceSub, Int.reduceAdd, Int.reduceEq, Int.reduceLT, Int.reduceLE, reduceCtorEq, reduceIte, if_true, if_false, if_lim, decide_true, decide_false, Bool.not_true, Bool.not_false, Bool.false_eq_true, argN1, argN2, argN3, argN4, argN5, fMulA_ok, fMod_ok, fDiv_ok, fAdd_ok, fSub_ok, fGt_ok, fLt_ok, fLe_ok, fGe_ok, eqI_ok, neI_ok, eqS_ok, neS_ok, lenT_ok, lenL_ok, lenM_ok, ixT0, ixT1, ixT2, ixW0, ixW1, ixL0, ixL1, ixL2, ixT_last, ixT_mid, ixT_mid2, pick2_ok, pick3_ok, pick4_ok, pick5_ok, if_int, if_str, slT_to, slT_from, slT_from1, slT_to0, slT_fr0, slT_fr1, addT_ok, addL_ok, tupL_ok, anyBl, allBl, neI_nil, eqI_nil, sto_snoc, listT_ref, listT_val, Nat.zero_add, rngOk_ok]
  refine wp_compN _ (fun i acc S => ∃ (gr : List Bd) (M' : Sto), acc = gr.map bD ∧ S = M' ++ T ∧ G (n + 1 + 41 * (3 - i)) M' ∧ gr.length = i ∧ ∀ b ∈ gr, Bok b) (fun i hi acc S hP => ?_) _ (fun ys S hP => ?_) ⟨[], _, rfl, rfl, g.le (by omega), rfl, fun b hb => by cases hb⟩
  · obtain ⟨gr, M', rfl, rfl, g, hlen, hall⟩ := hP
    obtain ⟨N, hN, hN2⟩ : ∃ N, N + 41 = n + 1 + 41 * (3 - i) ∧ N = n + 1 + 41 * (3 - (i + 1)) := ⟨n + 1 + 41 * (3 - (i + 1)), by omega, rfl⟩
    rw [← hN] at g
    simp (disch := first | assumption | omega | (simp only [List.length_map, List.length_append, List.length_range, List.length_zip, List.length_drop, List.length_reverse, Int.reduceToNat, Bool.and_self, List.length_cons, List.length_nil, List.length_range] <;> omega) | fail) only [↓wp_bind, wp_bind, wp_ok, LTurn, LTook, runF, outF, inits, mSeq, mSet, mRet, mBin, mVar, mC, mIte, mTst, mB, mCons, mNil, mSkip, mAsg, mDrop, mPar, mPar3, mIf, mNotT, mAndT, mOrT, mNotV, mAndV, mOrV, mLst, mLstA, mTup, mFor, mIt, asI, asIL, mYes, mSl, mO, mO0, mNeg, mRng1, mRng2, mChain, mComp, mkL, wipeD, mZip, mEnum, mEnumT, mIsi, gN, gT, gCons', gNil', List.map_cons, List.map_nil, List.length_cons, List.length_nil, List.length_map, List.length_append, List.length_range, List.length_zip, List.length_drop, List.length_reverse, Int.reduceToNat, Bool.and_self, List.map_append, List.replicate, List.cons_append, List.nil_append, List.getElem?_cons_zero, List.getElem?_cons_succ, List.set_cons_zero, List.set_cons_succ, Res.bind_ok, Res.bind_bad, Nat.reduceAdd, Nat.reduceSub, Nat.reduceLeDiff, Int.cast_ofNat_Int, Int.natCast_add, Int.reduceNeg, Int.reduceSub, Int.reduceAdd, Int.reduceEq, Int.reduceLT, Int.reduceLE, reduceCtorEq, reduceIte, if_true, if_false, if_lim, decide_true, decide_false, Bool.not_true, Bool.not_false, Bool.false_eq_true, argN1, argN2, argN3, argN4, argN5, fMulA_ok, fMod_ok, fDiv_ok, fAdd_ok, fSub_ok, fGt_ok, fLt_ok, fLe_ok, fGe_ok, eqI_ok, neI_ok, eqS_ok, neS_ok, lenT_ok, lenL_ok, lenM_ok, ixT0, ixT1, ixT2, ixW0, ixW1, ixL0, ixL1, ixL2, ixT_last, ixT_mid, ixT_mid2, pick2_ok, pick3_ok, pick4_ok, pick5_ok, if_int, if_str, slT_to, slT_from, slT_from1, slT_to0, slT_fr0, slT_fr1, addT_ok, addL_ok, tupL_ok, anyBl, allBl, neI_nil, eqI_nil, sto_snoc, listT_ref, listT_val, Nat.zero_add, mCallT, callT]
    refine wp_draw g (by omega) (by omega) fun w _ w0 w1 g => ?_; have l0 := g.len
    have fin : ∀ b M1, Bok b → G N M1 → ∃ (gr' : List Bd) (M' : Sto), gr.map bD ++ [bD b] = gr'.map bD ∧ M1 ++ T = M' ++ T ∧ G (n + 1 + 41 * (3 - (i + 1))) M' ∧ gr'.length = i + 1 ∧ ∀ b ∈ gr', Bok b := fun b M1 hb g => ⟨gr ++ [b], M1, by rw [List.map_append]; rfl, rfl, by rw [← hN2]; exact g, by rw [List.length_append, List.length_singleton, hlen], fun c hc => by
      rcases List.mem_append.mp hc with hc | hc
      · exact hall c hc
      · rw [List.mem_singleton.mp hc]; exact hb⟩
    by_cases h : w = 0
    · simp (disch := first | assumption | omega | (simp only [List.length_map, List.length_append, List.length_range, List.length_zip, List.length_drop, List.length_reverse, Int.reduceToNat, Bool.and_self, List.length_cons, List.length_nil, List.length_range] <;> omega) | fail) only [↓wp_bind, wp_bind, wp_ok, LTurn, LTook, runF, outF, inits, mSeq, mSet, mRet, mBin, mVar, mC, mIte, mTst, mB, mCons, mNil, mSkip, mAsg, mDrop, mPar, mPar3, mIf, mNotT, mAndT, mOrT, mNotV, mAndV, mOrV, mLst, mLstA, mTup, mFor, mIt, asI, asIL, mYes, mSl, mO, mO0, mNeg, mRng1, mRng2, mChain, mComp, mkL, wipeD, mZip, mEnum, mEnumT, mIsi, gN, gT, gCons', gNil', List.map_cons, List.map_nil, List.length_cons, List.length_nil, List.length_map, List.length_append, List.length_range, List.length_zip, List.length_drop, List.length_reverse, Int.reduceToNat, Bool.and_self, List.map_append, List.replicate, List.cons_append, List.nil_append, List.getElem?_cons_zero, List.getElem?_cons_succ, List.set_cons_zero, List.set_cons_succ, Res.bind_ok, Res.bind_bad, Nat.reduceAdd, Nat.reduceSub, Nat.reduceLeDiff, Int.cast_ofNat_Int, Int.natCast_add, Int.reduceNeg, Int.reduceSub, Int.reduceAdd, Int.reduceEq, Int.reduceLT, Int.reduceLE, reduceCtorEq, reduceIte, if_true, if_false, if_lim, decide_true, decide_false, Bool.not_true, Bool.not_false, Bool.false_eq_true, argN1, argN2, argN3, argN4, argN5, fMulA_ok, fMod_ok, fDiv_ok, fAdd_ok, fSub_ok, fGt_ok, fLt_ok, fLe_ok, fGe_ok, eqI_ok, neI_ok, eqS_ok, neS_ok, lenT_ok, lenL_ok, lenM_ok, ixT0, ixT1, ixT2, ixW0, ixW1, ixL0, ixL1, ixL2, ixT_last, ixT_mid, ixT_mid2, pick2_ok, pick3_ok, pick4_ok, pick5_ok, if_int, if_str, slT_to, slT_from, slT_from1, slT_to0, slT_fr0, slT_fr1, addT_ok, addL_ok, tupL_ok, anyBl, allBl, neI_nil, eqI_nil, sto_snoc, listT_ref, listT_val, Nat.zero_add, h, callT, tab_b]
      refine wp_budget g tok fun b M1 hb g => ?_
      exact fin b M1 hb g
    · simp (disch := first | assumption | omega | (simp only [List.length_map, List.length_append, List.length_range, List.length_zip, List.length_drop, List.length_reverse, Int.reduceToNat, Bool.and_self, List.length_cons, List.length_nil, List.length_range] <;> omega) | fail) only [↓wp_bind, wp_bind, wp_ok, LTurn, LTook, runF, outF, inits, mSeq, mSet, mRet, mBin, mVar, mC, mIte, mTst, mB, mCons, mNil, mSkip, mAsg, mDrop, mPar, mPar3, mIf, mNotT, mAndT, mOrT, mNotV, mAndV, mOrV, mLst, mLstA, mTup, mFor, mIt, asI, asIL, mYes, mSl, mO, mO0, mNeg, mRng1, mRng2, mChain, mComp, mkL, wipeD, mZip, mEnum, mEnumT, mIsi, gN, gT, gCons', gNil', List.map_cons, List.map_nil, List.length_cons, List.length_nil, List.length_map, List.length_append, List.length_range, List.length_zip, List.length_drop, List.length_reverse, Int.reduceToNat, Bool.and_self, List.map_append, List.replicate, List.cons_append, List.nil_append, List.getElem?_cons_zero, List.getElem?_cons_succ, List.set_cons_zero, List.set_cons_succ, Res.bind_ok, Res.bind_bad, Nat.reduceAdd, Nat.reduceSub, Nat.reduceLeDiff, Int.cast_ofNat_Int, Int.natCast_add, Int.reduceNeg, Int.reduceSub, Int.reduceAdd, Int.reduceEq, Int.reduceLT, Int.reduceLE, reduceCtorEq, reduceIte, if_true, if_false, if_lim, decide_true, decide_false, Bool.not_true, Bool.not_false, Bool.false_eq_true, argN1, argN2, argN3, argN4, argN5, fMulA_ok, fMod_ok, fDiv_ok, fAdd_ok, fSub_ok, fGt_ok, fLt_ok, fLe_ok, fGe_ok, eqI_ok, neI_ok, eqS_ok, neS_ok, lenT_ok, lenL_ok, lenM_ok, ixT0, ixT1, ixT2, ixW0, ixW1, ixL0, ixL1, ixL2, ixT_last, ixT_mid, ixT_mid2, pick2_ok, pick3_ok, pick4_ok, pick5_ok, if_int, if_str, slT_to, slT_from, slT_from1, slT_to0, slT_fr0, slT_fr1, addT_ok, addL_ok, tupL_ok, anyBl, allBl, neI_nil, eqI_nil, sto_snoc, listT_ref, listT_val, Nat.zero_add, h, callT, tab_a]
      refine wp_any_budget g tok fun b M1 hb g => ?_
      exact fin b M1 hb g
  · obtain ⟨gr, M', rfl, rfl, g, hlen, hall⟩ := hP
    simp (disch := first | assumption | omega | (simp only [List.length_map, List.length_append, List.length_range, List.length_zip, List.length_drop, List.length_reverse, Int.reduceToNat, Bool.and_self, List.length_cons, List.length_nil, List.length_range] <;> omega) | fail) only [↓wp_bind, wp_bind, wp_ok, LTurn, LTook, runF, outF, inits, mSeq, mSet, mRet, mBin, mVar, mC, mIte, mTst, mB, mCons, mNil, mSkip, mAsg, mDrop, mPar, mPar3, mIf, mNotT, mAndT, mOrT, mNotV, mAndV, mOrV, mLst, mLstA, mTup, mFor, mIt, asI, asIL, mYes, mSl, mO, mO0, mNeg, mRng1, mRng2, mChain, mComp, mkL, wipeD, mZip, mEnum, mEnumT, mIsi, gN, gT, gCons', gNil', List.map_cons, List.map_nil, List.length_cons, List.length_nil, List.length_map, List.length_append, List.length_range, List.length_zip, List.length_drop, List.length_reverse, Int.reduceToNat, Bool.and_self, List.map_append, List.replicate, List.cons_append, List.nil_append, List.getElem?_cons_zero, List.getElem?_cons_succ, List.set_cons_zero, List.set_cons_succ, Res.bind_ok, Res.bind_bad, Nat.reduceAdd, Nat.reduceSub, Nat.reduceLeDiff, Int.cast_ofNat_Int, Int.natCast_add, Int.reduceNeg, Int.reduceSub, Int.reduceAdd, Int.reduceEq, Int.reduceLT, Int.reduceLE, reduceCtorEq, reduceIte, if_true, if_false, if_lim, decide_true, decide_false, Bool.not_true, Bool.not_false, Bool.false_eq_true, argN1, argN2, argN3, argN4, argN5, fMulA_ok, fMod_ok, fDiv_ok, fAdd_ok, fSub_ok, fGt_ok, fLt_ok, fLe_ok, fGe_ok, eqI_ok, neI_ok, eqS_ok, neS_ok, lenT_ok, lenL_ok, lenM_ok, ixT0, ixT1, ixT2, ixW0, ixW1, ixL0, ixL1, ixL2, ixT_last, ixT_mid, ixT_mid2, pick2_ok, pick3_ok, pick4_ok, pick5_ok, if_int, if_str, slT_to, slT_from, slT_from1, slT_to0, slT_fr0, slT_fr1, addT_ok, addL_ok, tupL_ok, anyBl, allBl, neI_nil, eqI_nil, sto_snoc, listT_ref, listT_val, Nat.zero_add]
    exact k gr _ ⟨by omega, hall⟩ (g.le (by omega))
end K16

namespace K16
open PySem PySem.Spec PyProof.Rows L2 Ev
/-! ### what an hour spends -/
def unitsF (rs : List (Int × Int)) (w : Int) : Int := rs.foldl (fun found r => if r.1 < w then r.2 else found) 0
def lastU (l : List (Int × Int)) (w f : Int) : Int := match l.find? fun r => decide (r.1 < w) with
  | some r => r.2
  | none => f
theorem units_last (w : Int) : ∀ (rs : List (Int × Int)) (f : Int), rs.foldl (fun found r => if r.1 < w then r.2 else found) f = lastU rs.reverse w f
  | [], f => rfl
  | r :: rs, f => by
    rw [List.foldl_cons, units_last w rs, List.reverse_cons]
    unfold lastU
    rw [List.find?_append]
    cases rs.reverse.find? fun r => decide (r.1 < w) with
    | some x => rfl
    | none =>
      rw [Option.none_or]
      by_cases h : r.1 < w
      · rw [List.find?_cons_of_pos (by simpa using h), if_pos h]
      · rw [List.find?_cons_of_neg (by simpa using h), if_neg h]
        rfl
theorem unitsF_nil (w : Int) : unitsF [] w = 0 := rfl
theorem units_of_ok (S : Sto) (b : Bd) (w : Int) : F_units_of S [bD b, .int w] = .ok (.int (unitsF b.1 w)) S := by
  unfold F_units_of m_units_of
  refine of_wp ?_
  simp (disch := first | assumption | omega | (simp only [List.length_map, List.length_append, List.length_range, List.length_zip, List.length_drop, List.length_reverse, Int.reduceToNat, Bool.and_self, List.length_cons, List.length_nil, List.length_range] <;> omega) | fail) only [↓wp_bind, wp_bind, wp_ok, LTurn, LTook, runF, outF, inits, mSeq, mSet, mRet, mBin, mVar, mC, mIte, mTst, mB, mCons, mNil, mSkip, mAsg, mDrop, mPar, mPar3, mIf, mNotT, mAndT, mOrT, mNotV, mAndV, mOrV, mLst, mLstA, mTup, mFor, mIt, asI, asIL, mYes, mSl, mO, mO0, mNeg, mRng1, mRng2, mChain, mComp, mkL, wipeD, mZip, mEnum, mEnumT, mIsi, gN, gT, gCons', gNil', List.map_cons, List.map_nil, List.length_cons, List.length_nil, List.length_map, List.length_append, List.length_range, List.length_zip, List.length_drop, List.length_reverse, Int.reduceToNat, Bool.and_self, List.map_append, List.replicate, List.cons_append, List.nil_append, List.getElem?_cons_zero, List.getElem?_cons_succ, List.set_cons_zero, List.set_cons_succ, Res.bind_ok, Res.bind_bad, Nat.reduceAdd, Nat.reduceSub, Nat.reduceLeDiff, Int.cast_ofNat_Int, Int.natCast_add, Int.reduceNeg, Int.reduceSub, Int.reduceAdd, Int.reduceEq, Int.reduceLT, Int.reduceLE, reduceCtorEq, reduceIte, if_true, if_false, if_lim, decide_true, decide_false, Bool.not_true, Bool.not_false, Bool.false_eq_true, argN1, argN2, argN3, argN4, argN5, fMulA_ok, fMod_ok, fDiv_ok, fAdd_ok, fSub_ok, fGt_ok, fLt_ok, fLe_ok, fGe_ok, eqI_ok, neI_ok, eqS_ok, neS_ok, lenT_ok, lenL_ok, lenM_ok, ixT0, ixT1, ixT2, ixW0, ixW1, ixL0, ixL1, ixL2, ixT_last, ixT_mid, ixT_mid2, pick2_ok, pick3_ok, pick4_ok, pick5_ok, if_int, if_str, slT_to, slT_from, slT_from1, slT_to0, slT_fr0, slT_fr1, addT_ok, addL_ok, tupL_ok, anyBl, allBl, neI_nil, eqI_nil, sto_snoc, listT_ref, listT_val, Nat.zero_add, bD]
  refine wp_loop (fun (rest : List (Int × Int)) sl S' => S' = S ∧ ∃ f x y, sl = [some (bD b), some (.int w), some (.int f), x, y] ∧ rest.foldl (fun found r => if r.1 < w then r.2 else found) f = unitsF b.1 w) (fun r rest sl S' hP => ?_) (fun sl S' hP => ?_) _ _ _ ⟨rfl, 0, none, none, rfl, rfl⟩
  · obtain ⟨rfl, f, x, y, rfl, h⟩ := hP
    rw [List.foldl_cons] at h
    simp (disch := first | assumption | omega | (simp only [List.length_map, List.length_append, List.length_range, List.length_zip, List.length_drop, List.length_reverse, Int.reduceToNat, Bool.and_self, List.length_cons, List.length_nil, List.length_range] <;> omega) | fail) only [↓wp_bind, wp_bind, wp_ok, LTurn, LTook, runF, outF, inits, mSeq, mSet, mRet, mBin, mVar, mC, mIte, mTst, mB, mCons, mNil, mSkip, mAsg, mDrop, mPar, mPar3, mIf, mNotT, mAndT, mOrT, mNotV, mAndV, mOrV, mLst, mLstA, mTup, mFor, mIt, asI, asIL, mYes, mSl, mO, mO0, mNeg, mRng1, mRng2, mChain, mComp, mkL, wipeD, mZip, mEnum, mEnumT, mIsi, gN, gT, gCons', gNil', List.map_cons, List.map_nil, List.length_cons, List.length_nil, List.length_map, List.length_append, List.length_range, List.length_zip, List.length_drop, List.length_reverse, Int.reduceToNat, Bool.and_self, List.map_append, List.replicate, List.cons_append, List.nil_append, List.getElem?_cons_zero, List.getElem?_cons_succ, List.set_cons_zero, List.set_cons_succ, Res.bind_ok, Res.bind_bad, Nat.reduceAdd, Nat.reduceSub, Nat.reduceLeDiff, Int.cast_ofNat_Int, Int.natCast_add, Int.reduceNeg, Int.reduceSub, Int.reduceAdd, Int.reduceEq, Int.reduceLT, Int.reduceLE, reduceCtorEq, reduceIte, if_true, if_false, if_lim, decide_true, decide_false, Bool.not_true, Bool.not_false, Bool.false_eq_true, argN1, argN2, argN3, argN4, argN5, fMulA_ok, fMod_ok, fDiv_ok, fAdd_ok, fSub_ok, fGt_ok, fLt_ok, fLe_ok, fGe_ok, eqI_ok, neI_ok, eqS_ok, neS_ok, lenT_ok, lenL_ok, lenM_ok, ixT0, ixT1, ixT2, ixW0, ixW1, ixL0, ixL1, ixL2, ixT_last, ixT_mid, ixT_mid2, pick2_ok, pick3_ok, pick4_ok, pick5_ok, if_int, if_str, slT_to, slT_from, slT_from1, slT_to0, slT_fr0, slT_fr1, addT_ok, addL_ok, tupL_ok, anyBl, allBl, neI_nil, eqI_nil, sto_snoc, listT_ref, listT_val, Nat.zero_add, rD]
    by_cases hl : r.1 < w
    · rw [if_pos hl] at h
      simp (disch := first | assumption | omega | (simp only [List.length_map, List.length_append, List.length_range, List.length_zip, List.length_drop, List.length_reverse, Int.reduceToNat, Bool.and_self, List.length_cons, List.length_nil, List.length_range] <;> omega) | fail) only [↓wp_bind, wp_bind, wp_ok, LTurn, LTook, runF, outF, inits, mSeq, mSet, mRet, mBin, mVar, mC, mIte, mTst, mB, mCons, mNil, mSkip, mAsg, mDrop, mPar, mPar3, mIf, mNotT, mAndT, mOrT, mNotV, mAndV, mOrV, mLst, mLstA, mTup, mFor, mIt, asI, asIL, mYes, mSl, mO, mO0, mNeg, mRng1, mRng2, mChain, mComp, mkL, wipeD, mZip, mEnum, mEnumT, mIsi, gN, gT, gCons', gNil', List.map_cons, List.map_nil, List.length_cons, List.length_nil, List.length_map, List.length_append, List.length_range, List.length_zip, List.length_drop, List.length_reverse, Int.reduceToNat, Bool.and_self, List.map_append, List.replicate, List.cons_append, List.nil_append, List.getElem?_cons_zero, List.getElem?_cons_succ, List.set_cons_zero, List.set_cons_succ, Res.bind_ok, Res.bind_bad, Nat.reduceAdd, Nat.reduceSub, Nat.reduceLeDiff, Int.cast_ofNat_Int, Int.natCast_add, Int.reduceNeg, Int.reduceSub, Int.reduceAdd, Int.reduceEq, Int.reduceLT, Int.reduceLE, reduceCtorEq, reduceIte, if_true, if_false, if_lim, decide_true, decide_false, Bool.not_true, Bool.not_false, Bool.false_eq_true, argN1, argN2, argN3, argN4, argN5, fMulA_ok, fMod_ok, fDiv_ok, fAdd_ok, fSub_ok, fGt_ok, fLt_ok, fLe_ok, fGe_ok, eqI_ok, neI_ok, eqS_ok, neS_ok, lenT_ok, lenL_ok, lenM_ok, ixT0, ixT1, ixT2, ixW0, ixW1, ixL0, ixL1, ixL2, ixT_last, ixT_mid, ixT_mid2, pick2_ok, pick3_ok, pick4_ok, pick5_ok, if_int, if_str, slT_to, slT_from, slT_from1, slT_to0, slT_fr0, slT_fr1, addT_ok, addL_ok, tupL_ok, anyBl, allBl, neI_nil, eqI_nil, sto_snoc, listT_ref, listT_val, Nat.zero_add, hl]
      exact ⟨(by first | rfl | trivial), r.2, _, _, rfl, h⟩
    · rw [if_neg hl] at h
      simp (disch := first | assumption | omega | (simp only [List.length_map, List.length_append, List.length_range, List.length_zip, List.length_drop, List.length_reverse, Int.reduceToNat, Bool.and_self, List.length_cons, List.length_nil, List.length_range] <;> omega) | fail) only [↓wp_bind, wp_bind, wp_ok, LTurn, LTook, runF, outF, inits, mSeq, mSet, mRet, mBin, mVar, mC, mIte, mTst, mB, mCons, mNil, mSkip, mAsg, mDrop, mPar, mPar3, mIf, mNotT, mAndT, mOrT, mNotV, mAndV, mOrV, mLst, mLstA, mTup, mFor, mIt, asI, asIL, mYes, mSl, mO, mO0, mNeg, mRng1, mRng2, mChain, mComp, mkL, wipeD, mZip, mEnum, mEnumT, mIsi, gN, gT, gCons', gNil', List.map_cons, List.map_nil, List.length_cons, List.length_nil, List.length_map, List.length_append, List.length_range, List.length_zip, List.length_drop, List.length_reverse, Int.reduceToNat, Bool.and_self, List.map_append, List.replicate, List.cons_append, List.nil_append, List.getElem?_cons_zero, List.getElem?_cons_succ, List.set_cons_zero, List.set_cons_succ, Res.bind_ok, Res.bind_bad, Nat.reduceAdd, Nat.reduceSub, Nat.reduceLeDiff, Int.cast_ofNat_Int, Int.natCast_add, Int.reduceNeg, Int.reduceSub, Int.reduceAdd, Int.reduceEq, Int.reduceLT, Int.reduceLE, reduceCtorEq, reduceIte, if_true, if_false, if_lim, decide_true, decide_false, Bool.not_true, Bool.not_false, Bool.false_eq_true, argN1, argN2, argN3, argN4, argN5, fMulA_ok, fMod_ok, fDiv_ok, fAdd_ok, fSub_ok, fGt_ok, fLt_ok, fLe_ok, fGe_ok, eqI_ok, neI_ok, eqS_ok, neS_ok, lenT_ok, lenL_ok, lenM_ok, ixT0, ixT1, ixT2, ixW0, ixW1, ixL0, ixL1, ixL2, ixT_last, ixT_mid, ixT_mid2, pick2_ok, pick3_ok, pick4_ok, pick5_ok, if_int, if_str, slT_to, slT_from, slT_from1, slT_to0, slT_fr0, slT_fr1, addT_ok, addL_ok, tupL_ok, anyBl, allBl, neI_nil, eqI_nil, sto_snoc, listT_ref, listT_val, Nat.zero_add, hl]
      exact ⟨(by first | rfl | trivial), f, _, _, rfl, h⟩
  · obtain ⟨rfl, f, x, y, rfl, h⟩ := hP
    have h : f = unitsF b.1 w := h
    subst h
    simp (disch := first | assumption | omega | (simp only [List.length_map, List.length_append, List.length_range, List.length_zip, List.length_drop, List.length_reverse, Int.reduceToNat, Bool.and_self, List.length_cons, List.length_nil, List.length_range] <;> omega) | fail) only [↓wp_bind, wp_bind, wp_ok, LTurn, LTook, runF, outF, inits, mSeq, mSet, mRet, mBin, mVar, mC, mIte, mTst, mB, mCons, mNil, mSkip, mAsg, mDrop, mPar, mPar3, mIf, mNotT, mAndT, mOrT, mNotV, mAndV, mOrV, mLst, mLstA, mTup, mFor, mIt, asI, asIL, mYes, mSl, mO, mO0, mNeg, mRng1, mRng2, mChain, mComp, mkL, wipeD, mZip, mEnum, mEnumT, mIsi, gN, gT, gCons', gNil', List.map_cons, List.map_nil, List.length_cons, List.length_nil, List.length_map, List.length_append, List.length_range, List.length_zip, List.length_drop, List.length_reverse, Int.reduceToNat, Bool.and_self, List.map_append, List.replicate, List.cons_append, List.nil_append, List.getElem?_cons_zero, List.getElem?_cons_succ, List.set_cons_zero, List.set_cons_succ, Res.bind_ok, Res.bind_bad, Nat.reduceAdd, Nat.reduceSub, Nat.reduceLeDiff, Int.cast_ofNat_Int, Int.natCast_add, Int.reduceNeg, Int.reduceSub, Int.reduceAdd, Int.reduceEq, Int.reduceLT, Int.reduceLE, reduceCtorEq, reduceIte, if_true, if_false, if_lim, decide_true, decide_false, Bool.not_true, Bool.not_false, Bool.false_eq_true, argN1, argN2, argN3, argN4, argN5, fMulA_ok, fMod_ok, fDiv_ok, fAdd_ok, fSub_ok, fGt_ok, fLt_ok, fLe_ok, fGe_ok, eqI_ok, neI_ok, eqS_ok, neS_ok, lenT_ok, lenL_ok, lenM_ok, ixT0, ixT1, ixT2, ixW0, ixW1, ixL0, ixL1, ixL2, ixT_last, ixT_mid, ixT_mid2, pick2_ok, pick3_ok, pick4_ok, pick5_ok, if_int, if_str, slT_to, slT_from, slT_from1, slT_to0, slT_fr0, slT_fr1, addT_ok, addL_ok, tupL_ok, anyBl, allBl, neI_nil, eqI_nil, sto_snoc, listT_ref, listT_val, Nat.zero_add]
    exact ⟨(by first | rfl | trivial), (by first | rfl | trivial)⟩
/-! ### looked at -/
theorem is_warmth_ok (S : Sto) (a : Int) (h : -60 ≤ a ∧ a ≤ 60) : F_is_warmth S [.int a] = .ok (.bl true) S := by
  unfold F_is_warmth m_is_warmth
  refine of_wp ?_
  simp (disch := first | assumption | omega | (simp only [List.length_map, List.length_append, List.length_range, List.length_zip, List.length_drop, List.length_reverse, Int.reduceToNat, Bool.and_self, List.length_cons, List.length_nil, List.length_range] <;> omega) | fail) only [↓wp_bind, wp_bind, wp_ok, LTurn, LTook, runF, outF, inits, mSeq, mSet, mRet, mBin, mVar, mC, mIte, mTst, mB, mCons, mNil, mSkip, mAsg, mDrop, mPar, mPar3, mIf, mNotT, mAndT, mOrT, mNotV, mAndV, mOrV, mLst, mLstA, mTup, mFor, mIt, asI, asIL, mYes, mSl, mO, mO0, mNeg, mRng1, mRng2, mChain, mComp, mkL, wipeD, mZip, mEnum, mEnumT, mIsi, gN, gT, gCons', gNil', List.map_cons, List.map_nil, List.length_cons, List.length_nil, List.length_map, List.length_append, List.length_range, List.length_zip, List.length_drop, List.length_reverse, Int.reduceToNat, Bool.and_self, List.map_append, List.replicate, List.cons_append, List.nil_append, List.getElem?_cons_zero, List.getElem?_cons_succ, List.set_cons_zero, List.set_cons_succ, Res.bind_ok, Res.bind_bad, Nat.reduceAdd, Nat.reduceSub, Nat.reduceLeDiff, Int.cast_ofNat_Int, Int.natCast_add, Int.reduceNeg, Int.reduceSub, Int.reduceAdd, Int.reduceEq, Int.reduceLT, Int.reduceLE, reduceCtorEq, reduceIte, if_true, if_false, if_lim, decide_true, decide_false, Bool.not_true, Bool.not_false, Bool.false_eq_true, argN1, argN2, argN3, argN4, argN5, fMulA_ok, fMod_ok, fDiv_ok, fAdd_ok, fSub_ok, fGt_ok, fLt_ok, fLe_ok, fGe_ok, eqI_ok, neI_ok, eqS_ok, neS_ok, lenT_ok, lenL_ok, lenM_ok, ixT0, ixT1, ixT2, ixW0, ixW1, ixL0, ixL1, ixL2, ixT_last, ixT_mid, ixT_mid2, pick2_ok, pick3_ok, pick4_ok, pick5_ok, if_int, if_str, slT_to, slT_from, slT_from1, slT_to0, slT_fr0, slT_fr1, addT_ok, addL_ok, tupL_ok, anyBl, allBl, neI_nil, eqI_nil, sto_snoc, listT_ref, listT_val, Nat.zero_add, is_whole_ok]
  exact ⟨(by first | rfl | trivial), (by first | rfl | trivial)⟩
theorem is_rate_ok (S : Sto) (r : Int × Int) (h : (-60 ≤ r.1 ∧ r.1 ≤ 60) ∧ 0 ≤ r.2 ∧ r.2 ≤ 9) : F_is_rate S [rD r] = .ok (.bl true) S := by
  unfold F_is_rate m_is_rate
  refine of_wp ?_
  simp (disch := first | assumption | omega | (simp only [List.length_map, List.length_append, List.length_range, List.length_zip, List.length_drop, List.length_reverse, Int.reduceToNat, Bool.and_self, List.length_cons, List.length_nil, List.length_range] <;> omega) | fail) only [↓wp_bind, wp_bind, wp_ok, LTurn, LTook, runF, outF, inits, mSeq, mSet, mRet, mBin, mVar, mC, mIte, mTst, mB, mCons, mNil, mSkip, mAsg, mDrop, mPar, mPar3, mIf, mNotT, mAndT, mOrT, mNotV, mAndV, mOrV, mLst, mLstA, mTup, mFor, mIt, asI, asIL, mYes, mSl, mO, mO0, mNeg, mRng1, mRng2, mChain, mComp, mkL, wipeD, mZip, mEnum, mEnumT, mIsi, gN, gT, gCons', gNil', List.map_cons, List.map_nil, List.length_cons, List.length_nil, List.length_map, List.length_append, List.length_range, List.length_zip, List.length_drop, List.length_reverse, Int.reduceToNat, Bool.and_self, List.map_append, List.replicate, List.cons_append, List.nil_append, List.getElem?_cons_zero, List.getElem?_cons_succ, List.set_cons_zero, List.set_cons_succ, Res.bind_ok, Res.bind_bad, Nat.reduceAdd, Nat.reduceSub, Nat.reduceLeDiff, Int.cast_ofNat_Int, Int.natCast_add, Int.reduceNeg, Int.reduceSub, Int.reduceAdd, Int.reduceEq, Int.reduceLT, Int.reduceLE, reduceCtorEq, reduceIte, if_true, if_false, if_lim, decide_true, decide_false, Bool.not_true, Bool.not_false, Bool.false_eq_true, argN1, argN2, argN3, argN4, argN5, fMulA_ok, fMod_ok, fDiv_ok, fAdd_ok, fSub_ok, fGt_ok, fLt_ok, fLe_ok, fGe_ok, eqI_ok, neI_ok, eqS_ok, neS_ok, lenT_ok, lenL_ok, lenM_ok, ixT0, ixT1, ixT2, ixW0, ixW1, ixL0, ixL1, ixL2, ixT_last, ixT_mid, ixT_mid2, pick2_ok, pick3_ok, pick4_ok, pick5_ok, if_int, if_str, slT_to, slT_from, slT_from1, slT_to0, slT_fr0, slT_fr1, addT_ok, addL_ok, tupL_ok, anyBl, allBl, neI_nil, eqI_nil, sto_snoc, listT_ref, listT_val, Nat.zero_add, rD, tyS, Ty.isi, is_warmth_ok, is_whole_ok]
  exact ⟨(by first | rfl | trivial), (by first | rfl | trivial)⟩
theorem rise_pairs : ∀ (rs : List (Int × Int)), (rs.map (·.1)).Pairwise (· < ·) → ∀ p ∈ rs.zip (rs.drop 1), p.1.1 < p.2.1
  | [], _, p, h => by cases h
  | [r], _, p, h => by cases h
  | r :: r2 :: rs, hp, p, h => by
    rw [List.map_cons, List.pairwise_cons] at hp
    rcases List.mem_cons.mp (show p ∈ (r, r2) :: (r2 :: rs).zip ((r2 :: rs).drop 1) from h) with h | h
    · subst h
      exact hp.1 r2.1 (by simp)
    · exact rise_pairs (r2 :: rs) hp.2 p h
theorem is_budget_ok (S : Sto) (b : Bd) (h : Bok b) : F_is_budget S [bD b] = .ok (.bl true) S := by
  unfold F_is_budget m_is_budget
  have f1 : (1 : Int) ≤ (b.1.length : Nat) := by have := h.few.1; omega
  have f2 : ((b.1.length : Nat) : Int) ≤ 5 := by have := h.few.2; omega
  refine of_wp ?_
  simp (disch := first | assumption | omega | (simp only [List.length_map, List.length_append, List.length_range, List.length_zip, List.length_drop, List.length_reverse, Int.reduceToNat, Bool.and_self, List.length_cons, List.length_nil, List.length_range] <;> omega) | fail) only [↓wp_bind, wp_bind, wp_ok, LTurn, LTook, runF, outF, inits, mSeq, mSet, mRet, mBin, mVar, mC, mIte, mTst, mB, mCons, mNil, mSkip, mAsg, mDrop, mPar, mPar3, mIf, mNotT, mAndT, mOrT, mNotV, mAndV, mOrV, mLst, mLstA, mTup, mFor, mIt, asI, asIL, mYes, mSl, mO, mO0, mNeg, mRng1, mRng2, mChain, mComp, mkL, wipeD, mZip, mEnum, mEnumT, mIsi, gN, gT, gCons', gNil', List.map_cons, List.map_nil, List.length_cons, List.length_nil, List.length_map, List.length_append, List.length_range, List.length_zip, List.length_drop, List.length_reverse, Int.reduceToNat, Bool.and_self, List.map_append, List.replicate, List.cons_append, List.nil_append, List.getElem?_cons_zero, List.getElem?_cons_succ, List.set_cons_zero, List.set_cons_succ, Res.bind_ok, Res.bind_bad, Nat.reduceAdd, Nat.reduceSub, Nat.reduceLeDiff, Int.cast_ofNat_Int, Int.natCast_add, Int.reduceNeg, Int.reduceSub, Int.reduceAdd, Int.reduceEq, Int.reduceLT, Int.reduceLE, reduceCtorEq, reduceIte, if_true, if_false, if_lim, decide_true, decide_false, Bool.not_true, Bool.not_false, Bool.false_eq_true, argN1, argN2, argN3, argN4, argN5, fMulA_ok, fMod_ok, fDiv_ok, fAdd_ok, fSub_ok, fGt_ok, fLt_ok, fLe_ok, fGe_ok, eqI_ok, neI_ok, eqS_ok, neS_ok, lenT_ok, lenL_ok, lenM_ok, ixT0, ixT1, ixT2, ixW0, ixW1, ixL0, ixL1, ixL2, ixT_last, ixT_mid, ixT_mid2, pick2_ok, pick3_ok, pick4_ok, pick5_ok, if_int, if_str, slT_to, slT_from, slT_from1, slT_to0, slT_fr0, slT_fr1, addT_ok, addL_ok, tupL_ok, anyBl, allBl, neI_nil, eqI_nil, sto_snoc, listT_ref, listT_val, Nat.zero_add, bD, tyS, Ty.isi, f1, f2]
  rw [comp_map (h := fun _ => D.bl true) b.1 fun r hr => ⟨_, rfl, rfl, by simp (disch := first | assumption | omega | (simp only [List.length_map, List.length_append, List.length_range, List.length_zip, List.length_drop, List.length_reverse, Int.reduceToNat, Bool.and_self, List.length_cons, List.length_nil, List.length_range] <;> omega) | fail) only [↓wp_bind, wp_bind, wp_ok, LTurn, LTook, runF, outF, inits, mSeq, mSet, mRet, mBin, mVar, mC, mIte, mTst, mB, mCons, mNil, mSkip, mAsg, mDrop, mPar, mPar3, mIf, mNotT, mAndT, mOrT, mNotV, mAndV, mOrV, mLst, mLstA, mTup, mFor, mIt, asI, asIL, mYes, mSl, mO, mO0, mNeg, mRng1, mRng2, mChain, mComp, mkL, wipeD, mZip, mEnum, mEnumT, mIsi, gN, gT, gCons', gNil', List.map_cons, List.map_nil, List.length_cons, List.length_nil, List.length_map, List.length_append, List.length_range, List.length_zip, List.length_drop, List.length_reverse, Int.reduceToNat, Bool.and_self, List.map_append, List.replicate, List.cons_append, List.nil_append, List.getElem?_cons_zero, List.getElem?_cons_succ, List.set_cons_zero, List.set_cons_succ, Res.bind_ok, Res.bind_bad, Nat.reduceAdd, Nat.reduceSub, Nat.reduceLeDiff, Int.cast_ofNat_Int, Int.natCast_add, Int.reduceNeg, Int.reduceSub, Int.reduceAdd, Int.reduceEq, Int.reduceLT, Int.reduceLE, reduceCtorEq, reduceIte, if_true, if_false, if_lim, decide_true, decide_false, Bool.not_true, Bool.not_false, Bool.false_eq_true, argN1, argN2, argN3, argN4, argN5, fMulA_ok, fMod_ok, fDiv_ok, fAdd_ok, fSub_ok, fGt_ok, fLt_ok, fLe_ok, fGe_ok, eqI_ok, neI_ok, eqS_ok, neS_ok, lenT_ok, lenL_ok, lenM_ok, ixT0, ixT1, ixT2, ixW0, ixW1, ixL0, ixL1, ixL2, ixT_last, ixT_mid, ixT_mid2, pick2_ok, pick3_ok, pick4_ok, pick5_ok, if_int, if_str, slT_to, slT_from, slT_from1, slT_to0, slT_fr0, slT_fr1, addT_ok, addL_ok, tupL_ok, anyBl, allBl, neI_nil, eqI_nil, sto_snoc, listT_ref, listT_val, Nat.zero_add]; exact is_rate_ok S r (h.at_ r hr)⟩]
  simp (disch := first | assumption | omega | (simp only [List.length_map, List.length_append, List.length_range, List.length_zip, List.length_drop, List.length_reverse, Int.reduceToNat, Bool.and_self, List.length_cons, List.length_nil, List.length_range] <;> omega) | fail) only [↓wp_bind, wp_bind, wp_ok, LTurn, LTook, runF, outF, inits, mSeq, mSet, mRet, mBin, mVar, mC, mIte, mTst, mB, mCons, mNil, mSkip, mAsg, mDrop, mPar, mPar3, mIf, mNotT, mAndT, mOrT, mNotV, mAndV, mOrV, mLst, mLstA, mTup, mFor, mIt, asI, asIL, mYes, mSl, mO, mO0, mNeg, mRng1, mRng2, mChain, mComp, mkL, wipeD, mZip, mEnum, mEnumT, mIsi, gN, gT, gCons', gNil', List.map_cons, List.map_nil, List.length_cons, List.length_nil, List.length_map, List.length_append, List.length_range, List.length_zip, List.length_drop, List.length_reverse, Int.reduceToNat, Bool.and_self, List.map_append, List.replicate, List.cons_append, List.nil_append, List.getElem?_cons_zero, List.getElem?_cons_succ, List.set_cons_zero, List.set_cons_succ, Res.bind_ok, Res.bind_bad, Nat.reduceAdd, Nat.reduceSub, Nat.reduceLeDiff, Int.cast_ofNat_Int, Int.natCast_add, Int.reduceNeg, Int.reduceSub, Int.reduceAdd, Int.reduceEq, Int.reduceLT, Int.reduceLE, reduceCtorEq, reduceIte, if_true, if_false, if_lim, decide_true, decide_false, Bool.not_true, Bool.not_false, Bool.false_eq_true, argN1, argN2, argN3, argN4, argN5, fMulA_ok, fMod_ok, fDiv_ok, fAdd_ok, fSub_ok, fGt_ok, fLt_ok, fLe_ok, fGe_ok, eqI_ok, neI_ok, eqS_ok, neS_ok, lenT_ok, lenL_ok, lenM_ok, ixT0, ixT1, ixT2, ixW0, ixW1, ixL0, ixL1, ixL2, ixT_last, ixT_mid, ixT_mid2, pick2_ok, pick3_ok, pick4_ok, pick5_ok, if_int, if_str, slT_to, slT_from, slT_from1, slT_to0, slT_fr0, slT_fr1, addT_ok, addL_ok, tupL_ok, anyBl, allBl, neI_nil, eqI_nil, sto_snoc, listT_ref, listT_val, Nat.zero_add, all_yes]
  rw [slT_tail (f := rD)]
  simp (disch := first | assumption | omega | (simp only [List.length_map, List.length_append, List.length_range, List.length_zip, List.length_drop, List.length_reverse, Int.reduceToNat, Bool.and_self, List.length_cons, List.length_nil, List.length_range] <;> omega) | fail) only [↓wp_bind, wp_bind, wp_ok, LTurn, LTook, runF, outF, inits, mSeq, mSet, mRet, mBin, mVar, mC, mIte, mTst, mB, mCons, mNil, mSkip, mAsg, mDrop, mPar, mPar3, mIf, mNotT, mAndT, mOrT, mNotV, mAndV, mOrV, mLst, mLstA, mTup, mFor, mIt, asI, asIL, mYes, mSl, mO, mO0, mNeg, mRng1, mRng2, mChain, mComp, mkL, wipeD, mZip, mEnum, mEnumT, mIsi, gN, gT, gCons', gNil', List.map_cons, List.map_nil, List.length_cons, List.length_nil, List.length_map, List.length_append, List.length_range, List.length_zip, List.length_drop, List.length_reverse, Int.reduceToNat, Bool.and_self, List.map_append, List.replicate, List.cons_append, List.nil_append, List.getElem?_cons_zero, List.getElem?_cons_succ, List.set_cons_zero, List.set_cons_succ, Res.bind_ok, Res.bind_bad, Nat.reduceAdd, Nat.reduceSub, Nat.reduceLeDiff, Int.cast_ofNat_Int, Int.natCast_add, Int.reduceNeg, Int.reduceSub, Int.reduceAdd, Int.reduceEq, Int.reduceLT, Int.reduceLE, reduceCtorEq, reduceIte, if_true, if_false, if_lim, decide_true, decide_false, Bool.not_true, Bool.not_false, Bool.false_eq_true, argN1, argN2, argN3, argN4, argN5, fMulA_ok, fMod_ok, fDiv_ok, fAdd_ok, fSub_ok, fGt_ok, fLt_ok, fLe_ok, fGe_ok, eqI_ok, neI_ok, eqS_ok, neS_ok, lenT_ok, lenL_ok, lenM_ok, ixT0, ixT1, ixT2, ixW0, ixW1, ixL0, ixL1, ixL2, ixT_last, ixT_mid, ixT_mid2, pick2_ok, pick3_ok, pick4_ok, pick5_ok, if_int, if_str, slT_to, slT_from, slT_from1, slT_to0, slT_fr0, slT_fr1, addT_ok, addL_ok, tupL_ok, anyBl, allBl, neI_nil, eqI_nil, sto_snoc, listT_ref, listT_val, Nat.zero_add, zip_map]
  rw [comp_map (h := fun _ => D.bl true) (b.1.zip (b.1.drop 1)) fun p hp => ⟨_, rfl, rfl, by simp (disch := first | assumption | omega | (simp only [List.length_map, List.length_append, List.length_range, List.length_zip, List.length_drop, List.length_reverse, Int.reduceToNat, Bool.and_self, List.length_cons, List.length_nil, List.length_range] <;> omega) | fail) only [↓wp_bind, wp_bind, wp_ok, LTurn, LTook, runF, outF, inits, mSeq, mSet, mRet, mBin, mVar, mC, mIte, mTst, mB, mCons, mNil, mSkip, mAsg, mDrop, mPar, mPar3, mIf, mNotT, mAndT, mOrT, mNotV, mAndV, mOrV, mLst, mLstA, mTup, mFor, mIt, asI, asIL, mYes, mSl, mO, mO0, mNeg, mRng1, mRng2, mChain, mComp, mkL, wipeD, mZip, mEnum, mEnumT, mIsi, gN, gT, gCons', gNil', List.map_cons, List.map_nil, List.length_cons, List.length_nil, List.length_map, List.length_append, List.length_range, List.length_zip, List.length_drop, List.length_reverse, Int.reduceToNat, Bool.and_self, List.map_append, List.replicate, List.cons_append, List.nil_append, List.getElem?_cons_zero, List.getElem?_cons_succ, List.set_cons_zero, List.set_cons_succ, Res.bind_ok, Res.bind_bad, Nat.reduceAdd, Nat.reduceSub, Nat.reduceLeDiff, Int.cast_ofNat_Int, Int.natCast_add, Int.reduceNeg, Int.reduceSub, Int.reduceAdd, Int.reduceEq, Int.reduceLT, Int.reduceLE, reduceCtorEq, reduceIte, if_true, if_false, if_lim, decide_true, decide_false, Bool.not_true, Bool.not_false, Bool.false_eq_true, argN1, argN2, argN3, argN4, argN5, fMulA_ok, fMod_ok, fDiv_ok, fAdd_ok, fSub_ok, fGt_ok, fLt_ok, fLe_ok, fGe_ok, eqI_ok, neI_ok, eqS_ok, neS_ok, lenT_ok, lenL_ok, lenM_ok, ixT0, ixT1, ixT2, ixW0, ixW1, ixL0, ixL1, ixL2, ixT_last, ixT_mid, ixT_mid2, pick2_ok, pick3_ok, pick4_ok, pick5_ok, if_int, if_str, slT_to, slT_from, slT_from1, slT_to0, slT_fr0, slT_fr1, addT_ok, addL_ok, tupL_ok, anyBl, allBl, neI_nil, eqI_nil, sto_snoc, listT_ref, listT_val, Nat.zero_add, rD, rise_pairs b.1 h.rise p hp]⟩]
  simp (disch := first | assumption | omega | (simp only [List.length_map, List.length_append, List.length_range, List.length_zip, List.length_drop, List.length_reverse, Int.reduceToNat, Bool.and_self, List.length_cons, List.length_nil, List.length_range] <;> omega) | fail) only [↓wp_bind, wp_bind, wp_ok, LTurn, LTook, runF, outF, inits, mSeq, mSet, mRet, mBin, mVar, mC, mIte, mTst, mB, mCons, mNil, mSkip, mAsg, mDrop, mPar, mPar3, mIf, mNotT, mAndT, mOrT, mNotV, mAndV, mOrV, mLst, mLstA, mTup, mFor, mIt, asI, asIL, mYes, mSl, mO, mO0, mNeg, mRng1, mRng2, mChain, mComp, mkL, wipeD, mZip, mEnum, mEnumT, mIsi, gN, gT, gCons', gNil', List.map_cons, List.map_nil, List.length_cons, List.length_nil, List.length_map, List.length_append, List.length_range, List.length_zip, List.length_drop, List.length_reverse, Int.reduceToNat, Bool.and_self, List.map_append, List.replicate, List.cons_append, List.nil_append, List.getElem?_cons_zero, List.getElem?_cons_succ, List.set_cons_zero, List.set_cons_succ, Res.bind_ok, Res.bind_bad, Nat.reduceAdd, Nat.reduceSub, Nat.reduceLeDiff, Int.cast_ofNat_Int, Int.natCast_add, Int.reduceNeg, Int.reduceSub, Int.reduceAdd, Int.reduceEq, Int.reduceLT, Int.reduceLE, reduceCtorEq, reduceIte, if_true, if_false, if_lim, decide_true, decide_false, Bool.not_true, Bool.not_false, Bool.false_eq_true, argN1, argN2, argN3, argN4, argN5, fMulA_ok, fMod_ok, fDiv_ok, fAdd_ok, fSub_ok, fGt_ok, fLt_ok, fLe_ok, fGe_ok, eqI_ok, neI_ok, eqS_ok, neS_ok, lenT_ok, lenL_ok, lenM_ok, ixT0, ixT1, ixT2, ixW0, ixW1, ixL0, ixL1, ixL2, ixT_last, ixT_mid, ixT_mid2, pick2_ok, pick3_ok, pick4_ok, pick5_ok, if_int, if_str, slT_to, slT_from, slT_from1, slT_to0, slT_fr0, slT_fr1, addT_ok, addL_ok, tupL_ok, anyBl, allBl, neI_nil, eqI_nil, sto_snoc, listT_ref, listT_val, Nat.zero_add, all_yes, is_whole_ok S b.2 0 9999 h.most]
  exact ⟨(by first | rfl | trivial), (by first | rfl | trivial)⟩
theorem is_grade_ok (S : Sto) (gr : List Bd) (h : Gok gr) : F_is_grade S [gD gr] = .ok (.bl true) S := by
  unfold F_is_grade m_is_grade
  have f1 : (1 : Int) ≤ (gr.length : Nat) := by have := h.few.1; omega
  have f2 : ((gr.length : Nat) : Int) ≤ 3 := by have := h.few.2; omega
  refine of_wp ?_
  simp (disch := first | assumption | omega | (simp only [List.length_map, List.length_append, List.length_range, List.length_zip, List.length_drop, List.length_reverse, Int.reduceToNat, Bool.and_self, List.length_cons, List.length_nil, List.length_range] <;> omega) | fail) only [↓wp_bind, wp_bind, wp_ok, LTurn, LTook, runF, outF, inits, mSeq, mSet, mRet, mBin, mVar, mC, mIte, mTst, mB, mCons, mNil, mSkip, mAsg, mDrop, mPar, mPar3, mIf, mNotT, mAndT, mOrT, mNotV, mAndV, mOrV, mLst, mLstA, mTup, mFor, mIt, asI, asIL, mYes, mSl, mO, mO0, mNeg, mRng1, mRng2, mChain, mComp, mkL, wipeD, mZip, mEnum, mEnumT, mIsi, gN, gT, gCons', gNil', List.map_cons, List.map_nil, List.length_cons, List.length_nil, List.length_map, List.length_append, List.length_range, List.length_zip, List.length_drop, List.length_reverse, Int.reduceToNat, Bool.and_self, List.map_append, List.replicate, List.cons_append, List.nil_append, List.getElem?_cons_zero, List.getElem?_cons_succ, List.set_cons_zero, List.set_cons_succ, Res.bind_ok, Res.bind_bad, Nat.reduceAdd, Nat.reduceSub, Nat.reduceLeDiff, Int.cast_ofNat_Int, Int.natCast_add, Int.reduceNeg, Int.reduceSub, Int.reduceAdd, Int.reduceEq, Int.reduceLT, Int.reduceLE, reduceCtorEq, reduceIte, if_true, if_false, if_lim, decide_true, decide_false, Bool.not_true, Bool.not_false, Bool.false_eq_true, argN1, argN2, argN3, argN4, argN5, fMulA_ok, fMod_ok, fDiv_ok, fAdd_ok, fSub_ok, fGt_ok, fLt_ok, fLe_ok, fGe_ok, eqI_ok, neI_ok, eqS_ok, neS_ok, lenT_ok, lenL_ok, lenM_ok, ixT0, ixT1, ixT2, ixW0, ixW1, ixL0, ixL1, ixL2, ixT_last, ixT_mid, ixT_mid2, pick2_ok, pick3_ok, pick4_ok, pick5_ok, if_int, if_str, slT_to, slT_from, slT_from1, slT_to0, slT_fr0, slT_fr1, addT_ok, addL_ok, tupL_ok, anyBl, allBl, neI_nil, eqI_nil, sto_snoc, listT_ref, listT_val, Nat.zero_add, gD, tyS, Ty.isi, f1, f2]
  rw [comp_map (h := fun _ => D.bl true) gr fun b hb => ⟨_, rfl, rfl, by simp (disch := first | assumption | omega | (simp only [List.length_map, List.length_append, List.length_range, List.length_zip, List.length_drop, List.length_reverse, Int.reduceToNat, Bool.and_self, List.length_cons, List.length_nil, List.length_range] <;> omega) | fail) only [↓wp_bind, wp_bind, wp_ok, LTurn, LTook, runF, outF, inits, mSeq, mSet, mRet, mBin, mVar, mC, mIte, mTst, mB, mCons, mNil, mSkip, mAsg, mDrop, mPar, mPar3, mIf, mNotT, mAndT, mOrT, mNotV, mAndV, mOrV, mLst, mLstA, mTup, mFor, mIt, asI, asIL, mYes, mSl, mO, mO0, mNeg, mRng1, mRng2, mChain, mComp, mkL, wipeD, mZip, mEnum, mEnumT, mIsi, gN, gT, gCons', gNil', List.map_cons, List.map_nil, List.length_cons, List.length_nil, List.length_map, List.length_append, List.length_range, List.length_zip, List.length_drop, List.length_reverse, Int.reduceToNat, Bool.and_self, List.map_append, List.replicate, List.cons_append, List.nil_append, List.getElem?_cons_zero, List.getElem?_cons_succ, List.set_cons_zero, List.set_cons_succ, Res.bind_ok, Res.bind_bad, Nat.reduceAdd, Nat.reduceSub, Nat.reduceLeDiff, Int.cast_ofNat_Int, Int.natCast_add, Int.reduceNeg, Int.reduceSub, Int.reduceAdd, Int.reduceEq, Int.reduceLT, Int.reduceLE, reduceCtorEq, reduceIte, if_true, if_false, if_lim, decide_true, decide_false, Bool.not_true, Bool.not_false, Bool.false_eq_true, argN1, argN2, argN3, argN4, argN5, fMulA_ok, fMod_ok, fDiv_ok, fAdd_ok, fSub_ok, fGt_ok, fLt_ok, fLe_ok, fGe_ok, eqI_ok, neI_ok, eqS_ok, neS_ok, lenT_ok, lenL_ok, lenM_ok, ixT0, ixT1, ixT2, ixW0, ixW1, ixL0, ixL1, ixL2, ixT_last, ixT_mid, ixT_mid2, pick2_ok, pick3_ok, pick4_ok, pick5_ok, if_int, if_str, slT_to, slT_from, slT_from1, slT_to0, slT_fr0, slT_fr1, addT_ok, addL_ok, tupL_ok, anyBl, allBl, neI_nil, eqI_nil, sto_snoc, listT_ref, listT_val, Nat.zero_add]; exact is_budget_ok S b (h.all b hb)⟩]
  simp (disch := first | assumption | omega | (simp only [List.length_map, List.length_append, List.length_range, List.length_zip, List.length_drop, List.length_reverse, Int.reduceToNat, Bool.and_self, List.length_cons, List.length_nil, List.length_range] <;> omega) | fail) only [↓wp_bind, wp_bind, wp_ok, LTurn, LTook, runF, outF, inits, mSeq, mSet, mRet, mBin, mVar, mC, mIte, mTst, mB, mCons, mNil, mSkip, mAsg, mDrop, mPar, mPar3, mIf, mNotT, mAndT, mOrT, mNotV, mAndV, mOrV, mLst, mLstA, mTup, mFor, mIt, asI, asIL, mYes, mSl, mO, mO0, mNeg, mRng1, mRng2, mChain, mComp, mkL, wipeD, mZip, mEnum, mEnumT, mIsi, gN, gT, gCons', gNil', List.map_cons, List.map_nil, List.length_cons, List.length_nil, List.length_map, List.length_append, List.length_range, List.length_zip, List.length_drop, List.length_reverse, Int.reduceToNat, Bool.and_self, List.map_append, List.replicate, List.cons_append, List.nil_append, List.getElem?_cons_zero, List.getElem?_cons_succ, List.set_cons_zero, List.set_cons_succ, Res.bind_ok, Res.bind_bad, Nat.reduceAdd, Nat.reduceSub, Nat.reduceLeDiff, Int.cast_ofNat_Int, Int.natCast_add, Int.reduceNeg, Int.reduceSub, Int.reduceAdd, Int.reduceEq, Int.reduceLT, Int.reduceLE, reduceCtorEq, reduceIte, if_true, if_false, if_lim, decide_true, decide_false, Bool.not_true, Bool.not_false, Bool.false_eq_true, argN1, argN2, argN3, argN4, argN5, fMulA_ok, fMod_ok, fDiv_ok, fAdd_ok, fSub_ok, fGt_ok, fLt_ok, fLe_ok, fGe_ok, eqI_ok, neI_ok, eqS_ok, neS_ok, lenT_ok, lenL_ok, lenM_ok, ixT0, ixT1, ixT2, ixW0, ixW1, ixL0, ixL1, ixL2, ixT_last, ixT_mid, ixT_mid2, pick2_ok, pick3_ok, pick4_ok, pick5_ok, if_int, if_str, slT_to, slT_from, slT_from1, slT_to0, slT_fr0, slT_fr1, addT_ok, addL_ok, tupL_ok, anyBl, allBl, neI_nil, eqI_nil, sto_snoc, listT_ref, listT_val, Nat.zero_add, all_yes]
  exact ⟨(by first | rfl | trivial), (by first | rfl | trivial)⟩
theorem need_grade_ok (S : Sto) (gr : List Bd) (h : Gok gr) : F_need_grade S [gD gr] = .ok .non S := by
  unfold F_need_grade m_need_grade
  refine of_wp ?_
  simp (disch := first | assumption | omega | (simp only [List.length_map, List.length_append, List.length_range, List.length_zip, List.length_drop, List.length_reverse, Int.reduceToNat, Bool.and_self, List.length_cons, List.length_nil, List.length_range] <;> omega) | fail) only [↓wp_bind, wp_bind, wp_ok, LTurn, LTook, runF, outF, inits, mSeq, mSet, mRet, mBin, mVar, mC, mIte, mTst, mB, mCons, mNil, mSkip, mAsg, mDrop, mPar, mPar3, mIf, mNotT, mAndT, mOrT, mNotV, mAndV, mOrV, mLst, mLstA, mTup, mFor, mIt, asI, asIL, mYes, mSl, mO, mO0, mNeg, mRng1, mRng2, mChain, mComp, mkL, wipeD, mZip, mEnum, mEnumT, mIsi, gN, gT, gCons', gNil', List.map_cons, List.map_nil, List.length_cons, List.length_nil, List.length_map, List.length_append, List.length_range, List.length_zip, List.length_drop, List.length_reverse, Int.reduceToNat, Bool.and_self, List.map_append, List.replicate, List.cons_append, List.nil_append, List.getElem?_cons_zero, List.getElem?_cons_succ, List.set_cons_zero, List.set_cons_succ, Res.bind_ok, Res.bind_bad, Nat.reduceAdd, Nat.reduceSub, Nat.reduceLeDiff, Int.cast_ofNat_Int, Int.natCast_add, Int.reduceNeg, Int.reduceSub, Int.reduceAdd, Int.reduceEq, Int.reduceLT, Int.reduceLE, reduceCtorEq, reduceIte, if_true, if_false, if_lim, decide_true, decide_false, Bool.not_true, Bool.not_false, Bool.false_eq_true, argN1, argN2, argN3, argN4, argN5, fMulA_ok, fMod_ok, fDiv_ok, fAdd_ok, fSub_ok, fGt_ok, fLt_ok, fLe_ok, fGe_ok, eqI_ok, neI_ok, eqS_ok, neS_ok, lenT_ok, lenL_ok, lenM_ok, ixT0, ixT1, ixT2, ixW0, ixW1, ixL0, ixL1, ixL2, ixT_last, ixT_mid, ixT_mid2, pick2_ok, pick3_ok, pick4_ok, pick5_ok, if_int, if_str, slT_to, slT_from, slT_from1, slT_to0, slT_fr0, slT_fr1, addT_ok, addL_ok, tupL_ok, anyBl, allBl, neI_nil, eqI_nil, sto_snoc, listT_ref, listT_val, Nat.zero_add, is_grade_ok S gr h]
  exact ⟨(by first | rfl | trivial), (by first | rfl | trivial)⟩
/-! ### texts -/
def Nice (d : D) (k dep : Nat) : Prop := ∃ p, D.py d = some p ∧ p.showable = true ∧ p.hasDict = false ∧ p.depth ≤ dep ∧ p.leavesShort 13 = true ∧ p.bulk ≤ k
theorem nice_int {i : Int} (h : -1000000000000 < i ∧ i < 1000000000000) : Nice (.int i) 0 0 := by
  have h1 : i.natAbs < 10 ^ 12 := by
    show i.natAbs < 1000000000000
    omega
  refine ⟨.int i, rfl, ?_, rfl, Nat.le_refl _, ?_, Nat.le_refl _⟩
  · show decide (i.natAbs.log2 < 1920) = true
    refine decide_eq_true ?_
    by_cases h0 : i.natAbs = 0
    · rw [h0]; decide
    · rw [Nat.log2_lt h0]
      exact Nat.lt_of_lt_of_le h1 (Nat.le_trans (show 10 ^ 12 ≤ 2 ^ 40 by decide) (Nat.pow_le_pow_right (by decide) (by decide)))
  · show decide ((toString i : Str).length ≤ 13) = true
    refine decide_eq_true ?_
    rw [PySem.ofString_length]
    exact int_text_length_le10 (k := 12) (by decide) h1
theorem nice_all {k dep : Nat} : ∀ (xs : List D), (∀ d ∈ xs, Nice d k dep) → ∃ ps, D.pys xs = some ps ∧ PyData.showableAll ps = true ∧ PyData.hasDictAll ps = false ∧ PyData.depthAll ps ≤ dep ∧ PyData.leavesShortAll 13 ps = true ∧ PyData.bulkAll ps ≤ xs.length * (k + 1)
  | [], _ => ⟨[], rfl, rfl, rfl, Nat.zero_le _, rfl, Nat.zero_le _⟩
  | x :: xs, h => by
    obtain ⟨p, a1, a2, a3, a4, a5, a6⟩ := h x (by simp)
    obtain ⟨ps, b1, b2, b3, b4, b5, b6⟩ := nice_all xs fun d hd => h d (by simp [hd])
    refine ⟨p :: ps, by simp only [D.pys, a1, b1], by simp only [PyData.showableAll, a2, b2, Bool.and_self], by simp only [PyData.hasDictAll, a3, b3, Bool.or_self], by simp only [PyData.depthAll]; omega, by simp only [PyData.leavesShortAll, a5, b5, Bool.and_self], ?_⟩
    simp only [PyData.bulkAll, List.length_cons, Nat.add_mul, Nat.one_mul]
    omega
theorem nice_tup {k dep : Nat} {xs : List D} (h : ∀ d ∈ xs, Nice d k dep) : Nice (.tup xs) (xs.length * (k + 1)) (dep + 1) := by
  obtain ⟨ps, b1, b2, b3, b4, b5, b6⟩ := nice_all xs h
  exact ⟨.tuple ps, by simp only [D.py, b1], by simp only [PyData.showable, b2], by simp only [PyData.hasDict, b3], by simp only [PyData.depth]; omega, by simp only [PyData.leavesShort, b5], by simp only [PyData.bulk]; exact b6⟩
theorem Nice.mono {d : D} {k dep k' dep' : Nat} (h : Nice d k dep) (hk : k ≤ k') (hd : dep ≤ dep') : Nice d k' dep' := by
  obtain ⟨p, a1, a2, a3, a4, a5, a6⟩ := h
  exact ⟨p, a1, a2, a3, Nat.le_trans a4 hd, a5, Nat.le_trans a6 hk⟩
theorem repr_tup {xs : List D} {k dep : Nat} (h : Nice (.tup xs) k dep) (hk : k ≤ 1000000) (hd : dep ≤ 60) : ∃ s : Str, ∀ S, fRepr S [.tup xs] = .ok (.str s) S := by
  obtain ⟨p, a1, a2, a3, a4, a5, a6⟩ := h
  refine ⟨p.shown, fun S => ?_⟩
  have e : toPy S (.tup xs) = some p := a1
  have hs : p.shown.length ≤ 16777216 := by
    have := PyData.shown_fits_bulk (B := 13) (by decide) (by decide) a5 (Nat.le_trans a6 (Nat.le_trans hk (by decide)))
    rw [sizeLine_eq] at this
    exact this
  unfold fRepr
  simp only [e, a2, a3, decide_eq_true (Nat.le_trans a4 hd), decide_eq_true hs, Bool.not_false, Bool.and_self, if_true]
theorem str_refl (s : Str) : (s == s) = true := by
  rw [← dec_str]
  exact decide_eq_true rfl
theorem ne_str (S : Sto) (s : Str) : fEqA true S (.str s) (.str s) = .ok (.bl false) S := by
  show Res.ok (D.bl (!(s == s))) S = _
  rw [str_refl]
  rfl
theorem unitsF_in {b : Bd} (h : Bok b) (w : Int) : 0 ≤ unitsF b.1 w ∧ unitsF b.1 w ≤ 9 := by
  unfold unitsF
  have gen : ∀ (rs : List (Int × Int)) (f : Int), (∀ r ∈ rs, 0 ≤ r.2 ∧ r.2 ≤ 9) → 0 ≤ f ∧ f ≤ 9 → 0 ≤ rs.foldl (fun found r => if r.1 < w then r.2 else found) f ∧ rs.foldl (fun found r => if r.1 < w then r.2 else found) f ≤ 9 := by
    intro rs
    induction rs with
    | nil => exact fun f _ h => h
    | cons r rs ih =>
      intro f hr hf
      rw [List.foldl_cons]
      refine ih _ (fun x hx => hr x (by simp [hx])) ?_
      by_cases hlt : r.1 < w
      · rw [if_pos hlt]; exact hr r (by simp)
      · rw [if_neg hlt]; exact hf
  exact gen b.1 0 (fun r hr => (h.at_ r hr).2) (by decide)
theorem nice_r (r : Int × Int) (h : (-60 ≤ r.1 ∧ r.1 ≤ 60) ∧ 0 ≤ r.2 ∧ r.2 ≤ 9) : Nice (rD r) 2 1 := by
  refine nice_tup (k := 0) (dep := 0) fun d hd => ?_
  have hd : d = .int r.1 ∨ d = .int r.2 := by simpa using hd
  rcases hd with rfl | rfl
  · exact nice_int (by omega)
  · exact nice_int (by omega)
theorem nice_b {b : Bd} (h : Bok b) : Nice (bD b) 100 3 := by
  refine Nice.mono (nice_tup (k := 20) (dep := 2) fun d hd => ?_) (by show 2 * (20 + 1) ≤ 100; decide) (Nat.le_refl _)
  have hd : d = .tup (b.1.map rD) ∨ d = .int b.2 := by simpa using hd
  rcases hd with rfl | rfl
  · refine Nice.mono (nice_tup (k := 2) (dep := 1) fun d hd => ?_) ?_ (Nat.le_refl _)
    · obtain ⟨r, hr, rfl⟩ := List.mem_map.mp hd
      exact nice_r r (h.at_ r hr)
    · rw [List.length_map]
      have := h.few.2
      omega
  · exact (nice_int (by have := h.most; omega)).mono (by decide) (by decide)
theorem nice_g {gr : List Bd} (h : Gok gr) : Nice (gD gr) 400 4 := by
  refine Nice.mono (nice_tup (k := 100) (dep := 3) fun d hd => ?_) ?_ (Nat.le_refl _)
  · obtain ⟨b, hb, rfl⟩ := List.mem_map.mp hd
    exact nice_b (h.all b hb)
  · rw [List.length_map]
    have := h.few.2
    omega
def truth : Res D → Bool
  | .ok d _ => match d with
    | .bl b => b
    | _ => false
  | .bad => false
theorem of_truth {r : Res D} (h : truth r = true) : ∃ S, r = .ok (.bl true) S := by
  cases r with
  | bad => cases h
  | ok d S =>
    cases d with
    | bl b =>
      have : b = true := h
      subst this
      exact ⟨S, rfl⟩
    | _ => cases h
theorem nice_lst {k dep : Nat} {xs : List D} (h : ∀ d ∈ xs, Nice d k dep) : Nice (.lst xs) (xs.length * (k + 1)) (dep + 1) := by
  obtain ⟨ps, b1, b2, b3, b4, b5, b6⟩ := nice_all xs h
  exact ⟨.list ps, by simp only [D.py, b1], by simp only [PyData.showable, b2], by simp only [PyData.hasDict, b3], by simp only [PyData.depth]; omega, by simp only [PyData.leavesShort, b5], by simp only [PyData.bulk]; exact b6⟩
theorem repr_lst {xs : List D} {k dep : Nat} (h : Nice (.lst xs) k dep) (hk : k ≤ 1000000) (hd : dep ≤ 60) : ∃ s : Str, ∀ S, fRepr S [.lst xs] = .ok (.str s) S := by
  obtain ⟨p, a1, a2, a3, a4, a5, a6⟩ := h
  refine ⟨p.shown, fun S => ?_⟩
  have e : toPy S (.lst xs) = some p := a1
  have hs : p.shown.length ≤ 16777216 := by
    have := PyData.shown_fits_bulk (B := 13) (by decide) (by decide) a5 (Nat.le_trans a6 (Nat.le_trans hk (by decide)))
    rw [sizeLine_eq] at this
    exact this
  unfold fRepr
  simp only [e, a2, a3, decide_eq_true (Nat.le_trans a4 hd), decide_eq_true hs, Bool.not_false, Bool.and_self, if_true]
end K16

namespace K16
open PySem PySem.Spec PyProof.Rows L2 Ev
/-! ### units -/
theorem nc_r (r : Int × Int) (h : (-60 ≤ r.1 ∧ r.1 ≤ 60) ∧ 0 ≤ r.2 ∧ r.2 ≤ 9) : Nc (rD r) 2 1 := by
  refine nc_tup (k := 0) (dep := 0) fun d hd => ?_
  have hd : d = .int r.1 ∨ d = .int r.2 := by simpa using hd
  rcases hd with rfl | rfl
  · exact nc_int (by omega)
  · exact nc_int (by omega)
theorem nc_b {b : Bd} (h : Bok b) : Nc (bD b) 100 3 := by
  refine Nc.mono (nc_tup (k := 20) (dep := 2) fun d hd => ?_) (by show 2 * (20 + 1) ≤ 100; decide) (Nat.le_refl _)
  have hd : d = .tup (b.1.map rD) ∨ d = .int b.2 := by simpa using hd
  rcases hd with rfl | rfl
  · refine Nc.mono (nc_tup (k := 2) (dep := 1) fun d hd => ?_) ?_ (Nat.le_refl _)
    · obtain ⟨r, hr, rfl⟩ := List.mem_map.mp hd
      exact nc_r r (h.at_ r hr)
    · rw [List.length_map]
      have := h.few.2
      omega
  · exact (nc_int (by have := h.most; omega)).mono (by decide) (by decide)
theorem nc_g {gr : List Bd} (h : Gok gr) : Nc (gD gr) 400 4 := by
  refine Nc.mono (nc_tup (k := 100) (dep := 3) fun d hd => ?_) ?_ (Nat.le_refl _)
  · obtain ⟨b, hb, rfl⟩ := List.mem_map.mp hd
    exact nc_b (h.all b hb)
  · rw [List.length_map]
    have := h.few.2
    omega
def uD (gr : List Bd) (w : Int) : D := .tup (gr.map fun b => .int (unitsF b.1 w))
def rowD (gr : List Bd) : D := .lst ((List.range 121).map fun (i : Nat) => uD gr (-60 + (i : Nat)))
theorem need_warmth_ok (S : Sto) (w : Int) (h : -60 ≤ w ∧ w ≤ 60) : F_need_warmth S [.int w] = .ok .non S := by
  unfold F_need_warmth m_need_warmth
  refine of_wp ?_
  simp (disch := first | assumption | omega | (simp only [List.length_map, List.length_append, List.length_range, List.length_zip, List.length_drop, List.length_reverse, Int.reduceToNat, Bool.and_self, List.length_cons, List.length_nil, List.length_range] <;> omega) | fail) only [↓wp_bind, wp_bind, wp_ok, LTurn, LTook, runF, outF, inits, mSeq, mSet, mRet, mBin, mVar, mC, mIte, mTst, mB, mCons, mNil, mSkip, mAsg, mDrop, mPar, mPar3, mIf, mNotT, mAndT, mOrT, mNotV, mAndV, mOrV, mLst, mLstA, mTup, mFor, mIt, asI, asIL, mYes, mSl, mO, mO0, mNeg, mRng1, mRng2, mChain, mComp, mkL, wipeD, mZip, mEnum, mEnumT, mIsi, gN, gT, gCons', gNil', List.map_cons, List.map_nil, List.length_cons, List.length_nil, List.length_map, List.length_append, List.length_range, List.length_zip, List.length_drop, List.length_reverse, Int.reduceToNat, Bool.and_self, List.map_append, List.replicate, List.cons_append, List.nil_append, List.getElem?_cons_zero, List.getElem?_cons_succ, List.set_cons_zero, List.set_cons_succ, Res.bind_ok, Res.bind_bad, Nat.reduceAdd, Nat.reduceSub, Nat.reduceLeDiff, Int.cast_ofNat_Int, Int.natCast_add, Int.reduceNeg, Int.reduceSub, Int.reduceAdd, Int.reduceEq, Int.reduceLT, Int.reduceLE, reduceCtorEq, reduceIte, if_true, if_false, if_lim, decide_true, decide_false, Bool.not_true, Bool.not_false, Bool.false_eq_true, argN1, argN2, argN3, argN4, argN5, fMulA_ok, fMod_ok, fDiv_ok, fAdd_ok, fSub_ok, fGt_ok, fLt_ok, fLe_ok, fGe_ok, eqI_ok, neI_ok, eqS_ok, neS_ok, lenT_ok, lenL_ok, lenM_ok, ixT0, ixT1, ixT2, ixW0, ixW1, ixL0, ixL1, ixL2, ixT_last, ixT_mid, ixT_mid2, pick2_ok, pick3_ok, pick4_ok, pick5_ok, if_int, if_str, slT_to, slT_from, slT_from1, slT_to0, slT_fr0, slT_fr1, addT_ok, addL_ok, tupL_ok, anyBl, allBl, neI_nil, eqI_nil, sto_snoc, listT_ref, listT_val, Nat.zero_add, is_warmth_ok S w h]
  exact ⟨(by first | rfl | trivial), (by first | rfl | trivial)⟩
theorem units_by_ok (S : Sto) (gr : List Bd) (w : Int) (h : Gok gr) (hw : -60 ≤ w ∧ w ≤ 60) : noX F_units_by S [gD gr, .int w] = .ok (uD gr w) S := by
  refine noX_ok ?_ (fun c z => by cases z)
  unfold F_units_by m_units_by
  have f2 := h.few.2
  refine of_wp ?_
  simp (disch := first | assumption | omega | (simp only [List.length_map, List.length_append, List.length_range, List.length_zip, List.length_drop, List.length_reverse, Int.reduceToNat, Bool.and_self, List.length_cons, List.length_nil, List.length_range] <;> omega) | fail) only [↓wp_bind, wp_bind, wp_ok, LTurn, LTook, runF, outF, inits, mSeq, mSet, mRet, mBin, mVar, mC, mIte, mTst, mB, mCons, mNil, mSkip, mAsg, mDrop, mPar, mPar3, mIf, mNotT, mAndT, mOrT, mNotV, mAndV, mOrV, mLst, mLstA, mTup, mFor, mIt, asI, asIL, mYes, mSl, mO, mO0, mNeg, mRng1, mRng2, mChain, mComp, mkL, wipeD, mZip, mEnum, mEnumT, mIsi, gN, gT, gCons', gNil', List.map_cons, List.map_nil, List.length_cons, List.length_nil, List.length_map, List.length_append, List.length_range, List.length_zip, List.length_drop, List.length_reverse, Int.reduceToNat, Bool.and_self, List.map_append, List.replicate, List.cons_append, List.nil_append, List.getElem?_cons_zero, List.getElem?_cons_succ, List.set_cons_zero, List.set_cons_succ, Res.bind_ok, Res.bind_bad, Nat.reduceAdd, Nat.reduceSub, Nat.reduceLeDiff, Int.cast_ofNat_Int, Int.natCast_add, Int.reduceNeg, Int.reduceSub, Int.reduceAdd, Int.reduceEq, Int.reduceLT, Int.reduceLE, reduceCtorEq, reduceIte, if_true, if_false, if_lim, decide_true, decide_false, Bool.not_true, Bool.not_false, Bool.false_eq_true, argN1, argN2, argN3, argN4, argN5, fMulA_ok, fMod_ok, fDiv_ok, fAdd_ok, fSub_ok, fGt_ok, fLt_ok, fLe_ok, fGe_ok, eqI_ok, neI_ok, eqS_ok, neS_ok, lenT_ok, lenL_ok, lenM_ok, ixT0, ixT1, ixT2, ixW0, ixW1, ixL0, ixL1, ixL2, ixT_last, ixT_mid, ixT_mid2, pick2_ok, pick3_ok, pick4_ok, pick5_ok, if_int, if_str, slT_to, slT_from, slT_from1, slT_to0, slT_fr0, slT_fr1, addT_ok, addL_ok, tupL_ok, anyBl, allBl, neI_nil, eqI_nil, sto_snoc, listT_ref, listT_val, Nat.zero_add, mDropX, need_grade_ok S gr h, need_warmth_ok S w hw]
  simp (disch := first | assumption | omega | (simp only [List.length_map, List.length_append, List.length_range, List.length_zip, List.length_drop, List.length_reverse, Int.reduceToNat, Bool.and_self, List.length_cons, List.length_nil, List.length_range] <;> omega) | fail) only [↓wp_bind, wp_bind, wp_ok, LTurn, LTook, runF, outF, inits, mSeq, mSet, mRet, mBin, mVar, mC, mIte, mTst, mB, mCons, mNil, mSkip, mAsg, mDrop, mPar, mPar3, mIf, mNotT, mAndT, mOrT, mNotV, mAndV, mOrV, mLst, mLstA, mTup, mFor, mIt, asI, asIL, mYes, mSl, mO, mO0, mNeg, mRng1, mRng2, mChain, mComp, mkL, wipeD, mZip, mEnum, mEnumT, mIsi, gN, gT, gCons', gNil', List.map_cons, List.map_nil, List.length_cons, List.length_nil, List.length_map, List.length_append, List.length_range, List.length_zip, List.length_drop, List.length_reverse, Int.reduceToNat, Bool.and_self, List.map_append, List.replicate, List.cons_append, List.nil_append, List.getElem?_cons_zero, List.getElem?_cons_succ, List.set_cons_zero, List.set_cons_succ, Res.bind_ok, Res.bind_bad, Nat.reduceAdd, Nat.reduceSub, Nat.reduceLeDiff, Int.cast_ofNat_Int, Int.natCast_add, Int.reduceNeg, Int.reduceSub, Int.reduceAdd, Int.reduceEq, Int.reduceLT, Int.reduceLE, reduceCtorEq, reduceIte, if_true, if_false, if_lim, decide_true, decide_false, Bool.not_true, Bool.not_false, Bool.false_eq_true, argN1, argN2, argN3, argN4, argN5, fMulA_ok, fMod_ok, fDiv_ok, fAdd_ok, fSub_ok, fGt_ok, fLt_ok, fLe_ok, fGe_ok, eqI_ok, neI_ok, eqS_ok, neS_ok, lenT_ok, lenL_ok, lenM_ok, ixT0, ixT1, ixT2, ixW0, ixW1, ixL0, ixL1, ixL2, ixT_last, ixT_mid, ixT_mid2, pick2_ok, pick3_ok, pick4_ok, pick5_ok, if_int, if_str, slT_to, slT_from, slT_from1, slT_to0, slT_fr0, slT_fr1, addT_ok, addL_ok, tupL_ok, anyBl, allBl, neI_nil, eqI_nil, sto_snoc, listT_ref, listT_val, Nat.zero_add, gD]
  rw [comp_map (h := fun b => .int (unitsF b.1 w)) gr fun b hb => ⟨_, rfl, rfl, by simp (disch := first | assumption | omega | (simp only [List.length_map, List.length_append, List.length_range, List.length_zip, List.length_drop, List.length_reverse, Int.reduceToNat, Bool.and_self, List.length_cons, List.length_nil, List.length_range] <;> omega) | fail) only [↓wp_bind, wp_bind, wp_ok, LTurn, LTook, runF, outF, inits, mSeq, mSet, mRet, mBin, mVar, mC, mIte, mTst, mB, mCons, mNil, mSkip, mAsg, mDrop, mPar, mPar3, mIf, mNotT, mAndT, mOrT, mNotV, mAndV, mOrV, mLst, mLstA, mTup, mFor, mIt, asI, asIL, mYes, mSl, mO, mO0, mNeg, mRng1, mRng2, mChain, mComp, mkL, wipeD, mZip, mEnum, mEnumT, mIsi, gN, gT, gCons', gNil', List.map_cons, List.map_nil, List.length_cons, List.length_nil, List.length_map, List.length_append, List.length_range, List.length_zip, List.length_drop, List.length_reverse, Int.reduceToNat, Bool.and_self, List.map_append, List.replicate, List.cons_append, List.nil_append, List.getElem?_cons_zero, List.getElem?_cons_succ, List.set_cons_zero, List.set_cons_succ, Res.bind_ok, Res.bind_bad, Nat.reduceAdd, Nat.reduceSub, Nat.reduceLeDiff, Int.cast_ofNat_Int, Int.natCast_add, Int.reduceNeg, Int.reduceSub, Int.reduceAdd, Int.reduceEq, Int.reduceLT, Int.reduceLE, reduceCtorEq, reduceIte, if_true, if_false, if_lim, decide_true, decide_false, Bool.not_true, Bool.not_false, Bool.false_eq_true, argN1, argN2, argN3, argN4, argN5, fMulA_ok, fMod_ok, fDiv_ok, fAdd_ok, fSub_ok, fGt_ok, fLt_ok, fLe_ok, fGe_ok, eqI_ok, neI_ok, eqS_ok, neS_ok, lenT_ok, lenL_ok, lenM_ok, ixT0, ixT1, ixT2, ixW0, ixW1, ixL0, ixL1, ixL2, ixT_last, ixT_mid, ixT_mid2, pick2_ok, pick3_ok, pick4_ok, pick5_ok, if_int, if_str, slT_to, slT_from, slT_from1, slT_to0, slT_fr0, slT_fr1, addT_ok, addL_ok, tupL_ok, anyBl, allBl, neI_nil, eqI_nil, sto_snoc, listT_ref, listT_val, Nat.zero_add]; exact units_of_ok S b w⟩]
  simp (disch := first | assumption | omega | (simp only [List.length_map, List.length_append, List.length_range, List.length_zip, List.length_drop, List.length_reverse, Int.reduceToNat, Bool.and_self, List.length_cons, List.length_nil, List.length_range] <;> omega) | fail) only [↓wp_bind, wp_bind, wp_ok, LTurn, LTook, runF, outF, inits, mSeq, mSet, mRet, mBin, mVar, mC, mIte, mTst, mB, mCons, mNil, mSkip, mAsg, mDrop, mPar, mPar3, mIf, mNotT, mAndT, mOrT, mNotV, mAndV, mOrV, mLst, mLstA, mTup, mFor, mIt, asI, asIL, mYes, mSl, mO, mO0, mNeg, mRng1, mRng2, mChain, mComp, mkL, wipeD, mZip, mEnum, mEnumT, mIsi, gN, gT, gCons', gNil', List.map_cons, List.map_nil, List.length_cons, List.length_nil, List.length_map, List.length_append, List.length_range, List.length_zip, List.length_drop, List.length_reverse, Int.reduceToNat, Bool.and_self, List.map_append, List.replicate, List.cons_append, List.nil_append, List.getElem?_cons_zero, List.getElem?_cons_succ, List.set_cons_zero, List.set_cons_succ, Res.bind_ok, Res.bind_bad, Nat.reduceAdd, Nat.reduceSub, Nat.reduceLeDiff, Int.cast_ofNat_Int, Int.natCast_add, Int.reduceNeg, Int.reduceSub, Int.reduceAdd, Int.reduceEq, Int.reduceLT, Int.reduceLE, reduceCtorEq, reduceIte, if_true, if_false, if_lim, decide_true, decide_false, Bool.not_true, Bool.not_false, Bool.false_eq_true, argN1, argN2, argN3, argN4, argN5, fMulA_ok, fMod_ok, fDiv_ok, fAdd_ok, fSub_ok, fGt_ok, fLt_ok, fLe_ok, fGe_ok, eqI_ok, neI_ok, eqS_ok, neS_ok, lenT_ok, lenL_ok, lenM_ok, ixT0, ixT1, ixT2, ixW0, ixW1, ixL0, ixL1, ixL2, ixT_last, ixT_mid, ixT_mid2, pick2_ok, pick3_ok, pick4_ok, pick5_ok, if_int, if_str, slT_to, slT_from, slT_from1, slT_to0, slT_fr0, slT_fr1, addT_ok, addL_ok, tupL_ok, anyBl, allBl, neI_nil, eqI_nil, sto_snoc, listT_ref, listT_val, Nat.zero_add]
  exact ⟨(by first | rfl | trivial), (by first | rfl | trivial)⟩
theorem row_ok (S : Sto) (gr : List Bd) (h : Gok gr) : F__law_row S [gD gr] = .ok (rowD gr) S := by
  unfold F__law_row m__law_row
  refine of_wp ?_
  simp (disch := first | assumption | omega | (simp only [List.length_map, List.length_append, List.length_range, List.length_zip, List.length_drop, List.length_reverse, Int.reduceToNat, Bool.and_self, List.length_cons, List.length_nil, List.length_range] <;> omega) | fail) only [↓wp_bind, wp_bind, wp_ok, LTurn, LTook, runF, outF, inits, mSeq, mSet, mRet, mBin, mVar, mC, mIte, mTst, mB, mCons, mNil, mSkip, mAsg, mDrop, mPar, mPar3, mIf, mNotT, mAndT, mOrT, mNotV, mAndV, mOrV, mLst, mLstA, mTup, mFor, mIt, asI, asIL, mYes, mSl, mO, mO0, mNeg, mRng1, mRng2, mChain, mComp, mkL, wipeD, mZip, mEnum, mEnumT, mIsi, gN, gT, gCons', gNil', List.map_cons, List.map_nil, List.length_cons, List.length_nil, List.length_map, List.length_append, List.length_range, List.length_zip, List.length_drop, List.length_reverse, Int.reduceToNat, Bool.and_self, List.map_append, List.replicate, List.cons_append, List.nil_append, List.getElem?_cons_zero, List.getElem?_cons_succ, List.set_cons_zero, List.set_cons_succ, Res.bind_ok, Res.bind_bad, Nat.reduceAdd, Nat.reduceSub, Nat.reduceLeDiff, Int.cast_ofNat_Int, Int.natCast_add, Int.reduceNeg, Int.reduceSub, Int.reduceAdd, Int.reduceEq, Int.reduceLT, Int.reduceLE, reduceCtorEq, reduceIte, if_true, if_false, if_lim, decide_true, decide_false, Bool.not_true, Bool.not_false, Bool.false_eq_true, argN1, argN2, argN3, argN4, argN5, fMulA_ok, fMod_ok, fDiv_ok, fAdd_ok, fSub_ok, fGt_ok, fLt_ok, fLe_ok, fGe_ok, eqI_ok, neI_ok, eqS_ok, neS_ok, lenT_ok, lenL_ok, lenM_ok, ixT0, ixT1, ixT2, ixW0, ixW1, ixL0, ixL1, ixL2, ixT_last, ixT_mid, ixT_mid2, pick2_ok, pick3_ok, pick4_ok, pick5_ok, if_int, if_str, slT_to, slT_from, slT_from1, slT_to0, slT_fr0, slT_fr1, addT_ok, addL_ok, tupL_ok, anyBl, allBl, neI_nil, eqI_nil, sto_snoc, listT_ref, listT_val, Nat.zero_add, rngOk_ok]
  rw [comp_map (h := fun (i : Nat) => uD gr (-60 + (i : Nat))) (List.range 121) fun i hi => ⟨_, rfl, rfl, by
    have hi := List.mem_range.mp hi
    simp (disch := first | assumption | omega | (simp only [List.length_map, List.length_append, List.length_range, List.length_zip, List.length_drop, List.length_reverse, Int.reduceToNat, Bool.and_self, List.length_cons, List.length_nil, List.length_range] <;> omega) | fail) only [↓wp_bind, wp_bind, wp_ok, LTurn, LTook, runF, outF, inits, mSeq, mSet, mRet, mBin, mVar, mC, mIte, mTst, mB, mCons, mNil, mSkip, mAsg, mDrop, mPar, mPar3, mIf, mNotT, mAndT, mOrT, mNotV, mAndV, mOrV, mLst, mLstA, mTup, mFor, mIt, asI, asIL, mYes, mSl, mO, mO0, mNeg, mRng1, mRng2, mChain, mComp, mkL, wipeD, mZip, mEnum, mEnumT, mIsi, gN, gT, gCons', gNil', List.map_cons, List.map_nil, List.length_cons, List.length_nil, List.length_map, List.length_append, List.length_range, List.length_zip, List.length_drop, List.length_reverse, Int.reduceToNat, Bool.and_self, List.map_append, List.replicate, List.cons_append, List.nil_append, List.getElem?_cons_zero, List.getElem?_cons_succ, List.set_cons_zero, List.set_cons_succ, Res.bind_ok, Res.bind_bad, Nat.reduceAdd, Nat.reduceSub, Nat.reduceLeDiff, Int.cast_ofNat_Int, Int.natCast_add, Int.reduceNeg, Int.reduceSub, Int.reduceAdd, Int.reduceEq, Int.reduceLT, Int.reduceLE, reduceCtorEq, reduceIte, if_true, if_false, if_lim, decide_true, decide_false, Bool.not_true, Bool.not_false, Bool.false_eq_true, argN1, argN2, argN3, argN4, argN5, fMulA_ok, fMod_ok, fDiv_ok, fAdd_ok, fSub_ok, fGt_ok, fLt_ok, fLe_ok, fGe_ok, eqI_ok, neI_ok, eqS_ok, neS_ok, lenT_ok, lenL_ok, lenM_ok, ixT0, ixT1, ixT2, ixW0, ixW1, ixL0, ixL1, ixL2, ixT_last, ixT_mid, ixT_mid2, pick2_ok, pick3_ok, pick4_ok, pick5_ok, if_int, if_str, slT_to, slT_from, slT_from1, slT_to0, slT_fr0, slT_fr1, addT_ok, addL_ok, tupL_ok, anyBl, allBl, neI_nil, eqI_nil, sto_snoc, listT_ref, listT_val, Nat.zero_add]; exact units_by_ok S gr _ h (by omega)⟩]
  simp (disch := first | assumption | omega | (simp only [List.length_map, List.length_append, List.length_range, List.length_zip, List.length_drop, List.length_reverse, Int.reduceToNat, Bool.and_self, List.length_cons, List.length_nil, List.length_range] <;> omega) | fail) only [↓wp_bind, wp_bind, wp_ok, LTurn, LTook, runF, outF, inits, mSeq, mSet, mRet, mBin, mVar, mC, mIte, mTst, mB, mCons, mNil, mSkip, mAsg, mDrop, mPar, mPar3, mIf, mNotT, mAndT, mOrT, mNotV, mAndV, mOrV, mLst, mLstA, mTup, mFor, mIt, asI, asIL, mYes, mSl, mO, mO0, mNeg, mRng1, mRng2, mChain, mComp, mkL, wipeD, mZip, mEnum, mEnumT, mIsi, gN, gT, gCons', gNil', List.map_cons, List.map_nil, List.length_cons, List.length_nil, List.length_map, List.length_append, List.length_range, List.length_zip, List.length_drop, List.length_reverse, Int.reduceToNat, Bool.and_self, List.map_append, List.replicate, List.cons_append, List.nil_append, List.getElem?_cons_zero, List.getElem?_cons_succ, List.set_cons_zero, List.set_cons_succ, Res.bind_ok, Res.bind_bad, Nat.reduceAdd, Nat.reduceSub, Nat.reduceLeDiff, Int.cast_ofNat_Int, Int.natCast_add, Int.reduceNeg, Int.reduceSub, Int.reduceAdd, Int.reduceEq, Int.reduceLT, Int.reduceLE, reduceCtorEq, reduceIte, if_true, if_false, if_lim, decide_true, decide_false, Bool.not_true, Bool.not_false, Bool.false_eq_true, argN1, argN2, argN3, argN4, argN5, fMulA_ok, fMod_ok, fDiv_ok, fAdd_ok, fSub_ok, fGt_ok, fLt_ok, fLe_ok, fGe_ok, eqI_ok, neI_ok, eqS_ok, neS_ok, lenT_ok, lenL_ok, lenM_ok, ixT0, ixT1, ixT2, ixW0, ixW1, ixL0, ixL1, ixL2, ixT_last, ixT_mid, ixT_mid2, pick2_ok, pick3_ok, pick4_ok, pick5_ok, if_int, if_str, slT_to, slT_from, slT_from1, slT_to0, slT_fr0, slT_fr1, addT_ok, addL_ok, tupL_ok, anyBl, allBl, neI_nil, eqI_nil, sto_snoc, listT_ref, listT_val, Nat.zero_add]
  exact ⟨(by first | rfl | trivial), (by first | rfl | trivial)⟩
theorem nc_u {gr : List Bd} (h : Gok gr) (w : Int) : Nc (uD gr w) 3 1 := by
  refine nc_tupN (k := 0) (dep := 0) (n := 3) (fun d hd => ?_) (by rw [List.length_map]; exact h.few.2)
  obtain ⟨b, hb, rfl⟩ := List.mem_map.mp hd
  have := unitsF_in (h.all b hb) w
  exact nc_int (by omega)
theorem nc_row {gr : List Bd} (h : Gok gr) : Nc (rowD gr) 484 2 := by
  refine nc_lstN (k := 3) (dep := 1) (n := 121) (fun d hd => ?_) (by rw [List.length_map, List.length_range]; exact Nat.le_refl _)
  obtain ⟨i, hi, rfl⟩ := List.mem_map.mp hd
  exact nc_u h _
theorem row_ix (S : Sto) (gr : List Bd) {i : Int} (h0 : 0 ≤ i) (h1 : i < 121) : fIx S (rowD gr) (.int i) = .ok (uD gr (i - 60)) S := by
  unfold rowD
  rw [ixL_rng h0 h1]
  have : -60 + ((i.toNat : Nat) : Int) = i - 60 := by omega
  rw [this]
/-! ### of rates that are not less -/
theorem unitsF_skip (w : Int) (A : List (Int × Int)) : ∀ C : List (Int × Int), (∀ r ∈ C, ¬ r.1 < w) → unitsF (A ++ C) w = unitsF A w := by
  intro C hC
  show (A ++ C).foldl _ 0 = _
  rw [List.foldl_append]
  have gen : ∀ (C : List (Int × Int)) (f : Int), (∀ r ∈ C, ¬ r.1 < w) → C.foldl (fun found r => if r.1 < w then r.2 else found) f = f := by
    intro C
    induction C with
    | nil => exact fun f _ => rfl
    | cons r C ih =>
      intro f h
      rw [List.foldl_cons, if_neg (h r (by simp))]
      exact ih f fun x hx => h x (by simp [hx])
  exact gen C _ hC
theorem unitsF_snoc (w : Int) (A : List (Int × Int)) (p : Int × Int) (h : p.1 < w) : unitsF (A ++ [p]) w = p.2 := by
  show (A ++ [p]).foldl _ 0 = _
  rw [List.foldl_append]
  show (if p.1 < w then p.2 else _) = _
  rw [if_pos h]
theorem unitsF_at (w : Int) (A B : List (Int × Int)) (p : Int × Int) (h : p.1 < w) (hB : ∀ r ∈ B, ¬ r.1 < w) : unitsF (A ++ p :: B) w = p.2 := by
  rw [show A ++ p :: B = (A ++ [p]) ++ B by simp, unitsF_skip w _ B hB, unitsF_snoc w A p h]
theorem unitsF_congr {w w' : Int} : ∀ (C : List (Int × Int)), (∀ r ∈ C, (r.1 < w ↔ r.1 < w')) → unitsF C w = unitsF C w' := by
  intro C h
  unfold unitsF
  have gen : ∀ (C : List (Int × Int)) (f : Int), (∀ r ∈ C, (r.1 < w ↔ r.1 < w')) → C.foldl (fun found r => if r.1 < w then r.2 else found) f = C.foldl (fun found r => if r.1 < w' then r.2 else found) f := by
    intro C
    induction C with
    | nil => exact fun f _ => rfl
    | cons r C ih =>
      intro f h
      rw [List.foldl_cons, List.foldl_cons, ih _ fun x hx => h x (by simp [hx])]
      have := h r (by simp)
      by_cases hr : r.1 < w
      · rw [if_pos hr, if_pos (this.mp hr)]
      · rw [if_neg hr, if_neg fun z => hr (this.mpr z)]
  exact gen C 0 h
theorem rise_iff {A B : List (Int × Int)} {r : Int × Int} {m : Int} (h : Bok (A ++ r :: B, m)) : (∀ x ∈ A, x.1 < r.1) ∧ ∀ x ∈ B, r.1 < x.1 := by
  have q : ((A ++ r :: B).map (·.1)).Pairwise (· < ·) := h.rise
  rw [List.map_append, List.map_cons, List.pairwise_append, List.pairwise_cons] at q
  exact ⟨fun x hx => q.2.2 x.1 (List.mem_map.mpr ⟨x, hx, rfl⟩) r.1 (by simp), fun x hx => q.2.1.1 x.1 (List.mem_map.mpr ⟨x, hx, rfl⟩)⟩
end K16

namespace K16
open PySem PySem.Spec PyProof.Rows L2 Ev
theorem units_ok (S : Sto) (b : Bd) (w : Int) (h : Bok b) (hw : -60 ≤ w ∧ w ≤ 60) : noX F_units S [bD b, .int w] = .ok (.int (unitsF b.1 w)) S := by
  refine noX_ok ?_ (fun c z => by cases z)
  unfold F_units m_units
  refine of_wp ?_
  simp (disch := first | assumption | omega | (simp only [List.length_map, List.length_append, List.length_range, List.length_zip, List.length_drop, List.length_reverse, Int.reduceToNat, Bool.and_self, List.length_cons, List.length_nil, List.length_range] <;> omega) | fail) only [↓wp_bind, wp_bind, wp_ok, LTurn, LTook, runF, outF, inits, mSeq, mSet, mRet, mBin, mVar, mC, mIte, mTst, mB, mCons, mNil, mSkip, mAsg, mDrop, mPar, mPar3, mIf, mNotT, mAndT, mOrT, mNotV, mAndV, mOrV, mLst, mLstA, mTup, mFor, mIt, asI, asIL, mYes, mSl, mO, mO0, mNeg, mRng1, mRng2, mChain, mComp, mkL, wipeD, mZip, mEnum, mEnumT, mIsi, gN, gT, gCons', gNil', List.map_cons, List.map_nil, List.length_cons, List.length_nil, List.length_map, List.length_append, List.length_range, List.length_zip, List.length_drop, List.length_reverse, Int.reduceToNat, Bool.and_self, List.map_append, List.replicate, List.cons_append, List.nil_append, List.getElem?_cons_zero, List.getElem?_cons_succ, List.set_cons_zero, List.set_cons_succ, Res.bind_ok, Res.bind_bad, Nat.reduceAdd, Nat.reduceSub, Nat.reduceLeDiff, Int.cast_ofNat_Int, Int.natCast_add, Int.reduceNeg, Int.reduceSub, Int.reduceAdd, Int.reduceEq, Int.reduceLT, Int.reduceLE, reduceCtorEq, reduceIte, if_true, if_false, if_lim, decide_true, decide_false, Bool.not_true, Bool.not_false, Bool.false_eq_true, argN1, argN2, argN3, argN4, argN5, fMulA_ok, fMod_ok, fDiv_ok, fAdd_ok, fSub_ok, fGt_ok, fLt_ok, fLe_ok, fGe_ok, eqI_ok, neI_ok, eqS_ok, neS_ok, lenT_ok, lenL_ok, lenM_ok, ixT0, ixT1, ixT2, ixW0, ixW1, ixL0, ixL1, ixL2, ixT_last, ixT_mid, ixT_mid2, pick2_ok, pick3_ok, pick4_ok, pick5_ok, if_int, if_str, slT_to, slT_from, slT_from1, slT_to0, slT_fr0, slT_fr1, addT_ok, addL_ok, tupL_ok, anyBl, allBl, neI_nil, eqI_nil, sto_snoc, listT_ref, listT_val, Nat.zero_add, mDropX, is_budget_ok S b h, need_warmth_ok S w hw, units_of_ok S b w]
  exact ⟨(by first | rfl | trivial), (by first | rfl | trivial)⟩
def ownD (b : Bd) : D := .lst ((List.range 121).map fun (i : Nat) => D.int (unitsF b.1 (-60 + (i : Nat))))
theorem own_ix (S : Sto) (b : Bd) {i : Int} (h0 : 0 ≤ i) (h1 : i < 121) : fIx S (ownD b) (.int i) = .ok (.int (unitsF b.1 (i - 60))) S := by
  unfold ownD
  rw [ixL_rng h0 h1]
  have : -60 + ((i.toNat : Nat) : Int) = i - 60 := by omega
  rw [this]
theorem nc_own {b : Bd} (h : Bok b) : Nc (ownD b) 121 1 := by
  refine nc_lstN (k := 0) (dep := 0) (n := 121) (fun d hd => ?_) (by rw [List.length_map, List.length_range]; exact Nat.le_refl _)
  obtain ⟨i, hi, rfl⟩ := List.mem_map.mp hd
  have := unitsF_in h (-60 + (i : Nat))
  exact nc_int (by omega)
theorem own_comp (S : Sto) (b : Bd) (h : Bok b) (n i j : Nat) (sl : Sl) (hs : ∀ d, (sl.set j (some d))[j]? = some (some d)) (hi : ∀ d, (sl.set j (some d))[i]? = some (some (bD b))) :
    compD (gN j) mYes (mB (argN 2 (noX F_units)) (mCons (mVar i) (mCons (mVar j) mNil))) ((List.range 121).map fun (k : Nat) => D.int (-60 + (k : Nat))) sl S = .ok ((List.range 121).map fun (i : Nat) => D.int (unitsF b.1 (-60 + (i : Nat)))) S := by
  refine comp_map (h := fun (i : Nat) => D.int (unitsF b.1 (-60 + (i : Nat)))) (List.range 121) fun k hk => ⟨sl.set j (some (.int (-60 + (k : Nat)))), rfl, rfl, ?_⟩
  have hk := List.mem_range.mp hk
  simp (disch := first | assumption | omega | (simp only [List.length_map, List.length_append, List.length_range, List.length_zip, List.length_drop, List.length_reverse, Int.reduceToNat, Bool.and_self, List.length_cons, List.length_nil, List.length_range] <;> omega) | fail) only [↓wp_bind, wp_bind, wp_ok, LTurn, LTook, runF, outF, inits, mSeq, mSet, mRet, mBin, mVar, mC, mIte, mTst, mB, mCons, mNil, mSkip, mAsg, mDrop, mPar, mPar3, mIf, mNotT, mAndT, mOrT, mNotV, mAndV, mOrV, mLst, mLstA, mTup, mFor, mIt, asI, asIL, mYes, mSl, mO, mO0, mNeg, mRng1, mRng2, mChain, mComp, mkL, wipeD, mZip, mEnum, mEnumT, mIsi, gN, gT, gCons', gNil', List.map_cons, List.map_nil, List.length_cons, List.length_nil, List.length_map, List.length_append, List.length_range, List.length_zip, List.length_drop, List.length_reverse, Int.reduceToNat, Bool.and_self, List.map_append, List.replicate, List.cons_append, List.nil_append, List.getElem?_cons_zero, List.getElem?_cons_succ, List.set_cons_zero, List.set_cons_succ, Res.bind_ok, Res.bind_bad, Nat.reduceAdd, Nat.reduceSub, Nat.reduceLeDiff, Int.cast_ofNat_Int, Int.natCast_add, Int.reduceNeg, Int.reduceSub, Int.reduceAdd, Int.reduceEq, Int.reduceLT, Int.reduceLE, reduceCtorEq, reduceIte, if_true, if_false, if_lim, decide_true, decide_false, Bool.not_true, Bool.not_false, Bool.false_eq_true, argN1, argN2, argN3, argN4, argN5, fMulA_ok, fMod_ok, fDiv_ok, fAdd_ok, fSub_ok, fGt_ok, fLt_ok, fLe_ok, fGe_ok, eqI_ok, neI_ok, eqS_ok, neS_ok, lenT_ok, lenL_ok, lenM_ok, ixT0, ixT1, ixT2, ixW0, ixW1, ixL0, ixL1, ixL2, ixT_last, ixT_mid, ixT_mid2, pick2_ok, pick3_ok, pick4_ok, pick5_ok, if_int, if_str, slT_to, slT_from, slT_from1, slT_to0, slT_fr0, slT_fr1, addT_ok, addL_ok, tupL_ok, anyBl, allBl, neI_nil, eqI_nil, sto_snoc, listT_ref, listT_val, Nat.zero_add, hs, hi]
  exact units_ok S b _ h (by omega)
theorem pairs_gen {ι : Type} {kf : ι → Int} {vf : ι → D} : ∀ xs : List ι, pairsD (xs.map fun x => .tup [.int (kf x), vf x]) = some (xs.map fun x => .inl (kf x), xs.map vf)
  | [] => rfl
  | x :: xs => by
    show (match keyD (.int (kf x)) with | some k => (match pairsD (xs.map fun x => .tup [.int (kf x), vf x]) with | some q => some (k :: q.1, vf x :: q.2) | none => none) | none => none) = _
    rw [pairs_gen xs]
    rfl
/-- the units of the one ahead -/
def prv (rs : List (Int × Int)) (k : Nat) : Int := (((0, 0) :: rs).getD k (0, 0)).2
def bhD (p : (Int × Int) × Nat) (rs : List (Int × Int)) : D := .tup [.int (prv rs p.2), .int p.1.2]
theorem zip_split {rs : List (Int × Int)} {r : Int × Int} {k : Nat} (h : (r, k) ∈ rs.zipIdx) : ∃ A B, rs = A ++ r :: B ∧ k = A.length := by
  have h := List.mk_mem_zipIdx_iff_getElem?.mp h
  obtain ⟨hk, e⟩ := List.getElem?_eq_some_iff.mp h
  refine ⟨rs.take k, rs.drop (k + 1), ?_, by rw [List.length_take]; omega⟩
  rw [← e, ← List.drop_eq_getElem_cons hk, List.take_append_drop]
theorem steps_plain {b : Bd} (h : Bok b) (w : Int) : match b.1.zipIdx.find? (fun p => decide ((.inl (p.1.1 + 1) : Key) = .inl w)) with
    | some p => unitsF b.1 w = p.1.2 ∧ unitsF b.1 (w - 1) = prv b.1 p.2
    | none => unitsF b.1 w = unitsF b.1 (w - 1) := by
  obtain ⟨rs, mo⟩ := b
  simp only
  cases hf : rs.zipIdx.find? (fun p => decide ((.inl (p.1.1 + 1) : Key) = .inl w)) with
  | none =>
    simp only
    refine unitsF_congr rs fun r hr => ?_
    obtain ⟨i, hi, e⟩ := List.mem_iff_getElem.mp hr
    have := List.find?_eq_none.mp hf (r, i) (List.mk_mem_zipIdx_iff_getElem?.mpr (by rw [List.getElem?_eq_getElem hi, e]))
    have hne : ¬ r.1 + 1 = w := fun z => this (by rw [z]; exact decide_eq_true rfl)
    omega
  | some p =>
    simp only
    have h1 := List.find?_some hf
    have hw : p.1.1 + 1 = w := Sum.inl.inj (of_decide_eq_true h1)
    obtain ⟨A, B, rfl, hk⟩ := zip_split (r := p.1) (k := p.2) (List.mem_of_find?_eq_some hf)
    obtain ⟨hA, hB⟩ := rise_iff h
    refine ⟨unitsF_at w A B p.1 (by omega) (fun r hr => by have := hB r hr; omega), ?_⟩
    rw [unitsF_skip (w - 1) A (p.1 :: B) fun r hr => by
      rcases List.mem_cons.mp hr with rfl | hr
      · omega
      · have := hB r hr
        omega]
    rcases nil_or_snoc A with rfl | ⟨A', q, rfl⟩
    · rw [hk]; rfl
    · have hq := hA q (by simp)
      rw [unitsF_snoc (w - 1) A' q (by omega), hk]
      unfold prv
      rw [List.length_append, List.length_singleton, List.getD_cons_succ, List.getD_eq_getElem?_getD, List.append_assoc, List.getElem?_append_right (Nat.le_refl _), Nat.sub_self]
      rfl
theorem steps_ok (S : Sto) (b : Bd) (h : Bok b) : F__law_steps_right S [bD b] = .ok (.bl true) S := by
  unfold F__law_steps_right m__law_steps_right
  have few := h.few
  refine of_wp ?_
  simp (disch := first | assumption | omega | (simp only [List.length_map, List.length_append, List.length_range, List.length_zip, List.length_drop, List.length_reverse, Int.reduceToNat, Bool.and_self, List.length_cons, List.length_nil, List.length_range] <;> omega) | fail) only [↓wp_bind, wp_bind, wp_ok, LTurn, LTook, runF, outF, inits, mSeq, mSet, mRet, mBin, mVar, mC, mIte, mTst, mB, mCons, mNil, mSkip, mAsg, mDrop, mPar, mPar3, mIf, mNotT, mAndT, mOrT, mNotV, mAndV, mOrV, mLst, mLstA, mTup, mFor, mIt, asI, asIL, mYes, mSl, mO, mO0, mNeg, mRng1, mRng2, mChain, mComp, mkL, wipeD, mZip, mEnum, mEnumT, mIsi, gN, gT, gCons', gNil', List.map_cons, List.map_nil, List.length_cons, List.length_nil, List.length_map, List.length_append, List.length_range, List.length_zip, List.length_drop, List.length_reverse, Int.reduceToNat, Bool.and_self, List.map_append, List.replicate, List.cons_append, List.nil_append, List.getElem?_cons_zero, List.getElem?_cons_succ, List.set_cons_zero, List.set_cons_succ, Res.bind_ok, Res.bind_bad, Nat.reduceAdd, Nat.reduceSub, Nat.reduceLeDiff, Int.cast_ofNat_Int, Int.natCast_add, Int.reduceNeg, Int.reduceSub, Int.reduceAdd, Int.reduceEq, Int.reduceLT, Int.reduceLE, reduceCtorEq, reduceIte, if_true, if_false, if_lim, decide_true, decide_false, Bool.not_true, Bool.not_false, Bool.false_eq_true, argN1, argN2, argN3, argN4, argN5, fMulA_ok, fMod_ok, fDiv_ok, fAdd_ok, fSub_ok, fGt_ok, fLt_ok, fLe_ok, fGe_ok, eqI_ok, neI_ok, eqS_ok, neS_ok, lenT_ok, lenL_ok, lenM_ok, ixT0, ixT1, ixT2, ixW0, ixW1, ixL0, ixL1, ixL2, ixT_last, ixT_mid, ixT_mid2, pick2_ok, pick3_ok, pick4_ok, pick5_ok, if_int, if_str, slT_to, slT_from, slT_from1, slT_to0, slT_fr0, slT_fr1, addT_ok, addL_ok, tupL_ok, anyBl, allBl, neI_nil, eqI_nil, sto_snoc, listT_ref, listT_val, Nat.zero_add, bD, rngOk_ok]
  have oc := fun (sl : Sl) (hs : ∀ d, (sl.set 4 (some d))[4]? = some (some d)) (hi : ∀ d, (sl.set 4 (some d))[0]? = some (some (bD b))) => own_comp S b h 0 0 4 sl hs hi
  rw [oc _ (fun d => rfl) (fun d => rfl)]
  simp (disch := first | assumption | omega | (simp only [List.length_map, List.length_append, List.length_range, List.length_zip, List.length_drop, List.length_reverse, Int.reduceToNat, Bool.and_self, List.length_cons, List.length_nil, List.length_range] <;> omega) | fail) only [↓wp_bind, wp_bind, wp_ok, LTurn, LTook, runF, outF, inits, mSeq, mSet, mRet, mBin, mVar, mC, mIte, mTst, mB, mCons, mNil, mSkip, mAsg, mDrop, mPar, mPar3, mIf, mNotT, mAndT, mOrT, mNotV, mAndV, mOrV, mLst, mLstA, mTup, mFor, mIt, asI, asIL, mYes, mSl, mO, mO0, mNeg, mRng1, mRng2, mChain, mComp, mkL, wipeD, mZip, mEnum, mEnumT, mIsi, gN, gT, gCons', gNil', List.map_cons, List.map_nil, List.length_cons, List.length_nil, List.length_map, List.length_append, List.length_range, List.length_zip, List.length_drop, List.length_reverse, Int.reduceToNat, Bool.and_self, List.map_append, List.replicate, List.cons_append, List.nil_append, List.getElem?_cons_zero, List.getElem?_cons_succ, List.set_cons_zero, List.set_cons_succ, Res.bind_ok, Res.bind_bad, Nat.reduceAdd, Nat.reduceSub, Nat.reduceLeDiff, Int.cast_ofNat_Int, Int.natCast_add, Int.reduceNeg, Int.reduceSub, Int.reduceAdd, Int.reduceEq, Int.reduceLT, Int.reduceLE, reduceCtorEq, reduceIte, if_true, if_false, if_lim, decide_true, decide_false, Bool.not_true, Bool.not_false, Bool.false_eq_true, argN1, argN2, argN3, argN4, argN5, fMulA_ok, fMod_ok, fDiv_ok, fAdd_ok, fSub_ok, fGt_ok, fLt_ok, fLe_ok, fGe_ok, eqI_ok, neI_ok, eqS_ok, neS_ok, lenT_ok, lenL_ok, lenM_ok, ixT0, ixT1, ixT2, ixW0, ixW1, ixL0, ixL1, ixL2, ixT_last, ixT_mid, ixT_mid2, pick2_ok, pick3_ok, pick4_ok, pick5_ok, if_int, if_str, slT_to, slT_from, slT_from1, slT_to0, slT_fr0, slT_fr1, addT_ok, addL_ok, tupL_ok, anyBl, allBl, neI_nil, eqI_nil, sto_snoc, listT_ref, listT_val, Nat.zero_add, Ev.enum_zip]
  rw [comp_map (h := fun p : (Int × Int) × Nat => .tup [.int (p.1.1 + 1), bhD p b.1]) b.1.zipIdx fun p hp => ⟨_, rfl, rfl, by
    obtain ⟨A, B, e, hk⟩ := zip_split (r := p.1) (k := p.2) hp
    have hl : b.1.length = A.length + (B.length + 1) := by rw [e, List.length_append, List.length_cons]
    have e1 : ∀ S : Sto, fIx S (.lst (.tup [.int 0, .int 0] :: b.1.map rD)) (.int (p.2 : Nat)) = .ok (rD (((0, 0) :: b.1).getD p.2 (0, 0))) S := fun S => ixL_get (xs := (0, 0) :: b.1) (f := rD) (by omega) (by
      rw [Int.toNat_natCast, List.getD_eq_getElem?_getD, List.getElem?_eq_getElem (by rw [List.length_cons]; omega)]
      rfl)
    have e2 : ∀ S : Sto, fIx S (.tup (b.1.map rD)) (.int (p.2 : Nat)) = .ok (rD p.1) S := fun S => ixT_get (by omega) (by rw [Int.toNat_natCast]; exact List.mk_mem_zipIdx_iff_getElem?.mp hp)
    simp (disch := first | assumption | omega | (simp only [List.length_map, List.length_append, List.length_range, List.length_zip, List.length_drop, List.length_reverse, Int.reduceToNat, Bool.and_self, List.length_cons, List.length_nil, List.length_range] <;> omega) | fail) only [↓wp_bind, wp_bind, wp_ok, LTurn, LTook, runF, outF, inits, mSeq, mSet, mRet, mBin, mVar, mC, mIte, mTst, mB, mCons, mNil, mSkip, mAsg, mDrop, mPar, mPar3, mIf, mNotT, mAndT, mOrT, mNotV, mAndV, mOrV, mLst, mLstA, mTup, mFor, mIt, asI, asIL, mYes, mSl, mO, mO0, mNeg, mRng1, mRng2, mChain, mComp, mkL, wipeD, mZip, mEnum, mEnumT, mIsi, gN, gT, gCons', gNil', List.map_cons, List.map_nil, List.length_cons, List.length_nil, List.length_map, List.length_append, List.length_range, List.length_zip, List.length_drop, List.length_reverse, Int.reduceToNat, Bool.and_self, List.map_append, List.replicate, List.cons_append, List.nil_append, List.getElem?_cons_zero, List.getElem?_cons_succ, List.set_cons_zero, List.set_cons_succ, Res.bind_ok, Res.bind_bad, Nat.reduceAdd, Nat.reduceSub, Nat.reduceLeDiff, Int.cast_ofNat_Int, Int.natCast_add, Int.reduceNeg, Int.reduceSub, Int.reduceAdd, Int.reduceEq, Int.reduceLT, Int.reduceLE, reduceCtorEq, reduceIte, if_true, if_false, if_lim, decide_true, decide_false, Bool.not_true, Bool.not_false, Bool.false_eq_true, argN1, argN2, argN3, argN4, argN5, fMulA_ok, fMod_ok, fDiv_ok, fAdd_ok, fSub_ok, fGt_ok, fLt_ok, fLe_ok, fGe_ok, eqI_ok, neI_ok, eqS_ok, neS_ok, lenT_ok, lenL_ok, lenM_ok, ixT0, ixT1, ixT2, ixW0, ixW1, ixL0, ixL1, ixL2, ixT_last, ixT_mid, ixT_mid2, pick2_ok, pick3_ok, pick4_ok, pick5_ok, if_int, if_str, slT_to, slT_from, slT_from1, slT_to0, slT_fr0, slT_fr1, addT_ok, addL_ok, tupL_ok, anyBl, allBl, neI_nil, eqI_nil, sto_snoc, listT_ref, listT_val, Nat.zero_add, e1, e2]
    simp (disch := first | assumption | omega | (simp only [List.length_map, List.length_append, List.length_range, List.length_zip, List.length_drop, List.length_reverse, Int.reduceToNat, Bool.and_self, List.length_cons, List.length_nil, List.length_range] <;> omega) | fail) only [↓wp_bind, wp_bind, wp_ok, LTurn, LTook, runF, outF, inits, mSeq, mSet, mRet, mBin, mVar, mC, mIte, mTst, mB, mCons, mNil, mSkip, mAsg, mDrop, mPar, mPar3, mIf, mNotT, mAndT, mOrT, mNotV, mAndV, mOrV, mLst, mLstA, mTup, mFor, mIt, asI, asIL, mYes, mSl, mO, mO0, mNeg, mRng1, mRng2, mChain, mComp, mkL, wipeD, mZip, mEnum, mEnumT, mIsi, gN, gT, gCons', gNil', List.map_cons, List.map_nil, List.length_cons, List.length_nil, List.length_map, List.length_append, List.length_range, List.length_zip, List.length_drop, List.length_reverse, Int.reduceToNat, Bool.and_self, List.map_append, List.replicate, List.cons_append, List.nil_append, List.getElem?_cons_zero, List.getElem?_cons_succ, List.set_cons_zero, List.set_cons_succ, Res.bind_ok, Res.bind_bad, Nat.reduceAdd, Nat.reduceSub, Nat.reduceLeDiff, Int.cast_ofNat_Int, Int.natCast_add, Int.reduceNeg, Int.reduceSub, Int.reduceAdd, Int.reduceEq, Int.reduceLT, Int.reduceLE, reduceCtorEq, reduceIte, if_true, if_false, if_lim, decide_true, decide_false, Bool.not_true, Bool.not_false, Bool.false_eq_true, argN1, argN2, argN3, argN4, argN5, fMulA_ok, fMod_ok, fDiv_ok, fAdd_ok, fSub_ok, fGt_ok, fLt_ok, fLe_ok, fGe_ok, eqI_ok, neI_ok, eqS_ok, neS_ok, lenT_ok, lenL_ok, lenM_ok, ixT0, ixT1, ixT2, ixW0, ixW1, ixL0, ixL1, ixL2, ixT_last, ixT_mid, ixT_mid2, pick2_ok, pick3_ok, pick4_ok, pick5_ok, if_int, if_str, slT_to, slT_from, slT_from1, slT_to0, slT_fr0, slT_fr1, addT_ok, addL_ok, tupL_ok, anyBl, allBl, neI_nil, eqI_nil, sto_snoc, listT_ref, listT_val, Nat.zero_add, rD, e2]
    all_goals rfl⟩]
  have limZ : b.1.zipIdx.length ≤ 16777216 := by rw [List.length_zipIdx]; omega
  simp (disch := first | assumption | omega | (simp only [List.length_map, List.length_append, List.length_range, List.length_zip, List.length_drop, List.length_reverse, Int.reduceToNat, Bool.and_self, List.length_cons, List.length_nil, List.length_range] <;> omega) | fail) only [↓wp_bind, wp_bind, wp_ok, LTurn, LTook, runF, outF, inits, mSeq, mSet, mRet, mBin, mVar, mC, mIte, mTst, mB, mCons, mNil, mSkip, mAsg, mDrop, mPar, mPar3, mIf, mNotT, mAndT, mOrT, mNotV, mAndV, mOrV, mLst, mLstA, mTup, mFor, mIt, asI, asIL, mYes, mSl, mO, mO0, mNeg, mRng1, mRng2, mChain, mComp, mkL, wipeD, mZip, mEnum, mEnumT, mIsi, gN, gT, gCons', gNil', List.map_cons, List.map_nil, List.length_cons, List.length_nil, List.length_map, List.length_append, List.length_range, List.length_zip, List.length_drop, List.length_reverse, Int.reduceToNat, Bool.and_self, List.map_append, List.replicate, List.cons_append, List.nil_append, List.getElem?_cons_zero, List.getElem?_cons_succ, List.set_cons_zero, List.set_cons_succ, Res.bind_ok, Res.bind_bad, Nat.reduceAdd, Nat.reduceSub, Nat.reduceLeDiff, Int.cast_ofNat_Int, Int.natCast_add, Int.reduceNeg, Int.reduceSub, Int.reduceAdd, Int.reduceEq, Int.reduceLT, Int.reduceLE, reduceCtorEq, reduceIte, if_true, if_false, if_lim, decide_true, decide_false, Bool.not_true, Bool.not_false, Bool.false_eq_true, argN1, argN2, argN3, argN4, argN5, fMulA_ok, fMod_ok, fDiv_ok, fAdd_ok, fSub_ok, fGt_ok, fLt_ok, fLe_ok, fGe_ok, eqI_ok, neI_ok, eqS_ok, neS_ok, lenT_ok, lenL_ok, lenM_ok, ixT0, ixT1, ixT2, ixW0, ixW1, ixL0, ixL1, ixL2, ixT_last, ixT_mid, ixT_mid2, pick2_ok, pick3_ok, pick4_ok, pick5_ok, if_int, if_str, slT_to, slT_from, slT_from1, slT_to0, slT_fr0, slT_fr1, addT_ok, addL_ok, tupL_ok, anyBl, allBl, neI_nil, eqI_nil, sto_snoc, listT_ref, listT_val, Nat.zero_add, limZ, fDictT, asLs, asQ, asL, dictD, pairs_gen]
  rw [merge_new _ _ [] [] (by rw [List.length_map, List.length_map]) (by
    rw [List.nil_append, show (b.1.zipIdx.map fun p => (.inl (p.1.1 + 1) : Key)) = (b.1.map (·.1)).map fun x => .inl (x + 1) by
      rw [List.map_map, show (fun p : (Int × Int) × Nat => (.inl (p.1.1 + 1) : Key)) = (fun x : Int × Int => .inl (x.1 + 1)) ∘ Prod.fst from rfl, ← List.map_map, List.zipIdx_map_fst]
      rfl]
    exact List.Pairwise.map _ (fun x y hxy e => by have := Sum.inl.inj e; omega) h.rise)]
  simp (disch := first | assumption | omega | (simp only [List.length_map, List.length_append, List.length_range, List.length_zip, List.length_drop, List.length_reverse, Int.reduceToNat, Bool.and_self, List.length_cons, List.length_nil, List.length_range] <;> omega) | fail) only [↓wp_bind, wp_bind, wp_ok, LTurn, LTook, runF, outF, inits, mSeq, mSet, mRet, mBin, mVar, mC, mIte, mTst, mB, mCons, mNil, mSkip, mAsg, mDrop, mPar, mPar3, mIf, mNotT, mAndT, mOrT, mNotV, mAndV, mOrV, mLst, mLstA, mTup, mFor, mIt, asI, asIL, mYes, mSl, mO, mO0, mNeg, mRng1, mRng2, mChain, mComp, mkL, wipeD, mZip, mEnum, mEnumT, mIsi, gN, gT, gCons', gNil', List.map_cons, List.map_nil, List.length_cons, List.length_nil, List.length_map, List.length_append, List.length_range, List.length_zip, List.length_drop, List.length_reverse, Int.reduceToNat, Bool.and_self, List.map_append, List.replicate, List.cons_append, List.nil_append, List.getElem?_cons_zero, List.getElem?_cons_succ, List.set_cons_zero, List.set_cons_succ, Res.bind_ok, Res.bind_bad, Nat.reduceAdd, Nat.reduceSub, Nat.reduceLeDiff, Int.cast_ofNat_Int, Int.natCast_add, Int.reduceNeg, Int.reduceSub, Int.reduceAdd, Int.reduceEq, Int.reduceLT, Int.reduceLE, reduceCtorEq, reduceIte, if_true, if_false, if_lim, decide_true, decide_false, Bool.not_true, Bool.not_false, Bool.false_eq_true, argN1, argN2, argN3, argN4, argN5, fMulA_ok, fMod_ok, fDiv_ok, fAdd_ok, fSub_ok, fGt_ok, fLt_ok, fLe_ok, fGe_ok, eqI_ok, neI_ok, eqS_ok, neS_ok, lenT_ok, lenL_ok, lenM_ok, ixT0, ixT1, ixT2, ixW0, ixW1, ixL0, ixL1, ixL2, ixT_last, ixT_mid, ixT_mid2, pick2_ok, pick3_ok, pick4_ok, pick5_ok, if_int, if_str, slT_to, slT_from, slT_from1, slT_to0, slT_fr0, slT_fr1, addT_ok, addL_ok, tupL_ok, anyBl, allBl, neI_nil, eqI_nil, sto_snoc, listT_ref, listT_val, Nat.zero_add, mkD, List.nil_append]
  refine wp_loopN _ (fun i sl S' => S' = S ∧ ∃ x4 x5 x6, sl = [some (bD b), some (.tup (b.1.map rD)), some (ownD b), some (.dct (b.1.zipIdx.map fun p => .inl (p.1.1 + 1)) (b.1.zipIdx.map fun p => bhD p b.1)), x4, x5, x6, none, none, none, none]) (fun i hi sl S' hP => ?_) (fun sl S' hP => ?_) _ _ ⟨rfl, _, _, _, rfl⟩
  · obtain ⟨rfl, x4, x5, x6, rfl⟩ := hP
    have hi : i < 120 := hi
    have hp := steps_plain h (-59 + (i : Nat))
    simp (disch := first | assumption | omega | (simp only [List.length_map, List.length_append, List.length_range, List.length_zip, List.length_drop, List.length_reverse, Int.reduceToNat, Bool.and_self, List.length_cons, List.length_nil, List.length_range] <;> omega) | fail) only [↓wp_bind, wp_bind, wp_ok, LTurn, LTook, runF, outF, inits, mSeq, mSet, mRet, mBin, mVar, mC, mIte, mTst, mB, mCons, mNil, mSkip, mAsg, mDrop, mPar, mPar3, mIf, mNotT, mAndT, mOrT, mNotV, mAndV, mOrV, mLst, mLstA, mTup, mFor, mIt, asI, asIL, mYes, mSl, mO, mO0, mNeg, mRng1, mRng2, mChain, mComp, mkL, wipeD, mZip, mEnum, mEnumT, mIsi, gN, gT, gCons', gNil', List.map_cons, List.map_nil, List.length_cons, List.length_nil, List.length_map, List.length_append, List.length_range, List.length_zip, List.length_drop, List.length_reverse, Int.reduceToNat, Bool.and_self, List.map_append, List.replicate, List.cons_append, List.nil_append, List.getElem?_cons_zero, List.getElem?_cons_succ, List.set_cons_zero, List.set_cons_succ, Res.bind_ok, Res.bind_bad, Nat.reduceAdd, Nat.reduceSub, Nat.reduceLeDiff, Int.cast_ofNat_Int, Int.natCast_add, Int.reduceNeg, Int.reduceSub, Int.reduceAdd, Int.reduceEq, Int.reduceLT, Int.reduceLE, reduceCtorEq, reduceIte, if_true, if_false, if_lim, decide_true, decide_false, Bool.not_true, Bool.not_false, Bool.false_eq_true, argN1, argN2, argN3, argN4, argN5, fMulA_ok, fMod_ok, fDiv_ok, fAdd_ok, fSub_ok, fGt_ok, fLt_ok, fLe_ok, fGe_ok, eqI_ok, neI_ok, eqS_ok, neS_ok, lenT_ok, lenL_ok, lenM_ok, ixT0, ixT1, ixT2, ixW0, ixW1, ixL0, ixL1, ixL2, ixT_last, ixT_mid, ixT_mid2, pick2_ok, pick3_ok, pick4_ok, pick5_ok, if_int, if_str, slT_to, slT_from, slT_from1, slT_to0, slT_fr0, slT_fr1, addT_ok, addL_ok, tupL_ok, anyBl, allBl, neI_nil, eqI_nil, sto_snoc, listT_ref, listT_val, Nat.zero_add, getD, asD, keyD, own_ix, valX_map]
    cases hf : b.1.zipIdx.find? (fun p => decide ((.inl (p.1.1 + 1) : Key) = .inl (-59 + (i : Nat)))) with
    | some p =>
      rw [hf] at hp
      obtain ⟨h1, h2⟩ := hp
      rw [show (-59 + ((i : Nat) : Int) - 1) = -60 + (i : Nat) by omega] at h2
      simp (disch := first | assumption | omega | (simp only [List.length_map, List.length_append, List.length_range, List.length_zip, List.length_drop, List.length_reverse, Int.reduceToNat, Bool.and_self, List.length_cons, List.length_nil, List.length_range] <;> omega) | fail) only [↓wp_bind, wp_bind, wp_ok, LTurn, LTook, runF, outF, inits, mSeq, mSet, mRet, mBin, mVar, mC, mIte, mTst, mB, mCons, mNil, mSkip, mAsg, mDrop, mPar, mPar3, mIf, mNotT, mAndT, mOrT, mNotV, mAndV, mOrV, mLst, mLstA, mTup, mFor, mIt, asI, asIL, mYes, mSl, mO, mO0, mNeg, mRng1, mRng2, mChain, mComp, mkL, wipeD, mZip, mEnum, mEnumT, mIsi, gN, gT, gCons', gNil', List.map_cons, List.map_nil, List.length_cons, List.length_nil, List.length_map, List.length_append, List.length_range, List.length_zip, List.length_drop, List.length_reverse, Int.reduceToNat, Bool.and_self, List.map_append, List.replicate, List.cons_append, List.nil_append, List.getElem?_cons_zero, List.getElem?_cons_succ, List.set_cons_zero, List.set_cons_succ, Res.bind_ok, Res.bind_bad, Nat.reduceAdd, Nat.reduceSub, Nat.reduceLeDiff, Int.cast_ofNat_Int, Int.natCast_add, Int.reduceNeg, Int.reduceSub, Int.reduceAdd, Int.reduceEq, Int.reduceLT, Int.reduceLE, reduceCtorEq, reduceIte, if_true, if_false, if_lim, decide_true, decide_false, Bool.not_true, Bool.not_false, Bool.false_eq_true, argN1, argN2, argN3, argN4, argN5, fMulA_ok, fMod_ok, fDiv_ok, fAdd_ok, fSub_ok, fGt_ok, fLt_ok, fLe_ok, fGe_ok, eqI_ok, neI_ok, eqS_ok, neS_ok, lenT_ok, lenL_ok, lenM_ok, ixT0, ixT1, ixT2, ixW0, ixW1, ixL0, ixL1, ixL2, ixT_last, ixT_mid, ixT_mid2, pick2_ok, pick3_ok, pick4_ok, pick5_ok, if_int, if_str, slT_to, slT_from, slT_from1, slT_to0, slT_fr0, slT_fr1, addT_ok, addL_ok, tupL_ok, anyBl, allBl, neI_nil, eqI_nil, sto_snoc, listT_ref, listT_val, Nat.zero_add, Option.map_some, Option.getD_some, bhD, own_ix]
      rw [show (-59 + ((i : Nat) : Int) + 60 - 60) = -59 + (i : Nat) by omega, h1]
      simp (disch := first | assumption | omega | (simp only [List.length_map, List.length_append, List.length_range, List.length_zip, List.length_drop, List.length_reverse, Int.reduceToNat, Bool.and_self, List.length_cons, List.length_nil, List.length_range] <;> omega) | fail) only [↓wp_bind, wp_bind, wp_ok, LTurn, LTook, runF, outF, inits, mSeq, mSet, mRet, mBin, mVar, mC, mIte, mTst, mB, mCons, mNil, mSkip, mAsg, mDrop, mPar, mPar3, mIf, mNotT, mAndT, mOrT, mNotV, mAndV, mOrV, mLst, mLstA, mTup, mFor, mIt, asI, asIL, mYes, mSl, mO, mO0, mNeg, mRng1, mRng2, mChain, mComp, mkL, wipeD, mZip, mEnum, mEnumT, mIsi, gN, gT, gCons', gNil', List.map_cons, List.map_nil, List.length_cons, List.length_nil, List.length_map, List.length_append, List.length_range, List.length_zip, List.length_drop, List.length_reverse, Int.reduceToNat, Bool.and_self, List.map_append, List.replicate, List.cons_append, List.nil_append, List.getElem?_cons_zero, List.getElem?_cons_succ, List.set_cons_zero, List.set_cons_succ, Res.bind_ok, Res.bind_bad, Nat.reduceAdd, Nat.reduceSub, Nat.reduceLeDiff, Int.cast_ofNat_Int, Int.natCast_add, Int.reduceNeg, Int.reduceSub, Int.reduceAdd, Int.reduceEq, Int.reduceLT, Int.reduceLE, reduceCtorEq, reduceIte, if_true, if_false, if_lim, decide_true, decide_false, Bool.not_true, Bool.not_false, Bool.false_eq_true, argN1, argN2, argN3, argN4, argN5, fMulA_ok, fMod_ok, fDiv_ok, fAdd_ok, fSub_ok, fGt_ok, fLt_ok, fLe_ok, fGe_ok, eqI_ok, neI_ok, eqS_ok, neS_ok, lenT_ok, lenL_ok, lenM_ok, ixT0, ixT1, ixT2, ixW0, ixW1, ixL0, ixL1, ixL2, ixT_last, ixT_mid, ixT_mid2, pick2_ok, pick3_ok, pick4_ok, pick5_ok, if_int, if_str, slT_to, slT_from, slT_from1, slT_to0, slT_fr0, slT_fr1, addT_ok, addL_ok, tupL_ok, anyBl, allBl, neI_nil, eqI_nil, sto_snoc, listT_ref, listT_val, Nat.zero_add, own_ix]
      rw [show (-59 + ((i : Nat) : Int) + 59 - 60) = -60 + (i : Nat) by omega, h2]
      simp (disch := first | assumption | omega | (simp only [List.length_map, List.length_append, List.length_range, List.length_zip, List.length_drop, List.length_reverse, Int.reduceToNat, Bool.and_self, List.length_cons, List.length_nil, List.length_range] <;> omega) | fail) only [↓wp_bind, wp_bind, wp_ok, LTurn, LTook, runF, outF, inits, mSeq, mSet, mRet, mBin, mVar, mC, mIte, mTst, mB, mCons, mNil, mSkip, mAsg, mDrop, mPar, mPar3, mIf, mNotT, mAndT, mOrT, mNotV, mAndV, mOrV, mLst, mLstA, mTup, mFor, mIt, asI, asIL, mYes, mSl, mO, mO0, mNeg, mRng1, mRng2, mChain, mComp, mkL, wipeD, mZip, mEnum, mEnumT, mIsi, gN, gT, gCons', gNil', List.map_cons, List.map_nil, List.length_cons, List.length_nil, List.length_map, List.length_append, List.length_range, List.length_zip, List.length_drop, List.length_reverse, Int.reduceToNat, Bool.and_self, List.map_append, List.replicate, List.cons_append, List.nil_append, List.getElem?_cons_zero, List.getElem?_cons_succ, List.set_cons_zero, List.set_cons_succ, Res.bind_ok, Res.bind_bad, Nat.reduceAdd, Nat.reduceSub, Nat.reduceLeDiff, Int.cast_ofNat_Int, Int.natCast_add, Int.reduceNeg, Int.reduceSub, Int.reduceAdd, Int.reduceEq, Int.reduceLT, Int.reduceLE, reduceCtorEq, reduceIte, if_true, if_false, if_lim, decide_true, decide_false, Bool.not_true, Bool.not_false, Bool.false_eq_true, argN1, argN2, argN3, argN4, argN5, fMulA_ok, fMod_ok, fDiv_ok, fAdd_ok, fSub_ok, fGt_ok, fLt_ok, fLe_ok, fGe_ok, eqI_ok, neI_ok, eqS_ok, neS_ok, lenT_ok, lenL_ok, lenM_ok, ixT0, ixT1, ixT2, ixW0, ixW1, ixL0, ixL1, ixL2, ixT_last, ixT_mid, ixT_mid2, pick2_ok, pick3_ok, pick4_ok, pick5_ok, if_int, if_str, slT_to, slT_from, slT_from1, slT_to0, slT_fr0, slT_fr1, addT_ok, addL_ok, tupL_ok, anyBl, allBl, neI_nil, eqI_nil, sto_snoc, listT_ref, listT_val, Nat.zero_add]
      exact ⟨(by first | rfl | trivial), _, _, _, (by first | rfl | trivial)⟩
    | none =>
      rw [hf] at hp
      have hp : unitsF b.1 (-59 + (i : Nat)) = unitsF b.1 (-59 + ((i : Nat) : Int) - 1) := hp
      rw [show (-59 + ((i : Nat) : Int) - 1) = -60 + (i : Nat) by omega] at hp
      simp (disch := first | assumption | omega | (simp only [List.length_map, List.length_append, List.length_range, List.length_zip, List.length_drop, List.length_reverse, Int.reduceToNat, Bool.and_self, List.length_cons, List.length_nil, List.length_range] <;> omega) | fail) only [↓wp_bind, wp_bind, wp_ok, LTurn, LTook, runF, outF, inits, mSeq, mSet, mRet, mBin, mVar, mC, mIte, mTst, mB, mCons, mNil, mSkip, mAsg, mDrop, mPar, mPar3, mIf, mNotT, mAndT, mOrT, mNotV, mAndV, mOrV, mLst, mLstA, mTup, mFor, mIt, asI, asIL, mYes, mSl, mO, mO0, mNeg, mRng1, mRng2, mChain, mComp, mkL, wipeD, mZip, mEnum, mEnumT, mIsi, gN, gT, gCons', gNil', List.map_cons, List.map_nil, List.length_cons, List.length_nil, List.length_map, List.length_append, List.length_range, List.length_zip, List.length_drop, List.length_reverse, Int.reduceToNat, Bool.and_self, List.map_append, List.replicate, List.cons_append, List.nil_append, List.getElem?_cons_zero, List.getElem?_cons_succ, List.set_cons_zero, List.set_cons_succ, Res.bind_ok, Res.bind_bad, Nat.reduceAdd, Nat.reduceSub, Nat.reduceLeDiff, Int.cast_ofNat_Int, Int.natCast_add, Int.reduceNeg, Int.reduceSub, Int.reduceAdd, Int.reduceEq, Int.reduceLT, Int.reduceLE, reduceCtorEq, reduceIte, if_true, if_false, if_lim, decide_true, decide_false, Bool.not_true, Bool.not_false, Bool.false_eq_true, argN1, argN2, argN3, argN4, argN5, fMulA_ok, fMod_ok, fDiv_ok, fAdd_ok, fSub_ok, fGt_ok, fLt_ok, fLe_ok, fGe_ok, eqI_ok, neI_ok, eqS_ok, neS_ok, lenT_ok, lenL_ok, lenM_ok, ixT0, ixT1, ixT2, ixW0, ixW1, ixL0, ixL1, ixL2, ixT_last, ixT_mid, ixT_mid2, pick2_ok, pick3_ok, pick4_ok, pick5_ok, if_int, if_str, slT_to, slT_from, slT_from1, slT_to0, slT_fr0, slT_fr1, addT_ok, addL_ok, tupL_ok, anyBl, allBl, neI_nil, eqI_nil, sto_snoc, listT_ref, listT_val, Nat.zero_add, Option.map_none, Option.getD_none, own_ix]
      rw [show (-59 + ((i : Nat) : Int) + 60 - 60) = -59 + (i : Nat) by omega, hp]
      rw [show (-59 + ((i : Nat) : Int) + 59 - 60) = -60 + (i : Nat) by omega]
      simp (disch := first | assumption | omega | (simp only [List.length_map, List.length_append, List.length_range, List.length_zip, List.length_drop, List.length_reverse, Int.reduceToNat, Bool.and_self, List.length_cons, List.length_nil, List.length_range] <;> omega) | fail) only [↓wp_bind, wp_bind, wp_ok, LTurn, LTook, runF, outF, inits, mSeq, mSet, mRet, mBin, mVar, mC, mIte, mTst, mB, mCons, mNil, mSkip, mAsg, mDrop, mPar, mPar3, mIf, mNotT, mAndT, mOrT, mNotV, mAndV, mOrV, mLst, mLstA, mTup, mFor, mIt, asI, asIL, mYes, mSl, mO, mO0, mNeg, mRng1, mRng2, mChain, mComp, mkL, wipeD, mZip, mEnum, mEnumT, mIsi, gN, gT, gCons', gNil', List.map_cons, List.map_nil, List.length_cons, List.length_nil, List.length_map, List.length_append, List.length_range, List.length_zip, List.length_drop, List.length_reverse, Int.reduceToNat, Bool.and_self, List.map_append, List.replicate, List.cons_append, List.nil_append, List.getElem?_cons_zero, List.getElem?_cons_succ, List.set_cons_zero, List.set_cons_succ, Res.bind_ok, Res.bind_bad, Nat.reduceAdd, Nat.reduceSub, Nat.reduceLeDiff, Int.cast_ofNat_Int, Int.natCast_add, Int.reduceNeg, Int.reduceSub, Int.reduceAdd, Int.reduceEq, Int.reduceLT, Int.reduceLE, reduceCtorEq, reduceIte, if_true, if_false, if_lim, decide_true, decide_false, Bool.not_true, Bool.not_false, Bool.false_eq_true, argN1, argN2, argN3, argN4, argN5, fMulA_ok, fMod_ok, fDiv_ok, fAdd_ok, fSub_ok, fGt_ok, fLt_ok, fLe_ok, fGe_ok, eqI_ok, neI_ok, eqS_ok, neS_ok, lenT_ok, lenL_ok, lenM_ok, ixT0, ixT1, ixT2, ixW0, ixW1, ixL0, ixL1, ixL2, ixT_last, ixT_mid, ixT_mid2, pick2_ok, pick3_ok, pick4_ok, pick5_ok, if_int, if_str, slT_to, slT_from, slT_from1, slT_to0, slT_fr0, slT_fr1, addT_ok, addL_ok, tupL_ok, anyBl, allBl, neI_nil, eqI_nil, sto_snoc, listT_ref, listT_val, Nat.zero_add]
      exact ⟨(by first | rfl | trivial), _, _, _, (by first | rfl | trivial)⟩
  · obtain ⟨rfl, x4, x5, x6, rfl⟩ := hP
    have e0 : unitsF b.1 (-60) = 0 := by
      have := unitsF_skip (-60) [] b.1 fun r hr => by have := (h.at_ r hr).1; omega
      rw [List.nil_append] at this
      rw [this]; rfl
    simp (disch := first | assumption | omega | (simp only [List.length_map, List.length_append, List.length_range, List.length_zip, List.length_drop, List.length_reverse, Int.reduceToNat, Bool.and_self, List.length_cons, List.length_nil, List.length_range] <;> omega) | fail) only [↓wp_bind, wp_bind, wp_ok, LTurn, LTook, runF, outF, inits, mSeq, mSet, mRet, mBin, mVar, mC, mIte, mTst, mB, mCons, mNil, mSkip, mAsg, mDrop, mPar, mPar3, mIf, mNotT, mAndT, mOrT, mNotV, mAndV, mOrV, mLst, mLstA, mTup, mFor, mIt, asI, asIL, mYes, mSl, mO, mO0, mNeg, mRng1, mRng2, mChain, mComp, mkL, wipeD, mZip, mEnum, mEnumT, mIsi, gN, gT, gCons', gNil', List.map_cons, List.map_nil, List.length_cons, List.length_nil, List.length_map, List.length_append, List.length_range, List.length_zip, List.length_drop, List.length_reverse, Int.reduceToNat, Bool.and_self, List.map_append, List.replicate, List.cons_append, List.nil_append, List.getElem?_cons_zero, List.getElem?_cons_succ, List.set_cons_zero, List.set_cons_succ, Res.bind_ok, Res.bind_bad, Nat.reduceAdd, Nat.reduceSub, Nat.reduceLeDiff, Int.cast_ofNat_Int, Int.natCast_add, Int.reduceNeg, Int.reduceSub, Int.reduceAdd, Int.reduceEq, Int.reduceLT, Int.reduceLE, reduceCtorEq, reduceIte, if_true, if_false, if_lim, decide_true, decide_false, Bool.not_true, Bool.not_false, Bool.false_eq_true, argN1, argN2, argN3, argN4, argN5, fMulA_ok, fMod_ok, fDiv_ok, fAdd_ok, fSub_ok, fGt_ok, fLt_ok, fLe_ok, fGe_ok, eqI_ok, neI_ok, eqS_ok, neS_ok, lenT_ok, lenL_ok, lenM_ok, ixT0, ixT1, ixT2, ixW0, ixW1, ixL0, ixL1, ixL2, ixT_last, ixT_mid, ixT_mid2, pick2_ok, pick3_ok, pick4_ok, pick5_ok, if_int, if_str, slT_to, slT_from, slT_from1, slT_to0, slT_fr0, slT_fr1, addT_ok, addL_ok, tupL_ok, anyBl, allBl, neI_nil, eqI_nil, sto_snoc, listT_ref, listT_val, Nat.zero_add, own_ix, e0]
    unfold ownD
    simp (disch := first | assumption | omega | (simp only [List.length_map, List.length_append, List.length_range, List.length_zip, List.length_drop, List.length_reverse, Int.reduceToNat, Bool.and_self, List.length_cons, List.length_nil, List.length_range] <;> omega) | fail) only [↓wp_bind, wp_bind, wp_ok, LTurn, LTook, runF, outF, inits, mSeq, mSet, mRet, mBin, mVar, mC, mIte, mTst, mB, mCons, mNil, mSkip, mAsg, mDrop, mPar, mPar3, mIf, mNotT, mAndT, mOrT, mNotV, mAndV, mOrV, mLst, mLstA, mTup, mFor, mIt, asI, asIL, mYes, mSl, mO, mO0, mNeg, mRng1, mRng2, mChain, mComp, mkL, wipeD, mZip, mEnum, mEnumT, mIsi, gN, gT, gCons', gNil', List.map_cons, List.map_nil, List.length_cons, List.length_nil, List.length_map, List.length_append, List.length_range, List.length_zip, List.length_drop, List.length_reverse, Int.reduceToNat, Bool.and_self, List.map_append, List.replicate, List.cons_append, List.nil_append, List.getElem?_cons_zero, List.getElem?_cons_succ, List.set_cons_zero, List.set_cons_succ, Res.bind_ok, Res.bind_bad, Nat.reduceAdd, Nat.reduceSub, Nat.reduceLeDiff, Int.cast_ofNat_Int, Int.natCast_add, Int.reduceNeg, Int.reduceSub, Int.reduceAdd, Int.reduceEq, Int.reduceLT, Int.reduceLE, reduceCtorEq, reduceIte, if_true, if_false, if_lim, decide_true, decide_false, Bool.not_true, Bool.not_false, Bool.false_eq_true, argN1, argN2, argN3, argN4, argN5, fMulA_ok, fMod_ok, fDiv_ok, fAdd_ok, fSub_ok, fGt_ok, fLt_ok, fLe_ok, fGe_ok, eqI_ok, neI_ok, eqS_ok, neS_ok, lenT_ok, lenL_ok, lenM_ok, ixT0, ixT1, ixT2, ixW0, ixW1, ixL0, ixL1, ixL2, ixT_last, ixT_mid, ixT_mid2, pick2_ok, pick3_ok, pick4_ok, pick5_ok, if_int, if_str, slT_to, slT_from, slT_from1, slT_to0, slT_fr0, slT_fr1, addT_ok, addL_ok, tupL_ok, anyBl, allBl, neI_nil, eqI_nil, sto_snoc, listT_ref, listT_val, Nat.zero_add]
    rw [comp_filter (p := fun _ => false) (h := fun (i : Nat) => D.int (unitsF b.1 (-60 + (i : Nat)))) (List.range 121) fun i hi => ⟨_, rfl, by simp (disch := first | assumption | omega | (simp only [List.length_map, List.length_append, List.length_range, List.length_zip, List.length_drop, List.length_reverse, Int.reduceToNat, Bool.and_self, List.length_cons, List.length_nil, List.length_range] <;> omega) | fail) only [↓wp_bind, wp_bind, wp_ok, LTurn, LTook, runF, outF, inits, mSeq, mSet, mRet, mBin, mVar, mC, mIte, mTst, mB, mCons, mNil, mSkip, mAsg, mDrop, mPar, mPar3, mIf, mNotT, mAndT, mOrT, mNotV, mAndV, mOrV, mLst, mLstA, mTup, mFor, mIt, asI, asIL, mYes, mSl, mO, mO0, mNeg, mRng1, mRng2, mChain, mComp, mkL, wipeD, mZip, mEnum, mEnumT, mIsi, gN, gT, gCons', gNil', List.map_cons, List.map_nil, List.length_cons, List.length_nil, List.length_map, List.length_append, List.length_range, List.length_zip, List.length_drop, List.length_reverse, Int.reduceToNat, Bool.and_self, List.map_append, List.replicate, List.cons_append, List.nil_append, List.getElem?_cons_zero, List.getElem?_cons_succ, List.set_cons_zero, List.set_cons_succ, Res.bind_ok, Res.bind_bad, Nat.reduceAdd, Nat.reduceSub, Nat.reduceLeDiff, Int.cast_ofNat_Int, Int.natCast_add, Int.reduceNeg, Int.reduceSub, Int.reduceAdd, Int.reduceEq, Int.reduceLT, Int.reduceLE, reduceCtorEq, reduceIte, if_true, if_false, if_lim, decide_true, decide_false, Bool.not_true, Bool.not_false, Bool.false_eq_true, argN1, argN2, argN3, argN4, argN5, fMulA_ok, fMod_ok, fDiv_ok, fAdd_ok, fSub_ok, fGt_ok, fLt_ok, fLe_ok, fGe_ok, eqI_ok, neI_ok, eqS_ok, neS_ok, lenT_ok, lenL_ok, lenM_ok, ixT0, ixT1, ixT2, ixW0, ixW1, ixL0, ixL1, ixL2, ixT_last, ixT_mid, ixT_mid2, pick2_ok, pick3_ok, pick4_ok, pick5_ok, if_int, if_str, slT_to, slT_from, slT_from1, slT_to0, slT_fr0, slT_fr1, addT_ok, addL_ok, tupL_ok, anyBl, allBl, neI_nil, eqI_nil, sto_snoc, listT_ref, listT_val, Nat.zero_add, tyS, Ty.isi], fun h => by cases h⟩]
    rw [show List.filter (fun (_ : Nat) => false) (List.range 121) = [] by rw [List.filter_eq_nil_iff]; intro a _; decide]
    simp (disch := first | assumption | omega | (simp only [List.length_map, List.length_append, List.length_range, List.length_zip, List.length_drop, List.length_reverse, Int.reduceToNat, Bool.and_self, List.length_cons, List.length_nil, List.length_range] <;> omega) | fail) only [↓wp_bind, wp_bind, wp_ok, LTurn, LTook, runF, outF, inits, mSeq, mSet, mRet, mBin, mVar, mC, mIte, mTst, mB, mCons, mNil, mSkip, mAsg, mDrop, mPar, mPar3, mIf, mNotT, mAndT, mOrT, mNotV, mAndV, mOrV, mLst, mLstA, mTup, mFor, mIt, asI, asIL, mYes, mSl, mO, mO0, mNeg, mRng1, mRng2, mChain, mComp, mkL, wipeD, mZip, mEnum, mEnumT, mIsi, gN, gT, gCons', gNil', List.map_cons, List.map_nil, List.length_cons, List.length_nil, List.length_map, List.length_append, List.length_range, List.length_zip, List.length_drop, List.length_reverse, Int.reduceToNat, Bool.and_self, List.map_append, List.replicate, List.cons_append, List.nil_append, List.getElem?_cons_zero, List.getElem?_cons_succ, List.set_cons_zero, List.set_cons_succ, Res.bind_ok, Res.bind_bad, Nat.reduceAdd, Nat.reduceSub, Nat.reduceLeDiff, Int.cast_ofNat_Int, Int.natCast_add, Int.reduceNeg, Int.reduceSub, Int.reduceAdd, Int.reduceEq, Int.reduceLT, Int.reduceLE, reduceCtorEq, reduceIte, if_true, if_false, if_lim, decide_true, decide_false, Bool.not_true, Bool.not_false, Bool.false_eq_true, argN1, argN2, argN3, argN4, argN5, fMulA_ok, fMod_ok, fDiv_ok, fAdd_ok, fSub_ok, fGt_ok, fLt_ok, fLe_ok, fGe_ok, eqI_ok, neI_ok, eqS_ok, neS_ok, lenT_ok, lenL_ok, lenM_ok, ixT0, ixT1, ixT2, ixW0, ixW1, ixL0, ixL1, ixL2, ixT_last, ixT_mid, ixT_mid2, pick2_ok, pick3_ok, pick4_ok, pick5_ok, if_int, if_str, slT_to, slT_from, slT_from1, slT_to0, slT_fr0, slT_fr1, addT_ok, addL_ok, tupL_ok, anyBl, allBl, neI_nil, eqI_nil, sto_snoc, listT_ref, listT_val, Nat.zero_add, eqLnil]
    exact ⟨(by first | rfl | trivial), (by first | rfl | trivial)⟩
end K16

namespace K16
open PySem PySem.Spec PyProof.Rows L2 Ev
theorem mul3 (S : Sto) (x : D) : fMulA false S (.tup [x]) (.int 3) = .ok (.tup [x, x, x]) S := rfl
theorem Gok.three {b : Bd} (h : Bok b) : Gok [b, b, b] := ⟨by show 1 ≤ 3 ∧ 3 ≤ 3; decide, fun x hx => by
  simp only [List.mem_cons, List.not_mem_nil, or_false] at hx
  rcases hx with rfl | rfl | rfl <;> exact h⟩
theorem Gok.rev {gr : List Bd} (h : Gok gr) : Gok gr.reverse := ⟨by rw [List.length_reverse]; exact h.few, fun x hx => h.all x (List.mem_reverse.mp hx)⟩
theorem rev_g (S : Sto) (gr : List Bd) : revD false S (gD gr) = .ok (gD gr.reverse) S := by
  show Res.ok (D.tup (gr.map bD).reverse) S = _
  rw [gD, List.map_reverse]
theorem rev_u (S : Sto) (gr : List Bd) (w : Int) : revD false S (uD gr w) = .ok (uD gr.reverse w) S := by
  show Res.ok (D.tup (gr.map fun b => D.int (unitsF b.1 w)).reverse) S = _
  rw [uD, List.map_reverse]
theorem parts_ok (S : Sto) (gr : List Bd) (h : Gok gr) : F__law_parts_right S [gD gr, rowD gr] = .ok (.bl true) S := by
  unfold F__law_parts_right m__law_parts_right
  have few := h.few
  refine of_wp ?_
  rw [show gD gr = .tup (gr.map bD) from rfl]
  simp (disch := first | assumption | omega | (simp only [List.length_map, List.length_append, List.length_range, List.length_zip, List.length_drop, List.length_reverse, Int.reduceToNat, Bool.and_self, List.length_cons, List.length_nil, List.length_range] <;> omega) | fail) only [↓wp_bind, wp_bind, wp_ok, LTurn, LTook, runF, outF, inits, mSeq, mSet, mRet, mBin, mVar, mC, mIte, mTst, mB, mCons, mNil, mSkip, mAsg, mDrop, mPar, mPar3, mIf, mNotT, mAndT, mOrT, mNotV, mAndV, mOrV, mLst, mLstA, mTup, mFor, mIt, asI, asIL, mYes, mSl, mO, mO0, mNeg, mRng1, mRng2, mChain, mComp, mkL, wipeD, mZip, mEnum, mEnumT, mIsi, gN, gT, gCons', gNil', List.map_cons, List.map_nil, List.length_cons, List.length_nil, List.length_map, List.length_append, List.length_range, List.length_zip, List.length_drop, List.length_reverse, Int.reduceToNat, Bool.and_self, List.map_append, List.replicate, List.cons_append, List.nil_append, List.getElem?_cons_zero, List.getElem?_cons_succ, List.set_cons_zero, List.set_cons_succ, Res.bind_ok, Res.bind_bad, Nat.reduceAdd, Nat.reduceSub, Nat.reduceLeDiff, Int.cast_ofNat_Int, Int.natCast_add, Int.reduceNeg, Int.reduceSub, Int.reduceAdd, Int.reduceEq, Int.reduceLT, Int.reduceLE, reduceCtorEq, reduceIte, if_true, if_false, if_lim, decide_true, decide_false, Bool.not_true, Bool.not_false, Bool.false_eq_true, argN1, argN2, argN3, argN4, argN5, fMulA_ok, fMod_ok, fDiv_ok, fAdd_ok, fSub_ok, fGt_ok, fLt_ok, fLe_ok, fGe_ok, eqI_ok, neI_ok, eqS_ok, neS_ok, lenT_ok, lenL_ok, lenM_ok, ixT0, ixT1, ixT2, ixW0, ixW1, ixL0, ixL1, ixL2, ixT_last, ixT_mid, ixT_mid2, pick2_ok, pick3_ok, pick4_ok, pick5_ok, if_int, if_str, slT_to, slT_from, slT_from1, slT_to0, slT_fr0, slT_fr1, addT_ok, addL_ok, tupL_ok, anyBl, allBl, neI_nil, eqI_nil, sto_snoc, listT_ref, listT_val, Nat.zero_add, Ev.enum_zip]
  refine wp_loop (fun (rest : List (Bd × Nat)) sl S' => S' = S ∧ (∀ p ∈ rest, p ∈ gr.zipIdx) ∧ ∃ x2 x3 x4, sl = [some (.tup (gr.map bD)), some (rowD gr), x2, x3, x4, none, none]) (fun p rest sl S' hP => ?_) (fun sl S' hP => ?_) _ _ _ ⟨rfl, fun p hp => hp, _, _, _, rfl⟩
  · obtain ⟨rfl, hm, x2, x3, x4, rfl⟩ := hP
    obtain ⟨b, k⟩ := p
    have hp := List.mk_mem_zipIdx_iff_getElem?.mp (hm (b, k) (by simp))
    have hb := h.all b (List.mem_of_getElem? hp)
    simp (disch := first | assumption | omega | (simp only [List.length_map, List.length_append, List.length_range, List.length_zip, List.length_drop, List.length_reverse, Int.reduceToNat, Bool.and_self, List.length_cons, List.length_nil, List.length_range] <;> omega) | fail) only [↓wp_bind, wp_bind, wp_ok, LTurn, LTook, runF, outF, inits, mSeq, mSet, mRet, mBin, mVar, mC, mIte, mTst, mB, mCons, mNil, mSkip, mAsg, mDrop, mPar, mPar3, mIf, mNotT, mAndT, mOrT, mNotV, mAndV, mOrV, mLst, mLstA, mTup, mFor, mIt, asI, asIL, mYes, mSl, mO, mO0, mNeg, mRng1, mRng2, mChain, mComp, mkL, wipeD, mZip, mEnum, mEnumT, mIsi, gN, gT, gCons', gNil', List.map_cons, List.map_nil, List.length_cons, List.length_nil, List.length_map, List.length_append, List.length_range, List.length_zip, List.length_drop, List.length_reverse, Int.reduceToNat, Bool.and_self, List.map_append, List.replicate, List.cons_append, List.nil_append, List.getElem?_cons_zero, List.getElem?_cons_succ, List.set_cons_zero, List.set_cons_succ, Res.bind_ok, Res.bind_bad, Nat.reduceAdd, Nat.reduceSub, Nat.reduceLeDiff, Int.cast_ofNat_Int, Int.natCast_add, Int.reduceNeg, Int.reduceSub, Int.reduceAdd, Int.reduceEq, Int.reduceLT, Int.reduceLE, reduceCtorEq, reduceIte, if_true, if_false, if_lim, decide_true, decide_false, Bool.not_true, Bool.not_false, Bool.false_eq_true, argN1, argN2, argN3, argN4, argN5, fMulA_ok, fMod_ok, fDiv_ok, fAdd_ok, fSub_ok, fGt_ok, fLt_ok, fLe_ok, fGe_ok, eqI_ok, neI_ok, eqS_ok, neS_ok, lenT_ok, lenL_ok, lenM_ok, ixT0, ixT1, ixT2, ixW0, ixW1, ixL0, ixL1, ixL2, ixT_last, ixT_mid, ixT_mid2, pick2_ok, pick3_ok, pick4_ok, pick5_ok, if_int, if_str, slT_to, slT_from, slT_from1, slT_to0, slT_fr0, slT_fr1, addT_ok, addL_ok, tupL_ok, anyBl, allBl, neI_nil, eqI_nil, sto_snoc, listT_ref, listT_val, Nat.zero_add, rowD]
    rw [comp_map (h := fun (i : Nat) => D.int (unitsF b.1 (-60 + (i : Nat)))) (List.range 121) fun i hi => ⟨_, rfl, rfl, by
      simp (disch := first | assumption | omega | (simp only [List.length_map, List.length_append, List.length_range, List.length_zip, List.length_drop, List.length_reverse, Int.reduceToNat, Bool.and_self, List.length_cons, List.length_nil, List.length_range] <;> omega) | fail) only [↓wp_bind, wp_bind, wp_ok, LTurn, LTook, runF, outF, inits, mSeq, mSet, mRet, mBin, mVar, mC, mIte, mTst, mB, mCons, mNil, mSkip, mAsg, mDrop, mPar, mPar3, mIf, mNotT, mAndT, mOrT, mNotV, mAndV, mOrV, mLst, mLstA, mTup, mFor, mIt, asI, asIL, mYes, mSl, mO, mO0, mNeg, mRng1, mRng2, mChain, mComp, mkL, wipeD, mZip, mEnum, mEnumT, mIsi, gN, gT, gCons', gNil', List.map_cons, List.map_nil, List.length_cons, List.length_nil, List.length_map, List.length_append, List.length_range, List.length_zip, List.length_drop, List.length_reverse, Int.reduceToNat, Bool.and_self, List.map_append, List.replicate, List.cons_append, List.nil_append, List.getElem?_cons_zero, List.getElem?_cons_succ, List.set_cons_zero, List.set_cons_succ, Res.bind_ok, Res.bind_bad, Nat.reduceAdd, Nat.reduceSub, Nat.reduceLeDiff, Int.cast_ofNat_Int, Int.natCast_add, Int.reduceNeg, Int.reduceSub, Int.reduceAdd, Int.reduceEq, Int.reduceLT, Int.reduceLE, reduceCtorEq, reduceIte, if_true, if_false, if_lim, decide_true, decide_false, Bool.not_true, Bool.not_false, Bool.false_eq_true, argN1, argN2, argN3, argN4, argN5, fMulA_ok, fMod_ok, fDiv_ok, fAdd_ok, fSub_ok, fGt_ok, fLt_ok, fLe_ok, fGe_ok, eqI_ok, neI_ok, eqS_ok, neS_ok, lenT_ok, lenL_ok, lenM_ok, ixT0, ixT1, ixT2, ixW0, ixW1, ixL0, ixL1, ixL2, ixT_last, ixT_mid, ixT_mid2, pick2_ok, pick3_ok, pick4_ok, pick5_ok, if_int, if_str, slT_to, slT_from, slT_from1, slT_to0, slT_fr0, slT_fr1, addT_ok, addL_ok, tupL_ok, anyBl, allBl, neI_nil, eqI_nil, sto_snoc, listT_ref, listT_val, Nat.zero_add, uD, ixT_get (S := S') (f := fun b : Bd => D.int (unitsF b.1 (-60 + (i : Nat)))) (xs := gr) (i := (k : Nat)) (x := b) (by omega) (by rw [Int.toNat_natCast]; exact hp)]⟩]
    have no := nc_own hb
    unfold ownD at no
    simp (disch := first | assumption | omega | (simp only [List.length_map, List.length_append, List.length_range, List.length_zip, List.length_drop, List.length_reverse, Int.reduceToNat, Bool.and_self, List.length_cons, List.length_nil, List.length_range] <;> omega) | fail) only [↓wp_bind, wp_bind, wp_ok, LTurn, LTook, runF, outF, inits, mSeq, mSet, mRet, mBin, mVar, mC, mIte, mTst, mB, mCons, mNil, mSkip, mAsg, mDrop, mPar, mPar3, mIf, mNotT, mAndT, mOrT, mNotV, mAndV, mOrV, mLst, mLstA, mTup, mFor, mIt, asI, asIL, mYes, mSl, mO, mO0, mNeg, mRng1, mRng2, mChain, mComp, mkL, wipeD, mZip, mEnum, mEnumT, mIsi, gN, gT, gCons', gNil', List.map_cons, List.map_nil, List.length_cons, List.length_nil, List.length_map, List.length_append, List.length_range, List.length_zip, List.length_drop, List.length_reverse, Int.reduceToNat, Bool.and_self, List.map_append, List.replicate, List.cons_append, List.nil_append, List.getElem?_cons_zero, List.getElem?_cons_succ, List.set_cons_zero, List.set_cons_succ, Res.bind_ok, Res.bind_bad, Nat.reduceAdd, Nat.reduceSub, Nat.reduceLeDiff, Int.cast_ofNat_Int, Int.natCast_add, Int.reduceNeg, Int.reduceSub, Int.reduceAdd, Int.reduceEq, Int.reduceLT, Int.reduceLE, reduceCtorEq, reduceIte, if_true, if_false, if_lim, decide_true, decide_false, Bool.not_true, Bool.not_false, Bool.false_eq_true, argN1, argN2, argN3, argN4, argN5, fMulA_ok, fMod_ok, fDiv_ok, fAdd_ok, fSub_ok, fGt_ok, fLt_ok, fLe_ok, fGe_ok, eqI_ok, neI_ok, eqS_ok, neS_ok, lenT_ok, lenL_ok, lenM_ok, ixT0, ixT1, ixT2, ixW0, ixW1, ixL0, ixL1, ixL2, ixT_last, ixT_mid, ixT_mid2, pick2_ok, pick3_ok, pick4_ok, pick5_ok, if_int, if_str, slT_to, slT_from, slT_from1, slT_to0, slT_fr0, slT_fr1, addT_ok, addL_ok, tupL_ok, anyBl, allBl, neI_nil, eqI_nil, sto_snoc, listT_ref, listT_val, Nat.zero_add, rngOk_ok]
    rw [own_comp S' b hb 0 3 6 _ (fun d => rfl) (fun d => rfl)]
    have er : F__law_row S' [.tup [bD b, bD b, bD b]] = .ok (rowD [b, b, b]) S' := row_ok S' [b, b, b] (Gok.three hb)
    simp (disch := first | assumption | omega | (simp only [List.length_map, List.length_append, List.length_range, List.length_zip, List.length_drop, List.length_reverse, Int.reduceToNat, Bool.and_self, List.length_cons, List.length_nil, List.length_range] <;> omega) | fail) only [↓wp_bind, wp_bind, wp_ok, LTurn, LTook, runF, outF, inits, mSeq, mSet, mRet, mBin, mVar, mC, mIte, mTst, mB, mCons, mNil, mSkip, mAsg, mDrop, mPar, mPar3, mIf, mNotT, mAndT, mOrT, mNotV, mAndV, mOrV, mLst, mLstA, mTup, mFor, mIt, asI, asIL, mYes, mSl, mO, mO0, mNeg, mRng1, mRng2, mChain, mComp, mkL, wipeD, mZip, mEnum, mEnumT, mIsi, gN, gT, gCons', gNil', List.map_cons, List.map_nil, List.length_cons, List.length_nil, List.length_map, List.length_append, List.length_range, List.length_zip, List.length_drop, List.length_reverse, Int.reduceToNat, Bool.and_self, List.map_append, List.replicate, List.cons_append, List.nil_append, List.getElem?_cons_zero, List.getElem?_cons_succ, List.set_cons_zero, List.set_cons_succ, Res.bind_ok, Res.bind_bad, Nat.reduceAdd, Nat.reduceSub, Nat.reduceLeDiff, Int.cast_ofNat_Int, Int.natCast_add, Int.reduceNeg, Int.reduceSub, Int.reduceAdd, Int.reduceEq, Int.reduceLT, Int.reduceLE, reduceCtorEq, reduceIte, if_true, if_false, if_lim, decide_true, decide_false, Bool.not_true, Bool.not_false, Bool.false_eq_true, argN1, argN2, argN3, argN4, argN5, fMulA_ok, fMod_ok, fDiv_ok, fAdd_ok, fSub_ok, fGt_ok, fLt_ok, fLe_ok, fGe_ok, eqI_ok, neI_ok, eqS_ok, neS_ok, lenT_ok, lenL_ok, lenM_ok, ixT0, ixT1, ixT2, ixW0, ixW1, ixL0, ixL1, ixL2, ixT_last, ixT_mid, ixT_mid2, pick2_ok, pick3_ok, pick4_ok, pick5_ok, if_int, if_str, slT_to, slT_from, slT_from1, slT_to0, slT_fr0, slT_fr1, addT_ok, addL_ok, tupL_ok, anyBl, allBl, neI_nil, eqI_nil, sto_snoc, listT_ref, listT_val, Nat.zero_add, nc_neL no (by decide), steps_ok S' b hb, mul3, er]
    rw [comp_map (h := fun (i : Nat) => uD [b, b, b] (-60 + (i : Nat))) (List.range 121) fun i hi => ⟨_, rfl, rfl, by simp (disch := first | assumption | omega | (simp only [List.length_map, List.length_append, List.length_range, List.length_zip, List.length_drop, List.length_reverse, Int.reduceToNat, Bool.and_self, List.length_cons, List.length_nil, List.length_range] <;> omega) | fail) only [↓wp_bind, wp_bind, wp_ok, LTurn, LTook, runF, outF, inits, mSeq, mSet, mRet, mBin, mVar, mC, mIte, mTst, mB, mCons, mNil, mSkip, mAsg, mDrop, mPar, mPar3, mIf, mNotT, mAndT, mOrT, mNotV, mAndV, mOrV, mLst, mLstA, mTup, mFor, mIt, asI, asIL, mYes, mSl, mO, mO0, mNeg, mRng1, mRng2, mChain, mComp, mkL, wipeD, mZip, mEnum, mEnumT, mIsi, gN, gT, gCons', gNil', List.map_cons, List.map_nil, List.length_cons, List.length_nil, List.length_map, List.length_append, List.length_range, List.length_zip, List.length_drop, List.length_reverse, Int.reduceToNat, Bool.and_self, List.map_append, List.replicate, List.cons_append, List.nil_append, List.getElem?_cons_zero, List.getElem?_cons_succ, List.set_cons_zero, List.set_cons_succ, Res.bind_ok, Res.bind_bad, Nat.reduceAdd, Nat.reduceSub, Nat.reduceLeDiff, Int.cast_ofNat_Int, Int.natCast_add, Int.reduceNeg, Int.reduceSub, Int.reduceAdd, Int.reduceEq, Int.reduceLT, Int.reduceLE, reduceCtorEq, reduceIte, if_true, if_false, if_lim, decide_true, decide_false, Bool.not_true, Bool.not_false, Bool.false_eq_true, argN1, argN2, argN3, argN4, argN5, fMulA_ok, fMod_ok, fDiv_ok, fAdd_ok, fSub_ok, fGt_ok, fLt_ok, fLe_ok, fGe_ok, eqI_ok, neI_ok, eqS_ok, neS_ok, lenT_ok, lenL_ok, lenM_ok, ixT0, ixT1, ixT2, ixW0, ixW1, ixL0, ixL1, ixL2, ixT_last, ixT_mid, ixT_mid2, pick2_ok, pick3_ok, pick4_ok, pick5_ok, if_int, if_str, slT_to, slT_from, slT_from1, slT_to0, slT_fr0, slT_fr1, addT_ok, addL_ok, tupL_ok, anyBl, allBl, neI_nil, eqI_nil, sto_snoc, listT_ref, listT_val, Nat.zero_add, mul3]; all_goals rfl⟩]
    have nr := nc_row (Gok.three hb)
    unfold rowD at nr
    simp (disch := first | assumption | omega | (simp only [List.length_map, List.length_append, List.length_range, List.length_zip, List.length_drop, List.length_reverse, Int.reduceToNat, Bool.and_self, List.length_cons, List.length_nil, List.length_range] <;> omega) | fail) only [↓wp_bind, wp_bind, wp_ok, LTurn, LTook, runF, outF, inits, mSeq, mSet, mRet, mBin, mVar, mC, mIte, mTst, mB, mCons, mNil, mSkip, mAsg, mDrop, mPar, mPar3, mIf, mNotT, mAndT, mOrT, mNotV, mAndV, mOrV, mLst, mLstA, mTup, mFor, mIt, asI, asIL, mYes, mSl, mO, mO0, mNeg, mRng1, mRng2, mChain, mComp, mkL, wipeD, mZip, mEnum, mEnumT, mIsi, gN, gT, gCons', gNil', List.map_cons, List.map_nil, List.length_cons, List.length_nil, List.length_map, List.length_append, List.length_range, List.length_zip, List.length_drop, List.length_reverse, Int.reduceToNat, Bool.and_self, List.map_append, List.replicate, List.cons_append, List.nil_append, List.getElem?_cons_zero, List.getElem?_cons_succ, List.set_cons_zero, List.set_cons_succ, Res.bind_ok, Res.bind_bad, Nat.reduceAdd, Nat.reduceSub, Nat.reduceLeDiff, Int.cast_ofNat_Int, Int.natCast_add, Int.reduceNeg, Int.reduceSub, Int.reduceAdd, Int.reduceEq, Int.reduceLT, Int.reduceLE, reduceCtorEq, reduceIte, if_true, if_false, if_lim, decide_true, decide_false, Bool.not_true, Bool.not_false, Bool.false_eq_true, argN1, argN2, argN3, argN4, argN5, fMulA_ok, fMod_ok, fDiv_ok, fAdd_ok, fSub_ok, fGt_ok, fLt_ok, fLe_ok, fGe_ok, eqI_ok, neI_ok, eqS_ok, neS_ok, lenT_ok, lenL_ok, lenM_ok, ixT0, ixT1, ixT2, ixW0, ixW1, ixL0, ixL1, ixL2, ixT_last, ixT_mid, ixT_mid2, pick2_ok, pick3_ok, pick4_ok, pick5_ok, if_int, if_str, slT_to, slT_from, slT_from1, slT_to0, slT_fr0, slT_fr1, addT_ok, addL_ok, tupL_ok, anyBl, allBl, neI_nil, eqI_nil, sto_snoc, listT_ref, listT_val, Nat.zero_add, rowD, nc_neL nr (by decide)]
    exact ⟨(by first | rfl | trivial), fun p hp => hm p (by simp [hp]), _, _, _, (by first | rfl | trivial)⟩
  · obtain ⟨rfl, hm, x2, x3, x4, rfl⟩ := hP
    have nr := nc_row h.rev
    unfold rowD at nr
    have er : F__law_row S' [.tup (gr.map bD).reverse] = .ok (rowD gr.reverse) S' := by
      rw [← List.map_reverse]
      exact row_ok S' gr.reverse h.rev
    simp (disch := first | assumption | omega | (simp only [List.length_map, List.length_append, List.length_range, List.length_zip, List.length_drop, List.length_reverse, Int.reduceToNat, Bool.and_self, List.length_cons, List.length_nil, List.length_range] <;> omega) | fail) only [↓wp_bind, wp_bind, wp_ok, LTurn, LTook, runF, outF, inits, mSeq, mSet, mRet, mBin, mVar, mC, mIte, mTst, mB, mCons, mNil, mSkip, mAsg, mDrop, mPar, mPar3, mIf, mNotT, mAndT, mOrT, mNotV, mAndV, mOrV, mLst, mLstA, mTup, mFor, mIt, asI, asIL, mYes, mSl, mO, mO0, mNeg, mRng1, mRng2, mChain, mComp, mkL, wipeD, mZip, mEnum, mEnumT, mIsi, gN, gT, gCons', gNil', List.map_cons, List.map_nil, List.length_cons, List.length_nil, List.length_map, List.length_append, List.length_range, List.length_zip, List.length_drop, List.length_reverse, Int.reduceToNat, Bool.and_self, List.map_append, List.replicate, List.cons_append, List.nil_append, List.getElem?_cons_zero, List.getElem?_cons_succ, List.set_cons_zero, List.set_cons_succ, Res.bind_ok, Res.bind_bad, Nat.reduceAdd, Nat.reduceSub, Nat.reduceLeDiff, Int.cast_ofNat_Int, Int.natCast_add, Int.reduceNeg, Int.reduceSub, Int.reduceAdd, Int.reduceEq, Int.reduceLT, Int.reduceLE, reduceCtorEq, reduceIte, if_true, if_false, if_lim, decide_true, decide_false, Bool.not_true, Bool.not_false, Bool.false_eq_true, argN1, argN2, argN3, argN4, argN5, fMulA_ok, fMod_ok, fDiv_ok, fAdd_ok, fSub_ok, fGt_ok, fLt_ok, fLe_ok, fGe_ok, eqI_ok, neI_ok, eqS_ok, neS_ok, lenT_ok, lenL_ok, lenM_ok, ixT0, ixT1, ixT2, ixW0, ixW1, ixL0, ixL1, ixL2, ixT_last, ixT_mid, ixT_mid2, pick2_ok, pick3_ok, pick4_ok, pick5_ok, if_int, if_str, slT_to, slT_from, slT_from1, slT_to0, slT_fr0, slT_fr1, addT_ok, addL_ok, tupL_ok, anyBl, allBl, neI_nil, eqI_nil, sto_snoc, listT_ref, listT_val, Nat.zero_add, mRev, revD, er]
    simp (disch := first | assumption | omega | (simp only [List.length_map, List.length_append, List.length_range, List.length_zip, List.length_drop, List.length_reverse, Int.reduceToNat, Bool.and_self, List.length_cons, List.length_nil, List.length_range] <;> omega) | fail) only [↓wp_bind, wp_bind, wp_ok, LTurn, LTook, runF, outF, inits, mSeq, mSet, mRet, mBin, mVar, mC, mIte, mTst, mB, mCons, mNil, mSkip, mAsg, mDrop, mPar, mPar3, mIf, mNotT, mAndT, mOrT, mNotV, mAndV, mOrV, mLst, mLstA, mTup, mFor, mIt, asI, asIL, mYes, mSl, mO, mO0, mNeg, mRng1, mRng2, mChain, mComp, mkL, wipeD, mZip, mEnum, mEnumT, mIsi, gN, gT, gCons', gNil', List.map_cons, List.map_nil, List.length_cons, List.length_nil, List.length_map, List.length_append, List.length_range, List.length_zip, List.length_drop, List.length_reverse, Int.reduceToNat, Bool.and_self, List.map_append, List.replicate, List.cons_append, List.nil_append, List.getElem?_cons_zero, List.getElem?_cons_succ, List.set_cons_zero, List.set_cons_succ, Res.bind_ok, Res.bind_bad, Nat.reduceAdd, Nat.reduceSub, Nat.reduceLeDiff, Int.cast_ofNat_Int, Int.natCast_add, Int.reduceNeg, Int.reduceSub, Int.reduceAdd, Int.reduceEq, Int.reduceLT, Int.reduceLE, reduceCtorEq, reduceIte, if_true, if_false, if_lim, decide_true, decide_false, Bool.not_true, Bool.not_false, Bool.false_eq_true, argN1, argN2, argN3, argN4, argN5, fMulA_ok, fMod_ok, fDiv_ok, fAdd_ok, fSub_ok, fGt_ok, fLt_ok, fLe_ok, fGe_ok, eqI_ok, neI_ok, eqS_ok, neS_ok, lenT_ok, lenL_ok, lenM_ok, ixT0, ixT1, ixT2, ixW0, ixW1, ixL0, ixL1, ixL2, ixT_last, ixT_mid, ixT_mid2, pick2_ok, pick3_ok, pick4_ok, pick5_ok, if_int, if_str, slT_to, slT_from, slT_from1, slT_to0, slT_fr0, slT_fr1, addT_ok, addL_ok, tupL_ok, anyBl, allBl, neI_nil, eqI_nil, sto_snoc, listT_ref, listT_val, Nat.zero_add, rowD]
    rw [comp_map (h := fun (i : Nat) => uD gr.reverse (-60 + (i : Nat))) (List.range 121) fun i hi => ⟨_, rfl, rfl, by simp (disch := first | assumption | omega | (simp only [List.length_map, List.length_append, List.length_range, List.length_zip, List.length_drop, List.length_reverse, Int.reduceToNat, Bool.and_self, List.length_cons, List.length_nil, List.length_range] <;> omega) | fail) only [↓wp_bind, wp_bind, wp_ok, LTurn, LTook, runF, outF, inits, mSeq, mSet, mRet, mBin, mVar, mC, mIte, mTst, mB, mCons, mNil, mSkip, mAsg, mDrop, mPar, mPar3, mIf, mNotT, mAndT, mOrT, mNotV, mAndV, mOrV, mLst, mLstA, mTup, mFor, mIt, asI, asIL, mYes, mSl, mO, mO0, mNeg, mRng1, mRng2, mChain, mComp, mkL, wipeD, mZip, mEnum, mEnumT, mIsi, gN, gT, gCons', gNil', List.map_cons, List.map_nil, List.length_cons, List.length_nil, List.length_map, List.length_append, List.length_range, List.length_zip, List.length_drop, List.length_reverse, Int.reduceToNat, Bool.and_self, List.map_append, List.replicate, List.cons_append, List.nil_append, List.getElem?_cons_zero, List.getElem?_cons_succ, List.set_cons_zero, List.set_cons_succ, Res.bind_ok, Res.bind_bad, Nat.reduceAdd, Nat.reduceSub, Nat.reduceLeDiff, Int.cast_ofNat_Int, Int.natCast_add, Int.reduceNeg, Int.reduceSub, Int.reduceAdd, Int.reduceEq, Int.reduceLT, Int.reduceLE, reduceCtorEq, reduceIte, if_true, if_false, if_lim, decide_true, decide_false, Bool.not_true, Bool.not_false, Bool.false_eq_true, argN1, argN2, argN3, argN4, argN5, fMulA_ok, fMod_ok, fDiv_ok, fAdd_ok, fSub_ok, fGt_ok, fLt_ok, fLe_ok, fGe_ok, eqI_ok, neI_ok, eqS_ok, neS_ok, lenT_ok, lenL_ok, lenM_ok, ixT0, ixT1, ixT2, ixW0, ixW1, ixL0, ixL1, ixL2, ixT_last, ixT_mid, ixT_mid2, pick2_ok, pick3_ok, pick4_ok, pick5_ok, if_int, if_str, slT_to, slT_from, slT_from1, slT_to0, slT_fr0, slT_fr1, addT_ok, addL_ok, tupL_ok, anyBl, allBl, neI_nil, eqI_nil, sto_snoc, listT_ref, listT_val, Nat.zero_add, mRev, rev_u]⟩]
    simp (disch := first | assumption | omega | (simp only [List.length_map, List.length_append, List.length_range, List.length_zip, List.length_drop, List.length_reverse, Int.reduceToNat, Bool.and_self, List.length_cons, List.length_nil, List.length_range] <;> omega) | fail) only [↓wp_bind, wp_bind, wp_ok, LTurn, LTook, runF, outF, inits, mSeq, mSet, mRet, mBin, mVar, mC, mIte, mTst, mB, mCons, mNil, mSkip, mAsg, mDrop, mPar, mPar3, mIf, mNotT, mAndT, mOrT, mNotV, mAndV, mOrV, mLst, mLstA, mTup, mFor, mIt, asI, asIL, mYes, mSl, mO, mO0, mNeg, mRng1, mRng2, mChain, mComp, mkL, wipeD, mZip, mEnum, mEnumT, mIsi, gN, gT, gCons', gNil', List.map_cons, List.map_nil, List.length_cons, List.length_nil, List.length_map, List.length_append, List.length_range, List.length_zip, List.length_drop, List.length_reverse, Int.reduceToNat, Bool.and_self, List.map_append, List.replicate, List.cons_append, List.nil_append, List.getElem?_cons_zero, List.getElem?_cons_succ, List.set_cons_zero, List.set_cons_succ, Res.bind_ok, Res.bind_bad, Nat.reduceAdd, Nat.reduceSub, Nat.reduceLeDiff, Int.cast_ofNat_Int, Int.natCast_add, Int.reduceNeg, Int.reduceSub, Int.reduceAdd, Int.reduceEq, Int.reduceLT, Int.reduceLE, reduceCtorEq, reduceIte, if_true, if_false, if_lim, decide_true, decide_false, Bool.not_true, Bool.not_false, Bool.false_eq_true, argN1, argN2, argN3, argN4, argN5, fMulA_ok, fMod_ok, fDiv_ok, fAdd_ok, fSub_ok, fGt_ok, fLt_ok, fLe_ok, fGe_ok, eqI_ok, neI_ok, eqS_ok, neS_ok, lenT_ok, lenL_ok, lenM_ok, ixT0, ixT1, ixT2, ixW0, ixW1, ixL0, ixL1, ixL2, ixT_last, ixT_mid, ixT_mid2, pick2_ok, pick3_ok, pick4_ok, pick5_ok, if_int, if_str, slT_to, slT_from, slT_from1, slT_to0, slT_fr0, slT_fr1, addT_ok, addL_ok, tupL_ok, anyBl, allBl, neI_nil, eqI_nil, sto_snoc, listT_ref, listT_val, Nat.zero_add, nc_eqL nr (by decide)]
    exact ⟨(by first | rfl | trivial), (by first | rfl | trivial)⟩
/-! ### moved -/
def sh (m : Int) (r : Int × Int) : Int × Int := (r.1 + m, r.2)
def inR (r : Int × Int) : Bool := decide (-61 < r.1) && decide (r.1 < 61)
def mv (m : Int) (b : Bd) : Bd := ((b.1.map (sh m)).filter inR, b.2)
theorem wp_moved {n : Nat} {M T : Sto} {gr : List Bd} {m : Int} {Q : D → Sto → Prop} (g : G n M) (tok : Tok T) (h : Gok gr) (k : Q (gD (gr.map (mv m))) (M ++ T)) : Wp (F__law_moved (M ++ T) [gD gr, .int m]) Q tg := by
  have l0 := g.len
  have few := h.few
  unfold F__law_moved trimF m__law_moved
  rw [show gD gr = .tup (gr.map bD) from rfl]
  simp (disch := first | assumption | omega | (simp only [List.length_map, List.length_append, List.length_range, List.length_zip, List.length_drop, List.length_reverse, Int.reduceToNat, Bool.and_self, List.length_cons, List.length_nil, List.length_range] <;> omega) | fail) only [↓wp_bind, wp_bind, wp_ok, LTurn, LTook, runF, outF, inits, mSeq, mSet, mRet, mBin, mVar, mC, mIte, mTst, mB, mCons, mNil, mSkip, mAsg, mDrop, mPar, mPar3, mIf, mNotT, mAndT, mOrT, mNotV, mAndV, mOrV, mLst, mLstA, mTup, mFor, mIt, asI, asIL, mYes, mSl, mO, mO0, mNeg, mRng1, mRng2, mChain, mComp, mkL, wipeD, mZip, mEnum, mEnumT, mIsi, gN, gT, gCons', gNil', List.map_cons, List.map_nil, List.length_cons, List.length_nil, List.length_map, List.length_append, List.length_range, List.length_zip, List.length_drop, List.length_reverse, Int.reduceToNat, Bool.and_self, List.map_append, List.replicate, List.cons_append, List.nil_append, List.getElem?_cons_zero, List.getElem?_cons_succ, List.set_cons_zero, List.set_cons_succ, Res.bind_ok, Res.bind_bad, Nat.reduceAdd, Nat.reduceSub, Nat.reduceLeDiff, Int.cast_ofNat_Int, Int.natCast_add, Int.reduceNeg, Int.reduceSub, Int.reduceAdd, Int.reduceEq, Int.reduceLT, Int.reduceLE, reduceCtorEq, reduceIte, if_true, if_false, if_lim, decide_true, decide_false, Bool.not_true, Bool.not_false, Bool.false_eq_true, argN1, argN2, argN3, argN4, argN5, fMulA_ok, fMod_ok, fDiv_ok, fAdd_ok, fSub_ok, fGt_ok, fLt_ok, fLe_ok, fGe_ok, eqI_ok, neI_ok, eqS_ok, neS_ok, lenT_ok, lenL_ok, lenM_ok, ixT0, ixT1, ixT2, ixW0, ixW1, ixL0, ixL1, ixL2, ixT_last, ixT_mid, ixT_mid2, pick2_ok, pick3_ok, pick4_ok, pick5_ok, if_int, if_str, slT_to, slT_from, slT_from1, slT_to0, slT_fr0, slT_fr1, addT_ok, addL_ok, tupL_ok, anyBl, allBl, neI_nil, eqI_nil, sto_snoc, listT_ref, listT_val, Nat.zero_add, l0]
  refine wp_loop (fun (rest : List Bd) sl S => ∃ done x3 x4 x5, done ++ rest = gr ∧ sl = [some (.tup (gr.map bD)), some (.int m), some (.ref (3 + T.length)), x3, x4, x5, none, none] ∧ S = M ++ (T ++ [.lst ((done.map (mv m)).map bD)])) (fun b rest sl S hP => ?_) (fun sl S hP => ?_) _ _ _ ⟨[], _, _, _, rfl, rfl, rfl⟩
  · obtain ⟨done, x3, x4, x5, hd, rfl, rfl⟩ := hP
    have hb := h.all b (by rw [← hd]; simp)
    have fb := hb.few
    have hl : done.length + (rest.length + 1) = gr.length := by rw [← hd, List.length_append, List.length_cons]
    simp (disch := first | assumption | omega | (simp only [List.length_map, List.length_append, List.length_range, List.length_zip, List.length_drop, List.length_reverse, Int.reduceToNat, Bool.and_self, List.length_cons, List.length_nil, List.length_range] <;> omega) | fail) only [↓wp_bind, wp_bind, wp_ok, LTurn, LTook, runF, outF, inits, mSeq, mSet, mRet, mBin, mVar, mC, mIte, mTst, mB, mCons, mNil, mSkip, mAsg, mDrop, mPar, mPar3, mIf, mNotT, mAndT, mOrT, mNotV, mAndV, mOrV, mLst, mLstA, mTup, mFor, mIt, asI, asIL, mYes, mSl, mO, mO0, mNeg, mRng1, mRng2, mChain, mComp, mkL, wipeD, mZip, mEnum, mEnumT, mIsi, gN, gT, gCons', gNil', List.map_cons, List.map_nil, List.length_cons, List.length_nil, List.length_map, List.length_append, List.length_range, List.length_zip, List.length_drop, List.length_reverse, Int.reduceToNat, Bool.and_self, List.map_append, List.replicate, List.cons_append, List.nil_append, List.getElem?_cons_zero, List.getElem?_cons_succ, List.set_cons_zero, List.set_cons_succ, Res.bind_ok, Res.bind_bad, Nat.reduceAdd, Nat.reduceSub, Nat.reduceLeDiff, Int.cast_ofNat_Int, Int.natCast_add, Int.reduceNeg, Int.reduceSub, Int.reduceAdd, Int.reduceEq, Int.reduceLT, Int.reduceLE, reduceCtorEq, reduceIte, if_true, if_false, if_lim, decide_true, decide_false, Bool.not_true, Bool.not_false, Bool.false_eq_true, argN1, argN2, argN3, argN4, argN5, fMulA_ok, fMod_ok, fDiv_ok, fAdd_ok, fSub_ok, fGt_ok, fLt_ok, fLe_ok, fGe_ok, eqI_ok, neI_ok, eqS_ok, neS_ok, lenT_ok, lenL_ok, lenM_ok, ixT0, ixT1, ixT2, ixW0, ixW1, ixL0, ixL1, ixL2, ixT_last, ixT_mid, ixT_mid2, pick2_ok, pick3_ok, pick4_ok, pick5_ok, if_int, if_str, slT_to, slT_from, slT_from1, slT_to0, slT_fr0, slT_fr1, addT_ok, addL_ok, tupL_ok, anyBl, allBl, neI_nil, eqI_nil, sto_snoc, listT_ref, listT_val, Nat.zero_add, bD]
    rw [comp_filter (p := fun r => inR (sh m r)) (h := fun r => rD (sh m r)) b.1 fun r hr => ⟨_, by simp (disch := first | assumption | omega | (simp only [List.length_map, List.length_append, List.length_range, List.length_zip, List.length_drop, List.length_reverse, Int.reduceToNat, Bool.and_self, List.length_cons, List.length_nil, List.length_range] <;> omega) | fail) only [↓wp_bind, wp_bind, wp_ok, LTurn, LTook, runF, outF, inits, mSeq, mSet, mRet, mBin, mVar, mC, mIte, mTst, mB, mCons, mNil, mSkip, mAsg, mDrop, mPar, mPar3, mIf, mNotT, mAndT, mOrT, mNotV, mAndV, mOrV, mLst, mLstA, mTup, mFor, mIt, asI, asIL, mYes, mSl, mO, mO0, mNeg, mRng1, mRng2, mChain, mComp, mkL, wipeD, mZip, mEnum, mEnumT, mIsi, gN, gT, gCons', gNil', List.map_cons, List.map_nil, List.length_cons, List.length_nil, List.length_map, List.length_append, List.length_range, List.length_zip, List.length_drop, List.length_reverse, Int.reduceToNat, Bool.and_self, List.map_append, List.replicate, List.cons_append, List.nil_append, List.getElem?_cons_zero, List.getElem?_cons_succ, List.set_cons_zero, List.set_cons_succ, Res.bind_ok, Res.bind_bad, Nat.reduceAdd, Nat.reduceSub, Nat.reduceLeDiff, Int.cast_ofNat_Int, Int.natCast_add, Int.reduceNeg, Int.reduceSub, Int.reduceAdd, Int.reduceEq, Int.reduceLT, Int.reduceLE, reduceCtorEq, reduceIte, if_true, if_false, if_lim, decide_true, decide_false, Bool.not_true, Bool.not_false, Bool.false_eq_true, argN1, argN2, argN3, argN4, argN5, fMulA_ok, fMod_ok, fDiv_ok, fAdd_ok, fSub_ok, fGt_ok, fLt_ok, fLe_ok, fGe_ok, eqI_ok, neI_ok, eqS_ok, neS_ok, lenT_ok, lenL_ok, lenM_ok, ixT0, ixT1, ixT2, ixW0, ixW1, ixL0, ixL1, ixL2, ixT_last, ixT_mid, ixT_mid2, pick2_ok, pick3_ok, pick4_ok, pick5_ok, if_int, if_str, slT_to, slT_from, slT_from1, slT_to0, slT_fr0, slT_fr1, addT_ok, addL_ok, tupL_ok, anyBl, allBl, neI_nil, eqI_nil, sto_snoc, listT_ref, listT_val, Nat.zero_add, rD]; rfl, by
      unfold inR sh
      by_cases h1 : -61 < r.1 + m
      · simp (disch := first | assumption | omega | (simp only [List.length_map, List.length_append, List.length_range, List.length_zip, List.length_drop, List.length_reverse, Int.reduceToNat, Bool.and_self, List.length_cons, List.length_nil, List.length_range] <;> omega) | fail) only [↓wp_bind, wp_bind, wp_ok, LTurn, LTook, runF, outF, inits, mSeq, mSet, mRet, mBin, mVar, mC, mIte, mTst, mB, mCons, mNil, mSkip, mAsg, mDrop, mPar, mPar3, mIf, mNotT, mAndT, mOrT, mNotV, mAndV, mOrV, mLst, mLstA, mTup, mFor, mIt, asI, asIL, mYes, mSl, mO, mO0, mNeg, mRng1, mRng2, mChain, mComp, mkL, wipeD, mZip, mEnum, mEnumT, mIsi, gN, gT, gCons', gNil', List.map_cons, List.map_nil, List.length_cons, List.length_nil, List.length_map, List.length_append, List.length_range, List.length_zip, List.length_drop, List.length_reverse, Int.reduceToNat, Bool.and_self, List.map_append, List.replicate, List.cons_append, List.nil_append, List.getElem?_cons_zero, List.getElem?_cons_succ, List.set_cons_zero, List.set_cons_succ, Res.bind_ok, Res.bind_bad, Nat.reduceAdd, Nat.reduceSub, Nat.reduceLeDiff, Int.cast_ofNat_Int, Int.natCast_add, Int.reduceNeg, Int.reduceSub, Int.reduceAdd, Int.reduceEq, Int.reduceLT, Int.reduceLE, reduceCtorEq, reduceIte, if_true, if_false, if_lim, decide_true, decide_false, Bool.not_true, Bool.not_false, Bool.false_eq_true, argN1, argN2, argN3, argN4, argN5, fMulA_ok, fMod_ok, fDiv_ok, fAdd_ok, fSub_ok, fGt_ok, fLt_ok, fLe_ok, fGe_ok, eqI_ok, neI_ok, eqS_ok, neS_ok, lenT_ok, lenL_ok, lenM_ok, ixT0, ixT1, ixT2, ixW0, ixW1, ixL0, ixL1, ixL2, ixT_last, ixT_mid, ixT_mid2, pick2_ok, pick3_ok, pick4_ok, pick5_ok, if_int, if_str, slT_to, slT_from, slT_from1, slT_to0, slT_fr0, slT_fr1, addT_ok, addL_ok, tupL_ok, anyBl, allBl, neI_nil, eqI_nil, sto_snoc, listT_ref, listT_val, Nat.zero_add, h1, Bool.true_and]
      · simp (disch := first | assumption | omega | (simp only [List.length_map, List.length_append, List.length_range, List.length_zip, List.length_drop, List.length_reverse, Int.reduceToNat, Bool.and_self, List.length_cons, List.length_nil, List.length_range] <;> omega) | fail) only [↓wp_bind, wp_bind, wp_ok, LTurn, LTook, runF, outF, inits, mSeq, mSet, mRet, mBin, mVar, mC, mIte, mTst, mB, mCons, mNil, mSkip, mAsg, mDrop, mPar, mPar3, mIf, mNotT, mAndT, mOrT, mNotV, mAndV, mOrV, mLst, mLstA, mTup, mFor, mIt, asI, asIL, mYes, mSl, mO, mO0, mNeg, mRng1, mRng2, mChain, mComp, mkL, wipeD, mZip, mEnum, mEnumT, mIsi, gN, gT, gCons', gNil', List.map_cons, List.map_nil, List.length_cons, List.length_nil, List.length_map, List.length_append, List.length_range, List.length_zip, List.length_drop, List.length_reverse, Int.reduceToNat, Bool.and_self, List.map_append, List.replicate, List.cons_append, List.nil_append, List.getElem?_cons_zero, List.getElem?_cons_succ, List.set_cons_zero, List.set_cons_succ, Res.bind_ok, Res.bind_bad, Nat.reduceAdd, Nat.reduceSub, Nat.reduceLeDiff, Int.cast_ofNat_Int, Int.natCast_add, Int.reduceNeg, Int.reduceSub, Int.reduceAdd, Int.reduceEq, Int.reduceLT, Int.reduceLE, reduceCtorEq, reduceIte, if_true, if_false, if_lim, decide_true, decide_false, Bool.not_true, Bool.not_false, Bool.false_eq_true, argN1, argN2, argN3, argN4, argN5, fMulA_ok, fMod_ok, fDiv_ok, fAdd_ok, fSub_ok, fGt_ok, fLt_ok, fLe_ok, fGe_ok, eqI_ok, neI_ok, eqS_ok, neS_ok, lenT_ok, lenL_ok, lenM_ok, ixT0, ixT1, ixT2, ixW0, ixW1, ixL0, ixL1, ixL2, ixT_last, ixT_mid, ixT_mid2, pick2_ok, pick3_ok, pick4_ok, pick5_ok, if_int, if_str, slT_to, slT_from, slT_from1, slT_to0, slT_fr0, slT_fr1, addT_ok, addL_ok, tupL_ok, anyBl, allBl, neI_nil, eqI_nil, sto_snoc, listT_ref, listT_val, Nat.zero_add, h1, Bool.false_and], fun _ => by simp (disch := first | assumption | omega | (simp only [List.length_map, List.length_append, List.length_range, List.length_zip, List.length_drop, List.length_reverse, Int.reduceToNat, Bool.and_self, List.length_cons, List.length_nil, List.length_range] <;> omega) | fail) only [↓wp_bind, wp_bind, wp_ok, LTurn, LTook, runF, outF, inits, mSeq, mSet, mRet, mBin, mVar, mC, mIte, mTst, mB, mCons, mNil, mSkip, mAsg, mDrop, mPar, mPar3, mIf, mNotT, mAndT, mOrT, mNotV, mAndV, mOrV, mLst, mLstA, mTup, mFor, mIt, asI, asIL, mYes, mSl, mO, mO0, mNeg, mRng1, mRng2, mChain, mComp, mkL, wipeD, mZip, mEnum, mEnumT, mIsi, gN, gT, gCons', gNil', List.map_cons, List.map_nil, List.length_cons, List.length_nil, List.length_map, List.length_append, List.length_range, List.length_zip, List.length_drop, List.length_reverse, Int.reduceToNat, Bool.and_self, List.map_append, List.replicate, List.cons_append, List.nil_append, List.getElem?_cons_zero, List.getElem?_cons_succ, List.set_cons_zero, List.set_cons_succ, Res.bind_ok, Res.bind_bad, Nat.reduceAdd, Nat.reduceSub, Nat.reduceLeDiff, Int.cast_ofNat_Int, Int.natCast_add, Int.reduceNeg, Int.reduceSub, Int.reduceAdd, Int.reduceEq, Int.reduceLT, Int.reduceLE, reduceCtorEq, reduceIte, if_true, if_false, if_lim, decide_true, decide_false, Bool.not_true, Bool.not_false, Bool.false_eq_true, argN1, argN2, argN3, argN4, argN5, fMulA_ok, fMod_ok, fDiv_ok, fAdd_ok, fSub_ok, fGt_ok, fLt_ok, fLe_ok, fGe_ok, eqI_ok, neI_ok, eqS_ok, neS_ok, lenT_ok, lenL_ok, lenM_ok, ixT0, ixT1, ixT2, ixW0, ixW1, ixL0, ixL1, ixL2, ixT_last, ixT_mid, ixT_mid2, pick2_ok, pick3_ok, pick4_ok, pick5_ok, if_int, if_str, slT_to, slT_from, slT_from1, slT_to0, slT_fr0, slT_fr1, addT_ok, addL_ok, tupL_ok, anyBl, allBl, neI_nil, eqI_nil, sto_snoc, listT_ref, listT_val, Nat.zero_add, rD, sh]⟩]
    have e : (b.1.filter fun r => inR (sh m r)).map (fun r => rD (sh m r)) = (mv m b).1.map rD := by
      unfold mv
      rw [List.filter_map, List.map_map]
      rfl
    rw [e]
    simp (disch := first | assumption | omega | (simp only [List.length_map, List.length_append, List.length_range, List.length_zip, List.length_drop, List.length_reverse, Int.reduceToNat, Bool.and_self, List.length_cons, List.length_nil, List.length_range] <;> omega) | fail) only [↓wp_bind, wp_bind, wp_ok, LTurn, LTook, runF, outF, inits, mSeq, mSet, mRet, mBin, mVar, mC, mIte, mTst, mB, mCons, mNil, mSkip, mAsg, mDrop, mPar, mPar3, mIf, mNotT, mAndT, mOrT, mNotV, mAndV, mOrV, mLst, mLstA, mTup, mFor, mIt, asI, asIL, mYes, mSl, mO, mO0, mNeg, mRng1, mRng2, mChain, mComp, mkL, wipeD, mZip, mEnum, mEnumT, mIsi, gN, gT, gCons', gNil', List.map_cons, List.map_nil, List.length_cons, List.length_nil, List.length_map, List.length_append, List.length_range, List.length_zip, List.length_drop, List.length_reverse, Int.reduceToNat, Bool.and_self, List.map_append, List.replicate, List.cons_append, List.nil_append, List.getElem?_cons_zero, List.getElem?_cons_succ, List.set_cons_zero, List.set_cons_succ, Res.bind_ok, Res.bind_bad, Nat.reduceAdd, Nat.reduceSub, Nat.reduceLeDiff, Int.cast_ofNat_Int, Int.natCast_add, Int.reduceNeg, Int.reduceSub, Int.reduceAdd, Int.reduceEq, Int.reduceLT, Int.reduceLE, reduceCtorEq, reduceIte, if_true, if_false, if_lim, decide_true, decide_false, Bool.not_true, Bool.not_false, Bool.false_eq_true, argN1, argN2, argN3, argN4, argN5, fMulA_ok, fMod_ok, fDiv_ok, fAdd_ok, fSub_ok, fGt_ok, fLt_ok, fLe_ok, fGe_ok, eqI_ok, neI_ok, eqS_ok, neS_ok, lenT_ok, lenL_ok, lenM_ok, ixT0, ixT1, ixT2, ixW0, ixW1, ixL0, ixL1, ixL2, ixT_last, ixT_mid, ixT_mid2, pick2_ok, pick3_ok, pick4_ok, pick5_ok, if_int, if_str, slT_to, slT_from, slT_from1, slT_to0, slT_fr0, slT_fr1, addT_ok, addL_ok, tupL_ok, anyBl, allBl, neI_nil, eqI_nil, sto_snoc, listT_ref, listT_val, Nat.zero_add, mApp, appR_ok (cell1 l0) (cell1 l0), set1 l0]
    refine ⟨done ++ [b], _, _, _, by rw [List.append_assoc]; exact hd, (by first | rfl | trivial), ?_⟩
    rw [List.map_append, List.map_append]
    rfl
  · obtain ⟨done, x3, x4, x5, hd, rfl, rfl⟩ := hP
    rw [List.append_nil] at hd
    subst hd
    have e := trim_ok' (U := [.lst ((done.map (mv m)).map bD)]) g g tok (bnd_g 3 (done.map (mv m)))
    simp only [gD, List.length_append] at e
    simp (disch := first | assumption | omega | (simp only [List.length_map, List.length_append, List.length_range, List.length_zip, List.length_drop, List.length_reverse, Int.reduceToNat, Bool.and_self, List.length_cons, List.length_nil, List.length_range] <;> omega) | fail) only [↓wp_bind, wp_bind, wp_ok, LTurn, LTook, runF, outF, inits, mSeq, mSet, mRet, mBin, mVar, mC, mIte, mTst, mB, mCons, mNil, mSkip, mAsg, mDrop, mPar, mPar3, mIf, mNotT, mAndT, mOrT, mNotV, mAndV, mOrV, mLst, mLstA, mTup, mFor, mIt, asI, asIL, mYes, mSl, mO, mO0, mNeg, mRng1, mRng2, mChain, mComp, mkL, wipeD, mZip, mEnum, mEnumT, mIsi, gN, gT, gCons', gNil', List.map_cons, List.map_nil, List.length_cons, List.length_nil, List.length_map, List.length_append, List.length_range, List.length_zip, List.length_drop, List.length_reverse, Int.reduceToNat, Bool.and_self, List.map_append, List.replicate, List.cons_append, List.nil_append, List.getElem?_cons_zero, List.getElem?_cons_succ, List.set_cons_zero, List.set_cons_succ, Res.bind_ok, Res.bind_bad, Nat.reduceAdd, Nat.reduceSub, Nat.reduceLeDiff, Int.cast_ofNat_Int, Int.natCast_add, Int.reduceNeg, Int.reduceSub, Int.reduceAdd, Int.reduceEq, Int.reduceLT, Int.reduceLE, reduceCtorEq, reduceIte, if_true, if_false, if_lim, decide_true, decide_false, Bool.not_true, Bool.not_false, Bool.false_eq_true, argN1, argN2, argN3, argN4, argN5, fMulA_ok, fMod_ok, fDiv_ok, fAdd_ok, fSub_ok, fGt_ok, fLt_ok, fLe_ok, fGe_ok, eqI_ok, neI_ok, eqS_ok, neS_ok, lenT_ok, lenL_ok, lenM_ok, ixT0, ixT1, ixT2, ixW0, ixW1, ixL0, ixL1, ixL2, ixT_last, ixT_mid, ixT_mid2, pick2_ok, pick3_ok, pick4_ok, pick5_ok, if_int, if_str, slT_to, slT_from, slT_from1, slT_to0, slT_fr0, slT_fr1, addT_ok, addL_ok, tupL_ok, anyBl, allBl, neI_nil, eqI_nil, sto_snoc, listT_ref, listT_val, Nat.zero_add, tupR_ok (cell1 l0), e]
    exact k
theorem mv_all {b : Bd} {m : Int} (h : ¬ (mv m b).1.length < b.1.length) : (mv m b).1 = b.1.map (sh m) ∧ ∀ r ∈ b.1, inR (sh m r) = true := by
  unfold mv at h ⊢
  simp only at h ⊢
  have h2 := List.length_filter_le inR (b.1.map (sh m))
  rw [List.length_map] at h2
  have e : ((b.1.map (sh m)).filter inR).length = (b.1.map (sh m)).length := by rw [List.length_map]; omega
  have a := List.length_filter_eq_length_iff.mp e
  exact ⟨List.filter_eq_self.mpr a, fun r hr => a _ (List.mem_map.mpr ⟨r, hr, rfl⟩)⟩
theorem mv_ok {b : Bd} {m : Int} (hb : Bok b) (h : ¬ (mv m b).1.length < b.1.length) : Bok (mv m b) ∧ ∀ w, unitsF (mv m b).1 w = unitsF b.1 (w - m) := by
  obtain ⟨e, a⟩ := mv_all h
  refine ⟨⟨by rw [e, List.length_map]; exact hb.few, ?_, fun r hr => ?_, hb.most⟩, fun w => ?_⟩
  · rw [e, List.map_map]
    have q := hb.rise
    rw [show (Prod.fst ∘ sh m) = (fun x => x + m) ∘ Prod.fst from rfl, ← List.map_map]
    exact List.Pairwise.map _ (fun x y hxy => by omega) q
  · rw [e] at hr
    obtain ⟨x, hx, rfl⟩ := List.mem_map.mp hr
    have ha := a x hx
    unfold inR at ha
    rw [Bool.and_eq_true] at ha
    have h1 := of_decide_eq_true ha.1
    have h2 := of_decide_eq_true ha.2
    exact ⟨by omega, (hb.at_ x hx).2⟩
  · rw [e]
    unfold unitsF
    rw [List.foldl_map]
    have gen : ∀ (C : List (Int × Int)) (f : Int), C.foldl (fun found r => if (sh m r).1 < w then (sh m r).2 else found) f = C.foldl (fun found r => if r.1 < w - m then r.2 else found) f := by
      intro C
      induction C with
      | nil => exact fun f => rfl
      | cons r C ih =>
        intro f
        rw [List.foldl_cons, List.foldl_cons, ih]
        unfold sh
        simp only
        by_cases hr : r.1 + m < w
        · rw [if_pos hr, if_pos (by omega)]
        · rw [if_neg hr, if_neg (by omega)]
    exact gen b.1 0
theorem ne_nilI {ι : Type} {f : ι → Int} (xs : List ι) (S : Sto) : fEqA true S (.lst (xs.map fun i => D.int (f i))) (.lst []) = .ok (.bl (!xs.isEmpty)) S := by
  have q := neI_nil (S := S) (ns := xs.map f)
  rw [List.map_map] at q
  exact q.trans (by cases xs <;> rfl)
theorem wp_moved_right {n : Nat} {M T : Sto} {gr : List Bd} {m : Int} {Q : D → Sto → Prop} (g : G n M) (tok : Tok T) (h : Gok gr) (k : Q (.bl true) (M ++ T)) : Wp (F__law_moved_right (M ++ T) [gD gr, rowD gr, .int m]) Q tg := by
  have few := h.few
  unfold F__law_moved_right m__law_moved_right
  simp (disch := first | assumption | omega | (simp only [List.length_map, List.length_append, List.length_range, List.length_zip, List.length_drop, List.length_reverse, Int.reduceToNat, Bool.and_self, List.length_cons, List.length_nil, List.length_range] <;> omega) | fail) only [↓wp_bind, wp_bind, wp_ok, LTurn, LTook, runF, outF, inits, mSeq, mSet, mRet, mBin, mVar, mC, mIte, mTst, mB, mCons, mNil, mSkip, mAsg, mDrop, mPar, mPar3, mIf, mNotT, mAndT, mOrT, mNotV, mAndV, mOrV, mLst, mLstA, mTup, mFor, mIt, asI, asIL, mYes, mSl, mO, mO0, mNeg, mRng1, mRng2, mChain, mComp, mkL, wipeD, mZip, mEnum, mEnumT, mIsi, gN, gT, gCons', gNil', List.map_cons, List.map_nil, List.length_cons, List.length_nil, List.length_map, List.length_append, List.length_range, List.length_zip, List.length_drop, List.length_reverse, Int.reduceToNat, Bool.and_self, List.map_append, List.replicate, List.cons_append, List.nil_append, List.getElem?_cons_zero, List.getElem?_cons_succ, List.set_cons_zero, List.set_cons_succ, Res.bind_ok, Res.bind_bad, Nat.reduceAdd, Nat.reduceSub, Nat.reduceLeDiff, Int.cast_ofNat_Int, Int.natCast_add, Int.reduceNeg, Int.reduceSub, Int.reduceAdd, Int.reduceEq, Int.reduceLT, Int.reduceLE, reduceCtorEq, reduceIte, if_true, if_false, if_lim, decide_true, decide_false, Bool.not_true, Bool.not_false, Bool.false_eq_true, argN1, argN2, argN3, argN4, argN5, fMulA_ok, fMod_ok, fDiv_ok, fAdd_ok, fSub_ok, fGt_ok, fLt_ok, fLe_ok, fGe_ok, eqI_ok, neI_ok, eqS_ok, neS_ok, lenT_ok, lenL_ok, lenM_ok, ixT0, ixT1, ixT2, ixW0, ixW1, ixL0, ixL1, ixL2, ixT_last, ixT_mid, ixT_mid2, pick2_ok, pick3_ok, pick4_ok, pick5_ok, if_int, if_str, slT_to, slT_from, slT_from1, slT_to0, slT_fr0, slT_fr1, addT_ok, addL_ok, tupL_ok, anyBl, allBl, neI_nil, eqI_nil, sto_snoc, listT_ref, listT_val, Nat.zero_add]
  refine wp_moved g tok h ?_
  have eL : ∀ S : Sto, fLen S [gD gr] = .ok (.int (gr.length : Nat)) S := fun S => by rw [gD, lenT_ok, List.length_map]
  simp (disch := first | assumption | omega | (simp only [List.length_map, List.length_append, List.length_range, List.length_zip, List.length_drop, List.length_reverse, Int.reduceToNat, Bool.and_self, List.length_cons, List.length_nil, List.length_range] <;> omega) | fail) only [↓wp_bind, wp_bind, wp_ok, LTurn, LTook, runF, outF, inits, mSeq, mSet, mRet, mBin, mVar, mC, mIte, mTst, mB, mCons, mNil, mSkip, mAsg, mDrop, mPar, mPar3, mIf, mNotT, mAndT, mOrT, mNotV, mAndV, mOrV, mLst, mLstA, mTup, mFor, mIt, asI, asIL, mYes, mSl, mO, mO0, mNeg, mRng1, mRng2, mChain, mComp, mkL, wipeD, mZip, mEnum, mEnumT, mIsi, gN, gT, gCons', gNil', List.map_cons, List.map_nil, List.length_cons, List.length_nil, List.length_map, List.length_append, List.length_range, List.length_zip, List.length_drop, List.length_reverse, Int.reduceToNat, Bool.and_self, List.map_append, List.replicate, List.cons_append, List.nil_append, List.getElem?_cons_zero, List.getElem?_cons_succ, List.set_cons_zero, List.set_cons_succ, Res.bind_ok, Res.bind_bad, Nat.reduceAdd, Nat.reduceSub, Nat.reduceLeDiff, Int.cast_ofNat_Int, Int.natCast_add, Int.reduceNeg, Int.reduceSub, Int.reduceAdd, Int.reduceEq, Int.reduceLT, Int.reduceLE, reduceCtorEq, reduceIte, if_true, if_false, if_lim, decide_true, decide_false, Bool.not_true, Bool.not_false, Bool.false_eq_true, argN1, argN2, argN3, argN4, argN5, fMulA_ok, fMod_ok, fDiv_ok, fAdd_ok, fSub_ok, fGt_ok, fLt_ok, fLe_ok, fGe_ok, eqI_ok, neI_ok, eqS_ok, neS_ok, lenT_ok, lenL_ok, lenM_ok, ixT0, ixT1, ixT2, ixW0, ixW1, ixL0, ixL1, ixL2, ixT_last, ixT_mid, ixT_mid2, pick2_ok, pick3_ok, pick4_ok, pick5_ok, if_int, if_str, slT_to, slT_from, slT_from1, slT_to0, slT_fr0, slT_fr1, addT_ok, addL_ok, tupL_ok, anyBl, allBl, neI_nil, eqI_nil, sto_snoc, listT_ref, listT_val, Nat.zero_add, eL, rngOk_ok, Int.toNat_natCast]
  rw [comp_filter (p := fun (i : Nat) => decide ((mv m (gr.getD i ([], 0))).1.length < (gr.getD i ([], 0)).1.length)) (h := fun (i : Nat) => D.int (0 + (i : Nat))) (List.range gr.length) fun i hi => by
    have hi := List.mem_range.mp hi
    have e : gr[i]? = some (gr.getD i ([], 0)) := by rw [List.getD_eq_getElem?_getD, List.getElem?_eq_getElem hi]; rfl
    have e1 : ∀ S : Sto, fIx S (gD gr) (.int (0 + (i : Nat))) = .ok (bD (gr.getD i ([], 0))) S := fun S => ixT_get (by omega) (by rw [show ((0 : Int) + (i : Nat)).toNat = i by omega]; exact e)
    have e2 : ∀ S : Sto, fIx S (gD (gr.map (mv m))) (.int (0 + (i : Nat))) = .ok (bD (mv m (gr.getD i ([], 0)))) S := fun S => ixT_get (by omega) (by rw [show ((0 : Int) + (i : Nat)).toNat = i by omega, List.getElem?_map, e]; rfl)
    refine ⟨_, rfl, ?_, fun _ => by simp (disch := first | assumption | omega | (simp only [List.length_map, List.length_append, List.length_range, List.length_zip, List.length_drop, List.length_reverse, Int.reduceToNat, Bool.and_self, List.length_cons, List.length_nil, List.length_range] <;> omega) | fail) only [↓wp_bind, wp_bind, wp_ok, LTurn, LTook, runF, outF, inits, mSeq, mSet, mRet, mBin, mVar, mC, mIte, mTst, mB, mCons, mNil, mSkip, mAsg, mDrop, mPar, mPar3, mIf, mNotT, mAndT, mOrT, mNotV, mAndV, mOrV, mLst, mLstA, mTup, mFor, mIt, asI, asIL, mYes, mSl, mO, mO0, mNeg, mRng1, mRng2, mChain, mComp, mkL, wipeD, mZip, mEnum, mEnumT, mIsi, gN, gT, gCons', gNil', List.map_cons, List.map_nil, List.length_cons, List.length_nil, List.length_map, List.length_append, List.length_range, List.length_zip, List.length_drop, List.length_reverse, Int.reduceToNat, Bool.and_self, List.map_append, List.replicate, List.cons_append, List.nil_append, List.getElem?_cons_zero, List.getElem?_cons_succ, List.set_cons_zero, List.set_cons_succ, Res.bind_ok, Res.bind_bad, Nat.reduceAdd, Nat.reduceSub, Nat.reduceLeDiff, Int.cast_ofNat_Int, Int.natCast_add, Int.reduceNeg, Int.reduceSub, Int.reduceAdd, Int.reduceEq, Int.reduceLT, Int.reduceLE, reduceCtorEq, reduceIte, if_true, if_false, if_lim, decide_true, decide_false, Bool.not_true, Bool.not_false, Bool.false_eq_true, argN1, argN2, argN3, argN4, argN5, fMulA_ok, fMod_ok, fDiv_ok, fAdd_ok, fSub_ok, fGt_ok, fLt_ok, fLe_ok, fGe_ok, eqI_ok, neI_ok, eqS_ok, neS_ok, lenT_ok, lenL_ok, lenM_ok, ixT0, ixT1, ixT2, ixW0, ixW1, ixL0, ixL1, ixL2, ixT_last, ixT_mid, ixT_mid2, pick2_ok, pick3_ok, pick4_ok, pick5_ok, if_int, if_str, slT_to, slT_from, slT_from1, slT_to0, slT_fr0, slT_fr1, addT_ok, addL_ok, tupL_ok, anyBl, allBl, neI_nil, eqI_nil, sto_snoc, listT_ref, listT_val, Nat.zero_add]⟩
    simp (disch := first | assumption | omega | (simp only [List.length_map, List.length_append, List.length_range, List.length_zip, List.length_drop, List.length_reverse, Int.reduceToNat, Bool.and_self, List.length_cons, List.length_nil, List.length_range] <;> omega) | fail) only [↓wp_bind, wp_bind, wp_ok, LTurn, LTook, runF, outF, inits, mSeq, mSet, mRet, mBin, mVar, mC, mIte, mTst, mB, mCons, mNil, mSkip, mAsg, mDrop, mPar, mPar3, mIf, mNotT, mAndT, mOrT, mNotV, mAndV, mOrV, mLst, mLstA, mTup, mFor, mIt, asI, asIL, mYes, mSl, mO, mO0, mNeg, mRng1, mRng2, mChain, mComp, mkL, wipeD, mZip, mEnum, mEnumT, mIsi, gN, gT, gCons', gNil', List.map_cons, List.map_nil, List.length_cons, List.length_nil, List.length_map, List.length_append, List.length_range, List.length_zip, List.length_drop, List.length_reverse, Int.reduceToNat, Bool.and_self, List.map_append, List.replicate, List.cons_append, List.nil_append, List.getElem?_cons_zero, List.getElem?_cons_succ, List.set_cons_zero, List.set_cons_succ, Res.bind_ok, Res.bind_bad, Nat.reduceAdd, Nat.reduceSub, Nat.reduceLeDiff, Int.cast_ofNat_Int, Int.natCast_add, Int.reduceNeg, Int.reduceSub, Int.reduceAdd, Int.reduceEq, Int.reduceLT, Int.reduceLE, reduceCtorEq, reduceIte, if_true, if_false, if_lim, decide_true, decide_false, Bool.not_true, Bool.not_false, Bool.false_eq_true, argN1, argN2, argN3, argN4, argN5, fMulA_ok, fMod_ok, fDiv_ok, fAdd_ok, fSub_ok, fGt_ok, fLt_ok, fLe_ok, fGe_ok, eqI_ok, neI_ok, eqS_ok, neS_ok, lenT_ok, lenL_ok, lenM_ok, ixT0, ixT1, ixT2, ixW0, ixW1, ixL0, ixL1, ixL2, ixT_last, ixT_mid, ixT_mid2, pick2_ok, pick3_ok, pick4_ok, pick5_ok, if_int, if_str, slT_to, slT_from, slT_from1, slT_to0, slT_fr0, slT_fr1, addT_ok, addL_ok, tupL_ok, anyBl, allBl, neI_nil, eqI_nil, sto_snoc, listT_ref, listT_val, Nat.zero_add, e1, e2]
    simp (disch := first | assumption | omega | (simp only [List.length_map, List.length_append, List.length_range, List.length_zip, List.length_drop, List.length_reverse, Int.reduceToNat, Bool.and_self, List.length_cons, List.length_nil, List.length_range] <;> omega) | fail) only [↓wp_bind, wp_bind, wp_ok, LTurn, LTook, runF, outF, inits, mSeq, mSet, mRet, mBin, mVar, mC, mIte, mTst, mB, mCons, mNil, mSkip, mAsg, mDrop, mPar, mPar3, mIf, mNotT, mAndT, mOrT, mNotV, mAndV, mOrV, mLst, mLstA, mTup, mFor, mIt, asI, asIL, mYes, mSl, mO, mO0, mNeg, mRng1, mRng2, mChain, mComp, mkL, wipeD, mZip, mEnum, mEnumT, mIsi, gN, gT, gCons', gNil', List.map_cons, List.map_nil, List.length_cons, List.length_nil, List.length_map, List.length_append, List.length_range, List.length_zip, List.length_drop, List.length_reverse, Int.reduceToNat, Bool.and_self, List.map_append, List.replicate, List.cons_append, List.nil_append, List.getElem?_cons_zero, List.getElem?_cons_succ, List.set_cons_zero, List.set_cons_succ, Res.bind_ok, Res.bind_bad, Nat.reduceAdd, Nat.reduceSub, Nat.reduceLeDiff, Int.cast_ofNat_Int, Int.natCast_add, Int.reduceNeg, Int.reduceSub, Int.reduceAdd, Int.reduceEq, Int.reduceLT, Int.reduceLE, reduceCtorEq, reduceIte, if_true, if_false, if_lim, decide_true, decide_false, Bool.not_true, Bool.not_false, Bool.false_eq_true, argN1, argN2, argN3, argN4, argN5, fMulA_ok, fMod_ok, fDiv_ok, fAdd_ok, fSub_ok, fGt_ok, fLt_ok, fLe_ok, fGe_ok, eqI_ok, neI_ok, eqS_ok, neS_ok, lenT_ok, lenL_ok, lenM_ok, ixT0, ixT1, ixT2, ixW0, ixW1, ixL0, ixL1, ixL2, ixT_last, ixT_mid, ixT_mid2, pick2_ok, pick3_ok, pick4_ok, pick5_ok, if_int, if_str, slT_to, slT_from, slT_from1, slT_to0, slT_fr0, slT_fr1, addT_ok, addL_ok, tupL_ok, anyBl, allBl, neI_nil, eqI_nil, sto_snoc, listT_ref, listT_val, Nat.zero_add, bD]
    congr 1
    simp]
  simp (disch := first | assumption | omega | (simp only [List.length_map, List.length_append, List.length_range, List.length_zip, List.length_drop, List.length_reverse, Int.reduceToNat, Bool.and_self, List.length_cons, List.length_nil, List.length_range] <;> omega) | fail) only [↓wp_bind, wp_bind, wp_ok, LTurn, LTook, runF, outF, inits, mSeq, mSet, mRet, mBin, mVar, mC, mIte, mTst, mB, mCons, mNil, mSkip, mAsg, mDrop, mPar, mPar3, mIf, mNotT, mAndT, mOrT, mNotV, mAndV, mOrV, mLst, mLstA, mTup, mFor, mIt, asI, asIL, mYes, mSl, mO, mO0, mNeg, mRng1, mRng2, mChain, mComp, mkL, wipeD, mZip, mEnum, mEnumT, mIsi, gN, gT, gCons', gNil', List.map_cons, List.map_nil, List.length_cons, List.length_nil, List.length_map, List.length_append, List.length_range, List.length_zip, List.length_drop, List.length_reverse, Int.reduceToNat, Bool.and_self, List.map_append, List.replicate, List.cons_append, List.nil_append, List.getElem?_cons_zero, List.getElem?_cons_succ, List.set_cons_zero, List.set_cons_succ, Res.bind_ok, Res.bind_bad, Nat.reduceAdd, Nat.reduceSub, Nat.reduceLeDiff, Int.cast_ofNat_Int, Int.natCast_add, Int.reduceNeg, Int.reduceSub, Int.reduceAdd, Int.reduceEq, Int.reduceLT, Int.reduceLE, reduceCtorEq, reduceIte, if_true, if_false, if_lim, decide_true, decide_false, Bool.not_true, Bool.not_false, Bool.false_eq_true, argN1, argN2, argN3, argN4, argN5, fMulA_ok, fMod_ok, fDiv_ok, fAdd_ok, fSub_ok, fGt_ok, fLt_ok, fLe_ok, fGe_ok, eqI_ok, neI_ok, eqS_ok, neS_ok, lenT_ok, lenL_ok, lenM_ok, ixT0, ixT1, ixT2, ixW0, ixW1, ixL0, ixL1, ixL2, ixT_last, ixT_mid, ixT_mid2, pick2_ok, pick3_ok, pick4_ok, pick5_ok, if_int, if_str, slT_to, slT_from, slT_from1, slT_to0, slT_fr0, slT_fr1, addT_ok, addL_ok, tupL_ok, anyBl, allBl, neI_nil, eqI_nil, sto_snoc, listT_ref, listT_val, Nat.zero_add]
  rw [ne_nilI]
  simp (disch := first | assumption | omega | (simp only [List.length_map, List.length_append, List.length_range, List.length_zip, List.length_drop, List.length_reverse, Int.reduceToNat, Bool.and_self, List.length_cons, List.length_nil, List.length_range] <;> omega) | fail) only [↓wp_bind, wp_bind, wp_ok, LTurn, LTook, runF, outF, inits, mSeq, mSet, mRet, mBin, mVar, mC, mIte, mTst, mB, mCons, mNil, mSkip, mAsg, mDrop, mPar, mPar3, mIf, mNotT, mAndT, mOrT, mNotV, mAndV, mOrV, mLst, mLstA, mTup, mFor, mIt, asI, asIL, mYes, mSl, mO, mO0, mNeg, mRng1, mRng2, mChain, mComp, mkL, wipeD, mZip, mEnum, mEnumT, mIsi, gN, gT, gCons', gNil', List.map_cons, List.map_nil, List.length_cons, List.length_nil, List.length_map, List.length_append, List.length_range, List.length_zip, List.length_drop, List.length_reverse, Int.reduceToNat, Bool.and_self, List.map_append, List.replicate, List.cons_append, List.nil_append, List.getElem?_cons_zero, List.getElem?_cons_succ, List.set_cons_zero, List.set_cons_succ, Res.bind_ok, Res.bind_bad, Nat.reduceAdd, Nat.reduceSub, Nat.reduceLeDiff, Int.cast_ofNat_Int, Int.natCast_add, Int.reduceNeg, Int.reduceSub, Int.reduceAdd, Int.reduceEq, Int.reduceLT, Int.reduceLE, reduceCtorEq, reduceIte, if_true, if_false, if_lim, decide_true, decide_false, Bool.not_true, Bool.not_false, Bool.false_eq_true, argN1, argN2, argN3, argN4, argN5, fMulA_ok, fMod_ok, fDiv_ok, fAdd_ok, fSub_ok, fGt_ok, fLt_ok, fLe_ok, fGe_ok, eqI_ok, neI_ok, eqS_ok, neS_ok, lenT_ok, lenL_ok, lenM_ok, ixT0, ixT1, ixT2, ixW0, ixW1, ixL0, ixL1, ixL2, ixT_last, ixT_mid, ixT_mid2, pick2_ok, pick3_ok, pick4_ok, pick5_ok, if_int, if_str, slT_to, slT_from, slT_from1, slT_to0, slT_fr0, slT_fr1, addT_ok, addL_ok, tupL_ok, anyBl, allBl, neI_nil, eqI_nil, sto_snoc, listT_ref, listT_val, Nat.zero_add, filter_empty, Bool.not_not]
  cases ha : (List.range gr.length).any fun (i : Nat) => decide ((mv m (gr.getD i ([], 0))).1.length < (gr.getD i ([], 0)).1.length) with
  | true =>
    simp (disch := first | assumption | omega | (simp only [List.length_map, List.length_append, List.length_range, List.length_zip, List.length_drop, List.length_reverse, Int.reduceToNat, Bool.and_self, List.length_cons, List.length_nil, List.length_range] <;> omega) | fail) only [↓wp_bind, wp_bind, wp_ok, LTurn, LTook, runF, outF, inits, mSeq, mSet, mRet, mBin, mVar, mC, mIte, mTst, mB, mCons, mNil, mSkip, mAsg, mDrop, mPar, mPar3, mIf, mNotT, mAndT, mOrT, mNotV, mAndV, mOrV, mLst, mLstA, mTup, mFor, mIt, asI, asIL, mYes, mSl, mO, mO0, mNeg, mRng1, mRng2, mChain, mComp, mkL, wipeD, mZip, mEnum, mEnumT, mIsi, gN, gT, gCons', gNil', List.map_cons, List.map_nil, List.length_cons, List.length_nil, List.length_map, List.length_append, List.length_range, List.length_zip, List.length_drop, List.length_reverse, Int.reduceToNat, Bool.and_self, List.map_append, List.replicate, List.cons_append, List.nil_append, List.getElem?_cons_zero, List.getElem?_cons_succ, List.set_cons_zero, List.set_cons_succ, Res.bind_ok, Res.bind_bad, Nat.reduceAdd, Nat.reduceSub, Nat.reduceLeDiff, Int.cast_ofNat_Int, Int.natCast_add, Int.reduceNeg, Int.reduceSub, Int.reduceAdd, Int.reduceEq, Int.reduceLT, Int.reduceLE, reduceCtorEq, reduceIte, if_true, if_false, if_lim, decide_true, decide_false, Bool.not_true, Bool.not_false, Bool.false_eq_true, argN1, argN2, argN3, argN4, argN5, fMulA_ok, fMod_ok, fDiv_ok, fAdd_ok, fSub_ok, fGt_ok, fLt_ok, fLe_ok, fGe_ok, eqI_ok, neI_ok, eqS_ok, neS_ok, lenT_ok, lenL_ok, lenM_ok, ixT0, ixT1, ixT2, ixW0, ixW1, ixL0, ixL1, ixL2, ixT_last, ixT_mid, ixT_mid2, pick2_ok, pick3_ok, pick4_ok, pick5_ok, if_int, if_str, slT_to, slT_from, slT_from1, slT_to0, slT_fr0, slT_fr1, addT_ok, addL_ok, tupL_ok, anyBl, allBl, neI_nil, eqI_nil, sto_snoc, listT_ref, listT_val, Nat.zero_add]
    exact k
  | false =>
    have all : ∀ b ∈ gr, ¬ (mv m b).1.length < b.1.length := fun b hb => by
      obtain ⟨i, hi, e⟩ := List.mem_iff_getElem.mp hb
      have q := List.any_eq_false.mp ha i (List.mem_range.mpr hi)
      rw [List.getD_eq_getElem?_getD, List.getElem?_eq_getElem hi, Option.getD_some, e] at q
      simpa using q
    have hg : Gok (gr.map (mv m)) := ⟨by rw [List.length_map]; exact h.few, fun x hx => by
      obtain ⟨b, hb, rfl⟩ := List.mem_map.mp hx
      exact (mv_ok (h.all b hb) (all b hb)).1⟩
    have hu : ∀ w, uD (gr.map (mv m)) w = uD gr (w - m) := fun w => by
      unfold uD
      rw [List.map_map]
      congr 1
      exact List.map_congr_left fun b hb => by
        show D.int (unitsF (mv m b).1 w) = _
        rw [(mv_ok (h.all b hb) (all b hb)).2 w]
    simp (disch := first | assumption | omega | (simp only [List.length_map, List.length_append, List.length_range, List.length_zip, List.length_drop, List.length_reverse, Int.reduceToNat, Bool.and_self, List.length_cons, List.length_nil, List.length_range] <;> omega) | fail) only [↓wp_bind, wp_bind, wp_ok, LTurn, LTook, runF, outF, inits, mSeq, mSet, mRet, mBin, mVar, mC, mIte, mTst, mB, mCons, mNil, mSkip, mAsg, mDrop, mPar, mPar3, mIf, mNotT, mAndT, mOrT, mNotV, mAndV, mOrV, mLst, mLstA, mTup, mFor, mIt, asI, asIL, mYes, mSl, mO, mO0, mNeg, mRng1, mRng2, mChain, mComp, mkL, wipeD, mZip, mEnum, mEnumT, mIsi, gN, gT, gCons', gNil', List.map_cons, List.map_nil, List.length_cons, List.length_nil, List.length_map, List.length_append, List.length_range, List.length_zip, List.length_drop, List.length_reverse, Int.reduceToNat, Bool.and_self, List.map_append, List.replicate, List.cons_append, List.nil_append, List.getElem?_cons_zero, List.getElem?_cons_succ, List.set_cons_zero, List.set_cons_succ, Res.bind_ok, Res.bind_bad, Nat.reduceAdd, Nat.reduceSub, Nat.reduceLeDiff, Int.cast_ofNat_Int, Int.natCast_add, Int.reduceNeg, Int.reduceSub, Int.reduceAdd, Int.reduceEq, Int.reduceLT, Int.reduceLE, reduceCtorEq, reduceIte, if_true, if_false, if_lim, decide_true, decide_false, Bool.not_true, Bool.not_false, Bool.false_eq_true, argN1, argN2, argN3, argN4, argN5, fMulA_ok, fMod_ok, fDiv_ok, fAdd_ok, fSub_ok, fGt_ok, fLt_ok, fLe_ok, fGe_ok, eqI_ok, neI_ok, eqS_ok, neS_ok, lenT_ok, lenL_ok, lenM_ok, ixT0, ixT1, ixT2, ixW0, ixW1, ixL0, ixL1, ixL2, ixT_last, ixT_mid, ixT_mid2, pick2_ok, pick3_ok, pick4_ok, pick5_ok, if_int, if_str, slT_to, slT_from, slT_from1, slT_to0, slT_fr0, slT_fr1, addT_ok, addL_ok, tupL_ok, anyBl, allBl, neI_nil, eqI_nil, sto_snoc, listT_ref, listT_val, Nat.zero_add, row_ok _ _ hg, rngOk_ok]
    rw [comp_filter (p := fun (i : Nat) => decide (-61 < -60 + (i : Int) - m) && decide (-60 + (i : Int) - m < 61)) (h := fun (i : Nat) => D.int (-60 + (i : Nat))) (List.range 121) fun i hi => ⟨_, rfl, by
      by_cases h1 : -61 < -60 + (i : Int) - m
      · simp (disch := first | assumption | omega | (simp only [List.length_map, List.length_append, List.length_range, List.length_zip, List.length_drop, List.length_reverse, Int.reduceToNat, Bool.and_self, List.length_cons, List.length_nil, List.length_range] <;> omega) | fail) only [↓wp_bind, wp_bind, wp_ok, LTurn, LTook, runF, outF, inits, mSeq, mSet, mRet, mBin, mVar, mC, mIte, mTst, mB, mCons, mNil, mSkip, mAsg, mDrop, mPar, mPar3, mIf, mNotT, mAndT, mOrT, mNotV, mAndV, mOrV, mLst, mLstA, mTup, mFor, mIt, asI, asIL, mYes, mSl, mO, mO0, mNeg, mRng1, mRng2, mChain, mComp, mkL, wipeD, mZip, mEnum, mEnumT, mIsi, gN, gT, gCons', gNil', List.map_cons, List.map_nil, List.length_cons, List.length_nil, List.length_map, List.length_append, List.length_range, List.length_zip, List.length_drop, List.length_reverse, Int.reduceToNat, Bool.and_self, List.map_append, List.replicate, List.cons_append, List.nil_append, List.getElem?_cons_zero, List.getElem?_cons_succ, List.set_cons_zero, List.set_cons_succ, Res.bind_ok, Res.bind_bad, Nat.reduceAdd, Nat.reduceSub, Nat.reduceLeDiff, Int.cast_ofNat_Int, Int.natCast_add, Int.reduceNeg, Int.reduceSub, Int.reduceAdd, Int.reduceEq, Int.reduceLT, Int.reduceLE, reduceCtorEq, reduceIte, if_true, if_false, if_lim, decide_true, decide_false, Bool.not_true, Bool.not_false, Bool.false_eq_true, argN1, argN2, argN3, argN4, argN5, fMulA_ok, fMod_ok, fDiv_ok, fAdd_ok, fSub_ok, fGt_ok, fLt_ok, fLe_ok, fGe_ok, eqI_ok, neI_ok, eqS_ok, neS_ok, lenT_ok, lenL_ok, lenM_ok, ixT0, ixT1, ixT2, ixW0, ixW1, ixL0, ixL1, ixL2, ixT_last, ixT_mid, ixT_mid2, pick2_ok, pick3_ok, pick4_ok, pick5_ok, if_int, if_str, slT_to, slT_from, slT_from1, slT_to0, slT_fr0, slT_fr1, addT_ok, addL_ok, tupL_ok, anyBl, allBl, neI_nil, eqI_nil, sto_snoc, listT_ref, listT_val, Nat.zero_add, h1, Bool.true_and]
      · simp (disch := first | assumption | omega | (simp only [List.length_map, List.length_append, List.length_range, List.length_zip, List.length_drop, List.length_reverse, Int.reduceToNat, Bool.and_self, List.length_cons, List.length_nil, List.length_range] <;> omega) | fail) only [↓wp_bind, wp_bind, wp_ok, LTurn, LTook, runF, outF, inits, mSeq, mSet, mRet, mBin, mVar, mC, mIte, mTst, mB, mCons, mNil, mSkip, mAsg, mDrop, mPar, mPar3, mIf, mNotT, mAndT, mOrT, mNotV, mAndV, mOrV, mLst, mLstA, mTup, mFor, mIt, asI, asIL, mYes, mSl, mO, mO0, mNeg, mRng1, mRng2, mChain, mComp, mkL, wipeD, mZip, mEnum, mEnumT, mIsi, gN, gT, gCons', gNil', List.map_cons, List.map_nil, List.length_cons, List.length_nil, List.length_map, List.length_append, List.length_range, List.length_zip, List.length_drop, List.length_reverse, Int.reduceToNat, Bool.and_self, List.map_append, List.replicate, List.cons_append, List.nil_append, List.getElem?_cons_zero, List.getElem?_cons_succ, List.set_cons_zero, List.set_cons_succ, Res.bind_ok, Res.bind_bad, Nat.reduceAdd, Nat.reduceSub, Nat.reduceLeDiff, Int.cast_ofNat_Int, Int.natCast_add, Int.reduceNeg, Int.reduceSub, Int.reduceAdd, Int.reduceEq, Int.reduceLT, Int.reduceLE, reduceCtorEq, reduceIte, if_true, if_false, if_lim, decide_true, decide_false, Bool.not_true, Bool.not_false, Bool.false_eq_true, argN1, argN2, argN3, argN4, argN5, fMulA_ok, fMod_ok, fDiv_ok, fAdd_ok, fSub_ok, fGt_ok, fLt_ok, fLe_ok, fGe_ok, eqI_ok, neI_ok, eqS_ok, neS_ok, lenT_ok, lenL_ok, lenM_ok, ixT0, ixT1, ixT2, ixW0, ixW1, ixL0, ixL1, ixL2, ixT_last, ixT_mid, ixT_mid2, pick2_ok, pick3_ok, pick4_ok, pick5_ok, if_int, if_str, slT_to, slT_from, slT_from1, slT_to0, slT_fr0, slT_fr1, addT_ok, addL_ok, tupL_ok, anyBl, allBl, neI_nil, eqI_nil, sto_snoc, listT_ref, listT_val, Nat.zero_add, h1, Bool.false_and], fun _ => by simp (disch := first | assumption | omega | (simp only [List.length_map, List.length_append, List.length_range, List.length_zip, List.length_drop, List.length_reverse, Int.reduceToNat, Bool.and_self, List.length_cons, List.length_nil, List.length_range] <;> omega) | fail) only [↓wp_bind, wp_bind, wp_ok, LTurn, LTook, runF, outF, inits, mSeq, mSet, mRet, mBin, mVar, mC, mIte, mTst, mB, mCons, mNil, mSkip, mAsg, mDrop, mPar, mPar3, mIf, mNotT, mAndT, mOrT, mNotV, mAndV, mOrV, mLst, mLstA, mTup, mFor, mIt, asI, asIL, mYes, mSl, mO, mO0, mNeg, mRng1, mRng2, mChain, mComp, mkL, wipeD, mZip, mEnum, mEnumT, mIsi, gN, gT, gCons', gNil', List.map_cons, List.map_nil, List.length_cons, List.length_nil, List.length_map, List.length_append, List.length_range, List.length_zip, List.length_drop, List.length_reverse, Int.reduceToNat, Bool.and_self, List.map_append, List.replicate, List.cons_append, List.nil_append, List.getElem?_cons_zero, List.getElem?_cons_succ, List.set_cons_zero, List.set_cons_succ, Res.bind_ok, Res.bind_bad, Nat.reduceAdd, Nat.reduceSub, Nat.reduceLeDiff, Int.cast_ofNat_Int, Int.natCast_add, Int.reduceNeg, Int.reduceSub, Int.reduceAdd, Int.reduceEq, Int.reduceLT, Int.reduceLE, reduceCtorEq, reduceIte, if_true, if_false, if_lim, decide_true, decide_false, Bool.not_true, Bool.not_false, Bool.false_eq_true, argN1, argN2, argN3, argN4, argN5, fMulA_ok, fMod_ok, fDiv_ok, fAdd_ok, fSub_ok, fGt_ok, fLt_ok, fLe_ok, fGe_ok, eqI_ok, neI_ok, eqS_ok, neS_ok, lenT_ok, lenL_ok, lenM_ok, ixT0, ixT1, ixT2, ixW0, ixW1, ixL0, ixL1, ixL2, ixT_last, ixT_mid, ixT_mid2, pick2_ok, pick3_ok, pick4_ok, pick5_ok, if_int, if_str, slT_to, slT_from, slT_from1, slT_to0, slT_fr0, slT_fr1, addT_ok, addL_ok, tupL_ok, anyBl, allBl, neI_nil, eqI_nil, sto_snoc, listT_ref, listT_val, Nat.zero_add]⟩]
    simp (disch := first | assumption | omega | (simp only [List.length_map, List.length_append, List.length_range, List.length_zip, List.length_drop, List.length_reverse, Int.reduceToNat, Bool.and_self, List.length_cons, List.length_nil, List.length_range] <;> omega) | fail) only [↓wp_bind, wp_bind, wp_ok, LTurn, LTook, runF, outF, inits, mSeq, mSet, mRet, mBin, mVar, mC, mIte, mTst, mB, mCons, mNil, mSkip, mAsg, mDrop, mPar, mPar3, mIf, mNotT, mAndT, mOrT, mNotV, mAndV, mOrV, mLst, mLstA, mTup, mFor, mIt, asI, asIL, mYes, mSl, mO, mO0, mNeg, mRng1, mRng2, mChain, mComp, mkL, wipeD, mZip, mEnum, mEnumT, mIsi, gN, gT, gCons', gNil', List.map_cons, List.map_nil, List.length_cons, List.length_nil, List.length_map, List.length_append, List.length_range, List.length_zip, List.length_drop, List.length_reverse, Int.reduceToNat, Bool.and_self, List.map_append, List.replicate, List.cons_append, List.nil_append, List.getElem?_cons_zero, List.getElem?_cons_succ, List.set_cons_zero, List.set_cons_succ, Res.bind_ok, Res.bind_bad, Nat.reduceAdd, Nat.reduceSub, Nat.reduceLeDiff, Int.cast_ofNat_Int, Int.natCast_add, Int.reduceNeg, Int.reduceSub, Int.reduceAdd, Int.reduceEq, Int.reduceLT, Int.reduceLE, reduceCtorEq, reduceIte, if_true, if_false, if_lim, decide_true, decide_false, Bool.not_true, Bool.not_false, Bool.false_eq_true, argN1, argN2, argN3, argN4, argN5, fMulA_ok, fMod_ok, fDiv_ok, fAdd_ok, fSub_ok, fGt_ok, fLt_ok, fLe_ok, fGe_ok, eqI_ok, neI_ok, eqS_ok, neS_ok, lenT_ok, lenL_ok, lenM_ok, ixT0, ixT1, ixT2, ixW0, ixW1, ixL0, ixL1, ixL2, ixT_last, ixT_mid, ixT_mid2, pick2_ok, pick3_ok, pick4_ok, pick5_ok, if_int, if_str, slT_to, slT_from, slT_from1, slT_to0, slT_fr0, slT_fr1, addT_ok, addL_ok, tupL_ok, anyBl, allBl, neI_nil, eqI_nil, sto_snoc, listT_ref, listT_val, Nat.zero_add]
    rw [comp_filter (p := fun _ => false) (h := fun (i : Nat) => D.int (-60 + (i : Nat))) _ fun i hi => ⟨_, rfl, by
      obtain ⟨hi, hc⟩ := List.mem_filter.mp hi
      have hi := List.mem_range.mp hi
      rw [Bool.and_eq_true] at hc
      have h1 := of_decide_eq_true hc.1
      have h2 := of_decide_eq_true hc.2
      simp (disch := first | assumption | omega | (simp only [List.length_map, List.length_append, List.length_range, List.length_zip, List.length_drop, List.length_reverse, Int.reduceToNat, Bool.and_self, List.length_cons, List.length_nil, List.length_range] <;> omega) | fail) only [↓wp_bind, wp_bind, wp_ok, LTurn, LTook, runF, outF, inits, mSeq, mSet, mRet, mBin, mVar, mC, mIte, mTst, mB, mCons, mNil, mSkip, mAsg, mDrop, mPar, mPar3, mIf, mNotT, mAndT, mOrT, mNotV, mAndV, mOrV, mLst, mLstA, mTup, mFor, mIt, asI, asIL, mYes, mSl, mO, mO0, mNeg, mRng1, mRng2, mChain, mComp, mkL, wipeD, mZip, mEnum, mEnumT, mIsi, gN, gT, gCons', gNil', List.map_cons, List.map_nil, List.length_cons, List.length_nil, List.length_map, List.length_append, List.length_range, List.length_zip, List.length_drop, List.length_reverse, Int.reduceToNat, Bool.and_self, List.map_append, List.replicate, List.cons_append, List.nil_append, List.getElem?_cons_zero, List.getElem?_cons_succ, List.set_cons_zero, List.set_cons_succ, Res.bind_ok, Res.bind_bad, Nat.reduceAdd, Nat.reduceSub, Nat.reduceLeDiff, Int.cast_ofNat_Int, Int.natCast_add, Int.reduceNeg, Int.reduceSub, Int.reduceAdd, Int.reduceEq, Int.reduceLT, Int.reduceLE, reduceCtorEq, reduceIte, if_true, if_false, if_lim, decide_true, decide_false, Bool.not_true, Bool.not_false, Bool.false_eq_true, argN1, argN2, argN3, argN4, argN5, fMulA_ok, fMod_ok, fDiv_ok, fAdd_ok, fSub_ok, fGt_ok, fLt_ok, fLe_ok, fGe_ok, eqI_ok, neI_ok, eqS_ok, neS_ok, lenT_ok, lenL_ok, lenM_ok, ixT0, ixT1, ixT2, ixW0, ixW1, ixL0, ixL1, ixL2, ixT_last, ixT_mid, ixT_mid2, pick2_ok, pick3_ok, pick4_ok, pick5_ok, if_int, if_str, slT_to, slT_from, slT_from1, slT_to0, slT_fr0, slT_fr1, addT_ok, addL_ok, tupL_ok, anyBl, allBl, neI_nil, eqI_nil, sto_snoc, listT_ref, listT_val, Nat.zero_add, row_ix]
      rw [hu, show -60 + ((i : Nat) : Int) - m + 60 - 60 = -60 + ((i : Nat) : Int) + 60 - 60 - m by omega]
      have nu := nc_u h (-60 + ((i : Nat) : Int) + 60 - 60 - m)
      unfold uD at nu ⊢
      rw [nc_neT nu (by decide)]
      rfl, fun h => by cases h⟩]
    rw [show ∀ xs : List Nat, xs.filter (fun _ => false) = [] from fun xs => by rw [List.filter_eq_nil_iff]; intro a _; decide]
    have limF : ∀ q : Nat → Bool, ((List.range 121).filter q).length ≤ 16777216 := fun q => Nat.le_trans (List.length_filter_le _ _) (by rw [List.length_range]; decide)
    simp (disch := first | assumption | omega | (simp only [List.length_map, List.length_append, List.length_range, List.length_zip, List.length_drop, List.length_reverse, Int.reduceToNat, Bool.and_self, List.length_cons, List.length_nil, List.length_range] <;> omega) | fail) only [↓wp_bind, wp_bind, wp_ok, LTurn, LTook, runF, outF, inits, mSeq, mSet, mRet, mBin, mVar, mC, mIte, mTst, mB, mCons, mNil, mSkip, mAsg, mDrop, mPar, mPar3, mIf, mNotT, mAndT, mOrT, mNotV, mAndV, mOrV, mLst, mLstA, mTup, mFor, mIt, asI, asIL, mYes, mSl, mO, mO0, mNeg, mRng1, mRng2, mChain, mComp, mkL, wipeD, mZip, mEnum, mEnumT, mIsi, gN, gT, gCons', gNil', List.map_cons, List.map_nil, List.length_cons, List.length_nil, List.length_map, List.length_append, List.length_range, List.length_zip, List.length_drop, List.length_reverse, Int.reduceToNat, Bool.and_self, List.map_append, List.replicate, List.cons_append, List.nil_append, List.getElem?_cons_zero, List.getElem?_cons_succ, List.set_cons_zero, List.set_cons_succ, Res.bind_ok, Res.bind_bad, Nat.reduceAdd, Nat.reduceSub, Nat.reduceLeDiff, Int.cast_ofNat_Int, Int.natCast_add, Int.reduceNeg, Int.reduceSub, Int.reduceAdd, Int.reduceEq, Int.reduceLT, Int.reduceLE, reduceCtorEq, reduceIte, if_true, if_false, if_lim, decide_true, decide_false, Bool.not_true, Bool.not_false, Bool.false_eq_true, argN1, argN2, argN3, argN4, argN5, fMulA_ok, fMod_ok, fDiv_ok, fAdd_ok, fSub_ok, fGt_ok, fLt_ok, fLe_ok, fGe_ok, eqI_ok, neI_ok, eqS_ok, neS_ok, lenT_ok, lenL_ok, lenM_ok, ixT0, ixT1, ixT2, ixW0, ixW1, ixL0, ixL1, ixL2, ixT_last, ixT_mid, ixT_mid2, pick2_ok, pick3_ok, pick4_ok, pick5_ok, if_int, if_str, slT_to, slT_from, slT_from1, slT_to0, slT_fr0, slT_fr1, addT_ok, addL_ok, tupL_ok, anyBl, allBl, neI_nil, eqI_nil, sto_snoc, listT_ref, listT_val, Nat.zero_add, limF, eqLnil]
    exact k
end K16

namespace K16
open PySem PySem.Spec PyProof.Rows L2 Ev
/-! ### rates one by one -/
theorem slT_one {al : Bool} {S : Sto} {rs : List (Int × Int)} {k : Nat} (hk : k < rs.length) {i j : Int} (hi : i = (k : Nat)) (hj : j = (k : Nat) + 1) : fSl al S (.tup (rs.map rD)) (some i) (some j) = .ok (.tup [rD (rs.getD k (0, 0))]) S := by
  have hj : j = ((k + 1 : Nat) : Int) := by omega
  subst hi
  subst hj
  show Res.ok (D.tup (Ev.cutD (rs.map rD) (some ((k : Nat) : Int)) (some ((k + 1 : Nat) : Int)))) S = _
  unfold Ev.cutD
  rw [HT.sIx_nat, HT.sIx_nat, List.length_map, Nat.min_eq_left (by omega), Nat.min_eq_left (by omega), Nat.add_sub_cancel_left, ← List.map_drop, ← List.map_take, List.drop_eq_getElem_cons hk]
  rw [List.getD_eq_getElem?_getD, List.getElem?_eq_getElem hk]
  rfl
theorem ixL_last {S : Sto} {A : List D} {x : D} : fIx S (.lst (A ++ [x])) (.int (-1)) = .ok x S := by
  have q := ixT_last (S := S) (A := A) (x := x)
  exact q
theorem rng_map {β : Type} (f : Int × Int → β) (rs : List (Int × Int)) : (List.range rs.length).map (fun k => f (rs.getD k (0, 0))) = rs.map f := by
  apply List.ext_getElem
  · simp
  · intro i h1 h2
    rw [List.length_map] at h2
    simp [List.getD_eq_getElem?_getD, List.getElem?_eq_getElem h2]
theorem rng_map2 {β : Type} (f : Int × Int → β) (A B : List (Int × Int)) : (List.range A.length).map (fun k => f ((A ++ B).getD k (0, 0))) = A.map f := by
  apply List.ext_getElem
  · simp
  · intro i h1 h2
    rw [List.length_map] at h2
    simp [List.getD_eq_getElem?_getD, List.getElem?_append_left h2, List.getElem?_eq_getElem h2]
theorem one_ok {rs : List (Int × Int)} {mo : Int} (h : Bok (rs, mo)) {r : Int × Int} (hr : r ∈ rs) : Bok ([r], mo) := ⟨by show 1 ≤ 1 ∧ 1 ≤ 5; decide, by simp, fun x hx => by rw [List.mem_singleton.mp hx]; exact h.at_ r hr, h.most⟩
theorem units_one (r : Int × Int) (w : Int) : unitsF [r] w = if r.1 < w then r.2 else 0 := rfl
/-- the rates that are less, and the others -/
theorem less_split {rs : List (Int × Int)} {mo : Int} (h : Bok (rs, mo)) (w : Int) : ∃ A B, rs = A ++ B ∧ (∀ r ∈ A, r.1 < w) ∧ ∀ r ∈ B, ¬ r.1 < w := by
  have q : (rs.map (·.1)).Pairwise (· < ·) := h.rise
  clear h
  induction rs with
  | nil => exact ⟨[], [], rfl, (fun r hr => by cases hr), fun r hr => by cases hr⟩
  | cons x xs ih =>
    rw [List.map_cons, List.pairwise_cons] at q
    by_cases c : x.1 < w
    · obtain ⟨A, B, e, h1, h2⟩ := ih q.2
      exact ⟨x :: A, B, by rw [e]; rfl, fun r hr => by
        rcases List.mem_cons.mp hr with rfl | hr
        · exact c
        · exact h1 r hr, h2⟩
    · exact ⟨[], x :: xs, rfl, (fun r hr => by cases hr), fun r hr => by
        rcases List.mem_cons.mp hr with rfl | hr
        · exact c
        · have := q.1 r.1 (List.mem_map.mpr ⟨r, hr, rfl⟩)
          omega⟩
theorem less_filter {A B : List (Int × Int)} {w : Int} (h1 : ∀ r ∈ A, r.1 < w) (h2 : ∀ r ∈ B, ¬ r.1 < w) : (List.range (A ++ B).length).filter (fun k => decide (((A ++ B).getD k (0, 0)).1 < w)) = List.range A.length := by
  rw [List.length_append, List.range_add, List.filter_append]
  have e1 : (List.range A.length).filter (fun k => decide (((A ++ B).getD k (0, 0)).1 < w)) = List.range A.length := List.filter_eq_self.mpr fun k hk => by
    have hk := List.mem_range.mp hk
    rw [List.getD_eq_getElem?_getD, List.getElem?_append_left hk, List.getElem?_eq_getElem hk]
    exact decide_eq_true (h1 _ (List.getElem_mem hk))
  have e2 : ((List.range B.length).map (A.length + ·)).filter (fun k => decide (((A ++ B).getD k (0, 0)).1 < w)) = [] := List.filter_eq_nil_iff.mpr fun k hk => by
    obtain ⟨i, hi, rfl⟩ := List.mem_map.mp hk
    have hi := List.mem_range.mp hi
    rw [List.getD_eq_getElem?_getD, List.getElem?_append_right (Nat.le_add_right _ _), Nat.add_sub_cancel_left, List.getElem?_eq_getElem hi]
    simpa using h2 _ (List.getElem_mem hi)
  rw [e1, e2, List.append_nil]
theorem wp_rates_right {n : Nat} {M T : Sto} {b : Bd} {Q : D → Sto → Prop} (g : G (n + 12) M) (tok : Tok T) (h : Bok b) (k : ∀ M', G n M' → Q (.bl true) (M' ++ T)) : Wp (F__law_rates_right (M ++ T) [.ref 1, bD b]) Q tg := by
  obtain ⟨rs, mo⟩ := b
  have few := h.few
  have few : 1 ≤ rs.length ∧ rs.length ≤ 5 := few
  unfold F__law_rates_right m__law_rates_right
  simp (disch := first | assumption | omega | (simp only [List.length_map, List.length_append, List.length_range, List.length_zip, List.length_drop, List.length_reverse, Int.reduceToNat, Bool.and_self, List.length_cons, List.length_nil, List.length_range] <;> omega) | fail) only [↓wp_bind, wp_bind, wp_ok, LTurn, LTook, runF, outF, inits, mSeq, mSet, mRet, mBin, mVar, mC, mIte, mTst, mB, mCons, mNil, mSkip, mAsg, mDrop, mPar, mPar3, mIf, mNotT, mAndT, mOrT, mNotV, mAndV, mOrV, mLst, mLstA, mTup, mFor, mIt, asI, asIL, mYes, mSl, mO, mO0, mNeg, mRng1, mRng2, mChain, mComp, mkL, wipeD, mZip, mEnum, mEnumT, mIsi, gN, gT, gCons', gNil', List.map_cons, List.map_nil, List.length_cons, List.length_nil, List.length_map, List.length_append, List.length_range, List.length_zip, List.length_drop, List.length_reverse, Int.reduceToNat, Bool.and_self, List.map_append, List.replicate, List.cons_append, List.nil_append, List.getElem?_cons_zero, List.getElem?_cons_succ, List.set_cons_zero, List.set_cons_succ, Res.bind_ok, Res.bind_bad, Nat.reduceAdd, Nat.reduceSub, Nat.reduceLeDiff, Int.cast_ofNat_Int, Int.natCast_add, Int.reduceNeg, Int.reduceSub, Int.reduceAdd, Int.reduceEq, Int.reduceLT, Int.reduceLE, reduceCtorEq, reduceIte, if_true, if_false, if_lim, decide_true, decide_false, Bool.not_true, Bool.not_false, Bool.false_eq_true, argN1, argN2, argN3, argN4, argN5, fMulA_ok, fMod_ok, fDiv_ok, fAdd_ok, fSub_ok, fGt_ok, fLt_ok, fLe_ok, fGe_ok, eqI_ok, neI_ok, eqS_ok, neS_ok, lenT_ok, lenL_ok, lenM_ok, ixT0, ixT1, ixT2, ixW0, ixW1, ixL0, ixL1, ixL2, ixT_last, ixT_mid, ixT_mid2, pick2_ok, pick3_ok, pick4_ok, pick5_ok, if_int, if_str, slT_to, slT_from, slT_from1, slT_to0, slT_fr0, slT_fr1, addT_ok, addL_ok, tupL_ok, anyBl, allBl, neI_nil, eqI_nil, sto_snoc, listT_ref, listT_val, Nat.zero_add, bD, rngOk_ok]
  refine wp_compN 12 (fun i acc S => ∃ (ws : List Int) (M' : Sto), acc = ws.map D.int ∧ S = M' ++ T ∧ G (n + (12 - i)) M' ∧ ∀ w ∈ ws, -60 ≤ w ∧ w ≤ 60) (fun i hi acc S hP => ?_) _ (fun ys S hP => ?_) ⟨[], M, rfl, rfl, g, fun w hw => by cases hw⟩
  · obtain ⟨ws, M', rfl, rfl, g, hw⟩ := hP
    simp (disch := first | assumption | omega | (simp only [List.length_map, List.length_append, List.length_range, List.length_zip, List.length_drop, List.length_reverse, Int.reduceToNat, Bool.and_self, List.length_cons, List.length_nil, List.length_range] <;> omega) | fail) only [↓wp_bind, wp_bind, wp_ok, LTurn, LTook, runF, outF, inits, mSeq, mSet, mRet, mBin, mVar, mC, mIte, mTst, mB, mCons, mNil, mSkip, mAsg, mDrop, mPar, mPar3, mIf, mNotT, mAndT, mOrT, mNotV, mAndV, mOrV, mLst, mLstA, mTup, mFor, mIt, asI, asIL, mYes, mSl, mO, mO0, mNeg, mRng1, mRng2, mChain, mComp, mkL, wipeD, mZip, mEnum, mEnumT, mIsi, gN, gT, gCons', gNil', List.map_cons, List.map_nil, List.length_cons, List.length_nil, List.length_map, List.length_append, List.length_range, List.length_zip, List.length_drop, List.length_reverse, Int.reduceToNat, Bool.and_self, List.map_append, List.replicate, List.cons_append, List.nil_append, List.getElem?_cons_zero, List.getElem?_cons_succ, List.set_cons_zero, List.set_cons_succ, Res.bind_ok, Res.bind_bad, Nat.reduceAdd, Nat.reduceSub, Nat.reduceLeDiff, Int.cast_ofNat_Int, Int.natCast_add, Int.reduceNeg, Int.reduceSub, Int.reduceAdd, Int.reduceEq, Int.reduceLT, Int.reduceLE, reduceCtorEq, reduceIte, if_true, if_false, if_lim, decide_true, decide_false, Bool.not_true, Bool.not_false, Bool.false_eq_true, argN1, argN2, argN3, argN4, argN5, fMulA_ok, fMod_ok, fDiv_ok, fAdd_ok, fSub_ok, fGt_ok, fLt_ok, fLe_ok, fGe_ok, eqI_ok, neI_ok, eqS_ok, neS_ok, lenT_ok, lenL_ok, lenM_ok, ixT0, ixT1, ixT2, ixW0, ixW1, ixL0, ixL1, ixL2, ixT_last, ixT_mid, ixT_mid2, pick2_ok, pick3_ok, pick4_ok, pick5_ok, if_int, if_str, slT_to, slT_from, slT_from1, slT_to0, slT_fr0, slT_fr1, addT_ok, addL_ok, tupL_ok, anyBl, allBl, neI_nil, eqI_nil, sto_snoc, listT_ref, listT_val, Nat.zero_add]
    refine wp_draw (n := n + (12 - (i + 1))) (g.le (by omega)) (by omega) (by omega) fun v M v0 v1 g => ?_
    simp (disch := first | assumption | omega | (simp only [List.length_map, List.length_append, List.length_range, List.length_zip, List.length_drop, List.length_reverse, Int.reduceToNat, Bool.and_self, List.length_cons, List.length_nil, List.length_range] <;> omega) | fail) only [↓wp_bind, wp_bind, wp_ok, LTurn, LTook, runF, outF, inits, mSeq, mSet, mRet, mBin, mVar, mC, mIte, mTst, mB, mCons, mNil, mSkip, mAsg, mDrop, mPar, mPar3, mIf, mNotT, mAndT, mOrT, mNotV, mAndV, mOrV, mLst, mLstA, mTup, mFor, mIt, asI, asIL, mYes, mSl, mO, mO0, mNeg, mRng1, mRng2, mChain, mComp, mkL, wipeD, mZip, mEnum, mEnumT, mIsi, gN, gT, gCons', gNil', List.map_cons, List.map_nil, List.length_cons, List.length_nil, List.length_map, List.length_append, List.length_range, List.length_zip, List.length_drop, List.length_reverse, Int.reduceToNat, Bool.and_self, List.map_append, List.replicate, List.cons_append, List.nil_append, List.getElem?_cons_zero, List.getElem?_cons_succ, List.set_cons_zero, List.set_cons_succ, Res.bind_ok, Res.bind_bad, Nat.reduceAdd, Nat.reduceSub, Nat.reduceLeDiff, Int.cast_ofNat_Int, Int.natCast_add, Int.reduceNeg, Int.reduceSub, Int.reduceAdd, Int.reduceEq, Int.reduceLT, Int.reduceLE, reduceCtorEq, reduceIte, if_true, if_false, if_lim, decide_true, decide_false, Bool.not_true, Bool.not_false, Bool.false_eq_true, argN1, argN2, argN3, argN4, argN5, fMulA_ok, fMod_ok, fDiv_ok, fAdd_ok, fSub_ok, fGt_ok, fLt_ok, fLe_ok, fGe_ok, eqI_ok, neI_ok, eqS_ok, neS_ok, lenT_ok, lenL_ok, lenM_ok, ixT0, ixT1, ixT2, ixW0, ixW1, ixL0, ixL1, ixL2, ixT_last, ixT_mid, ixT_mid2, pick2_ok, pick3_ok, pick4_ok, pick5_ok, if_int, if_str, slT_to, slT_from, slT_from1, slT_to0, slT_fr0, slT_fr1, addT_ok, addL_ok, tupL_ok, anyBl, allBl, neI_nil, eqI_nil, sto_snoc, listT_ref, listT_val, Nat.zero_add]
    refine ⟨ws ++ [v - 60], M, by rw [List.map_append]; rfl, rfl, g, fun w hw' => ?_⟩
    rcases List.mem_append.mp hw' with hw' | hw'
    · exact hw w hw'
    · rw [List.mem_singleton.mp hw']; omega
  · obtain ⟨ws, M', rfl, rfl, g, hw⟩ := hP
    have g : G n M' := g.le (by omega)
    have fin := k M' g
    generalize M' ++ T = S at fin
    have lim : rs.length ≤ 16777216 := by omega
    have limR : (List.range rs.length).length ≤ 16777216 := by rw [List.length_range]; omega
    have no : ∀ w, Nc (.lst (rs.map fun r => D.int (unitsF [r] w))) 5 1 := fun w => nc_lstN (k := 0) (dep := 0) (n := 5) (fun d hd => by
      obtain ⟨r, hr, rfl⟩ := List.mem_map.mp hd
      have : 0 ≤ unitsF [r] w ∧ unitsF [r] w ≤ 9 := unitsF_in (one_ok h hr) w
      exact nc_int (by omega)) (by rw [List.length_map]; exact few.2)
    simp (disch := first | assumption | omega | (simp only [List.length_map, List.length_append, List.length_range, List.length_zip, List.length_drop, List.length_reverse, Int.reduceToNat, Bool.and_self, List.length_cons, List.length_nil, List.length_range] <;> omega) | fail) only [↓wp_bind, wp_bind, wp_ok, LTurn, LTook, runF, outF, inits, mSeq, mSet, mRet, mBin, mVar, mC, mIte, mTst, mB, mCons, mNil, mSkip, mAsg, mDrop, mPar, mPar3, mIf, mNotT, mAndT, mOrT, mNotV, mAndV, mOrV, mLst, mLstA, mTup, mFor, mIt, asI, asIL, mYes, mSl, mO, mO0, mNeg, mRng1, mRng2, mChain, mComp, mkL, wipeD, mZip, mEnum, mEnumT, mIsi, gN, gT, gCons', gNil', List.map_cons, List.map_nil, List.length_cons, List.length_nil, List.length_map, List.length_append, List.length_range, List.length_zip, List.length_drop, List.length_reverse, Int.reduceToNat, Bool.and_self, List.map_append, List.replicate, List.cons_append, List.nil_append, List.getElem?_cons_zero, List.getElem?_cons_succ, List.set_cons_zero, List.set_cons_succ, Res.bind_ok, Res.bind_bad, Nat.reduceAdd, Nat.reduceSub, Nat.reduceLeDiff, Int.cast_ofNat_Int, Int.natCast_add, Int.reduceNeg, Int.reduceSub, Int.reduceAdd, Int.reduceEq, Int.reduceLT, Int.reduceLE, reduceCtorEq, reduceIte, if_true, if_false, if_lim, decide_true, decide_false, Bool.not_true, Bool.not_false, Bool.false_eq_true, argN1, argN2, argN3, argN4, argN5, fMulA_ok, fMod_ok, fDiv_ok, fAdd_ok, fSub_ok, fGt_ok, fLt_ok, fLe_ok, fGe_ok, eqI_ok, neI_ok, eqS_ok, neS_ok, lenT_ok, lenL_ok, lenM_ok, ixT0, ixT1, ixT2, ixW0, ixW1, ixL0, ixL1, ixL2, ixT_last, ixT_mid, ixT_mid2, pick2_ok, pick3_ok, pick4_ok, pick5_ok, if_int, if_str, slT_to, slT_from, slT_from1, slT_to0, slT_fr0, slT_fr1, addT_ok, addL_ok, tupL_ok, anyBl, allBl, neI_nil, eqI_nil, sto_snoc, listT_ref, listT_val, Nat.zero_add]
    refine wp_loop (f := D.int) (fun (rest : List Int) sl S' => S' = S ∧ (∀ w ∈ rest, -60 ≤ w ∧ w ≤ 60) ∧ ∃ x4 x5 x6, sl = [some (.ref 1), some (.tup [.tup (rs.map rD), .int mo]), some (.tup (rs.map rD)), some (.int mo), x4, x5, x6, none, none, none]) (fun w rest sl S' hP => ?_) (fun sl S' hP => ?_) ws _ _ ⟨rfl, hw, none, none, none, rfl⟩
    · obtain ⟨rfl, hw, x4, x5, x6, rfl⟩ := hP
      have w60 := hw w (by simp)
      have ub : noX F_units S' [.tup [.tup (rs.map rD), .int mo], .int w] = .ok (.int (unitsF rs w)) S' := units_ok S' (rs, mo) w h w60
      simp (disch := first | assumption | omega | (simp only [List.length_map, List.length_append, List.length_range, List.length_zip, List.length_drop, List.length_reverse, Int.reduceToNat, Bool.and_self, List.length_cons, List.length_nil, List.length_range] <;> omega) | fail) only [↓wp_bind, wp_bind, wp_ok, LTurn, LTook, runF, outF, inits, mSeq, mSet, mRet, mBin, mVar, mC, mIte, mTst, mB, mCons, mNil, mSkip, mAsg, mDrop, mPar, mPar3, mIf, mNotT, mAndT, mOrT, mNotV, mAndV, mOrV, mLst, mLstA, mTup, mFor, mIt, asI, asIL, mYes, mSl, mO, mO0, mNeg, mRng1, mRng2, mChain, mComp, mkL, wipeD, mZip, mEnum, mEnumT, mIsi, gN, gT, gCons', gNil', List.map_cons, List.map_nil, List.length_cons, List.length_nil, List.length_map, List.length_append, List.length_range, List.length_zip, List.length_drop, List.length_reverse, Int.reduceToNat, Bool.and_self, List.map_append, List.replicate, List.cons_append, List.nil_append, List.getElem?_cons_zero, List.getElem?_cons_succ, List.set_cons_zero, List.set_cons_succ, Res.bind_ok, Res.bind_bad, Nat.reduceAdd, Nat.reduceSub, Nat.reduceLeDiff, Int.cast_ofNat_Int, Int.natCast_add, Int.reduceNeg, Int.reduceSub, Int.reduceAdd, Int.reduceEq, Int.reduceLT, Int.reduceLE, reduceCtorEq, reduceIte, if_true, if_false, if_lim, decide_true, decide_false, Bool.not_true, Bool.not_false, Bool.false_eq_true, argN1, argN2, argN3, argN4, argN5, fMulA_ok, fMod_ok, fDiv_ok, fAdd_ok, fSub_ok, fGt_ok, fLt_ok, fLe_ok, fGe_ok, eqI_ok, neI_ok, eqS_ok, neS_ok, lenT_ok, lenL_ok, lenM_ok, ixT0, ixT1, ixT2, ixW0, ixW1, ixL0, ixL1, ixL2, ixT_last, ixT_mid, ixT_mid2, pick2_ok, pick3_ok, pick4_ok, pick5_ok, if_int, if_str, slT_to, slT_from, slT_from1, slT_to0, slT_fr0, slT_fr1, addT_ok, addL_ok, tupL_ok, anyBl, allBl, neI_nil, eqI_nil, sto_snoc, listT_ref, listT_val, Nat.zero_add, Int.toNat_natCast, rngOk_ok]
      rw [comp_map (h := fun k : Nat => D.int (unitsF [rs.getD k (0, 0)] w)) (List.range rs.length) fun k hk => ⟨_, rfl, rfl, by
        have hk := List.mem_range.mp hk
        have hm : rs.getD k (0, 0) ∈ rs := by
          rw [List.getD_eq_getElem?_getD, List.getElem?_eq_getElem hk]
          exact List.getElem_mem hk
        have e1 : fSl false S' (.tup (rs.map rD)) (some (0 + (k : Int))) (some (0 + (k : Int) + 1)) = .ok (.tup [rD (rs.getD k (0, 0))]) S' := slT_one hk (by omega) (by omega)
        have e2 : noX F_units S' [.tup [.tup [rD (rs.getD k (0, 0))], .int mo], .int w] = .ok (.int (unitsF [rs.getD k (0, 0)] w)) S' := units_ok S' ([rs.getD k (0, 0)], mo) w (one_ok h hm) w60
        simp (disch := first | assumption | omega | (simp only [List.length_map, List.length_append, List.length_range, List.length_zip, List.length_drop, List.length_reverse, Int.reduceToNat, Bool.and_self, List.length_cons, List.length_nil, List.length_range] <;> omega) | fail) only [↓wp_bind, wp_bind, wp_ok, LTurn, LTook, runF, outF, inits, mSeq, mSet, mRet, mBin, mVar, mC, mIte, mTst, mB, mCons, mNil, mSkip, mAsg, mDrop, mPar, mPar3, mIf, mNotT, mAndT, mOrT, mNotV, mAndV, mOrV, mLst, mLstA, mTup, mFor, mIt, asI, asIL, mYes, mSl, mO, mO0, mNeg, mRng1, mRng2, mChain, mComp, mkL, wipeD, mZip, mEnum, mEnumT, mIsi, gN, gT, gCons', gNil', List.map_cons, List.map_nil, List.length_cons, List.length_nil, List.length_map, List.length_append, List.length_range, List.length_zip, List.length_drop, List.length_reverse, Int.reduceToNat, Bool.and_self, List.map_append, List.replicate, List.cons_append, List.nil_append, List.getElem?_cons_zero, List.getElem?_cons_succ, List.set_cons_zero, List.set_cons_succ, Res.bind_ok, Res.bind_bad, Nat.reduceAdd, Nat.reduceSub, Nat.reduceLeDiff, Int.cast_ofNat_Int, Int.natCast_add, Int.reduceNeg, Int.reduceSub, Int.reduceAdd, Int.reduceEq, Int.reduceLT, Int.reduceLE, reduceCtorEq, reduceIte, if_true, if_false, if_lim, decide_true, decide_false, Bool.not_true, Bool.not_false, Bool.false_eq_true, argN1, argN2, argN3, argN4, argN5, fMulA_ok, fMod_ok, fDiv_ok, fAdd_ok, fSub_ok, fGt_ok, fLt_ok, fLe_ok, fGe_ok, eqI_ok, neI_ok, eqS_ok, neS_ok, lenT_ok, lenL_ok, lenM_ok, ixT0, ixT1, ixT2, ixW0, ixW1, ixL0, ixL1, ixL2, ixT_last, ixT_mid, ixT_mid2, pick2_ok, pick3_ok, pick4_ok, pick5_ok, if_int, if_str, slT_to, slT_from, slT_from1, slT_to0, slT_fr0, slT_fr1, addT_ok, addL_ok, tupL_ok, anyBl, allBl, neI_nil, eqI_nil, sto_snoc, listT_ref, listT_val, Nat.zero_add, e1, e2]⟩]
      rw [rng_map (fun r => D.int (unitsF [r] w)) rs]
      simp (disch := first | assumption | omega | (simp only [List.length_map, List.length_append, List.length_range, List.length_zip, List.length_drop, List.length_reverse, Int.reduceToNat, Bool.and_self, List.length_cons, List.length_nil, List.length_range] <;> omega) | fail) only [↓wp_bind, wp_bind, wp_ok, LTurn, LTook, runF, outF, inits, mSeq, mSet, mRet, mBin, mVar, mC, mIte, mTst, mB, mCons, mNil, mSkip, mAsg, mDrop, mPar, mPar3, mIf, mNotT, mAndT, mOrT, mNotV, mAndV, mOrV, mLst, mLstA, mTup, mFor, mIt, asI, asIL, mYes, mSl, mO, mO0, mNeg, mRng1, mRng2, mChain, mComp, mkL, wipeD, mZip, mEnum, mEnumT, mIsi, gN, gT, gCons', gNil', List.map_cons, List.map_nil, List.length_cons, List.length_nil, List.length_map, List.length_append, List.length_range, List.length_zip, List.length_drop, List.length_reverse, Int.reduceToNat, Bool.and_self, List.map_append, List.replicate, List.cons_append, List.nil_append, List.getElem?_cons_zero, List.getElem?_cons_succ, List.set_cons_zero, List.set_cons_succ, Res.bind_ok, Res.bind_bad, Nat.reduceAdd, Nat.reduceSub, Nat.reduceLeDiff, Int.cast_ofNat_Int, Int.natCast_add, Int.reduceNeg, Int.reduceSub, Int.reduceAdd, Int.reduceEq, Int.reduceLT, Int.reduceLE, reduceCtorEq, reduceIte, if_true, if_false, if_lim, decide_true, decide_false, Bool.not_true, Bool.not_false, Bool.false_eq_true, argN1, argN2, argN3, argN4, argN5, fMulA_ok, fMod_ok, fDiv_ok, fAdd_ok, fSub_ok, fGt_ok, fLt_ok, fLe_ok, fGe_ok, eqI_ok, neI_ok, eqS_ok, neS_ok, lenT_ok, lenL_ok, lenM_ok, ixT0, ixT1, ixT2, ixW0, ixW1, ixL0, ixL1, ixL2, ixT_last, ixT_mid, ixT_mid2, pick2_ok, pick3_ok, pick4_ok, pick5_ok, if_int, if_str, slT_to, slT_from, slT_from1, slT_to0, slT_fr0, slT_fr1, addT_ok, addL_ok, tupL_ok, anyBl, allBl, neI_nil, eqI_nil, sto_snoc, listT_ref, listT_val, Nat.zero_add, limR, lim]
      rw [comp_map (h := fun r : Int × Int => D.int (unitsF [r] w)) rs fun r hr => ⟨_, rfl, rfl, by
        rw [units_one]
        by_cases c : r.1 < w
        · simp (disch := first | assumption | omega | (simp only [List.length_map, List.length_append, List.length_range, List.length_zip, List.length_drop, List.length_reverse, Int.reduceToNat, Bool.and_self, List.length_cons, List.length_nil, List.length_range] <;> omega) | fail) only [↓wp_bind, wp_bind, wp_ok, LTurn, LTook, runF, outF, inits, mSeq, mSet, mRet, mBin, mVar, mC, mIte, mTst, mB, mCons, mNil, mSkip, mAsg, mDrop, mPar, mPar3, mIf, mNotT, mAndT, mOrT, mNotV, mAndV, mOrV, mLst, mLstA, mTup, mFor, mIt, asI, asIL, mYes, mSl, mO, mO0, mNeg, mRng1, mRng2, mChain, mComp, mkL, wipeD, mZip, mEnum, mEnumT, mIsi, gN, gT, gCons', gNil', List.map_cons, List.map_nil, List.length_cons, List.length_nil, List.length_map, List.length_append, List.length_range, List.length_zip, List.length_drop, List.length_reverse, Int.reduceToNat, Bool.and_self, List.map_append, List.replicate, List.cons_append, List.nil_append, List.getElem?_cons_zero, List.getElem?_cons_succ, List.set_cons_zero, List.set_cons_succ, Res.bind_ok, Res.bind_bad, Nat.reduceAdd, Nat.reduceSub, Nat.reduceLeDiff, Int.cast_ofNat_Int, Int.natCast_add, Int.reduceNeg, Int.reduceSub, Int.reduceAdd, Int.reduceEq, Int.reduceLT, Int.reduceLE, reduceCtorEq, reduceIte, if_true, if_false, if_lim, decide_true, decide_false, Bool.not_true, Bool.not_false, Bool.false_eq_true, argN1, argN2, argN3, argN4, argN5, fMulA_ok, fMod_ok, fDiv_ok, fAdd_ok, fSub_ok, fGt_ok, fLt_ok, fLe_ok, fGe_ok, eqI_ok, neI_ok, eqS_ok, neS_ok, lenT_ok, lenL_ok, lenM_ok, ixT0, ixT1, ixT2, ixW0, ixW1, ixL0, ixL1, ixL2, ixT_last, ixT_mid, ixT_mid2, pick2_ok, pick3_ok, pick4_ok, pick5_ok, if_int, if_str, slT_to, slT_from, slT_from1, slT_to0, slT_fr0, slT_fr1, addT_ok, addL_ok, tupL_ok, anyBl, allBl, neI_nil, eqI_nil, sto_snoc, listT_ref, listT_val, Nat.zero_add, rD, c, fInt]
        · simp (disch := first | assumption | omega | (simp only [List.length_map, List.length_append, List.length_range, List.length_zip, List.length_drop, List.length_reverse, Int.reduceToNat, Bool.and_self, List.length_cons, List.length_nil, List.length_range] <;> omega) | fail) only [↓wp_bind, wp_bind, wp_ok, LTurn, LTook, runF, outF, inits, mSeq, mSet, mRet, mBin, mVar, mC, mIte, mTst, mB, mCons, mNil, mSkip, mAsg, mDrop, mPar, mPar3, mIf, mNotT, mAndT, mOrT, mNotV, mAndV, mOrV, mLst, mLstA, mTup, mFor, mIt, asI, asIL, mYes, mSl, mO, mO0, mNeg, mRng1, mRng2, mChain, mComp, mkL, wipeD, mZip, mEnum, mEnumT, mIsi, gN, gT, gCons', gNil', List.map_cons, List.map_nil, List.length_cons, List.length_nil, List.length_map, List.length_append, List.length_range, List.length_zip, List.length_drop, List.length_reverse, Int.reduceToNat, Bool.and_self, List.map_append, List.replicate, List.cons_append, List.nil_append, List.getElem?_cons_zero, List.getElem?_cons_succ, List.set_cons_zero, List.set_cons_succ, Res.bind_ok, Res.bind_bad, Nat.reduceAdd, Nat.reduceSub, Nat.reduceLeDiff, Int.cast_ofNat_Int, Int.natCast_add, Int.reduceNeg, Int.reduceSub, Int.reduceAdd, Int.reduceEq, Int.reduceLT, Int.reduceLE, reduceCtorEq, reduceIte, if_true, if_false, if_lim, decide_true, decide_false, Bool.not_true, Bool.not_false, Bool.false_eq_true, argN1, argN2, argN3, argN4, argN5, fMulA_ok, fMod_ok, fDiv_ok, fAdd_ok, fSub_ok, fGt_ok, fLt_ok, fLe_ok, fGe_ok, eqI_ok, neI_ok, eqS_ok, neS_ok, lenT_ok, lenL_ok, lenM_ok, ixT0, ixT1, ixT2, ixW0, ixW1, ixL0, ixL1, ixL2, ixT_last, ixT_mid, ixT_mid2, pick2_ok, pick3_ok, pick4_ok, pick5_ok, if_int, if_str, slT_to, slT_from, slT_from1, slT_to0, slT_fr0, slT_fr1, addT_ok, addL_ok, tupL_ok, anyBl, allBl, neI_nil, eqI_nil, sto_snoc, listT_ref, listT_val, Nat.zero_add, rD, c, fInt]⟩]
      simp (disch := first | assumption | omega | (simp only [List.length_map, List.length_append, List.length_range, List.length_zip, List.length_drop, List.length_reverse, Int.reduceToNat, Bool.and_self, List.length_cons, List.length_nil, List.length_range] <;> omega) | fail) only [↓wp_bind, wp_bind, wp_ok, LTurn, LTook, runF, outF, inits, mSeq, mSet, mRet, mBin, mVar, mC, mIte, mTst, mB, mCons, mNil, mSkip, mAsg, mDrop, mPar, mPar3, mIf, mNotT, mAndT, mOrT, mNotV, mAndV, mOrV, mLst, mLstA, mTup, mFor, mIt, asI, asIL, mYes, mSl, mO, mO0, mNeg, mRng1, mRng2, mChain, mComp, mkL, wipeD, mZip, mEnum, mEnumT, mIsi, gN, gT, gCons', gNil', List.map_cons, List.map_nil, List.length_cons, List.length_nil, List.length_map, List.length_append, List.length_range, List.length_zip, List.length_drop, List.length_reverse, Int.reduceToNat, Bool.and_self, List.map_append, List.replicate, List.cons_append, List.nil_append, List.getElem?_cons_zero, List.getElem?_cons_succ, List.set_cons_zero, List.set_cons_succ, Res.bind_ok, Res.bind_bad, Nat.reduceAdd, Nat.reduceSub, Nat.reduceLeDiff, Int.cast_ofNat_Int, Int.natCast_add, Int.reduceNeg, Int.reduceSub, Int.reduceAdd, Int.reduceEq, Int.reduceLT, Int.reduceLE, reduceCtorEq, reduceIte, if_true, if_false, if_lim, decide_true, decide_false, Bool.not_true, Bool.not_false, Bool.false_eq_true, argN1, argN2, argN3, argN4, argN5, fMulA_ok, fMod_ok, fDiv_ok, fAdd_ok, fSub_ok, fGt_ok, fLt_ok, fLe_ok, fGe_ok, eqI_ok, neI_ok, eqS_ok, neS_ok, lenT_ok, lenL_ok, lenM_ok, ixT0, ixT1, ixT2, ixW0, ixW1, ixL0, ixL1, ixL2, ixT_last, ixT_mid, ixT_mid2, pick2_ok, pick3_ok, pick4_ok, pick5_ok, if_int, if_str, slT_to, slT_from, slT_from1, slT_to0, slT_fr0, slT_fr1, addT_ok, addL_ok, tupL_ok, anyBl, allBl, neI_nil, eqI_nil, sto_snoc, listT_ref, listT_val, Nat.zero_add, limR, lim, nc_neL (no w) (by decide), Int.toNat_natCast, rngOk_ok]
      obtain ⟨A, B, e, hA, hB⟩ := less_split h w
      have fl := less_filter hA hB
      rw [← e] at fl
      rw [comp_filter (p := fun k : Nat => decide ((rs.getD k (0, 0)).1 < w)) (h := fun k : Nat => D.int (0 + (k : Int))) (List.range rs.length) fun k hk => by
        have hk := List.mem_range.mp hk
        have e1 : ∀ S : Sto, fIx S (.tup (rs.map rD)) (.int (0 + (k : Int))) = .ok (rD (rs.getD k (0, 0))) S := fun S => ixT_get (by omega) (by
          rw [show ((0 : Int) + (k : Nat)).toNat = k by omega, List.getD_eq_getElem?_getD, List.getElem?_eq_getElem hk]
          rfl)
        refine ⟨_, rfl, ?_, fun _ => by simp (disch := first | assumption | omega | (simp only [List.length_map, List.length_append, List.length_range, List.length_zip, List.length_drop, List.length_reverse, Int.reduceToNat, Bool.and_self, List.length_cons, List.length_nil, List.length_range] <;> omega) | fail) only [↓wp_bind, wp_bind, wp_ok, LTurn, LTook, runF, outF, inits, mSeq, mSet, mRet, mBin, mVar, mC, mIte, mTst, mB, mCons, mNil, mSkip, mAsg, mDrop, mPar, mPar3, mIf, mNotT, mAndT, mOrT, mNotV, mAndV, mOrV, mLst, mLstA, mTup, mFor, mIt, asI, asIL, mYes, mSl, mO, mO0, mNeg, mRng1, mRng2, mChain, mComp, mkL, wipeD, mZip, mEnum, mEnumT, mIsi, gN, gT, gCons', gNil', List.map_cons, List.map_nil, List.length_cons, List.length_nil, List.length_map, List.length_append, List.length_range, List.length_zip, List.length_drop, List.length_reverse, Int.reduceToNat, Bool.and_self, List.map_append, List.replicate, List.cons_append, List.nil_append, List.getElem?_cons_zero, List.getElem?_cons_succ, List.set_cons_zero, List.set_cons_succ, Res.bind_ok, Res.bind_bad, Nat.reduceAdd, Nat.reduceSub, Nat.reduceLeDiff, Int.cast_ofNat_Int, Int.natCast_add, Int.reduceNeg, Int.reduceSub, Int.reduceAdd, Int.reduceEq, Int.reduceLT, Int.reduceLE, reduceCtorEq, reduceIte, if_true, if_false, if_lim, decide_true, decide_false, Bool.not_true, Bool.not_false, Bool.false_eq_true, argN1, argN2, argN3, argN4, argN5, fMulA_ok, fMod_ok, fDiv_ok, fAdd_ok, fSub_ok, fGt_ok, fLt_ok, fLe_ok, fGe_ok, eqI_ok, neI_ok, eqS_ok, neS_ok, lenT_ok, lenL_ok, lenM_ok, ixT0, ixT1, ixT2, ixW0, ixW1, ixL0, ixL1, ixL2, ixT_last, ixT_mid, ixT_mid2, pick2_ok, pick3_ok, pick4_ok, pick5_ok, if_int, if_str, slT_to, slT_from, slT_from1, slT_to0, slT_fr0, slT_fr1, addT_ok, addL_ok, tupL_ok, anyBl, allBl, neI_nil, eqI_nil, sto_snoc, listT_ref, listT_val, Nat.zero_add]⟩
        simp (disch := first | assumption | omega | (simp only [List.length_map, List.length_append, List.length_range, List.length_zip, List.length_drop, List.length_reverse, Int.reduceToNat, Bool.and_self, List.length_cons, List.length_nil, List.length_range] <;> omega) | fail) only [↓wp_bind, wp_bind, wp_ok, LTurn, LTook, runF, outF, inits, mSeq, mSet, mRet, mBin, mVar, mC, mIte, mTst, mB, mCons, mNil, mSkip, mAsg, mDrop, mPar, mPar3, mIf, mNotT, mAndT, mOrT, mNotV, mAndV, mOrV, mLst, mLstA, mTup, mFor, mIt, asI, asIL, mYes, mSl, mO, mO0, mNeg, mRng1, mRng2, mChain, mComp, mkL, wipeD, mZip, mEnum, mEnumT, mIsi, gN, gT, gCons', gNil', List.map_cons, List.map_nil, List.length_cons, List.length_nil, List.length_map, List.length_append, List.length_range, List.length_zip, List.length_drop, List.length_reverse, Int.reduceToNat, Bool.and_self, List.map_append, List.replicate, List.cons_append, List.nil_append, List.getElem?_cons_zero, List.getElem?_cons_succ, List.set_cons_zero, List.set_cons_succ, Res.bind_ok, Res.bind_bad, Nat.reduceAdd, Nat.reduceSub, Nat.reduceLeDiff, Int.cast_ofNat_Int, Int.natCast_add, Int.reduceNeg, Int.reduceSub, Int.reduceAdd, Int.reduceEq, Int.reduceLT, Int.reduceLE, reduceCtorEq, reduceIte, if_true, if_false, if_lim, decide_true, decide_false, Bool.not_true, Bool.not_false, Bool.false_eq_true, argN1, argN2, argN3, argN4, argN5, fMulA_ok, fMod_ok, fDiv_ok, fAdd_ok, fSub_ok, fGt_ok, fLt_ok, fLe_ok, fGe_ok, eqI_ok, neI_ok, eqS_ok, neS_ok, lenT_ok, lenL_ok, lenM_ok, ixT0, ixT1, ixT2, ixW0, ixW1, ixL0, ixL1, ixL2, ixT_last, ixT_mid, ixT_mid2, pick2_ok, pick3_ok, pick4_ok, pick5_ok, if_int, if_str, slT_to, slT_from, slT_from1, slT_to0, slT_fr0, slT_fr1, addT_ok, addL_ok, tupL_ok, anyBl, allBl, neI_nil, eqI_nil, sto_snoc, listT_ref, listT_val, Nat.zero_add, e1]
        simp (disch := first | assumption | omega | (simp only [List.length_map, List.length_append, List.length_range, List.length_zip, List.length_drop, List.length_reverse, Int.reduceToNat, Bool.and_self, List.length_cons, List.length_nil, List.length_range] <;> omega) | fail) only [↓wp_bind, wp_bind, wp_ok, LTurn, LTook, runF, outF, inits, mSeq, mSet, mRet, mBin, mVar, mC, mIte, mTst, mB, mCons, mNil, mSkip, mAsg, mDrop, mPar, mPar3, mIf, mNotT, mAndT, mOrT, mNotV, mAndV, mOrV, mLst, mLstA, mTup, mFor, mIt, asI, asIL, mYes, mSl, mO, mO0, mNeg, mRng1, mRng2, mChain, mComp, mkL, wipeD, mZip, mEnum, mEnumT, mIsi, gN, gT, gCons', gNil', List.map_cons, List.map_nil, List.length_cons, List.length_nil, List.length_map, List.length_append, List.length_range, List.length_zip, List.length_drop, List.length_reverse, Int.reduceToNat, Bool.and_self, List.map_append, List.replicate, List.cons_append, List.nil_append, List.getElem?_cons_zero, List.getElem?_cons_succ, List.set_cons_zero, List.set_cons_succ, Res.bind_ok, Res.bind_bad, Nat.reduceAdd, Nat.reduceSub, Nat.reduceLeDiff, Int.cast_ofNat_Int, Int.natCast_add, Int.reduceNeg, Int.reduceSub, Int.reduceAdd, Int.reduceEq, Int.reduceLT, Int.reduceLE, reduceCtorEq, reduceIte, if_true, if_false, if_lim, decide_true, decide_false, Bool.not_true, Bool.not_false, Bool.false_eq_true, argN1, argN2, argN3, argN4, argN5, fMulA_ok, fMod_ok, fDiv_ok, fAdd_ok, fSub_ok, fGt_ok, fLt_ok, fLe_ok, fGe_ok, eqI_ok, neI_ok, eqS_ok, neS_ok, lenT_ok, lenL_ok, lenM_ok, ixT0, ixT1, ixT2, ixW0, ixW1, ixL0, ixL1, ixL2, ixT_last, ixT_mid, ixT_mid2, pick2_ok, pick3_ok, pick4_ok, pick5_ok, if_int, if_str, slT_to, slT_from, slT_from1, slT_to0, slT_fr0, slT_fr1, addT_ok, addL_ok, tupL_ok, anyBl, allBl, neI_nil, eqI_nil, sto_snoc, listT_ref, listT_val, Nat.zero_add, rD]]
      rw [fl]
      have limA : (List.range A.length).length ≤ 16777216 := by
        have := congrArg List.length e
        rw [List.length_append] at this
        rw [List.length_range]
        omega
      have lA : A.length ≤ rs.length := by rw [e, List.length_append]; omega
      have limA2 : A.length ≤ 16777216 := by omega
      have limA3 : 1 + A.length ≤ 16777216 := by omega
      simp (disch := first | assumption | omega | (simp only [List.length_map, List.length_append, List.length_range, List.length_zip, List.length_drop, List.length_reverse, Int.reduceToNat, Bool.and_self, List.length_cons, List.length_nil, List.length_range] <;> omega) | fail) only [↓wp_bind, wp_bind, wp_ok, LTurn, LTook, runF, outF, inits, mSeq, mSet, mRet, mBin, mVar, mC, mIte, mTst, mB, mCons, mNil, mSkip, mAsg, mDrop, mPar, mPar3, mIf, mNotT, mAndT, mOrT, mNotV, mAndV, mOrV, mLst, mLstA, mTup, mFor, mIt, asI, asIL, mYes, mSl, mO, mO0, mNeg, mRng1, mRng2, mChain, mComp, mkL, wipeD, mZip, mEnum, mEnumT, mIsi, gN, gT, gCons', gNil', List.map_cons, List.map_nil, List.length_cons, List.length_nil, List.length_map, List.length_append, List.length_range, List.length_zip, List.length_drop, List.length_reverse, Int.reduceToNat, Bool.and_self, List.map_append, List.replicate, List.cons_append, List.nil_append, List.getElem?_cons_zero, List.getElem?_cons_succ, List.set_cons_zero, List.set_cons_succ, Res.bind_ok, Res.bind_bad, Nat.reduceAdd, Nat.reduceSub, Nat.reduceLeDiff, Int.cast_ofNat_Int, Int.natCast_add, Int.reduceNeg, Int.reduceSub, Int.reduceAdd, Int.reduceEq, Int.reduceLT, Int.reduceLE, reduceCtorEq, reduceIte, if_true, if_false, if_lim, decide_true, decide_false, Bool.not_true, Bool.not_false, Bool.false_eq_true, argN1, argN2, argN3, argN4, argN5, fMulA_ok, fMod_ok, fDiv_ok, fAdd_ok, fSub_ok, fGt_ok, fLt_ok, fLe_ok, fGe_ok, eqI_ok, neI_ok, eqS_ok, neS_ok, lenT_ok, lenL_ok, lenM_ok, ixT0, ixT1, ixT2, ixW0, ixW1, ixL0, ixL1, ixL2, ixT_last, ixT_mid, ixT_mid2, pick2_ok, pick3_ok, pick4_ok, pick5_ok, if_int, if_str, slT_to, slT_from, slT_from1, slT_to0, slT_fr0, slT_fr1, addT_ok, addL_ok, tupL_ok, anyBl, allBl, neI_nil, eqI_nil, sto_snoc, listT_ref, listT_val, Nat.zero_add, limA, limA2, ub]
      rw [comp_map (h := fun k : Nat => D.int (unitsF [rs.getD k (0, 0)] w)) (List.range A.length) fun k hk => ⟨_, rfl, rfl, by
        have hk : k < rs.length := Nat.lt_of_lt_of_le (List.mem_range.mp hk) lA
        have e1 : ∀ S : Sto, fIx S (.lst (rs.map fun r => D.int (unitsF [r] w))) (.int (0 + (k : Int))) = .ok (.int (unitsF [rs.getD k (0, 0)] w)) S := fun S => ixL_get (by omega) (by
          rw [show ((0 : Int) + (k : Nat)).toNat = k by omega, List.getD_eq_getElem?_getD, List.getElem?_eq_getElem hk]
          rfl)
        simp (disch := first | assumption | omega | (simp only [List.length_map, List.length_append, List.length_range, List.length_zip, List.length_drop, List.length_reverse, Int.reduceToNat, Bool.and_self, List.length_cons, List.length_nil, List.length_range] <;> omega) | fail) only [↓wp_bind, wp_bind, wp_ok, LTurn, LTook, runF, outF, inits, mSeq, mSet, mRet, mBin, mVar, mC, mIte, mTst, mB, mCons, mNil, mSkip, mAsg, mDrop, mPar, mPar3, mIf, mNotT, mAndT, mOrT, mNotV, mAndV, mOrV, mLst, mLstA, mTup, mFor, mIt, asI, asIL, mYes, mSl, mO, mO0, mNeg, mRng1, mRng2, mChain, mComp, mkL, wipeD, mZip, mEnum, mEnumT, mIsi, gN, gT, gCons', gNil', List.map_cons, List.map_nil, List.length_cons, List.length_nil, List.length_map, List.length_append, List.length_range, List.length_zip, List.length_drop, List.length_reverse, Int.reduceToNat, Bool.and_self, List.map_append, List.replicate, List.cons_append, List.nil_append, List.getElem?_cons_zero, List.getElem?_cons_succ, List.set_cons_zero, List.set_cons_succ, Res.bind_ok, Res.bind_bad, Nat.reduceAdd, Nat.reduceSub, Nat.reduceLeDiff, Int.cast_ofNat_Int, Int.natCast_add, Int.reduceNeg, Int.reduceSub, Int.reduceAdd, Int.reduceEq, Int.reduceLT, Int.reduceLE, reduceCtorEq, reduceIte, if_true, if_false, if_lim, decide_true, decide_false, Bool.not_true, Bool.not_false, Bool.false_eq_true, argN1, argN2, argN3, argN4, argN5, fMulA_ok, fMod_ok, fDiv_ok, fAdd_ok, fSub_ok, fGt_ok, fLt_ok, fLe_ok, fGe_ok, eqI_ok, neI_ok, eqS_ok, neS_ok, lenT_ok, lenL_ok, lenM_ok, ixT0, ixT1, ixT2, ixW0, ixW1, ixL0, ixL1, ixL2, ixT_last, ixT_mid, ixT_mid2, pick2_ok, pick3_ok, pick4_ok, pick5_ok, if_int, if_str, slT_to, slT_from, slT_from1, slT_to0, slT_fr0, slT_fr1, addT_ok, addL_ok, tupL_ok, anyBl, allBl, neI_nil, eqI_nil, sto_snoc, listT_ref, listT_val, Nat.zero_add, e1]⟩]
      have rA : (List.range A.length).map (fun k => D.int (unitsF [rs.getD k (0, 0)] w)) = A.map fun r => D.int (unitsF [r] w) := by
        rw [e]
        exact rng_map2 (fun r => D.int (unitsF [r] w)) A B
      rw [rA]
      rcases nil_or_snoc A with rfl | ⟨A', p, rfl⟩
      · have u0 : unitsF rs w = 0 := by
          rw [e, unitsF_skip w [] B hB]; rfl
        rw [u0]
        have i1 : fIx S' (.lst [.int 0]) (.int (-1)) = .ok (.int 0) S' := rfl
        simp (disch := first | assumption | omega | (simp only [List.length_map, List.length_append, List.length_range, List.length_zip, List.length_drop, List.length_reverse, Int.reduceToNat, Bool.and_self, List.length_cons, List.length_nil, List.length_range] <;> omega) | fail) only [↓wp_bind, wp_bind, wp_ok, LTurn, LTook, runF, outF, inits, mSeq, mSet, mRet, mBin, mVar, mC, mIte, mTst, mB, mCons, mNil, mSkip, mAsg, mDrop, mPar, mPar3, mIf, mNotT, mAndT, mOrT, mNotV, mAndV, mOrV, mLst, mLstA, mTup, mFor, mIt, asI, asIL, mYes, mSl, mO, mO0, mNeg, mRng1, mRng2, mChain, mComp, mkL, wipeD, mZip, mEnum, mEnumT, mIsi, gN, gT, gCons', gNil', List.map_cons, List.map_nil, List.length_cons, List.length_nil, List.length_map, List.length_append, List.length_range, List.length_zip, List.length_drop, List.length_reverse, Int.reduceToNat, Bool.and_self, List.map_append, List.replicate, List.cons_append, List.nil_append, List.getElem?_cons_zero, List.getElem?_cons_succ, List.set_cons_zero, List.set_cons_succ, Res.bind_ok, Res.bind_bad, Nat.reduceAdd, Nat.reduceSub, Nat.reduceLeDiff, Int.cast_ofNat_Int, Int.natCast_add, Int.reduceNeg, Int.reduceSub, Int.reduceAdd, Int.reduceEq, Int.reduceLT, Int.reduceLE, reduceCtorEq, reduceIte, if_true, if_false, if_lim, decide_true, decide_false, Bool.not_true, Bool.not_false, Bool.false_eq_true, argN1, argN2, argN3, argN4, argN5, fMulA_ok, fMod_ok, fDiv_ok, fAdd_ok, fSub_ok, fGt_ok, fLt_ok, fLe_ok, fGe_ok, eqI_ok, neI_ok, eqS_ok, neS_ok, lenT_ok, lenL_ok, lenM_ok, ixT0, ixT1, ixT2, ixW0, ixW1, ixL0, ixL1, ixL2, ixT_last, ixT_mid, ixT_mid2, pick2_ok, pick3_ok, pick4_ok, pick5_ok, if_int, if_str, slT_to, slT_from, slT_from1, slT_to0, slT_fr0, slT_fr1, addT_ok, addL_ok, tupL_ok, anyBl, allBl, neI_nil, eqI_nil, sto_snoc, listT_ref, listT_val, Nat.zero_add, limA, limA3, i1, u0, eqLnil, neLnil, List.range_zero]
        exact ⟨(by first | rfl | trivial), fun z hz => hw z (by simp [hz]), _, _, _, (by first | rfl | trivial)⟩
      · have hp : p.1 < w := hA p (by simp)
        have u1 : unitsF rs w = p.2 := by
          rw [e, show A' ++ [p] ++ B = A' ++ p :: B by simp]
          exact unitsF_at w A' B p hp hB
        have up : unitsF [p] w = p.2 := by rw [units_one, if_pos hp]
        have ep : Bok (p :: B, 0) := ⟨by
          have := congrArg List.length e
          simp only [List.length_append, List.length_cons, List.length_nil] at this
          show 1 ≤ (p :: B).length ∧ (p :: B).length ≤ 5
          rw [List.length_cons]; omega, by
          have q : (rs.map (·.1)).Pairwise (· < ·) := h.rise
          rw [e, show A' ++ [p] ++ B = A' ++ p :: B by simp, List.map_append, List.pairwise_append] at q
          exact q.2.1, fun r hr => h.at_ r (by
          show r ∈ rs
          rw [e]
          rcases List.mem_cons.mp hr with rfl | hr
          · simp
          · simp [hr]), by show (0 : Int) ≤ 0 ∧ (0 : Int) ≤ 9999; decide⟩
        have e4 : noX F_units S' [.tup [.tup (rD p :: B.map rD), .int 0], .int w] = .ok (.int p.2) S' := (units_ok S' (p :: B, 0) w ep w60).trans (by rw [show unitsF (p :: B) w = p.2 from unitsF_at w [] B p hp hB])
        have ers : rs.map rD = A'.map rD ++ rD p :: B.map rD := by
          rw [e]; simp
        have e5 : fSl false S' (.tup (rs.map rD)) (some (0 + ((A'.length : Nat) : Int))) none = .ok (.tup (rD p :: B.map rD)) S' := by
          rw [ers]
          exact slT_from (by rw [List.length_map]; omega)
        have e6 : fIx S' (.lst (D.int 0 :: (A'.map (fun r => D.int (unitsF [r] w)) ++ [D.int (unitsF [p] w)]))) (.int (-1)) = .ok (.int p.2) S' := by
          rw [up]
          exact ixL_last (A := D.int 0 :: A'.map (fun r => D.int (unitsF [r] w)))
        have rl : (List.range (A' ++ [p]).length).map (fun k : Nat => D.int (0 + (k : Int))) = (List.range A'.length).map (fun k : Nat => D.int (0 + (k : Int))) ++ [D.int (0 + ((A'.length : Nat) : Int))] := by
          rw [List.length_append, List.length_singleton, List.range_succ, List.map_append]
          rfl
        have nel : fEqA true S' (.lst ((List.range A'.length).map (fun k : Nat => D.int (0 + (k : Int))) ++ [D.int (0 + ((A'.length : Nat) : Int))])) (.lst []) = .ok (.bl true) S' := by
          rw [← rl, ne_nilI]
          rw [List.length_append, List.length_singleton, List.range_succ]
          simp
        have e7 : fIx S' (.lst ((List.range A'.length).map (fun k : Nat => D.int (0 + (k : Int))) ++ [D.int (0 + ((A'.length : Nat) : Int))])) (.int (-1)) = .ok (.int (0 + ((A'.length : Nat) : Int))) S' := ixL_last
        rw [List.length_append, List.length_singleton] at limA3
        rw [rl, u1]
        rw [u1] at ub
        simp (disch := first | assumption | omega | (simp only [List.length_map, List.length_append, List.length_range, List.length_zip, List.length_drop, List.length_reverse, Int.reduceToNat, Bool.and_self, List.length_cons, List.length_nil, List.length_range] <;> omega) | fail) only [↓wp_bind, wp_bind, wp_ok, LTurn, LTook, runF, outF, inits, mSeq, mSet, mRet, mBin, mVar, mC, mIte, mTst, mB, mCons, mNil, mSkip, mAsg, mDrop, mPar, mPar3, mIf, mNotT, mAndT, mOrT, mNotV, mAndV, mOrV, mLst, mLstA, mTup, mFor, mIt, asI, asIL, mYes, mSl, mO, mO0, mNeg, mRng1, mRng2, mChain, mComp, mkL, wipeD, mZip, mEnum, mEnumT, mIsi, gN, gT, gCons', gNil', List.map_cons, List.map_nil, List.length_cons, List.length_nil, List.length_map, List.length_append, List.length_range, List.length_zip, List.length_drop, List.length_reverse, Int.reduceToNat, Bool.and_self, List.map_append, List.replicate, List.cons_append, List.nil_append, List.getElem?_cons_zero, List.getElem?_cons_succ, List.set_cons_zero, List.set_cons_succ, Res.bind_ok, Res.bind_bad, Nat.reduceAdd, Nat.reduceSub, Nat.reduceLeDiff, Int.cast_ofNat_Int, Int.natCast_add, Int.reduceNeg, Int.reduceSub, Int.reduceAdd, Int.reduceEq, Int.reduceLT, Int.reduceLE, reduceCtorEq, reduceIte, if_true, if_false, if_lim, decide_true, decide_false, Bool.not_true, Bool.not_false, Bool.false_eq_true, argN1, argN2, argN3, argN4, argN5, fMulA_ok, fMod_ok, fDiv_ok, fAdd_ok, fSub_ok, fGt_ok, fLt_ok, fLe_ok, fGe_ok, eqI_ok, neI_ok, eqS_ok, neS_ok, lenT_ok, lenL_ok, lenM_ok, ixT0, ixT1, ixT2, ixW0, ixW1, ixL0, ixL1, ixL2, ixT_last, ixT_mid, ixT_mid2, pick2_ok, pick3_ok, pick4_ok, pick5_ok, if_int, if_str, slT_to, slT_from, slT_from1, slT_to0, slT_fr0, slT_fr1, addT_ok, addL_ok, tupL_ok, anyBl, allBl, neI_nil, eqI_nil, sto_snoc, listT_ref, listT_val, Nat.zero_add, limA3, e6, nel, e7, e5, e4, ub]
        exact ⟨(by first | rfl | trivial), fun z hz => hw z (by simp [hz]), _, _, _, (by first | rfl | trivial)⟩
    · obtain ⟨rfl, hw, x4, x5, x6, rfl⟩ := hP
      simp (disch := first | assumption | omega | (simp only [List.length_map, List.length_append, List.length_range, List.length_zip, List.length_drop, List.length_reverse, Int.reduceToNat, Bool.and_self, List.length_cons, List.length_nil, List.length_range] <;> omega) | fail) only [↓wp_bind, wp_bind, wp_ok, LTurn, LTook, runF, outF, inits, mSeq, mSet, mRet, mBin, mVar, mC, mIte, mTst, mB, mCons, mNil, mSkip, mAsg, mDrop, mPar, mPar3, mIf, mNotT, mAndT, mOrT, mNotV, mAndV, mOrV, mLst, mLstA, mTup, mFor, mIt, asI, asIL, mYes, mSl, mO, mO0, mNeg, mRng1, mRng2, mChain, mComp, mkL, wipeD, mZip, mEnum, mEnumT, mIsi, gN, gT, gCons', gNil', List.map_cons, List.map_nil, List.length_cons, List.length_nil, List.length_map, List.length_append, List.length_range, List.length_zip, List.length_drop, List.length_reverse, Int.reduceToNat, Bool.and_self, List.map_append, List.replicate, List.cons_append, List.nil_append, List.getElem?_cons_zero, List.getElem?_cons_succ, List.set_cons_zero, List.set_cons_succ, Res.bind_ok, Res.bind_bad, Nat.reduceAdd, Nat.reduceSub, Nat.reduceLeDiff, Int.cast_ofNat_Int, Int.natCast_add, Int.reduceNeg, Int.reduceSub, Int.reduceAdd, Int.reduceEq, Int.reduceLT, Int.reduceLE, reduceCtorEq, reduceIte, if_true, if_false, if_lim, decide_true, decide_false, Bool.not_true, Bool.not_false, Bool.false_eq_true, argN1, argN2, argN3, argN4, argN5, fMulA_ok, fMod_ok, fDiv_ok, fAdd_ok, fSub_ok, fGt_ok, fLt_ok, fLe_ok, fGe_ok, eqI_ok, neI_ok, eqS_ok, neS_ok, lenT_ok, lenL_ok, lenM_ok, ixT0, ixT1, ixT2, ixW0, ixW1, ixL0, ixL1, ixL2, ixT_last, ixT_mid, ixT_mid2, pick2_ok, pick3_ok, pick4_ok, pick5_ok, if_int, if_str, slT_to, slT_from, slT_from1, slT_to0, slT_fr0, slT_fr1, addT_ok, addL_ok, tupL_ok, anyBl, allBl, neI_nil, eqI_nil, sto_snoc, listT_ref, listT_val, Nat.zero_add]
      exact fin
end K16

namespace K16
open PySem PySem.Spec PyProof.Rows L2 Ev
theorem wp_begun {ns : List Int} (hn : ns.length ≤ 63) {Q : D → Sto → Prop} (k : ∀ M, G 1000000 M → Q (.ref 1) (M ++ [])) : Wp (F__law_begun [] [.scr ns]) Q tg := by
  obtain ⟨S, e, g⟩ := begun_ok ns hn
  refine wp_of e ?_
  have := k S g
  rwa [List.append_nil] at this
theorem row_same {gr : List Bd} {zs : List Bd} (h : zs.map (·.1) = gr.map (·.1)) : rowD zs = rowD gr := by
  have e : ∀ w, uD zs w = uD gr w := fun w => by
    unfold uD
    have q : (zs.map (·.1)).map (fun rs => D.int (unitsF rs w)) = (gr.map (·.1)).map (fun rs => D.int (unitsF rs w)) := by rw [h]
    rw [List.map_map, List.map_map] at q
    exact congrArg D.tup q
  unfold rowD
  congr 1
  exact List.map_congr_left fun i _ => e _
theorem good : ∀ ns : List Int, ns.length ≤ 63 → ∃ S', F_law [] [.scr ns] = .ok (.bl true) S' := by
  intro ns hn
  suffices h : Wp (F_law [] [.scr ns]) (fun d _ => d = .bl true) tg by
    obtain ⟨d, S, e, rfl⟩ := h
    exact ⟨S, e⟩
  unfold F_law m_law
  simp (disch := first | assumption | omega | (simp only [List.length_map, List.length_append, List.length_range, List.length_zip, List.length_drop, List.length_reverse, Int.reduceToNat, Bool.and_self, List.length_cons, List.length_nil, List.length_range] <;> omega) | fail) only [↓wp_bind, wp_bind, wp_ok, LTurn, LTook, runF, outF, inits, mSeq, mSet, mRet, mBin, mVar, mC, mIte, mTst, mB, mCons, mNil, mSkip, mAsg, mDrop, mPar, mPar3, mIf, mNotT, mAndT, mOrT, mNotV, mAndV, mOrV, mLst, mLstA, mTup, mFor, mIt, asI, asIL, mYes, mSl, mO, mO0, mNeg, mRng1, mRng2, mChain, mComp, mkL, wipeD, mZip, mEnum, mEnumT, mIsi, gN, gT, gCons', gNil', List.map_cons, List.map_nil, List.length_cons, List.length_nil, List.length_map, List.length_append, List.length_range, List.length_zip, List.length_drop, List.length_reverse, Int.reduceToNat, Bool.and_self, List.map_append, List.replicate, List.cons_append, List.nil_append, List.getElem?_cons_zero, List.getElem?_cons_succ, List.set_cons_zero, List.set_cons_succ, Res.bind_ok, Res.bind_bad, Nat.reduceAdd, Nat.reduceSub, Nat.reduceLeDiff, Int.cast_ofNat_Int, Int.natCast_add, Int.reduceNeg, Int.reduceSub, Int.reduceAdd, Int.reduceEq, Int.reduceLT, Int.reduceLE, reduceCtorEq, reduceIte, if_true, if_false, if_lim, decide_true, decide_false, Bool.not_true, Bool.not_false, Bool.false_eq_true, argN1, argN2, argN3, argN4, argN5, fMulA_ok, fMod_ok, fDiv_ok, fAdd_ok, fSub_ok, fGt_ok, fLt_ok, fLe_ok, fGe_ok, eqI_ok, neI_ok, eqS_ok, neS_ok, lenT_ok, lenL_ok, lenM_ok, ixT0, ixT1, ixT2, ixW0, ixW1, ixL0, ixL1, ixL2, ixT_last, ixT_mid, ixT_mid2, pick2_ok, pick3_ok, pick4_ok, pick5_ok, if_int, if_str, slT_to, slT_from, slT_from1, slT_to0, slT_fr0, slT_fr1, addT_ok, addL_ok, tupL_ok, anyBl, allBl, neI_nil, eqI_nil, sto_snoc, listT_ref, listT_val, Nat.zero_add]
  refine wp_begun hn fun M g => ?_
  simp (disch := first | assumption | omega | (simp only [List.length_map, List.length_append, List.length_range, List.length_zip, List.length_drop, List.length_reverse, Int.reduceToNat, Bool.and_self, List.length_cons, List.length_nil, List.length_range] <;> omega) | fail) only [↓wp_bind, wp_bind, wp_ok, LTurn, LTook, runF, outF, inits, mSeq, mSet, mRet, mBin, mVar, mC, mIte, mTst, mB, mCons, mNil, mSkip, mAsg, mDrop, mPar, mPar3, mIf, mNotT, mAndT, mOrT, mNotV, mAndV, mOrV, mLst, mLstA, mTup, mFor, mIt, asI, asIL, mYes, mSl, mO, mO0, mNeg, mRng1, mRng2, mChain, mComp, mkL, wipeD, mZip, mEnum, mEnumT, mIsi, gN, gT, gCons', gNil', List.map_cons, List.map_nil, List.length_cons, List.length_nil, List.length_map, List.length_append, List.length_range, List.length_zip, List.length_drop, List.length_reverse, Int.reduceToNat, Bool.and_self, List.map_append, List.replicate, List.cons_append, List.nil_append, List.getElem?_cons_zero, List.getElem?_cons_succ, List.set_cons_zero, List.set_cons_succ, Res.bind_ok, Res.bind_bad, Nat.reduceAdd, Nat.reduceSub, Nat.reduceLeDiff, Int.cast_ofNat_Int, Int.natCast_add, Int.reduceNeg, Int.reduceSub, Int.reduceAdd, Int.reduceEq, Int.reduceLT, Int.reduceLE, reduceCtorEq, reduceIte, if_true, if_false, if_lim, decide_true, decide_false, Bool.not_true, Bool.not_false, Bool.false_eq_true, argN1, argN2, argN3, argN4, argN5, fMulA_ok, fMod_ok, fDiv_ok, fAdd_ok, fSub_ok, fGt_ok, fLt_ok, fLe_ok, fGe_ok, eqI_ok, neI_ok, eqS_ok, neS_ok, lenT_ok, lenL_ok, lenM_ok, ixT0, ixT1, ixT2, ixW0, ixW1, ixL0, ixL1, ixL2, ixT_last, ixT_mid, ixT_mid2, pick2_ok, pick3_ok, pick4_ok, pick5_ok, if_int, if_str, slT_to, slT_from, slT_from1, slT_to0, slT_fr0, slT_fr1, addT_ok, addL_ok, tupL_ok, anyBl, allBl, neI_nil, eqI_nil, sto_snoc, listT_ref, listT_val, Nat.zero_add, rngOk_ok]
  refine wp_loopN 5 (fun i sl S => ∃ x2 x3 x4 x5 x6 x7 M, sl = [some (.scr ns), some (.ref 1), x2, x3, x4, x5, x6, x7, none, none, none] ∧ S = M ++ [] ∧ G (100 + 1000 * (5 - i)) M) (fun i hi sl S hP => ?_) (fun sl S hP => ?_) _ _ ⟨none, none, none, none, none, none, M, rfl, (by first | rfl | trivial), g.le (by omega)⟩
  · obtain ⟨x2, x3, x4, x5, x6, x7, M, rfl, rfl, g⟩ := hP
    obtain ⟨N, hN, hN2⟩ : ∃ N, N + 1000 = 100 + 1000 * (5 - i) ∧ N = 100 + 1000 * (5 - (i + 1)) := ⟨100 + 1000 * (5 - (i + 1)), by omega, rfl⟩
    rw [← hN] at g
    rw [← hN2]
    simp (disch := first | assumption | omega | (simp only [List.length_map, List.length_append, List.length_range, List.length_zip, List.length_drop, List.length_reverse, Int.reduceToNat, Bool.and_self, List.length_cons, List.length_nil, List.length_range] <;> omega) | fail) only [↓wp_bind, wp_bind, wp_ok, LTurn, LTook, runF, outF, inits, mSeq, mSet, mRet, mBin, mVar, mC, mIte, mTst, mB, mCons, mNil, mSkip, mAsg, mDrop, mPar, mPar3, mIf, mNotT, mAndT, mOrT, mNotV, mAndV, mOrV, mLst, mLstA, mTup, mFor, mIt, asI, asIL, mYes, mSl, mO, mO0, mNeg, mRng1, mRng2, mChain, mComp, mkL, wipeD, mZip, mEnum, mEnumT, mIsi, gN, gT, gCons', gNil', List.map_cons, List.map_nil, List.length_cons, List.length_nil, List.length_map, List.length_append, List.length_range, List.length_zip, List.length_drop, List.length_reverse, Int.reduceToNat, Bool.and_self, List.map_append, List.replicate, List.cons_append, List.nil_append, List.getElem?_cons_zero, List.getElem?_cons_succ, List.set_cons_zero, List.set_cons_succ, Res.bind_ok, Res.bind_bad, Nat.reduceAdd, Nat.reduceSub, Nat.reduceLeDiff, Int.cast_ofNat_Int, Int.natCast_add, Int.reduceNeg, Int.reduceSub, Int.reduceAdd, Int.reduceEq, Int.reduceLT, Int.reduceLE, reduceCtorEq, reduceIte, if_true, if_false, if_lim, decide_true, decide_false, Bool.not_true, Bool.not_false, Bool.false_eq_true, argN1, argN2, argN3, argN4, argN5, fMulA_ok, fMod_ok, fDiv_ok, fAdd_ok, fSub_ok, fGt_ok, fLt_ok, fLe_ok, fGe_ok, eqI_ok, neI_ok, eqS_ok, neS_ok, lenT_ok, lenL_ok, lenM_ok, ixT0, ixT1, ixT2, ixW0, ixW1, ixL0, ixL1, ixL2, ixT_last, ixT_mid, ixT_mid2, pick2_ok, pick3_ok, pick4_ok, pick5_ok, if_int, if_str, slT_to, slT_from, slT_from1, slT_to0, slT_fr0, slT_fr1, addT_ok, addL_ok, tupL_ok, anyBl, allBl, neI_nil, eqI_nil, sto_snoc, listT_ref, listT_val, Nat.zero_add]
    refine wp_any_grade (n := N + 800) (g.le (by omega)) Tok.nil fun gr M hg g => ?_
    obtain ⟨s1, e1⟩ : ∃ s : Str, ∀ S : Sto, fRepr S [gD gr] = .ok (.str s) S := nc_reprT (nc_g hg) (by decide) (by decide)
    have few := hg.few
    simp (disch := first | assumption | omega | (simp only [List.length_map, List.length_append, List.length_range, List.length_zip, List.length_drop, List.length_reverse, Int.reduceToNat, Bool.and_self, List.length_cons, List.length_nil, List.length_range] <;> omega) | fail) only [↓wp_bind, wp_bind, wp_ok, LTurn, LTook, runF, outF, inits, mSeq, mSet, mRet, mBin, mVar, mC, mIte, mTst, mB, mCons, mNil, mSkip, mAsg, mDrop, mPar, mPar3, mIf, mNotT, mAndT, mOrT, mNotV, mAndV, mOrV, mLst, mLstA, mTup, mFor, mIt, asI, asIL, mYes, mSl, mO, mO0, mNeg, mRng1, mRng2, mChain, mComp, mkL, wipeD, mZip, mEnum, mEnumT, mIsi, gN, gT, gCons', gNil', List.map_cons, List.map_nil, List.length_cons, List.length_nil, List.length_map, List.length_append, List.length_range, List.length_zip, List.length_drop, List.length_reverse, Int.reduceToNat, Bool.and_self, List.map_append, List.replicate, List.cons_append, List.nil_append, List.getElem?_cons_zero, List.getElem?_cons_succ, List.set_cons_zero, List.set_cons_succ, Res.bind_ok, Res.bind_bad, Nat.reduceAdd, Nat.reduceSub, Nat.reduceLeDiff, Int.cast_ofNat_Int, Int.natCast_add, Int.reduceNeg, Int.reduceSub, Int.reduceAdd, Int.reduceEq, Int.reduceLT, Int.reduceLE, reduceCtorEq, reduceIte, if_true, if_false, if_lim, decide_true, decide_false, Bool.not_true, Bool.not_false, Bool.false_eq_true, argN1, argN2, argN3, argN4, argN5, fMulA_ok, fMod_ok, fDiv_ok, fAdd_ok, fSub_ok, fGt_ok, fLt_ok, fLe_ok, fGe_ok, eqI_ok, neI_ok, eqS_ok, neS_ok, lenT_ok, lenL_ok, lenM_ok, ixT0, ixT1, ixT2, ixW0, ixW1, ixL0, ixL1, ixL2, ixT_last, ixT_mid, ixT_mid2, pick2_ok, pick3_ok, pick4_ok, pick5_ok, if_int, if_str, slT_to, slT_from, slT_from1, slT_to0, slT_fr0, slT_fr1, addT_ok, addL_ok, tupL_ok, anyBl, allBl, neI_nil, eqI_nil, sto_snoc, listT_ref, listT_val, Nat.zero_add, row_ok _ gr hg, e1, parts_ok _ gr hg]
    refine wp_draw (n := N + 799) (g.le (by omega)) (by omega) (by omega) fun v1 M v10 v11 g => ?_
    simp (disch := first | assumption | omega | (simp only [List.length_map, List.length_append, List.length_range, List.length_zip, List.length_drop, List.length_reverse, Int.reduceToNat, Bool.and_self, List.length_cons, List.length_nil, List.length_range] <;> omega) | fail) only [↓wp_bind, wp_bind, wp_ok, LTurn, LTook, runF, outF, inits, mSeq, mSet, mRet, mBin, mVar, mC, mIte, mTst, mB, mCons, mNil, mSkip, mAsg, mDrop, mPar, mPar3, mIf, mNotT, mAndT, mOrT, mNotV, mAndV, mOrV, mLst, mLstA, mTup, mFor, mIt, asI, asIL, mYes, mSl, mO, mO0, mNeg, mRng1, mRng2, mChain, mComp, mkL, wipeD, mZip, mEnum, mEnumT, mIsi, gN, gT, gCons', gNil', List.map_cons, List.map_nil, List.length_cons, List.length_nil, List.length_map, List.length_append, List.length_range, List.length_zip, List.length_drop, List.length_reverse, Int.reduceToNat, Bool.and_self, List.map_append, List.replicate, List.cons_append, List.nil_append, List.getElem?_cons_zero, List.getElem?_cons_succ, List.set_cons_zero, List.set_cons_succ, Res.bind_ok, Res.bind_bad, Nat.reduceAdd, Nat.reduceSub, Nat.reduceLeDiff, Int.cast_ofNat_Int, Int.natCast_add, Int.reduceNeg, Int.reduceSub, Int.reduceAdd, Int.reduceEq, Int.reduceLT, Int.reduceLE, reduceCtorEq, reduceIte, if_true, if_false, if_lim, decide_true, decide_false, Bool.not_true, Bool.not_false, Bool.false_eq_true, argN1, argN2, argN3, argN4, argN5, fMulA_ok, fMod_ok, fDiv_ok, fAdd_ok, fSub_ok, fGt_ok, fLt_ok, fLe_ok, fGe_ok, eqI_ok, neI_ok, eqS_ok, neS_ok, lenT_ok, lenL_ok, lenM_ok, ixT0, ixT1, ixT2, ixW0, ixW1, ixL0, ixL1, ixL2, ixT_last, ixT_mid, ixT_mid2, pick2_ok, pick3_ok, pick4_ok, pick5_ok, if_int, if_str, slT_to, slT_from, slT_from1, slT_to0, slT_fr0, slT_fr1, addT_ok, addL_ok, tupL_ok, anyBl, allBl, neI_nil, eqI_nil, sto_snoc, listT_ref, listT_val, Nat.zero_add]
    refine wp_draw (n := N + 798) (g.le (by omega)) (by omega) (by omega) fun v2 M v20 v21 g => ?_
    simp (disch := first | assumption | omega | (simp only [List.length_map, List.length_append, List.length_range, List.length_zip, List.length_drop, List.length_reverse, Int.reduceToNat, Bool.and_self, List.length_cons, List.length_nil, List.length_range] <;> omega) | fail) only [↓wp_bind, wp_bind, wp_ok, LTurn, LTook, runF, outF, inits, mSeq, mSet, mRet, mBin, mVar, mC, mIte, mTst, mB, mCons, mNil, mSkip, mAsg, mDrop, mPar, mPar3, mIf, mNotT, mAndT, mOrT, mNotV, mAndV, mOrV, mLst, mLstA, mTup, mFor, mIt, asI, asIL, mYes, mSl, mO, mO0, mNeg, mRng1, mRng2, mChain, mComp, mkL, wipeD, mZip, mEnum, mEnumT, mIsi, gN, gT, gCons', gNil', List.map_cons, List.map_nil, List.length_cons, List.length_nil, List.length_map, List.length_append, List.length_range, List.length_zip, List.length_drop, List.length_reverse, Int.reduceToNat, Bool.and_self, List.map_append, List.replicate, List.cons_append, List.nil_append, List.getElem?_cons_zero, List.getElem?_cons_succ, List.set_cons_zero, List.set_cons_succ, Res.bind_ok, Res.bind_bad, Nat.reduceAdd, Nat.reduceSub, Nat.reduceLeDiff, Int.cast_ofNat_Int, Int.natCast_add, Int.reduceNeg, Int.reduceSub, Int.reduceAdd, Int.reduceEq, Int.reduceLT, Int.reduceLE, reduceCtorEq, reduceIte, if_true, if_false, if_lim, decide_true, decide_false, Bool.not_true, Bool.not_false, Bool.false_eq_true, argN1, argN2, argN3, argN4, argN5, fMulA_ok, fMod_ok, fDiv_ok, fAdd_ok, fSub_ok, fGt_ok, fLt_ok, fLe_ok, fGe_ok, eqI_ok, neI_ok, eqS_ok, neS_ok, lenT_ok, lenL_ok, lenM_ok, ixT0, ixT1, ixT2, ixW0, ixW1, ixL0, ixL1, ixL2, ixT_last, ixT_mid, ixT_mid2, pick2_ok, pick3_ok, pick4_ok, pick5_ok, if_int, if_str, slT_to, slT_from, slT_from1, slT_to0, slT_fr0, slT_fr1, addT_ok, addL_ok, tupL_ok, anyBl, allBl, neI_nil, eqI_nil, sto_snoc, listT_ref, listT_val, Nat.zero_add]
    refine wp_loop (f := D.int) (fun (rest : List Int) sl S => S = M ++ [] ∧ ∃ x6, sl = [some (.scr ns), some (.ref 1), some (.int (0 + (i : Nat))), some (gD gr), some (rowD gr), some (.str s1), x6, x7, none, none, none]) (fun m rest sl S hP => ?_) (fun sl S hP => ?_) [1 + v1, -1 - v2] _ _ ⟨rfl, x6, rfl⟩
    · obtain ⟨rfl, x6, rfl⟩ := hP
      simp (disch := first | assumption | omega | (simp only [List.length_map, List.length_append, List.length_range, List.length_zip, List.length_drop, List.length_reverse, Int.reduceToNat, Bool.and_self, List.length_cons, List.length_nil, List.length_range] <;> omega) | fail) only [↓wp_bind, wp_bind, wp_ok, LTurn, LTook, runF, outF, inits, mSeq, mSet, mRet, mBin, mVar, mC, mIte, mTst, mB, mCons, mNil, mSkip, mAsg, mDrop, mPar, mPar3, mIf, mNotT, mAndT, mOrT, mNotV, mAndV, mOrV, mLst, mLstA, mTup, mFor, mIt, asI, asIL, mYes, mSl, mO, mO0, mNeg, mRng1, mRng2, mChain, mComp, mkL, wipeD, mZip, mEnum, mEnumT, mIsi, gN, gT, gCons', gNil', List.map_cons, List.map_nil, List.length_cons, List.length_nil, List.length_map, List.length_append, List.length_range, List.length_zip, List.length_drop, List.length_reverse, Int.reduceToNat, Bool.and_self, List.map_append, List.replicate, List.cons_append, List.nil_append, List.getElem?_cons_zero, List.getElem?_cons_succ, List.set_cons_zero, List.set_cons_succ, Res.bind_ok, Res.bind_bad, Nat.reduceAdd, Nat.reduceSub, Nat.reduceLeDiff, Int.cast_ofNat_Int, Int.natCast_add, Int.reduceNeg, Int.reduceSub, Int.reduceAdd, Int.reduceEq, Int.reduceLT, Int.reduceLE, reduceCtorEq, reduceIte, if_true, if_false, if_lim, decide_true, decide_false, Bool.not_true, Bool.not_false, Bool.false_eq_true, argN1, argN2, argN3, argN4, argN5, fMulA_ok, fMod_ok, fDiv_ok, fAdd_ok, fSub_ok, fGt_ok, fLt_ok, fLe_ok, fGe_ok, eqI_ok, neI_ok, eqS_ok, neS_ok, lenT_ok, lenL_ok, lenM_ok, ixT0, ixT1, ixT2, ixW0, ixW1, ixL0, ixL1, ixL2, ixT_last, ixT_mid, ixT_mid2, pick2_ok, pick3_ok, pick4_ok, pick5_ok, if_int, if_str, slT_to, slT_from, slT_from1, slT_to0, slT_fr0, slT_fr1, addT_ok, addL_ok, tupL_ok, anyBl, allBl, neI_nil, eqI_nil, sto_snoc, listT_ref, listT_val, Nat.zero_add]
      refine wp_moved_right g Tok.nil hg ?_
      simp (disch := first | assumption | omega | (simp only [List.length_map, List.length_append, List.length_range, List.length_zip, List.length_drop, List.length_reverse, Int.reduceToNat, Bool.and_self, List.length_cons, List.length_nil, List.length_range] <;> omega) | fail) only [↓wp_bind, wp_bind, wp_ok, LTurn, LTook, runF, outF, inits, mSeq, mSet, mRet, mBin, mVar, mC, mIte, mTst, mB, mCons, mNil, mSkip, mAsg, mDrop, mPar, mPar3, mIf, mNotT, mAndT, mOrT, mNotV, mAndV, mOrV, mLst, mLstA, mTup, mFor, mIt, asI, asIL, mYes, mSl, mO, mO0, mNeg, mRng1, mRng2, mChain, mComp, mkL, wipeD, mZip, mEnum, mEnumT, mIsi, gN, gT, gCons', gNil', List.map_cons, List.map_nil, List.length_cons, List.length_nil, List.length_map, List.length_append, List.length_range, List.length_zip, List.length_drop, List.length_reverse, Int.reduceToNat, Bool.and_self, List.map_append, List.replicate, List.cons_append, List.nil_append, List.getElem?_cons_zero, List.getElem?_cons_succ, List.set_cons_zero, List.set_cons_succ, Res.bind_ok, Res.bind_bad, Nat.reduceAdd, Nat.reduceSub, Nat.reduceLeDiff, Int.cast_ofNat_Int, Int.natCast_add, Int.reduceNeg, Int.reduceSub, Int.reduceAdd, Int.reduceEq, Int.reduceLT, Int.reduceLE, reduceCtorEq, reduceIte, if_true, if_false, if_lim, decide_true, decide_false, Bool.not_true, Bool.not_false, Bool.false_eq_true, argN1, argN2, argN3, argN4, argN5, fMulA_ok, fMod_ok, fDiv_ok, fAdd_ok, fSub_ok, fGt_ok, fLt_ok, fLe_ok, fGe_ok, eqI_ok, neI_ok, eqS_ok, neS_ok, lenT_ok, lenL_ok, lenM_ok, ixT0, ixT1, ixT2, ixW0, ixW1, ixL0, ixL1, ixL2, ixT_last, ixT_mid, ixT_mid2, pick2_ok, pick3_ok, pick4_ok, pick5_ok, if_int, if_str, slT_to, slT_from, slT_from1, slT_to0, slT_fr0, slT_fr1, addT_ok, addL_ok, tupL_ok, anyBl, allBl, neI_nil, eqI_nil, sto_snoc, listT_ref, listT_val, Nat.zero_add]
      exact ⟨(by first | rfl | trivial), _, (by first | rfl | trivial)⟩
    · obtain ⟨rfl, x6, rfl⟩ := hP
      have eg : gD gr = .tup (gr.map bD) := rfl
      rw [eg]
      rw [eg] at e1
      simp (disch := first | assumption | omega | (simp only [List.length_map, List.length_append, List.length_range, List.length_zip, List.length_drop, List.length_reverse, Int.reduceToNat, Bool.and_self, List.length_cons, List.length_nil, List.length_range] <;> omega) | fail) only [↓wp_bind, wp_bind, wp_ok, LTurn, LTook, runF, outF, inits, mSeq, mSet, mRet, mBin, mVar, mC, mIte, mTst, mB, mCons, mNil, mSkip, mAsg, mDrop, mPar, mPar3, mIf, mNotT, mAndT, mOrT, mNotV, mAndV, mOrV, mLst, mLstA, mTup, mFor, mIt, asI, asIL, mYes, mSl, mO, mO0, mNeg, mRng1, mRng2, mChain, mComp, mkL, wipeD, mZip, mEnum, mEnumT, mIsi, gN, gT, gCons', gNil', List.map_cons, List.map_nil, List.length_cons, List.length_nil, List.length_map, List.length_append, List.length_range, List.length_zip, List.length_drop, List.length_reverse, Int.reduceToNat, Bool.and_self, List.map_append, List.replicate, List.cons_append, List.nil_append, List.getElem?_cons_zero, List.getElem?_cons_succ, List.set_cons_zero, List.set_cons_succ, Res.bind_ok, Res.bind_bad, Nat.reduceAdd, Nat.reduceSub, Nat.reduceLeDiff, Int.cast_ofNat_Int, Int.natCast_add, Int.reduceNeg, Int.reduceSub, Int.reduceAdd, Int.reduceEq, Int.reduceLT, Int.reduceLE, reduceCtorEq, reduceIte, if_true, if_false, if_lim, decide_true, decide_false, Bool.not_true, Bool.not_false, Bool.false_eq_true, argN1, argN2, argN3, argN4, argN5, fMulA_ok, fMod_ok, fDiv_ok, fAdd_ok, fSub_ok, fGt_ok, fLt_ok, fLe_ok, fGe_ok, eqI_ok, neI_ok, eqS_ok, neS_ok, lenT_ok, lenL_ok, lenM_ok, ixT0, ixT1, ixT2, ixW0, ixW1, ixL0, ixL1, ixL2, ixT_last, ixT_mid, ixT_mid2, pick2_ok, pick3_ok, pick4_ok, pick5_ok, if_int, if_str, slT_to, slT_from, slT_from1, slT_to0, slT_fr0, slT_fr1, addT_ok, addL_ok, tupL_ok, anyBl, allBl, neI_nil, eqI_nil, sto_snoc, listT_ref, listT_val, Nat.zero_add]
      refine wp_comp (fun (R : List Bd) acc S => acc = [] ∧ (∀ b ∈ R, Bok b) ∧ ∃ M, S = M ++ [] ∧ G (N + 100 + 20 * R.length) M) (fun b rest acc S hP => ?_) _ [] _ (fun ys S hP => ?_) ⟨rfl, hg.all, M, rfl, g.le (by omega)⟩
      · obtain ⟨rfl, hb, M, rfl, g⟩ := hP
        rw [List.length_cons] at g
        simp (disch := first | assumption | omega | (simp only [List.length_map, List.length_append, List.length_range, List.length_zip, List.length_drop, List.length_reverse, Int.reduceToNat, Bool.and_self, List.length_cons, List.length_nil, List.length_range] <;> omega) | fail) only [↓wp_bind, wp_bind, wp_ok, LTurn, LTook, runF, outF, inits, mSeq, mSet, mRet, mBin, mVar, mC, mIte, mTst, mB, mCons, mNil, mSkip, mAsg, mDrop, mPar, mPar3, mIf, mNotT, mAndT, mOrT, mNotV, mAndV, mOrV, mLst, mLstA, mTup, mFor, mIt, asI, asIL, mYes, mSl, mO, mO0, mNeg, mRng1, mRng2, mChain, mComp, mkL, wipeD, mZip, mEnum, mEnumT, mIsi, gN, gT, gCons', gNil', List.map_cons, List.map_nil, List.length_cons, List.length_nil, List.length_map, List.length_append, List.length_range, List.length_zip, List.length_drop, List.length_reverse, Int.reduceToNat, Bool.and_self, List.map_append, List.replicate, List.cons_append, List.nil_append, List.getElem?_cons_zero, List.getElem?_cons_succ, List.set_cons_zero, List.set_cons_succ, Res.bind_ok, Res.bind_bad, Nat.reduceAdd, Nat.reduceSub, Nat.reduceLeDiff, Int.cast_ofNat_Int, Int.natCast_add, Int.reduceNeg, Int.reduceSub, Int.reduceAdd, Int.reduceEq, Int.reduceLT, Int.reduceLE, reduceCtorEq, reduceIte, if_true, if_false, if_lim, decide_true, decide_false, Bool.not_true, Bool.not_false, Bool.false_eq_true, argN1, argN2, argN3, argN4, argN5, fMulA_ok, fMod_ok, fDiv_ok, fAdd_ok, fSub_ok, fGt_ok, fLt_ok, fLe_ok, fGe_ok, eqI_ok, neI_ok, eqS_ok, neS_ok, lenT_ok, lenL_ok, lenM_ok, ixT0, ixT1, ixT2, ixW0, ixW1, ixL0, ixL1, ixL2, ixT_last, ixT_mid, ixT_mid2, pick2_ok, pick3_ok, pick4_ok, pick5_ok, if_int, if_str, slT_to, slT_from, slT_from1, slT_to0, slT_fr0, slT_fr1, addT_ok, addL_ok, tupL_ok, anyBl, allBl, neI_nil, eqI_nil, sto_snoc, listT_ref, listT_val, Nat.zero_add]
        refine wp_rates_right (n := N + 100 + 20 * rest.length) (g.le (by omega)) Tok.nil (hb b (by simp)) fun M g => ?_
        simp (disch := first | assumption | omega | (simp only [List.length_map, List.length_append, List.length_range, List.length_zip, List.length_drop, List.length_reverse, Int.reduceToNat, Bool.and_self, List.length_cons, List.length_nil, List.length_range] <;> omega) | fail) only [↓wp_bind, wp_bind, wp_ok, LTurn, LTook, runF, outF, inits, mSeq, mSet, mRet, mBin, mVar, mC, mIte, mTst, mB, mCons, mNil, mSkip, mAsg, mDrop, mPar, mPar3, mIf, mNotT, mAndT, mOrT, mNotV, mAndV, mOrV, mLst, mLstA, mTup, mFor, mIt, asI, asIL, mYes, mSl, mO, mO0, mNeg, mRng1, mRng2, mChain, mComp, mkL, wipeD, mZip, mEnum, mEnumT, mIsi, gN, gT, gCons', gNil', List.map_cons, List.map_nil, List.length_cons, List.length_nil, List.length_map, List.length_append, List.length_range, List.length_zip, List.length_drop, List.length_reverse, Int.reduceToNat, Bool.and_self, List.map_append, List.replicate, List.cons_append, List.nil_append, List.getElem?_cons_zero, List.getElem?_cons_succ, List.set_cons_zero, List.set_cons_succ, Res.bind_ok, Res.bind_bad, Nat.reduceAdd, Nat.reduceSub, Nat.reduceLeDiff, Int.cast_ofNat_Int, Int.natCast_add, Int.reduceNeg, Int.reduceSub, Int.reduceAdd, Int.reduceEq, Int.reduceLT, Int.reduceLE, reduceCtorEq, reduceIte, if_true, if_false, if_lim, decide_true, decide_false, Bool.not_true, Bool.not_false, Bool.false_eq_true, argN1, argN2, argN3, argN4, argN5, fMulA_ok, fMod_ok, fDiv_ok, fAdd_ok, fSub_ok, fGt_ok, fLt_ok, fLe_ok, fGe_ok, eqI_ok, neI_ok, eqS_ok, neS_ok, lenT_ok, lenL_ok, lenM_ok, ixT0, ixT1, ixT2, ixW0, ixW1, ixL0, ixL1, ixL2, ixT_last, ixT_mid, ixT_mid2, pick2_ok, pick3_ok, pick4_ok, pick5_ok, if_int, if_str, slT_to, slT_from, slT_from1, slT_to0, slT_fr0, slT_fr1, addT_ok, addL_ok, tupL_ok, anyBl, allBl, neI_nil, eqI_nil, sto_snoc, listT_ref, listT_val, Nat.zero_add]
        exact ⟨(by first | rfl | trivial), fun c hc => hb c (by simp [hc]), M, (by first | rfl | trivial), g⟩
      · obtain ⟨rfl, hb, M, rfl, g⟩ := hP
        simp (disch := first | assumption | omega | (simp only [List.length_map, List.length_append, List.length_range, List.length_zip, List.length_drop, List.length_reverse, Int.reduceToNat, Bool.and_self, List.length_cons, List.length_nil, List.length_range] <;> omega) | fail) only [↓wp_bind, wp_bind, wp_ok, LTurn, LTook, runF, outF, inits, mSeq, mSet, mRet, mBin, mVar, mC, mIte, mTst, mB, mCons, mNil, mSkip, mAsg, mDrop, mPar, mPar3, mIf, mNotT, mAndT, mOrT, mNotV, mAndV, mOrV, mLst, mLstA, mTup, mFor, mIt, asI, asIL, mYes, mSl, mO, mO0, mNeg, mRng1, mRng2, mChain, mComp, mkL, wipeD, mZip, mEnum, mEnumT, mIsi, gN, gT, gCons', gNil', List.map_cons, List.map_nil, List.length_cons, List.length_nil, List.length_map, List.length_append, List.length_range, List.length_zip, List.length_drop, List.length_reverse, Int.reduceToNat, Bool.and_self, List.map_append, List.replicate, List.cons_append, List.nil_append, List.getElem?_cons_zero, List.getElem?_cons_succ, List.set_cons_zero, List.set_cons_succ, Res.bind_ok, Res.bind_bad, Nat.reduceAdd, Nat.reduceSub, Nat.reduceLeDiff, Int.cast_ofNat_Int, Int.natCast_add, Int.reduceNeg, Int.reduceSub, Int.reduceAdd, Int.reduceEq, Int.reduceLT, Int.reduceLE, reduceCtorEq, reduceIte, if_true, if_false, if_lim, decide_true, decide_false, Bool.not_true, Bool.not_false, Bool.false_eq_true, argN1, argN2, argN3, argN4, argN5, fMulA_ok, fMod_ok, fDiv_ok, fAdd_ok, fSub_ok, fGt_ok, fLt_ok, fLe_ok, fGe_ok, eqI_ok, neI_ok, eqS_ok, neS_ok, lenT_ok, lenL_ok, lenM_ok, ixT0, ixT1, ixT2, ixW0, ixW1, ixL0, ixL1, ixL2, ixT_last, ixT_mid, ixT_mid2, pick2_ok, pick3_ok, pick4_ok, pick5_ok, if_int, if_str, slT_to, slT_from, slT_from1, slT_to0, slT_fr0, slT_fr1, addT_ok, addL_ok, tupL_ok, anyBl, allBl, neI_nil, eqI_nil, sto_snoc, listT_ref, listT_val, Nat.zero_add, neLnil]
        refine wp_comp (fun (R : List Bd) acc S => ∃ zs M, acc = zs.map bD ∧ S = M ++ [] ∧ G (N + 10 + R.length) M ∧ zs.map (·.1) ++ R.map (·.1) = gr.map (·.1) ∧ (∀ b ∈ R, Bok b) ∧ ∀ z ∈ zs, Bok z) (fun b rest acc S hP => ?_) _ [] _ (fun ys S hP => ?_) ⟨[], M, rfl, rfl, g.le (by omega), rfl, hg.all, fun z hz => by cases hz⟩
        · obtain ⟨zs, M, rfl, rfl, g, hz, hb, hz2⟩ := hP
          have bk := hb b (by simp)
          simp (disch := first | assumption | omega | (simp only [List.length_map, List.length_append, List.length_range, List.length_zip, List.length_drop, List.length_reverse, Int.reduceToNat, Bool.and_self, List.length_cons, List.length_nil, List.length_range] <;> omega) | fail) only [↓wp_bind, wp_bind, wp_ok, LTurn, LTook, runF, outF, inits, mSeq, mSet, mRet, mBin, mVar, mC, mIte, mTst, mB, mCons, mNil, mSkip, mAsg, mDrop, mPar, mPar3, mIf, mNotT, mAndT, mOrT, mNotV, mAndV, mOrV, mLst, mLstA, mTup, mFor, mIt, asI, asIL, mYes, mSl, mO, mO0, mNeg, mRng1, mRng2, mChain, mComp, mkL, wipeD, mZip, mEnum, mEnumT, mIsi, gN, gT, gCons', gNil', List.map_cons, List.map_nil, List.length_cons, List.length_nil, List.length_map, List.length_append, List.length_range, List.length_zip, List.length_drop, List.length_reverse, Int.reduceToNat, Bool.and_self, List.map_append, List.replicate, List.cons_append, List.nil_append, List.getElem?_cons_zero, List.getElem?_cons_succ, List.set_cons_zero, List.set_cons_succ, Res.bind_ok, Res.bind_bad, Nat.reduceAdd, Nat.reduceSub, Nat.reduceLeDiff, Int.cast_ofNat_Int, Int.natCast_add, Int.reduceNeg, Int.reduceSub, Int.reduceAdd, Int.reduceEq, Int.reduceLT, Int.reduceLE, reduceCtorEq, reduceIte, if_true, if_false, if_lim, decide_true, decide_false, Bool.not_true, Bool.not_false, Bool.false_eq_true, argN1, argN2, argN3, argN4, argN5, fMulA_ok, fMod_ok, fDiv_ok, fAdd_ok, fSub_ok, fGt_ok, fLt_ok, fLe_ok, fGe_ok, eqI_ok, neI_ok, eqS_ok, neS_ok, lenT_ok, lenL_ok, lenM_ok, ixT0, ixT1, ixT2, ixW0, ixW1, ixL0, ixL1, ixL2, ixT_last, ixT_mid, ixT_mid2, pick2_ok, pick3_ok, pick4_ok, pick5_ok, if_int, if_str, slT_to, slT_from, slT_from1, slT_to0, slT_fr0, slT_fr1, addT_ok, addL_ok, tupL_ok, anyBl, allBl, neI_nil, eqI_nil, sto_snoc, listT_ref, listT_val, Nat.zero_add, bD]
          refine wp_draw (n := N + 10 + rest.length) (g.le (by rw [List.length_cons]; omega)) (by omega) (by omega) fun v M v0 v1 g => ?_
          simp (disch := first | assumption | omega | (simp only [List.length_map, List.length_append, List.length_range, List.length_zip, List.length_drop, List.length_reverse, Int.reduceToNat, Bool.and_self, List.length_cons, List.length_nil, List.length_range] <;> omega) | fail) only [↓wp_bind, wp_bind, wp_ok, LTurn, LTook, runF, outF, inits, mSeq, mSet, mRet, mBin, mVar, mC, mIte, mTst, mB, mCons, mNil, mSkip, mAsg, mDrop, mPar, mPar3, mIf, mNotT, mAndT, mOrT, mNotV, mAndV, mOrV, mLst, mLstA, mTup, mFor, mIt, asI, asIL, mYes, mSl, mO, mO0, mNeg, mRng1, mRng2, mChain, mComp, mkL, wipeD, mZip, mEnum, mEnumT, mIsi, gN, gT, gCons', gNil', List.map_cons, List.map_nil, List.length_cons, List.length_nil, List.length_map, List.length_append, List.length_range, List.length_zip, List.length_drop, List.length_reverse, Int.reduceToNat, Bool.and_self, List.map_append, List.replicate, List.cons_append, List.nil_append, List.getElem?_cons_zero, List.getElem?_cons_succ, List.set_cons_zero, List.set_cons_succ, Res.bind_ok, Res.bind_bad, Nat.reduceAdd, Nat.reduceSub, Nat.reduceLeDiff, Int.cast_ofNat_Int, Int.natCast_add, Int.reduceNeg, Int.reduceSub, Int.reduceAdd, Int.reduceEq, Int.reduceLT, Int.reduceLE, reduceCtorEq, reduceIte, if_true, if_false, if_lim, decide_true, decide_false, Bool.not_true, Bool.not_false, Bool.false_eq_true, argN1, argN2, argN3, argN4, argN5, fMulA_ok, fMod_ok, fDiv_ok, fAdd_ok, fSub_ok, fGt_ok, fLt_ok, fLe_ok, fGe_ok, eqI_ok, neI_ok, eqS_ok, neS_ok, lenT_ok, lenL_ok, lenM_ok, ixT0, ixT1, ixT2, ixW0, ixW1, ixL0, ixL1, ixL2, ixT_last, ixT_mid, ixT_mid2, pick2_ok, pick3_ok, pick4_ok, pick5_ok, if_int, if_str, slT_to, slT_from, slT_from1, slT_to0, slT_fr0, slT_fr1, addT_ok, addL_ok, tupL_ok, anyBl, allBl, neI_nil, eqI_nil, sto_snoc, listT_ref, listT_val, Nat.zero_add]
          refine ⟨zs ++ [(b.1, v)], M, by rw [List.map_append]; rfl, rfl, g, by rw [List.map_append, List.append_assoc]; exact hz, fun c hc => hb c (by simp [hc]), fun z hz => ?_⟩
          rcases List.mem_append.mp hz with hz | hz
          · exact hz2 z hz
          · rw [List.mem_singleton.mp hz]
            exact ⟨bk.few, bk.rise, bk.at_, by simp only; omega⟩
        · obtain ⟨zs, M, hy, rfl, g, hz, hb, hz2⟩ := hP
          rw [List.nil_append] at hy
          subst hy
          have hz : zs.map (·.1) ++ [] = gr.map (·.1) := hz
          rw [List.append_nil] at hz
          have lz : zs.length = gr.length := by
            have := congrArg List.length hz
            rwa [List.length_map, List.length_map] at this
          have gz : Gok zs := ⟨by rw [lz]; exact few, hz2⟩
          have er : F__law_row (M ++ []) [.tup (zs.map bD)] = .ok (rowD gr) (M ++ []) := (row_ok (M ++ []) zs gz).trans (by rw [row_same hz])
          have lim : zs.length ≤ 16777216 := by omega
          have nr := nc_row hg
          have ne : fEqA true (M ++ []) (rowD gr) (rowD gr) = .ok (.bl false) (M ++ []) := by
            unfold rowD at nr ⊢
            exact nc_neL nr (by decide)
          simp (disch := first | assumption | omega | (simp only [List.length_map, List.length_append, List.length_range, List.length_zip, List.length_drop, List.length_reverse, Int.reduceToNat, Bool.and_self, List.length_cons, List.length_nil, List.length_range] <;> omega) | fail) only [↓wp_bind, wp_bind, wp_ok, LTurn, LTook, runF, outF, inits, mSeq, mSet, mRet, mBin, mVar, mC, mIte, mTst, mB, mCons, mNil, mSkip, mAsg, mDrop, mPar, mPar3, mIf, mNotT, mAndT, mOrT, mNotV, mAndV, mOrV, mLst, mLstA, mTup, mFor, mIt, asI, asIL, mYes, mSl, mO, mO0, mNeg, mRng1, mRng2, mChain, mComp, mkL, wipeD, mZip, mEnum, mEnumT, mIsi, gN, gT, gCons', gNil', List.map_cons, List.map_nil, List.length_cons, List.length_nil, List.length_map, List.length_append, List.length_range, List.length_zip, List.length_drop, List.length_reverse, Int.reduceToNat, Bool.and_self, List.map_append, List.replicate, List.cons_append, List.nil_append, List.getElem?_cons_zero, List.getElem?_cons_succ, List.set_cons_zero, List.set_cons_succ, Res.bind_ok, Res.bind_bad, Nat.reduceAdd, Nat.reduceSub, Nat.reduceLeDiff, Int.cast_ofNat_Int, Int.natCast_add, Int.reduceNeg, Int.reduceSub, Int.reduceAdd, Int.reduceEq, Int.reduceLT, Int.reduceLE, reduceCtorEq, reduceIte, if_true, if_false, if_lim, decide_true, decide_false, Bool.not_true, Bool.not_false, Bool.false_eq_true, argN1, argN2, argN3, argN4, argN5, fMulA_ok, fMod_ok, fDiv_ok, fAdd_ok, fSub_ok, fGt_ok, fLt_ok, fLe_ok, fGe_ok, eqI_ok, neI_ok, eqS_ok, neS_ok, lenT_ok, lenL_ok, lenM_ok, ixT0, ixT1, ixT2, ixW0, ixW1, ixL0, ixL1, ixL2, ixT_last, ixT_mid, ixT_mid2, pick2_ok, pick3_ok, pick4_ok, pick5_ok, if_int, if_str, slT_to, slT_from, slT_from1, slT_to0, slT_fr0, slT_fr1, addT_ok, addL_ok, tupL_ok, anyBl, allBl, neI_nil, eqI_nil, sto_snoc, listT_ref, listT_val, Nat.zero_add, lim, er, ne, e1, neSs]
          exact ⟨_, _, _, _, _, _, M, (by first | rfl | trivial), (by first | rfl | trivial), g.le (by omega)⟩
  · obtain ⟨x2, x3, x4, x5, x6, x7, M, rfl, rfl, g⟩ := hP
    simp (disch := first | assumption | omega | (simp only [List.length_map, List.length_append, List.length_range, List.length_zip, List.length_drop, List.length_reverse, Int.reduceToNat, Bool.and_self, List.length_cons, List.length_nil, List.length_range] <;> omega) | fail) only [↓wp_bind, wp_bind, wp_ok, LTurn, LTook, runF, outF, inits, mSeq, mSet, mRet, mBin, mVar, mC, mIte, mTst, mB, mCons, mNil, mSkip, mAsg, mDrop, mPar, mPar3, mIf, mNotT, mAndT, mOrT, mNotV, mAndV, mOrV, mLst, mLstA, mTup, mFor, mIt, asI, asIL, mYes, mSl, mO, mO0, mNeg, mRng1, mRng2, mChain, mComp, mkL, wipeD, mZip, mEnum, mEnumT, mIsi, gN, gT, gCons', gNil', List.map_cons, List.map_nil, List.length_cons, List.length_nil, List.length_map, List.length_append, List.length_range, List.length_zip, List.length_drop, List.length_reverse, Int.reduceToNat, Bool.and_self, List.map_append, List.replicate, List.cons_append, List.nil_append, List.getElem?_cons_zero, List.getElem?_cons_succ, List.set_cons_zero, List.set_cons_succ, Res.bind_ok, Res.bind_bad, Nat.reduceAdd, Nat.reduceSub, Nat.reduceLeDiff, Int.cast_ofNat_Int, Int.natCast_add, Int.reduceNeg, Int.reduceSub, Int.reduceAdd, Int.reduceEq, Int.reduceLT, Int.reduceLE, reduceCtorEq, reduceIte, if_true, if_false, if_lim, decide_true, decide_false, Bool.not_true, Bool.not_false, Bool.false_eq_true, argN1, argN2, argN3, argN4, argN5, fMulA_ok, fMod_ok, fDiv_ok, fAdd_ok, fSub_ok, fGt_ok, fLt_ok, fLe_ok, fGe_ok, eqI_ok, neI_ok, eqS_ok, neS_ok, lenT_ok, lenL_ok, lenM_ok, ixT0, ixT1, ixT2, ixW0, ixW1, ixL0, ixL1, ixL2, ixT_last, ixT_mid, ixT_mid2, pick2_ok, pick3_ok, pick4_ok, pick5_ok, if_int, if_str, slT_to, slT_from, slT_from1, slT_to0, slT_fr0, slT_fr1, addT_ok, addL_ok, tupL_ok, anyBl, allBl, neI_nil, eqI_nil, sto_snoc, listT_ref, listT_val, Nat.zero_add]
end K16

open PySem PySem.W PySem.Calls PyProof.Rows
theorem PySem.Challenge.cw_coolbook_k16_whole_units_told_otherwise_holds : PySem.Challenge.rw_coolbook_k16_whole_units_told_otherwise.Holds := by
  w_on; o_law
  refine HandSHeadRun.head_any (r := OpenLaw.row PySem.Challenge.rw_coolbook_k16_whole_units_told_otherwise) (q := view (OpenLaw.row PySem.Challenge.rw_coolbook_k16_whole_units_told_otherwise).prog [37]) (H := K16.hk) (ob := K16.ob) (M := 4000) (loose := K16.names) (d := HandSHeadRun.topDef (OpenLaw.row PySem.Challenge.rw_coolbook_k16_whole_units_told_otherwise).prog 37) (kwd := []) K16.ob_eq
    (by kernel_rfl) (fun s => by kernel_rfl) K16.run (by kernel_rfl) (by kernel_rfl) (by kernel_rfl) (by rfl) (by first | assumption | decide +kernel) (by decide +kernel) ⟨rfl, rfl, rfl, rfl, rfl, by decide +kernel⟩ ?hw ?hc
  case hw => w_witness2
  case hc =>
    refine Ev.walk_G (l := PySem.Challenge.rw_coolbook_k16_whole_units_told_otherwise) (n := 63) (k := 10) (F := K16.F_law) rfl (by decide) (by kernel_rfl) ⟨rfl, by decide, by decide⟩ ?F K16.good
    intro w mg fa h Y G hmg0
    obtain ⟨K, KX, c, c2, LO⟩ := Y
    have hmg : mg ("law" : PySem.Str) = some (.ref fa) := by
      have e : (HandSHeadRun.topDef (OpenLaw.row PySem.Challenge.rw_coolbook_k16_whole_units_told_otherwise).prog 37).name = ("law" : PySem.Str) := by kernel_rfl
      rw [← e]
      exact hmg0
    have C : K16.Cn K mg := ⟨⟨h, KX, G, c⟩, c2⟩
    have e := hmg.symm.trans (K16.w_glo_law C)
    cases e
    exact ⟨K, KX, LO, fun base _ _ TB => K16.ok_law C TB⟩


import PyProof.Rows.All
import Wide.All
import OpenK.AllK
import Wide.FinOn
import KE.KStateDown
import Lean
import HandS.Head0
import HandS.Head1
import HandS.Head2
import HandS.ForMost
import HandS.Wide
import HandS.Evl
import HandS.Exc
import HandS.WordsExc
import HandS.TupAny
import HandS.IsInst
import HandS.TupMul
import HandS.Style
import PyProof.ReprRoads
import HandS.ExcField
import KE.GoesEnum
import KE.GoesMore
import KE.GoesZip
import HandS.Defaults
import HandS.HeadEnd
import HandS.ExcInit
import HandS.ExcSuper
import KE.KExcSuper
import KE.KSuper
import HandS.TryMany
import HandS.HeadHook4
import HandS.Ends
import HandS.EndBits
import PySem.Challenge.RW_wholelayers_k79_refusals_of_words
set_option Elab.async false
set_option linter.all false
set_option maxRecDepth 100000
set_option maxHeartbeats 400000
/-! Y0: what the hand layer lacks: repr of data; tuple * int; x[::-1]. -/
namespace Y
open PySem PySem.Spec PyProof.Rows L2
def notStar : Expr → Bool
  | .Starred _ _ => false
  | _ => true
section
variable {X : Cx}
/-! ### repr -/
def rRepr (K : PySem.W.Frag) : List V → Hp → VK → Prop := fun xs H Q => ∃ v d, xs = [v] ∧ Dp K H v d ∧ d.showable = true ∧ d.hasDict = false ∧ d.depth ≤ 100 ∧ d.shown.length ≤ sizeLine ∧ Q (.str d.shown) H
theorem call_repr {k : Nat} (hgd : X.A.guards = some []) (hr : Room k X.A) : CallR X (.builtin "repr") (rRepr X.K) := by
  intro pins s σ H xs us Q I r h
  obtain ⟨v, d, rfl, dp, hs, hd, hz, hl, q⟩ := h
  obtain ⟨u, rfl, ru⟩ := vals1 r
  obtain ⟨as, rd⟩ := Dp.reads I d v u dp ru
  have hu := hr.un
  cases dp with
  | non => cases ru; exact PySem.P.repr_of_none ⟨.str _, H, I.tok _, ⟨_, rfl⟩, by simpa only [PyData.shown] using q⟩
  | bl b => cases ru; exact PySem.P.repr_of_bool ⟨.str _, H, I.tok _, ⟨_, rfl⟩, by simpa only [PyData.shown] using q⟩
  | int i =>
    obtain ⟨t, rfl⟩ := ru
    exact PySem.P.repr_of_int (by simpa [PyData.showable] using hs) ⟨.str _, H, I.tok _, ⟨_, rfl⟩, by simpa only [PyData.shown] using q⟩
  | str x =>
    obtain ⟨t, rfl⟩ := ru
    exact PySem.P.repr_of_str ⟨.str _, H, I.tok _, ⟨_, rfl⟩, by simpa only [PyData.shown] using q⟩ (by simpa only [PyData.shown] using hl)
  | lst sq dq =>
    cases ru
    exact repr_of_reads' rd hs (fun z => by rw [hd] at z; cases z) hgd (by omega) (fun _ _ e => e) (fun h' u tk hk => ⟨.str _, H, I.kept hk, ⟨_, rfl⟩, q⟩) hl
  | tup sq dq =>
    cases ru
    exact repr_of_reads' rd hs (fun z => by rw [hd] at z; cases z) hgd (by omega) (fun _ _ e => e) (fun h' u tk hk => ⟨.str _, H, I.kept hk, ⟨_, rfl⟩, q⟩) hl

def rStr (K : PySem.W.Frag) : List V → Hp → VK → Prop := fun xs H Q => (∃ x, xs = [.str x] ∧ Q (.str x) H) ∨ ∃ v d, xs = [v] ∧ (∀ x, v ≠ .str x) ∧ Dp K H v d ∧ d.showable = true ∧ d.hasDict = false ∧ d.depth ≤ 100 ∧ d.shown.length ≤ sizeLine ∧ Q (.str d.shown) H
theorem call_str {k : Nat} (hgd : X.A.guards = some []) (hr : Room k X.A) : CallR X (.type "str") (rStr X.K) := by
  intro pins s σ H xs us Q I r h
  rcases h with ⟨x, rfl, q⟩ | ⟨v, d, rfl, hv, dp, hs, hd, hz, hl, q⟩
  · obtain ⟨u, rfl, ru⟩ := vals1 r
    obtain ⟨t, rfl⟩ := ru
    exact PySem.P.str_of_str ⟨.str _, H, I, ⟨_, rfl⟩, q⟩
  obtain ⟨u, rfl, ru⟩ := vals1 r
  obtain ⟨as, rd⟩ := Dp.reads I d v u dp ru
  have hu := hr.un
  cases dp with
  | non => cases ru; exact PySem.P.str_of_none ⟨.str _, H, I.tok _, ⟨_, rfl⟩, by simpa only [PyData.shown] using q⟩
  | bl b => cases ru; exact PySem.P.str_of_bool ⟨.str _, H, I.tok _, ⟨_, rfl⟩, by simpa only [PyData.shown] using q⟩
  | int i =>
    obtain ⟨t, rfl⟩ := ru
    exact PySem.P.str_of_int (by simpa [PyData.showable] using hs) ⟨.str _, H, I.tok _, ⟨_, rfl⟩, by simpa only [PyData.shown] using q⟩
  | str x => exact absurd rfl (hv x)
  | lst sq dq =>
    cases ru
    exact str_of_reads rd hs (fun z => by rw [hd] at z; cases z) hgd (by omega) (fun _ _ e => e) (fun h' u tk hk => ⟨.str _, H, I.kept hk, ⟨_, rfl⟩, q⟩) hl
  | tup sq dq =>
    cases ru
    exact str_of_reads rd hs (fun z => by rw [hd] at z; cases z) hgd (by omega) (fun _ _ e => e) (fun h' u tk hk => ⟨.str _, H, I.kept hk, ⟨_, rfl⟩, q⟩) hl

/-! ### tuple * int -/
def rRepN (K : PySem.W.Frag) : R2 := fun x y H Q => ∃ l k xs, x = .ref l ∧ y = .int k ∧ SqT K H l xs ∧ k ≤ 0 ∧ -(2 ^ 63) ≤ k ∧ xs ≠ [] ∧ ∀ p, H p = none → Q (.ref p) (upd H p (.tup []))
def rRep1 (K : PySem.W.Frag) : R2 := fun x y H Q => ∃ l xs, x = .ref l ∧ y = .int 1 ∧ SqT K H l xs ∧ Q (.ref l) H
theorem tuple_mulN (l : Addr) (items : Array Value) (n : Nat) (dd : Option Addr) (sl : Array (Option Value)) (x : Int) (u : Tok) (c0 : (decide (x < -(2 ^ 63)) || decide (x ≥ 2 ^ 63)) = false) (c1 : (items.isEmpty || x == 1) = false) (c2 : (decide (x ≤ 0) || items.isEmpty) = true) :
    Meets (Builtin.«tuple.__mul__» ⟨[.ref l, .int x u], []⟩) (fun _ R s => s.heap.get? l = some { cls := .type "tuple", dict := dd, data := .seq items n, slots := sl } ∧
      R (.ok (.ret (Value.ref s.heap.objs.size))) { s with heap := s.heap.push { cls := Value.type "tuple", data := Data.seq #[] }, toks := s.toks }) :=
  .of_wp fun prog w A R s h => by
    obtain ⟨hp, g, d, tk, os⟩ := s
    obtain ⟨hl, h⟩ := h
    have f1 := AutoSeq1.idx_int
    wp_walk using AutoSeq1.wpAny_loadPart' hl
    repeat (first
      | (refine wpAny_ite_false (decide_eq_false (by rw [c0]; exact Bool.false_ne_true)) ?_; wp_walk using AutoSeq1.wpAny_loadPart' hl)
      | (refine wpAny_ite_false (decide_eq_false (by rw [c1]; exact Bool.false_ne_true)) ?_; wp_walk using AutoSeq1.wpAny_loadPart' hl)
      | (refine wpAny_ite_true (decide_eq_true (by rw [c2])) ?_; wp_walk using AutoSeq1.wpAny_loadPart' hl)
      | (refine wpAny_ite_false (decide_eq_false (Nat.not_lt.mpr (Nat.zero_le _))) ?_; wp_walk using AutoSeq1.wpAny_loadPart' hl))
    exact ⟨_, rfl, h⟩
theorem tuple_mul1 (l : Addr) (items : Array Value) (n : Nat) (dd : Option Addr) (sl : Array (Option Value)) (u : Tok) :
    Meets (Builtin.«tuple.__mul__» ⟨[.ref l, .int 1 u], []⟩) (fun _ R s => s.heap.get? l = some { cls := .type "tuple", dict := dd, data := .seq items n, slots := sl } ∧
      R (.ok (.ret (Value.ref l))) s) :=
  .of_wp fun prog w A R s h => by
    obtain ⟨hp, g, d, tk, os⟩ := s
    obtain ⟨hl, h⟩ := h
    have f1 := AutoSeq1.idx_int
    have c1 : (items.isEmpty || (1 : Int) == 1) = true := by simp
    wp_walk using AutoSeq1.wpAny_loadPart' hl
    repeat (first
      | (refine wpAny_ite_false (decide_eq_false (by decide)) ?_; wp_walk using AutoSeq1.wpAny_loadPart' hl)
      | (refine wpAny_ite_true (decide_eq_true (by rw [c1])) ?_; wp_walk using AutoSeq1.wpAny_loadPart' hl))
    exact ⟨_, rfl, h⟩
theorem op_repN : OpR X (binaryOp .Mult) (rRepN X.K) := by
  intro pins s σ H x y v u Q I rx ry h
  obtain ⟨l, k, xs, rfl, rfl, hT, h1, h2, hne, q⟩ := h
  cases rx
  obtain ⟨t, rfl⟩ := ry
  obtain ⟨its, r, ⟨⟨cls, dd, data, sl⟩, ho, hc, n, hd⟩, hs⟩ := I.tuple hT
  simp only at hc hd
  subst hc hd
  have hi : its.toArray.isEmpty = false := by
    cases its with
    | nil => cases r; exact absurd rfl hne
    | cons a b => rfl
  have c0 : (decide (k < -(2 ^ 63)) || decide (k ≥ 2 ^ 63)) = false := by
    rw [decide_eq_false (by omega), decide_eq_false (by omega)] <;> rfl
  have c1 : (its.toArray.isEmpty || k == 1) = false := by
    rw [hi, Bool.false_or]
    exact beq_eq_false_iff_ne.mpr (by omega)
  have c2 : (decide (k ≤ 0) || its.toArray.isEmpty) = true := by rw [decide_eq_true h1]; rfl
  refine wpAny_binaryOp_repeat_ref (T := "tuple") (U := "int") (by decide) ⟨_, ho, rfl⟩ (fun s' => typeIs_int s' k t) noFill_tuple_mul F.fills_int_mul F.slot_int_rmul repeat_tuple F.slot_int_index.lookup
    (call_meets F.slot_int_rmul (typeIs_int s k t) F.entry_int_rmul (F.args_int_rmul_2 _ _) (int_rmul_tuple k t l its.toArray n dd sl)
      ⟨ho, rfl, ⟨_, ho, rfl⟩, call_meets F.slot_tuple_mul ⟨_, ho, rfl⟩ F.entry_tuple_mul (F.args_tuple_mul_2 _ _) (tuple_mulN l its.toArray n dd sl k t c0 c1 c2) ⟨ho, ?_⟩⟩)
  refine ⟨.ref s.heap.objs.size, _, I.laid (t' := s.toks) (o := .tup []) (fun b ob q => Heap.get?_push_of_some _ q) (Nat.le_refl _) ?_, rfl, q _ (I.hok.fresh (Nat.le_refl _))⟩
  exact ⟨Nat.zero_le _, [], .nil, IsTup.new _ _⟩
theorem op_rep1 : OpR X (binaryOp .Mult) (rRep1 X.K) := by
  intro pins s σ H x y v u Q I rx ry h
  obtain ⟨l, xs, rfl, rfl, hT, q⟩ := h
  cases rx
  obtain ⟨t, rfl⟩ := ry
  obtain ⟨its, r, ⟨⟨cls, dd, data, sl⟩, ho, hc, n, hd⟩, hs⟩ := I.tuple hT
  simp only at hc hd
  subst hc hd
  refine wpAny_binaryOp_repeat_ref (T := "tuple") (U := "int") (by decide) ⟨_, ho, rfl⟩ (fun s' => typeIs_int s' 1 t) noFill_tuple_mul F.fills_int_mul F.slot_int_rmul repeat_tuple F.slot_int_index.lookup
    (call_meets F.slot_int_rmul (typeIs_int s 1 t) F.entry_int_rmul (F.args_int_rmul_2 _ _) (int_rmul_tuple 1 t l its.toArray n dd sl)
      ⟨ho, rfl, ⟨_, ho, rfl⟩, call_meets F.slot_tuple_mul ⟨_, ho, rfl⟩ F.entry_tuple_mul (F.args_tuple_mul_2 _ _) (tuple_mul1 l its.toArray n dd sl t) ⟨ho, ?_⟩⟩)
  exact ⟨.ref l, H, I, rfl, q⟩

/-! ### x[::-1] -/
theorem sliceApplied_rev {prog : Program} {w : World} {A : Around} {E : Value → Shared → Prop} {s : Shared} {sl : Addr} {vl vu vs : Value} {n : Nat} {Q : Int × Int × Nat → Shared → Prop} (hs : s.heap.IsSliceOf sl vl vu vs) (pl : IsPart vl none) (pu : IsPart vu none) (ps : IsPart vs (some (-1)))
    (h : Q ((n : Int) - 1, -1, n) s) : wpAny (model prog w) A (Builtin.Slice.sliceApplied (.ref sl) (pure (n : Int))) Q E s := by
  obtain ⟨os, hos, hcs, hds⟩ := id hs
  unfold Builtin.Slice.sliceApplied Builtin.Slice.sliceFields
  refine wpAny_bind (wpAny_bind (wpAny_field hos hds (x := vl) rfl (wpAny_bind (wpAny_field hos hds (x := vu) rfl (wpAny_bind (wpAny_field hos hds (x := vs) rfl (wpAny_pure ?_)))))))
  refine wpAny_bind (HT.slicePart_ ps ?_)
  show wpAny _ _ (if ((-1 : Int) == 0) = true then _ else _) _ _ s
  rw [if_neg (by decide)]
  refine wpAny_bind (HT.slicePart_ pl (wpAny_bind (HT.slicePart_ pu (wpAny_bind (wpAny_pure ?_)))))
  have e1 : Builtin.Slice.sliceAdjust none none (-1) (n : Int) = ((n : Int) - 1, -1) := rfl
  have e2 : Builtin.Slice.slicePlaces ((n : Int) - 1) (-1) (-1) = n := by
    unfold Builtin.Slice.slicePlaces
    have h1 : ¬ ((-1 : Int) > 0) := by omega
    rw [if_neg h1]
    by_cases h2 : (n : Int) - 1 > -1
    · rw [if_pos h2]
      have h3 : ((n : Int) - 1 - -1 - 1) / (- -1) = (n : Int) - 1 := by
        rw [show (- -1 : Int) = 1 by decide, Int.ediv_one]; omega
      rw [h3]; omega
    · rw [if_neg h2]; omega
  show wpAny _ _ (match Builtin.Slice.sliceAdjust none none (-1) (n : Int) with | (lo, hi) => pure (lo, (-1 : Int), Builtin.Slice.slicePlaces lo hi (-1))) _ _ s
  rw [e1]
  show wpAny _ _ (pure ((n : Int) - 1, (-1 : Int), Builtin.Slice.slicePlaces ((n : Int) - 1) (-1) (-1))) _ _ s
  rw [e2]
  exact wpAny_pure h
theorem fm_congr {α β : Type} {f g : α → Option β} : ∀ l : List α, (∀ x ∈ l, f x = g x) → l.filterMap f = l.filterMap g
  | [], _ => rfl
  | x :: l, h => by
    rw [List.filterMap_cons, List.filterMap_cons, h x (List.mem_cons_self ..), fm_congr l fun y hy => h y (List.mem_cons_of_mem _ hy)]
theorem pick_rev (xs : Array Value) : ((List.range xs.size).filterMap fun (k : Nat) => xs[(((xs.size : Int) - 1) + (k : Int) * -1).toNat]?).toArray = xs.toList.reverse.toArray := by
  rw [← PySem.W.krv_pick]
  unfold slicePick
  rw [PySem.W.krv_bounds]
  show _ = ((sliceRange ((xs.size : Int) - 1) (-1) (-1)).filterMap (xs[·]?)).toArray
  rw [PySem.W.krv_sliceRange, List.filterMap_map]
  congr 1
  refine fm_congr _ fun k hk => ?_
  have := List.mem_range.mp hk
  show xs[(((xs.size : Int) - 1) + (k : Int) * -1).toNat]? = xs[xs.size - 1 - k]?
  have e : (((xs.size : Int) - 1) + (k : Int) * -1).toNat = xs.size - 1 - k := by omega
  rw [e]
theorem getItem_tuple_rev {prog : Program} {w : World} {A : Around} {E : Value → Shared → Prop} {s : Shared} {t sl : Addr} {items : Array Value} {vl vu vs : Value} {Q : Value → Shared → Prop} (ht : IsTup s.heap t items) (hs : s.heap.IsSliceOf sl vl vu vs) (pl : IsPart vl none) (pu : IsPart vu none) (ps : IsPart vs (some (-1)))
    (h : Q (.ref s.heap.objs.size) { s with heap := s.heap.push { cls := .type "tuple", data := .seq items.toList.reverse.toArray } })
    (hsz : items.size ≤ sizeLine) : wpAny (model prog w) A (getItem (.ref t) (.ref sl)) Q E s := by
  have htake : sizeOk (.seq items.toList.reverse.toArray) := by
    show items.toList.reverse.toArray.size ≤ sizeLine
    simpa using hsz
  obtain ⟨os, hos, hcs, hds⟩ := id hs
  have hTs : s.TypeIs (.ref sl) "slice" := ⟨os, hos, hcs⟩
  unfold getItem
  try with_reducible refine wpAny_holding ?_
  first | refine wpAny_bind (wpAny_pure ?_) | skip
  refine wpAny_bind (wpAny_sequenceKey ht.typeIs (by decide) ?_)
  refine wpAny_bind (wpAny_callSpecial?_slot (name := Str.ofString "__getitem__") ht.typeIs PyProof.Rows.slot_tuple_getitem
    (wpAny_call_entry PyProof.Rows.slot_tuple_getitem ht.typeIs entry_tuple_getitem ?_ (args_tuple_getitem _ _)))
  show wpAny _ _ (Builtin.Tuple.tupleItemsOf (.ref t) >>= _) _ _ s
  refine wpAny_bind (tupleItemsOf_ ht ?_)
  refine wpAny_bind (wpAny_typeOf hTs ?_)
  rw [if_pos (by decide)]
  refine wpAny_bind (sliceApplied_rev hs pl pu ps ?_)
  have hno : ¬ ((((items.size : Int) - 1) == 0 && (-1 : Int) == 1 && items.size == items.size) = true) := by
    intro q
    rw [Bool.and_eq_true, Bool.and_eq_true] at q
    exact absurd q.1.2 (by decide)
  show wpAny _ _ (if (((items.size : Int) - 1) == 0 && (-1 : Int) == 1 && items.size == items.size) = true then _ else _) _ _ s
  rw [if_neg hno, pick_rev]
  first
    | exact wpAny_bind (m := Builtin.Tuple.tupleExact _) (wpAny_newObj_type (wpAny_pure ⟨_, rfl, wpAny_pure h⟩) htake)
    | exact wpAny_bind (m := Builtin.Tuple.tupleExact _) (wpAny_newObj_type (wpAny_bind (wpAny_pure (wpAny_pure ⟨_, rfl, wpAny_pure h⟩))) htake)
    | exact wpAny_bind (wpAny_bind (m := Builtin.Tuple.tupleExact _) (wpAny_newObj_type (wpAny_pure (wpAny_pure ⟨_, rfl, wpAny_pure h⟩)) htake))
    | exact wpAny_bind (wpAny_bind (m := Builtin.Tuple.tupleExact _) (wpAny_newObj_type (wpAny_pure ⟨_, rfl, wpAny_pure h⟩) htake))
def tRev (K : PySem.W.Frag) (te : TE) : TE := fun σ H Q => te σ H fun x H1 => ∃ a xs, x = .ref a ∧ ((SqL K H1 a xs ∧ ∀ p, H1 p = none → Q (.ref p) (upd H1 p (.lst xs.reverse))) ∨ (SqT K H1 a xs ∧ ∀ p, H1 p = none → Q (.ref p) (upd H1 p (.tup xs.reverse))))
theorem pe_rev {e : Expr} {te : TE} {k : Nat} {p1 p2 p3 pos : Pos} (he : PE X e te) : PE X (.Subscript e (.Slice none none (some (.UnaryOp .USub (.Constant (.int 1) k p1) p2)) p3) pos) (tRev X.K te) := by
  refine ⟨fun pins s σ H Q I h => ?_⟩
  refine Subscript_ (thn (he.run pins s σ H _ I h) fun v s1 ⟨x, H1, I1, r1, q1⟩ => ?_)
  obtain ⟨a, xs, ex, hx⟩ := q1
  subst ex
  cases r1
  have hst : PO X (some (.UnaryOp .USub (.Constant (.int 1) k p1) p2)) (tPart (tUn (rU fun i => .int (-i)) (tC (.int 1)))) := po_some (pe_un un_neg pe_int)
  refine wpAny_Slice (thn (po_none.run pins s1 σ H1 (fun o H2 => o = none ∧ H2 = H1) I1 ⟨rfl, rfl⟩) fun vl s2 ⟨l, H2, I2, pl, el, e2⟩ => ?_)
  subst el e2
  refine thn (po_none.run pins s2 σ H2 (fun o H3 => o = none ∧ H3 = H2) I2 ⟨rfl, rfl⟩) fun vu s3 ⟨u, H3, I3, pu, eu, e3⟩ => ?_
  subst eu e3
  refine thn (hst.run pins s3 σ H3 (fun o H4 => o = some (-1) ∧ H4 = H3) I3 ⟨1, rfl, -1, rfl, rfl, rfl⟩) fun vs s4 ⟨o, H4, I4, ps, eo, e4⟩ => ?_
  subst eo e4
  have I5 : Inv X pins σ H4 { s4 with heap := s4.heap.push { cls := .type "slice", data := .fields #[vl, vu, vs] } } := I4.kept (t' := s4.toks) fun b ob q => Heap.get?_push_of_some _ q
  show wpAny (model X.prog X.w) X.A (subscriptTail e (.Slice none none (some (.UnaryOp .USub (.Constant (.int 1) k p1) p2)) p3) (.ref a) (.ref s4.heap.objs.size)) (EP X pins σ Q) X.xe { s4 with heap := s4.heap.push { cls := .type "slice", data := .fields #[vl, vu, vs] } }
  rcases hx with ⟨hx, q⟩ | ⟨hx, q⟩
  · obtain ⟨its, r, ht, hz⟩ := I5.list hx
    have hlen := r.length
    refine tail_any (ops := [.ref a, .ref s4.heap.objs.size]) ht.isList.typeIs (PySem.slot_list_getitem.lookup) ?_ (by with_unfolding_all rfl)
    refine wpAny_getItem_list_slice ht.isList (Heap.IsSliceOf.new _ vl vu vs) pl pu ps (by decide) ?_ (by rw [List.size_toArray]; omega)
    rw [PySem.W.krv_pick]
    refine ⟨.ref _, _, I5.laid (t' := s4.toks) (o := .lst xs.reverse) (fun b ob q => Heap.get?_push_of_some _ q) (Nat.le_refl _) ?_, rfl, q _ (I5.hok.fresh (Nat.le_refl _))⟩
    exact ⟨by rw [List.length_reverse]; exact hz, _, 0, r.reverse, Heap.get?_push_size _ rfl⟩
  · obtain ⟨its, r, ht, hz⟩ := I5.tuple hx
    have hlen := r.length
    refine tail_any (ops := [.ref a, .ref s4.heap.objs.size]) ht.typeIs (PyProof.Rows.slot_tuple_getitem.lookup) ?_ (by with_unfolding_all rfl)
    refine getItem_tuple_rev ht (Heap.IsSliceOf.new _ vl vu vs) pl pu ps ?_ (by rw [List.size_toArray]; omega)
    refine ⟨.ref _, _, I5.laid (t' := s4.toks) (o := .tup xs.reverse) (fun b ob q => Heap.get?_push_of_some _ q) (Nat.le_refl _) ?_, rfl, q _ (I5.hok.fresh (Nat.le_refl _))⟩
    exact ⟨by rw [List.length_reverse]; exact hz, _, r.reverse, IsTup.new _ _⟩
end

/-! ### max, min of a tuple or list of ints -/
section
variable {prog : Program} {w : World} {A : Around} {E : Value → Shared → Prop} {s : Shared} {l : Addr} {xs : Array (Int × Tok)}
theorem iter_intTup {Q : Value → Shared → Prop} (hl : s.heap.IsTuple l (intItems xs))
    (h : ∀ s₂ : Shared, s₂ = { s with heap := s.heap.push { cls := .type "tuple_iterator", data := .fields #[.ref l, .int 0 0] } } →
      (s₂.heap.IsTupleIter s.heap.objs.size l 0 ∧ s₂.heap.IsTuple l (intItems xs)) → (∀ b ∈ [s.heap.objs.size, l], b < s₂.heap.objs.size) → l ≠ s.heap.objs.size → Q (.ref s.heap.objs.size) s₂) :
    wpAny (model prog w) A (pyIter (.ref l)) Q E s := by
  have hlt : l < s.heap.objs.size := by obtain ⟨_, e, _⟩ := hl; exact Heap.lt_size e
  refine wpAny_pyIter_tuple hl (h _ rfl ⟨⟨_, Heap.get?_push_size _ rfl, rfl, rfl⟩, hl.push _⟩ (fun b hb => ?_) (Nat.ne_of_lt hlt))
  show b < (s.heap.push _).objs.size
  rw [Heap.size_push]
  rcases List.mem_cons.mp hb with rfl | hb
  · exact Nat.lt_succ_self _
  · rcases List.mem_cons.mp hb with rfl | hb
    · exact Nat.lt_succ_of_lt hlt
    · cases hb
theorem old_keptT {h' : Heap} (hk : ∀ b o, b ∉ [s.heap.objs.size] → (s.heap.push { cls := .type "tuple_iterator", data := .fields #[.ref l, .int 0 0] }).get? b = some o → h'.get? b = some o) :
    ∀ b o, s.heap.get? b = some o → h'.get? b = some o := fun b o e => by
  refine hk b o (fun hm => ?_) (Heap.get?_push_of_some _ e)
  rcases List.mem_cons.mp hm with e1 | hm
  · exact absurd (e1 ▸ Heap.lt_size e) (Nat.lt_irrefl _)
  · cases hm
theorem max_intTup {Q : Value → Shared → Prop} (hh : A.handled = none) (hl : s.heap.IsTuple l (intItems xs)) (hne : 0 < xs.size)
    (h : ∀ v h' tk, (intItems xs)[argBest (fun i j => decide (numAt xs i > numAt xs j)) (xs.size - 1)]? = some v → (∀ b o, s.heap.get? b = some o → h'.get? b = some o) → Q v { s with heap := h', toks := tk }) :
    wpAny (model prog w) A (call (.builtin "max") [.ref l]) Q E s := by
  refine call_max_walk (iter_intTup hl fun s₂ e st hfp hlI => ?_)
  subst e
  refine ⟨_, _, _, _, _, _, _, rfl, Walks.tuple (A := A.in1) hh _ l hlI (intItems xs), st, hfp, by simpa [intItems] using hne, CmpOf.ints_gt (numAt xs) (fun _ _ => intItems_at), fun v h' tk hP hk => ?_⟩
  exact h v h' tk (by simpa [intItems] using hP) (old_keptT hk)
theorem min_intTup {Q : Value → Shared → Prop} (hh : A.handled = none) (hl : s.heap.IsTuple l (intItems xs)) (hne : 0 < xs.size)
    (h : ∀ v h' tk, (intItems xs)[argBest (fun i j => decide (numAt xs i < numAt xs j)) (xs.size - 1)]? = some v → (∀ b o, s.heap.get? b = some o → h'.get? b = some o) → Q v { s with heap := h', toks := tk }) :
    wpAny (model prog w) A (call (.builtin "min") [.ref l]) Q E s := by
  refine call_min_walk (iter_intTup hl fun s₂ e st hfp hlI => ?_)
  subst e
  refine ⟨_, _, _, _, _, _, _, rfl, Walks.tuple (A := A.in1) hh _ l hlI (intItems xs), st, hfp, by simpa [intItems] using hne, CmpOf.ints_lt (numAt xs) (fun _ _ => intItems_at), fun v h' tk hP hk => ?_⟩
  exact h v h' tk (by simpa [intItems] using hP) (old_keptT hk)
end
section
variable {prog : Program} {w : World} {A : Around} {E : Value → Shared → Prop} {s : Shared} {l : Addr} {its : List Value} {ns : List Int} {Q : Value → Shared → Prop}
theorem max_rawT (hh : A.handled = none) (hl : s.heap.IsTuple l its.toArray) (hi : IntsAre its ns) (hne : 0 < ns.length)
    (h : ∀ h' tk M t', (∀ b o, s.heap.get? b = some o → h'.get? b = some o) → M ∈ ns → (∀ a, a ∈ ns → a ≤ M) → Q (.int M t') { s with heap := h', toks := tk }) : wpAny (model prog w) A (call (.builtin "max") [.ref l]) Q E s := by
  obtain ⟨xs, e⟩ := hi.allInts.items
  have hn : numsOf (intItems xs).toList = ns := by rw [← e]; exact hi.numsOf
  rw [nums_intItems] at hn
  subst hn
  rw [e] at hl
  have hsz : 0 < xs.size := by simpa using hne
  refine max_intTup hh hl hsz fun v h' tk hv hk => ?_
  obtain ⟨t, rfl⟩ := intItems_at hv
  obtain ⟨h1, h2⟩ := argBest_gt (numAt xs) (xs.size - 1)
  refine h h' tk _ t hk ?_ fun a ha => ?_
  · rw [numAt_eq]; exact PySem.getD_mem (by rw [List.length_map, Array.length_toList]; omega)
  · obtain ⟨j, hj, rfl⟩ := mem_getD ha
    rw [List.length_map, Array.length_toList] at hj
    rw [← numAt_eq]; exact h2 j (by omega)
theorem min_rawT (hh : A.handled = none) (hl : s.heap.IsTuple l its.toArray) (hi : IntsAre its ns) (hne : 0 < ns.length)
    (h : ∀ h' tk M t', (∀ b o, s.heap.get? b = some o → h'.get? b = some o) → M ∈ ns → (∀ a, a ∈ ns → M ≤ a) → Q (.int M t') { s with heap := h', toks := tk }) : wpAny (model prog w) A (call (.builtin "min") [.ref l]) Q E s := by
  obtain ⟨xs, e⟩ := hi.allInts.items
  have hn : numsOf (intItems xs).toList = ns := by rw [← e]; exact hi.numsOf
  rw [nums_intItems] at hn
  subst hn
  rw [e] at hl
  have hsz : 0 < xs.size := by simpa using hne
  refine min_intTup hh hl hsz fun v h' tk hv hk => ?_
  obtain ⟨t, rfl⟩ := intItems_at hv
  obtain ⟨h1, h2⟩ := argBest_lt (numAt xs) (xs.size - 1)
  refine h h' tk _ t hk ?_ fun a ha => ?_
  · rw [numAt_eq]; exact PySem.getD_mem (by rw [List.length_map, Array.length_toList]; omega)
  · obtain ⟨j, hj, rfl⟩ := mem_getD ha
    rw [List.length_map, Array.length_toList] at hj
    rw [← numAt_eq]; exact h2 j (by omega)
end
def rMax1 (K : PySem.W.Frag) : List V → Hp → VK → Prop := fun vs H Q => ∃ (a : Addr) (ns : List Int), vs = [V.ref a] ∧ (SqL K H a (ns.map V.int) ∨ SqT K H a (ns.map V.int)) ∧ 0 < ns.length ∧ ∀ m, m ∈ ns → (∀ y, y ∈ ns → y ≤ m) → Q (.int m) H
def rMin1 (K : PySem.W.Frag) : List V → Hp → VK → Prop := fun vs H Q => ∃ (a : Addr) (ns : List Int), vs = [V.ref a] ∧ (SqL K H a (ns.map V.int) ∨ SqT K H a (ns.map V.int)) ∧ 0 < ns.length ∧ ∀ m, m ∈ ns → (∀ y, y ∈ ns → m ≤ y) → Q (.int m) H
theorem call_max1 {X : Cx} (hc : X.calm = true) : CallR X (.builtin "max") (rMax1 X.K) := by
  intro pins s σ H vs us Q I r h
  obtain ⟨a, ns, rfl, hs | hs, hne, q⟩ := h
  · exact cr_max hc pins s σ H _ us Q I r ⟨a, ns, rfl, hs, hne, q⟩
  · obtain ⟨its, rv, hl, _⟩ := I.tuple hs
    rw [Vals.ref1 r]
    exact max_rawT (I.ok.hd hc) (let ⟨o, e, hcl, n, hd⟩ := hl; ⟨o, e, hcl, n, hd⟩) rv.ints hne fun h' tk m t' hk h1 h2 => ⟨.int _, H, I.kept hk, ⟨_, rfl⟩, q m h1 h2⟩
theorem call_min1 {X : Cx} (hc : X.calm = true) : CallR X (.builtin "min") (rMin1 X.K) := by
  intro pins s σ H vs us Q I r h
  obtain ⟨a, ns, rfl, hs | hs, hne, q⟩ := h
  · exact cr_min hc pins s σ H _ us Q I r ⟨a, ns, rfl, hs, hne, q⟩
  · obtain ⟨its, rv, hl, _⟩ := I.tuple hs
    rw [Vals.ref1 r]
    exact min_rawT (I.ok.hd hc) (let ⟨o, e, hcl, n, hd⟩ := hl; ⟨o, e, hcl, n, hd⟩) rv.ints hne fun h' tk m t' hk h1 h2 => ⟨.int _, H, I.kept hk, ⟨_, rfl⟩, q m h1 h2⟩

/-! ### a dict of the module with int keys -/
def EntI : List DictEntry → List Int → List V → Prop
  | [], ks, vs => ks = [] ∧ vs = []
  | e :: es, ks, vs => ∃ k kr v vr t, ks = k :: kr ∧ vs = v :: vr ∧ e.key = .int k t ∧ e.hash = hashInt k ∧ RelV v e.val ∧ EntI es kr vr
def KDi (K : PySem.W.Frag) (a : Addr) (ks : List Int) (vs : List V) : Prop := ∃ (o : Obj) (es : Array DictEntry) (n : Nat), K.lookup a = some o ∧ o.ExactDict ∧ o.data = .dict es n ∧ EntI es.toList ks vs
def lookI {α : Type} (k : Int) : List Int → List α → Option α
  | l :: ls, v :: vs => if l = k then some v else lookI k ls vs
  | _, _ => none
theorem ent_keys {P : Program} {w : World} : ∀ {es : List DictEntry} {ks : List Int} {vs : List V}, EntI es ks vs → ∀ e ∈ es, ∃ k, (mixKind P w).is k e.key = true ∧ e.hash = (mixKind P w).hash k
  | [], _, _, _, e, he => absurd he (by simp)
  | e :: es, _, _, ⟨k, kr, v, vr, t, _, _, h1, h2, _, h3⟩, e', he => by
    rcases List.mem_cons.mp he with z | he
    · subst z
      exact ⟨.inl k, by rw [h1]; exact mixKind_int P w k t, h2⟩
    · exact ent_keys h3 e' he
theorem ent_find {P : Program} {w : World} (k : Int) : ∀ {es : List DictEntry} {ks : List Int} {vs : List V} {v : V}, EntI es ks vs → lookI k ks vs = some v → ∃ u, (es.find? fun e => (mixKind P w).is (.inl k) e.key).map (·.val) = some u ∧ RelV v u
  | [], _, _, _, ⟨h1, h2⟩, h => by subst h1 h2; cases h
  | e :: es, _, _, v, ⟨k', kr, v', vr, t, e1, e2, h1, h2, h4, h3⟩, h => by
    subst e1 e2
    unfold lookI at h
    rw [List.find?_cons]
    by_cases hk : k' = k
    · rw [if_pos hk] at h
      cases h
      have hb : (mixKind P w).is (.inl k) e.key = true := by rw [h1, ← hk]; exact mixKind_int P w k' t
      rw [hb]
      exact ⟨e.val, rfl, h4⟩
    · rw [if_neg hk] at h
      have hb : (mixKind P w).is (.inl k) e.key = false := by
        cases q : (mixKind P w).is (.inl k) e.key with
        | false => rfl
        | true =>
          rw [h1] at q
          have e5 : (Sum.inl k : Key) = Sum.inl k' := (mixKind P w).inj _ _ _ q (mixKind_int P w k' t)
          injection e5 with e5
          exact absurd e5.symm hk
      rw [hb]
      exact ent_find k h3 h
def rIxKI (K : PySem.W.Frag) : R2 := fun x y H Q => ∃ a ks vs k v, x = .ref a ∧ y = .int k ∧ KDi K a ks vs ∧ lookI k ks vs = some v ∧ Q v H
theorem ix_kdi {X : Cx} : IxR X (rIxKI X.K) := by
  intro value slice pins s σ H x y v u Q I rx ry h hs
  obtain ⟨a, ks, vs, k, z, rfl, rfl, ⟨o, es, n, hl, hx, hd, he⟩, hz, q⟩ := h
  cases rx
  obtain ⟨t, rfl⟩ := ry
  have ho := I.kIn _ _ hl
  obtain ⟨u, hu, ru⟩ := ent_find (P := X.prog) (w := X.w) k he hz
  have hm : s.heap.MapOf (mixKind X.prog X.w) a (fun k => findBy (mixKind X.prog X.w).is es k) := ⟨o, es, n, ho, hx, hd, fun e hm => ent_keys he e (by simpa using hm), fun _ => rfl⟩
  refine tail_any ⟨o, ho, hx.1⟩ PySem.F.slot_dict_getitem.lookup (wpAny_getItem_of (mixKind_int X.prog X.w k t) hm (v := u) ?_ ⟨z, H, I.tok _, ru, q⟩) hs
  obtain ⟨l⟩ := es
  simpa [findBy] using hu
end Y
/-! Y1: a small evaluator of its own (data, store, terms) that the rules of the hand layer are tied to in Y2. -/
namespace Y
open PySem

abbrev Key := Sum Int Str

/-- a value: ref is a list or dict that may change (it stands in the store); lst, dK, dT never change; rd is the script; ct a tuple of the module -/
inductive D where
  | non | bl (b : Bool) | int (i : Int) | str (x : Str)
  | tup (xs : List D) | lst (xs : List D) | rd (xs : List D) | ct (xs : List D)
  | dK (ks : List Key) (vs : List D) | dT (ks : List (List Key)) (vs : List D)
  | exn (c : Nat) (v : D)
  | ref (n : Nat)
  /-- a dict of the module, its keys ints -/
  | cdi (ks : List Int) (vs : List D)
  deriving Inhabited

inductive Ob where
  | lst (xs : List D)
  | dK (ks : List Key) (vs : List D)
  | dT (ks : List (List Key)) (vs : List D)
  deriving Inhabited

abbrev Env := List (Option D)
abbrev Stt := List Ob

mutual
/-- every ref within is below b -/
def D.lt (b : Nat) : D → Bool
  | .non => true | .bl _ => true | .int _ => true | .str _ => true
  | .tup xs => ltL b xs | .lst xs => ltL b xs | .rd xs => ltL b xs | .ct xs => ltL b xs
  | .dK _ vs => ltL b vs | .dT _ vs => ltL b vs | .cdi _ vs => ltL b vs
  | .exn _ v => D.lt b v
  | .ref n => decide (n < b)
def ltL (b : Nat) : List D → Bool
  | [] => true
  | d :: ds => D.lt b d && ltL b ds
end
def Ob.lt (b : Nat) : Ob → Bool
  | .lst xs => ltL b xs
  | .dK _ vs => ltL b vs
  | .dT _ vs => ltL b vs

-- equality
mutual
def D.eqb : D → D → Bool
  | .non, .non => true
  | .bl a, .bl b => a == b
  | .int a, .int b => a == b
  | .str a, .str b => a == b
  | .tup a, .tup b => eqbL a b
  | .lst a, .lst b => eqbL a b
  | .rd a, .rd b => eqbL a b
  | .ct a, .ct b => eqbL a b
  | .dK k a, .dK l b => decide (k = l) && eqbL a b
  | .dT k a, .dT l b => decide (k = l) && eqbL a b
  | .exn c v, .exn d w => c == d && D.eqb v w
  | .cdi k a, .cdi l b => decide (k = l) && eqbL a b
  | .ref a, .ref b => a == b
  | _, _ => false
def eqbL : List D → List D → Bool
  | [], [] => true
  | x :: xs, y :: ys => D.eqb x y && eqbL xs ys
  | _, _ => false
end

-- f put in the place of refs
mutual
def mapW (f : Nat → Option D) : D → Option D
  | .non => some .non | .bl b => some (.bl b) | .int i => some (.int i) | .str x => some (.str x)
  | .ref n => f n
  | .tup xs => (mapWL f xs).map .tup
  | .lst xs => (mapWL f xs).map .lst
  | .rd xs => (mapWL f xs).map .rd
  | .ct xs => (mapWL f xs).map .ct
  | .dK ks vs => (mapWL f vs).map (.dK ks)
  | .dT ks vs => (mapWL f vs).map (.dT ks)
  | .cdi ks vs => (mapWL f vs).map (.cdi ks)
  | .exn c v => (mapW f v).map (.exn c)
def mapWL (f : Nat → Option D) : List D → Option (List D)
  | [] => some []
  | d :: ds => match mapW f d with
    | none => none
    | some e => match mapWL f ds with
      | none => none
      | some es => some (e :: es)
end
/-- a ref from b on taken out of the store, made unchangeable (refs in one another: k deep); z is not to be met -/
def frzR (st : Stt) (b z : Nat) : Nat → Nat → Option D
  | 0, n => if n < b then some (.ref n) else none
  | k + 1, n => if n < b then some (.ref n) else if n = z then none else match st[n]? with
    | some (.lst xs) => (mapWL (frzR st b z k) xs).map .lst
    | some (.dK ks vs) => (mapWL (frzR st b z k) vs).map (.dK ks)
    | some (.dT ks vs) => (mapWL (frzR st b z k) vs).map (.dT ks)
    | none => none
def frz (st : Stt) (b : Nat) (d : D) : Option D := mapW (frzR st b st.length 6) d
def frzO (st : Stt) (b z : Nat) : Ob → Option Ob
  | .lst xs => (mapWL (frzR st b z 6) xs).map .lst
  | .dK ks vs => (mapWL (frzR st b z 6) vs).map (.dK ks)
  | .dT ks vs => (mapWL (frzR st b z 6) vs).map (.dT ks)

inductive R (α : Type) where
  | ok (a : α) (st : Stt)
  | ex (c : Nat) (d : D) (st : Stt)
  | no

@[inline] def R.bind {α β : Type} (r : R α) (f : α → Stt → R β) : R β := match r with
  | .ok a st => f a st
  | .ex c d st => .ex c d st
  | .no => .no

/-- where no exception may come -/
def noEx {α : Type} (r : R α) : R α := match r with
  | .ok a st => .ok a st
  | .ex _ _ _ => .no
  | .no => .no

inductive O where
  | nx (env : Env) (st : Stt)
  | rt (d : D) (st : Stt)
  | bk (env : Env) (st : Stt)
  | ct (env : Env) (st : Stt)
  | ex (c : Nat) (d : D) (env : Env) (st : Stt)
  | no

inductive BOp where
  | add | sub | mul | fdiv | mod | pow
  deriving DecidableEq, Repr
inductive COp where
  | eq | ne | lt | le | gt | ge | isN | notN | mem | nmem
  deriving DecidableEq, Repr
inductive Blt where
  | len | sum | any | all | abs | min2 | max2 | max1 | min1 | tuple | list | int | str | repr | sorted | divmod | gcd
  deriving DecidableEq, Repr

/-- what an except suite puts into its name: ('tag', error.value), error.value, the error -/
inductive Hk where
  | tag (t : Str) | val | err
def hkD : Hk → Nat → D → D
  | .tag t, _, d => .tup [.str t, d]
  | .val, _, d => d
  | .err, e, d => .exn e d

mutual
inductive IE where
  | var (i : Nat)
  | cst (d : D)
  | glo (g : Nat)
  | bin (o : BOp) (m : Bool) (a b : IE)
  | neg (a : IE)
  | cmp (o : COp) (a b : IE)
  | cmp2 (o p : COp) (a b c : IE)
  | and (a b : IE)
  | or (a b : IE)
  | not (a : IE)
  | ife (c : IC) (a b : IE)
  | tup (es : IEs)
  | lst (m : Bool) (es : IEs)
  | dic (m : Bool) (ks : List Key) (vs : IEs)
  | dic0 (m t : Bool)
  | ix (a i : IE)
  | sl (a : IE) (lo hi : IEo)
  | rev (a : IE)
  | call (f : Nat) (es : IEs) (ds : List D)
  | callK (f : Nat) (es : IEs) (ks : IEs) (order : List Nat)
  | blt (f : Blt) (es : IEs)
  | isi (T : String) (e : IE)
  | isq (e : IE)
  | app (o x : IE)
  | ext (o x : IE)
  | pop (o : IE)
  | get2 (o k d : IE)
  | fld (x : IE)
  | lc (m : Bool) (elt : IE) (g : IG) (it : IT) (t : ICo) (own : List Nat)
  | lc2 (m : Bool) (elt : IE) (g : IG) (it : IT) (g1 : IG) (it1 : IT) (own own1 : List Nat)
inductive IEs where
  | nil
  | cons (e : IE) (es : IEs)
inductive IEo where
  | non
  | som (e : IE)
/-- tests -/
inductive IC where
  | val (e : IE)
  | cp (o : COp) (a b : IE)
  | cp2 (o p : COp) (a b c : IE)
  | and (a b : IC)
  | or (a b : IC)
  | not (a : IC)
inductive ICo where
  | non
  | som (t : IC)
inductive IT where
  | seq (e : IE)
  | rng1 (e : IE)
  | rng2 (a b : IE)
  | enm (e : IE)
  | zip (a b : IE)
inductive IG where
  | nm (i : Nat)
  | tp (gs : IGs)
  | ix (a i : IE)
inductive IGs where
  | nil
  | cons (g : IG) (gs : IGs)
end

mutual
inductive IS where
  | asg (g : IG) (e : IE)
  | par (i j : Nat) (a b : IE)
  | par3 (i j l : Nat) (a b c : IE)
  | aug (i : Nat) (o : BOp) (e : IE)
  | expr (e : IE)
  | ret (e : IE)
  | retN
  | ite (c : IC) (a b : ISs)
  | for (g : IG) (it : IT) (b : ISs)
  | while (c : IC) (b : ISs)
  | brk
  | cnt
  | pass
  | never
  | raise (e : Nat) (x : IE)
  | tryv (i j m : Nat) (hs : List (Nat × Hk)) (b : ISs)
inductive ISs where
  | nil
  | cons (s : IS) (ss : ISs)
end

/-! ### values -/
/-- the items of a list or tuple -/
def seqOf (st : Stt) : D → Option (List D)
  | .tup xs => some xs
  | .rd xs => some xs
  | .ct xs => some xs
  | .lst xs => some xs
  | .ref n => match st[n]? with
    | some (.lst xs) => some xs
    | _ => none
  | _ => none
def lstOf (st : Stt) : D → Option (List D)
  | .lst xs => some xs
  | .ref n => match st[n]? with
    | some (.lst xs) => some xs
    | _ => none
  | _ => none

-- data without refs, as the model's plain data
mutual
def pyW (f : Nat → Option PyData) : D → Option PyData
  | .non => some .none | .bl b => some (.bool b) | .int i => some (.int i) | .str x => some (.str x)
  | .tup xs => (pyWL f xs).map .tuple
  | .lst xs => (pyWL f xs).map .list
  | .rd xs => (pyWL f xs).map .list
  | .ct xs => (pyWL f xs).map .tuple
  | .ref n => f n
  | .dK _ _ => none | .dT _ _ => none | .exn _ _ => none | .cdi _ _ => none
def pyWL (f : Nat → Option PyData) : List D → Option (List PyData)
  | [] => some []
  | d :: ds => match pyW f d with
    | none => none
    | some e => match pyWL f ds with
      | none => none
      | some es => some (e :: es)
end
def pyR (st : Stt) : Nat → Nat → Option PyData
  | 0, _ => none
  | k + 1, n => match st[n]? with
    | some (.lst xs) => (pyWL (pyR st k) xs).map .list
    | _ => none
def py (st : Stt) (d : D) : Option PyData := pyW (pyR st 6) d

def sz : Nat := 16777216
def mulOk (i j : Int) : Bool := decide (i.natAbs < 2 ^ 64) || decide (j.natAbs < 2 ^ 64) || decide (i.natAbs.log2 + j.natAbs.log2 < 1000000)
def divOk (_ j : Int) : Bool := decide (0 < j) && decide (j.natAbs.log2 < 9000)
def powOk (i j : Int) : Bool := decide (0 ≤ j) && decide (j ≤ 1000000) && decide (i.natAbs < 2 ^ 64)

/-- a new list: in the store, or unchangeable -/
def newL (m : Bool) (xs : List D) (st : Stt) : R D := if m then .ok (.ref st.length) (st ++ [.lst xs]) else .ok (.lst xs) st

def newK (m : Bool) (ks : List Key) (vs : List D) (st : Stt) : R D := if m then .ok (.ref st.length) (st ++ [.dK ks vs]) else .ok (.dK ks vs) st
def newT (m : Bool) (ks : List (List Key)) (vs : List D) (st : Stt) : R D := if m then .ok (.ref st.length) (st ++ [.dT ks vs]) else .ok (.dT ks vs) st
def nodupB : List Key → Bool
  | [] => true
  | k :: ks => !(ks.any fun l => decide (l = k)) && nodupB ks
def binD (o : BOp) (m : Bool) (x y : D) (st : Stt) : R D := match o, x, y with
  | .add, .int i, .int j => .ok (.int (i + j)) st
  | .sub, .int i, .int j => .ok (.int (i - j)) st
  | .mul, .int i, .int j => if mulOk i j then .ok (.int (i * j)) st else .no
  | .fdiv, .int i, .int j => if divOk i j then .ok (.int (i / j)) st else .no
  | .mod, .int i, .int j => if 0 < j then .ok (.int (i % j)) st else .no
  | .pow, .int i, .int j => if powOk i j then .ok (.int (i ^ j.toNat)) st else .no
  | .add, .str a, .str b => if a.length + b.length ≤ sz then .ok (.str (a ++ b)) st else .no
  | .add, .tup a, .tup b => if a.length + b.length ≤ sz then .ok (.tup (a ++ b)) st else .no
  | .add, a, b => match lstOf st a, lstOf st b with
    | some xs, some ys => if xs.length + ys.length ≤ sz then newL m (xs ++ ys) st else .no
    | _, _ => .no
  | .mul, .tup xs, .int j => if j = 1 then .ok (.tup xs) st else if xs.isEmpty then .no else if j ≤ 0 then (if -(2 ^ 63) ≤ j then .ok (.tup []) st else .no) else if j ≤ 1000 ∧ xs.length ≤ 1000 then .ok (.tup (List.replicate j.toNat xs).flatten) st else .no
  | .mul, a, .int j => match lstOf st a with
    | some xs => if decide (-(2 ^ 63) ≤ j) && decide (j < 2 ^ 63) && decide (xs.length * j.toNat ≤ sz) then newL m (List.replicate j.toNat xs).flatten st else .no
    | none => .no
  | _, _, _ => .no

def flat : D → Bool
  | .non => true | .bl _ => true | .int _ => true | .str _ => true
  | _ => false
def asKey : D → Option Key
  | .int i => some (.inl i)
  | .str x => some (.inr x)
  | _ => none
def asKeys : List D → Option (List Key)
  | [] => some []
  | d :: ds => match asKey d with
    | none => none
    | some k => match asKeys ds with
      | none => none
      | some ks => some (k :: ks)
/-- == of none, bools, ints, texts -/
def eqF : D → D → Bool
  | .non, .non => true
  | .bl a, .bl b => a == b
  | .bl a, .int i => (if a then 1 else 0) == i
  | .int i, .bl a => i == (if a then 1 else 0)
  | .int a, .int b => a == b
  | .str a, .str b => a == b
  | _, _ => false
def eqD (st : Stt) (x y : D) : Option Bool := match py st x, py st y with
  | some a, some b => if SeqAt.shaped a && SeqAt.shaped b then some (PyData.eqv a b) else none
  | _, _ => none
def lookV {κ : Type} [DecidableEq κ] (k : κ) : List κ → List D → Option D
  | l :: ls, v :: vs => if l = k then some v else lookV k ls vs
  | _, _ => none
/-- the dict's items -/
inductive Dic where
  | k (ks : List Key) (vs : List D)
  | t (ks : List (List Key)) (vs : List D)
def dicOf (st : Stt) : D → Option Dic
  | .dK ks vs => some (.k ks vs)
  | .dT ks vs => some (.t ks vs)
  | .ref n => match st[n]? with
    | some (.dK ks vs) => some (.k ks vs)
    | some (.dT ks vs) => some (.t ks vs)
    | _ => none
  | _ => none
def keyT : D → Option (List Key)
  | .tup xs => asKeys xs
  | _ => none
/-- what a dict holds at a key -/
def dicAt (st : Stt) (x i : D) : Option (Option D) := match dicOf st x with
  | some (.k ks vs) => (asKey i).map fun k => lookV k ks vs
  | some (.t ks vs) => (keyT i).map fun k => lookV k ks vs
  | none => none
/-- x in y -/
def memD (st : Stt) (x y : D) : Option Bool := match seqOf st y with
  | some ys => if flat x && ys.all flat then some (ys.any fun z => eqF z x) else none
  | none => (dicAt st y x).map (·.isSome)
def isNon : D → Bool
  | .non => true
  | _ => false
def isD0 (x y : D) : Option Bool := match y with
  | .non => some (isNon x)
  | .bl b => match x with
    | .bl a => some (decide (a = b))
    | _ => none
  | _ => none
def cmpD (o : COp) (x y : D) (st : Stt) : Option Bool := match o with
  | .lt => match x, y with
    | .int i, .int j => some (decide (i < j))
    | _, _ => none
  | .le => match x, y with
    | .int i, .int j => some (decide (i ≤ j))
    | _, _ => none
  | .gt => match x, y with
    | .int i, .int j => some (decide (j < i))
    | _, _ => none
  | .ge => match x, y with
    | .int i, .int j => some (decide (j ≤ i))
    | _, _ => none
  | .isN => isD0 x y
  | .notN => (isD0 x y).map (!·)
  | .eq => eqD st x y
  | .ne => (eqD st x y).map (!·)
  | .mem => memD st x y
  | .nmem => (memD st x y).map (!·)

def truth (st : Stt) : D → Option Bool
  | .non => some false
  | .bl b => some b
  | .int i => some (i != 0)
  | .str x => if x.length ≤ sz then some (x.length != 0) else none
  | .tup xs => some (!xs.isEmpty)
  | .lst xs => some (!xs.isEmpty)
  | .rd xs => some (!xs.isEmpty)
  | .ct xs => some (!xs.isEmpty)
  | .ref n => match st[n]? with
    | some (.lst xs) => some (!xs.isEmpty)
    | _ => none
  | _ => none

def getD (st : Stt) (x i : D) : Option D := match seqOf st x with
  | some xs => match i with
    | .int k => L2.atI xs k
    | _ => none
  | none => match x with
    | .str z => match i with
      | .int k => if z.length ≤ sz then (L2.atI z.cps.toList k).map fun c => .str ⟨#[c]⟩ else none
      | _ => none
    | .cdi ks vs => match i with
      | .int k => lookV k ks vs
      | _ => none
    | x => (dicAt st x i).bind id

/-- slices -/
def cut {α : Type} (xs : List α) (lo hi : Option Int) : List α := (xs.drop (HT.sIx xs.length 0 lo)).take (HT.sIx xs.length xs.length hi - HT.sIx xs.length 0 lo)

def asInts : List D → Option (List Int)
  | [] => some []
  | .int i :: ds => (asInts ds).map (i :: ·)
  | _ => none
def asBools : List D → Option (List Bool)
  | [] => some []
  | .bl i :: ds => (asBools ds).map (i :: ·)
  | _ => none

def repV {κ : Type} [DecidableEq κ] (k : κ) (v : D) : List κ → List D → List D
  | l :: ls, w :: ws => (if l = k then v else w) :: repV k v ls ws
  | _, _ => []
def putV {κ : Type} [DecidableEq κ] (k : κ) (v : D) (ks : List κ) (vs : List D) : List κ × List D :=
  if ks.any (fun l => decide (l = k)) = true then (ks, repV k v ks vs) else (ks ++ [k], vs ++ [v])

def setOb (o : Ob) (i v : D) : Option Ob := match o with
  | .lst xs => match i with
    | .int k => (L2.ixN xs.length k).map fun j => .lst (xs.set j v)
    | _ => none
  | .dK ks vs => (asKey i).bind fun k => if ks.length < sz then some (.dK (putV k v ks vs).1 (putV k v ks vs).2) else none
  | .dT ks vs => (keyT i).bind fun k => if ks.length < sz then some (.dT (putV k v ks vs).1 (putV k v ks vs).2) else none
/-- x[i] = v, in the store; b: what stands below it takes no refs -/
def setD (b : Nat) (x i v : D) (st : Stt) : Option Stt := match x with
  | .ref n => if (decide (b ≤ n) || v.lt 0) = true then (st[n]?).bind fun o => (setOb o i v).map fun o' => st.set n o' else none
  | _ => none

/-! ### the evaluator -/
/-- the items at the places -/
def pick {α : Type} : List Nat → List α → Option (List α)
  | [], _ => some []
  | i :: is, xs => match xs[i]? with
    | none => none
    | some x => match pick is xs with
      | none => none
      | some r => some (x :: r)
structure Fs where
  call : Nat → List D → Nat → Stt → R D
  glo : Nat → Option D
  wf : Nat

def cmpT (o : COp) (x y : D) (st : Stt) : R Bool := match cmpD o x y st with
  | some b => .ok b st
  | none => .no
def cmpR (o : COp) (x y : D) (st : Stt) : R D := match cmpD o x y st with
  | some b => .ok (.bl b) st
  | none => .no


/-- the type's name -/
def tyD (st : Stt) : D → Option String
  | .non => some "NoneType" | .bl _ => some "bool" | .int _ => some "int" | .str _ => some "str"
  | .tup _ => some "tuple" | .ct _ => some "tuple" | .lst _ => some "list" | .rd _ => some "list" | .dK _ _ => some "dict"
  | .ref n => match st[n]? with
    | some (.lst _) => some "list"
    | some (.dK _ _) => some "dict"
    | some (.dT _ _) => some "dict"
    | none => none
  | _ => none
def subTy (a b : String) : Bool := a == b || (a == "bool" && b == "int")
def isD (T : String) (x : D) (st : Stt) : R D := match tyD st x with
  | some t => .ok (.bl (subTy t T)) st
  | none => .no
def isD2 (T U : String) (x : D) (st : Stt) : R D := match tyD st x with
  | some t => .ok (.bl (subTy t T || subTy t U)) st
  | none => .no
def revD (x : D) (st : Stt) : R D := match x with
  | .tup xs => .ok (.tup xs.reverse) st
  | .rd xs => .ok (.lst xs.reverse) st
  | x => match lstOf st x with
    | some xs => .ok (.lst xs.reverse) st
    | none => .no
def reprD (x : D) (st : Stt) : R D := match py st x with
  | some p => if (p.showable && !p.hasDict && decide (p.depth ≤ 100) && decide (p.shown.length ≤ sz)) = true then .ok (.str p.shown) st else .no
  | none => .no
def strD (x : D) (st : Stt) : R D := match x with
  | .str z => .ok (.str z) st
  | x => reprD x st
def lenD (x : D) (st : Stt) : R D := match seqOf st x with
  | some ys => .ok (.int ys.length) st
  | none => match x with
    | .str z => if z.length ≤ sz then .ok (.int z.length) st else .no
    | _ => .no
def lstF {α : Type} (f : List D → Option α) (g : α → D) (x : D) (st : Stt) : R D := match lstOf st x with
  | some ys => match f ys with
    | some is => .ok (g is) st
    | none => .no
  | none => .no
def sumD : D → Stt → R D := lstF asInts fun is => .int is.sum
def anyD : D → Stt → R D := lstF asBools fun bs => .bl (bs.any id)
def allD : D → Stt → R D := lstF asBools fun bs => .bl (bs.all id)
def tupD (x : D) (st : Stt) : R D := match x with
  | .tup ys => .ok (.tup ys) st
  | .ct ys => .ok (.ct ys) st
  | x => match lstOf st x with
    | some ys => .ok (.tup ys) st
    | none => .no
def lstD (x : D) (st : Stt) : R D := match seqOf st x with
  | some ys => newL false ys st
  | none => .no
def one (xs : List D) (k : D → R D) : R D := match xs with
  | [x] => k x
  | _ => .no
def two (xs : List D) (k : D → D → R D) : R D := match xs with
  | [x, y] => k x y
  | _ => .no
def absD (x : D) (st : Stt) : R D := match x with
  | .int i => .ok (.int (if i < 0 then -i else i)) st
  | _ => .no
def intD (x : D) (st : Stt) : R D := match x with
  | .int i => .ok (.int i) st
  | .bl b => .ok (.int (if b then 1 else 0)) st
  | _ => .no
def minD (x y : D) (st : Stt) : R D := match x, y with
  | .int i, .int j => .ok (.int (if j < i then j else i)) st
  | _, _ => .no
def maxD (x y : D) (st : Stt) : R D := match x, y with
  | .int i, .int j => .ok (.int (if j > i then j else i)) st
  | _, _ => .no
def bestI (f : Int → Int → Bool) : List Int → Int → Int
  | [], m => m
  | i :: is, m => bestI f is (if f i m = true then i else m)
def bestD (f : Int → Int → Bool) (x : D) (st : Stt) : R D := match seqOf st x with
  | some ys => match asInts ys with
    | some (i :: is) => .ok (.int (bestI f is i)) st
    | _ => .no
  | none => .no
def bltD (f : Blt) (xs : List D) (st : Stt) : R D := match f with
  | .len => one xs fun x => lenD x st
  | .sum => one xs fun x => sumD x st
  | .any => one xs fun x => anyD x st
  | .all => one xs fun x => allD x st
  | .abs => one xs fun x => absD x st
  | .min2 => two xs fun x y => minD x y st
  | .max2 => two xs fun x y => maxD x y st
  | .max1 => one xs fun x => bestD (fun i j => decide (i > j)) x st
  | .min1 => one xs fun x => bestD (fun i j => decide (i < j)) x st
  | .tuple => one xs fun x => tupD x st
  | .list => one xs fun x => lstD x st
  | .int => one xs fun x => intD x st
  | .repr => one xs fun x => reprD x st
  | .str => one xs fun x => strD x st
  | _ => .no

def appOb (v : D) : Ob → Option Ob
  | .lst ys => if ys.length < sz then some (.lst (ys ++ [v])) else none
  | _ => none
def appD (b : Nat) (o v : D) (st : Stt) : R D := match o with
  | .ref n => if (decide (b ≤ n) || v.lt 0) = true then (match (st[n]?).bind (appOb v) with
      | some o' => .ok .non (st.set n o')
      | none => .no) else .no
  | _ => .no
/-- o.extend(v), both in the store -/
def extD (b : Nat) (o v : D) (st : Stt) : R D := match o, v with
  | .ref n, .ref m => (match st[n]?, st[m]? with
    | some (.lst xs), some (.lst zs) => if ((decide (b ≤ n) || ltL 0 zs) && decide (xs.length + zs.length ≤ sz)) = true then .ok .non (st.set n (.lst (xs ++ zs))) else .no
    | _, _ => .no)
  | _, _ => .no
def popOb : Ob → Option (D × Ob)
  | .lst ys => (ys.getLast?).map fun y => (y, .lst ys.dropLast)
  | _ => none
def popD (o : D) (st : Stt) : R D := match o with
  | .ref n => match (st[n]?).bind popOb with
    | some (y, o') => .ok y (st.set n o')
    | none => .no
  | _ => .no
def get2D (o k d : D) (st : Stt) : R D := match dicAt st o k with
  | some r => .ok (r.getD d) st
  | none => .no
def wipe (env : Env) : List Nat → Env
  | [] => env
  | v :: vs => (wipe env vs).set v none

/-- what is walked: its items; what must stand still meanwhile -/
structure Wk where
  items : List D
  src : List (D × List D)
def stills (st : Stt) : List (D × List D) → Bool
  | [] => true
  | (d, xs) :: r => (match seqOf st d with
    | some ys => eqbL ys xs
    | none => false) && stills st r
/-- what must stand still: objects of the store alone -/
def wsrc (d : D) (xs : List D) : List (D × List D) := match d with
  | .ref n => [(.ref n, xs)]
  | _ => []
def small (i : Int) : Bool := decide (-(2 ^ 62) ≤ i) && decide (i < 2 ^ 62)
def rngL (lo : Int) : Nat → List D
  | 0 => []
  | n + 1 => .int lo :: rngL (lo + 1) n
def enmL (i : Int) : List D → List D
  | [] => []
  | x :: xs => .tup [.int i, x] :: enmL (i + 1) xs
def walkSeq (d : D) (st : Stt) : R Wk := match seqOf st d with
  | some xs => .ok ⟨xs, wsrc d xs⟩ st
  | none => .no
def walkRng1 (x : D) (st : Stt) : R Wk := match x with
  | .int j => if small j then .ok ⟨rngL 0 j.toNat, []⟩ st else .no
  | _ => .no
def walkRng2 (x y : D) (st : Stt) : R Wk := match x, y with
  | .int i, .int j => if small i && small j then .ok ⟨rngL i (j - i).toNat, []⟩ st else .no
  | _, _ => .no
def walkEnm (d : D) (st : Stt) : R Wk := match seqOf st d with
  | some xs => .ok ⟨enmL 0 xs, wsrc d xs⟩ st
  | none => .no
def zip2 (xs ys : List D) : List D := (xs.zip ys).map fun p => .tup [p.1, p.2]
def walkZip (d e : D) (st : Stt) : R Wk := match seqOf st d, seqOf st e with
  | some xs, some ys => .ok ⟨zip2 xs ys, wsrc d xs ++ wsrc e ys⟩ st
  | _, _ => .no

def push (acc : List D) (y : D) (st : Stt) : R (List D) := if acc.length < sz then .ok (acc ++ [y]) st else .no
def lcA (src : List (D × List D)) (f : D → List D → Stt → R (List D)) : List D → List D → Stt → R (List D)
  | [], acc, st => if stills st src then .ok acc st else .no
  | d :: ds, acc, st => if stills st src then (f d acc st).bind fun acc st => lcA src f ds acc st else .no

def getR (a i : D) (st : Stt) : R D := match getD st a i with
  | some d => .ok d st
  | none => .no
def cutR (a : D) (l h : Option Int) (st : Stt) : R D := match a with
  | .tup xs => .ok (.tup (cut xs l h)) st
  | .rd xs => .ok (.lst (cut xs l h)) st
  | a => match lstOf st a with
    | some xs => .ok (.lst (cut xs l h)) st
    | none => .no
def fldD (a : D) (st : Stt) : R D := match a with
  | .exn _ d => .ok d st
  | _ => .no
mutual
def evE (F : Fs) (b : Nat) : IE → Env → Stt → R D
  | .var i, env, st => match env[i]? with
    | some (some d) => .ok d st
    | _ => .no
  | .cst d, _, st => .ok d st
  | .glo g, _, st => match F.glo g with
    | some d => .ok d st
    | none => .no
  | .bin o m x y, env, st => (evE F b x env st).bind fun a st => (evE F b y env st).bind fun c st => binD o m a c st
  | .neg x, env, st => (evE F b x env st).bind fun a st => match a with
    | .int i => .ok (.int (-i)) st
    | _ => .no
  | .cmp o x y, env, st => (evE F b x env st).bind fun a st => (evE F b y env st).bind fun c st => cmpR o a c st
  | .cmp2 o p x y z, env, st => (evE F b x env st).bind fun a st => (evE F b y env st).bind fun c st => match cmpD o a c st with
    | some true => (evE F b z env st).bind fun e st => cmpR p c e st
    | some false => .ok (.bl false) st
    | none => .no
  | .and x y, env, st => (evE F b x env st).bind fun a st => match a with
    | .bl true => evE F b y env st
    | .bl false => .ok (.bl false) st
    | _ => .no
  | .or x y, env, st => (evE F b x env st).bind fun a st => match a with
    | .bl true => .ok (.bl true) st
    | .bl false => evE F b y env st
    | _ => .no
  | .not x, env, st => (evE F b x env st).bind fun a st => match a with
    | .bl c => .ok (.bl (!c)) st
    | _ => .no
  | .ife c x y, env, st => (evC F b c env st).bind fun t st => if t then evE F b x env st else evE F b y env st
  | .tup es, env, st => (evL F b es env st).bind fun vs st => if vs.length ≤ sz then .ok (.tup vs) st else .no
  | .lst m es, env, st => (evL F b es env st).bind fun vs st => if vs.length ≤ sz then newL m vs st else .no
  | .dic m ks es, env, st => (evL F b es env st).bind fun vs st => if (nodupB ks && decide (ks.length = vs.length) && decide (ks.length ≤ 15)) = true then newK m ks vs st else .no
  | .dic0 m t, _, st => if t then newT m [] [] st else newK m [] [] st
  | .ix x y, env, st => (evE F b x env st).bind fun a st => (evE F b y env st).bind fun c st => getR a c st
  | .sl x lo hi, env, st => (evE F b x env st).bind fun a st => (evO F b lo env st).bind fun l st => (evO F b hi env st).bind fun h st => cutR a l h st
  | .rev x, env, st => (evE F b x env st).bind fun a st => revD a st
  | .call f es ds, env, st => (evL F b es env st).bind fun vs st => F.call f (vs ++ ds) b st
  | .callK f es ks order, env, st => (evL F b es env st).bind fun vs st => (evL F b ks env st).bind fun zs st => match pick order (vs ++ zs) with
    | some ws => F.call f ws b st
    | none => .no
  | .blt f es, env, st => (evL F b es env st).bind fun vs st => bltD f vs st
  | .isi T x, env, st => (evE F b x env st).bind fun a st => isD T a st
  | .isq x, env, st => (evE F b x env st).bind fun a st => isD2 "list" "tuple" a st
  | .app y x, env, st => (evE F b y env st).bind fun o st => if (lstOf st o).isSome = true then (evE F b x env st).bind fun v st => appD b o v st else .no
  | .ext y x, env, st => (evE F b y env st).bind fun o st => if (lstOf st o).isSome = true then (evE F b x env st).bind fun v st => extD b o v st else .no
  | .pop y, env, st => (evE F b y env st).bind fun o st => popD o st
  | .get2 y x z, env, st => (evE F b y env st).bind fun o st => if (dicOf st o).isSome = true then (evE F b x env st).bind fun k st => (evE F b z env st).bind fun d st => get2D o k d st else .no
  | .fld x, env, st => (evE F b x env st).bind fun a st => fldD a st
  | .lc m elt g it t own, env, st => (evI F b it env st).bind fun w st =>
      (lcA w.src (fun d acc st => (noEx (asG F b g d (wipe env own) st)).bind fun env2 st => (noEx (evCo F b t env2 st)).bind fun t st => if t = true then (noEx (evE F b elt env2 st)).bind fun y st => push acc y st else .ok acc st) w.items [] st).bind fun xs st => newL m xs st
  | .lc2 m elt g it g1 it1 own own1, env, st => (evI F b it env st).bind fun w st =>
      (lcA w.src (fun d acc st => (noEx (asG F b g d (wipe env own) st)).bind fun env2 st => (noEx (evI F b it1 env2 st)).bind fun w1 st =>
        lcA w1.src (fun d acc st => (noEx (asG F b g1 d (wipe env2 own1) st)).bind fun env3 st => (noEx (evE F b elt env3 st)).bind fun y st => push acc y st) w1.items acc st) w.items [] st).bind fun xs st => newL m xs st
def evL (F : Fs) (b : Nat) : IEs → Env → Stt → R (List D)
  | .nil, _, st => .ok [] st
  | .cons e es, env, st => (evE F b e env st).bind fun v st => (evL F b es env st).bind fun vs st => .ok (v :: vs) st
def evO (F : Fs) (b : Nat) : IEo → Env → Stt → R (Option Int)
  | .non, _, st => .ok none st
  | .som e, env, st => (evE F b e env st).bind fun v st => match v with
    | .int i => .ok (some i) st
    | _ => .no
def evC (F : Fs) (b : Nat) : IC → Env → Stt → R Bool
  | .val e, env, st => (evE F b e env st).bind fun v st => match truth st v with
    | some t => .ok t st
    | none => .no
  | .cp o x y, env, st => (evE F b x env st).bind fun a st => (evE F b y env st).bind fun c st => cmpT o a c st
  | .cp2 o p x y z, env, st => (evE F b x env st).bind fun a st => (evE F b y env st).bind fun c st => match cmpD o a c st with
    | some true => (evE F b z env st).bind fun e st => cmpT p c e st
    | some false => .ok false st
    | none => .no
  | .and x y, env, st => (evC F b x env st).bind fun t st => if t then evC F b y env st else .ok false st
  | .or x y, env, st => (evC F b x env st).bind fun t st => if t then .ok true st else evC F b y env st
  | .not x, env, st => (evC F b x env st).bind fun t st => .ok (!t) st
def evCo (F : Fs) (b : Nat) : ICo → Env → Stt → R Bool
  | .non, _, st => .ok true st
  | .som t, env, st => evC F b t env st
def evI (F : Fs) (b : Nat) : IT → Env → Stt → R Wk
  | .seq e, env, st => (evE F b e env st).bind fun d st => walkSeq d st
  | .rng1 x, env, st => (evE F b x env st).bind fun d st => walkRng1 d st
  | .rng2 x y, env, st => (evE F b x env st).bind fun d st => (evE F b y env st).bind fun e st => walkRng2 d e st
  | .enm e, env, st => (evE F b e env st).bind fun d st => walkEnm d st
  | .zip x y, env, st => (evE F b x env st).bind fun d st => (evE F b y env st).bind fun e st => walkZip d e st
def asG (F : Fs) (b : Nat) : IG → D → Env → Stt → R Env
  | .nm i, d, env, st => .ok (env.set i (some d)) st
  | .tp gs, d, env, st => match d with
    | .tup ds => asGs F b gs ds env st
    | .ct ds => asGs F b gs ds env st
    | _ => .no
  | .ix x i, d, env, st => (noEx (evE F b x env st)).bind fun a st => (noEx (evE F b i env st)).bind fun c st => match setD b a c d st with
    | some st => .ok env st
    | none => .no
def asGs (F : Fs) (b : Nat) : IGs → List D → Env → Stt → R Env
  | .nil, [], env, st => .ok env st
  | .cons g gs, d :: ds, env, st => (asG F b g d env st).bind fun env st => asGs F b gs ds env st
  | _, _, _, _ => .no
end

def liftO {α : Type} (env : Env) (r : R α) (f : α → Stt → O) : O := match r with
  | .ok a st => f a st
  | .ex c d st => .ex c d env st
  | .no => .no
def forL (src : List (D × List D)) (body : D → Env → Stt → O) : List D → Env → Stt → O
  | [], env, st => if stills st src then .nx env st else .no
  | d :: ds, env, st => if stills st src then match body d env st with
      | .nx env st => forL src body ds env st
      | .ct env st => forL src body ds env st
      | .bk env st => .nx env st
      | o => o
    else .no
def whileL (c : Env → Stt → R Bool) (body : Env → Stt → O) : Nat → Env → Stt → O
  | 0, _, _ => .no
  | n + 1, env, st => match c env st with
    | .ok true st => (match body env st with
      | .nx env st => whileL c body n env st
      | .ct env st => whileL c body n env st
      | .bk env st => .nx env st
      | o => o)
    | .ok false st => .nx env st
    | .ex e d st => .ex e d env st
    | .no => .no
/-- the meaning of try: body / except C as error: found = .. ..: slot i is the error's, j is found's; m: how many classes there are -/
def tryV (i j m : Nat) (hs : List (Nat × Hk)) : O → O
  | .ex e d env st => if i < env.length ∧ e < m then (match hs.find? (fun q => decide (e = q.1)) with | some q => .nx ((env.set i none).set j (some (hkD q.2 e d))) st | none => .ex e d env st) else .no
  | o => o
mutual
def exS (F : Fs) (b : Nat) : IS → Env → Stt → O
  | .asg g e, env, st => liftO env (evE F b e env st) fun d st => match asG F b g d env st with
    | .ok env st => .nx env st
    | _ => .no
  | .par i j x y, env, st => liftO env (evE F b x env st) fun d st => liftO env (evE F b y env st) fun c st => .nx ((env.set i (some d)).set j (some c)) st
  | .par3 i j l x y z, env, st => liftO env (evE F b x env st) fun d st => liftO env (evE F b y env st) fun c st => liftO env (evE F b z env st) fun e st => .nx (((env.set i (some d)).set j (some c)).set l (some e)) st
  | .aug i o e, env, st => match env[i]? with
    | some (some a) => liftO env (evE F b e env st) fun d st => liftO env (binD o false a d st) fun r st => .nx (env.set i (some r)) st
    | _ => .no
  | .expr e, env, st => liftO env (evE F b e env st) fun _ st => .nx env st
  | .ret e, env, st => liftO env (evE F b e env st) fun d st => .rt d st
  | .retN, _, st => .rt .non st
  | .ite c x y, env, st => liftO env (evC F b c env st) fun t st => if t then exSs F b x env st else exSs F b y env st
  | .for g it body, env, st => liftO env (evI F b it env st) fun w st => forL w.src (fun d env st => match asG F b g d env st with
      | .ok env st => exSs F b body env st
      | _ => .no) w.items env st
  | .while c body, env, st => whileL (fun env st => evC F b c env st) (fun env st => exSs F b body env st) F.wf env st
  | .brk, env, st => .bk env st
  | .cnt, env, st => .ct env st
  | .pass, env, st => .nx env st
  | .never, _, _ => .no
  | .raise e x, env, st => liftO env (evE F b x env st) fun d st => .ex e d env st
  | .tryv i j m hs body, env, st => tryV i j m hs (exSs F b body env st)
def exSs (F : Fs) (b : Nat) : ISs → Env → Stt → O
  | .nil, env, st => .nx env st
  | .cons s ss, env, st => match exS F b s env st with
    | .nx env st => exSs F b ss env st
    | o => o
end

/-- a def: parameters, slots, its body; mode 0: what it makes is unchangeable behind it; 1: the list or dict that it hands back may change, what is in it may not -/
structure Fd where
  n : Nat
  slots : Nat
  mode : Nat
  body : ISs
def fin1 (b : Nat) (d : D) (st : Stt) : R D := match d with
  | .ref n => if b ≤ n then (match (st[n]?).bind (frzO st b n) with
      | some o => .ok (.ref b) (st.take b ++ [o])
      | none => .no) else .no
  | _ => .no
def fin0 (b : Nat) (d : D) (st : Stt) : R D := match frz st b d with
  | some e => .ok e (st.take b)
  | none => .no
def finF (mode b : Nat) (d : D) (st : Stt) : R D := if mode = 1 then fin1 b d st else fin0 b d st
def finE (b c : Nat) (d : D) (st : Stt) : R D := match frz st b d with
  | some e => .ex c e (st.take b)
  | none => .no
def finO (mode b : Nat) : O → R D
  | .nx _ st => finF mode b .non st
  | .rt d st => finF mode b d st
  | .ex c d _ st => finE b c d st
  | _ => .no
def callF (tbl : List Fd) (glo : Nat → Option D) (wf : Nat) : Nat → Nat → List D → Nat → Stt → R D
  | 0, _, _, _, _ => .no
  | k + 1, f, args, _, st => match tbl[f]? with
    | none => .no
    | some fd => if args.length = fd.n then finO fd.mode st.length (exSs ⟨callF tbl glo wf k, glo, wf⟩ st.length fd.body (args.map some ++ List.replicate (fd.slots - fd.n) none) st) else .no
end Y
/-! Z1: plain lemmas of the evaluator. -/
namespace Y
namespace Z
open PySem
mutual
theorem map_lt0 (f : Nat → Option D) : ∀ d : D, d.lt 0 = true → mapW f d = some d
  | .non, _ => rfl
  | .bl _, _ => rfl
  | .int _, _ => rfl
  | .str _, _ => rfl
  | .tup ds, h => by simp only [mapW, mapL_lt0 f ds h, Option.map_some]
  | .ct ds, h => by simp only [mapW, mapL_lt0 f ds h, Option.map_some]
  | .rd ds, h => by simp only [mapW, mapL_lt0 f ds h, Option.map_some]
  | .lst ds, h => by simp only [mapW, mapL_lt0 f ds h, Option.map_some]
  | .dK _ ds, h => by simp only [mapW, mapL_lt0 f ds h, Option.map_some]
  | .dT _ ds, h => by simp only [mapW, mapL_lt0 f ds h, Option.map_some]
  | .cdi _ ds, h => by simp only [mapW, mapL_lt0 f ds h, Option.map_some]
  | .exn _ d, h => by simp only [mapW, map_lt0 f d h, Option.map_some]
  | .ref n, h => by simp [D.lt] at h
theorem mapL_lt0 (f : Nat → Option D) : ∀ ds : List D, ltL 0 ds = true → mapWL f ds = some ds
  | [], _ => rfl
  | d :: ds, h => by
    have h' : (d.lt 0 && ltL 0 ds) = true := h
    rw [Bool.and_eq_true] at h'
    simp only [mapWL, map_lt0 f d h'.1, mapL_lt0 f ds h'.2]
end
theorem fin_rt {d : D} {st : Stt} (h : d.lt 0 = true) : finO 0 st.length (.rt d st) = .ok d st := by
  simp [finO, finF, fin0, frz, map_lt0 _ d h]
theorem fin_rtc (d : D) (st : Stt) : finO 0 st.length (.rt d st) = if d.lt 0 = true then .ok d st else fin0 st.length d st := by
  by_cases h : d.lt 0 = true
  · rw [if_pos h, fin_rt h]
  · rw [if_neg h]; rfl
theorem fin_rt2 {d : D} {st st' : Stt} (h : d.lt 0 = true) : finO 0 st.length (.rt d (st ++ st')) = .ok d st := by
  simp [finO, finF, fin0, frz, map_lt0 _ d h]
theorem fin_nx {env : Env} {st : Stt} : finO 0 st.length (.nx env st) = .ok .non st := by
  simp [finO, finF, fin0, frz, mapW]
theorem ltL_map {α : Type} {f : α → D} (h : ∀ x, (f x).lt 0 = true) : ∀ xs : List α, ltL 0 (xs.map f) = true
  | [] => rfl
  | x :: xs => by
    show ((f x).lt 0 && ltL 0 (xs.map f)) = true
    rw [h x, ltL_map h xs]
    rfl
theorem ltL_ints (xs : List Int) : ltL 0 (xs.map .int) = true := ltL_map (fun _ => rfl) xs
theorem lcA_map {src : List (D × List D)} {f : D → List D → Stt → R (List D)} {st : Stt} (h : D → D) (hs : stills st src = true) : ∀ (items acc : List D), (∀ d ∈ items, ∀ acc, acc.length < sz → f d acc st = .ok (acc ++ [h d]) st) → acc.length + items.length ≤ sz → lcA src f items acc st = .ok (acc ++ items.map h) st
  | [], acc, _, _ => by simp [lcA, hs]
  | d :: ds, acc, hf, hl => by
    have e := hf d (List.mem_cons_self ..) acc (by simp at hl; omega)
    have r := lcA_map h hs ds (acc ++ [h d]) (fun x hx => hf x (List.mem_cons_of_mem _ hx)) (by simp at hl ⊢; omega)
    simp [lcA, hs, e, R.bind, r]
theorem lcA_ints {src : List (D × List D)} {f : D → List D → Stt → R (List D)} {st : Stt} (h : Int → D) (hs : stills st src = true) (xs : List Int) (hf : ∀ x ∈ xs, ∀ acc, acc.length < sz → f (.int x) acc st = .ok (acc ++ [h x]) st) (hl : xs.length ≤ sz) : lcA src f (xs.map .int) [] st = .ok (xs.map h) st := by
  have r := lcA_map (src := src) (f := f) (fun d => match d with | .int i => h i | _ => .non) hs (xs.map .int) [] (fun d hd acc ha => by
    obtain ⟨x, hx, e⟩ := List.mem_map.mp hd
    rw [← e]
    exact hf x hx acc ha) (by simpa using hl)
  rw [r]
  simp
theorem asI : ∀ xs : List Int, asInts (xs.map .int) = some xs
  | [] => rfl
  | x :: xs => by simp [asInts, asI xs]
theorem asB : ∀ xs : List Bool, asBools (xs.map .bl) = some xs
  | [] => rfl
  | x :: xs => by simp [asBools, asB xs]
theorem eqb_self (d : D) : True := trivial
end Z
end Y
/-! Z2: more plain lemmas of the evaluator. -/
namespace Y
namespace Z
open PySem
mutual
theorem eqb_refl : ∀ d : D, D.eqb d d = true
  | .non => rfl
  | .bl _ => by simp [D.eqb]
  | .int _ => by simp [D.eqb]
  | .str _ => by simp [D.eqb]
  | .tup a => by simp [D.eqb, eqbL_refl a]
  | .lst a => by simp [D.eqb, eqbL_refl a]
  | .rd a => by simp [D.eqb, eqbL_refl a]
  | .ct a => by simp [D.eqb, eqbL_refl a]
  | .dK _ a => by simp [D.eqb, eqbL_refl a]
  | .dT _ a => by simp [D.eqb, eqbL_refl a]
  | .cdi _ a => by simp [D.eqb, eqbL_refl a]
  | .exn _ v => by simp [D.eqb, eqb_refl v]
  | .ref _ => by simp [D.eqb]
theorem eqbL_refl : ∀ ds : List D, eqbL ds ds = true
  | [] => rfl
  | d :: ds => by simp [eqbL, eqb_refl d, eqbL_refl ds]
end
theorem still_nil (st : Stt) : stills st [] = true := of_eq_true (by simp [stills])
theorem still_tup (st : Stt) (ds : List D) (r) : stills st ((.tup ds, ds) :: r) = stills st r := by simp [stills, seqOf, eqbL_refl]
theorem still_ct (st : Stt) (ds : List D) (r) : stills st ((.ct ds, ds) :: r) = stills st r := by simp [stills, seqOf, eqbL_refl]
theorem still_rd (st : Stt) (ds : List D) (r) : stills st ((.rd ds, ds) :: r) = stills st r := by simp [stills, seqOf, lstOf, eqbL_refl]
theorem still_lst (st : Stt) (ds : List D) (r) : stills st ((.lst ds, ds) :: r) = stills st r := by simp [stills, seqOf, lstOf, eqbL_refl]
theorem lcA_g {α : Type} {src : List (D × List D)} {f : D → List D → Stt → R (List D)} {st : Stt} (g h : α → D) (hs : stills st src = true) : ∀ (items : List α) (acc : List D), (∀ d ∈ items, ∀ acc, acc.length < sz → f (g d) acc st = .ok (acc ++ [h d]) st) → acc.length + items.length ≤ sz → lcA src f (items.map g) acc st = .ok (acc ++ items.map h) st
  | [], acc, _, _ => by simp [lcA, hs]
  | d :: ds, acc, hf, hl => by
    have e := hf d (List.mem_cons_self ..) acc (by simp at hl; omega)
    have r := lcA_g g h hs ds (acc ++ [h d]) (fun x hx => hf x (List.mem_cons_of_mem _ hx)) (by simp at hl ⊢; omega)
    simp [lcA, hs, e, R.bind, r]
theorem lcA_gs {α : Type} {src : List (D × List D)} {f : D → List D → Stt → R (List D)} {st : Stt} (g h : α → D) (hs : stills st src = true) (items : List α) (hf : ∀ d ∈ items, ∀ acc, acc.length < sz → f (g d) acc st = .ok (acc ++ [h d]) st) (hl : items.length ≤ sz) : lcA src f (items.map g) [] st = .ok (items.map h) st := by
  have r := lcA_g (src := src) g h hs items [] hf (by simpa using hl)
  simpa using r
theorem asB' {α : Type} (p : α → Bool) : ∀ xs : List α, asBools (xs.map fun x => .bl (p x)) = some (xs.map p)
  | [] => rfl
  | x :: xs => by simp [asBools, asB' p xs]
theorem asI' {α : Type} (p : α → Int) : ∀ xs : List α, asInts (xs.map fun x => .int (p x)) = some (xs.map p)
  | [] => rfl
  | x :: xs => by simp [asInts, asI' p xs]
theorem eqD_int (st : Stt) (i j : Int) : eqD st (.int i) (.int j) = some (decide (i = j)) := by
  simp [eqD, py, pyW, SeqAt.shaped, PyData.eqv, PyData.canLay0, PyData.depth]
  by_cases h : i = j <;> simp [h]
end Z
end Y
namespace Y
namespace Z
open PySem
theorem atI_px (px : List Int) (B : List D) (i : Int) (h : 0 ≤ i) : L2.atI (List.map D.int px ++ B) ((px.length : Int) + i) = B[i.toNat]? := by
  unfold L2.atI L2.ixN
  have e1 : 0 ≤ (px.length : Int) + i := by omega
  have e3 : ((px.length : Int) + i).toNat = px.length + i.toNat := by omega
  rw [if_pos e1, e3]
  by_cases hb : i.toNat < B.length
  · have e2 : (px.length : Int) + i < ((List.map D.int px ++ B).length : Int) := by simp; omega
    rw [if_pos e2, Option.bind_some, List.getElem?_append_right (by simp)]
    simp
  · have e2 : ¬ (px.length : Int) + i < ((List.map D.int px ++ B).length : Int) := by simp; omega
    rw [if_neg e2, List.getElem?_eq_none (by omega)]
    rfl
theorem atI_px0 (px : List Int) (B : List D) : L2.atI (List.map D.int px ++ B) (px.length : Int) = B[0]? := by
  have := atI_px px B 0 (Int.le_refl 0)
  simpa using this
theorem get_last (st : Stt) (o : Ob) : (st ++ [o])[st.length]? = some o := by simp
theorem set_last (st : Stt) (o o' : Ob) : (st ++ [o]).set st.length o' = st ++ [o'] := by simp
end Z
end Y
/-! Z3: statements and loops by name. -/
namespace Y
namespace Z
open PySem
def forS (F : Fs) (b : Nat) (g : IG) (body : ISs) (src : List (D × List D)) (items : List D) (env : Env) (st : Stt) : O := forL src (fun d env st => match asG F b g d env st with
      | .ok env st => exSs F b body env st
      | _ => .no) items env st
def whS (F : Fs) (b : Nat) (c : IC) (body : ISs) (n : Nat) (env : Env) (st : Stt) : O := whileL (fun env st => evC F b c env st) (fun env st => exSs F b body env st) n env st
theorem x_asg (F b g e env st) : exS F b (.asg g e) env st = liftO env (evE F b e env st) fun d st => match asG F b g d env st with
    | .ok env st => .nx env st
    | _ => .no := by simp only [exS] <;> rfl
theorem x_par (F b i j x y env st) : exS F b (.par i j x y) env st = liftO env (evE F b x env st) fun d st => liftO env (evE F b y env st) fun c st => .nx ((env.set i (some d)).set j (some c)) st := by simp only [exS]
theorem x_expr (F b e env st) : exS F b (.expr e) env st = liftO env (evE F b e env st) fun _ st => .nx env st := by simp only [exS]
theorem x_ret (F b e env st) : exS F b (.ret e) env st = liftO env (evE F b e env st) fun d st => .rt d st := by simp only [exS]
theorem x_retN (F b env st) : exS F b .retN env st = .rt .non st := by simp only [exS]
theorem x_ite (F b c x y env st) : exS F b (.ite c x y) env st = liftO env (evC F b c env st) fun t st => if t then exSs F b x env st else exSs F b y env st := by simp only [exS]
theorem x_for (F b g it body env st) : exS F b (.for g it body) env st = liftO env (evI F b it env st) fun w st => forS F b g body w.src w.items env st := by simp only [exS] <;> rfl
theorem x_while (F b c body env st) : exS F b (.while c body) env st = whS F b c body F.wf env st := by simp only [exS] <;> rfl
theorem x_brk (F b env st) : exS F b .brk env st = .bk env st := by simp only [exS]
theorem x_cnt (F b env st) : exS F b .cnt env st = .ct env st := by simp only [exS]
theorem x_pass (F b env st) : exS F b .pass env st = .nx env st := by simp only [exS]
theorem f_nil (F b g body src env st) (h : stills st src = true) : forS F b g body src [] env st = .nx env st := by simp [forS, forL, h]
theorem f_cons (F b g body src d ds env st) (h : stills st src = true) : forS F b g body src (d :: ds) env st = match (match asG F b g d env st with
      | .ok env st => exSs F b body env st
      | _ => .no) with
      | .nx env st => forS F b g body src ds env st
      | .ct env st => forS F b g body src ds env st
      | .bk env st => .nx env st
      | o => o := by simp only [forS, forL, h, if_true] <;> rfl
/-- a loop by an invariant -/
theorem f_inv {F b g body src} (P : List D → Env → Stt → Prop) (hs : ∀ r env st, P r env st → stills st src = true)
    (step : ∀ d r env st, P (d :: r) env st → ∃ env1 st1 env' st', asG F b g d env st = .ok env1 st1 ∧ exSs F b body env1 st1 = .nx env' st' ∧ P r env' st') :
    ∀ items env st, P items env st → ∃ env' st', forS F b g body src items env st = .nx env' st' ∧ P [] env' st'
  | [], env, st, h => ⟨env, st, f_nil _ _ _ _ _ _ _ (hs _ _ _ h), h⟩
  | d :: ds, env, st, h => by
    obtain ⟨env1, st1, env', st', e1, e2, h'⟩ := step d ds env st h
    obtain ⟨env2, st2, e3, h2⟩ := f_inv P hs step ds env' st' h'
    refine ⟨env2, st2, ?_, h2⟩
    rw [f_cons _ _ _ _ _ _ _ _ _ (hs _ _ _ h)]
    simp only [e1, e2, e3]
theorem fin_rta (d : D) (st st' : Stt) : finO 0 st.length (.rt d (st ++ st')) = if d.lt 0 = true then .ok d st else fin0 st.length d (st ++ st') := by
  by_cases h : d.lt 0 = true
  · rw [if_pos h, fin_rt2 h]
  · rw [if_neg h] <;> rfl
end Z
end Y
/-! Z4: one step of the evaluator each, by equations that fire on values alone; what comes later stands as a named function, so that simp leaves it alone until its turn. -/
namespace Y
namespace Z
open PySem
theorem bind_ok {α β} (a : α) (st) (f : α → Stt → R β) : (R.ok a st).bind f = f a st := rfl
theorem bind_ex {α β} (c d st) (f : α → Stt → R β) : (R.ex c d st : R α).bind f = .ex c d st := rfl
theorem bind_no {α β} (f : α → Stt → R β) : (R.no : R α).bind f = .no := rfl
theorem lift_ok {α} (env) (a : α) (st) (f : α → Stt → O) : liftO env (.ok a st) f = f a st := rfl
theorem lift_ex {α} (env) (c d st) (f : α → Stt → O) : liftO env (.ex c d st) f = .ex c d env st := rfl
theorem lift_no {α} (env) (f : α → Stt → O) : liftO env .no f = .no := rfl
theorem noEx_ok {α} (a : α) (st) : noEx (.ok a st) = .ok a st := rfl
def seqO (o : O) (k : Env → Stt → O) : O := match o with
  | .nx env st => k env st
  | o => o
theorem seq_nx (env st k) : seqO (.nx env st) k = k env st := rfl
theorem seq_rt (d st k) : seqO (.rt d st) k = .rt d st := rfl
theorem seq_bk (env st k) : seqO (.bk env st) k = .bk env st := rfl
theorem seq_ct (env st k) : seqO (.ct env st) k = .ct env st := rfl
theorem seq_ex (c d env st k) : seqO (.ex c d env st) k = .ex c d env st := rfl
theorem seq_no (k) : seqO .no k = .no := rfl
def loopO (o : O) (k : Env → Stt → O) : O := match o with
  | .nx env st => k env st
  | .ct env st => k env st
  | .bk env st => .nx env st
  | o => o
theorem loop_nx (env st k) : loopO (.nx env st) k = k env st := rfl
theorem loop_rt (d st k) : loopO (.rt d st) k = .rt d st := rfl
theorem loop_bk (env st k) : loopO (.bk env st) k = .nx env st := rfl
theorem loop_ct (env st k) : loopO (.ct env st) k = k env st := rfl
theorem loop_ex (c d env st k) : loopO (.ex c d env st) k = .ex c d env st := rfl
def asT (r : R Env) (k : Env → Stt → O) : O := match r with
  | .ok env st => k env st
  | _ => .no
theorem asT_ok (env st k) : asT (.ok env st) k = k env st := rfl
def optR {α} (o : Option α) (st : Stt) : R α := match o with
  | some a => .ok a st
  | none => .no
theorem opt_some {α} (a : α) (st) : optR (some a) st = .ok a st := rfl
def varR (o : Option (Option D)) (st : Stt) : R D := match o with
  | some (some d) => .ok d st
  | _ => .no
theorem var_some (d st) : varR (some (some d)) st = .ok d st := rfl
def blO (o : Option Bool) (st : Stt) : R D := match o with
  | some b => .ok (.bl b) st
  | none => .no
theorem blO_some (b st) : blO (some b) st = .ok (.bl b) st := rfl
theorem cmpT_opt (o x y) (st : Stt) : cmpT o x y st = optR (cmpD o x y st) st := by
  unfold cmpT
  cases cmpD o x y st <;> rfl
theorem cmpR_blO (o x y) (st : Stt) : cmpR o x y st = blO (cmpD o x y st) st := by
  unfold cmpR
  cases cmpD o x y st <;> rfl
-- what comes later
section
variable (F : Fs) (b : Nat)
def kAsg (g : IG) (env : Env) : D → Stt → O := fun d st => asT (asG F b g d env st) .nx
theorem kAsg_e (g env d st) : kAsg F b g env d st = asT (asG F b g d env st) .nx := rfl
def kAug3 (i : Nat) (env : Env) : D → Stt → O := fun r st => .nx (env.set i (some r)) st
theorem kAug3_e (i env r st) : kAug3 i env r st = .nx (env.set i (some r)) st := rfl
def kAug2 (i : Nat) (o : BOp) (env : Env) (a : D) : D → Stt → O := fun d st => liftO env (binD o false a d st) (kAug3 i env)
theorem kAug2_e (i o env a d st) : kAug2 i o env a d st = liftO env (binD o false a d st) (kAug3 i env) := rfl
def kAug1 (i : Nat) (o : BOp) (e : IE) (env : Env) : D → Stt → O := fun a st => liftO env (evE F b e env st) (kAug2 i o env a)
theorem kAug1_e (i o e env a st) : kAug1 F b i o e env a st = liftO env (evE F b e env st) (kAug2 i o env a) := rfl
def kIte (x y : ISs) (env : Env) : Bool → Stt → O := fun t st => if t = true then exSs F b x env st else exSs F b y env st
theorem kIte_e (x y env t st) : kIte F b x y env t st = if t = true then exSs F b x env st else exSs F b y env st := rfl
def kPar2 (i j : Nat) (env : Env) (d : D) : D → Stt → O := fun c st => .nx ((env.set i (some d)).set j (some c)) st
theorem kPar2_e (i j env d c st) : kPar2 i j env d c st = .nx ((env.set i (some d)).set j (some c)) st := rfl
def kPar1 (i j : Nat) (y : IE) (env : Env) : D → Stt → O := fun d st => liftO env (evE F b y env st) (kPar2 i j env d)
theorem kPar1_e (i j y env d st) : kPar1 F b i j y env d st = liftO env (evE F b y env st) (kPar2 i j env d) := rfl
def kExpr (env : Env) : D → Stt → O := fun _ st => .nx env st
theorem kExpr_e (env d st) : kExpr env d st = .nx env st := rfl
def kFor (g : IG) (body : ISs) (env : Env) : Wk → Stt → O := fun w st => forS F b g body w.src w.items env st
theorem kFor_e (g body env w st) : kFor F b g body env w st = forS F b g body w.src w.items env st := rfl
def kBin1 (o : BOp) (m : Bool) (y : IE) (env : Env) : D → Stt → R D := fun a st => (evE F b y env st).bind (binD o m a)
theorem kBin1_e (o m y env a st) : kBin1 F b o m y env a st = (evE F b y env st).bind (binD o m a) := rfl
def kNeg : D → Stt → R D := fun a st => match a with
  | .int i => .ok (.int (-i)) st
  | _ => .no
theorem kNeg_e (i st) : kNeg (.int i) st = .ok (.int (-i)) st := rfl
def kCmp2 (o : COp) (a : D) : D → Stt → R D := fun c st => blO (cmpD o a c st) st
theorem kCmp2_e (o a c st) : kCmp2 o a c st = blO (cmpD o a c st) st := rfl
def kCmp1 (o : COp) (y : IE) (env : Env) : D → Stt → R D := fun a st => (evE F b y env st).bind (kCmp2 o a)
theorem kCmp1_e (o y env a st) : kCmp1 F b o y env a st = (evE F b y env st).bind (kCmp2 o a) := rfl
def kC23 (p : COp) (z : IE) (env : Env) (c : D) (st : Stt) (t : Option Bool) : R D := match t with
  | some t => if t = true then (evE F b z env st).bind (kCmp2 p c) else .ok (.bl false) st
  | none => .no
theorem kC23_e (p z env c st t) : kC23 F b p z env c st (some t) = if t = true then (evE F b z env st).bind (kCmp2 p c) else .ok (.bl false) st := rfl
def kC22 (o p : COp) (z : IE) (env : Env) (a : D) : D → Stt → R D := fun c st => kC23 F b p z env c st (cmpD o a c st)
theorem kC22_e (o p z env a c st) : kC22 F b o p z env a c st = kC23 F b p z env c st (cmpD o a c st) := rfl
def kC21 (o p : COp) (y z : IE) (env : Env) : D → Stt → R D := fun a st => (evE F b y env st).bind (kC22 F b o p z env a)
theorem kC21_e (o p y z env a st) : kC21 F b o p y z env a st = (evE F b y env st).bind (kC22 F b o p z env a) := rfl
def kAnd (y : IE) (env : Env) : D → Stt → R D := fun a st => match a with
  | .bl t => if t = true then evE F b y env st else .ok (.bl false) st
  | _ => .no
theorem kAnd_e (y env t st) : kAnd F b y env (.bl t) st = if t = true then evE F b y env st else .ok (.bl false) st := rfl
def kOr (y : IE) (env : Env) : D → Stt → R D := fun a st => match a with
  | .bl t => if t = true then .ok (.bl true) st else evE F b y env st
  | _ => .no
theorem kOr_e (y env t st) : kOr F b y env (.bl t) st = if t = true then .ok (.bl true) st else evE F b y env st := rfl
def kNot : D → Stt → R D := fun a st => match a with
  | .bl t => .ok (.bl (!t)) st
  | _ => .no
theorem kNot_e (t st) : kNot (.bl t) st = .ok (.bl (!t)) st := rfl
def kIfe (x y : IE) (env : Env) : Bool → Stt → R D := fun t st => if t = true then evE F b x env st else evE F b y env st
theorem kIfe_e (x y env t st) : kIfe F b x y env t st = if t = true then evE F b x env st else evE F b y env st := rfl
def kTup  : List D → Stt → R D := fun vs st => if vs.length ≤ sz then .ok (.tup vs) st else .no
theorem kTup_e (vs st) : kTup vs st = if vs.length ≤ sz then .ok (.tup vs) st else .no := rfl
def kLst (m : Bool) : List D → Stt → R D := fun vs st => if vs.length ≤ sz then newL m vs st else .no
theorem kLst_e (m vs st) : kLst m vs st = if vs.length ≤ sz then newL m vs st else .no := rfl
def kDic (m : Bool) (ks : List Key) : List D → Stt → R D := fun vs st => if (nodupB ks && decide (ks.length = vs.length) && decide (ks.length ≤ 15)) = true then newK m ks vs st else .no
theorem kDic_e (m ks vs st) : kDic m ks vs st = if (nodupB ks && decide (ks.length = vs.length) && decide (ks.length ≤ 15)) = true then newK m ks vs st else .no := rfl
def kIx1 (y : IE) (env : Env) : D → Stt → R D := fun a st => (evE F b y env st).bind (getR a)
theorem kIx1_e (y env a st) : kIx1 F b y env a st = (evE F b y env st).bind (getR a) := rfl
def kSl2 (hi : IEo) (env : Env) (a : D) : Option Int → Stt → R D := fun l st => (evO F b hi env st).bind (cutR a l)
theorem kSl2_e (hi env a l st) : kSl2 F b hi env a l st = (evO F b hi env st).bind (cutR a l) := rfl
def kSl1 (lo hi : IEo) (env : Env) : D → Stt → R D := fun a st => (evO F b lo env st).bind (kSl2 F b hi env a)
theorem kSl1_e (lo hi env a st) : kSl1 F b lo hi env a st = (evO F b lo env st).bind (kSl2 F b hi env a) := rfl
def kCall (f : Nat) (ds : List D) : List D → Stt → R D := fun vs st => F.call f (vs ++ ds) b st
theorem kCall_e (f ds vs st) : kCall F b f ds vs st = F.call f (vs ++ ds) b st := rfl
def kCK3 (f : Nat) (st : Stt) (o : Option (List D)) : R D := match o with
  | some ws => F.call f ws b st
  | none => .no
theorem kCK3_e (f st ws) : kCK3 F b f st (some ws) = F.call f ws b st := rfl
def kCK2 (f : Nat) (order : List Nat) (vs : List D) : List D → Stt → R D := fun zs st => kCK3 F b f st (pick order (vs ++ zs))
theorem kCK2_e (f order vs zs st) : kCK2 F b f order vs zs st = kCK3 F b f st (pick order (vs ++ zs)) := rfl
def kCK1 (f : Nat) (ks : IEs) (order : List Nat) (env : Env) : List D → Stt → R D := fun vs st => (evL F b ks env st).bind (kCK2 F b f order vs)
theorem kCK1_e (f ks order env vs st) : kCK1 F b f ks order env vs st = (evL F b ks env st).bind (kCK2 F b f order vs) := rfl
def kApp1 (x : IE) (env : Env) : D → Stt → R D := fun o st => if (lstOf st o).isSome = true then (evE F b x env st).bind (appD b o) else .no
theorem kApp1_e (x env o st) : kApp1 F b x env o st = if (lstOf st o).isSome = true then (evE F b x env st).bind (appD b o) else .no := rfl
def kExt1 (x : IE) (env : Env) : D → Stt → R D := fun o st => if (lstOf st o).isSome = true then (evE F b x env st).bind (extD b o) else .no
theorem kExt1_e (x env o st) : kExt1 F b x env o st = if (lstOf st o).isSome = true then (evE F b x env st).bind (extD b o) else .no := rfl
def kG2 (z : IE) (env : Env) (o : D) : D → Stt → R D := fun k st => (evE F b z env st).bind (get2D o k)
theorem kG2_e (z env o k st) : kG2 F b z env o k st = (evE F b z env st).bind (get2D o k) := rfl
def kG1 (x z : IE) (env : Env) : D → Stt → R D := fun o st => if (dicOf st o).isSome = true then (evE F b x env st).bind (kG2 F b z env o) else .no
theorem kG1_e (x z env o st) : kG1 F b x z env o st = if (dicOf st o).isSome = true then (evE F b x env st).bind (kG2 F b z env o) else .no := rfl
def lcF3 (acc : List D) : D → Stt → R (List D) := fun y st => push acc y st
theorem lcF3_e (acc y st) : lcF3 acc y st = push acc y st := rfl
def lcF2 (elt : IE) (acc : List D) (env2 : Env) : Bool → Stt → R (List D) := fun t st => if t = true then (noEx (evE F b elt env2 st)).bind (lcF3 acc) else .ok acc st
theorem lcF2_e (elt acc env2 t st) : lcF2 F b elt acc env2 t st = if t = true then (noEx (evE F b elt env2 st)).bind (lcF3 acc) else .ok acc st := rfl
def lcF1 (t : ICo) (elt : IE) (acc : List D) : Env → Stt → R (List D) := fun env2 st => (noEx (evCo F b t env2 st)).bind (lcF2 F b elt acc env2)
theorem lcF1_e (t elt acc env2 st) : lcF1 F b t elt acc env2 st = (noEx (evCo F b t env2 st)).bind (lcF2 F b elt acc env2) := rfl
/-- one item of a comprehension -/
def lcF (g : IG) (own : List Nat) (env : Env) (t : ICo) (elt : IE) (d : D) (acc : List D) (st : Stt) : R (List D) := (noEx (asG F b g d (wipe env own) st)).bind (lcF1 F b t elt acc)
def kLc (m : Bool) (g : IG) (own : List Nat) (env : Env) (t : ICo) (elt : IE) : Wk → Stt → R D := fun w st => (lcA w.src (lcF F b g own env t elt) w.items [] st).bind (newL m)
theorem kLc_e (m g own env t elt w st) : kLc F b m g own env t elt w st = (lcA w.src (lcF F b g own env t elt) w.items [] st).bind (newL m) := rfl
def lcG1 (elt : IE) (acc : List D) : Env → Stt → R (List D) := fun env3 st => (noEx (evE F b elt env3 st)).bind (lcF3 acc)
theorem lcG1_e (elt acc env3 st) : lcG1 F b elt acc env3 st = (noEx (evE F b elt env3 st)).bind (lcF3 acc) := rfl
def lcG (g1 : IG) (own1 : List Nat) (env2 : Env) (elt : IE) (d : D) (acc : List D) (st : Stt) : R (List D) := (noEx (asG F b g1 d (wipe env2 own1) st)).bind (lcG1 F b elt acc)
def lcH2 (g1 : IG) (own1 : List Nat) (elt : IE) (acc : List D) (env2 : Env) : Wk → Stt → R (List D) := fun w1 st => lcA w1.src (lcG F b g1 own1 env2 elt) w1.items acc st
theorem lcH2_e (g1 own1 elt acc env2 w1 st) : lcH2 F b g1 own1 elt acc env2 w1 st = lcA w1.src (lcG F b g1 own1 env2 elt) w1.items acc st := rfl
def lcH1 (g1 : IG) (it1 : IT) (own1 : List Nat) (elt : IE) (acc : List D) : Env → Stt → R (List D) := fun env2 st => (noEx (evI F b it1 env2 st)).bind (lcH2 F b g1 own1 elt acc env2)
theorem lcH1_e (g1 it1 own1 elt acc env2 st) : lcH1 F b g1 it1 own1 elt acc env2 st = (noEx (evI F b it1 env2 st)).bind (lcH2 F b g1 own1 elt acc env2) := rfl
def lcH (g : IG) (own : List Nat) (env : Env) (g1 : IG) (it1 : IT) (own1 : List Nat) (elt : IE) (d : D) (acc : List D) (st : Stt) : R (List D) := (noEx (asG F b g d (wipe env own) st)).bind (lcH1 F b g1 it1 own1 elt acc)
def kLc2 (m : Bool) (g : IG) (own : List Nat) (env : Env) (g1 : IG) (it1 : IT) (own1 : List Nat) (elt : IE) : Wk → Stt → R D := fun w st => (lcA w.src (lcH F b g own env g1 it1 own1 elt) w.items [] st).bind (newL m)
theorem kLc2_e (m g own env g1 it1 own1 elt w st) : kLc2 F b m g own env g1 it1 own1 elt w st = (lcA w.src (lcH F b g own env g1 it1 own1 elt) w.items [] st).bind (newL m) := rfl
def kL2 (v : D) : List D → Stt → R (List D) := fun vs st => .ok (v :: vs) st
theorem kL2_e (v vs st) : kL2 v vs st = .ok (v :: vs) st := rfl
def kL1 (es : IEs) (env : Env) : D → Stt → R (List D) := fun v st => (evL F b es env st).bind (kL2 v)
theorem kL1_e (es env v st) : kL1 F b es env v st = (evL F b es env st).bind (kL2 v) := rfl
def kInt : D → Stt → R (Option Int) := fun v st => match v with
  | .int i => .ok (some i) st
  | _ => .no
theorem kInt_e (i st) : kInt (.int i) st = .ok (some i) st := rfl
def kTru  : D → Stt → R Bool := fun v st => optR (truth st v) st
theorem kTru_e (v st) : kTru v st = optR (truth st v) st := rfl
def kCp2 (o : COp) (a : D) : D → Stt → R Bool := fun c st => optR (cmpD o a c st) st
theorem kCp2_e (o a c st) : kCp2 o a c st = optR (cmpD o a c st) st := rfl
def kCp1 (o : COp) (y : IE) (env : Env) : D → Stt → R Bool := fun a st => (evE F b y env st).bind (kCp2 o a)
theorem kCp1_e (o y env a st) : kCp1 F b o y env a st = (evE F b y env st).bind (kCp2 o a) := rfl
def kCq3 (p : COp) (z : IE) (env : Env) (c : D) (st : Stt) (t : Option Bool) : R Bool := match t with
  | some t => if t = true then (evE F b z env st).bind (kCp2 p c) else .ok false st
  | none => .no
theorem kCq3_e (p z env c st t) : kCq3 F b p z env c st (some t) = if t = true then (evE F b z env st).bind (kCp2 p c) else .ok false st := rfl
def kCq2 (o p : COp) (z : IE) (env : Env) (a : D) : D → Stt → R Bool := fun c st => kCq3 F b p z env c st (cmpD o a c st)
theorem kCq2_e (o p z env a c st) : kCq2 F b o p z env a c st = kCq3 F b p z env c st (cmpD o a c st) := rfl
def kCq1 (o p : COp) (y z : IE) (env : Env) : D → Stt → R Bool := fun a st => (evE F b y env st).bind (kCq2 F b o p z env a)
theorem kCq1_e (o p y z env a st) : kCq1 F b o p y z env a st = (evE F b y env st).bind (kCq2 F b o p z env a) := rfl
def kCand (y : IC) (env : Env) : Bool → Stt → R Bool := fun t st => if t = true then evC F b y env st else .ok false st
theorem kCand_e (y env t st) : kCand F b y env t st = if t = true then evC F b y env st else .ok false st := rfl
def kCor (y : IC) (env : Env) : Bool → Stt → R Bool := fun t st => if t = true then .ok true st else evC F b y env st
theorem kCor_e (y env t st) : kCor F b y env t st = if t = true then .ok true st else evC F b y env st := rfl
def kCnot  : Bool → Stt → R Bool := fun t st => .ok (!t) st
theorem kCnot_e (t st) : kCnot t st = .ok (!t) st := rfl
def kR2 (y : IE) (env : Env) : D → Stt → R Wk := fun d st => (evE F b y env st).bind (walkRng2 d)
theorem kR2_e (y env d st) : kR2 F b y env d st = (evE F b y env st).bind (walkRng2 d) := rfl
def kZ (y : IE) (env : Env) : D → Stt → R Wk := fun d st => (evE F b y env st).bind (walkZip d)
theorem kZ_e (y env d st) : kZ F b y env d st = (evE F b y env st).bind (walkZip d) := rfl
def kGx3 (env : Env) (o : Option Stt) : R Env := match o with
  | some st => .ok env st
  | none => .no
theorem kGx3_e (env st) : kGx3 env (some st) = .ok env st := rfl
def kGx2 (b : Nat) (a d : D) (env : Env) : D → Stt → R Env := fun c st => kGx3 env (setD b a c d st)
theorem kGx2_e (b a d env c st) : kGx2 b a d env c st = kGx3 env (setD b a c d st) := rfl
def kGx1 (i : IE) (d : D) (env : Env) : D → Stt → R Env := fun a st => (noEx (evE F b i env st)).bind (kGx2 b a d env)
theorem kGx1_e (i d env a st) : kGx1 F b i d env a st = (noEx (evE F b i env st)).bind (kGx2 b a d env) := rfl
def kWh (c : IC) (body : ISs) (n : Nat) (env : Env) : Bool → Stt → O := fun t st => if t = true then loopO (exSs F b body env st) (whS F b c body n) else .nx env st
theorem kWh_e (c body n env t st) : kWh F b c body n env t st = if t = true then loopO (exSs F b body env st) (whS F b c body n) else .nx env st := rfl
end
section
variable (F : Fs) (b : Nat) (env : Env) (st : Stt)
theorem x_nil : exSs F b .nil env st = .nx env st := by simp only [exSs]
theorem x_cons (s ss) : exSs F b (.cons s ss) env st = seqO (exS F b s env st) (exSs F b ss) := by simp only [exSs] <;> rfl
theorem y_asg (g e) : exS F b (.asg g e) env st = liftO env (evE F b e env st) (kAsg F b g env) := by simp only [exS] <;> rfl
theorem y_aug (i o e) : exS F b (.aug i o e) env st = liftO env (varR env[i]? st) (kAug1 F b i o e env) := by
  simp only [exS]
  cases h : env[i]? with
  | none => rfl
  | some x => cases x <;> rfl
theorem y_par (i j x y) : exS F b (.par i j x y) env st = liftO env (evE F b x env st) (kPar1 F b i j y env) := by simp only [exS] <;> rfl
def kPar33 (i j l : Nat) (env : Env) (d c : D) : D → Stt → O := fun e st => .nx (((env.set i (some d)).set j (some c)).set l (some e)) st
theorem kPar33_e (i j l env d c e st) : kPar33 i j l env d c e st = .nx (((env.set i (some d)).set j (some c)).set l (some e)) st := rfl
def kPar32 (i j l : Nat) (z : IE) (env : Env) (d : D) : D → Stt → O := fun c st => liftO env (evE F b z env st) (kPar33 i j l env d c)
theorem kPar32_e (i j l z env d c st) : kPar32 F b i j l z env d c st = liftO env (evE F b z env st) (kPar33 i j l env d c) := rfl
def kPar31 (i j l : Nat) (y z : IE) (env : Env) : D → Stt → O := fun d st => liftO env (evE F b y env st) (kPar32 F b i j l z env d)
theorem kPar31_e (i j l y z env d st) : kPar31 F b i j l y z env d st = liftO env (evE F b y env st) (kPar32 F b i j l z env d) := rfl
theorem y_par3 (i j l x y z) : exS F b (.par3 i j l x y z) env st = liftO env (evE F b x env st) (kPar31 F b i j l y z env) := by simp only [exS] <;> rfl
def kRaise (e : Nat) (env : Env) : D → Stt → O := fun d st => .ex e d env st
theorem kRaise_e (e env d st) : kRaise e env d st = .ex e d env st := rfl
theorem y_raise (e x) : exS F b (.raise e x) env st = liftO env (evE F b x env st) (kRaise e env) := by simp only [exS] <;> rfl
theorem y_tryv (i j m hs body) : exS F b (.tryv i j m hs body) env st = tryV i j m hs (exSs F b body env st) := by simp only [exS]
theorem tv_nx (i j m hs) : tryV i j m hs (.nx env st) = .nx env st := rfl
theorem tv_rt (i j m hs d) : tryV i j m hs (.rt d st) = .rt d st := rfl
theorem tv_ex (i j m hs e d) : tryV i j m hs (.ex e d env st) = if i < env.length ∧ e < m then (match hs.find? (fun q => decide (e = q.1)) with | some q => .nx ((env.set i none).set j (some (hkD q.2 e d))) st | none => .ex e d env st) else .no := rfl
theorem y_expr (e) : exS F b (.expr e) env st = liftO env (evE F b e env st) (kExpr env) := by simp only [exS] <;> rfl
theorem y_ret (e) : exS F b (.ret e) env st = liftO env (evE F b e env st) .rt := by simp only [exS]
theorem y_ite (c x y) : exS F b (.ite c x y) env st = liftO env (evC F b c env st) (kIte F b x y env) := by simp only [exS] <;> rfl
theorem y_for (g it body) : exS F b (.for g it body) env st = liftO env (evI F b it env st) (kFor F b g body env) := by rw [x_for] <;> rfl
theorem y_cons (g body src d ds) (h : stills st src = true) : forS F b g body src (d :: ds) env st = loopO (asT (asG F b g d env st) (exSs F b body)) (forS F b g body src ds) := by
  rw [f_cons _ _ _ _ _ _ _ _ _ h]
  rfl
theorem wh_step (c body) (n : Nat) : whS F b c body (n + 1) env st = liftO env (evC F b c env st) (kWh F b c body n env) := by
  simp only [whS, whileL]
  cases evC F b c env st with
  | ok t st1 =>
    cases t with
    | true => 
      simp only [liftO, kWh, if_true]
      cases exSs F b body env st1 <;> rfl
    | false => rfl
  | ex c d st => rfl
  | no => rfl
theorem e_var (i) : evE F b (.var i) env st = varR env[i]? st := by simp only [evE] <;> rfl
theorem e_cst (d) : evE F b (.cst d) env st = .ok d st := by simp only [evE]
theorem e_glo (g) : evE F b (.glo g) env st = optR (F.glo g) st := by simp only [evE]; cases F.glo g <;> rfl
theorem e_bin (o m x y) : evE F b (.bin o m x y) env st = (evE F b x env st).bind (kBin1 F b o m y env) := by simp only [evE] <;> rfl
theorem e_neg (x) : evE F b (.neg x) env st = (evE F b x env st).bind kNeg := by simp only [evE] <;> rfl
theorem e_cmp (o x y) : evE F b (.cmp o x y) env st = (evE F b x env st).bind (kCmp1 F b o y env) := by simp only [evE, cmpR_blO] <;> rfl
theorem e_cmp2 (o p x y z) : evE F b (.cmp2 o p x y z) env st = (evE F b x env st).bind (kC21 F b o p y z env) := by
  simp only [evE, cmpR_blO]
  congr 1; funext a st
  simp only [kC21]
  congr 1; funext c st
  simp only [kC22]
  cases h : cmpD o a c st with
  | none => rfl
  | some t => cases t <;> rfl
theorem e_and (x y) : evE F b (.and x y) env st = (evE F b x env st).bind (kAnd F b y env) := by
  simp only [evE]
  congr 1; funext a st
  cases a with
  | bl t => cases t <;> rfl
  | _ => rfl
theorem e_or (x y) : evE F b (.or x y) env st = (evE F b x env st).bind (kOr F b y env) := by
  simp only [evE]
  congr 1; funext a st
  cases a with
  | bl t => cases t <;> rfl
  | _ => rfl
theorem e_not (x) : evE F b (.not x) env st = (evE F b x env st).bind kNot := by simp only [evE] <;> rfl
theorem e_ife (c x y) : evE F b (.ife c x y) env st = (evC F b c env st).bind (kIfe F b x y env) := by simp only [evE] <;> rfl
theorem e_tup (es) : evE F b (.tup es) env st = (evL F b es env st).bind kTup := by simp only [evE] <;> rfl
theorem e_lst (m es) : evE F b (.lst m es) env st = (evL F b es env st).bind (kLst m) := by simp only [evE] <;> rfl
theorem e_dic (m ks es) : evE F b (.dic m ks es) env st = (evL F b es env st).bind (kDic m ks) := by simp only [evE] <;> rfl
theorem e_dic0 (m t) : evE F b (.dic0 m t) env st = if t = true then newT m [] [] st else newK m [] [] st := by simp only [evE]
theorem e_ix (x y) : evE F b (.ix x y) env st = (evE F b x env st).bind (kIx1 F b y env) := by simp only [evE] <;> rfl
theorem e_sl (x lo hi) : evE F b (.sl x lo hi) env st = (evE F b x env st).bind (kSl1 F b lo hi env) := by simp only [evE] <;> rfl
theorem e_rev (x) : evE F b (.rev x) env st = (evE F b x env st).bind revD := by simp only [evE]
theorem e_call (f es ds) : evE F b (.call f es ds) env st = (evL F b es env st).bind (kCall F b f ds) := by simp only [evE] <;> rfl
theorem e_callK (f es ks order) : evE F b (.callK f es ks order) env st = (evL F b es env st).bind (kCK1 F b f ks order env) := by
  simp only [evE]
  rfl
theorem e_blt (f es) : evE F b (.blt f es) env st = (evL F b es env st).bind (bltD f) := by simp only [evE]
theorem e_isi (T x) : evE F b (.isi T x) env st = (evE F b x env st).bind (isD T) := by simp only [evE]
theorem e_isq (x) : evE F b (.isq x) env st = (evE F b x env st).bind (isD2 "list" "tuple") := by simp only [evE]
theorem e_app (y x) : evE F b (.app y x) env st = (evE F b y env st).bind (kApp1 F b x env) := by simp only [evE] <;> rfl
theorem e_ext (y x) : evE F b (.ext y x) env st = (evE F b y env st).bind (kExt1 F b x env) := by simp only [evE] <;> rfl
theorem e_pop (y) : evE F b (.pop y) env st = (evE F b y env st).bind popD := by simp only [evE]
theorem fld_e (c d st) : fldD (.exn c d) st = .ok d st := rfl
theorem e_fld (x) : evE F b (.fld x) env st = (evE F b x env st).bind fldD := by simp only [evE] <;> rfl
theorem e_get2 (y x z) : evE F b (.get2 y x z) env st = (evE F b y env st).bind (kG1 F b x z env) := by simp only [evE] <;> rfl
theorem e_lc (m elt g it t own) : evE F b (.lc m elt g it t own) env st = (evI F b it env st).bind (kLc F b m g own env t elt) := by simp only [evE] <;> rfl
theorem e_lc2 (m elt g it g1 it1 own own1) : evE F b (.lc2 m elt g it g1 it1 own own1) env st = (evI F b it env st).bind (kLc2 F b m g own env g1 it1 own1 elt) := by simp only [evE] <;> rfl
theorem l_nil : evL F b .nil env st = .ok [] st := by simp only [evL]
theorem l_cons (e es) : evL F b (.cons e es) env st = (evE F b e env st).bind (kL1 F b es env) := by simp only [evL] <;> rfl
theorem o_non : evO F b .non env st = .ok none st := by simp only [evO]
theorem o_som (e) : evO F b (.som e) env st = (evE F b e env st).bind kInt := by simp only [evO] <;> rfl
theorem c_val (e) : evC F b (.val e) env st = (evE F b e env st).bind kTru := by
  simp only [evC]
  congr 1; funext v st
  simp only [kTru]
  cases truth st v <;> rfl
theorem c_cp (o x y) : evC F b (.cp o x y) env st = (evE F b x env st).bind (kCp1 F b o y env) := by simp only [evC, cmpT_opt] <;> rfl
theorem c_cp2 (o p x y z) : evC F b (.cp2 o p x y z) env st = (evE F b x env st).bind (kCq1 F b o p y z env) := by
  simp only [evC, cmpT_opt]
  congr 1; funext a st
  simp only [kCq1]
  congr 1; funext c st
  simp only [kCq2]
  cases h : cmpD o a c st with
  | none => rfl
  | some t => cases t <;> rfl
theorem c_and (x y) : evC F b (.and x y) env st = (evC F b x env st).bind (kCand F b y env) := by simp only [evC] <;> rfl
theorem c_or (x y) : evC F b (.or x y) env st = (evC F b x env st).bind (kCor F b y env) := by simp only [evC] <;> rfl
theorem c_not (x) : evC F b (.not x) env st = (evC F b x env st).bind kCnot := by simp only [evC] <;> rfl
theorem co_non : evCo F b .non env st = .ok true st := by simp only [evCo]
theorem co_som (t) : evCo F b (.som t) env st = evC F b t env st := by simp only [evCo]
theorem i_seq (e) : evI F b (.seq e) env st = (evE F b e env st).bind walkSeq := by simp only [evI]
theorem i_rng1 (e) : evI F b (.rng1 e) env st = (evE F b e env st).bind walkRng1 := by simp only [evI]
theorem i_rng2 (x y) : evI F b (.rng2 x y) env st = (evE F b x env st).bind (kR2 F b y env) := by simp only [evI] <;> rfl
theorem i_enm (e) : evI F b (.enm e) env st = (evE F b e env st).bind walkEnm := by simp only [evI]
theorem i_zip (x y) : evI F b (.zip x y) env st = (evE F b x env st).bind (kZ F b y env) := by simp only [evI] <;> rfl
theorem g_nm (i d) : asG F b (.nm i) d env st = .ok (env.set i (some d)) st := by simp only [asG]
theorem g_tup (gs ds) : asG F b (.tp gs) (.tup ds) env st = asGs F b gs ds env st := by simp only [asG]
theorem g_ct (gs ds) : asG F b (.tp gs) (.ct ds) env st = asGs F b gs ds env st := by simp only [asG]
theorem g_ix (x i d) : asG F b (.ix x i) d env st = (noEx (evE F b x env st)).bind (kGx1 F b i d env) := by
  simp only [asG]
  rfl
theorem gs_nil : asGs F b .nil [] env st = .ok env st := by simp only [asGs]
theorem gs_cons (g gs d ds) : asGs F b (.cons g gs) (d :: ds) env st = (asG F b g d env st).bind (asGs F b gs ds) := by simp only [asGs]
end
theorem still_nil2 (st : Stt) : stills st [] = true := of_eq_true (by simp [stills])
theorem lcA_nil (src f acc st) (h : stills st src = true) : lcA src f [] acc st = .ok acc st := by simp [lcA, h]
theorem lcA_cons (src f d ds acc st) (h : stills st src = true) : lcA src f (d :: ds) acc st = (f d acc st).bind (lcA src f ds) := by simp only [lcA, h, if_true]
-- operators at values
section
variable (st : Stt)
theorem b_add (m i j) : binD .add m (.int i) (.int j) st = .ok (.int (i + j)) st := rfl
theorem b_sub (m i j) : binD .sub m (.int i) (.int j) st = .ok (.int (i - j)) st := rfl
theorem b_mul (m i j) : binD .mul m (.int i) (.int j) st = if mulOk i j = true then .ok (.int (i * j)) st else .no := by simp only [binD]
theorem b_div (m i j) : binD .fdiv m (.int i) (.int j) st = if divOk i j = true then .ok (.int (i / j)) st else .no := by simp only [binD]
theorem b_mod (m i j) : binD .mod m (.int i) (.int j) st = if 0 < j then .ok (.int (i % j)) st else .no := by simp only [binD]
theorem b_pow (m i j) : binD .pow m (.int i) (.int j) st = if powOk i j = true then .ok (.int (i ^ j.toNat)) st else .no := by simp only [binD]
theorem b_tup (m a c) : binD .add m (.tup a) (.tup c) st = if a.length + c.length ≤ sz then .ok (.tup (a ++ c)) st else .no := by simp only [binD]
theorem b_lst (m a c) : binD .add m (.lst a) (.lst c) st = if a.length + c.length ≤ sz then newL m (a ++ c) st else .no := by simp only [binD, lstOf]
theorem b_mulL (m a j) : binD .mul m (.lst a) (.int j) st = if (decide (-(2 ^ 63) ≤ j) && decide (j < 2 ^ 63) && decide (a.length * j.toNat ≤ sz)) = true then newL m (List.replicate j.toNat a).flatten st else .no := by simp only [binD, lstOf]
theorem mulk_r (i j : Int) (h : (decide (j.natAbs < 2 ^ 64)) = true) : mulOk i j = true := by simp [mulOk, h]
theorem c_lt (i j) : cmpD .lt (.int i) (.int j) st = some (decide (i < j)) := rfl
theorem c_le (i j) : cmpD .le (.int i) (.int j) st = some (decide (i ≤ j)) := rfl
theorem c_gt (i j) : cmpD .gt (.int i) (.int j) st = some (decide (j < i)) := rfl
theorem c_ge (i j) : cmpD .ge (.int i) (.int j) st = some (decide (j ≤ i)) := rfl
theorem c_eq (i j) : cmpD .eq (.int i) (.int j) st = some (decide (i = j)) := by simp only [cmpD, eqD_int]
theorem c_ne (i j) : cmpD .ne (.int i) (.int j) st = some (!decide (i = j)) := by simp only [cmpD, eqD_int, Option.map_some]
theorem c_isN (x) : cmpD .isN x .non st = some (isNon x) := rfl
theorem c_notN (x) : cmpD .notN x .non st = some (!isNon x) := rfl
theorem c_isB (a b) : cmpD .isN (.bl a) (.bl b) st = some (decide (a = b)) := rfl
theorem c_notB (a b) : cmpD .notN (.bl a) (.bl b) st = some (!decide (a = b)) := rfl
theorem newL_f (xs) : newL false xs st = .ok (.lst xs) st := rfl
theorem newL_t (xs) : newL true xs st = .ok (.ref st.length) (st ++ [.lst xs]) := rfl
theorem t_len (x) : bltD .len [x] st = lenD x st := rfl
theorem t_sum (x) : bltD .sum [x] st = sumD x st := rfl
theorem t_any (x) : bltD .any [x] st = anyD x st := rfl
theorem t_all (x) : bltD .all [x] st = allD x st := rfl
theorem t_abs (i) : bltD .abs [.int i] st = .ok (.int (if i < 0 then -i else i)) st := rfl
theorem t_min (i j) : bltD .min2 [.int i, .int j] st = .ok (.int (if j < i then j else i)) st := rfl
theorem t_max (i j) : bltD .max2 [.int i, .int j] st = .ok (.int (if j > i then j else i)) st := rfl
theorem t_max1 (x) : bltD .max1 [x] st = bestD (fun i j => decide (i > j)) x st := rfl
theorem t_min1 (x) : bltD .min1 [x] st = bestD (fun i j => decide (i < j)) x st := rfl
theorem t_tuple (x) : bltD .tuple [x] st = tupD x st := rfl
theorem t_list (x) : bltD .list [x] st = lstD x st := rfl
theorem t_int (i) : bltD .int [.int i] st = .ok (.int i) st := rfl
theorem t_str (x) : bltD .str [x] st = strD x st := rfl
theorem st_str (z) : strD (.str z) st = .ok (.str z) st := rfl
theorem st_int (i) : strD (.int i) st = reprD (.int i) st := rfl
theorem st_tup (i) : strD (.tup i) st = reprD (.tup i) st := rfl
theorem t_repr (x) : bltD .repr [x] st = reprD x st := rfl
theorem len_tup (xs) : lenD (.tup xs) st = .ok (.int xs.length) st := rfl
theorem len_lst (xs) : lenD (.lst xs) st = .ok (.int xs.length) st := rfl
theorem len_rd (xs) : lenD (.rd xs) st = .ok (.int xs.length) st := rfl
theorem len_ct (xs) : lenD (.ct xs) st = .ok (.int xs.length) st := rfl
theorem tup_lst (xs) : tupD (.lst xs) st = .ok (.tup xs) st := rfl
theorem tup_tup (xs) : tupD (.tup xs) st = .ok (.tup xs) st := rfl
theorem tup_ct (xs) : tupD (.ct xs) st = .ok (.ct xs) st := rfl
theorem lst_lst (xs) : lstD (.lst xs) st = .ok (.lst xs) st := rfl
theorem lst_tup (xs) : lstD (.tup xs) st = .ok (.lst xs) st := rfl
theorem sum_ints (xs : List Int) : sumD (.lst (xs.map .int)) st = .ok (.int xs.sum) st := by simp [sumD, lstF, lstOf, asI]
theorem sum_ints' {α : Type} (p : α → Int) (xs : List α) : sumD (.lst (xs.map fun x => .int (p x))) st = .ok (.int (xs.map p).sum) st := by simp only [sumD, lstF, lstOf]; rw [asI']
theorem all_bl {α : Type} (p : α → Bool) (xs : List α) : allD (.lst (xs.map fun x => .bl (p x))) st = .ok (.bl (xs.all p)) st := by
  simp only [allD, lstF, lstOf]
  rw [asB']
  simp [List.all_map]
theorem any_bl {α : Type} (p : α → Bool) (xs : List α) : anyD (.lst (xs.map fun x => .bl (p x))) st = .ok (.bl (xs.any p)) st := by
  simp only [anyD, lstF, lstOf]
  rw [asB']
  simp [List.any_map]
theorem w_tup (xs) : walkSeq (.tup xs) st = .ok ⟨xs, []⟩ st := rfl
theorem w_lst (xs) : walkSeq (.lst xs) st = .ok ⟨xs, []⟩ st := rfl
theorem w_rd (xs) : walkSeq (.rd xs) st = .ok ⟨xs, []⟩ st := rfl
theorem w_ct (xs) : walkSeq (.ct xs) st = .ok ⟨xs, []⟩ st := rfl
theorem we_tup (xs) : walkEnm (.tup xs) st = .ok ⟨enmL 0 xs, []⟩ st := rfl
theorem we_lst (xs) : walkEnm (.lst xs) st = .ok ⟨enmL 0 xs, []⟩ st := rfl
theorem we_ct (xs) : walkEnm (.ct xs) st = .ok ⟨enmL 0 xs, []⟩ st := rfl
theorem wz_tl (xs ys) : walkZip (.tup xs) (.lst ys) st = .ok ⟨zip2 xs ys, []⟩ st := rfl
theorem wz_ll (xs ys) : walkZip (.lst xs) (.lst ys) st = .ok ⟨zip2 xs ys, []⟩ st := rfl
theorem wz_tt (xs ys) : walkZip (.tup xs) (.tup ys) st = .ok ⟨zip2 xs ys, []⟩ st := rfl
theorem w_rng1 (j : Int) (h : small j = true) : walkRng1 (.int j) st = .ok ⟨rngL 0 j.toNat, []⟩ st := by simp [walkRng1, h]
theorem w_rng2 (i j : Int) (h : small i = true) (h2 : small j = true) : walkRng2 (.int i) (.int j) st = .ok ⟨rngL i (j - i).toNat, []⟩ st := by simp [walkRng2, h, h2]
theorem r_tup (xs i) : getR (.tup xs) (.int i) st = optR (L2.atI xs i) st := by simp only [getR, getD, seqOf, lstOf]; cases L2.atI xs i <;> rfl
theorem r_lst (xs i) : getR (.lst xs) (.int i) st = optR (L2.atI xs i) st := by simp only [getR, getD, seqOf, lstOf]; cases L2.atI xs i <;> rfl
theorem r_rd (xs i) : getR (.rd xs) (.int i) st = optR (L2.atI xs i) st := by simp only [getR, getD, seqOf, lstOf]; cases L2.atI xs i <;> rfl
theorem r_ct (xs i) : getR (.ct xs) (.int i) st = optR (L2.atI xs i) st := by simp only [getR, getD, seqOf, lstOf]; cases L2.atI xs i <;> rfl
theorem cut_tup (xs l h) : cutR (.tup xs) l h st = .ok (.tup (cut xs l h)) st := rfl
theorem cut_lst (xs l h) : cutR (.lst xs) l h st = .ok (.lst (cut xs l h)) st := rfl
theorem cut_rd (xs l h) : cutR (.rd xs) l h st = .ok (.lst (cut xs l h)) st := rfl
theorem rev_tup (xs) : revD (.tup xs) st = .ok (.tup xs.reverse) st := rfl
theorem tr_bl (t) : truth st (.bl t) = some t := rfl
theorem tr_int (i) : truth st (.int i) = some (i != 0) := rfl
theorem tr_tup (xs) : truth st (.tup xs) = some (!xs.isEmpty) := rfl
theorem tr_lst (xs) : truth st (.lst xs) = some (!xs.isEmpty) := rfl
end


-- references
def refL (o : Option Ob) : Option (List D) := match o with
  | some (.lst xs) => some xs
  | _ => none
theorem refL_lst (xs) : refL (some (.lst xs)) = some xs := rfl
def getO (o : Option Ob) (i : D) (st : Stt) : R D := match o with
  | some (.lst xs) => (match i with
    | .int k => optR (L2.atI xs k) st
    | _ => .no)
  | some (.dK ks vs) => optR ((asKey i).bind fun k => lookV k ks vs) st
  | some (.dT ks vs) => optR ((keyT i).bind fun k => lookV k ks vs) st
  | none => .no
theorem getO_lst (xs i st) : getO (some (.lst xs)) (.int i) st = optR (L2.atI xs i) st := rfl
theorem getO_dK (ks vs i st) : getO (some (.dK ks vs)) i st = optR ((asKey i).bind fun k => lookV k ks vs) st := rfl
theorem getO_dT (ks vs i st) : getO (some (.dT ks vs)) i st = optR ((keyT i).bind fun k => lookV k ks vs) st := rfl
theorem r_ref (n i st) : getR (.ref n) i st = getO st[n]? i st := by
  cases h : st[n]? with
  | none => simp [getR, getD, seqOf, dicAt, dicOf, h, getO]
  | some o =>
    cases o with
    | lst xs =>
      cases i <;> simp [getR, getD, seqOf, h, getO]
      cases L2.atI xs _ <;> rfl
    | dK ks vs =>
      simp only [getR, getD, seqOf, dicAt, dicOf, h, getO]
      cases asKey i with
      | none => rfl
      | some k => simp; cases lookV k ks vs <;> rfl
    | dT ks vs =>
      simp only [getR, getD, seqOf, dicAt, dicOf, h, getO]
      cases keyT i with
      | none => rfl
      | some k => simp; cases lookV k ks vs <;> rfl
theorem lstOf_ref (n st) : lstOf st (.ref n) = refL st[n]? := by
  cases h : st[n]? with
  | none => simp [lstOf, h, refL]
  | some o => cases o <;> simp [lstOf, h, refL]
theorem seqOf_ref (n st) : seqOf st (.ref n) = refL st[n]? := by
  cases h : st[n]? with
  | none => simp [seqOf, h, refL]
  | some o => cases o <;> simp [seqOf, h, refL]
def k_len (n : Nat) (st : Stt) : Option (List D) → R D
  | some xs => .ok (.int xs.length) st
  | none => .no
theorem k_len_e (n : Nat) (st : Stt) (xs) : k_len n st (some xs) = .ok (.int xs.length) st := rfl
theorem len_ref (n : Nat) (st : Stt) : lenD (.ref n) st = k_len n st (refL st[n]?) := by
  simp only [lenD, seqOf_ref]
  cases refL st[n]? <;> rfl
def k_tup (n : Nat) (st : Stt) : Option (List D) → R D
  | some xs => .ok (.tup xs) st
  | none => .no
theorem k_tup_e (n : Nat) (st : Stt) (xs) : k_tup n st (some xs) = .ok (.tup xs) st := rfl
theorem tup_ref (n : Nat) (st : Stt) : tupD (.ref n) st = k_tup n st (refL st[n]?) := by
  simp only [tupD, lstOf_ref]
  cases refL st[n]? <;> rfl
def k_lst (n : Nat) (st : Stt) : Option (List D) → R D
  | some xs => .ok (.lst xs) st
  | none => .no
theorem k_lst_e (n : Nat) (st : Stt) (xs) : k_lst n st (some xs) = .ok (.lst xs) st := rfl
theorem lst_ref (n : Nat) (st : Stt) : lstD (.ref n) st = k_lst n st (refL st[n]?) := by
  simp only [lstD, seqOf_ref, newL]
  cases refL st[n]? <;> rfl
def k_w (n : Nat) (st : Stt) : Option (List D) → R Wk
  | some xs => .ok ⟨xs, [(.ref n, xs)]⟩ st
  | none => .no
theorem k_w_e (n : Nat) (st : Stt) (xs) : k_w n st (some xs) = .ok ⟨xs, [(.ref n, xs)]⟩ st := rfl
theorem w_ref (n : Nat) (st : Stt) : walkSeq (.ref n) st = k_w n st (refL st[n]?) := by
  simp only [walkSeq, seqOf_ref]
  cases refL st[n]? <;> rfl
def k_we (n : Nat) (st : Stt) : Option (List D) → R Wk
  | some xs => .ok ⟨enmL 0 xs, [(.ref n, xs)]⟩ st
  | none => .no
theorem k_we_e (n : Nat) (st : Stt) (xs) : k_we n st (some xs) = .ok ⟨enmL 0 xs, [(.ref n, xs)]⟩ st := rfl
theorem we_ref (n : Nat) (st : Stt) : walkEnm (.ref n) st = k_we n st (refL st[n]?) := by
  simp only [walkEnm, seqOf_ref]
  cases refL st[n]? <;> rfl
def k_cut (n : Nat) (l h : Option Int) (st : Stt) : Option (List D) → R D
  | some xs => .ok (.lst (cut xs l h)) st
  | none => .no
theorem k_cut_e (n : Nat) (l h : Option Int) (st : Stt) (xs) : k_cut n l h st (some xs) = .ok (.lst (cut xs l h)) st := rfl
theorem cut_ref (n : Nat) (l h : Option Int) (st : Stt) : cutR (.ref n) l h st = k_cut n l h st (refL st[n]?) := by
  simp only [cutR, lstOf_ref]
  cases refL st[n]? <;> rfl
def k_tr : Option (List D) → Option Bool
  | some xs => some (!xs.isEmpty)
  | none => none
theorem k_tr_e (xs) : k_tr (some xs) = some (!xs.isEmpty) := rfl
theorem tr_ref (n st) : truth st (.ref n) = k_tr (refL st[n]?) := by
  cases h : st[n]? with
  | none => simp [truth, h, refL, k_tr]
  | some o => cases o <;> simp [truth, h, refL, k_tr]
theorem still_ref (n ds r st) : stills st ((.ref n, ds) :: r) = ((match refL st[n]? with
    | some ys => eqbL ys ds
    | none => false) && stills st r) := by simp only [stills, seqOf_ref] <;> rfl
def sK2 (n : Nat) (st : Stt) : Option Ob → Option Stt
  | some o => some (st.set n o)
  | none => none
theorem sK2_e (n st o) : sK2 n st (some o) = some (st.set n o) := rfl
def sK1 (n : Nat) (i v : D) (st : Stt) : Option Ob → Option Stt
  | some o => sK2 n st (setOb o i v)
  | none => none
theorem sK1_e (n i v st o) : sK1 n i v st (some o) = sK2 n st (setOb o i v) := rfl
theorem s_ref (b n i v st) : setD b (.ref n) i v st = if (decide (b ≤ n) || v.lt 0) = true then sK1 n i v st st[n]? else none := by
  simp only [setD]
  congr 1
  cases st[n]? with
  | none => rfl
  | some o => simp [sK1]; cases setOb o i v <;> rfl
def soK (xs : List D) (v : D) : Option Nat → Option Ob
  | some j => some (.lst (xs.set j v))
  | none => none
theorem soK_e (xs v j) : soK xs v (some j) = some (.lst (xs.set j v)) := rfl
theorem so_lst (xs k v) : setOb (.lst xs) (.int k) v = soK xs v (L2.ixN xs.length k) := by
  simp only [setOb]
  cases L2.ixN xs.length k <;> rfl
def soD (ks : List Key) (vs : List D) (v : D) : Option Key → Option Ob
  | some k => if ks.length < sz then some (.dK (putV k v ks vs).1 (putV k v ks vs).2) else none
  | none => none
theorem soD_e (ks vs v k) : soD ks vs v (some k) = if ks.length < sz then some (.dK (putV k v ks vs).1 (putV k v ks vs).2) else none := rfl
theorem so_dK (ks vs k v) : setOb (.dK ks vs) k v = soD ks vs v (asKey k) := by
  simp only [setOb]
  cases asKey k <;> rfl
def soT (ks : List (List Key)) (vs : List D) (v : D) : Option (List Key) → Option Ob
  | some k => if ks.length < sz then some (.dT (putV k v ks vs).1 (putV k v ks vs).2) else none
  | none => none
theorem soT_e (ks vs v k) : soT ks vs v (some k) = if ks.length < sz then some (.dT (putV k v ks vs).1 (putV k v ks vs).2) else none := rfl
theorem so_dT (ks vs k v) : setOb (.dT ks vs) k v = soT ks vs v (keyT k) := by
  simp only [setOb]
  cases keyT k <;> rfl
def k_ap (n : Nat) (v : D) (st : Stt) : Option (List D) → R D
  | some ys => if ys.length < sz then .ok .non (st.set n (.lst (ys ++ [v]))) else .no
  | none => .no
theorem k_ap_e (n v st ys) : k_ap n v st (some ys) = if ys.length < sz then .ok .non (st.set n (.lst (ys ++ [v]))) else .no := rfl
theorem a_ref (b n v st) : appD b (.ref n) v st = if (decide (b ≤ n) || v.lt 0) = true then k_ap n v st (refL st[n]?) else .no := by
  simp only [appD]
  congr 1
  cases h : st[n]? with
  | none => rfl
  | some o =>
    cases o with
    | lst ys =>
      simp only [Option.bind_some, appOb, refL, k_ap]
      by_cases h : ys.length < sz <;> simp [h]
    | _ => rfl
def k_ex2 (b n : Nat) (xs : List D) (st : Stt) : Option (List D) → R D
  | some zs => if ((decide (b ≤ n) || ltL 0 zs) && decide (xs.length + zs.length ≤ sz)) = true then .ok .non (st.set n (.lst (xs ++ zs))) else .no
  | none => .no
theorem k_ex2_e (b n xs st zs) : k_ex2 b n xs st (some zs) = if ((decide (b ≤ n) || ltL 0 zs) && decide (xs.length + zs.length ≤ sz)) = true then .ok .non (st.set n (.lst (xs ++ zs))) else .no := rfl
def k_ex (b n m : Nat) (st : Stt) : Option (List D) → R D
  | some xs => k_ex2 b n xs st (refL st[m]?)
  | none => .no
theorem k_ex_e (b n m st xs) : k_ex b n m st (some xs) = k_ex2 b n xs st (refL st[m]?) := rfl
theorem ex_ref (b n m st) : extD b (.ref n) (.ref m) st = k_ex b n m st (refL st[n]?) := by
  unfold extD
  cases h : st[n]? with
  | none => simp [h, refL, k_ex]
  | some o =>
    cases h2 : st[m]? with
    | none => cases o <;> simp [h, h2, refL, k_ex, k_ex2]
    | some o2 => cases o <;> cases o2 <;> simp [h, h2, refL, k_ex, k_ex2]
def k_po2 (n : Nat) (ys : List D) (st : Stt) : Option D → R D
  | some y => .ok y (st.set n (.lst ys.dropLast))
  | none => .no
theorem k_po2_e (n ys st y) : k_po2 n ys st (some y) = .ok y (st.set n (.lst ys.dropLast)) := rfl
def k_po (n : Nat) (st : Stt) : Option (List D) → R D
  | some ys => k_po2 n ys st ys.getLast?
  | none => .no
theorem k_po_e (n st ys) : k_po n st (some ys) = k_po2 n ys st ys.getLast? := rfl
theorem po_ref (n st) : popD (.ref n) st = k_po n st (refL st[n]?) := by
  simp only [popD]
  cases h : st[n]? with
  | none => rfl
  | some o =>
    cases o with
    | lst ys =>
      simp only [Option.bind_some, popOb, refL, k_po]
      cases ys.getLast? <;> rfl
    | _ => rfl
theorem ixN_lit (m n : Nat) : L2.ixN m (no_index (OfNat.ofNat n : Int)) = if (OfNat.ofNat n : Nat) < m then some (OfNat.ofNat n) else none := by
  show L2.ixN m ((n : Nat) : Int) = if n < m then some n else none
  unfold L2.ixN
  rw [if_pos (by omega)]
  by_cases h : n < m
  · rw [if_pos (by omega)]; simp [h]
  · rw [if_neg (by omega)]; simp [h]
theorem atI_lit {α : Type} (xs : List α) (n : Nat) : L2.atI xs (no_index (OfNat.ofNat n : Int)) = xs[(OfNat.ofNat n : Nat)]? := by
  unfold L2.atI
  rw [ixN_lit]
  show (if n < xs.length then some n else none).bind _ = xs[n]?
  by_cases h : n < xs.length
  · simp [h]
  · simp [h]
theorem atI_nat {α : Type} (xs : List α) (n : Nat) : L2.atI xs (n : Int) = xs[n]? := by
  unfold L2.atI L2.ixN
  rw [if_pos (by omega)]
  by_cases h : n < xs.length
  · rw [if_pos (by omega)]; simp
  · rw [if_neg (by omega)]; simp [Nat.le_of_not_lt h]
theorem atI_neg1 {α : Type} (xs : List α) : L2.atI xs (-1) = xs.getLast? := by
  unfold L2.atI L2.ixN
  rw [if_neg (by omega)]
  cases xs with
  | nil => rfl
  | cons x xs =>
    rw [if_pos (by simp; omega), List.getLast?_eq_getElem?]
    have : ((-1 : Int) + ((x :: xs).length : Int)).toNat = (x :: xs).length - 1 := by simp; omega
    simp only [Option.bind_some]
    rw [this]
end Z
end Y
set_option maxHeartbeats 0
namespace LW
open PySem Y

def cv_SUMMANDS : D := (.cdi [2, 3, 4, 5] [(.ct [(.ct [])]), (.ct [(.ct []), (.ct []), (.ct [(.ct [(.int 0), (.int 1)])])]), (.ct [(.ct []), (.ct []), (.ct []), (.ct [(.ct [(.int 0), (.int 1)])]), (.ct [(.ct [(.int 1), (.int 2)])]), (.ct [(.ct [(.int 0), (.int 4)]), (.ct [(.int 3), (.int 2)])])]), (.ct [(.ct []), (.ct []), (.ct []), (.ct []), (.ct [(.ct [(.int 0), (.int 1)])]), (.ct [(.ct [(.int 1), (.int 2)])]), (.ct [(.ct [(.int 2), (.int 3)])]), (.ct [(.ct [(.int 0), (.int 5)]), (.ct [(.int 4), (.int 2)])]), (.ct [(.ct [(.int 1), (.int 6)]), (.ct [(.int 5), (.int 3)])]), (.ct [(.ct [(.int 0), (.int 8)]), (.ct [(.int 4), (.int 6)]), (.ct [(.int 7), (.int 3)])])])])
def glo : Nat → Option D
  | 0 => some cv_SUMMANDS
  | _ => none
def ir_is_integer : ISs := (.cons (.ret (.and (.isi "int" (.var 0)) (.not (.isi "bool" (.var 0))))) .nil)
def fd_is_integer : Fd := ⟨1, 1, 0, ir_is_integer⟩
def ir_is_natural : ISs := (.cons (.ret (.and (.call 0 (.cons (.var 0) .nil) []) (.cmp .ge (.var 0) (.var 1)))) .nil)
def fd_is_natural : Fd := ⟨2, 2, 0, ir_is_natural⟩
def ir_are_integers : ISs := (.cons (.ite (.or (.not (.val (.isi "tuple" (.var 0)))) (.cp .ne (.blt .len (.cons (.var 0) .nil)) (.var 1))) (.cons (.ret (.cst (.bl false))) .nil) .nil) (.cons (.ret (.blt .all (.cons (.lc false (.call 0 (.cons (.var 2) .nil) []) (.nm 2) (.seq (.var 0)) .non [2]) .nil))) .nil))
def fd_are_integers : Fd := ⟨2, 3, 0, ir_are_integers⟩
def ir_are_parts : ISs := (.cons (.ret (.and (.isi "tuple" (.var 0)) (.cmp2 .le .le (.var 1) (.blt .len (.cons (.var 0) .nil)) (.var 2)))) .nil)
def fd_are_parts : Fd := ⟨3, 3, 0, ir_are_parts⟩
def ir_check_between : ISs := (.cons (.ite (.or (.not (.val (.call 1 (.cons (.var 0) (.cons (.var 1) .nil)) []))) (.cp .gt (.var 0) (.var 2))) (.cons (.raise 2 (.var 0)) .nil) .nil) .nil)
def fd_check_between : Fd := ⟨3, 3, 0, ir_check_between⟩
def ir_is_space : ISs := (.cons (.ite (.not (.val (.call 3 (.cons (.var 0) (.cons (.cst (.int 1)) (.cons (.cst (.int 3)) .nil))) []))) (.cons (.ret (.cst (.bl false))) .nil) .nil) (.cons (.ite (.not (.val (.blt .all (.cons (.lc false (.and (.call 1 (.cons (.var 1) (.cons (.cst (.int 2)) .nil)) []) (.cmp .le (.var 1) (.cst (.int 5)))) (.nm 1) (.seq (.var 0)) .non [1]) .nil)))) (.cons (.ret (.cst (.bl false))) .nil) .nil) (.cons (.ret (.cmp .le (.blt .sum (.cons (.lc false (.blt .len (.cons (.ix (.glo 0) (.var 1)) .nil)) (.nm 1) (.seq (.var 0)) .non [1]) .nil)) (.cst (.int 12)))) .nil)))
def fd_is_space : Fd := ⟨1, 2, 0, ir_is_space⟩
def ir_check_space : ISs := (.cons (.ite (.not (.val (.call 5 (.cons (.var 0) .nil) []))) (.cons (.raise 0 (.var 0)) .nil) .nil) .nil)
def fd_check_space : Fd := ⟨1, 1, 0, ir_check_space⟩
def ir_width_in : ISs := (.cons (.ret (.blt .sum (.cons (.lc false (.blt .len (.cons (.ix (.glo 0) (.var 1)) .nil)) (.nm 1) (.seq (.var 0)) .non [1]) .nil))) .nil)
def fd_width_in : Fd := ⟨1, 2, 0, ir_width_in⟩
def ir_is_element_in : ISs := (.cons (.ret (.call 2 (.cons (.var 1) (.cons (.call 7 (.cons (.var 0) .nil) []) .nil)) [])) .nil)
def fd_is_element_in : Fd := ⟨2, 2, 0, ir_is_element_in⟩
def ir_identity_in : ISs := (.cons (.ret (.bin .mul false (.tup (.cons (.cst (.int 0)) .nil)) (.call 7 (.cons (.var 0) .nil) []))) .nil)
def fd_identity_in : Fd := ⟨1, 1, 0, ir_identity_in⟩
def ir_product_in_6 : ISs := (.cons (.asg (.nm 8) (.bin .add false (.var 8) (.bin .mul false (.ix (.var 1) (.bin .add false (.var 4) (.var 9))) (.ix (.var 2) (.bin .add false (.var 4) (.var 10)))))) .nil)
def ir_product_in_4 : ISs := (.cons (.asg (.nm 8) (.bin .add false (.ix (.var 1) (.bin .add false (.var 4) (.var 6))) (.ix (.var 2) (.bin .add false (.var 4) (.var 6))))) (.cons (.for (.tp (.cons (.nm 9) (.cons (.nm 10) .nil))) (.seq (.var 7)) ir_product_in_6) (.cons (.expr (.app (.var 3) (.var 8))) .nil)))
def ir_product_in_3 : ISs := (.cons (.for (.tp (.cons (.nm 6) (.cons (.nm 7) .nil))) (.enm (.ix (.glo 0) (.var 5))) ir_product_in_4) (.cons (.asg (.nm 4) (.bin .add false (.var 4) (.blt .len (.cons (.ix (.glo 0) (.var 5)) .nil)))) .nil))
def ir_product_in : ISs := (.cons (.asg (.nm 3) (.lst true .nil)) (.cons (.asg (.nm 4) (.cst (.int 0))) (.cons (.for (.nm 5) (.seq (.var 0)) ir_product_in_3) (.cons (.ret (.blt .tuple (.cons (.var 3) .nil))) .nil))))
def fd_product_in : Fd := ⟨3, 11, 0, ir_product_in⟩
def ir_inverse_in_6 : ISs := (.cons (.asg (.nm 7) (.bin .add false (.var 7) (.bin .mul false (.ix (.var 1) (.bin .add false (.var 3) (.var 8))) (.ix (.var 2) (.bin .add false (.var 3) (.var 9)))))) .nil)
def ir_inverse_in_4 : ISs := (.cons (.asg (.nm 7) (.ix (.var 1) (.bin .add false (.var 3) (.var 5)))) (.cons (.for (.tp (.cons (.nm 8) (.cons (.nm 9) .nil))) (.seq (.var 6)) ir_inverse_in_6) (.cons (.expr (.app (.var 2) (.neg (.var 7)))) .nil)))
def ir_inverse_in_3 : ISs := (.cons (.for (.tp (.cons (.nm 5) (.cons (.nm 6) .nil))) (.enm (.ix (.glo 0) (.var 4))) ir_inverse_in_4) (.cons (.asg (.nm 3) (.bin .add false (.var 3) (.blt .len (.cons (.ix (.glo 0) (.var 4)) .nil)))) .nil))
def ir_inverse_in : ISs := (.cons (.asg (.nm 2) (.lst true .nil)) (.cons (.asg (.nm 3) (.cst (.int 0))) (.cons (.for (.nm 4) (.seq (.var 0)) ir_inverse_in_3) (.cons (.ret (.blt .tuple (.cons (.var 2) .nil))) .nil))))
def fd_inverse_in : Fd := ⟨2, 10, 0, ir_inverse_in⟩
def ir_check_word : ISs := (.cons (.ite (.or (.not (.val (.isi "tuple" (.var 0)))) (.not (.val (.call 2 (.cons (.var 0) (.cons (.blt .len (.cons (.var 0) .nil)) .nil)) [])))) (.cons (.raise 3 (.var 0)) .nil) .nil) (.cons (.ite (.not (.val (.blt .all (.cons (.lc false (.and (.cmp2 .le .le (.neg (.cst (.int 3))) (.var 1) (.cst (.int 3))) (.cmp .ne (.var 1) (.cst (.int 0)))) (.nm 1) (.seq (.var 0)) .non [1]) .nil)))) (.cons (.raise 3 (.var 0)) .nil) .nil) .nil))
def fd_check_word : Fd := ⟨1, 2, 0, ir_check_word⟩
def ir_word_in_2 : ISs := (.cons (.asg (.nm 5) (.ix (.var 1) (.bin .sub false (.blt .abs (.cons (.var 4) .nil)) (.cst (.int 1))))) (.cons (.asg (.nm 3) (.call 10 (.cons (.var 0) (.cons (.var 3) (.cons (.ife (.cp .gt (.var 4) (.cst (.int 0))) (.var 5) (.call 11 (.cons (.var 0) (.cons (.var 5) .nil)) [])) .nil))) [])) .nil))
def ir_word_in : ISs := (.cons (.asg (.nm 3) (.call 9 (.cons (.var 0) .nil) [])) (.cons (.for (.nm 4) (.seq (.var 2)) ir_word_in_2) (.cons (.ret (.var 3)) .nil)))
def fd_word_in : Fd := ⟨3, 6, 0, ir_word_in⟩
def ir_word_at : ISs := (.cons (.expr (.call 6 (.cons (.var 0) .nil) [])) (.cons (.ite (.or (.not (.val (.isi "tuple" (.var 1)))) (.or (.cp .ne (.blt .len (.cons (.var 1) .nil)) (.cst (.int 3))) (.not (.val (.blt .all (.cons (.lc false (.call 8 (.cons (.var 0) (.cons (.var 3) .nil)) []) (.nm 3) (.seq (.var 1)) .non [3]) .nil)))))) (.cons (.raise 1 (.var 1)) .nil) .nil) (.cons (.expr (.call 12 (.cons (.var 2) .nil) [])) (.cons (.ret (.call 13 (.cons (.var 0) (.cons (.var 1) (.cons (.var 2) .nil))) [])) .nil))))
def fd_word_at : Fd := ⟨3, 4, 0, ir_word_at⟩
def ir_left_out_2 : ISs := (.cons (.ite (.and (.val (.var 1)) (.cp .eq (.ix (.var 1) (.neg (.cst (.int 1)))) (.neg (.var 2)))) (.cons (.expr (.pop (.var 1))) .nil) (.cons (.expr (.app (.var 1) (.var 2))) .nil)) .nil)
def ir_left_out : ISs := (.cons (.asg (.nm 1) (.lst true .nil)) (.cons (.for (.nm 2) (.seq (.var 0)) ir_left_out_2) (.cons (.ret (.blt .tuple (.cons (.var 1) .nil))) .nil)))
def fd_left_out : Fd := ⟨1, 3, 0, ir_left_out⟩
def ir_leaving_out : ISs := (.cons (.expr (.call 12 (.cons (.var 0) .nil) [])) (.cons (.ret (.call 15 (.cons (.var 0) .nil) [])) .nil))
def fd_leaving_out : Fd := ⟨1, 1, 0, ir_leaving_out⟩
def ir_expansion_in_2 : ISs := (.cons (.asg (.nm 4) (.dic0 true true)) (.cons .never (.cons .never .nil)))
def ir_expansion_in : ISs := (.cons .never (.cons (.for (.nm 3) (.seq (.var 0)) ir_expansion_in_2) (.cons (.ret (.var 2)) .nil)))
def fd_expansion_in : Fd := ⟨2, 11, 0, ir_expansion_in⟩
def ir_expansion : ISs := (.cons (.expr (.call 12 (.cons (.var 0) .nil) [])) (.cons (.expr (.call 4 (.cons (.var 1) (.cons (.cst (.int 1)) (.cons (.cst (.int 4)) .nil))) [])) (.cons .never .nil)))
def fd_expansion : Fd := ⟨2, 4, 0, ir_expansion⟩
def ir_depth_of_3 : ISs := (.cons (.ite (.val (.blt .any (.cons (.lc false (.cmp .ne (.var 2) (.tup .nil)) (.nm 2) (.seq (.call 17 (.cons (.var 0) (.cons (.var 1) .nil)) [])) .non [2]) .nil))) (.cons (.ret (.var 1)) .nil) .nil) .nil)
def ir_depth_of : ISs := (.cons (.expr (.call 12 (.cons (.var 0) .nil) [])) (.cons (.asg (.nm 0) (.call 15 (.cons (.var 0) .nil) [])) (.cons (.for (.nm 1) (.rng2 (.cst (.int 1)) (.bin .add false (.blt .len (.cons (.var 0) .nil)) (.cst (.int 1)))) ir_depth_of_3) (.cons (.ret (.cst .non)) .nil))))
def fd_depth_of : Fd := ⟨1, 3, 0, ir_depth_of⟩
def ir_breaking_in : ISs := (.cons (.ret (.blt .tuple (.cons (.lc false (.blt .tuple (.cons (.lc false (.ife (.and (.cp .lt (.var 3) (.blt .len (.cons (.var 0) .nil))) (.cp .eq (.ix (.var 0) (.var 3)) (.var 2))) (.cst (.int 1)) (.cst (.int 0))) (.nm 3) (.rng1 (.call 7 (.cons (.tup (.cons (.var 1) .nil)) .nil) [])) .non [3]) .nil)) (.nm 2) (.seq (.tup (.cons (.cst (.int 1)) (.cons (.cst (.int 2)) (.cons (.cst (.int 3)) .nil))))) .non [2]) .nil))) .nil)
def fd_breaking_in : Fd := ⟨2, 4, 0, ir_breaking_in⟩
def ir_identity_for : ISs := (.cons (.expr (.call 12 (.cons (.var 0) .nil) [])) (.cons (.expr (.call 4 (.cons (.var 1) (.cons (.cst (.int 2)) (.cons (.cst (.int 5)) .nil))) [])) (.cons .never (.cons (.ite (.not (.val (.var 2))) (.cons (.ret (.tup (.cons (.cst (.str "always")) .nil))) .nil) .nil) (.cons (.ret (.tup (.cons (.cst (.str "breaks")) (.cons (.call 20 (.cons (.ix (.var 2) (.cst (.int 0))) (.cons (.var 1) .nil)) []) .nil)))) .nil)))))
def fd_identity_for : Fd := ⟨2, 4, 0, ir_identity_for⟩
def ir__law_begin : ISs := (.cons (.asg (.nm 1) (.lc false (.ife (.cp .ge (.var 2) (.cst (.int 0))) (.bin .mul false (.blt .int (.cons (.var 2) .nil)) (.cst (.int 2))) (.bin .sub false (.bin .mul false (.neg (.blt .int (.cons (.var 2) .nil))) (.cst (.int 2))) (.cst (.int 1)))) (.nm 2) (.seq (.sl (.var 0) .non (.som (.cst (.int 63))))) .non [2])) (.cons (.ret (.dic true [.inr "cells", .inr "at", .inr "left", .inr "count", .inr "sum"] (.cons (.var 1) (.cons (.cst (.int 0)) (.cons (.cst (.int 0)) (.cons (.cst (.int 0)) (.cons (.bin .mod false (.blt .int (.cons (.blt .sum (.cons (.var 1) .nil)) .nil)) (.cst (.int 1000003))) .nil))))))) .nil))
def fd__law_begin : Fd := ⟨1, 3, 1, ir__law_begin⟩
def ir__law_draw : ISs := (.cons (.asg (.ix (.var 0) (.cst (.str "count"))) (.bin .add false (.ix (.var 0) (.cst (.str "count"))) (.cst (.int 1)))) (.cons (.ite (.cp .lt (.ix (.var 0) (.cst (.str "left"))) (.var 1)) (.cons (.asg (.nm 3) (.bin .add false (.ix (.var 0) (.cst (.str "sum"))) (.ix (.var 0) (.cst (.str "count"))))) (.cons (.ite (.cp .lt (.ix (.var 0) (.cst (.str "at"))) (.blt .len (.cons (.ix (.var 0) (.cst (.str "cells"))) .nil))) (.cons (.asg (.nm 3) (.ix (.ix (.var 0) (.cst (.str "cells"))) (.ix (.var 0) (.cst (.str "at"))))) (.cons (.asg (.ix (.var 0) (.cst (.str "at"))) (.bin .add false (.ix (.var 0) (.cst (.str "at"))) (.cst (.int 1)))) .nil)) .nil) (.cons (.ite (.cp .lt (.var 3) (.bin .pow false (.cst (.int 10)) (.cst (.int 18)))) (.cons (.asg (.nm 4) (.bin .mod false (.blt .int (.cons (.bin .add false (.bin .add false (.bin .mul false (.var 3) (.cst (.int 48271))) (.bin .mul false (.ix (.var 0) (.cst (.str "count"))) (.cst (.int 69621)))) (.cst (.int 12345))) .nil)) (.cst (.int 2305843009213693951)))) (.cons (.asg (.nm 4) (.bin .mod false (.blt .int (.cons (.bin .add false (.bin .add false (.bin .mul false (.var 4) (.var 4)) (.var 3)) (.bin .mul false (.ix (.var 0) (.cst (.str "count"))) (.cst (.int 7919)))) .nil)) (.cst (.int 2305843009213693951)))) (.cons (.asg (.nm 3) (.bin .mod false (.blt .int (.cons (.bin .add false (.bin .add false (.bin .mul false (.bin .mul false (.var 4) (.var 4)) (.cst (.int 16807))) (.bin .mul false (.var 3) (.cst (.int 40014)))) (.cst (.int 1))) .nil)) (.cst (.int 2305843009213693951)))) .nil))) .nil) (.cons (.asg (.ix (.var 0) (.cst (.str "left"))) (.var 3)) .nil)))) .nil) (.cons (.asg (.nm 2) (.bin .mod false (.blt .int (.cons (.ix (.var 0) (.cst (.str "left"))) .nil)) (.var 1))) (.cons (.asg (.ix (.var 0) (.cst (.str "left"))) (.bin .fdiv false (.blt .int (.cons (.ix (.var 0) (.cst (.str "left"))) .nil)) (.var 1))) (.cons (.ret (.var 2)) .nil)))))
def fd__law_draw : Fd := ⟨2, 5, 0, ir__law_draw⟩
def ir__law_width : ISs := (.cons (.ret (.blt .sum (.cons (.lc false (.bin .fdiv false (.bin .mul false (.var 1) (.bin .sub false (.var 1) (.cst (.int 1)))) (.cst (.int 2))) (.nm 1) (.seq (.var 0)) .non [1]) .nil))) .nil)
def fd__law_width : Fd := ⟨1, 2, 0, ir__law_width⟩
def ir__law_space : ISs := (.cons (.asg (.nm 1) (.lst false (.cons (.tup (.cons (.cst (.int 3)) .nil)) (.cons (.tup (.cons (.cst (.int 4)) .nil)) (.cons (.tup (.cons (.cst (.int 2)) (.cons (.cst (.int 3)) .nil))) (.cons (.tup (.cons (.cst (.int 3)) (.cons (.cst (.int 2)) .nil))) (.cons (.tup (.cons (.cst (.int 3)) (.cons (.cst (.int 3)) .nil))) (.cons (.tup (.cons (.cst (.int 2)) (.cons (.cst (.int 2)) .nil))) (.cons (.tup (.cons (.cst (.int 4)) (.cons (.cst (.int 2)) .nil))) (.cons (.tup (.cons (.cst (.int 2)) .nil)) (.cons (.tup (.cons (.cst (.int 5)) .nil)) .nil))))))))))) (.cons (.ret (.ix (.var 1) (.call 23 (.cons (.var 0) (.cons (.cst (.int 9)) .nil)) []))) .nil))
def fd__law_space : Fd := ⟨1, 2, 0, ir__law_space⟩
def ir__law_entry : ISs := (.cons (.asg (.nm 2) (.ix (.lst false (.cons (.cst (.int 1)) (.cons (.blt .min2 (.cons (.cst (.int 3)) (.cons (.var 1) .nil))) (.cons (.var 1) .nil)))) (.call 23 (.cons (.var 0) (.cons (.cst (.int 3)) .nil)) []))) (.cons (.ret (.bin .sub false (.call 23 (.cons (.var 0) (.cons (.bin .add false (.bin .mul false (.cst (.int 2)) (.var 2)) (.cst (.int 1))) .nil)) []) (.var 2))) .nil))
def fd__law_entry : Fd := ⟨2, 3, 0, ir__law_entry⟩
def ir__law_element : ISs := (.cons (.asg (.nm 2) (.ife (.cp .mem (.cst (.int 5)) (.var 1)) (.cst (.int 2)) (.ife (.cp .mem (.cst (.int 4)) (.var 1)) (.cst (.int 5)) (.cst (.int 30))))) (.cons (.ret (.blt .tuple (.cons (.lc false (.call 26 (.cons (.var 0) (.cons (.var 2) .nil)) []) (.nm 3) (.rng1 (.call 24 (.cons (.var 1) .nil) [])) .non [3]) .nil))) .nil))
def fd__law_element : Fd := ⟨2, 4, 0, ir__law_element⟩
def ir__law_word : ISs := (.cons (.asg (.nm 2) (.lst false (.cons (.cst (.int 1)) (.cons (.neg (.cst (.int 1))) (.cons (.cst (.int 2)) (.cons (.neg (.cst (.int 2))) (.cons (.cst (.int 3)) (.cons (.neg (.cst (.int 3))) .nil)))))))) (.cons (.ret (.blt .tuple (.cons (.lc false (.ix (.var 2) (.call 23 (.cons (.var 0) (.cons (.cst (.int 6)) .nil)) [])) (.nm 3) (.rng1 (.call 23 (.cons (.var 0) (.cons (.bin .add false (.var 1) (.cst (.int 1))) .nil)) [])) .non [3]) .nil))) .nil))
def fd__law_word : Fd := ⟨2, 4, 0, ir__law_word⟩
def ir__law_bad_space : ISs := (.cons (.asg (.nm 1) (.lst false (.cons (.tup .nil) (.cons (.tup (.cons (.cst (.int 1)) .nil)) (.cons (.tup (.cons (.cst (.int 6)) .nil)) (.cons (.lst false (.cons (.cst (.int 3)) .nil)) (.cons (.cst (.int 3)) (.cons (.cst .non) (.cons (.cst (.str "3")) (.cons (.tup (.cons (.cst (.int 5)) (.cons (.cst (.int 5)) .nil))) (.cons (.tup (.cons (.cst (.int 3)) (.cons (.cst (.int 3)) (.cons (.cst (.int 3)) (.cons (.cst (.int 3)) .nil))))) (.cons (.tup (.cons (.cst (.bl true)) (.cons (.cst (.int 2)) .nil))) (.cons (.tup (.cons (.cst (.int 4)) (.cons (.cst (.int 4)) (.cons (.cst (.int 2)) .nil)))) (.cons (.tup (.cons (.cst (.int 3)) (.cons (.cst (.str "3")) .nil))) (.cons (.tup (.cons (.cst (.int 0)) .nil)) .nil))))))))))))))) (.cons (.ret (.ix (.var 1) (.call 23 (.cons (.var 0) (.cons (.cst (.int 13)) .nil)) []))) .nil))
def fd__law_bad_space : Fd := ⟨1, 2, 0, ir__law_bad_space⟩
def ir__law_bad_element : ISs := (.cons (.asg (.nm 2) (.call 23 (.cons (.var 0) (.cons (.blt .len (.cons (.var 1) .nil)) .nil)) [])) (.cons (.asg (.nm 3) (.ix (.lst false (.cons (.cst (.bl true)) (.cons (.cst .non) (.cons (.cst (.str "1")) (.cons (.tup (.cons (.cst (.int 1)) .nil)) (.cons (.lst false (.cons (.cst (.int 1)) .nil)) .nil)))))) (.call 23 (.cons (.var 0) (.cons (.cst (.int 5)) .nil)) []))) (.cons (.asg (.nm 4) (.lst false (.cons (.sl (.var 1) (.som (.cst (.int 1))) .non) (.cons (.bin .add false (.var 1) (.tup (.cons (.cst (.int 0)) .nil))) (.cons (.blt .list (.cons (.var 1) .nil)) (.cons (.cst .non) (.cons (.bin .add false (.bin .add false (.sl (.var 1) .non (.som (.var 2))) (.tup (.cons (.var 3) .nil))) (.sl (.var 1) (.som (.bin .add false (.var 2) (.cst (.int 1)))) .non)) (.cons (.blt .str (.cons (.var 1) .nil)) (.cons (.cst (.int 5)) (.cons (.tup (.cons (.var 1) .nil)) .nil)))))))))) (.cons (.ret (.ix (.var 4) (.call 23 (.cons (.var 0) (.cons (.cst (.int 8)) .nil)) []))) .nil))))
def fd__law_bad_element : Fd := ⟨2, 5, 0, ir__law_bad_element⟩
def ir__law_bad_word : ISs := (.cons (.asg (.nm 2) (.call 23 (.cons (.var 0) (.cons (.bin .add false (.blt .len (.cons (.var 1) .nil)) (.cst (.int 1))) .nil)) [])) (.cons (.asg (.nm 3) (.ix (.lst false (.cons (.cst (.int 0)) (.cons (.cst (.int 4)) (.cons (.neg (.cst (.int 4))) (.cons (.cst (.bl true)) (.cons (.cst .non) (.cons (.cst (.str "1")) (.cons (.tup (.cons (.cst (.int 1)) .nil)) (.cons (.lst false (.cons (.cst (.int 2)) .nil)) (.cons (.neg (.cst (.int 1000))) .nil)))))))))) (.call 23 (.cons (.var 0) (.cons (.cst (.int 9)) .nil)) []))) (.cons (.asg (.nm 4) (.lst false (.cons (.bin .add false (.bin .add false (.sl (.var 1) .non (.som (.var 2))) (.tup (.cons (.var 3) .nil))) (.sl (.var 1) (.som (.var 2)) .non)) (.cons (.blt .list (.cons (.var 1) .nil)) (.cons (.cst .non) (.cons (.cst (.str "12")) (.cons (.cst (.int 1)) (.cons (.tup (.cons (.var 1) .nil)) (.cons (.cst (.bl false)) .nil))))))))) (.cons (.ret (.ix (.var 4) (.call 23 (.cons (.var 0) (.cons (.cst (.int 7)) .nil)) []))) .nil))))
def fd__law_bad_word : Fd := ⟨2, 5, 0, ir__law_bad_word⟩
def ir__law_told : ISs := (.cons (.asg (.nm 5) (.cst .non)) (.cons (.tryv 6 5 4 [(0, .tag "space"), (1, .tag "elements"), (3, .tag "word"), (2, .tag "number")] (.cons (.ite (.cp .eq (.var 0) (.cst (.int 0))) (.cons (.asg (.nm 5) (.tup (.cons (.cst (.str "told")) (.cons (.call 14 (.cons (.var 4) (.cons (.cst .non) (.cons (.cst (.int 0)) .nil))) []) .nil)))) .nil) (.cons (.ite (.cp .eq (.var 0) (.cst (.int 1))) (.cons (.asg (.nm 5) (.tup (.cons (.cst (.str "told")) (.cons (.call 14 (.cons (.var 1) (.cons (.var 4) (.cons (.cst (.int 0)) .nil))) []) .nil)))) .nil) (.cons (.ite (.cp .eq (.var 0) (.cst (.int 2))) (.cons (.asg (.nm 5) (.tup (.cons (.cst (.str "told")) (.cons (.call 14 (.cons (.var 1) (.cons (.var 2) (.cons (.var 4) .nil))) []) .nil)))) .nil) (.cons (.ite (.cp .eq (.var 0) (.cst (.int 3))) (.cons (.asg (.nm 5) (.tup (.cons (.cst (.str "told")) (.cons (.call 16 (.cons (.var 4) .nil) []) .nil)))) .nil) (.cons (.ite (.cp .eq (.var 0) (.cst (.int 4))) (.cons (.asg (.nm 5) (.tup (.cons (.cst (.str "told")) (.cons (.call 18 (.cons (.var 4) (.cons (.cst (.int 0)) .nil)) []) .nil)))) .nil) (.cons (.ite (.cp .eq (.var 0) (.cst (.int 5))) (.cons (.asg (.nm 5) (.tup (.cons (.cst (.str "told")) (.cons (.call 18 (.cons (.var 3) (.cons (.var 4) .nil)) []) .nil)))) .nil) (.cons (.ite (.cp .eq (.var 0) (.cst (.int 6))) (.cons (.asg (.nm 5) (.tup (.cons (.cst (.str "told")) (.cons (.call 19 (.cons (.var 4) .nil) []) .nil)))) .nil) (.cons (.ite (.cp .eq (.var 0) (.cst (.int 7))) (.cons (.asg (.nm 5) (.tup (.cons (.cst (.str "told")) (.cons (.call 21 (.cons (.var 4) (.cons (.cst (.int 1)) .nil)) []) .nil)))) .nil) (.cons (.asg (.nm 5) (.tup (.cons (.cst (.str "told")) (.cons (.call 21 (.cons (.var 3) (.cons (.var 4) .nil)) []) .nil)))) .nil)) .nil)) .nil)) .nil)) .nil)) .nil)) .nil)) .nil)) .nil)) (.cons (.ret (.var 5)) .nil)))
def fd__law_told : Fd := ⟨5, 7, 0, ir__law_told⟩
def ir__law_bad : ISs := (.cons (.ite (.cp .eq (.var 1) (.cst (.str "space"))) (.cons (.ret (.call 29 (.cons (.var 0) .nil) [])) .nil) .nil) (.cons (.ite (.cp .eq (.var 1) (.cst (.str "elements"))) (.cons (.asg (.nm 6) (.call 23 (.cons (.var 0) (.cons (.cst (.int 3)) .nil)) [])) (.cons (.asg (.nm 7) (.bin .add false (.bin .add false (.sl (.var 3) .non (.som (.var 6))) (.tup (.cons (.call 30 (.cons (.var 0) (.cons (.ix (.var 3) (.var 6)) .nil)) []) .nil))) (.sl (.var 3) (.som (.bin .add false (.var 6) (.cst (.int 1)))) .non))) (.cons (.ret (.ix (.lst false (.cons (.sl (.var 3) (.som (.cst (.int 1))) .non) (.cons (.bin .add false (.var 3) (.sl (.var 3) .non (.som (.cst (.int 1))))) (.cons (.blt .list (.cons (.var 3) .nil)) (.cons (.cst .non) (.cons (.var 7) (.cons (.var 7) (.cons (.cst (.int 3)) .nil)))))))) (.call 23 (.cons (.var 0) (.cons (.cst (.int 7)) .nil)) []))) .nil))) .nil) (.cons (.ite (.cp .eq (.var 1) (.cst (.str "number"))) (.cons (.asg (.nm 8) (.ife (.cp .eq (.var 5) (.cst (.int 5))) (.lst false (.cons (.cst (.int 0)) (.cons (.cst (.int 5)) (.cons (.neg (.cst (.int 1))) (.cons (.cst (.int 1000)) .nil))))) (.lst false (.cons (.cst (.int 1)) (.cons (.cst (.int 6)) (.cons (.cst (.int 0)) (.cons (.neg (.cst (.int 3))) .nil))))))) (.cons (.ret (.ix (.bin .add false (.var 8) (.lst false (.cons (.cst (.bl true)) (.cons (.cst (.bl false)) (.cons (.cst .non) (.cons (.cst (.str "3")) (.cons (.tup (.cons (.cst (.int 2)) .nil)) (.cons (.lst false (.cons (.cst (.int 2)) .nil)) .nil)))))))) (.call 23 (.cons (.var 0) (.cons (.cst (.int 10)) .nil)) []))) .nil)) .nil) (.cons (.ret (.call 31 (.cons (.var 0) (.cons (.var 4) .nil)) [])) .nil))))
def fd__law_bad : Fd := ⟨6, 9, 0, ir__law_bad⟩
def ir_law_7 : ISs := (.cons (.asg (.nm 9) (.call 33 (.cons (.var 1) (.cons (.var 8) (.cons (.var 4) (.cons (.var 5) (.cons (.var 6) (.cons (.var 7) .nil)))))) [])) (.cons (.ite (.cp .ne (.blt .repr (.cons (.call 32 (.cons (.var 7) (.cons (.var 4) (.cons (.var 5) (.cons (.var 6) (.cons (.var 9) .nil))))) []) .nil)) (.blt .repr (.cons (.tup (.cons (.var 8) (.cons (.var 9) .nil))) .nil))) (.cons (.ret (.cst (.bl false))) .nil) .nil) .nil))
def ir_law_3 : ISs := (.cons (.asg (.nm 4) (.call 25 (.cons (.var 1) .nil) [])) (.cons (.asg (.nm 5) (.tup (.cons (.call 27 (.cons (.var 1) (.cons (.var 4) .nil)) []) (.cons (.call 27 (.cons (.var 1) (.cons (.var 4) .nil)) []) (.cons (.call 27 (.cons (.var 1) (.cons (.var 4) .nil)) []) .nil))))) (.cons (.asg (.nm 6) (.call 28 (.cons (.var 1) (.cons (.cst (.int 6)) .nil)) [])) (.cons (.for (.tp (.cons (.nm 7) (.cons (.nm 8) .nil))) (.enm (.var 2)) ir_law_7) .nil))))
def ir_law : ISs := (.cons (.asg (.nm 1) (.call 22 (.cons (.var 0) .nil) [])) (.cons (.asg (.nm 2) (.lst false (.cons (.cst (.str "space")) (.cons (.cst (.str "elements")) (.cons (.cst (.str "word")) (.cons (.cst (.str "word")) (.cons (.cst (.str "word")) (.cons (.cst (.str "number")) (.cons (.cst (.str "word")) (.cons (.cst (.str "word")) (.cons (.cst (.str "number")) .nil))))))))))) (.cons (.for (.nm 3) (.rng1 (.cst (.int 6))) ir_law_3) (.cons (.ret (.cst (.bl true))) .nil))))
def fd_law : Fd := ⟨1, 10, 0, ir_law⟩
def tbl : List Fd := fd_is_integer :: fd_is_natural :: fd_are_integers :: fd_are_parts :: fd_check_between :: fd_is_space :: fd_check_space :: fd_width_in :: fd_is_element_in :: fd_identity_in :: fd_product_in :: fd_inverse_in :: fd_check_word :: fd_word_in :: fd_word_at :: fd_left_out :: fd_leaving_out :: fd_expansion_in :: fd_expansion :: fd_depth_of :: fd_breaking_in :: fd_identity_for :: fd__law_begin :: fd__law_draw :: fd__law_width :: fd__law_space :: fd__law_entry :: fd__law_element :: fd__law_word :: fd__law_bad_space :: fd__law_bad_element :: fd__law_bad_word :: fd__law_told :: fd__law_bad :: fd_law :: []
theorem en_is_integer (w k : Nat) (a0 : D) (b : Nat) (st : Stt) : callF tbl glo w (k + 1) 0 [a0] b st = finO 0 st.length (exSs ⟨callF tbl glo w k, glo, w⟩ st.length ir_is_integer [some a0] st) := by kernel_rfl
theorem en_is_natural (w k : Nat) (a0 : D) (a1 : D) (b : Nat) (st : Stt) : callF tbl glo w (k + 1) 1 [a0, a1] b st = finO 0 st.length (exSs ⟨callF tbl glo w k, glo, w⟩ st.length ir_is_natural [some a0, some a1] st) := by kernel_rfl
theorem en_are_integers (w k : Nat) (a0 : D) (a1 : D) (b : Nat) (st : Stt) : callF tbl glo w (k + 1) 2 [a0, a1] b st = finO 0 st.length (exSs ⟨callF tbl glo w k, glo, w⟩ st.length ir_are_integers [some a0, some a1, none] st) := by kernel_rfl
theorem en_are_parts (w k : Nat) (a0 : D) (a1 : D) (a2 : D) (b : Nat) (st : Stt) : callF tbl glo w (k + 1) 3 [a0, a1, a2] b st = finO 0 st.length (exSs ⟨callF tbl glo w k, glo, w⟩ st.length ir_are_parts [some a0, some a1, some a2] st) := by kernel_rfl
theorem en_check_between (w k : Nat) (a0 : D) (a1 : D) (a2 : D) (b : Nat) (st : Stt) : callF tbl glo w (k + 1) 4 [a0, a1, a2] b st = finO 0 st.length (exSs ⟨callF tbl glo w k, glo, w⟩ st.length ir_check_between [some a0, some a1, some a2] st) := by kernel_rfl
theorem en_is_space (w k : Nat) (a0 : D) (b : Nat) (st : Stt) : callF tbl glo w (k + 1) 5 [a0] b st = finO 0 st.length (exSs ⟨callF tbl glo w k, glo, w⟩ st.length ir_is_space [some a0, none] st) := by kernel_rfl
theorem en_check_space (w k : Nat) (a0 : D) (b : Nat) (st : Stt) : callF tbl glo w (k + 1) 6 [a0] b st = finO 0 st.length (exSs ⟨callF tbl glo w k, glo, w⟩ st.length ir_check_space [some a0] st) := by kernel_rfl
theorem en_width_in (w k : Nat) (a0 : D) (b : Nat) (st : Stt) : callF tbl glo w (k + 1) 7 [a0] b st = finO 0 st.length (exSs ⟨callF tbl glo w k, glo, w⟩ st.length ir_width_in [some a0, none] st) := by kernel_rfl
theorem en_is_element_in (w k : Nat) (a0 : D) (a1 : D) (b : Nat) (st : Stt) : callF tbl glo w (k + 1) 8 [a0, a1] b st = finO 0 st.length (exSs ⟨callF tbl glo w k, glo, w⟩ st.length ir_is_element_in [some a0, some a1] st) := by kernel_rfl
theorem en_identity_in (w k : Nat) (a0 : D) (b : Nat) (st : Stt) : callF tbl glo w (k + 1) 9 [a0] b st = finO 0 st.length (exSs ⟨callF tbl glo w k, glo, w⟩ st.length ir_identity_in [some a0] st) := by kernel_rfl
theorem en_product_in (w k : Nat) (a0 : D) (a1 : D) (a2 : D) (b : Nat) (st : Stt) : callF tbl glo w (k + 1) 10 [a0, a1, a2] b st = finO 0 st.length (exSs ⟨callF tbl glo w k, glo, w⟩ st.length ir_product_in [some a0, some a1, some a2, none, none, none, none, none, none, none, none] st) := by kernel_rfl
theorem en_inverse_in (w k : Nat) (a0 : D) (a1 : D) (b : Nat) (st : Stt) : callF tbl glo w (k + 1) 11 [a0, a1] b st = finO 0 st.length (exSs ⟨callF tbl glo w k, glo, w⟩ st.length ir_inverse_in [some a0, some a1, none, none, none, none, none, none, none, none] st) := by kernel_rfl
theorem en_check_word (w k : Nat) (a0 : D) (b : Nat) (st : Stt) : callF tbl glo w (k + 1) 12 [a0] b st = finO 0 st.length (exSs ⟨callF tbl glo w k, glo, w⟩ st.length ir_check_word [some a0, none] st) := by kernel_rfl
theorem en_word_in (w k : Nat) (a0 : D) (a1 : D) (a2 : D) (b : Nat) (st : Stt) : callF tbl glo w (k + 1) 13 [a0, a1, a2] b st = finO 0 st.length (exSs ⟨callF tbl glo w k, glo, w⟩ st.length ir_word_in [some a0, some a1, some a2, none, none, none] st) := by kernel_rfl
theorem en_word_at (w k : Nat) (a0 : D) (a1 : D) (a2 : D) (b : Nat) (st : Stt) : callF tbl glo w (k + 1) 14 [a0, a1, a2] b st = finO 0 st.length (exSs ⟨callF tbl glo w k, glo, w⟩ st.length ir_word_at [some a0, some a1, some a2, none] st) := by kernel_rfl
theorem en_left_out (w k : Nat) (a0 : D) (b : Nat) (st : Stt) : callF tbl glo w (k + 1) 15 [a0] b st = finO 0 st.length (exSs ⟨callF tbl glo w k, glo, w⟩ st.length ir_left_out [some a0, none, none] st) := by kernel_rfl
theorem en_leaving_out (w k : Nat) (a0 : D) (b : Nat) (st : Stt) : callF tbl glo w (k + 1) 16 [a0] b st = finO 0 st.length (exSs ⟨callF tbl glo w k, glo, w⟩ st.length ir_leaving_out [some a0] st) := by kernel_rfl
theorem en_expansion_in (w k : Nat) (a0 : D) (a1 : D) (b : Nat) (st : Stt) : callF tbl glo w (k + 1) 17 [a0, a1] b st = finO 0 st.length (exSs ⟨callF tbl glo w k, glo, w⟩ st.length ir_expansion_in [some a0, some a1, none, none, none, none, none, none, none, none, none] st) := by kernel_rfl
theorem en_expansion (w k : Nat) (a0 : D) (a1 : D) (b : Nat) (st : Stt) : callF tbl glo w (k + 1) 18 [a0, a1] b st = finO 0 st.length (exSs ⟨callF tbl glo w k, glo, w⟩ st.length ir_expansion [some a0, some a1, none, none] st) := by kernel_rfl
theorem en_depth_of (w k : Nat) (a0 : D) (b : Nat) (st : Stt) : callF tbl glo w (k + 1) 19 [a0] b st = finO 0 st.length (exSs ⟨callF tbl glo w k, glo, w⟩ st.length ir_depth_of [some a0, none, none] st) := by kernel_rfl
theorem en_breaking_in (w k : Nat) (a0 : D) (a1 : D) (b : Nat) (st : Stt) : callF tbl glo w (k + 1) 20 [a0, a1] b st = finO 0 st.length (exSs ⟨callF tbl glo w k, glo, w⟩ st.length ir_breaking_in [some a0, some a1, none, none] st) := by kernel_rfl
theorem en_identity_for (w k : Nat) (a0 : D) (a1 : D) (b : Nat) (st : Stt) : callF tbl glo w (k + 1) 21 [a0, a1] b st = finO 0 st.length (exSs ⟨callF tbl glo w k, glo, w⟩ st.length ir_identity_for [some a0, some a1, none, none] st) := by kernel_rfl
theorem en__law_begin (w k : Nat) (a0 : D) (b : Nat) (st : Stt) : callF tbl glo w (k + 1) 22 [a0] b st = finO 1 st.length (exSs ⟨callF tbl glo w k, glo, w⟩ st.length ir__law_begin [some a0, none, none] st) := by kernel_rfl
theorem en__law_draw (w k : Nat) (a0 : D) (a1 : D) (b : Nat) (st : Stt) : callF tbl glo w (k + 1) 23 [a0, a1] b st = finO 0 st.length (exSs ⟨callF tbl glo w k, glo, w⟩ st.length ir__law_draw [some a0, some a1, none, none, none] st) := by kernel_rfl
theorem en__law_width (w k : Nat) (a0 : D) (b : Nat) (st : Stt) : callF tbl glo w (k + 1) 24 [a0] b st = finO 0 st.length (exSs ⟨callF tbl glo w k, glo, w⟩ st.length ir__law_width [some a0, none] st) := by kernel_rfl
theorem en__law_space (w k : Nat) (a0 : D) (b : Nat) (st : Stt) : callF tbl glo w (k + 1) 25 [a0] b st = finO 0 st.length (exSs ⟨callF tbl glo w k, glo, w⟩ st.length ir__law_space [some a0, none] st) := by kernel_rfl
theorem en__law_entry (w k : Nat) (a0 : D) (a1 : D) (b : Nat) (st : Stt) : callF tbl glo w (k + 1) 26 [a0, a1] b st = finO 0 st.length (exSs ⟨callF tbl glo w k, glo, w⟩ st.length ir__law_entry [some a0, some a1, none] st) := by kernel_rfl
theorem en__law_element (w k : Nat) (a0 : D) (a1 : D) (b : Nat) (st : Stt) : callF tbl glo w (k + 1) 27 [a0, a1] b st = finO 0 st.length (exSs ⟨callF tbl glo w k, glo, w⟩ st.length ir__law_element [some a0, some a1, none, none] st) := by kernel_rfl
theorem en__law_word (w k : Nat) (a0 : D) (a1 : D) (b : Nat) (st : Stt) : callF tbl glo w (k + 1) 28 [a0, a1] b st = finO 0 st.length (exSs ⟨callF tbl glo w k, glo, w⟩ st.length ir__law_word [some a0, some a1, none, none] st) := by kernel_rfl
theorem en__law_bad_space (w k : Nat) (a0 : D) (b : Nat) (st : Stt) : callF tbl glo w (k + 1) 29 [a0] b st = finO 0 st.length (exSs ⟨callF tbl glo w k, glo, w⟩ st.length ir__law_bad_space [some a0, none] st) := by kernel_rfl
theorem en__law_bad_element (w k : Nat) (a0 : D) (a1 : D) (b : Nat) (st : Stt) : callF tbl glo w (k + 1) 30 [a0, a1] b st = finO 0 st.length (exSs ⟨callF tbl glo w k, glo, w⟩ st.length ir__law_bad_element [some a0, some a1, none, none, none] st) := by kernel_rfl
theorem en__law_bad_word (w k : Nat) (a0 : D) (a1 : D) (b : Nat) (st : Stt) : callF tbl glo w (k + 1) 31 [a0, a1] b st = finO 0 st.length (exSs ⟨callF tbl glo w k, glo, w⟩ st.length ir__law_bad_word [some a0, some a1, none, none, none] st) := by kernel_rfl
theorem en__law_told (w k : Nat) (a0 : D) (a1 : D) (a2 : D) (a3 : D) (a4 : D) (b : Nat) (st : Stt) : callF tbl glo w (k + 1) 32 [a0, a1, a2, a3, a4] b st = finO 0 st.length (exSs ⟨callF tbl glo w k, glo, w⟩ st.length ir__law_told [some a0, some a1, some a2, some a3, some a4, none, none] st) := by kernel_rfl
theorem en__law_bad (w k : Nat) (a0 : D) (a1 : D) (a2 : D) (a3 : D) (a4 : D) (a5 : D) (b : Nat) (st : Stt) : callF tbl glo w (k + 1) 33 [a0, a1, a2, a3, a4, a5] b st = finO 0 st.length (exSs ⟨callF tbl glo w k, glo, w⟩ st.length ir__law_bad [some a0, some a1, some a2, some a3, some a4, some a5, none, none, none] st) := by kernel_rfl
theorem en_law (w k : Nat) (a0 : D) (b : Nat) (st : Stt) : callF tbl glo w (k + 1) 34 [a0] b st = finO 0 st.length (exSs ⟨callF tbl glo w k, glo, w⟩ st.length ir_law [some a0, none, none, none, none, none, none, none, none, none] st) := by kernel_rfl
end LW
namespace LW
open PySem Y Y.Z
/-- a comprehension whose items are told by something that changes the store -/
theorem lcA_st {α : Type} {src : List (D × List D)} {f : D → List D → Stt → R (List D)} (P : Stt → Prop) (Q : α → Prop) (g : α → D) (hs : ∀ st, P st → stills st src = true) : ∀ (items acc : List D) (st : Stt), P st → (∀ d ∈ items, ∀ acc st, P st → acc.length < sz → ∃ (y : α) (st' : Stt), f d acc st = .ok (acc ++ [g y]) st' ∧ P st' ∧ Q y) → acc.length + items.length ≤ sz → ∃ (ys : List α) (st' : Stt), lcA src f items acc st = .ok (acc ++ ys.map g) st' ∧ P st' ∧ ys.length = items.length ∧ ∀ y ∈ ys, Q y
  | [], acc, st, h, _, _ => ⟨[], st, by rw [lcA_nil _ _ _ _ (hs st h)]; simp, h, rfl, fun _ h => nomatch h⟩
  | d :: ds, acc, st, h, hf, hl => by
    simp only [List.length_cons] at hl
    obtain ⟨y, st1, e1, h1, q1⟩ := hf d (List.mem_cons_self ..) acc st h (by omega)
    obtain ⟨ys, st2, e2, h2, l2, q2⟩ := lcA_st P Q g hs ds (acc ++ [g y]) st1 h1 (fun d hd => hf d (List.mem_cons_of_mem _ hd)) (by simp; omega)
    refine ⟨y :: ys, st2, ?_, h2, by simp [l2], fun z hz => ?_⟩
    · rw [lcA_cons _ _ _ _ _ _ (hs st h), e1, bind_ok, e2]
      simp
    · rcases List.mem_cons.mp hz with rfl | hz
      · exact q1
      · exact q2 z hz
theorem rngL_len (i : Int) (n : Nat) : (rngL i n).length = n := by
  induction n generalizing i with
  | zero => rfl
  | succ n ih => simp [rngL, ih]
theorem cut_lo (xs : List D) (k : Nat) : cut xs none (some (k : Int)) = xs.take k := by
  unfold cut
  rw [HT.sIx_none, HT.sIx_nat, List.drop_zero, Nat.sub_zero]
  by_cases h : k ≤ xs.length
  · rw [Nat.min_eq_left h]
  · rw [Nat.min_eq_right (by omega), List.take_of_length_le (by omega), List.take_of_length_le (by omega)]
theorem cut_hi (xs : List D) (k : Nat) : cut xs (some (k : Int)) none = xs.drop k := by
  unfold cut
  rw [HT.sIx_none, HT.sIx_nat]
  by_cases h : k ≤ xs.length
  · rw [Nat.min_eq_left h]
    apply List.take_of_length_le
    simp
  · rw [Nat.min_eq_right (by omega), List.drop_of_length_le (l := xs) (i := k) (by omega)]
    simp
theorem eqF_int (a b : Int) : eqF (.int a) (.int b) = decide (a = b) := by
  by_cases h : a = b <;> simp [eqF, h]
theorem memD_ints (v : Int) (ss : List Int) (st : Stt) (t : D) (ht : seqOf st t = some (ss.map .int)) : memD st (.int v) t = some (decide (v ∈ ss)) := by
  have h1 : (ss.map D.int).all flat = true := by simp [flat]
  simp only [memD, ht, flat, h1, Bool.true_and, if_true, List.any_map, Option.some.injEq, Function.comp_def, eqF_int]
  induction ss with
  | nil => rfl
  | cons a r ih =>
    have ih' : (r.any fun x => decide (x = v)) = decide (v ∈ r) := by
      clear ih ht h1
      induction r with
      | nil => rfl
      | cons a r ih => simp only [List.any_cons, ih, List.mem_cons, Bool.decide_or, eq_comm (a := v)]
    simp only [List.any_cons, ih', List.mem_cons, Bool.decide_or, eq_comm (a := v)]
theorem c_mem (v : Int) (ss : List Int) (st : Stt) : cmpD .mem (.int v) (.tup (ss.map .int)) st = some (decide (v ∈ ss)) := by
  simp only [cmpD]
  exact memD_ints v ss st (.tup (ss.map .int)) rfl
end LW
namespace LW
open PySem Y Y.Z
/-- a new list handed back, nothing that changes in it -/
theorem fin_own (st : Stt) (xs : List D) (objs : Stt) (h : ltL 0 xs = true) : finO 0 st.length (.rt (.ref st.length) (st ++ .lst xs :: objs)) = .ok (.lst xs) st := by
  have h0 : (st ++ Ob.lst xs :: objs)[st.length]? = some (.lst xs) := by simp
  have hz : st.length ≠ (st ++ Ob.lst xs :: objs).length := by simp
  have ht : (st ++ Ob.lst xs :: objs).take st.length = st := by simp
  have hf : frz (st ++ Ob.lst xs :: objs) st.length (.ref st.length) = some (.lst xs) := by
    simp only [frz, mapW]
    rw [frzR]
    simp only [Nat.lt_irrefl, if_false, hz, h0, mapL_lt0 _ _ h, Option.map_some]
  simp only [finO, finF, fin0, hf, ht, if_neg (show ¬ (0 = 1) by decide)]
theorem ap_get (pre L : Stt) (i : Nat) : (pre ++ L)[pre.length + i]? = L[i]? := by
  rw [List.getElem?_append_right (by omega)]
  congr 1
  omega
theorem ap_get0 (pre L : Stt) : (pre ++ L)[pre.length]? = L[0]? := ap_get pre L 0
theorem ap_set (pre L : Stt) (i : Nat) (o : Ob) : (pre ++ L).set (pre.length + i) o = pre ++ L.set i o := by
  rw [List.set_append_right _ _ (by omega)]
  congr 2
  omega
theorem ap_set0 (pre L : Stt) (o : Ob) : (pre ++ L).set pre.length o = pre ++ L.set 0 o := ap_set pre L 0 o
end LW
namespace LW
open PySem Y Y.Z
theorem r_cdi (ks : List Int) (vs : List D) (i : Int) (st : Stt) : getR (.cdi ks vs) (.int i) st = optR (lookV i ks vs) st := by
  simp only [getR, getD, seqOf]
  cases lookV i ks vs <;> rfl
theorem wz_lt (xs ys : List D) (st : Stt) : walkZip (.lst xs) (.tup ys) st = .ok ⟨zip2 xs ys, []⟩ st := rfl
theorem zip2_cons (a b : D) (x y : List D) : zip2 (a :: x) (b :: y) = .tup [a, b] :: zip2 x y := rfl
theorem zip2_map {α β : Type} (f : α → D) (g : β → D) : ∀ (x : List α) (y : List β), zip2 (x.map f) (y.map g) = (x.zip y).map fun p => .tup [f p.1, g p.2]
  | [], _ => by simp [zip2]
  | _ :: _, [] => by simp [zip2]
  | a :: x, c :: y => by
    rw [List.map_cons, List.map_cons, zip2_cons, zip2_map f g x y]
    rfl
theorem best_mem (f : Int → Int → Bool) : ∀ (is : List Int) (m : Int), bestI f is m ∈ m :: is
  | [], m => List.mem_cons_self ..
  | i :: is, m => by
    have h := best_mem f is (if f i m = true then i else m)
    show bestI f is _ ∈ _
    rcases List.mem_cons.mp h with e | h
    · rw [e]
      split
      · exact List.mem_cons_of_mem _ (List.mem_cons_self ..)
      · exact List.mem_cons_self ..
    · exact List.mem_cons_of_mem _ (List.mem_cons_of_mem _ h)
theorem best_top : ∀ (is : List Int) (m : Int), ∀ y ∈ m :: is, y ≤ bestI (fun i j => decide (i > j)) is m
  | [], m, y, h => by
    rcases List.mem_cons.mp h with e | h
    · rw [e]; exact Int.le_refl _
    · cases h
  | i :: is, m, y, h => by
    have ih := best_top is (if decide (i > m) = true then i else m)
    have h0 := ih _ (List.mem_cons_self ..)
    show y ≤ bestI _ is _
    rcases List.mem_cons.mp h with e | h
    · subst e
      refine Int.le_trans ?_ h0
      split
      · rename_i h; exact Int.le_of_lt (of_decide_eq_true h)
      · exact Int.le_refl _
    · rcases List.mem_cons.mp h with e | h
      · subst e
        refine Int.le_trans ?_ h0
        split
        · exact Int.le_refl _
        · rename_i h; exact Int.not_lt.mp fun z => h (decide_eq_true z)
      · exact ih y (List.mem_cons_of_mem _ h)
/-- max of a tuple of ints that is not empty -/
theorem max_tup (ss : List Int) (h : ss ≠ []) (st : Stt) : ∃ M, bestD (fun i j => decide (i > j)) (.tup (ss.map .int)) st = .ok (.int M) st ∧ M ∈ ss ∧ ∀ y ∈ ss, y ≤ M := by
  cases ss with
  | nil => exact absurd rfl h
  | cons i is =>
    refine ⟨bestI (fun i j => decide (i > j)) is i, ?_, best_mem _ is i, best_top is i⟩
    simp only [bestD, seqOf]
    rw [asI (i :: is)]
end LW
namespace LW
open PySem Y Y.Z
/-- statement by statement -/
theorem seq_step {F : Fs} {b : Nat} {s : IS} {ss : ISs} {env env' : Y.Env} {st st' : Stt} {o : O} (h1 : exS F b s env st = .nx env' st') (h2 : exSs F b ss env' st' = o) : exSs F b (.cons s ss) env st = o := by
  rw [x_cons, h1, seq_nx, h2]
end LW

namespace LW
open PySem Y Y.Z
theorem sOk_of (s : String) : PyData.strOk (Str.ofString s) = true := by
  rw [Str.ofString_eq_toList]
  simp only [PyData.strOk, List.all_toArray, List.all_map, List.all_eq_true, Function.comp_apply, decide_eq_true_eq]
  intro c _
  have := c.valid
  have h : c.toNat.isValidChar := c.valid
  unfold Nat.isValidChar at h
  omega
theorem sOk_app (a b : Str) (ha : PyData.strOk a = true) (hb : PyData.strOk b = true) : PyData.strOk (a ++ b) = true := by
  show (a.cps ++ b.cps).all _ = true
  rw [Array.all_append]
  have h1 : a.cps.all (· < 0x110000) = true := ha
  have h2 : b.cps.all (· < 0x110000) = true := hb
  simp only [h1, h2, Bool.and_self]
theorem sOk_join (sep : Str) (hs : PyData.strOk sep = true) : ∀ ts : List Str, (∀ t ∈ ts, PyData.strOk t = true) → PyData.strOk (Str.join sep ts) = true
  | [], _ => by simp [Str.join, Str.empty, PyData.strOk]
  | [x], h => h x (List.mem_cons_self ..)
  | x :: y :: r, h => sOk_app _ _ (sOk_app _ _ (h x (List.mem_cons_self ..)) hs) (sOk_join sep hs (y :: r) fun t ht => h t (List.mem_cons_of_mem _ ht))
theorem sOk_tuple (ts : List Str) (h : ∀ t ∈ ts, PyData.strOk t = true) : PyData.strOk (tupleText ts) = true := by
  unfold tupleText
  refine sOk_app _ _ (sOk_app _ _ (sOk_of _) (sOk_join _ (sOk_of _) _ h)) ?_
  split <;> exact sOk_of _
/-- plain data of ints and tuples -/
theorem py_ints (st : Stt) : ∀ xs : List Int, pyWL (pyR st 6) (xs.map .int) = some (xs.map .int)
  | [] => rfl
  | x :: xs => by simp only [List.map_cons, pyWL, pyW, py_ints st xs]
theorem py_tup (st : Stt) (xs : List Int) : py st (.tup (xs.map .int)) = some (.tuple (xs.map .int)) := by
  simp only [py, pyW, py_ints, Option.map_some]
theorem lay_ints : ∀ xs : List Int, PyData.canLayAll0 (xs.map .int) = true
  | [] => rfl
  | x :: xs => by simp [PyData.canLayAll0, PyData.canLay0, lay_ints xs]
theorem dep_ints : ∀ xs : List Int, PyData.depthAll (xs.map .int) = 0
  | [] => by simp [PyData.depthAll]
  | x :: xs => by simp [PyData.depthAll, PyData.depth, dep_ints xs]
theorem shaped_ints (xs : List Int) : SeqAt.shaped (.tuple (xs.map .int)) = true := by
  simp [SeqAt.shaped, PyData.canLay0, PyData.depth, lay_ints, dep_ints]
theorem eqv_ints : ∀ xs ys : List Int, PyData.eqvAll (xs.map .int) (ys.map .int) = decide (xs = ys)
  | [], [] => by simp [PyData.eqvAll]
  | [], _ :: _ => by simp [PyData.eqvAll]
  | _ :: _, [] => by simp [PyData.eqvAll]
  | x :: xs, y :: ys => by
    simp only [List.map_cons, PyData.eqvAll, PyData.eqv, eqv_ints xs ys, List.cons.injEq, Bool.decide_and]
    by_cases h : x = y <;> simp [h]
theorem eqD_ints (st : Stt) (xs ys : List Int) : eqD st (.tup (xs.map .int)) (.tup (ys.map .int)) = some (decide (xs = ys)) := by
  simp only [eqD, py_tup, shaped_ints, Bool.and_self, if_true, PyData.eqv, eqv_ints]
theorem c_neT (st : Stt) (xs ys : List Int) : cmpD .ne (.tup (xs.map .int)) (.tup (ys.map .int)) st = some (!decide (xs = ys)) := by simp only [cmpD, eqD_ints, Option.map_some]
theorem c_eqT (st : Stt) (xs ys : List Int) : cmpD .eq (.tup (xs.map .int)) (.tup (ys.map .int)) st = some (decide (xs = ys)) := by simp only [cmpD, eqD_ints]
theorem eqD_str (st : Stt) (x y : Str) (hx : PyData.strOk x = true) (hy : PyData.strOk y = true) : eqD st (.str x) (.str y) = some (decide (x = y)) := by
  simp only [eqD, py, pyW, SeqAt.shaped, PyData.canLay0, PyData.depth, hx, hy, PyData.eqv]
  by_cases h : x = y <;> simp [h]
theorem c_neS (st : Stt) (x : Str) (hx : PyData.strOk x = true) : cmpD .ne (.str x) (.str x) st = some false := by
  simp only [cmpD, eqD_str st x x hx hx, Option.map_some, decide_true, Bool.not_true]
theorem show_ints : ∀ (xs : List Int), (∀ x ∈ xs, x.natAbs.log2 < 1920) → PyData.showableAll (xs.map .int) = true ∧ PyData.hasDictAll (xs.map .int) = false ∧ ((PyData.shownAll (xs.map .int)).map (·.length)).sum ≤ 1921 * xs.length ∧ (∀ t ∈ PyData.shownAll (xs.map .int), PyData.strOk t = true) ∧ (PyData.shownAll (xs.map .int)).length = xs.length
  | [], _ => by simp [PyData.showableAll, PyData.hasDictAll, PyData.shownAll]
  | x :: xs, h => by
    obtain ⟨h1, h2, h3, h4, h5⟩ := show_ints xs fun x hx => h x (List.mem_cons_of_mem _ hx)
    have hx := h x (List.mem_cons_self ..)
    have hl := int_text_length_le (k := 1920) (by decide) hx
    refine ⟨?_, ?_, ?_, ?_, ?_⟩
    · simp [PyData.showableAll, PyData.showable, h1, hx]
    · simp [PyData.hasDictAll, PyData.hasDict, h2]
    · have e : (Str.ofString (toString x)).length ≤ 1921 := by rw [ofString_length]; exact hl
      have e2 : (PyData.shown (.int x)).length ≤ 1921 := e
      simp only [List.map_cons, PyData.shownAll, List.sum_cons, List.length_cons, Nat.mul_add]
      omega
    · intro t ht
      simp only [List.map_cons, PyData.shownAll] at ht
      rcases List.mem_cons.mp ht with rfl | ht
      · exact sOk_of _
      · exact h4 t ht
    · simp [PyData.shownAll, h5]
/-- the text of a tuple of ints that are not too long -/
theorem repr_ints (st : Stt) (xs : List Int) (hl : xs.length ≤ 1000) (h : ∀ x ∈ xs, x.natAbs.log2 < 1920) : ∃ t, reprD (.tup (xs.map .int)) st = .ok (.str t) st ∧ PyData.strOk t = true := by
  obtain ⟨h1, h2, h3, h4, h5⟩ := show_ints xs h
  refine ⟨(PyData.tuple (xs.map .int)).shown, ?_, ?_⟩
  · have hlen : (PyData.tuple (xs.map .int)).shown.length ≤ sz := by
      have := tupleText_len_le (PyData.shownAll (xs.map .int))
      rw [h5] at this
      have e : (PyData.tuple (xs.map .int)).shown = tupleText (PyData.shownAll (xs.map .int)) := by simp only [PyData.shown]
      rw [e]
      simp only [sz]
      omega
    simp only [reprD, py_tup]
    simp [PyData.showable, PyData.hasDict, PyData.depth, h1, h2, dep_ints, hlen]
  · simp only [PyData.shown]
    exact sOk_tuple _ h4
end LW

namespace LW
open PySem Y Y.Z
/-! texts of plain data -/
mutual
/-- a bound of the text's length -/
def plN : D → Option Nat
  | .non => some 4
  | .bl _ => some 5
  | .int i => if i.natAbs.log2 < 1920 then some 1921 else none
  | .str x => if PyData.strOk x = true then some (10 * x.length + 2) else none
  | .tup xs => (plNs xs).map (· + 3)
  | .lst xs => (plNs xs).map (· + 3)
  | .ct xs => (plNs xs).map (· + 3)
  | .rd xs => (plNs xs).map (· + 3)
  | _ => none
def plNs : List D → Option Nat
  | [] => some 0
  | d :: ds => match plN d, plNs ds with
    | some a, some b => some (a + b + 2)
    | _, _ => none
end
mutual
def dpD : D → Nat
  | .tup xs => dpDs xs + 1
  | .lst xs => dpDs xs + 1
  | .ct xs => dpDs xs + 1
  | .rd xs => dpDs xs + 1
  | _ => 0
def dpDs : List D → Nat
  | [] => 0
  | d :: ds => max (dpD d) (dpDs ds)
end
def noF : Nat → Option PyData := fun _ => none
/-- its text -/
def rtx (d : D) : Str := match pyW noF d with
  | some p => p.shown
  | none => Str.empty
structure PlOk (f : Nat → Option PyData) (d : D) (n : Nat) (p : PyData) : Prop where
  py : pyW f d = some p
  sh : p.showable = true
  nd : p.hasDict = false
  ln : p.shown.length ≤ n
  ok : PyData.strOk p.shown = true
  dp : p.depth ≤ dpD d
structure PlsOk (f : Nat → Option PyData) (ds : List D) (n : Nat) (ps : List PyData) : Prop where
  py : pyWL f ds = some ps
  sh : PyData.showableAll ps = true
  nd : PyData.hasDictAll ps = false
  ln : ((PyData.shownAll ps).map (·.length)).sum + 2 * ps.length ≤ n
  ok : ∀ t ∈ PyData.shownAll ps, PyData.strOk t = true
  dp : PyData.depthAll ps ≤ dpDs ds
theorem sOk_from : ∀ (ts : List Str) (k : Nat) (acc : Str), PyData.strOk acc = true → (∀ t ∈ ts, PyData.strOk t = true) → PyData.strOk (textFrom k acc ts) = true
  | [], _, _, ha, _ => ha
  | t :: ts, k, acc, ha, h => sOk_from ts (k + 1) _ (sOk_app _ _ (sOk_app _ _ ha (by split <;> exact sOk_of _)) (h t (List.mem_cons_self ..))) fun u hu => h u (List.mem_cons_of_mem _ hu)
theorem sOk_list (ts : List Str) (h : ∀ t ∈ ts, PyData.strOk t = true) : PyData.strOk (listText ts) = true := sOk_app _ _ (sOk_from ts 0 _ (sOk_of _) h) (sOk_of _)
theorem app_len (a b : Str) : (a ++ b).length = a.length + b.length := by
  show (a.cps ++ b.cps).size = _
  rw [Array.size_append]; rfl
theorem from_le : ∀ (ts : List Str) (k : Nat) (acc : Str), (textFrom k acc ts).length ≤ acc.length + (ts.map (·.length)).sum + 2 * ts.length
  | [], _, acc => by simp [textFrom]
  | t :: ts, k, acc => by
    have h := from_le ts (k + 1) (acc ++ (if k > 0 then ", " else "" : String) ++ t)
    have h2 : (Str.ofString (if k > 0 then ", " else "")).length ≤ 2 := by split <;> decide +kernel
    have e : (acc ++ (if k > 0 then ", " else "" : String) ++ t).length ≤ acc.length + 2 + t.length := by
      rw [app_len, app_len]
      omega
    show (textFrom (k + 1) (acc ++ (if k > 0 then ", " else "" : String) ++ t) ts).length ≤ _
    simp only [List.map_cons, List.sum_cons, List.length_cons]
    omega
theorem shownAll_len : ∀ ps : List PyData, (PyData.shownAll ps).length = ps.length
  | [] => rfl
  | p :: ps => by simp [PyData.shownAll, shownAll_len ps]
theorem tupl_ok {f : Nat → Option PyData} {ds : List D} {n : Nat} {ps : List PyData} (h : PlsOk f ds n ps) : (PyData.tuple ps).showable = true ∧ (PyData.tuple ps).hasDict = false ∧ (PyData.tuple ps).shown.length ≤ n + 3 ∧ PyData.strOk (PyData.tuple ps).shown = true ∧ (PyData.tuple ps).depth ≤ dpDs ds + 1 := by
  refine ⟨by simp only [PyData.showable]; exact h.sh, by simp only [PyData.hasDict]; exact h.nd, ?_, ?_, ?_⟩
  · have := tupleText_len_le (PyData.shownAll ps)
    rw [shownAll_len] at this
    have l := h.ln
    simp only [PyData.shown]
    omega
  · simp only [PyData.shown]; exact sOk_tuple _ h.ok
  · have := h.dp
    simp only [PyData.depth]; omega
theorem listText_le (ts : List Str) : (listText ts).length ≤ (ts.map (·.length)).sum + 2 * ts.length + 3 := by
  have h := from_le ts 0 "["
  have h1 : (Str.ofString "[").length = 1 := by decide +kernel
  have h2 : (Str.ofString "]").length = 1 := by decide +kernel
  show (textFrom 0 "[" ts ++ "]").length ≤ _
  rw [app_len]
  omega
theorem list_ok {f : Nat → Option PyData} {ds : List D} {n : Nat} {ps : List PyData} (h : PlsOk f ds n ps) : (PyData.list ps).showable = true ∧ (PyData.list ps).hasDict = false ∧ (PyData.list ps).shown.length ≤ n + 3 ∧ PyData.strOk (PyData.list ps).shown = true ∧ (PyData.list ps).depth ≤ dpDs ds + 1 := by
  refine ⟨by simp only [PyData.showable]; exact h.sh, by simp only [PyData.hasDict]; exact h.nd, ?_, ?_, ?_⟩
  · have := listText_le (PyData.shownAll ps)
    rw [shownAll_len] at this
    have l := h.ln
    simp only [PyData.shown]
    omega
  · simp only [PyData.shown]; exact sOk_list _ h.ok
  · have := h.dp
    simp only [PyData.depth]; omega
theorem strB_len : ∀ b : Bool, (PyData.shown (.bool b)).length ≤ 5 ∧ PyData.strOk (PyData.shown (.bool b)) = true
  | true => by decide +kernel
  | false => by decide +kernel
theorem char_ok (q c : Nat) (hq : q < 0x110000) (hc : c < 0x110000) : ∀ d ∈ Builtin.Str.reprChar q c, d < 0x110000 := by
  have hex : ∀ n : Nat, ∀ d ∈ List.replicate (n - ((Nat.toDigits 16 c).map Char.toNat).length) 48 ++ (Nat.toDigits 16 c).map Char.toNat, d < 0x110000 := by
    intro n d hd
    rcases List.mem_append.mp hd with h | h
    · rw [List.eq_of_mem_replicate h]; decide
    · obtain ⟨ch, _, rfl⟩ := List.mem_map.mp h
      have v : ch.toNat.isValidChar := ch.valid
      unfold Nat.isValidChar at v
      omega
  intro d hd
  unfold Builtin.Str.reprChar at hd
  simp only at hd
  repeat' split at hd
  · simp only [List.mem_cons, List.not_mem_nil, or_false] at hd; omega
  · simp only [List.mem_cons, List.not_mem_nil, or_false] at hd; omega
  · simp only [List.mem_cons, List.not_mem_nil, or_false] at hd; omega
  · simp only [List.mem_cons, List.not_mem_nil, or_false] at hd; omega
  · simp only [List.mem_cons, List.not_mem_nil, or_false] at hd; omega
  · rcases List.mem_append.mp hd with h | h
    · simp only [List.mem_cons, List.not_mem_nil, or_false] at h; omega
    · exact hex 2 d h
  · rcases List.mem_append.mp hd with h | h
    · simp only [List.mem_cons, List.not_mem_nil, or_false] at h; omega
    · exact hex 4 d h
  · rcases List.mem_append.mp hd with h | h
    · simp only [List.mem_cons, List.not_mem_nil, or_false] at h; omega
    · exact hex 8 d h
theorem fold_ok (q : Nat) (hq : q < 0x110000) : ∀ (l : List Nat) (acc : Array Nat), (∀ c ∈ l, c < 0x110000) → (∀ c ∈ acc.toList, c < 0x110000) → ∀ c ∈ (l.foldl (fun out c => out ++ (Builtin.Str.reprChar q c).toArray) acc).toList, c < 0x110000
  | [], acc, _, h => h
  | c :: r, acc, hl, h => fold_ok q hq r _ (fun d hd => hl d (List.mem_cons_of_mem _ hd)) fun d hd => by
    rw [Array.toList_append] at hd
    rcases List.mem_append.mp hd with z | z
    · exact h d z
    · exact char_ok q c hq (hl c (List.mem_cons_self ..)) d z
theorem strOk_iff (x : Str) : PyData.strOk x = true ↔ ∀ c ∈ x.cps.toList, c < 0x110000 := by
  show x.cps.all (· < 0x110000) = true ↔ _
  rw [← Array.all_toList, List.all_eq_true]
  simp only [decide_eq_true_eq]
theorem repr_str (x : Str) (h : PyData.strOk x = true) : (PyData.shown (.str x)).length ≤ 10 * x.length + 2 ∧ PyData.strOk (PyData.shown (.str x)) = true := by
  have hx := (strOk_iff x).mp h
  simp only [PyData.shown]
  refine ⟨StrLaws.reprText_len x fun c hc => Nat.lt_of_lt_of_le (hx c hc) (by decide), (strOk_iff _).mpr ?_⟩
  have hq : reprQuote x < 0x110000 := by unfold reprQuote; split <;> decide
  intro c hc
  unfold reprText at hc
  rw [Array.toList_push, ← Array.foldl_toList] at hc
  rcases List.mem_append.mp hc with z | z
  · exact fold_ok _ hq _ _ hx (by simpa using hq) c z
  · rw [List.mem_singleton.mp z]; exact hq
mutual
theorem pl_ok (f : Nat → Option PyData) : ∀ (d : D) (n : Nat), plN d = some n → ∃ p, PlOk f d n p
  | .non, n, h => by cases h; exact ⟨.none, rfl, rfl, rfl, by decide +kernel, by decide +kernel, by simp [PyData.depth]⟩
  | .bl b, n, h => by cases h; exact ⟨.bool b, rfl, rfl, rfl, (strB_len b).1, (strB_len b).2, by simp [PyData.depth]⟩
  | .int i, n, h => by
    unfold plN at h
    split at h
    · rename_i hi
      cases h
      refine ⟨.int i, rfl, by simp [PyData.showable, hi], rfl, ?_, ?_, by simp [PyData.depth]⟩
      · have hl := int_text_length_le (k := 1920) (by decide) hi
        show (Str.ofString (toString i)).length ≤ 1921
        rw [ofString_length]; exact hl
      · exact sOk_of _
    · cases h
  | .str x, n, h => by
    unfold plN at h
    split at h
    · rename_i hx
      cases h
      exact ⟨.str x, rfl, rfl, rfl, (repr_str x hx).1, (repr_str x hx).2, by simp [PyData.depth]⟩
    · cases h
  | .tup xs, n, h => by
    obtain ⟨m, h1, rfl⟩ := Option.map_eq_some_iff.mp (show (plNs xs).map (· + 3) = some n from h)
    obtain ⟨ps, q⟩ := pls_ok f xs m h1
    obtain ⟨a, b, c, d, e⟩ := tupl_ok q
    exact ⟨.tuple ps, by simp only [pyW, q.py, Option.map_some], a, b, c, d, e⟩
  | .ct xs, n, h => by
    obtain ⟨m, h1, rfl⟩ := Option.map_eq_some_iff.mp (show (plNs xs).map (· + 3) = some n from h)
    obtain ⟨ps, q⟩ := pls_ok f xs m h1
    obtain ⟨a, b, c, d, e⟩ := tupl_ok q
    exact ⟨.tuple ps, by simp only [pyW, q.py, Option.map_some], a, b, c, d, e⟩
  | .lst xs, n, h => by
    obtain ⟨m, h1, rfl⟩ := Option.map_eq_some_iff.mp (show (plNs xs).map (· + 3) = some n from h)
    obtain ⟨ps, q⟩ := pls_ok f xs m h1
    obtain ⟨a, b, c, d, e⟩ := list_ok q
    exact ⟨.list ps, by simp only [pyW, q.py, Option.map_some], a, b, c, d, e⟩
  | .rd xs, n, h => by
    obtain ⟨m, h1, rfl⟩ := Option.map_eq_some_iff.mp (show (plNs xs).map (· + 3) = some n from h)
    obtain ⟨ps, q⟩ := pls_ok f xs m h1
    obtain ⟨a, b, c, d, e⟩ := list_ok q
    exact ⟨.list ps, by simp only [pyW, q.py, Option.map_some], a, b, c, d, e⟩
  | .dK _ _, n, h => by cases h
  | .dT _ _, n, h => by cases h
  | .exn _ _, n, h => by cases h
  | .ref _, n, h => by cases h
  | .cdi _ _, n, h => by cases h
theorem pls_ok (f : Nat → Option PyData) : ∀ (ds : List D) (n : Nat), plNs ds = some n → ∃ ps, PlsOk f ds n ps
  | [], n, h => by cases h; exact ⟨[], rfl, rfl, rfl, by simp [PyData.shownAll], fun t ht => absurd ht (by simp [PyData.shownAll]), by simp [PyData.depthAll]⟩
  | d :: ds, n, h => by
    unfold plNs at h
    cases e1 : plN d with
    | none => rw [e1] at h; cases h
    | some a =>
      cases e2 : plNs ds with
      | none => rw [e1, e2] at h; cases h
      | some b =>
        rw [e1, e2] at h
        cases h
        obtain ⟨p, q⟩ := pl_ok f d a e1
        obtain ⟨ps, qs⟩ := pls_ok f ds b e2
        refine ⟨p :: ps, by simp only [pyWL, q.py, qs.py], ?_, ?_, ?_, ?_, ?_⟩
        · simp only [PyData.showableAll, q.sh, qs.sh, Bool.and_self]
        · simp only [PyData.hasDictAll, q.nd, qs.nd, Bool.or_self]
        · have l1 := q.ln
          have l2 := qs.ln
          simp only [PyData.shownAll, List.map_cons, List.sum_cons, List.length_cons]
          omega
        · intro t ht
          simp only [PyData.shownAll] at ht
          rcases List.mem_cons.mp ht with z | z
          · rw [z]; exact q.ok
          · exact qs.ok t z
        · have l1 := q.dp
          have l2 := qs.dp
          simp only [PyData.depthAll, dpDs]
          omega
end
mutual
theorem py_noF (f : Nat → Option PyData) : ∀ d : D, plN d ≠ none → pyW f d = pyW noF d
  | .non, _ => rfl
  | .bl _, _ => rfl
  | .int _, _ => rfl
  | .str _, _ => rfl
  | .tup xs, h => by simp only [pyW, pys_noF f xs fun z => h (by show (plNs xs).map _ = none; rw [z]; rfl)]
  | .ct xs, h => by simp only [pyW, pys_noF f xs fun z => h (by show (plNs xs).map _ = none; rw [z]; rfl)]
  | .lst xs, h => by simp only [pyW, pys_noF f xs fun z => h (by show (plNs xs).map _ = none; rw [z]; rfl)]
  | .rd xs, h => by simp only [pyW, pys_noF f xs fun z => h (by show (plNs xs).map _ = none; rw [z]; rfl)]
  | .dK _ _, h => absurd rfl h
  | .dT _ _, h => absurd rfl h
  | .exn _ _, h => absurd rfl h
  | .ref _, h => absurd rfl h
  | .cdi _ _, h => absurd rfl h
theorem pys_noF (f : Nat → Option PyData) : ∀ ds : List D, plNs ds ≠ none → pyWL f ds = pyWL noF ds
  | [], _ => rfl
  | d :: ds, h => by
    have h1 : plN d ≠ none := fun z => h (by unfold plNs; rw [z])
    have h2 : plNs ds ≠ none := fun z => h (by unfold plNs; rw [z]; cases plN d <;> rfl)
    simp only [pyWL, py_noF f d h1, pys_noF f ds h2]
end
/-- plain: a text of at most sz signs, at most 100 deep -/
def plain (d : D) : Bool := (match plN d with
  | some n => decide (n ≤ sz)
  | none => false) && decide (dpD d ≤ 100)
theorem repr_plain (d : D) (h : plain d = true) (st : Stt) : reprD d st = .ok (.str (rtx d)) st ∧ PyData.strOk (rtx d) = true := by
  unfold plain at h
  rw [Bool.and_eq_true, decide_eq_true_eq] at h
  obtain ⟨h1, h2⟩ := h
  cases e : plN d with
  | none => rw [e] at h1; cases h1
  | some n =>
    rw [e] at h1
    have hn := of_decide_eq_true h1
    obtain ⟨p, q⟩ := pl_ok noF d n e
    have e1 : py st d = some p := by
      show pyW (pyR st 6) d = some p
      rw [py_noF _ d (by rw [e]; simp)]; exact q.py
    have e2 : rtx d = p.shown := by unfold rtx; rw [q.py]
    refine ⟨?_, by rw [e2]; exact q.ok⟩
    have d1 : p.depth ≤ 100 := Nat.le_trans q.dp h2
    have d2 : p.shown.length ≤ sz := Nat.le_trans q.ln hn
    unfold reprD
    rw [e1, e2]
    simp [q.sh, q.nd, d1, d2]
theorem eqD_rtx (d : D) (h : plain d = true) (st : Stt) : eqD st (.str (rtx d)) (.str (rtx d)) = some true := by
  rw [eqD_str st _ _ (repr_plain d h st).2 (repr_plain d h st).2, decide_eq_true rfl]
theorem c_eqR (d : D) (h : plain d = true) (st : Stt) : cmpD .eq (.str (rtx d)) (.str (rtx d)) st = some true := by simp only [cmpD, eqD_rtx d h]
theorem c_neR (d : D) (h : plain d = true) (st : Stt) : cmpD .ne (.str (rtx d)) (.str (rtx d)) st = some false := by simp only [cmpD, eqD_rtx d h, Option.map_some, Bool.not_true]
end LW

namespace LW
open PySem Y Y.Z
theorem fin_exa {c : Nat} {d : D} {mode : Nat} {env : Y.Env} (hd : d.lt 0 = true) (st st' : Stt) : finO mode st.length (.ex c d env (st ++ st')) = .ex c d st := by
  simp only [finO, finE, frz, map_lt0 _ _ hd, List.take_left']
theorem fin_ex {c : Nat} {d : D} {mode : Nat} {env : Y.Env} (hd : d.lt 0 = true) (st : Stt) : finO mode st.length (.ex c d env st) = .ex c d st := by
  have := fin_exa (c := c) (mode := mode) (env := env) hd st []
  rwa [List.append_nil] at this
end LW

namespace LW
open PySem Y Y.Z
theorem sp_is_integer (k : Nat) (i : Int) (b : Nat) (st : Stt) : callF tbl glo 100000 (k+1) 0 [.int i] b st = .ok (.bl true) st := by
  rw [en_is_integer]
  simp [Y.exSs, Y.Z.x_asg, Y.Z.x_par, Y.Z.x_expr, Y.Z.x_ret, Y.Z.x_retN, Y.Z.x_ite, Y.Z.x_for, Y.Z.x_while, Y.Z.x_brk, Y.Z.x_cnt, Y.Z.x_pass, Y.evE, Y.evL, Y.evC, Y.evCo, Y.evI, Y.evO, Y.asG, Y.asGs, Y.R.bind, Y.liftO, Y.isD, Y.tyD, Y.subTy, Y.bltD, Y.one, Y.two, Y.lenD, Y.seqOf, Y.lstOf, Y.lstF, Y.cmpR, Y.cmpT, Y.cmpD, Y.noEx, Y.walkSeq, Y.wsrc, Y.Z.still_nil, Y.Z.still_tup, Y.Z.still_ct, Y.Z.still_rd, Y.Z.still_lst, Y.wipe, Y.D.lt, Y.ltL, Y.Z.ltL_ints, Y.Z.fin_rtc, Y.Z.fin_rta, Y.tupD, Y.Z.fin_nx, Y.truth, Y.newL, Y.push, Y.allD, Y.anyD, Y.sumD, Y.Z.asI, Y.Z.asB, Y.Z.asB', Y.Z.asI', Y.absD, Y.Z.eqD_int, ir_is_integer]
theorem sp_is_natural (k : Nat) (i j : Int) (b : Nat) (st : Stt) : callF tbl glo 100000 (k+2) 1 [.int i, .int j] b st = .ok (.bl (decide (j ≤ i))) st := by
  rw [en_is_natural]
  simp [Y.exSs, Y.Z.x_asg, Y.Z.x_par, Y.Z.x_expr, Y.Z.x_ret, Y.Z.x_retN, Y.Z.x_ite, Y.Z.x_for, Y.Z.x_while, Y.Z.x_brk, Y.Z.x_cnt, Y.Z.x_pass, Y.evE, Y.evL, Y.evC, Y.evCo, Y.evI, Y.evO, Y.asG, Y.asGs, Y.R.bind, Y.liftO, Y.isD, Y.tyD, Y.subTy, Y.bltD, Y.one, Y.two, Y.lenD, Y.seqOf, Y.lstOf, Y.lstF, Y.cmpR, Y.cmpT, Y.cmpD, Y.noEx, Y.walkSeq, Y.wsrc, Y.Z.still_nil, Y.Z.still_tup, Y.Z.still_ct, Y.Z.still_rd, Y.Z.still_lst, Y.wipe, Y.D.lt, Y.ltL, Y.Z.ltL_ints, Y.Z.fin_rtc, Y.Z.fin_rta, Y.tupD, Y.Z.fin_nx, Y.truth, Y.newL, Y.push, Y.allD, Y.anyD, Y.sumD, Y.Z.asI, Y.Z.asB, Y.Z.asB', Y.Z.asI', Y.absD, Y.Z.eqD_int, ir_is_natural, sp_is_integer]
theorem sp_are_integers (k : Nat) (xs : List Int) (n : Int) (hl : xs.length ≤ 1000) (b : Nat) (st : Stt) : callF tbl glo 100000 (k+2) 2 [.tup (xs.map .int), .int n] b st = .ok (.bl (decide ((xs.length : Int) = n))) st := by
  rw [en_are_integers]
  have h := fun b st i => sp_is_integer k i b st
  by_cases hn : (xs.length : Int) = n
  · subst hn
    simp [Y.exSs, Y.Z.x_asg, Y.Z.x_par, Y.Z.x_expr, Y.Z.x_ret, Y.Z.x_retN, Y.Z.x_ite, Y.Z.x_for, Y.Z.x_while, Y.Z.x_brk, Y.Z.x_cnt, Y.Z.x_pass, Y.evE, Y.evL, Y.evC, Y.evCo, Y.evI, Y.evO, Y.asG, Y.asGs, Y.R.bind, Y.liftO, Y.isD, Y.tyD, Y.subTy, Y.bltD, Y.one, Y.two, Y.lenD, Y.seqOf, Y.lstOf, Y.lstF, Y.cmpR, Y.cmpT, Y.cmpD, Y.noEx, Y.walkSeq, Y.wsrc, Y.Z.still_nil, Y.Z.still_tup, Y.Z.still_ct, Y.Z.still_rd, Y.Z.still_lst, Y.wipe, Y.D.lt, Y.ltL, Y.Z.ltL_ints, Y.Z.fin_rtc, Y.Z.fin_rta, Y.tupD, Y.Z.fin_nx, Y.truth, Y.newL, Y.push, Y.allD, Y.anyD, Y.sumD, Y.Z.asI, Y.Z.asB, Y.Z.asB', Y.Z.asI', Y.absD, Y.Z.eqD_int, ir_are_integers, h]
    rw [lcA_ints (fun _ => .bl true) (by simp [still_tup, still_nil]) xs (by intro x _ acc ha; simp [h, ha]) (by simp [sz]; omega)]
    simp [Y.exSs, Y.Z.x_asg, Y.Z.x_par, Y.Z.x_expr, Y.Z.x_ret, Y.Z.x_retN, Y.Z.x_ite, Y.Z.x_for, Y.Z.x_while, Y.Z.x_brk, Y.Z.x_cnt, Y.Z.x_pass, Y.evE, Y.evL, Y.evC, Y.evCo, Y.evI, Y.evO, Y.asG, Y.asGs, Y.R.bind, Y.liftO, Y.isD, Y.tyD, Y.subTy, Y.bltD, Y.one, Y.two, Y.lenD, Y.seqOf, Y.lstOf, Y.lstF, Y.cmpR, Y.cmpT, Y.cmpD, Y.noEx, Y.walkSeq, Y.wsrc, Y.Z.still_nil, Y.Z.still_tup, Y.Z.still_ct, Y.Z.still_rd, Y.Z.still_lst, Y.wipe, Y.D.lt, Y.ltL, Y.Z.ltL_ints, Y.Z.fin_rtc, Y.Z.fin_rta, Y.tupD, Y.Z.fin_nx, Y.truth, Y.newL, Y.push, Y.allD, Y.anyD, Y.sumD, Y.Z.asI, Y.Z.asB, Y.Z.asB', Y.Z.asI', Y.absD, Y.Z.eqD_int]
  · simp [Y.exSs, Y.Z.x_asg, Y.Z.x_par, Y.Z.x_expr, Y.Z.x_ret, Y.Z.x_retN, Y.Z.x_ite, Y.Z.x_for, Y.Z.x_while, Y.Z.x_brk, Y.Z.x_cnt, Y.Z.x_pass, Y.evE, Y.evL, Y.evC, Y.evCo, Y.evI, Y.evO, Y.asG, Y.asGs, Y.R.bind, Y.liftO, Y.isD, Y.tyD, Y.subTy, Y.bltD, Y.one, Y.two, Y.lenD, Y.seqOf, Y.lstOf, Y.lstF, Y.cmpR, Y.cmpT, Y.cmpD, Y.noEx, Y.walkSeq, Y.wsrc, Y.Z.still_nil, Y.Z.still_tup, Y.Z.still_ct, Y.Z.still_rd, Y.Z.still_lst, Y.wipe, Y.D.lt, Y.ltL, Y.Z.ltL_ints, Y.Z.fin_rtc, Y.Z.fin_rta, Y.tupD, Y.Z.fin_nx, Y.truth, Y.newL, Y.push, Y.allD, Y.anyD, Y.sumD, Y.Z.asI, Y.Z.asB, Y.Z.asB', Y.Z.asI', Y.absD, Y.Z.eqD_int, ir_are_integers, h, hn]
def okS (ss : List Int) : Prop := ∀ s ∈ ss, s = 2 ∨ s = 3 ∨ s = 4 ∨ s = 5
def wid : List Int → Nat
  | [] => 0
  | s :: r => (s * (s - 1) / 2).toNat + wid r
theorem wid_sum (ss : List Int) (h : okS ss) : (ss.map fun s => s * (s - 1) / 2).sum = (wid ss : Int) := by
  induction ss with
  | nil => rfl
  | cons s r ih =>
    have hr : okS r := fun x hx => h x (List.mem_cons_of_mem _ hx)
    simp only [List.map_cons, List.sum_cons, wid, ih hr]
    rcases h s (List.mem_cons_self ..) with e | e | e | e <;> subst e <;> simp
theorem sp_width_in (k : Nat) (ss : List Int) (hs : okS ss) (hl : ss.length ≤ 3) (b : Nat) (st : Stt) : callF tbl glo 100000 (k+1) 7 [.tup (ss.map .int)] b st = .ok (.int (wid ss)) st := by
  rw [en_width_in]
  simp [Y.exSs, Y.Z.x_asg, Y.Z.x_par, Y.Z.x_expr, Y.Z.x_ret, Y.Z.x_retN, Y.Z.x_ite, Y.Z.x_for, Y.Z.x_while, Y.Z.x_brk, Y.Z.x_cnt, Y.Z.x_pass, Y.evE, Y.evL, Y.evC, Y.evCo, Y.evI, Y.evO, Y.asG, Y.asGs, Y.R.bind, Y.liftO, Y.isD, Y.tyD, Y.subTy, Y.bltD, Y.one, Y.two, Y.lenD, Y.seqOf, Y.lstOf, Y.lstF, Y.cmpR, Y.cmpT, Y.cmpD, Y.noEx, Y.walkSeq, Y.wsrc, Y.Z.still_nil, Y.Z.still_tup, Y.Z.still_ct, Y.Z.still_rd, Y.Z.still_lst, Y.wipe, Y.D.lt, Y.ltL, Y.Z.ltL_ints, Y.Z.fin_rtc, Y.Z.fin_rta, Y.tupD, Y.Z.fin_nx, Y.truth, Y.newL, Y.push, Y.allD, Y.anyD, Y.sumD, Y.Z.asI, Y.Z.asB, Y.Z.asB', Y.Z.asI', Y.absD, Y.Z.eqD_int, ir_width_in]
  rw [lcA_ints (fun s => .int (s * (s - 1) / 2)) (by simp [still_tup, still_nil]) ss (by
    intro x hx acc ha
    rcases hs x hx with e | e | e | e <;> subst e <;> simp [Y.exSs, Y.Z.x_asg, Y.Z.x_par, Y.Z.x_expr, Y.Z.x_ret, Y.Z.x_retN, Y.Z.x_ite, Y.Z.x_for, Y.Z.x_while, Y.Z.x_brk, Y.Z.x_cnt, Y.Z.x_pass, Y.evE, Y.evL, Y.evC, Y.evCo, Y.evI, Y.evO, Y.asG, Y.asGs, Y.R.bind, Y.liftO, Y.isD, Y.tyD, Y.subTy, Y.bltD, Y.one, Y.two, Y.lenD, Y.seqOf, Y.lstOf, Y.lstF, Y.cmpR, Y.cmpT, Y.cmpD, Y.noEx, Y.walkSeq, Y.wsrc, Y.Z.still_nil, Y.Z.still_tup, Y.Z.still_ct, Y.Z.still_rd, Y.Z.still_lst, Y.wipe, Y.D.lt, Y.ltL, Y.Z.ltL_ints, Y.Z.fin_rtc, Y.Z.fin_rta, Y.tupD, Y.Z.fin_nx, Y.truth, Y.newL, Y.push, Y.allD, Y.anyD, Y.sumD, Y.Z.asI, Y.Z.asB, Y.Z.asB', Y.Z.asI', Y.absD, Y.Z.eqD_int, glo, cv_SUMMANDS, getR, getD, lookV, ha]) (by simp [sz]; omega)]
  simp [Y.exSs, Y.Z.x_asg, Y.Z.x_par, Y.Z.x_expr, Y.Z.x_ret, Y.Z.x_retN, Y.Z.x_ite, Y.Z.x_for, Y.Z.x_while, Y.Z.x_brk, Y.Z.x_cnt, Y.Z.x_pass, Y.evE, Y.evL, Y.evC, Y.evCo, Y.evI, Y.evO, Y.asG, Y.asGs, Y.R.bind, Y.liftO, Y.isD, Y.tyD, Y.subTy, Y.bltD, Y.one, Y.two, Y.lenD, Y.seqOf, Y.lstOf, Y.lstF, Y.cmpR, Y.cmpT, Y.cmpD, Y.noEx, Y.walkSeq, Y.wsrc, Y.Z.still_nil, Y.Z.still_tup, Y.Z.still_ct, Y.Z.still_rd, Y.Z.still_lst, Y.wipe, Y.D.lt, Y.ltL, Y.Z.ltL_ints, Y.Z.fin_rtc, Y.Z.fin_rta, Y.tupD, Y.Z.fin_nx, Y.truth, Y.newL, Y.push, Y.allD, Y.anyD, Y.sumD, Y.Z.asI, Y.Z.asB, Y.Z.asB', Y.Z.asI', Y.absD, Y.Z.eqD_int, wid_sum ss hs]
theorem sp_is_space (k : Nat) (ss : List Int) (hs : okS ss) (hl : ss.length ≤ 3) (h0 : ss ≠ []) (hw : wid ss ≤ 12) (b : Nat) (st : Stt) : callF tbl glo 100000 (k+3) 5 [.tup (ss.map .int)] b st = .ok (.bl true) st := by
  rw [en_is_space]
  have h3 : ∀ b st, callF tbl glo 100000 (k+2) 3 [.tup (ss.map .int), .int 1, .int 3] b st = .ok (.bl true) st := by
    intro b st
    rw [en_are_parts]
    have : 1 ≤ ss.length := by cases ss with
      | nil => exact absurd rfl h0
      | cons _ _ => simp
    have a1 : (1 : Int) ≤ ss.length := by omega
    have a2 : (ss.length : Int) ≤ 3 := by omega
    simp [Y.exSs, Y.Z.x_asg, Y.Z.x_par, Y.Z.x_expr, Y.Z.x_ret, Y.Z.x_retN, Y.Z.x_ite, Y.Z.x_for, Y.Z.x_while, Y.Z.x_brk, Y.Z.x_cnt, Y.Z.x_pass, Y.evE, Y.evL, Y.evC, Y.evCo, Y.evI, Y.evO, Y.asG, Y.asGs, Y.R.bind, Y.liftO, Y.isD, Y.tyD, Y.subTy, Y.bltD, Y.one, Y.two, Y.lenD, Y.seqOf, Y.lstOf, Y.lstF, Y.cmpR, Y.cmpT, Y.cmpD, Y.noEx, Y.walkSeq, Y.wsrc, Y.Z.still_nil, Y.Z.still_tup, Y.Z.still_ct, Y.Z.still_rd, Y.Z.still_lst, Y.wipe, Y.D.lt, Y.ltL, Y.Z.ltL_ints, Y.Z.fin_rtc, Y.Z.fin_rta, Y.tupD, Y.Z.fin_nx, Y.truth, Y.newL, Y.push, Y.allD, Y.anyD, Y.sumD, Y.Z.asI, Y.Z.asB, Y.Z.asB', Y.Z.asI', Y.absD, Y.Z.eqD_int, ir_are_parts, a1, a2]
  have h1 := fun b st i => sp_is_natural k i 2 b st
  simp [Y.exSs, Y.Z.x_asg, Y.Z.x_par, Y.Z.x_expr, Y.Z.x_ret, Y.Z.x_retN, Y.Z.x_ite, Y.Z.x_for, Y.Z.x_while, Y.Z.x_brk, Y.Z.x_cnt, Y.Z.x_pass, Y.evE, Y.evL, Y.evC, Y.evCo, Y.evI, Y.evO, Y.asG, Y.asGs, Y.R.bind, Y.liftO, Y.isD, Y.tyD, Y.subTy, Y.bltD, Y.one, Y.two, Y.lenD, Y.seqOf, Y.lstOf, Y.lstF, Y.cmpR, Y.cmpT, Y.cmpD, Y.noEx, Y.walkSeq, Y.wsrc, Y.Z.still_nil, Y.Z.still_tup, Y.Z.still_ct, Y.Z.still_rd, Y.Z.still_lst, Y.wipe, Y.D.lt, Y.ltL, Y.Z.ltL_ints, Y.Z.fin_rtc, Y.Z.fin_rta, Y.tupD, Y.Z.fin_nx, Y.truth, Y.newL, Y.push, Y.allD, Y.anyD, Y.sumD, Y.Z.asI, Y.Z.asB, Y.Z.asB', Y.Z.asI', Y.absD, Y.Z.eqD_int, ir_is_space, h3]
  rw [lcA_ints (fun _ => .bl true) (by simp [still_tup, still_nil]) ss (by
    intro x hx acc ha
    rcases hs x hx with e | e | e | e <;> subst e <;> simp [Y.exSs, Y.Z.x_asg, Y.Z.x_par, Y.Z.x_expr, Y.Z.x_ret, Y.Z.x_retN, Y.Z.x_ite, Y.Z.x_for, Y.Z.x_while, Y.Z.x_brk, Y.Z.x_cnt, Y.Z.x_pass, Y.evE, Y.evL, Y.evC, Y.evCo, Y.evI, Y.evO, Y.asG, Y.asGs, Y.R.bind, Y.liftO, Y.isD, Y.tyD, Y.subTy, Y.bltD, Y.one, Y.two, Y.lenD, Y.seqOf, Y.lstOf, Y.lstF, Y.cmpR, Y.cmpT, Y.cmpD, Y.noEx, Y.walkSeq, Y.wsrc, Y.Z.still_nil, Y.Z.still_tup, Y.Z.still_ct, Y.Z.still_rd, Y.Z.still_lst, Y.wipe, Y.D.lt, Y.ltL, Y.Z.ltL_ints, Y.Z.fin_rtc, Y.Z.fin_rta, Y.tupD, Y.Z.fin_nx, Y.truth, Y.newL, Y.push, Y.allD, Y.anyD, Y.sumD, Y.Z.asI, Y.Z.asB, Y.Z.asB', Y.Z.asI', Y.absD, Y.Z.eqD_int, h1, ha]) (by simp [sz]; omega)]
  simp [Y.exSs, Y.Z.x_asg, Y.Z.x_par, Y.Z.x_expr, Y.Z.x_ret, Y.Z.x_retN, Y.Z.x_ite, Y.Z.x_for, Y.Z.x_while, Y.Z.x_brk, Y.Z.x_cnt, Y.Z.x_pass, Y.evE, Y.evL, Y.evC, Y.evCo, Y.evI, Y.evO, Y.asG, Y.asGs, Y.R.bind, Y.liftO, Y.isD, Y.tyD, Y.subTy, Y.bltD, Y.one, Y.two, Y.lenD, Y.seqOf, Y.lstOf, Y.lstF, Y.cmpR, Y.cmpT, Y.cmpD, Y.noEx, Y.walkSeq, Y.wsrc, Y.Z.still_nil, Y.Z.still_tup, Y.Z.still_ct, Y.Z.still_rd, Y.Z.still_lst, Y.wipe, Y.D.lt, Y.ltL, Y.Z.ltL_ints, Y.Z.fin_rtc, Y.Z.fin_rta, Y.tupD, Y.Z.fin_nx, Y.truth, Y.newL, Y.push, Y.allD, Y.anyD, Y.sumD, Y.Z.asI, Y.Z.asB, Y.Z.asB', Y.Z.asI', Y.absD, Y.Z.eqD_int]
  rw [lcA_ints (fun s => .int (s * (s - 1) / 2)) (by simp [still_tup, still_nil]) ss (by
    intro x hx acc ha
    rcases hs x hx with e | e | e | e <;> subst e <;> simp [Y.exSs, Y.Z.x_asg, Y.Z.x_par, Y.Z.x_expr, Y.Z.x_ret, Y.Z.x_retN, Y.Z.x_ite, Y.Z.x_for, Y.Z.x_while, Y.Z.x_brk, Y.Z.x_cnt, Y.Z.x_pass, Y.evE, Y.evL, Y.evC, Y.evCo, Y.evI, Y.evO, Y.asG, Y.asGs, Y.R.bind, Y.liftO, Y.isD, Y.tyD, Y.subTy, Y.bltD, Y.one, Y.two, Y.lenD, Y.seqOf, Y.lstOf, Y.lstF, Y.cmpR, Y.cmpT, Y.cmpD, Y.noEx, Y.walkSeq, Y.wsrc, Y.Z.still_nil, Y.Z.still_tup, Y.Z.still_ct, Y.Z.still_rd, Y.Z.still_lst, Y.wipe, Y.D.lt, Y.ltL, Y.Z.ltL_ints, Y.Z.fin_rtc, Y.Z.fin_rta, Y.tupD, Y.Z.fin_nx, Y.truth, Y.newL, Y.push, Y.allD, Y.anyD, Y.sumD, Y.Z.asI, Y.Z.asB, Y.Z.asB', Y.Z.asI', Y.absD, Y.Z.eqD_int, glo, cv_SUMMANDS, getR, getD, lookV, ha]) (by simp [sz]; omega)]
  simp [Y.exSs, Y.Z.x_asg, Y.Z.x_par, Y.Z.x_expr, Y.Z.x_ret, Y.Z.x_retN, Y.Z.x_ite, Y.Z.x_for, Y.Z.x_while, Y.Z.x_brk, Y.Z.x_cnt, Y.Z.x_pass, Y.evE, Y.evL, Y.evC, Y.evCo, Y.evI, Y.evO, Y.asG, Y.asGs, Y.R.bind, Y.liftO, Y.isD, Y.tyD, Y.subTy, Y.bltD, Y.one, Y.two, Y.lenD, Y.seqOf, Y.lstOf, Y.lstF, Y.cmpR, Y.cmpT, Y.cmpD, Y.noEx, Y.walkSeq, Y.wsrc, Y.Z.still_nil, Y.Z.still_tup, Y.Z.still_ct, Y.Z.still_rd, Y.Z.still_lst, Y.wipe, Y.D.lt, Y.ltL, Y.Z.ltL_ints, Y.Z.fin_rtc, Y.Z.fin_rta, Y.tupD, Y.Z.fin_nx, Y.truth, Y.newL, Y.push, Y.allD, Y.anyD, Y.sumD, Y.Z.asI, Y.Z.asB, Y.Z.asB', Y.Z.asI', Y.absD, Y.Z.eqD_int, wid_sum ss hs]
  omega
theorem sp_check_space (k : Nat) (ss : List Int) (hs : okS ss) (hl : ss.length ≤ 3) (h0 : ss ≠ []) (hw : wid ss ≤ 12) (b : Nat) (st : Stt) : callF tbl glo 100000 (k+4) 6 [.tup (ss.map .int)] b st = .ok .non st := by
  rw [en_check_space]
  have h := fun b st => sp_is_space k ss hs hl h0 hw b st
  simp [Y.exSs, Y.Z.x_asg, Y.Z.x_par, Y.Z.x_expr, Y.Z.x_ret, Y.Z.x_retN, Y.Z.x_ite, Y.Z.x_for, Y.Z.x_while, Y.Z.x_brk, Y.Z.x_cnt, Y.Z.x_pass, Y.evE, Y.evL, Y.evC, Y.evCo, Y.evI, Y.evO, Y.asG, Y.asGs, Y.R.bind, Y.liftO, Y.isD, Y.tyD, Y.subTy, Y.bltD, Y.one, Y.two, Y.lenD, Y.seqOf, Y.lstOf, Y.lstF, Y.cmpR, Y.cmpT, Y.cmpD, Y.noEx, Y.walkSeq, Y.wsrc, Y.Z.still_nil, Y.Z.still_tup, Y.Z.still_ct, Y.Z.still_rd, Y.Z.still_lst, Y.wipe, Y.D.lt, Y.ltL, Y.Z.ltL_ints, Y.Z.fin_rtc, Y.Z.fin_rta, Y.tupD, Y.Z.fin_nx, Y.truth, Y.newL, Y.push, Y.allD, Y.anyD, Y.sumD, Y.Z.asI, Y.Z.asB, Y.Z.asB', Y.Z.asI', Y.absD, Y.Z.eqD_int, ir_check_space, h]
theorem sp_is_element_in (k : Nat) (ss : List Int) (hs : okS ss) (hl : ss.length ≤ 3) (xs : List Int) (hx : xs.length = wid ss) (hw : wid ss ≤ 12) (b : Nat) (st : Stt) : callF tbl glo 100000 (k+3) 8 [.tup (ss.map .int), .tup (xs.map .int)] b st = .ok (.bl true) st := by
  rw [en_is_element_in]
  have h := fun b st => sp_width_in (k+1) ss hs hl b st
  have h2 := fun b st => sp_are_integers k xs (wid ss) (by omega) b st
  simp [Y.exSs, Y.Z.x_asg, Y.Z.x_par, Y.Z.x_expr, Y.Z.x_ret, Y.Z.x_retN, Y.Z.x_ite, Y.Z.x_for, Y.Z.x_while, Y.Z.x_brk, Y.Z.x_cnt, Y.Z.x_pass, Y.evE, Y.evL, Y.evC, Y.evCo, Y.evI, Y.evO, Y.asG, Y.asGs, Y.R.bind, Y.liftO, Y.isD, Y.tyD, Y.subTy, Y.bltD, Y.one, Y.two, Y.lenD, Y.seqOf, Y.lstOf, Y.lstF, Y.cmpR, Y.cmpT, Y.cmpD, Y.noEx, Y.walkSeq, Y.wsrc, Y.Z.still_nil, Y.Z.still_tup, Y.Z.still_ct, Y.Z.still_rd, Y.Z.still_lst, Y.wipe, Y.D.lt, Y.ltL, Y.Z.ltL_ints, Y.Z.fin_rtc, Y.Z.fin_rta, Y.tupD, Y.Z.fin_nx, Y.truth, Y.newL, Y.push, Y.allD, Y.anyD, Y.sumD, Y.Z.asI, Y.Z.asB, Y.Z.asB', Y.Z.asI', Y.absD, Y.Z.eqD_int, ir_is_element_in, h, h2, hx]
theorem sp_identity_in (k : Nat) (ss : List Int) (hs : okS ss) (hl : ss.length ≤ 3) (hw : wid ss ≤ 12) (h1 : 1 ≤ wid ss) (b : Nat) (st : Stt) : callF tbl glo 100000 (k+2) 9 [.tup (ss.map .int)] b st = .ok (.tup ((List.replicate (wid ss) (0 : Int)).map .int)) st := by
  rw [en_identity_in]
  have h := fun b st => sp_width_in k ss hs hl b st
  have f0 : (List.replicate (wid ss) [D.int 0]).flatten = List.replicate (wid ss) (D.int 0) := by
    generalize wid ss = n
    induction n with
    | zero => rfl
    | succ n ih => simp [List.replicate_succ, ih]
  have l0 : ltL 0 (List.replicate (wid ss) (D.int 0)) = true := by
    generalize wid ss = n
    induction n with
    | zero => rfl
    | succ n ih => simp [List.replicate_succ, ltL, D.lt, ih]
  by_cases hw1 : wid ss = 1
  · simp [Y.exSs, Y.Z.x_asg, Y.Z.x_par, Y.Z.x_expr, Y.Z.x_ret, Y.Z.x_retN, Y.Z.x_ite, Y.Z.x_for, Y.Z.x_while, Y.Z.x_brk, Y.Z.x_cnt, Y.Z.x_pass, Y.evE, Y.evL, Y.evC, Y.evCo, Y.evI, Y.evO, Y.asG, Y.asGs, Y.R.bind, Y.liftO, Y.isD, Y.tyD, Y.subTy, Y.bltD, Y.one, Y.two, Y.lenD, Y.seqOf, Y.lstOf, Y.lstF, Y.cmpR, Y.cmpT, Y.cmpD, Y.noEx, Y.walkSeq, Y.wsrc, Y.Z.still_nil, Y.Z.still_tup, Y.Z.still_ct, Y.Z.still_rd, Y.Z.still_lst, Y.wipe, Y.D.lt, Y.ltL, Y.Z.ltL_ints, Y.Z.fin_rtc, Y.Z.fin_rta, Y.tupD, Y.Z.fin_nx, Y.truth, Y.newL, Y.push, Y.allD, Y.anyD, Y.sumD, Y.Z.asI, Y.Z.asB, Y.Z.asB', Y.Z.asI', Y.absD, Y.Z.eqD_int, ir_identity_in, h, sz, binD, hw1]
  · have g1 : ¬ ((wid ss : Int) = 1) := by omega
    have g2 : ¬ wid ss = 0 := by omega
    have g3 : wid ss ≤ 1000 := by omega
    have g4 : (wid ss : Int) ≤ 1000 := by omega
    have g5 : ¬ (wid ss : Int) ≤ 0 := by omega
    simp [Y.exSs, Y.Z.x_asg, Y.Z.x_par, Y.Z.x_expr, Y.Z.x_ret, Y.Z.x_retN, Y.Z.x_ite, Y.Z.x_for, Y.Z.x_while, Y.Z.x_brk, Y.Z.x_cnt, Y.Z.x_pass, Y.evE, Y.evL, Y.evC, Y.evCo, Y.evI, Y.evO, Y.asG, Y.asGs, Y.R.bind, Y.liftO, Y.isD, Y.tyD, Y.subTy, Y.bltD, Y.one, Y.two, Y.lenD, Y.seqOf, Y.lstOf, Y.lstF, Y.cmpR, Y.cmpT, Y.cmpD, Y.noEx, Y.walkSeq, Y.wsrc, Y.Z.still_nil, Y.Z.still_tup, Y.Z.still_ct, Y.Z.still_rd, Y.Z.still_lst, Y.wipe, Y.D.lt, Y.ltL, Y.Z.ltL_ints, Y.Z.fin_rtc, Y.Z.fin_rta, Y.tupD, Y.Z.fin_nx, Y.truth, Y.newL, Y.push, Y.allD, Y.anyD, Y.sumD, Y.Z.asI, Y.Z.asB, Y.Z.asB', Y.Z.asI', Y.absD, Y.Z.eqD_int, ir_identity_in, h, sz, binD, hw1, g1, g2, g3, g4, g5, f0, l0]
def prodB : List Int → List Int → List Int
  | [a], [b] => [a + b]
  | [a0, a1, a2], [b0, b1, b2] => [a0 + b0, a1 + b1, a2 + b2 + a0 * b1]
  | [a0, a1, a2, a3, a4, a5], [b0, b1, b2, b3, b4, b5] => [a0 + b0, a1 + b1, a2 + b2, a3 + b3 + a0 * b1, a4 + b4 + a1 * b2, a5 + b5 + a0 * b4 + a3 * b2]
  | [a0, a1, a2, a3, a4, a5, a6, a7, a8, a9], [b0, b1, b2, b3, b4, b5, b6, b7, b8, b9] => [a0 + b0, a1 + b1, a2 + b2, a3 + b3, a4 + b4 + a0 * b1, a5 + b5 + a1 * b2, a6 + b6 + a2 * b3, a7 + b7 + a0 * b5 + a4 * b2, a8 + b8 + a1 * b6 + a5 * b3, a9 + b9 + a0 * b8 + a4 * b6 + a7 * b3]
  | _, _ => []
def prodL : List Int → List Int → List Int → List Int
  | [], _, _ => []
  | s :: r, x, y => prodB (x.take (s * (s - 1) / 2).toNat) (y.take (s * (s - 1) / 2).toNat) ++ prodL r (x.drop (s * (s - 1) / 2).toNat) (y.drop (s * (s - 1) / 2).toNat)
end LW

namespace LW
open PySem Y Y.Z
/-! the looks at arguments, whatever they are -/
def sm : D → Bool
  | .non => true | .bl _ => true | .int _ => true | .str _ => true | .tup _ => true | .lst _ => true
  | _ => false
def isI : D → Bool
  | .int _ => true
  | _ => false
theorem is_int_any (k : Nat) (d : D) (h : sm d = true) (b : Nat) (st : Stt) : callF tbl glo 100000 (k+1) 0 [d] b st = .ok (.bl (isI d)) st := by
  rw [en_is_integer]
  cases d <;> first | (cases h; done) | simp [Y.exSs, Y.Z.x_asg, Y.Z.x_par, Y.Z.x_expr, Y.Z.x_ret, Y.Z.x_retN, Y.Z.x_ite, Y.Z.x_for, Y.Z.x_while, Y.Z.x_brk, Y.Z.x_cnt, Y.Z.x_pass, Y.evE, Y.evL, Y.evC, Y.evCo, Y.evI, Y.evO, Y.asG, Y.asGs, Y.R.bind, Y.liftO, Y.isD, Y.tyD, Y.subTy, Y.bltD, Y.one, Y.two, Y.lenD, Y.seqOf, Y.lstOf, Y.lstF, Y.cmpR, Y.cmpT, Y.cmpD, Y.noEx, Y.walkSeq, Y.wsrc, Y.Z.still_nil, Y.Z.still_tup, Y.Z.still_ct, Y.Z.still_rd, Y.Z.still_lst, Y.wipe, Y.D.lt, Y.ltL, Y.Z.ltL_ints, Y.Z.fin_rtc, Y.Z.fin_rta, Y.tupD, Y.Z.fin_nx, Y.truth, Y.newL, Y.push, Y.allD, Y.anyD, Y.sumD, Y.Z.asI, Y.Z.asB, Y.Z.asB', Y.Z.asI', Y.absD, Y.Z.eqD_int, ir_is_integer, isI]
theorem all_bl (xs : List Bool) (st : Stt) : allD (.lst (xs.map .bl)) st = .ok (.bl (xs.all id)) st := by
  have : asBools (xs.map D.bl) = some xs := by
    induction xs with
    | nil => rfl
    | cons x xs ih => simp only [List.map_cons, asBools, ih, Option.map_some]
  simp only [allD, lstF, lstOf, this]
theorem any_bl (xs : List Bool) (st : Stt) : anyD (.lst (xs.map .bl)) st = .ok (.bl (xs.any id)) st := by
  have : asBools (xs.map D.bl) = some xs := by
    induction xs with
    | nil => rfl
    | cons x xs ih => simp only [List.map_cons, asBools, ih, Option.map_some]
  simp only [anyD, lstF, lstOf, this]
theorem all_map {α : Type} (f : α → Bool) (xs : List α) (st : Stt) : allD (.lst (xs.map fun d => .bl (f d))) st = .ok (.bl (xs.all f)) st := by
  have := all_bl (xs.map f) st
  rw [List.map_map] at this
  simpa [List.all_map, Function.comp_def] using this
theorem are_ints_tup (k : Nat) (xs : List D) (hs : ∀ d ∈ xs, sm d = true) (n : Int) (hl : xs.length ≤ 1000) (b : Nat) (st : Stt) : callF tbl glo 100000 (k+2) 2 [.tup xs, .int n] b st = .ok (.bl (decide ((xs.length : Int) = n) && xs.all isI)) st := by
  rw [en_are_integers]
  by_cases hn : (xs.length : Int) = n
  · subst hn
    have hc : ∀ F b a0 a1 a2 st, F = (⟨callF tbl glo 100000 (k+1), glo, 100000⟩ : Fs) → lcA [] (lcF F b (.nm 2) [2] [a0, a1, a2] .non (.call 0 (.cons (.var 2) .nil) [])) xs [] st = .ok (xs.map fun d => .bl (isI d)) st := by
      intro F b a0 a1 a2 st hF
      subst hF
      rw [lcA_map (fun d => .bl (isI d)) rfl xs [] (by
        intro d hd acc ha
        have := is_int_any k d (hs d hd)
        simp (implicitDefEqProofs := false) [Y.Z.x_nil, Y.Z.x_cons, Y.Z.bind_ok, Y.Z.bind_ex, Y.Z.lift_ok, Y.Z.lift_ex, Y.Z.noEx_ok, Y.Z.seq_nx, Y.Z.seq_rt, Y.Z.seq_bk, Y.Z.seq_ct, Y.Z.seq_ex, Y.Z.kRaise_e, Y.Z.y_raise, Y.Z.y_tryv, Y.Z.tv_nx, Y.Z.tv_rt, Y.Z.tv_ex, Y.hkD, Y.Z.e_fld, Y.Z.fld_e, Y.Z.loop_nx, Y.Z.loop_rt, Y.Z.loop_bk, Y.Z.loop_ct, Y.Z.asT_ok, Y.Z.opt_some, Y.Z.var_some, Y.Z.y_asg, Y.Z.y_aug, Y.Z.y_ite, Y.Z.x_retN, Y.Z.x_brk, Y.Z.x_cnt, Y.Z.x_pass, Y.Z.e_var, Y.Z.e_cst, Y.Z.e_glo, Y.Z.e_bin, Y.Z.e_neg, Y.Z.e_cmp, Y.Z.e_cmp2, Y.Z.e_and, Y.Z.e_or, Y.Z.e_not, Y.Z.e_ife, Y.Z.e_tup, Y.Z.e_lst, Y.Z.e_dic, Y.Z.e_dic0, Y.Z.e_ix, Y.Z.e_sl, Y.Z.e_rev, Y.Z.e_call, Y.Z.e_callK, Y.Z.e_blt, Y.Z.e_isi, Y.Z.e_isq, Y.Z.e_app, Y.Z.e_pop, Y.Z.e_ext, Y.Z.kExt1_e, Y.Z.k_ex_e, Y.Z.k_ex2_e, Y.Z.ex_ref, Y.Z.t_max1, Y.Z.t_min1, Y.Z.e_get2, Y.Z.e_lc, Y.Z.e_lc2, Y.Z.l_nil, Y.Z.l_cons, Y.Z.o_non, Y.Z.o_som, Y.Z.c_val, Y.Z.c_cp, Y.Z.c_cp2, Y.Z.c_and, Y.Z.c_or, Y.Z.c_not, Y.Z.co_non, Y.Z.co_som, Y.Z.i_seq, Y.Z.i_rng1, Y.Z.i_rng2, Y.Z.i_enm, Y.Z.i_zip, Y.Z.g_nm, Y.Z.g_tup, Y.Z.g_ct, Y.Z.g_ix, Y.Z.gs_nil, Y.Z.gs_cons, Y.Z.b_add, Y.Z.b_sub, Y.Z.b_mul, Y.Z.b_div, Y.Z.b_mod, Y.Z.b_pow, Y.Z.b_tup, Y.Z.b_lst, Y.Z.b_mulL, Y.Z.c_lt, Y.Z.c_le, Y.Z.c_gt, Y.Z.c_ge, Y.Z.c_eq, Y.Z.c_ne, Y.Z.c_isN, Y.Z.c_notN, Y.Z.c_isB, Y.Z.c_notB, Y.isNon, Y.Z.newL_f, Y.Z.newL_t, Y.Z.t_len, Y.Z.t_sum, Y.Z.t_any, Y.Z.t_all, Y.Z.t_abs, Y.Z.t_min, Y.Z.t_max, Y.Z.t_tuple, Y.Z.t_list, Y.Z.t_int, Y.Z.t_repr, Y.Z.t_str, Y.Z.st_str, Y.Z.st_int, Y.Z.st_tup, Y.Z.len_tup, Y.Z.len_lst, Y.Z.len_rd, Y.Z.len_ct, Y.Z.tup_lst, Y.Z.tup_tup, Y.Z.tup_ct, Y.Z.lst_lst, Y.Z.lst_tup, Y.Z.sum_ints, Y.Z.sum_ints', Y.Z.w_tup, Y.Z.w_lst, Y.Z.w_rd, Y.Z.w_ct, Y.Z.we_tup, Y.Z.we_lst, Y.Z.we_ct, Y.Z.wz_tl, Y.Z.wz_ll, Y.Z.wz_tt, Y.Z.r_tup, Y.Z.r_lst, Y.Z.r_rd, Y.Z.r_ct, Y.Z.cut_tup, Y.Z.cut_lst, Y.Z.cut_rd, Y.Z.rev_tup, Y.Z.tr_bl, Y.Z.tr_int, Y.Z.tr_tup, Y.Z.tr_lst, Y.Z.refL_lst, Y.Z.getO_lst, Y.Z.r_ref, Y.Z.lstOf_ref, Y.Z.len_ref, Y.Z.tup_ref, Y.Z.lst_ref, Y.Z.w_ref, Y.Z.we_ref, Y.Z.cut_ref, Y.Z.tr_ref, Y.Z.s_ref, Y.Z.so_lst, Y.Z.a_ref, Y.Z.po_ref, Y.Z.ixN_lit, Y.Z.atI_lit, Y.isD, Y.tyD, Y.subTy, Y.Z.fin_rtc, Y.Z.fin_rta, Y.Z.fin_nx, Y.D.lt, Y.ltL, Y.Z.ltL_ints, Y.Z.still_nil2, Y.Z.still_tup, Y.Z.still_ct, Y.Z.still_rd, Y.Z.still_lst, Y.wipe, Y.Z.blO_some, Y.Z.y_par, Y.Z.y_par3, Y.Z.kPar31_e, Y.Z.kPar32_e, Y.Z.kPar33_e, Y.Z.y_expr, Y.Z.y_ret, Y.Z.y_for, Y.Z.x_while, Y.Z.kAsg_e, Y.Z.kAug3_e, Y.Z.kAug2_e, Y.Z.kAug1_e, Y.Z.kIte_e, Y.Z.kPar2_e, Y.Z.kPar1_e, Y.Z.kExpr_e, Y.Z.kFor_e, Y.Z.kBin1_e, Y.Z.kNeg_e, Y.Z.kCmp2_e, Y.Z.kCmp1_e, Y.Z.kC23_e, Y.Z.kC22_e, Y.Z.kC21_e, Y.Z.kAnd_e, Y.Z.kOr_e, Y.Z.kNot_e, Y.Z.kIfe_e, Y.Z.kTup_e, Y.Z.kLst_e, Y.Z.kDic_e, Y.Z.kIx1_e, Y.Z.kSl2_e, Y.Z.kSl1_e, Y.Z.kCall_e, Y.Z.kCK3_e, Y.Z.kCK2_e, Y.Z.kCK1_e, Y.Z.kApp1_e, Y.Z.kG2_e, Y.Z.kG1_e, Y.Z.lcF3_e, Y.Z.lcF2_e, Y.Z.lcF1_e, Y.Z.kLc_e, Y.Z.lcG1_e, Y.Z.lcH2_e, Y.Z.lcH1_e, Y.Z.kLc2_e, Y.Z.kL2_e, Y.Z.kL1_e, Y.Z.kInt_e, Y.Z.kTru_e, Y.Z.kCp2_e, Y.Z.kCp1_e, Y.Z.kCq3_e, Y.Z.kCq2_e, Y.Z.kCq1_e, Y.Z.kCand_e, Y.Z.kCor_e, Y.Z.kCnot_e, Y.Z.kR2_e, Y.Z.kZ_e, Y.Z.kGx3_e, Y.Z.kGx2_e, Y.Z.kGx1_e, Y.Z.kWh_e, Y.Z.k_len_e, Y.Z.k_tup_e, Y.Z.k_lst_e, Y.Z.k_w_e, Y.Z.k_we_e, Y.Z.k_cut_e, Y.Z.k_tr_e, Y.Z.sK2_e, Y.Z.sK1_e, Y.Z.soK_e, Y.Z.k_ap_e, Y.Z.k_po2_e, Y.Z.k_po_e, lcF, push, this, ha]) (by simp [sz]; omega)]
      rfl
    have hc' := fun b a0 a1 a2 st => hc _ b a0 a1 a2 st rfl
    have ha := fun st => all_map isI xs st
    simp (implicitDefEqProofs := false) [Y.Z.x_nil, Y.Z.x_cons, Y.Z.bind_ok, Y.Z.bind_ex, Y.Z.lift_ok, Y.Z.lift_ex, Y.Z.noEx_ok, Y.Z.seq_nx, Y.Z.seq_rt, Y.Z.seq_bk, Y.Z.seq_ct, Y.Z.seq_ex, Y.Z.kRaise_e, Y.Z.y_raise, Y.Z.y_tryv, Y.Z.tv_nx, Y.Z.tv_rt, Y.Z.tv_ex, Y.hkD, Y.Z.e_fld, Y.Z.fld_e, Y.Z.loop_nx, Y.Z.loop_rt, Y.Z.loop_bk, Y.Z.loop_ct, Y.Z.asT_ok, Y.Z.opt_some, Y.Z.var_some, Y.Z.y_asg, Y.Z.y_aug, Y.Z.y_ite, Y.Z.x_retN, Y.Z.x_brk, Y.Z.x_cnt, Y.Z.x_pass, Y.Z.e_var, Y.Z.e_cst, Y.Z.e_glo, Y.Z.e_bin, Y.Z.e_neg, Y.Z.e_cmp, Y.Z.e_cmp2, Y.Z.e_and, Y.Z.e_or, Y.Z.e_not, Y.Z.e_ife, Y.Z.e_tup, Y.Z.e_lst, Y.Z.e_dic, Y.Z.e_dic0, Y.Z.e_ix, Y.Z.e_sl, Y.Z.e_rev, Y.Z.e_call, Y.Z.e_callK, Y.Z.e_blt, Y.Z.e_isi, Y.Z.e_isq, Y.Z.e_app, Y.Z.e_pop, Y.Z.e_ext, Y.Z.kExt1_e, Y.Z.k_ex_e, Y.Z.k_ex2_e, Y.Z.ex_ref, Y.Z.t_max1, Y.Z.t_min1, Y.Z.e_get2, Y.Z.e_lc, Y.Z.e_lc2, Y.Z.l_nil, Y.Z.l_cons, Y.Z.o_non, Y.Z.o_som, Y.Z.c_val, Y.Z.c_cp, Y.Z.c_cp2, Y.Z.c_and, Y.Z.c_or, Y.Z.c_not, Y.Z.co_non, Y.Z.co_som, Y.Z.i_seq, Y.Z.i_rng1, Y.Z.i_rng2, Y.Z.i_enm, Y.Z.i_zip, Y.Z.g_nm, Y.Z.g_tup, Y.Z.g_ct, Y.Z.g_ix, Y.Z.gs_nil, Y.Z.gs_cons, Y.Z.b_add, Y.Z.b_sub, Y.Z.b_mul, Y.Z.b_div, Y.Z.b_mod, Y.Z.b_pow, Y.Z.b_tup, Y.Z.b_lst, Y.Z.b_mulL, Y.Z.c_lt, Y.Z.c_le, Y.Z.c_gt, Y.Z.c_ge, Y.Z.c_eq, Y.Z.c_ne, Y.Z.c_isN, Y.Z.c_notN, Y.Z.c_isB, Y.Z.c_notB, Y.isNon, Y.Z.newL_f, Y.Z.newL_t, Y.Z.t_len, Y.Z.t_sum, Y.Z.t_any, Y.Z.t_all, Y.Z.t_abs, Y.Z.t_min, Y.Z.t_max, Y.Z.t_tuple, Y.Z.t_list, Y.Z.t_int, Y.Z.t_repr, Y.Z.t_str, Y.Z.st_str, Y.Z.st_int, Y.Z.st_tup, Y.Z.len_tup, Y.Z.len_lst, Y.Z.len_rd, Y.Z.len_ct, Y.Z.tup_lst, Y.Z.tup_tup, Y.Z.tup_ct, Y.Z.lst_lst, Y.Z.lst_tup, Y.Z.sum_ints, Y.Z.sum_ints', Y.Z.w_tup, Y.Z.w_lst, Y.Z.w_rd, Y.Z.w_ct, Y.Z.we_tup, Y.Z.we_lst, Y.Z.we_ct, Y.Z.wz_tl, Y.Z.wz_ll, Y.Z.wz_tt, Y.Z.r_tup, Y.Z.r_lst, Y.Z.r_rd, Y.Z.r_ct, Y.Z.cut_tup, Y.Z.cut_lst, Y.Z.cut_rd, Y.Z.rev_tup, Y.Z.tr_bl, Y.Z.tr_int, Y.Z.tr_tup, Y.Z.tr_lst, Y.Z.refL_lst, Y.Z.getO_lst, Y.Z.r_ref, Y.Z.lstOf_ref, Y.Z.len_ref, Y.Z.tup_ref, Y.Z.lst_ref, Y.Z.w_ref, Y.Z.we_ref, Y.Z.cut_ref, Y.Z.tr_ref, Y.Z.s_ref, Y.Z.so_lst, Y.Z.a_ref, Y.Z.po_ref, Y.Z.ixN_lit, Y.Z.atI_lit, Y.isD, Y.tyD, Y.subTy, Y.Z.fin_rtc, Y.Z.fin_rta, Y.Z.fin_nx, Y.D.lt, Y.ltL, Y.Z.ltL_ints, Y.Z.still_nil2, Y.Z.still_tup, Y.Z.still_ct, Y.Z.still_rd, Y.Z.still_lst, Y.wipe, Y.Z.blO_some, Y.Z.y_par, Y.Z.y_par3, Y.Z.kPar31_e, Y.Z.kPar32_e, Y.Z.kPar33_e, Y.Z.y_expr, Y.Z.y_ret, Y.Z.y_for, Y.Z.x_while, Y.Z.kAsg_e, Y.Z.kAug3_e, Y.Z.kAug2_e, Y.Z.kAug1_e, Y.Z.kIte_e, Y.Z.kPar2_e, Y.Z.kPar1_e, Y.Z.kExpr_e, Y.Z.kFor_e, Y.Z.kBin1_e, Y.Z.kNeg_e, Y.Z.kCmp2_e, Y.Z.kCmp1_e, Y.Z.kC23_e, Y.Z.kC22_e, Y.Z.kC21_e, Y.Z.kAnd_e, Y.Z.kOr_e, Y.Z.kNot_e, Y.Z.kIfe_e, Y.Z.kTup_e, Y.Z.kLst_e, Y.Z.kDic_e, Y.Z.kIx1_e, Y.Z.kSl2_e, Y.Z.kSl1_e, Y.Z.kCall_e, Y.Z.kCK3_e, Y.Z.kCK2_e, Y.Z.kCK1_e, Y.Z.kApp1_e, Y.Z.kG2_e, Y.Z.kG1_e, Y.Z.lcF3_e, Y.Z.lcF2_e, Y.Z.lcF1_e, Y.Z.kLc_e, Y.Z.lcG1_e, Y.Z.lcH2_e, Y.Z.lcH1_e, Y.Z.kLc2_e, Y.Z.kL2_e, Y.Z.kL1_e, Y.Z.kInt_e, Y.Z.kTru_e, Y.Z.kCp2_e, Y.Z.kCp1_e, Y.Z.kCq3_e, Y.Z.kCq2_e, Y.Z.kCq1_e, Y.Z.kCand_e, Y.Z.kCor_e, Y.Z.kCnot_e, Y.Z.kR2_e, Y.Z.kZ_e, Y.Z.kGx3_e, Y.Z.kGx2_e, Y.Z.kGx1_e, Y.Z.kWh_e, Y.Z.k_len_e, Y.Z.k_tup_e, Y.Z.k_lst_e, Y.Z.k_w_e, Y.Z.k_we_e, Y.Z.k_cut_e, Y.Z.k_tr_e, Y.Z.sK2_e, Y.Z.sK1_e, Y.Z.soK_e, Y.Z.k_ap_e, Y.Z.k_po2_e, Y.Z.k_po_e, ir_are_integers, hc', ha]
  · simp (implicitDefEqProofs := false) [Y.Z.x_nil, Y.Z.x_cons, Y.Z.bind_ok, Y.Z.bind_ex, Y.Z.lift_ok, Y.Z.lift_ex, Y.Z.noEx_ok, Y.Z.seq_nx, Y.Z.seq_rt, Y.Z.seq_bk, Y.Z.seq_ct, Y.Z.seq_ex, Y.Z.kRaise_e, Y.Z.y_raise, Y.Z.y_tryv, Y.Z.tv_nx, Y.Z.tv_rt, Y.Z.tv_ex, Y.hkD, Y.Z.e_fld, Y.Z.fld_e, Y.Z.loop_nx, Y.Z.loop_rt, Y.Z.loop_bk, Y.Z.loop_ct, Y.Z.asT_ok, Y.Z.opt_some, Y.Z.var_some, Y.Z.y_asg, Y.Z.y_aug, Y.Z.y_ite, Y.Z.x_retN, Y.Z.x_brk, Y.Z.x_cnt, Y.Z.x_pass, Y.Z.e_var, Y.Z.e_cst, Y.Z.e_glo, Y.Z.e_bin, Y.Z.e_neg, Y.Z.e_cmp, Y.Z.e_cmp2, Y.Z.e_and, Y.Z.e_or, Y.Z.e_not, Y.Z.e_ife, Y.Z.e_tup, Y.Z.e_lst, Y.Z.e_dic, Y.Z.e_dic0, Y.Z.e_ix, Y.Z.e_sl, Y.Z.e_rev, Y.Z.e_call, Y.Z.e_callK, Y.Z.e_blt, Y.Z.e_isi, Y.Z.e_isq, Y.Z.e_app, Y.Z.e_pop, Y.Z.e_ext, Y.Z.kExt1_e, Y.Z.k_ex_e, Y.Z.k_ex2_e, Y.Z.ex_ref, Y.Z.t_max1, Y.Z.t_min1, Y.Z.e_get2, Y.Z.e_lc, Y.Z.e_lc2, Y.Z.l_nil, Y.Z.l_cons, Y.Z.o_non, Y.Z.o_som, Y.Z.c_val, Y.Z.c_cp, Y.Z.c_cp2, Y.Z.c_and, Y.Z.c_or, Y.Z.c_not, Y.Z.co_non, Y.Z.co_som, Y.Z.i_seq, Y.Z.i_rng1, Y.Z.i_rng2, Y.Z.i_enm, Y.Z.i_zip, Y.Z.g_nm, Y.Z.g_tup, Y.Z.g_ct, Y.Z.g_ix, Y.Z.gs_nil, Y.Z.gs_cons, Y.Z.b_add, Y.Z.b_sub, Y.Z.b_mul, Y.Z.b_div, Y.Z.b_mod, Y.Z.b_pow, Y.Z.b_tup, Y.Z.b_lst, Y.Z.b_mulL, Y.Z.c_lt, Y.Z.c_le, Y.Z.c_gt, Y.Z.c_ge, Y.Z.c_eq, Y.Z.c_ne, Y.Z.c_isN, Y.Z.c_notN, Y.Z.c_isB, Y.Z.c_notB, Y.isNon, Y.Z.newL_f, Y.Z.newL_t, Y.Z.t_len, Y.Z.t_sum, Y.Z.t_any, Y.Z.t_all, Y.Z.t_abs, Y.Z.t_min, Y.Z.t_max, Y.Z.t_tuple, Y.Z.t_list, Y.Z.t_int, Y.Z.t_repr, Y.Z.t_str, Y.Z.st_str, Y.Z.st_int, Y.Z.st_tup, Y.Z.len_tup, Y.Z.len_lst, Y.Z.len_rd, Y.Z.len_ct, Y.Z.tup_lst, Y.Z.tup_tup, Y.Z.tup_ct, Y.Z.lst_lst, Y.Z.lst_tup, Y.Z.sum_ints, Y.Z.sum_ints', Y.Z.w_tup, Y.Z.w_lst, Y.Z.w_rd, Y.Z.w_ct, Y.Z.we_tup, Y.Z.we_lst, Y.Z.we_ct, Y.Z.wz_tl, Y.Z.wz_ll, Y.Z.wz_tt, Y.Z.r_tup, Y.Z.r_lst, Y.Z.r_rd, Y.Z.r_ct, Y.Z.cut_tup, Y.Z.cut_lst, Y.Z.cut_rd, Y.Z.rev_tup, Y.Z.tr_bl, Y.Z.tr_int, Y.Z.tr_tup, Y.Z.tr_lst, Y.Z.refL_lst, Y.Z.getO_lst, Y.Z.r_ref, Y.Z.lstOf_ref, Y.Z.len_ref, Y.Z.tup_ref, Y.Z.lst_ref, Y.Z.w_ref, Y.Z.we_ref, Y.Z.cut_ref, Y.Z.tr_ref, Y.Z.s_ref, Y.Z.so_lst, Y.Z.a_ref, Y.Z.po_ref, Y.Z.ixN_lit, Y.Z.atI_lit, Y.isD, Y.tyD, Y.subTy, Y.Z.fin_rtc, Y.Z.fin_rta, Y.Z.fin_nx, Y.D.lt, Y.ltL, Y.Z.ltL_ints, Y.Z.still_nil2, Y.Z.still_tup, Y.Z.still_ct, Y.Z.still_rd, Y.Z.still_lst, Y.wipe, Y.Z.blO_some, Y.Z.y_par, Y.Z.y_par3, Y.Z.kPar31_e, Y.Z.kPar32_e, Y.Z.kPar33_e, Y.Z.y_expr, Y.Z.y_ret, Y.Z.y_for, Y.Z.x_while, Y.Z.kAsg_e, Y.Z.kAug3_e, Y.Z.kAug2_e, Y.Z.kAug1_e, Y.Z.kIte_e, Y.Z.kPar2_e, Y.Z.kPar1_e, Y.Z.kExpr_e, Y.Z.kFor_e, Y.Z.kBin1_e, Y.Z.kNeg_e, Y.Z.kCmp2_e, Y.Z.kCmp1_e, Y.Z.kC23_e, Y.Z.kC22_e, Y.Z.kC21_e, Y.Z.kAnd_e, Y.Z.kOr_e, Y.Z.kNot_e, Y.Z.kIfe_e, Y.Z.kTup_e, Y.Z.kLst_e, Y.Z.kDic_e, Y.Z.kIx1_e, Y.Z.kSl2_e, Y.Z.kSl1_e, Y.Z.kCall_e, Y.Z.kCK3_e, Y.Z.kCK2_e, Y.Z.kCK1_e, Y.Z.kApp1_e, Y.Z.kG2_e, Y.Z.kG1_e, Y.Z.lcF3_e, Y.Z.lcF2_e, Y.Z.lcF1_e, Y.Z.kLc_e, Y.Z.lcG1_e, Y.Z.lcH2_e, Y.Z.lcH1_e, Y.Z.kLc2_e, Y.Z.kL2_e, Y.Z.kL1_e, Y.Z.kInt_e, Y.Z.kTru_e, Y.Z.kCp2_e, Y.Z.kCp1_e, Y.Z.kCq3_e, Y.Z.kCq2_e, Y.Z.kCq1_e, Y.Z.kCand_e, Y.Z.kCor_e, Y.Z.kCnot_e, Y.Z.kR2_e, Y.Z.kZ_e, Y.Z.kGx3_e, Y.Z.kGx2_e, Y.Z.kGx1_e, Y.Z.kWh_e, Y.Z.k_len_e, Y.Z.k_tup_e, Y.Z.k_lst_e, Y.Z.k_w_e, Y.Z.k_we_e, Y.Z.k_cut_e, Y.Z.k_tr_e, Y.Z.sK2_e, Y.Z.sK1_e, Y.Z.soK_e, Y.Z.k_ap_e, Y.Z.k_po2_e, Y.Z.k_po_e, ir_are_integers, hn]
theorem are_ints_not (k : Nat) (d : D) (h : sm d = true) (ht : ∀ xs, d ≠ .tup xs) (n : Int) (b : Nat) (st : Stt) : callF tbl glo 100000 (k+2) 2 [d, .int n] b st = .ok (.bl false) st := by
  rw [en_are_integers]
  cases d <;> first | (cases h; done) | (exact absurd rfl (ht _)) | simp (implicitDefEqProofs := false) [Y.Z.x_nil, Y.Z.x_cons, Y.Z.bind_ok, Y.Z.bind_ex, Y.Z.lift_ok, Y.Z.lift_ex, Y.Z.noEx_ok, Y.Z.seq_nx, Y.Z.seq_rt, Y.Z.seq_bk, Y.Z.seq_ct, Y.Z.seq_ex, Y.Z.kRaise_e, Y.Z.y_raise, Y.Z.y_tryv, Y.Z.tv_nx, Y.Z.tv_rt, Y.Z.tv_ex, Y.hkD, Y.Z.e_fld, Y.Z.fld_e, Y.Z.loop_nx, Y.Z.loop_rt, Y.Z.loop_bk, Y.Z.loop_ct, Y.Z.asT_ok, Y.Z.opt_some, Y.Z.var_some, Y.Z.y_asg, Y.Z.y_aug, Y.Z.y_ite, Y.Z.x_retN, Y.Z.x_brk, Y.Z.x_cnt, Y.Z.x_pass, Y.Z.e_var, Y.Z.e_cst, Y.Z.e_glo, Y.Z.e_bin, Y.Z.e_neg, Y.Z.e_cmp, Y.Z.e_cmp2, Y.Z.e_and, Y.Z.e_or, Y.Z.e_not, Y.Z.e_ife, Y.Z.e_tup, Y.Z.e_lst, Y.Z.e_dic, Y.Z.e_dic0, Y.Z.e_ix, Y.Z.e_sl, Y.Z.e_rev, Y.Z.e_call, Y.Z.e_callK, Y.Z.e_blt, Y.Z.e_isi, Y.Z.e_isq, Y.Z.e_app, Y.Z.e_pop, Y.Z.e_ext, Y.Z.kExt1_e, Y.Z.k_ex_e, Y.Z.k_ex2_e, Y.Z.ex_ref, Y.Z.t_max1, Y.Z.t_min1, Y.Z.e_get2, Y.Z.e_lc, Y.Z.e_lc2, Y.Z.l_nil, Y.Z.l_cons, Y.Z.o_non, Y.Z.o_som, Y.Z.c_val, Y.Z.c_cp, Y.Z.c_cp2, Y.Z.c_and, Y.Z.c_or, Y.Z.c_not, Y.Z.co_non, Y.Z.co_som, Y.Z.i_seq, Y.Z.i_rng1, Y.Z.i_rng2, Y.Z.i_enm, Y.Z.i_zip, Y.Z.g_nm, Y.Z.g_tup, Y.Z.g_ct, Y.Z.g_ix, Y.Z.gs_nil, Y.Z.gs_cons, Y.Z.b_add, Y.Z.b_sub, Y.Z.b_mul, Y.Z.b_div, Y.Z.b_mod, Y.Z.b_pow, Y.Z.b_tup, Y.Z.b_lst, Y.Z.b_mulL, Y.Z.c_lt, Y.Z.c_le, Y.Z.c_gt, Y.Z.c_ge, Y.Z.c_eq, Y.Z.c_ne, Y.Z.c_isN, Y.Z.c_notN, Y.Z.c_isB, Y.Z.c_notB, Y.isNon, Y.Z.newL_f, Y.Z.newL_t, Y.Z.t_len, Y.Z.t_sum, Y.Z.t_any, Y.Z.t_all, Y.Z.t_abs, Y.Z.t_min, Y.Z.t_max, Y.Z.t_tuple, Y.Z.t_list, Y.Z.t_int, Y.Z.t_repr, Y.Z.t_str, Y.Z.st_str, Y.Z.st_int, Y.Z.st_tup, Y.Z.len_tup, Y.Z.len_lst, Y.Z.len_rd, Y.Z.len_ct, Y.Z.tup_lst, Y.Z.tup_tup, Y.Z.tup_ct, Y.Z.lst_lst, Y.Z.lst_tup, Y.Z.sum_ints, Y.Z.sum_ints', Y.Z.w_tup, Y.Z.w_lst, Y.Z.w_rd, Y.Z.w_ct, Y.Z.we_tup, Y.Z.we_lst, Y.Z.we_ct, Y.Z.wz_tl, Y.Z.wz_ll, Y.Z.wz_tt, Y.Z.r_tup, Y.Z.r_lst, Y.Z.r_rd, Y.Z.r_ct, Y.Z.cut_tup, Y.Z.cut_lst, Y.Z.cut_rd, Y.Z.rev_tup, Y.Z.tr_bl, Y.Z.tr_int, Y.Z.tr_tup, Y.Z.tr_lst, Y.Z.refL_lst, Y.Z.getO_lst, Y.Z.r_ref, Y.Z.lstOf_ref, Y.Z.len_ref, Y.Z.tup_ref, Y.Z.lst_ref, Y.Z.w_ref, Y.Z.we_ref, Y.Z.cut_ref, Y.Z.tr_ref, Y.Z.s_ref, Y.Z.so_lst, Y.Z.a_ref, Y.Z.po_ref, Y.Z.ixN_lit, Y.Z.atI_lit, Y.isD, Y.tyD, Y.subTy, Y.Z.fin_rtc, Y.Z.fin_rta, Y.Z.fin_nx, Y.D.lt, Y.ltL, Y.Z.ltL_ints, Y.Z.still_nil2, Y.Z.still_tup, Y.Z.still_ct, Y.Z.still_rd, Y.Z.still_lst, Y.wipe, Y.Z.blO_some, Y.Z.y_par, Y.Z.y_par3, Y.Z.kPar31_e, Y.Z.kPar32_e, Y.Z.kPar33_e, Y.Z.y_expr, Y.Z.y_ret, Y.Z.y_for, Y.Z.x_while, Y.Z.kAsg_e, Y.Z.kAug3_e, Y.Z.kAug2_e, Y.Z.kAug1_e, Y.Z.kIte_e, Y.Z.kPar2_e, Y.Z.kPar1_e, Y.Z.kExpr_e, Y.Z.kFor_e, Y.Z.kBin1_e, Y.Z.kNeg_e, Y.Z.kCmp2_e, Y.Z.kCmp1_e, Y.Z.kC23_e, Y.Z.kC22_e, Y.Z.kC21_e, Y.Z.kAnd_e, Y.Z.kOr_e, Y.Z.kNot_e, Y.Z.kIfe_e, Y.Z.kTup_e, Y.Z.kLst_e, Y.Z.kDic_e, Y.Z.kIx1_e, Y.Z.kSl2_e, Y.Z.kSl1_e, Y.Z.kCall_e, Y.Z.kCK3_e, Y.Z.kCK2_e, Y.Z.kCK1_e, Y.Z.kApp1_e, Y.Z.kG2_e, Y.Z.kG1_e, Y.Z.lcF3_e, Y.Z.lcF2_e, Y.Z.lcF1_e, Y.Z.kLc_e, Y.Z.lcG1_e, Y.Z.lcH2_e, Y.Z.lcH1_e, Y.Z.kLc2_e, Y.Z.kL2_e, Y.Z.kL1_e, Y.Z.kInt_e, Y.Z.kTru_e, Y.Z.kCp2_e, Y.Z.kCp1_e, Y.Z.kCq3_e, Y.Z.kCq2_e, Y.Z.kCq1_e, Y.Z.kCand_e, Y.Z.kCor_e, Y.Z.kCnot_e, Y.Z.kR2_e, Y.Z.kZ_e, Y.Z.kGx3_e, Y.Z.kGx2_e, Y.Z.kGx1_e, Y.Z.kWh_e, Y.Z.k_len_e, Y.Z.k_tup_e, Y.Z.k_lst_e, Y.Z.k_w_e, Y.Z.k_we_e, Y.Z.k_cut_e, Y.Z.k_tr_e, Y.Z.sK2_e, Y.Z.sK1_e, Y.Z.soK_e, Y.Z.k_ap_e, Y.Z.k_po2_e, Y.Z.k_po_e, ir_are_integers]
/-- a value as an element of so many places -/
def elB (n : Nat) : D → Bool
  | .tup xs => decide (xs.length = n) && xs.all isI
  | _ => false
def smA : D → Prop
  | .tup xs => (∀ d ∈ xs, sm d = true) ∧ xs.length ≤ 1000
  | d => sm d = true
theorem smA_sm {d : D} (h : smA d) : sm d = true := by
  cases d <;> first | rfl | exact h
theorem are_ints_any (k : Nat) (d : D) (h : smA d) (n : Nat) (b : Nat) (st : Stt) : callF tbl glo 100000 (k+2) 2 [d, .int n] b st = .ok (.bl (elB n d)) st := by
  by_cases ht : ∃ xs, d = .tup xs
  · obtain ⟨xs, rfl⟩ := ht
    rw [are_ints_tup k xs h.1 n h.2]
    have : decide ((xs.length : Int) = (n : Int)) = decide (xs.length = n) := decide_eq_decide.mpr (by omega)
    rw [this]; rfl
  · rw [are_ints_not k d (smA_sm h) (fun xs e => ht ⟨xs, e⟩)]
    have : elB n d = false := by
      cases d <;> first | rfl | exact absurd ⟨_, rfl⟩ ht
    rw [this]
theorem is_elem_any (k : Nat) (ss : List Int) (hs : okS ss) (h3 : ss.length ≤ 3) (d : D) (h : smA d) (b : Nat) (st : Stt) : callF tbl glo 100000 (k+3) 8 [.tup (ss.map .int), d] b st = .ok (.bl (elB (wid ss) d)) st := by
  rw [en_is_element_in]
  have h1 := fun b st => sp_width_in (k+1) ss hs h3 b st
  have h2 := fun b st => are_ints_any k d h (wid ss) b st
  generalize ss.map D.int = S at *
  simp (implicitDefEqProofs := false) [Y.Z.x_nil, Y.Z.x_cons, Y.Z.bind_ok, Y.Z.bind_ex, Y.Z.lift_ok, Y.Z.lift_ex, Y.Z.noEx_ok, Y.Z.seq_nx, Y.Z.seq_rt, Y.Z.seq_bk, Y.Z.seq_ct, Y.Z.seq_ex, Y.Z.kRaise_e, Y.Z.y_raise, Y.Z.y_tryv, Y.Z.tv_nx, Y.Z.tv_rt, Y.Z.tv_ex, Y.hkD, Y.Z.e_fld, Y.Z.fld_e, Y.Z.loop_nx, Y.Z.loop_rt, Y.Z.loop_bk, Y.Z.loop_ct, Y.Z.asT_ok, Y.Z.opt_some, Y.Z.var_some, Y.Z.y_asg, Y.Z.y_aug, Y.Z.y_ite, Y.Z.x_retN, Y.Z.x_brk, Y.Z.x_cnt, Y.Z.x_pass, Y.Z.e_var, Y.Z.e_cst, Y.Z.e_glo, Y.Z.e_bin, Y.Z.e_neg, Y.Z.e_cmp, Y.Z.e_cmp2, Y.Z.e_and, Y.Z.e_or, Y.Z.e_not, Y.Z.e_ife, Y.Z.e_tup, Y.Z.e_lst, Y.Z.e_dic, Y.Z.e_dic0, Y.Z.e_ix, Y.Z.e_sl, Y.Z.e_rev, Y.Z.e_call, Y.Z.e_callK, Y.Z.e_blt, Y.Z.e_isi, Y.Z.e_isq, Y.Z.e_app, Y.Z.e_pop, Y.Z.e_ext, Y.Z.kExt1_e, Y.Z.k_ex_e, Y.Z.k_ex2_e, Y.Z.ex_ref, Y.Z.t_max1, Y.Z.t_min1, Y.Z.e_get2, Y.Z.e_lc, Y.Z.e_lc2, Y.Z.l_nil, Y.Z.l_cons, Y.Z.o_non, Y.Z.o_som, Y.Z.c_val, Y.Z.c_cp, Y.Z.c_cp2, Y.Z.c_and, Y.Z.c_or, Y.Z.c_not, Y.Z.co_non, Y.Z.co_som, Y.Z.i_seq, Y.Z.i_rng1, Y.Z.i_rng2, Y.Z.i_enm, Y.Z.i_zip, Y.Z.g_nm, Y.Z.g_tup, Y.Z.g_ct, Y.Z.g_ix, Y.Z.gs_nil, Y.Z.gs_cons, Y.Z.b_add, Y.Z.b_sub, Y.Z.b_mul, Y.Z.b_div, Y.Z.b_mod, Y.Z.b_pow, Y.Z.b_tup, Y.Z.b_lst, Y.Z.b_mulL, Y.Z.c_lt, Y.Z.c_le, Y.Z.c_gt, Y.Z.c_ge, Y.Z.c_eq, Y.Z.c_ne, Y.Z.c_isN, Y.Z.c_notN, Y.Z.c_isB, Y.Z.c_notB, Y.isNon, Y.Z.newL_f, Y.Z.newL_t, Y.Z.t_len, Y.Z.t_sum, Y.Z.t_any, Y.Z.t_all, Y.Z.t_abs, Y.Z.t_min, Y.Z.t_max, Y.Z.t_tuple, Y.Z.t_list, Y.Z.t_int, Y.Z.t_repr, Y.Z.t_str, Y.Z.st_str, Y.Z.st_int, Y.Z.st_tup, Y.Z.len_tup, Y.Z.len_lst, Y.Z.len_rd, Y.Z.len_ct, Y.Z.tup_lst, Y.Z.tup_tup, Y.Z.tup_ct, Y.Z.lst_lst, Y.Z.lst_tup, Y.Z.sum_ints, Y.Z.sum_ints', Y.Z.w_tup, Y.Z.w_lst, Y.Z.w_rd, Y.Z.w_ct, Y.Z.we_tup, Y.Z.we_lst, Y.Z.we_ct, Y.Z.wz_tl, Y.Z.wz_ll, Y.Z.wz_tt, Y.Z.r_tup, Y.Z.r_lst, Y.Z.r_rd, Y.Z.r_ct, Y.Z.cut_tup, Y.Z.cut_lst, Y.Z.cut_rd, Y.Z.rev_tup, Y.Z.tr_bl, Y.Z.tr_int, Y.Z.tr_tup, Y.Z.tr_lst, Y.Z.refL_lst, Y.Z.getO_lst, Y.Z.r_ref, Y.Z.lstOf_ref, Y.Z.len_ref, Y.Z.tup_ref, Y.Z.lst_ref, Y.Z.w_ref, Y.Z.we_ref, Y.Z.cut_ref, Y.Z.tr_ref, Y.Z.s_ref, Y.Z.so_lst, Y.Z.a_ref, Y.Z.po_ref, Y.Z.ixN_lit, Y.Z.atI_lit, Y.isD, Y.tyD, Y.subTy, Y.Z.fin_rtc, Y.Z.fin_rta, Y.Z.fin_nx, Y.D.lt, Y.ltL, Y.Z.ltL_ints, Y.Z.still_nil2, Y.Z.still_tup, Y.Z.still_ct, Y.Z.still_rd, Y.Z.still_lst, Y.wipe, Y.Z.blO_some, Y.Z.y_par, Y.Z.y_par3, Y.Z.kPar31_e, Y.Z.kPar32_e, Y.Z.kPar33_e, Y.Z.y_expr, Y.Z.y_ret, Y.Z.y_for, Y.Z.x_while, Y.Z.kAsg_e, Y.Z.kAug3_e, Y.Z.kAug2_e, Y.Z.kAug1_e, Y.Z.kIte_e, Y.Z.kPar2_e, Y.Z.kPar1_e, Y.Z.kExpr_e, Y.Z.kFor_e, Y.Z.kBin1_e, Y.Z.kNeg_e, Y.Z.kCmp2_e, Y.Z.kCmp1_e, Y.Z.kC23_e, Y.Z.kC22_e, Y.Z.kC21_e, Y.Z.kAnd_e, Y.Z.kOr_e, Y.Z.kNot_e, Y.Z.kIfe_e, Y.Z.kTup_e, Y.Z.kLst_e, Y.Z.kDic_e, Y.Z.kIx1_e, Y.Z.kSl2_e, Y.Z.kSl1_e, Y.Z.kCall_e, Y.Z.kCK3_e, Y.Z.kCK2_e, Y.Z.kCK1_e, Y.Z.kApp1_e, Y.Z.kG2_e, Y.Z.kG1_e, Y.Z.lcF3_e, Y.Z.lcF2_e, Y.Z.lcF1_e, Y.Z.kLc_e, Y.Z.lcG1_e, Y.Z.lcH2_e, Y.Z.lcH1_e, Y.Z.kLc2_e, Y.Z.kL2_e, Y.Z.kL1_e, Y.Z.kInt_e, Y.Z.kTru_e, Y.Z.kCp2_e, Y.Z.kCp1_e, Y.Z.kCq3_e, Y.Z.kCq2_e, Y.Z.kCq1_e, Y.Z.kCand_e, Y.Z.kCor_e, Y.Z.kCnot_e, Y.Z.kR2_e, Y.Z.kZ_e, Y.Z.kGx3_e, Y.Z.kGx2_e, Y.Z.kGx1_e, Y.Z.kWh_e, Y.Z.k_len_e, Y.Z.k_tup_e, Y.Z.k_lst_e, Y.Z.k_w_e, Y.Z.k_we_e, Y.Z.k_cut_e, Y.Z.k_tr_e, Y.Z.sK2_e, Y.Z.sK1_e, Y.Z.soK_e, Y.Z.k_ap_e, Y.Z.k_po2_e, Y.Z.k_po_e, ir_is_element_in, h1, h2]
end LW

namespace LW
open PySem Y Y.Z
/-- a value as a word -/
def ltB : D → Bool
  | .int i => decide (-3 ≤ i) && decide (i ≤ 3) && !decide (i = 0)
  | _ => false
def wordB : D → Bool
  | .tup xs => xs.all ltB
  | _ => false
def toI : D → Int
  | .int i => i
  | _ => 0
theorem ints_of : ∀ xs : List D, xs.all isI = true → xs = (xs.map toI).map .int
  | [], _ => rfl
  | d :: ds, h => by
    rw [List.all_cons, Bool.and_eq_true] at h
    have ih := ints_of ds h.2
    cases d <;> first | (cases h.1; done) | skip
    simp only [List.map_cons, toI, List.cons.injEq, true_and]
    exact ih
theorem ltB_isI : ∀ xs : List D, xs.all isI = false → xs.all ltB = false
  | [], h => by cases h
  | d :: ds, h => by
    rw [List.all_cons, Bool.and_eq_false_iff] at h
    rw [List.all_cons, Bool.and_eq_false_iff]
    rcases h with h | h
    · left; cases d <;> first | rfl | cases h
    · right; exact ltB_isI ds h
theorem check_word_any (k : Nat) (d : D) (h : smA d) (hl : d.lt 0 = true) (b : Nat) (st : Stt) : callF tbl glo 100000 (k+3) 12 [d] b st = if wordB d = true then .ok .non st else .ex 3 d st := by
  rw [en_check_word]
  by_cases ht : ∃ xs, d = .tup xs
  · obtain ⟨xs, rfl⟩ := ht
    have h1 := fun b st => are_ints_tup k xs h.1 (xs.length : Int) h.2 b st
    simp only [decide_true, Bool.true_and] at h1
    by_cases hi : xs.all isI = true
    · have e := ints_of xs hi
      generalize xs.map toI = ws at e
      subst e
      rw [hi] at h1
      have hc : ∀ b a0 a1 st, lcA [] (lcF ⟨callF tbl glo 100000 (k+2), glo, 100000⟩ b (.nm 1) [1] [a0, a1] .non (.and (.cmp2 .le .le (.neg (.cst (.int 3))) (.var 1) (.cst (.int 3))) (.cmp .ne (.var 1) (.cst (.int 0))))) (ws.map .int) [] st = .ok (ws.map fun i => .bl (ltB (.int i))) st := by
        intro b a0 a1 st
        have := lcA_ints (src := []) (f := lcF ⟨callF tbl glo 100000 (k+2), glo, 100000⟩ b (.nm 1) [1] [a0, a1] .non (.and (.cmp2 .le .le (.neg (.cst (.int 3))) (.var 1) (.cst (.int 3))) (.cmp .ne (.var 1) (.cst (.int 0))))) (st := st) (fun i => .bl (ltB (.int i))) rfl ws (by
          intro i hi acc ha
          by_cases h1 : -3 ≤ i
          · by_cases h2 : i ≤ 3
            · by_cases h3 : i = 0
              · subst h3
                simp (implicitDefEqProofs := false) [Y.Z.x_nil, Y.Z.x_cons, Y.Z.bind_ok, Y.Z.bind_ex, Y.Z.lift_ok, Y.Z.lift_ex, Y.Z.noEx_ok, Y.Z.seq_nx, Y.Z.seq_rt, Y.Z.seq_bk, Y.Z.seq_ct, Y.Z.seq_ex, Y.Z.kRaise_e, Y.Z.y_raise, Y.Z.y_tryv, Y.Z.tv_nx, Y.Z.tv_rt, Y.Z.tv_ex, Y.hkD, Y.Z.e_fld, Y.Z.fld_e, Y.Z.loop_nx, Y.Z.loop_rt, Y.Z.loop_bk, Y.Z.loop_ct, Y.Z.asT_ok, Y.Z.opt_some, Y.Z.var_some, Y.Z.y_asg, Y.Z.y_aug, Y.Z.y_ite, Y.Z.x_retN, Y.Z.x_brk, Y.Z.x_cnt, Y.Z.x_pass, Y.Z.e_var, Y.Z.e_cst, Y.Z.e_glo, Y.Z.e_bin, Y.Z.e_neg, Y.Z.e_cmp, Y.Z.e_cmp2, Y.Z.e_and, Y.Z.e_or, Y.Z.e_not, Y.Z.e_ife, Y.Z.e_tup, Y.Z.e_lst, Y.Z.e_dic, Y.Z.e_dic0, Y.Z.e_ix, Y.Z.e_sl, Y.Z.e_rev, Y.Z.e_call, Y.Z.e_callK, Y.Z.e_blt, Y.Z.e_isi, Y.Z.e_isq, Y.Z.e_app, Y.Z.e_pop, Y.Z.e_ext, Y.Z.kExt1_e, Y.Z.k_ex_e, Y.Z.k_ex2_e, Y.Z.ex_ref, Y.Z.t_max1, Y.Z.t_min1, Y.Z.e_get2, Y.Z.e_lc, Y.Z.e_lc2, Y.Z.l_nil, Y.Z.l_cons, Y.Z.o_non, Y.Z.o_som, Y.Z.c_val, Y.Z.c_cp, Y.Z.c_cp2, Y.Z.c_and, Y.Z.c_or, Y.Z.c_not, Y.Z.co_non, Y.Z.co_som, Y.Z.i_seq, Y.Z.i_rng1, Y.Z.i_rng2, Y.Z.i_enm, Y.Z.i_zip, Y.Z.g_nm, Y.Z.g_tup, Y.Z.g_ct, Y.Z.g_ix, Y.Z.gs_nil, Y.Z.gs_cons, Y.Z.b_add, Y.Z.b_sub, Y.Z.b_mul, Y.Z.b_div, Y.Z.b_mod, Y.Z.b_pow, Y.Z.b_tup, Y.Z.b_lst, Y.Z.b_mulL, Y.Z.c_lt, Y.Z.c_le, Y.Z.c_gt, Y.Z.c_ge, Y.Z.c_eq, Y.Z.c_ne, Y.Z.c_isN, Y.Z.c_notN, Y.Z.c_isB, Y.Z.c_notB, Y.isNon, Y.Z.newL_f, Y.Z.newL_t, Y.Z.t_len, Y.Z.t_sum, Y.Z.t_any, Y.Z.t_all, Y.Z.t_abs, Y.Z.t_min, Y.Z.t_max, Y.Z.t_tuple, Y.Z.t_list, Y.Z.t_int, Y.Z.t_repr, Y.Z.t_str, Y.Z.st_str, Y.Z.st_int, Y.Z.st_tup, Y.Z.len_tup, Y.Z.len_lst, Y.Z.len_rd, Y.Z.len_ct, Y.Z.tup_lst, Y.Z.tup_tup, Y.Z.tup_ct, Y.Z.lst_lst, Y.Z.lst_tup, Y.Z.sum_ints, Y.Z.sum_ints', Y.Z.w_tup, Y.Z.w_lst, Y.Z.w_rd, Y.Z.w_ct, Y.Z.we_tup, Y.Z.we_lst, Y.Z.we_ct, Y.Z.wz_tl, Y.Z.wz_ll, Y.Z.wz_tt, Y.Z.r_tup, Y.Z.r_lst, Y.Z.r_rd, Y.Z.r_ct, Y.Z.cut_tup, Y.Z.cut_lst, Y.Z.cut_rd, Y.Z.rev_tup, Y.Z.tr_bl, Y.Z.tr_int, Y.Z.tr_tup, Y.Z.tr_lst, Y.Z.refL_lst, Y.Z.getO_lst, Y.Z.r_ref, Y.Z.lstOf_ref, Y.Z.len_ref, Y.Z.tup_ref, Y.Z.lst_ref, Y.Z.w_ref, Y.Z.we_ref, Y.Z.cut_ref, Y.Z.tr_ref, Y.Z.s_ref, Y.Z.so_lst, Y.Z.a_ref, Y.Z.po_ref, Y.Z.ixN_lit, Y.Z.atI_lit, Y.isD, Y.tyD, Y.subTy, Y.Z.fin_rtc, Y.Z.fin_rta, Y.Z.fin_nx, Y.D.lt, Y.ltL, Y.Z.ltL_ints, Y.Z.still_nil2, Y.Z.still_tup, Y.Z.still_ct, Y.Z.still_rd, Y.Z.still_lst, Y.wipe, Y.Z.blO_some, Y.Z.y_par, Y.Z.y_par3, Y.Z.kPar31_e, Y.Z.kPar32_e, Y.Z.kPar33_e, Y.Z.y_expr, Y.Z.y_ret, Y.Z.y_for, Y.Z.x_while, Y.Z.kAsg_e, Y.Z.kAug3_e, Y.Z.kAug2_e, Y.Z.kAug1_e, Y.Z.kIte_e, Y.Z.kPar2_e, Y.Z.kPar1_e, Y.Z.kExpr_e, Y.Z.kFor_e, Y.Z.kBin1_e, Y.Z.kNeg_e, Y.Z.kCmp2_e, Y.Z.kCmp1_e, Y.Z.kC23_e, Y.Z.kC22_e, Y.Z.kC21_e, Y.Z.kAnd_e, Y.Z.kOr_e, Y.Z.kNot_e, Y.Z.kIfe_e, Y.Z.kTup_e, Y.Z.kLst_e, Y.Z.kDic_e, Y.Z.kIx1_e, Y.Z.kSl2_e, Y.Z.kSl1_e, Y.Z.kCall_e, Y.Z.kCK3_e, Y.Z.kCK2_e, Y.Z.kCK1_e, Y.Z.kApp1_e, Y.Z.kG2_e, Y.Z.kG1_e, Y.Z.lcF3_e, Y.Z.lcF2_e, Y.Z.lcF1_e, Y.Z.kLc_e, Y.Z.lcG1_e, Y.Z.lcH2_e, Y.Z.lcH1_e, Y.Z.kLc2_e, Y.Z.kL2_e, Y.Z.kL1_e, Y.Z.kInt_e, Y.Z.kTru_e, Y.Z.kCp2_e, Y.Z.kCp1_e, Y.Z.kCq3_e, Y.Z.kCq2_e, Y.Z.kCq1_e, Y.Z.kCand_e, Y.Z.kCor_e, Y.Z.kCnot_e, Y.Z.kR2_e, Y.Z.kZ_e, Y.Z.kGx3_e, Y.Z.kGx2_e, Y.Z.kGx1_e, Y.Z.kWh_e, Y.Z.k_len_e, Y.Z.k_tup_e, Y.Z.k_lst_e, Y.Z.k_w_e, Y.Z.k_we_e, Y.Z.k_cut_e, Y.Z.k_tr_e, Y.Z.sK2_e, Y.Z.sK1_e, Y.Z.soK_e, Y.Z.k_ap_e, Y.Z.k_po2_e, Y.Z.k_po_e, lcF, push, ha, ltB]
              · simp (implicitDefEqProofs := false) [Y.Z.x_nil, Y.Z.x_cons, Y.Z.bind_ok, Y.Z.bind_ex, Y.Z.lift_ok, Y.Z.lift_ex, Y.Z.noEx_ok, Y.Z.seq_nx, Y.Z.seq_rt, Y.Z.seq_bk, Y.Z.seq_ct, Y.Z.seq_ex, Y.Z.kRaise_e, Y.Z.y_raise, Y.Z.y_tryv, Y.Z.tv_nx, Y.Z.tv_rt, Y.Z.tv_ex, Y.hkD, Y.Z.e_fld, Y.Z.fld_e, Y.Z.loop_nx, Y.Z.loop_rt, Y.Z.loop_bk, Y.Z.loop_ct, Y.Z.asT_ok, Y.Z.opt_some, Y.Z.var_some, Y.Z.y_asg, Y.Z.y_aug, Y.Z.y_ite, Y.Z.x_retN, Y.Z.x_brk, Y.Z.x_cnt, Y.Z.x_pass, Y.Z.e_var, Y.Z.e_cst, Y.Z.e_glo, Y.Z.e_bin, Y.Z.e_neg, Y.Z.e_cmp, Y.Z.e_cmp2, Y.Z.e_and, Y.Z.e_or, Y.Z.e_not, Y.Z.e_ife, Y.Z.e_tup, Y.Z.e_lst, Y.Z.e_dic, Y.Z.e_dic0, Y.Z.e_ix, Y.Z.e_sl, Y.Z.e_rev, Y.Z.e_call, Y.Z.e_callK, Y.Z.e_blt, Y.Z.e_isi, Y.Z.e_isq, Y.Z.e_app, Y.Z.e_pop, Y.Z.e_ext, Y.Z.kExt1_e, Y.Z.k_ex_e, Y.Z.k_ex2_e, Y.Z.ex_ref, Y.Z.t_max1, Y.Z.t_min1, Y.Z.e_get2, Y.Z.e_lc, Y.Z.e_lc2, Y.Z.l_nil, Y.Z.l_cons, Y.Z.o_non, Y.Z.o_som, Y.Z.c_val, Y.Z.c_cp, Y.Z.c_cp2, Y.Z.c_and, Y.Z.c_or, Y.Z.c_not, Y.Z.co_non, Y.Z.co_som, Y.Z.i_seq, Y.Z.i_rng1, Y.Z.i_rng2, Y.Z.i_enm, Y.Z.i_zip, Y.Z.g_nm, Y.Z.g_tup, Y.Z.g_ct, Y.Z.g_ix, Y.Z.gs_nil, Y.Z.gs_cons, Y.Z.b_add, Y.Z.b_sub, Y.Z.b_mul, Y.Z.b_div, Y.Z.b_mod, Y.Z.b_pow, Y.Z.b_tup, Y.Z.b_lst, Y.Z.b_mulL, Y.Z.c_lt, Y.Z.c_le, Y.Z.c_gt, Y.Z.c_ge, Y.Z.c_eq, Y.Z.c_ne, Y.Z.c_isN, Y.Z.c_notN, Y.Z.c_isB, Y.Z.c_notB, Y.isNon, Y.Z.newL_f, Y.Z.newL_t, Y.Z.t_len, Y.Z.t_sum, Y.Z.t_any, Y.Z.t_all, Y.Z.t_abs, Y.Z.t_min, Y.Z.t_max, Y.Z.t_tuple, Y.Z.t_list, Y.Z.t_int, Y.Z.t_repr, Y.Z.t_str, Y.Z.st_str, Y.Z.st_int, Y.Z.st_tup, Y.Z.len_tup, Y.Z.len_lst, Y.Z.len_rd, Y.Z.len_ct, Y.Z.tup_lst, Y.Z.tup_tup, Y.Z.tup_ct, Y.Z.lst_lst, Y.Z.lst_tup, Y.Z.sum_ints, Y.Z.sum_ints', Y.Z.w_tup, Y.Z.w_lst, Y.Z.w_rd, Y.Z.w_ct, Y.Z.we_tup, Y.Z.we_lst, Y.Z.we_ct, Y.Z.wz_tl, Y.Z.wz_ll, Y.Z.wz_tt, Y.Z.r_tup, Y.Z.r_lst, Y.Z.r_rd, Y.Z.r_ct, Y.Z.cut_tup, Y.Z.cut_lst, Y.Z.cut_rd, Y.Z.rev_tup, Y.Z.tr_bl, Y.Z.tr_int, Y.Z.tr_tup, Y.Z.tr_lst, Y.Z.refL_lst, Y.Z.getO_lst, Y.Z.r_ref, Y.Z.lstOf_ref, Y.Z.len_ref, Y.Z.tup_ref, Y.Z.lst_ref, Y.Z.w_ref, Y.Z.we_ref, Y.Z.cut_ref, Y.Z.tr_ref, Y.Z.s_ref, Y.Z.so_lst, Y.Z.a_ref, Y.Z.po_ref, Y.Z.ixN_lit, Y.Z.atI_lit, Y.isD, Y.tyD, Y.subTy, Y.Z.fin_rtc, Y.Z.fin_rta, Y.Z.fin_nx, Y.D.lt, Y.ltL, Y.Z.ltL_ints, Y.Z.still_nil2, Y.Z.still_tup, Y.Z.still_ct, Y.Z.still_rd, Y.Z.still_lst, Y.wipe, Y.Z.blO_some, Y.Z.y_par, Y.Z.y_par3, Y.Z.kPar31_e, Y.Z.kPar32_e, Y.Z.kPar33_e, Y.Z.y_expr, Y.Z.y_ret, Y.Z.y_for, Y.Z.x_while, Y.Z.kAsg_e, Y.Z.kAug3_e, Y.Z.kAug2_e, Y.Z.kAug1_e, Y.Z.kIte_e, Y.Z.kPar2_e, Y.Z.kPar1_e, Y.Z.kExpr_e, Y.Z.kFor_e, Y.Z.kBin1_e, Y.Z.kNeg_e, Y.Z.kCmp2_e, Y.Z.kCmp1_e, Y.Z.kC23_e, Y.Z.kC22_e, Y.Z.kC21_e, Y.Z.kAnd_e, Y.Z.kOr_e, Y.Z.kNot_e, Y.Z.kIfe_e, Y.Z.kTup_e, Y.Z.kLst_e, Y.Z.kDic_e, Y.Z.kIx1_e, Y.Z.kSl2_e, Y.Z.kSl1_e, Y.Z.kCall_e, Y.Z.kCK3_e, Y.Z.kCK2_e, Y.Z.kCK1_e, Y.Z.kApp1_e, Y.Z.kG2_e, Y.Z.kG1_e, Y.Z.lcF3_e, Y.Z.lcF2_e, Y.Z.lcF1_e, Y.Z.kLc_e, Y.Z.lcG1_e, Y.Z.lcH2_e, Y.Z.lcH1_e, Y.Z.kLc2_e, Y.Z.kL2_e, Y.Z.kL1_e, Y.Z.kInt_e, Y.Z.kTru_e, Y.Z.kCp2_e, Y.Z.kCp1_e, Y.Z.kCq3_e, Y.Z.kCq2_e, Y.Z.kCq1_e, Y.Z.kCand_e, Y.Z.kCor_e, Y.Z.kCnot_e, Y.Z.kR2_e, Y.Z.kZ_e, Y.Z.kGx3_e, Y.Z.kGx2_e, Y.Z.kGx1_e, Y.Z.kWh_e, Y.Z.k_len_e, Y.Z.k_tup_e, Y.Z.k_lst_e, Y.Z.k_w_e, Y.Z.k_we_e, Y.Z.k_cut_e, Y.Z.k_tr_e, Y.Z.sK2_e, Y.Z.sK1_e, Y.Z.soK_e, Y.Z.k_ap_e, Y.Z.k_po2_e, Y.Z.k_po_e, lcF, push, ha, h1, h2, h3, ltB]
            · simp (implicitDefEqProofs := false) [Y.Z.x_nil, Y.Z.x_cons, Y.Z.bind_ok, Y.Z.bind_ex, Y.Z.lift_ok, Y.Z.lift_ex, Y.Z.noEx_ok, Y.Z.seq_nx, Y.Z.seq_rt, Y.Z.seq_bk, Y.Z.seq_ct, Y.Z.seq_ex, Y.Z.kRaise_e, Y.Z.y_raise, Y.Z.y_tryv, Y.Z.tv_nx, Y.Z.tv_rt, Y.Z.tv_ex, Y.hkD, Y.Z.e_fld, Y.Z.fld_e, Y.Z.loop_nx, Y.Z.loop_rt, Y.Z.loop_bk, Y.Z.loop_ct, Y.Z.asT_ok, Y.Z.opt_some, Y.Z.var_some, Y.Z.y_asg, Y.Z.y_aug, Y.Z.y_ite, Y.Z.x_retN, Y.Z.x_brk, Y.Z.x_cnt, Y.Z.x_pass, Y.Z.e_var, Y.Z.e_cst, Y.Z.e_glo, Y.Z.e_bin, Y.Z.e_neg, Y.Z.e_cmp, Y.Z.e_cmp2, Y.Z.e_and, Y.Z.e_or, Y.Z.e_not, Y.Z.e_ife, Y.Z.e_tup, Y.Z.e_lst, Y.Z.e_dic, Y.Z.e_dic0, Y.Z.e_ix, Y.Z.e_sl, Y.Z.e_rev, Y.Z.e_call, Y.Z.e_callK, Y.Z.e_blt, Y.Z.e_isi, Y.Z.e_isq, Y.Z.e_app, Y.Z.e_pop, Y.Z.e_ext, Y.Z.kExt1_e, Y.Z.k_ex_e, Y.Z.k_ex2_e, Y.Z.ex_ref, Y.Z.t_max1, Y.Z.t_min1, Y.Z.e_get2, Y.Z.e_lc, Y.Z.e_lc2, Y.Z.l_nil, Y.Z.l_cons, Y.Z.o_non, Y.Z.o_som, Y.Z.c_val, Y.Z.c_cp, Y.Z.c_cp2, Y.Z.c_and, Y.Z.c_or, Y.Z.c_not, Y.Z.co_non, Y.Z.co_som, Y.Z.i_seq, Y.Z.i_rng1, Y.Z.i_rng2, Y.Z.i_enm, Y.Z.i_zip, Y.Z.g_nm, Y.Z.g_tup, Y.Z.g_ct, Y.Z.g_ix, Y.Z.gs_nil, Y.Z.gs_cons, Y.Z.b_add, Y.Z.b_sub, Y.Z.b_mul, Y.Z.b_div, Y.Z.b_mod, Y.Z.b_pow, Y.Z.b_tup, Y.Z.b_lst, Y.Z.b_mulL, Y.Z.c_lt, Y.Z.c_le, Y.Z.c_gt, Y.Z.c_ge, Y.Z.c_eq, Y.Z.c_ne, Y.Z.c_isN, Y.Z.c_notN, Y.Z.c_isB, Y.Z.c_notB, Y.isNon, Y.Z.newL_f, Y.Z.newL_t, Y.Z.t_len, Y.Z.t_sum, Y.Z.t_any, Y.Z.t_all, Y.Z.t_abs, Y.Z.t_min, Y.Z.t_max, Y.Z.t_tuple, Y.Z.t_list, Y.Z.t_int, Y.Z.t_repr, Y.Z.t_str, Y.Z.st_str, Y.Z.st_int, Y.Z.st_tup, Y.Z.len_tup, Y.Z.len_lst, Y.Z.len_rd, Y.Z.len_ct, Y.Z.tup_lst, Y.Z.tup_tup, Y.Z.tup_ct, Y.Z.lst_lst, Y.Z.lst_tup, Y.Z.sum_ints, Y.Z.sum_ints', Y.Z.w_tup, Y.Z.w_lst, Y.Z.w_rd, Y.Z.w_ct, Y.Z.we_tup, Y.Z.we_lst, Y.Z.we_ct, Y.Z.wz_tl, Y.Z.wz_ll, Y.Z.wz_tt, Y.Z.r_tup, Y.Z.r_lst, Y.Z.r_rd, Y.Z.r_ct, Y.Z.cut_tup, Y.Z.cut_lst, Y.Z.cut_rd, Y.Z.rev_tup, Y.Z.tr_bl, Y.Z.tr_int, Y.Z.tr_tup, Y.Z.tr_lst, Y.Z.refL_lst, Y.Z.getO_lst, Y.Z.r_ref, Y.Z.lstOf_ref, Y.Z.len_ref, Y.Z.tup_ref, Y.Z.lst_ref, Y.Z.w_ref, Y.Z.we_ref, Y.Z.cut_ref, Y.Z.tr_ref, Y.Z.s_ref, Y.Z.so_lst, Y.Z.a_ref, Y.Z.po_ref, Y.Z.ixN_lit, Y.Z.atI_lit, Y.isD, Y.tyD, Y.subTy, Y.Z.fin_rtc, Y.Z.fin_rta, Y.Z.fin_nx, Y.D.lt, Y.ltL, Y.Z.ltL_ints, Y.Z.still_nil2, Y.Z.still_tup, Y.Z.still_ct, Y.Z.still_rd, Y.Z.still_lst, Y.wipe, Y.Z.blO_some, Y.Z.y_par, Y.Z.y_par3, Y.Z.kPar31_e, Y.Z.kPar32_e, Y.Z.kPar33_e, Y.Z.y_expr, Y.Z.y_ret, Y.Z.y_for, Y.Z.x_while, Y.Z.kAsg_e, Y.Z.kAug3_e, Y.Z.kAug2_e, Y.Z.kAug1_e, Y.Z.kIte_e, Y.Z.kPar2_e, Y.Z.kPar1_e, Y.Z.kExpr_e, Y.Z.kFor_e, Y.Z.kBin1_e, Y.Z.kNeg_e, Y.Z.kCmp2_e, Y.Z.kCmp1_e, Y.Z.kC23_e, Y.Z.kC22_e, Y.Z.kC21_e, Y.Z.kAnd_e, Y.Z.kOr_e, Y.Z.kNot_e, Y.Z.kIfe_e, Y.Z.kTup_e, Y.Z.kLst_e, Y.Z.kDic_e, Y.Z.kIx1_e, Y.Z.kSl2_e, Y.Z.kSl1_e, Y.Z.kCall_e, Y.Z.kCK3_e, Y.Z.kCK2_e, Y.Z.kCK1_e, Y.Z.kApp1_e, Y.Z.kG2_e, Y.Z.kG1_e, Y.Z.lcF3_e, Y.Z.lcF2_e, Y.Z.lcF1_e, Y.Z.kLc_e, Y.Z.lcG1_e, Y.Z.lcH2_e, Y.Z.lcH1_e, Y.Z.kLc2_e, Y.Z.kL2_e, Y.Z.kL1_e, Y.Z.kInt_e, Y.Z.kTru_e, Y.Z.kCp2_e, Y.Z.kCp1_e, Y.Z.kCq3_e, Y.Z.kCq2_e, Y.Z.kCq1_e, Y.Z.kCand_e, Y.Z.kCor_e, Y.Z.kCnot_e, Y.Z.kR2_e, Y.Z.kZ_e, Y.Z.kGx3_e, Y.Z.kGx2_e, Y.Z.kGx1_e, Y.Z.kWh_e, Y.Z.k_len_e, Y.Z.k_tup_e, Y.Z.k_lst_e, Y.Z.k_w_e, Y.Z.k_we_e, Y.Z.k_cut_e, Y.Z.k_tr_e, Y.Z.sK2_e, Y.Z.sK1_e, Y.Z.soK_e, Y.Z.k_ap_e, Y.Z.k_po2_e, Y.Z.k_po_e, lcF, push, ha, h1, h2, ltB]
          · simp (implicitDefEqProofs := false) [Y.Z.x_nil, Y.Z.x_cons, Y.Z.bind_ok, Y.Z.bind_ex, Y.Z.lift_ok, Y.Z.lift_ex, Y.Z.noEx_ok, Y.Z.seq_nx, Y.Z.seq_rt, Y.Z.seq_bk, Y.Z.seq_ct, Y.Z.seq_ex, Y.Z.kRaise_e, Y.Z.y_raise, Y.Z.y_tryv, Y.Z.tv_nx, Y.Z.tv_rt, Y.Z.tv_ex, Y.hkD, Y.Z.e_fld, Y.Z.fld_e, Y.Z.loop_nx, Y.Z.loop_rt, Y.Z.loop_bk, Y.Z.loop_ct, Y.Z.asT_ok, Y.Z.opt_some, Y.Z.var_some, Y.Z.y_asg, Y.Z.y_aug, Y.Z.y_ite, Y.Z.x_retN, Y.Z.x_brk, Y.Z.x_cnt, Y.Z.x_pass, Y.Z.e_var, Y.Z.e_cst, Y.Z.e_glo, Y.Z.e_bin, Y.Z.e_neg, Y.Z.e_cmp, Y.Z.e_cmp2, Y.Z.e_and, Y.Z.e_or, Y.Z.e_not, Y.Z.e_ife, Y.Z.e_tup, Y.Z.e_lst, Y.Z.e_dic, Y.Z.e_dic0, Y.Z.e_ix, Y.Z.e_sl, Y.Z.e_rev, Y.Z.e_call, Y.Z.e_callK, Y.Z.e_blt, Y.Z.e_isi, Y.Z.e_isq, Y.Z.e_app, Y.Z.e_pop, Y.Z.e_ext, Y.Z.kExt1_e, Y.Z.k_ex_e, Y.Z.k_ex2_e, Y.Z.ex_ref, Y.Z.t_max1, Y.Z.t_min1, Y.Z.e_get2, Y.Z.e_lc, Y.Z.e_lc2, Y.Z.l_nil, Y.Z.l_cons, Y.Z.o_non, Y.Z.o_som, Y.Z.c_val, Y.Z.c_cp, Y.Z.c_cp2, Y.Z.c_and, Y.Z.c_or, Y.Z.c_not, Y.Z.co_non, Y.Z.co_som, Y.Z.i_seq, Y.Z.i_rng1, Y.Z.i_rng2, Y.Z.i_enm, Y.Z.i_zip, Y.Z.g_nm, Y.Z.g_tup, Y.Z.g_ct, Y.Z.g_ix, Y.Z.gs_nil, Y.Z.gs_cons, Y.Z.b_add, Y.Z.b_sub, Y.Z.b_mul, Y.Z.b_div, Y.Z.b_mod, Y.Z.b_pow, Y.Z.b_tup, Y.Z.b_lst, Y.Z.b_mulL, Y.Z.c_lt, Y.Z.c_le, Y.Z.c_gt, Y.Z.c_ge, Y.Z.c_eq, Y.Z.c_ne, Y.Z.c_isN, Y.Z.c_notN, Y.Z.c_isB, Y.Z.c_notB, Y.isNon, Y.Z.newL_f, Y.Z.newL_t, Y.Z.t_len, Y.Z.t_sum, Y.Z.t_any, Y.Z.t_all, Y.Z.t_abs, Y.Z.t_min, Y.Z.t_max, Y.Z.t_tuple, Y.Z.t_list, Y.Z.t_int, Y.Z.t_repr, Y.Z.t_str, Y.Z.st_str, Y.Z.st_int, Y.Z.st_tup, Y.Z.len_tup, Y.Z.len_lst, Y.Z.len_rd, Y.Z.len_ct, Y.Z.tup_lst, Y.Z.tup_tup, Y.Z.tup_ct, Y.Z.lst_lst, Y.Z.lst_tup, Y.Z.sum_ints, Y.Z.sum_ints', Y.Z.w_tup, Y.Z.w_lst, Y.Z.w_rd, Y.Z.w_ct, Y.Z.we_tup, Y.Z.we_lst, Y.Z.we_ct, Y.Z.wz_tl, Y.Z.wz_ll, Y.Z.wz_tt, Y.Z.r_tup, Y.Z.r_lst, Y.Z.r_rd, Y.Z.r_ct, Y.Z.cut_tup, Y.Z.cut_lst, Y.Z.cut_rd, Y.Z.rev_tup, Y.Z.tr_bl, Y.Z.tr_int, Y.Z.tr_tup, Y.Z.tr_lst, Y.Z.refL_lst, Y.Z.getO_lst, Y.Z.r_ref, Y.Z.lstOf_ref, Y.Z.len_ref, Y.Z.tup_ref, Y.Z.lst_ref, Y.Z.w_ref, Y.Z.we_ref, Y.Z.cut_ref, Y.Z.tr_ref, Y.Z.s_ref, Y.Z.so_lst, Y.Z.a_ref, Y.Z.po_ref, Y.Z.ixN_lit, Y.Z.atI_lit, Y.isD, Y.tyD, Y.subTy, Y.Z.fin_rtc, Y.Z.fin_rta, Y.Z.fin_nx, Y.D.lt, Y.ltL, Y.Z.ltL_ints, Y.Z.still_nil2, Y.Z.still_tup, Y.Z.still_ct, Y.Z.still_rd, Y.Z.still_lst, Y.wipe, Y.Z.blO_some, Y.Z.y_par, Y.Z.y_par3, Y.Z.kPar31_e, Y.Z.kPar32_e, Y.Z.kPar33_e, Y.Z.y_expr, Y.Z.y_ret, Y.Z.y_for, Y.Z.x_while, Y.Z.kAsg_e, Y.Z.kAug3_e, Y.Z.kAug2_e, Y.Z.kAug1_e, Y.Z.kIte_e, Y.Z.kPar2_e, Y.Z.kPar1_e, Y.Z.kExpr_e, Y.Z.kFor_e, Y.Z.kBin1_e, Y.Z.kNeg_e, Y.Z.kCmp2_e, Y.Z.kCmp1_e, Y.Z.kC23_e, Y.Z.kC22_e, Y.Z.kC21_e, Y.Z.kAnd_e, Y.Z.kOr_e, Y.Z.kNot_e, Y.Z.kIfe_e, Y.Z.kTup_e, Y.Z.kLst_e, Y.Z.kDic_e, Y.Z.kIx1_e, Y.Z.kSl2_e, Y.Z.kSl1_e, Y.Z.kCall_e, Y.Z.kCK3_e, Y.Z.kCK2_e, Y.Z.kCK1_e, Y.Z.kApp1_e, Y.Z.kG2_e, Y.Z.kG1_e, Y.Z.lcF3_e, Y.Z.lcF2_e, Y.Z.lcF1_e, Y.Z.kLc_e, Y.Z.lcG1_e, Y.Z.lcH2_e, Y.Z.lcH1_e, Y.Z.kLc2_e, Y.Z.kL2_e, Y.Z.kL1_e, Y.Z.kInt_e, Y.Z.kTru_e, Y.Z.kCp2_e, Y.Z.kCp1_e, Y.Z.kCq3_e, Y.Z.kCq2_e, Y.Z.kCq1_e, Y.Z.kCand_e, Y.Z.kCor_e, Y.Z.kCnot_e, Y.Z.kR2_e, Y.Z.kZ_e, Y.Z.kGx3_e, Y.Z.kGx2_e, Y.Z.kGx1_e, Y.Z.kWh_e, Y.Z.k_len_e, Y.Z.k_tup_e, Y.Z.k_lst_e, Y.Z.k_w_e, Y.Z.k_we_e, Y.Z.k_cut_e, Y.Z.k_tr_e, Y.Z.sK2_e, Y.Z.sK1_e, Y.Z.soK_e, Y.Z.k_ap_e, Y.Z.k_po2_e, Y.Z.k_po_e, lcF, push, ha, h1, ltB]) (by have := h.2; simp [sz] at *; omega)
        exact this
      have ha := fun st => all_map (fun i => ltB (.int i)) ws st
      have hw : wordB (.tup (ws.map .int)) = ws.all (fun i => ltB (.int i)) := by
        simp [wordB, List.all_map, Function.comp_def]
      rw [hw]
      have fx := fun env => fin_ex (c := 3) (mode := 0) (env := env) hl st
      generalize ws.map D.int = W at *
      cases hq : ws.all (fun i => ltB (.int i)) with
      | true => simp (implicitDefEqProofs := false) [Y.Z.x_nil, Y.Z.x_cons, Y.Z.bind_ok, Y.Z.bind_ex, Y.Z.lift_ok, Y.Z.lift_ex, Y.Z.noEx_ok, Y.Z.seq_nx, Y.Z.seq_rt, Y.Z.seq_bk, Y.Z.seq_ct, Y.Z.seq_ex, Y.Z.kRaise_e, Y.Z.y_raise, Y.Z.y_tryv, Y.Z.tv_nx, Y.Z.tv_rt, Y.Z.tv_ex, Y.hkD, Y.Z.e_fld, Y.Z.fld_e, Y.Z.loop_nx, Y.Z.loop_rt, Y.Z.loop_bk, Y.Z.loop_ct, Y.Z.asT_ok, Y.Z.opt_some, Y.Z.var_some, Y.Z.y_asg, Y.Z.y_aug, Y.Z.y_ite, Y.Z.x_retN, Y.Z.x_brk, Y.Z.x_cnt, Y.Z.x_pass, Y.Z.e_var, Y.Z.e_cst, Y.Z.e_glo, Y.Z.e_bin, Y.Z.e_neg, Y.Z.e_cmp, Y.Z.e_cmp2, Y.Z.e_and, Y.Z.e_or, Y.Z.e_not, Y.Z.e_ife, Y.Z.e_tup, Y.Z.e_lst, Y.Z.e_dic, Y.Z.e_dic0, Y.Z.e_ix, Y.Z.e_sl, Y.Z.e_rev, Y.Z.e_call, Y.Z.e_callK, Y.Z.e_blt, Y.Z.e_isi, Y.Z.e_isq, Y.Z.e_app, Y.Z.e_pop, Y.Z.e_ext, Y.Z.kExt1_e, Y.Z.k_ex_e, Y.Z.k_ex2_e, Y.Z.ex_ref, Y.Z.t_max1, Y.Z.t_min1, Y.Z.e_get2, Y.Z.e_lc, Y.Z.e_lc2, Y.Z.l_nil, Y.Z.l_cons, Y.Z.o_non, Y.Z.o_som, Y.Z.c_val, Y.Z.c_cp, Y.Z.c_cp2, Y.Z.c_and, Y.Z.c_or, Y.Z.c_not, Y.Z.co_non, Y.Z.co_som, Y.Z.i_seq, Y.Z.i_rng1, Y.Z.i_rng2, Y.Z.i_enm, Y.Z.i_zip, Y.Z.g_nm, Y.Z.g_tup, Y.Z.g_ct, Y.Z.g_ix, Y.Z.gs_nil, Y.Z.gs_cons, Y.Z.b_add, Y.Z.b_sub, Y.Z.b_mul, Y.Z.b_div, Y.Z.b_mod, Y.Z.b_pow, Y.Z.b_tup, Y.Z.b_lst, Y.Z.b_mulL, Y.Z.c_lt, Y.Z.c_le, Y.Z.c_gt, Y.Z.c_ge, Y.Z.c_eq, Y.Z.c_ne, Y.Z.c_isN, Y.Z.c_notN, Y.Z.c_isB, Y.Z.c_notB, Y.isNon, Y.Z.newL_f, Y.Z.newL_t, Y.Z.t_len, Y.Z.t_sum, Y.Z.t_any, Y.Z.t_all, Y.Z.t_abs, Y.Z.t_min, Y.Z.t_max, Y.Z.t_tuple, Y.Z.t_list, Y.Z.t_int, Y.Z.t_repr, Y.Z.t_str, Y.Z.st_str, Y.Z.st_int, Y.Z.st_tup, Y.Z.len_tup, Y.Z.len_lst, Y.Z.len_rd, Y.Z.len_ct, Y.Z.tup_lst, Y.Z.tup_tup, Y.Z.tup_ct, Y.Z.lst_lst, Y.Z.lst_tup, Y.Z.sum_ints, Y.Z.sum_ints', Y.Z.w_tup, Y.Z.w_lst, Y.Z.w_rd, Y.Z.w_ct, Y.Z.we_tup, Y.Z.we_lst, Y.Z.we_ct, Y.Z.wz_tl, Y.Z.wz_ll, Y.Z.wz_tt, Y.Z.r_tup, Y.Z.r_lst, Y.Z.r_rd, Y.Z.r_ct, Y.Z.cut_tup, Y.Z.cut_lst, Y.Z.cut_rd, Y.Z.rev_tup, Y.Z.tr_bl, Y.Z.tr_int, Y.Z.tr_tup, Y.Z.tr_lst, Y.Z.refL_lst, Y.Z.getO_lst, Y.Z.r_ref, Y.Z.lstOf_ref, Y.Z.len_ref, Y.Z.tup_ref, Y.Z.lst_ref, Y.Z.w_ref, Y.Z.we_ref, Y.Z.cut_ref, Y.Z.tr_ref, Y.Z.s_ref, Y.Z.so_lst, Y.Z.a_ref, Y.Z.po_ref, Y.Z.ixN_lit, Y.Z.atI_lit, Y.isD, Y.tyD, Y.subTy, Y.Z.fin_rtc, Y.Z.fin_rta, Y.Z.fin_nx, Y.D.lt, Y.ltL, Y.Z.ltL_ints, Y.Z.still_nil2, Y.Z.still_tup, Y.Z.still_ct, Y.Z.still_rd, Y.Z.still_lst, Y.wipe, Y.Z.blO_some, Y.Z.y_par, Y.Z.y_par3, Y.Z.kPar31_e, Y.Z.kPar32_e, Y.Z.kPar33_e, Y.Z.y_expr, Y.Z.y_ret, Y.Z.y_for, Y.Z.x_while, Y.Z.kAsg_e, Y.Z.kAug3_e, Y.Z.kAug2_e, Y.Z.kAug1_e, Y.Z.kIte_e, Y.Z.kPar2_e, Y.Z.kPar1_e, Y.Z.kExpr_e, Y.Z.kFor_e, Y.Z.kBin1_e, Y.Z.kNeg_e, Y.Z.kCmp2_e, Y.Z.kCmp1_e, Y.Z.kC23_e, Y.Z.kC22_e, Y.Z.kC21_e, Y.Z.kAnd_e, Y.Z.kOr_e, Y.Z.kNot_e, Y.Z.kIfe_e, Y.Z.kTup_e, Y.Z.kLst_e, Y.Z.kDic_e, Y.Z.kIx1_e, Y.Z.kSl2_e, Y.Z.kSl1_e, Y.Z.kCall_e, Y.Z.kCK3_e, Y.Z.kCK2_e, Y.Z.kCK1_e, Y.Z.kApp1_e, Y.Z.kG2_e, Y.Z.kG1_e, Y.Z.lcF3_e, Y.Z.lcF2_e, Y.Z.lcF1_e, Y.Z.kLc_e, Y.Z.lcG1_e, Y.Z.lcH2_e, Y.Z.lcH1_e, Y.Z.kLc2_e, Y.Z.kL2_e, Y.Z.kL1_e, Y.Z.kInt_e, Y.Z.kTru_e, Y.Z.kCp2_e, Y.Z.kCp1_e, Y.Z.kCq3_e, Y.Z.kCq2_e, Y.Z.kCq1_e, Y.Z.kCand_e, Y.Z.kCor_e, Y.Z.kCnot_e, Y.Z.kR2_e, Y.Z.kZ_e, Y.Z.kGx3_e, Y.Z.kGx2_e, Y.Z.kGx1_e, Y.Z.kWh_e, Y.Z.k_len_e, Y.Z.k_tup_e, Y.Z.k_lst_e, Y.Z.k_w_e, Y.Z.k_we_e, Y.Z.k_cut_e, Y.Z.k_tr_e, Y.Z.sK2_e, Y.Z.sK1_e, Y.Z.soK_e, Y.Z.k_ap_e, Y.Z.k_po2_e, Y.Z.k_po_e, ir_check_word, h1, hc, ha, hq]
      | false => simp (implicitDefEqProofs := false) [Y.Z.x_nil, Y.Z.x_cons, Y.Z.bind_ok, Y.Z.bind_ex, Y.Z.lift_ok, Y.Z.lift_ex, Y.Z.noEx_ok, Y.Z.seq_nx, Y.Z.seq_rt, Y.Z.seq_bk, Y.Z.seq_ct, Y.Z.seq_ex, Y.Z.kRaise_e, Y.Z.y_raise, Y.Z.y_tryv, Y.Z.tv_nx, Y.Z.tv_rt, Y.Z.tv_ex, Y.hkD, Y.Z.e_fld, Y.Z.fld_e, Y.Z.loop_nx, Y.Z.loop_rt, Y.Z.loop_bk, Y.Z.loop_ct, Y.Z.asT_ok, Y.Z.opt_some, Y.Z.var_some, Y.Z.y_asg, Y.Z.y_aug, Y.Z.y_ite, Y.Z.x_retN, Y.Z.x_brk, Y.Z.x_cnt, Y.Z.x_pass, Y.Z.e_var, Y.Z.e_cst, Y.Z.e_glo, Y.Z.e_bin, Y.Z.e_neg, Y.Z.e_cmp, Y.Z.e_cmp2, Y.Z.e_and, Y.Z.e_or, Y.Z.e_not, Y.Z.e_ife, Y.Z.e_tup, Y.Z.e_lst, Y.Z.e_dic, Y.Z.e_dic0, Y.Z.e_ix, Y.Z.e_sl, Y.Z.e_rev, Y.Z.e_call, Y.Z.e_callK, Y.Z.e_blt, Y.Z.e_isi, Y.Z.e_isq, Y.Z.e_app, Y.Z.e_pop, Y.Z.e_ext, Y.Z.kExt1_e, Y.Z.k_ex_e, Y.Z.k_ex2_e, Y.Z.ex_ref, Y.Z.t_max1, Y.Z.t_min1, Y.Z.e_get2, Y.Z.e_lc, Y.Z.e_lc2, Y.Z.l_nil, Y.Z.l_cons, Y.Z.o_non, Y.Z.o_som, Y.Z.c_val, Y.Z.c_cp, Y.Z.c_cp2, Y.Z.c_and, Y.Z.c_or, Y.Z.c_not, Y.Z.co_non, Y.Z.co_som, Y.Z.i_seq, Y.Z.i_rng1, Y.Z.i_rng2, Y.Z.i_enm, Y.Z.i_zip, Y.Z.g_nm, Y.Z.g_tup, Y.Z.g_ct, Y.Z.g_ix, Y.Z.gs_nil, Y.Z.gs_cons, Y.Z.b_add, Y.Z.b_sub, Y.Z.b_mul, Y.Z.b_div, Y.Z.b_mod, Y.Z.b_pow, Y.Z.b_tup, Y.Z.b_lst, Y.Z.b_mulL, Y.Z.c_lt, Y.Z.c_le, Y.Z.c_gt, Y.Z.c_ge, Y.Z.c_eq, Y.Z.c_ne, Y.Z.c_isN, Y.Z.c_notN, Y.Z.c_isB, Y.Z.c_notB, Y.isNon, Y.Z.newL_f, Y.Z.newL_t, Y.Z.t_len, Y.Z.t_sum, Y.Z.t_any, Y.Z.t_all, Y.Z.t_abs, Y.Z.t_min, Y.Z.t_max, Y.Z.t_tuple, Y.Z.t_list, Y.Z.t_int, Y.Z.t_repr, Y.Z.t_str, Y.Z.st_str, Y.Z.st_int, Y.Z.st_tup, Y.Z.len_tup, Y.Z.len_lst, Y.Z.len_rd, Y.Z.len_ct, Y.Z.tup_lst, Y.Z.tup_tup, Y.Z.tup_ct, Y.Z.lst_lst, Y.Z.lst_tup, Y.Z.sum_ints, Y.Z.sum_ints', Y.Z.w_tup, Y.Z.w_lst, Y.Z.w_rd, Y.Z.w_ct, Y.Z.we_tup, Y.Z.we_lst, Y.Z.we_ct, Y.Z.wz_tl, Y.Z.wz_ll, Y.Z.wz_tt, Y.Z.r_tup, Y.Z.r_lst, Y.Z.r_rd, Y.Z.r_ct, Y.Z.cut_tup, Y.Z.cut_lst, Y.Z.cut_rd, Y.Z.rev_tup, Y.Z.tr_bl, Y.Z.tr_int, Y.Z.tr_tup, Y.Z.tr_lst, Y.Z.refL_lst, Y.Z.getO_lst, Y.Z.r_ref, Y.Z.lstOf_ref, Y.Z.len_ref, Y.Z.tup_ref, Y.Z.lst_ref, Y.Z.w_ref, Y.Z.we_ref, Y.Z.cut_ref, Y.Z.tr_ref, Y.Z.s_ref, Y.Z.so_lst, Y.Z.a_ref, Y.Z.po_ref, Y.Z.ixN_lit, Y.Z.atI_lit, Y.isD, Y.tyD, Y.subTy, Y.Z.fin_rtc, Y.Z.fin_rta, Y.Z.fin_nx, Y.D.lt, Y.ltL, Y.Z.ltL_ints, Y.Z.still_nil2, Y.Z.still_tup, Y.Z.still_ct, Y.Z.still_rd, Y.Z.still_lst, Y.wipe, Y.Z.blO_some, Y.Z.y_par, Y.Z.y_par3, Y.Z.kPar31_e, Y.Z.kPar32_e, Y.Z.kPar33_e, Y.Z.y_expr, Y.Z.y_ret, Y.Z.y_for, Y.Z.x_while, Y.Z.kAsg_e, Y.Z.kAug3_e, Y.Z.kAug2_e, Y.Z.kAug1_e, Y.Z.kIte_e, Y.Z.kPar2_e, Y.Z.kPar1_e, Y.Z.kExpr_e, Y.Z.kFor_e, Y.Z.kBin1_e, Y.Z.kNeg_e, Y.Z.kCmp2_e, Y.Z.kCmp1_e, Y.Z.kC23_e, Y.Z.kC22_e, Y.Z.kC21_e, Y.Z.kAnd_e, Y.Z.kOr_e, Y.Z.kNot_e, Y.Z.kIfe_e, Y.Z.kTup_e, Y.Z.kLst_e, Y.Z.kDic_e, Y.Z.kIx1_e, Y.Z.kSl2_e, Y.Z.kSl1_e, Y.Z.kCall_e, Y.Z.kCK3_e, Y.Z.kCK2_e, Y.Z.kCK1_e, Y.Z.kApp1_e, Y.Z.kG2_e, Y.Z.kG1_e, Y.Z.lcF3_e, Y.Z.lcF2_e, Y.Z.lcF1_e, Y.Z.kLc_e, Y.Z.lcG1_e, Y.Z.lcH2_e, Y.Z.lcH1_e, Y.Z.kLc2_e, Y.Z.kL2_e, Y.Z.kL1_e, Y.Z.kInt_e, Y.Z.kTru_e, Y.Z.kCp2_e, Y.Z.kCp1_e, Y.Z.kCq3_e, Y.Z.kCq2_e, Y.Z.kCq1_e, Y.Z.kCand_e, Y.Z.kCor_e, Y.Z.kCnot_e, Y.Z.kR2_e, Y.Z.kZ_e, Y.Z.kGx3_e, Y.Z.kGx2_e, Y.Z.kGx1_e, Y.Z.kWh_e, Y.Z.k_len_e, Y.Z.k_tup_e, Y.Z.k_lst_e, Y.Z.k_w_e, Y.Z.k_we_e, Y.Z.k_cut_e, Y.Z.k_tr_e, Y.Z.sK2_e, Y.Z.sK1_e, Y.Z.soK_e, Y.Z.k_ap_e, Y.Z.k_po2_e, Y.Z.k_po_e, ir_check_word, h1, hc, ha, hq, fx]
    · have hi' : xs.all isI = false := by simpa using hi
      rw [hi'] at h1
      have hw : wordB (.tup xs) = false := ltB_isI xs hi'
      have fx := fun env => fin_ex (c := 3) (mode := 0) (env := env) hl st
      simp (implicitDefEqProofs := false) [Y.Z.x_nil, Y.Z.x_cons, Y.Z.bind_ok, Y.Z.bind_ex, Y.Z.lift_ok, Y.Z.lift_ex, Y.Z.noEx_ok, Y.Z.seq_nx, Y.Z.seq_rt, Y.Z.seq_bk, Y.Z.seq_ct, Y.Z.seq_ex, Y.Z.kRaise_e, Y.Z.y_raise, Y.Z.y_tryv, Y.Z.tv_nx, Y.Z.tv_rt, Y.Z.tv_ex, Y.hkD, Y.Z.e_fld, Y.Z.fld_e, Y.Z.loop_nx, Y.Z.loop_rt, Y.Z.loop_bk, Y.Z.loop_ct, Y.Z.asT_ok, Y.Z.opt_some, Y.Z.var_some, Y.Z.y_asg, Y.Z.y_aug, Y.Z.y_ite, Y.Z.x_retN, Y.Z.x_brk, Y.Z.x_cnt, Y.Z.x_pass, Y.Z.e_var, Y.Z.e_cst, Y.Z.e_glo, Y.Z.e_bin, Y.Z.e_neg, Y.Z.e_cmp, Y.Z.e_cmp2, Y.Z.e_and, Y.Z.e_or, Y.Z.e_not, Y.Z.e_ife, Y.Z.e_tup, Y.Z.e_lst, Y.Z.e_dic, Y.Z.e_dic0, Y.Z.e_ix, Y.Z.e_sl, Y.Z.e_rev, Y.Z.e_call, Y.Z.e_callK, Y.Z.e_blt, Y.Z.e_isi, Y.Z.e_isq, Y.Z.e_app, Y.Z.e_pop, Y.Z.e_ext, Y.Z.kExt1_e, Y.Z.k_ex_e, Y.Z.k_ex2_e, Y.Z.ex_ref, Y.Z.t_max1, Y.Z.t_min1, Y.Z.e_get2, Y.Z.e_lc, Y.Z.e_lc2, Y.Z.l_nil, Y.Z.l_cons, Y.Z.o_non, Y.Z.o_som, Y.Z.c_val, Y.Z.c_cp, Y.Z.c_cp2, Y.Z.c_and, Y.Z.c_or, Y.Z.c_not, Y.Z.co_non, Y.Z.co_som, Y.Z.i_seq, Y.Z.i_rng1, Y.Z.i_rng2, Y.Z.i_enm, Y.Z.i_zip, Y.Z.g_nm, Y.Z.g_tup, Y.Z.g_ct, Y.Z.g_ix, Y.Z.gs_nil, Y.Z.gs_cons, Y.Z.b_add, Y.Z.b_sub, Y.Z.b_mul, Y.Z.b_div, Y.Z.b_mod, Y.Z.b_pow, Y.Z.b_tup, Y.Z.b_lst, Y.Z.b_mulL, Y.Z.c_lt, Y.Z.c_le, Y.Z.c_gt, Y.Z.c_ge, Y.Z.c_eq, Y.Z.c_ne, Y.Z.c_isN, Y.Z.c_notN, Y.Z.c_isB, Y.Z.c_notB, Y.isNon, Y.Z.newL_f, Y.Z.newL_t, Y.Z.t_len, Y.Z.t_sum, Y.Z.t_any, Y.Z.t_all, Y.Z.t_abs, Y.Z.t_min, Y.Z.t_max, Y.Z.t_tuple, Y.Z.t_list, Y.Z.t_int, Y.Z.t_repr, Y.Z.t_str, Y.Z.st_str, Y.Z.st_int, Y.Z.st_tup, Y.Z.len_tup, Y.Z.len_lst, Y.Z.len_rd, Y.Z.len_ct, Y.Z.tup_lst, Y.Z.tup_tup, Y.Z.tup_ct, Y.Z.lst_lst, Y.Z.lst_tup, Y.Z.sum_ints, Y.Z.sum_ints', Y.Z.w_tup, Y.Z.w_lst, Y.Z.w_rd, Y.Z.w_ct, Y.Z.we_tup, Y.Z.we_lst, Y.Z.we_ct, Y.Z.wz_tl, Y.Z.wz_ll, Y.Z.wz_tt, Y.Z.r_tup, Y.Z.r_lst, Y.Z.r_rd, Y.Z.r_ct, Y.Z.cut_tup, Y.Z.cut_lst, Y.Z.cut_rd, Y.Z.rev_tup, Y.Z.tr_bl, Y.Z.tr_int, Y.Z.tr_tup, Y.Z.tr_lst, Y.Z.refL_lst, Y.Z.getO_lst, Y.Z.r_ref, Y.Z.lstOf_ref, Y.Z.len_ref, Y.Z.tup_ref, Y.Z.lst_ref, Y.Z.w_ref, Y.Z.we_ref, Y.Z.cut_ref, Y.Z.tr_ref, Y.Z.s_ref, Y.Z.so_lst, Y.Z.a_ref, Y.Z.po_ref, Y.Z.ixN_lit, Y.Z.atI_lit, Y.isD, Y.tyD, Y.subTy, Y.Z.fin_rtc, Y.Z.fin_rta, Y.Z.fin_nx, Y.D.lt, Y.ltL, Y.Z.ltL_ints, Y.Z.still_nil2, Y.Z.still_tup, Y.Z.still_ct, Y.Z.still_rd, Y.Z.still_lst, Y.wipe, Y.Z.blO_some, Y.Z.y_par, Y.Z.y_par3, Y.Z.kPar31_e, Y.Z.kPar32_e, Y.Z.kPar33_e, Y.Z.y_expr, Y.Z.y_ret, Y.Z.y_for, Y.Z.x_while, Y.Z.kAsg_e, Y.Z.kAug3_e, Y.Z.kAug2_e, Y.Z.kAug1_e, Y.Z.kIte_e, Y.Z.kPar2_e, Y.Z.kPar1_e, Y.Z.kExpr_e, Y.Z.kFor_e, Y.Z.kBin1_e, Y.Z.kNeg_e, Y.Z.kCmp2_e, Y.Z.kCmp1_e, Y.Z.kC23_e, Y.Z.kC22_e, Y.Z.kC21_e, Y.Z.kAnd_e, Y.Z.kOr_e, Y.Z.kNot_e, Y.Z.kIfe_e, Y.Z.kTup_e, Y.Z.kLst_e, Y.Z.kDic_e, Y.Z.kIx1_e, Y.Z.kSl2_e, Y.Z.kSl1_e, Y.Z.kCall_e, Y.Z.kCK3_e, Y.Z.kCK2_e, Y.Z.kCK1_e, Y.Z.kApp1_e, Y.Z.kG2_e, Y.Z.kG1_e, Y.Z.lcF3_e, Y.Z.lcF2_e, Y.Z.lcF1_e, Y.Z.kLc_e, Y.Z.lcG1_e, Y.Z.lcH2_e, Y.Z.lcH1_e, Y.Z.kLc2_e, Y.Z.kL2_e, Y.Z.kL1_e, Y.Z.kInt_e, Y.Z.kTru_e, Y.Z.kCp2_e, Y.Z.kCp1_e, Y.Z.kCq3_e, Y.Z.kCq2_e, Y.Z.kCq1_e, Y.Z.kCand_e, Y.Z.kCor_e, Y.Z.kCnot_e, Y.Z.kR2_e, Y.Z.kZ_e, Y.Z.kGx3_e, Y.Z.kGx2_e, Y.Z.kGx1_e, Y.Z.kWh_e, Y.Z.k_len_e, Y.Z.k_tup_e, Y.Z.k_lst_e, Y.Z.k_w_e, Y.Z.k_we_e, Y.Z.k_cut_e, Y.Z.k_tr_e, Y.Z.sK2_e, Y.Z.sK1_e, Y.Z.soK_e, Y.Z.k_ap_e, Y.Z.k_po2_e, Y.Z.k_po_e, ir_check_word, h1, hw, fx]
  · have hw : wordB d = false := by
      cases d <;> first | rfl | exact absurd ⟨_, rfl⟩ ht
    have hs := smA_sm h
    have fx := fun env => fin_ex (c := 3) (mode := 0) (env := env) hl st
    rw [hw]
    cases d <;> first | (cases hs; done) | (exact absurd ⟨_, rfl⟩ ht) | simp (implicitDefEqProofs := false) [Y.Z.x_nil, Y.Z.x_cons, Y.Z.bind_ok, Y.Z.bind_ex, Y.Z.lift_ok, Y.Z.lift_ex, Y.Z.noEx_ok, Y.Z.seq_nx, Y.Z.seq_rt, Y.Z.seq_bk, Y.Z.seq_ct, Y.Z.seq_ex, Y.Z.kRaise_e, Y.Z.y_raise, Y.Z.y_tryv, Y.Z.tv_nx, Y.Z.tv_rt, Y.Z.tv_ex, Y.hkD, Y.Z.e_fld, Y.Z.fld_e, Y.Z.loop_nx, Y.Z.loop_rt, Y.Z.loop_bk, Y.Z.loop_ct, Y.Z.asT_ok, Y.Z.opt_some, Y.Z.var_some, Y.Z.y_asg, Y.Z.y_aug, Y.Z.y_ite, Y.Z.x_retN, Y.Z.x_brk, Y.Z.x_cnt, Y.Z.x_pass, Y.Z.e_var, Y.Z.e_cst, Y.Z.e_glo, Y.Z.e_bin, Y.Z.e_neg, Y.Z.e_cmp, Y.Z.e_cmp2, Y.Z.e_and, Y.Z.e_or, Y.Z.e_not, Y.Z.e_ife, Y.Z.e_tup, Y.Z.e_lst, Y.Z.e_dic, Y.Z.e_dic0, Y.Z.e_ix, Y.Z.e_sl, Y.Z.e_rev, Y.Z.e_call, Y.Z.e_callK, Y.Z.e_blt, Y.Z.e_isi, Y.Z.e_isq, Y.Z.e_app, Y.Z.e_pop, Y.Z.e_ext, Y.Z.kExt1_e, Y.Z.k_ex_e, Y.Z.k_ex2_e, Y.Z.ex_ref, Y.Z.t_max1, Y.Z.t_min1, Y.Z.e_get2, Y.Z.e_lc, Y.Z.e_lc2, Y.Z.l_nil, Y.Z.l_cons, Y.Z.o_non, Y.Z.o_som, Y.Z.c_val, Y.Z.c_cp, Y.Z.c_cp2, Y.Z.c_and, Y.Z.c_or, Y.Z.c_not, Y.Z.co_non, Y.Z.co_som, Y.Z.i_seq, Y.Z.i_rng1, Y.Z.i_rng2, Y.Z.i_enm, Y.Z.i_zip, Y.Z.g_nm, Y.Z.g_tup, Y.Z.g_ct, Y.Z.g_ix, Y.Z.gs_nil, Y.Z.gs_cons, Y.Z.b_add, Y.Z.b_sub, Y.Z.b_mul, Y.Z.b_div, Y.Z.b_mod, Y.Z.b_pow, Y.Z.b_tup, Y.Z.b_lst, Y.Z.b_mulL, Y.Z.c_lt, Y.Z.c_le, Y.Z.c_gt, Y.Z.c_ge, Y.Z.c_eq, Y.Z.c_ne, Y.Z.c_isN, Y.Z.c_notN, Y.Z.c_isB, Y.Z.c_notB, Y.isNon, Y.Z.newL_f, Y.Z.newL_t, Y.Z.t_len, Y.Z.t_sum, Y.Z.t_any, Y.Z.t_all, Y.Z.t_abs, Y.Z.t_min, Y.Z.t_max, Y.Z.t_tuple, Y.Z.t_list, Y.Z.t_int, Y.Z.t_repr, Y.Z.t_str, Y.Z.st_str, Y.Z.st_int, Y.Z.st_tup, Y.Z.len_tup, Y.Z.len_lst, Y.Z.len_rd, Y.Z.len_ct, Y.Z.tup_lst, Y.Z.tup_tup, Y.Z.tup_ct, Y.Z.lst_lst, Y.Z.lst_tup, Y.Z.sum_ints, Y.Z.sum_ints', Y.Z.w_tup, Y.Z.w_lst, Y.Z.w_rd, Y.Z.w_ct, Y.Z.we_tup, Y.Z.we_lst, Y.Z.we_ct, Y.Z.wz_tl, Y.Z.wz_ll, Y.Z.wz_tt, Y.Z.r_tup, Y.Z.r_lst, Y.Z.r_rd, Y.Z.r_ct, Y.Z.cut_tup, Y.Z.cut_lst, Y.Z.cut_rd, Y.Z.rev_tup, Y.Z.tr_bl, Y.Z.tr_int, Y.Z.tr_tup, Y.Z.tr_lst, Y.Z.refL_lst, Y.Z.getO_lst, Y.Z.r_ref, Y.Z.lstOf_ref, Y.Z.len_ref, Y.Z.tup_ref, Y.Z.lst_ref, Y.Z.w_ref, Y.Z.we_ref, Y.Z.cut_ref, Y.Z.tr_ref, Y.Z.s_ref, Y.Z.so_lst, Y.Z.a_ref, Y.Z.po_ref, Y.Z.ixN_lit, Y.Z.atI_lit, Y.isD, Y.tyD, Y.subTy, Y.Z.fin_rtc, Y.Z.fin_rta, Y.Z.fin_nx, Y.D.lt, Y.ltL, Y.Z.ltL_ints, Y.Z.still_nil2, Y.Z.still_tup, Y.Z.still_ct, Y.Z.still_rd, Y.Z.still_lst, Y.wipe, Y.Z.blO_some, Y.Z.y_par, Y.Z.y_par3, Y.Z.kPar31_e, Y.Z.kPar32_e, Y.Z.kPar33_e, Y.Z.y_expr, Y.Z.y_ret, Y.Z.y_for, Y.Z.x_while, Y.Z.kAsg_e, Y.Z.kAug3_e, Y.Z.kAug2_e, Y.Z.kAug1_e, Y.Z.kIte_e, Y.Z.kPar2_e, Y.Z.kPar1_e, Y.Z.kExpr_e, Y.Z.kFor_e, Y.Z.kBin1_e, Y.Z.kNeg_e, Y.Z.kCmp2_e, Y.Z.kCmp1_e, Y.Z.kC23_e, Y.Z.kC22_e, Y.Z.kC21_e, Y.Z.kAnd_e, Y.Z.kOr_e, Y.Z.kNot_e, Y.Z.kIfe_e, Y.Z.kTup_e, Y.Z.kLst_e, Y.Z.kDic_e, Y.Z.kIx1_e, Y.Z.kSl2_e, Y.Z.kSl1_e, Y.Z.kCall_e, Y.Z.kCK3_e, Y.Z.kCK2_e, Y.Z.kCK1_e, Y.Z.kApp1_e, Y.Z.kG2_e, Y.Z.kG1_e, Y.Z.lcF3_e, Y.Z.lcF2_e, Y.Z.lcF1_e, Y.Z.kLc_e, Y.Z.lcG1_e, Y.Z.lcH2_e, Y.Z.lcH1_e, Y.Z.kLc2_e, Y.Z.kL2_e, Y.Z.kL1_e, Y.Z.kInt_e, Y.Z.kTru_e, Y.Z.kCp2_e, Y.Z.kCp1_e, Y.Z.kCq3_e, Y.Z.kCq2_e, Y.Z.kCq1_e, Y.Z.kCand_e, Y.Z.kCor_e, Y.Z.kCnot_e, Y.Z.kR2_e, Y.Z.kZ_e, Y.Z.kGx3_e, Y.Z.kGx2_e, Y.Z.kGx1_e, Y.Z.kWh_e, Y.Z.k_len_e, Y.Z.k_tup_e, Y.Z.k_lst_e, Y.Z.k_w_e, Y.Z.k_we_e, Y.Z.k_cut_e, Y.Z.k_tr_e, Y.Z.sK2_e, Y.Z.sK1_e, Y.Z.soK_e, Y.Z.k_ap_e, Y.Z.k_po2_e, Y.Z.k_po_e, ir_check_word, fx]
end LW

namespace LW
open PySem Y Y.Z
theorem ltL_app2 (b : Nat) : ∀ xs ys : List D, ltL b (xs ++ ys) = (ltL b xs && ltL b ys)
  | [], ys => by simp [ltL]
  | x :: xs, ys => by simp [ltL, ltL_app2 b xs ys, Bool.and_assoc]
theorem ltL_take (xs : List D) (n : Nat) (h : ltL 0 xs = true) : ltL 0 (xs.take n) = true := by
  rw [← List.take_append_drop n xs, ltL_app2, Bool.and_eq_true] at h
  exact h.1
theorem ltL_drop (xs : List D) (n : Nat) (h : ltL 0 xs = true) : ltL 0 (xs.drop n) = true := by
  rw [← List.take_append_drop n xs, ltL_app2, Bool.and_eq_true] at h
  exact h.2
/-- plain, with a bound of its text's length and of its depth -/
def PB (d : D) (n k : Nat) : Prop := (∃ m, plN d = some m ∧ m ≤ n) ∧ dpD d ≤ k
def PBs (ds : List D) (n k : Nat) : Prop := (∃ m, plNs ds = some m ∧ m ≤ n) ∧ dpDs ds ≤ k
theorem PB.mono {d : D} {n k n' k' : Nat} (h : PB d n k) (h1 : n ≤ n') (h2 : k ≤ k') : PB d n' k' := by
  obtain ⟨⟨m, e, l⟩, q⟩ := h
  exact ⟨⟨m, e, Nat.le_trans l h1⟩, Nat.le_trans q h2⟩
theorem PBs.mono {d : List D} {n k n' k' : Nat} (h : PBs d n k) (h1 : n ≤ n') (h2 : k ≤ k') : PBs d n' k' := by
  obtain ⟨⟨m, e, l⟩, q⟩ := h
  exact ⟨⟨m, e, Nat.le_trans l h1⟩, Nat.le_trans q h2⟩
theorem PBs.nil {n k : Nat} : PBs [] n k := ⟨⟨0, rfl, Nat.zero_le _⟩, Nat.zero_le _⟩
theorem PBs.cons {d : D} {ds : List D} {a b k : Nat} (h : PB d a k) (r : PBs ds b k) : PBs (d :: ds) (a + b + 2) k := by
  obtain ⟨⟨m, e, l⟩, q⟩ := h
  obtain ⟨⟨m2, e2, l2⟩, q2⟩ := r
  refine ⟨⟨m + m2 + 2, by simp only [plNs, e, e2], by omega⟩, ?_⟩
  simp only [dpDs]
  omega
theorem PBs.app {b k : Nat} {es : List D} : ∀ {ds : List D} {a : Nat}, PBs ds a k → PBs es b k → PBs (ds ++ es) (a + b) k
  | [], a, _, r => r.mono (Nat.le_add_left _ _) (Nat.le_refl _)
  | d :: ds, a, h, r => by
    obtain ⟨⟨m, e, l⟩, q⟩ := h
    cases e1 : plN d with
    | none => simp only [plNs, e1] at e; cases e
    | some m1 =>
      cases e2 : plNs ds with
      | none => simp only [plNs, e1, e2] at e; cases e
      | some m2 =>
        simp only [plNs, e1, e2] at e
        cases e
        simp only [dpDs] at q
        have h1 : PB d m1 k := ⟨⟨m1, e1, Nat.le_refl _⟩, by omega⟩
        have h2 : PBs ds m2 k := ⟨⟨m2, e2, Nat.le_refl _⟩, by omega⟩
        exact (PBs.cons h1 (PBs.app h2 r)).mono (by omega) (Nat.le_refl _)
theorem PB.tup {ds : List D} {n k : Nat} (h : PBs ds n k) : PB (.tup ds) (n + 3) (k + 1) := by
  obtain ⟨⟨m, e, l⟩, q⟩ := h
  exact ⟨⟨m + 3, by simp only [plN, e, Option.map_some], by omega⟩, by simp only [dpD]; omega⟩
theorem PB.lst {ds : List D} {n k : Nat} (h : PBs ds n k) : PB (.lst ds) (n + 3) (k + 1) := by
  obtain ⟨⟨m, e, l⟩, q⟩ := h
  exact ⟨⟨m + 3, by simp only [plN, e, Option.map_some], by omega⟩, by simp only [dpD]; omega⟩
theorem PB.int {i : Int} (h : i.natAbs.log2 < 1920) : PB (.int i) 1921 0 := ⟨⟨1921, by simp only [plN, h, if_true], Nat.le_refl _⟩, Nat.le_refl _⟩
theorem PBs.ints : ∀ {x : List Int}, (∀ i ∈ x, i.natAbs.log2 < 1920) → PBs (x.map .int) (1923 * x.length) 0
  | [], _ => PBs.nil
  | i :: x, h => (PBs.cons (PB.int (h i (List.mem_cons_self ..))) (PBs.ints fun j hj => h j (List.mem_cons_of_mem _ hj))).mono (by simp only [List.length_cons]; omega) (Nat.le_refl _)
theorem PB.str {x : Str} (h : PyData.strOk x = true) : PB (.str x) (10 * x.length + 2) 0 := ⟨⟨_, by simp only [plN, h, if_true], Nat.le_refl _⟩, Nat.le_refl _⟩
theorem PB.plain {d : D} {n k : Nat} (h : PB d n k) (h1 : n ≤ sz) (h2 : k ≤ 100) : LW.plain d = true := by
  obtain ⟨⟨m, e, l⟩, q⟩ := h
  unfold LW.plain
  rw [e]
  simp only [Bool.and_eq_true, decide_eq_true_eq]
  exact ⟨Nat.le_trans l h1, Nat.le_trans q h2⟩
theorem PB.rtx {d : D} {n k : Nat} (h : PB d n k) (h1 : n ≤ sz) (h2 : k ≤ 100) : (rtx d).length ≤ n ∧ PyData.strOk (rtx d) = true := by
  refine ⟨?_, (repr_plain d (h.plain h1 h2) []).2⟩
  obtain ⟨⟨m, e, l⟩, q⟩ := h
  obtain ⟨p, o⟩ := pl_ok noF d m e
  unfold LW.rtx
  rw [o.py]
  exact Nat.le_trans o.ln l
theorem PBs.sub {ds es : List D} {n k : Nat} (h : PBs (ds ++ es) n k) : PBs ds n k ∧ PBs es n k := by
  induction ds generalizing n with
  | nil => exact ⟨PBs.nil, h⟩
  | cons d ds ih =>
    obtain ⟨⟨m, e, l⟩, q⟩ := h
    cases e1 : plN d with
    | none => simp only [List.cons_append, plNs, e1] at e; cases e
    | some m1 =>
      cases e2 : plNs (ds ++ es) with
      | none => simp only [List.cons_append, plNs, e1, e2] at e; cases e
      | some m2 =>
        simp only [List.cons_append, plNs, e1, e2] at e
        cases e
        simp only [List.cons_append, dpDs] at q
        obtain ⟨i1, i2⟩ := ih (n := m2) ⟨⟨m2, e2, Nat.le_refl _⟩, by omega⟩
        exact ⟨(PBs.cons (a := m1) ⟨⟨m1, e1, Nat.le_refl _⟩, by omega⟩ i1).mono (by omega) (Nat.le_refl _), i2.mono (by omega) (Nat.le_refl _)⟩
end LW

namespace LW
open PySem Y Y.Z
def stD (c : List Int) (a l n s : Int) : Ob := .dK [.inr "cells", .inr "at", .inr "left", .inr "count", .inr "sum"] [.lst (c.map .int), .int a, .int l, .int n, .int s]
/-- the store: the state of drawing, then r -/
def StO (r st : Stt) : Prop := ∃ c a l n s, 0 ≤ a ∧ st = stD c a l n s :: r
theorem g_cells (c a l n s st) : getO (some (stD c a l n s)) (.str "cells") st = .ok (.lst (c.map .int)) st := rfl
theorem g_at (c a l n s st) : getO (some (stD c a l n s)) (.str "at") st = .ok (.int a) st := rfl
theorem g_left (c a l n s st) : getO (some (stD c a l n s)) (.str "left") st = .ok (.int l) st := rfl
theorem g_count (c a l n s st) : getO (some (stD c a l n s)) (.str "count") st = .ok (.int n) st := rfl
theorem g_sum (c a l n s st) : getO (some (stD c a l n s)) (.str "sum") st = .ok (.int s) st := rfl
theorem p_at (c a l n s i) : setOb (stD c a l n s) (.str "at") (.int i) = some (stD c i l n s) := rfl
theorem p_left (c a l n s i) : setOb (stD c a l n s) (.str "left") (.int i) = some (stD c a i n s) := rfl
theorem p_count (c a l n s i) : setOb (stD c a l n s) (.str "count") (.int i) = some (stD c a l i s) := rfl
theorem mulr (i j : Int) (h : j.natAbs < 2 ^ 64) : mulOk i j = true := by simp [mulOk, h]
theorem mull (i j : Int) (h : i.natAbs < 2 ^ 64) : mulOk i j = true := by simp [mulOk, h]
theorem getc (c : List Int) (a : Int) (h0 : 0 ≤ a) (h : a < c.length) (st : Stt) : getR (.lst (c.map .int)) (.int a) st = .ok (.int (c.getD a.toNat 0)) st := by
  have hi : a.toNat < c.length := by omega
  simp only [getR, getD, seqOf]
  unfold L2.atI L2.ixN
  rw [if_pos h0, if_pos (by simpa using h), Option.bind_some, List.getElem?_map, List.getElem?_eq_getElem hi, List.getD_eq_getElem?_getD, List.getElem?_eq_getElem hi]
  rfl
def mixed (cell count : Int) : Int := 
  let m := (cell * 48271 + count * 69621 + 12345) % 2305843009213693951
  let m := (m * m + cell + count * 7919) % 2305843009213693951
  (m * m * 16807 + cell * 40014 + 1) % 2305843009213693951
theorem ex_draw1 (F : Fs) (b : Nat) (c a l n s r) (m cell : Int) (a2 a4 : Option D) : ∃ a4', exS F b (.ite (.cp .lt (.var 3) (.bin .pow false (.cst (.int 10)) (.cst (.int 18)))) (.cons (.asg (.nm 4) (.bin .mod false (.blt .int (.cons (.bin .add false (.bin .add false (.bin .mul false (.var 3) (.cst (.int 48271))) (.bin .mul false (.ix (.var 0) (.cst (.str "count"))) (.cst (.int 69621)))) (.cst (.int 12345))) .nil)) (.cst (.int 2305843009213693951)))) (.cons (.asg (.nm 4) (.bin .mod false (.blt .int (.cons (.bin .add false (.bin .add false (.bin .mul false (.var 4) (.var 4)) (.var 3)) (.bin .mul false (.ix (.var 0) (.cst (.str "count"))) (.cst (.int 7919)))) .nil)) (.cst (.int 2305843009213693951)))) (.cons (.asg (.nm 3) (.bin .mod false (.blt .int (.cons (.bin .add false (.bin .add false (.bin .mul false (.bin .mul false (.var 4) (.var 4)) (.cst (.int 16807))) (.bin .mul false (.var 3) (.cst (.int 40014)))) (.cst (.int 1))) .nil)) (.cst (.int 2305843009213693951)))) .nil))) .nil)
    [some (.ref 0), some (.int m), a2, some (.int cell), a4] (stD c a l n s :: r) = .nx [some (.ref 0), some (.int m), a2, some (.int (if cell < 10 ^ 18 then mixed cell n else cell)), a4'] (stD c a l n s :: r) := by
  have lt : ∀ i : Int, mulOk (i % 2305843009213693951) (i % 2305843009213693951) = true := fun i => mull _ _ (by omega)
  have k1 : ∀ i, mulOk i 48271 = true := fun i => mulr _ _ (by decide)
  have k2 : ∀ i, mulOk i 69621 = true := fun i => mulr _ _ (by decide)
  have k3 : ∀ i, mulOk i 7919 = true := fun i => mulr _ _ (by decide)
  have k4 : ∀ i, mulOk i 16807 = true := fun i => mulr _ _ (by decide)
  have k5 : ∀ i, mulOk i 40014 = true := fun i => mulr _ _ (by decide)
  have pw : powOk 10 18 = true := by simp [powOk]
  by_cases h : cell < 10 ^ 18
  · have h' : cell < 1000000000000000000 := h
    refine ⟨some (.int (((cell * 48271 + n * 69621 + 12345) % 2305843009213693951 * ((cell * 48271 + n * 69621 + 12345) % 2305843009213693951) + cell + n * 7919) % 2305843009213693951)), ?_⟩
    rw [if_pos h]
    simp (implicitDefEqProofs := false) [Y.Z.x_nil, Y.Z.x_cons, Y.Z.bind_ok, Y.Z.bind_ex, Y.Z.lift_ok, Y.Z.lift_ex, Y.Z.noEx_ok, Y.Z.seq_nx, Y.Z.seq_rt, Y.Z.seq_bk, Y.Z.seq_ct, Y.Z.seq_ex, Y.Z.kRaise_e, Y.Z.y_raise, Y.Z.y_tryv, Y.Z.tv_nx, Y.Z.tv_rt, Y.Z.tv_ex, Y.hkD, Y.Z.e_fld, Y.Z.fld_e, Y.Z.loop_nx, Y.Z.loop_rt, Y.Z.loop_bk, Y.Z.loop_ct, Y.Z.asT_ok, Y.Z.opt_some, Y.Z.var_some, Y.Z.y_asg, Y.Z.y_aug, Y.Z.y_ite, Y.Z.x_retN, Y.Z.x_brk, Y.Z.x_cnt, Y.Z.x_pass, Y.Z.e_var, Y.Z.e_cst, Y.Z.e_glo, Y.Z.e_bin, Y.Z.e_neg, Y.Z.e_cmp, Y.Z.e_cmp2, Y.Z.e_and, Y.Z.e_or, Y.Z.e_not, Y.Z.e_ife, Y.Z.e_tup, Y.Z.e_lst, Y.Z.e_dic, Y.Z.e_dic0, Y.Z.e_ix, Y.Z.e_sl, Y.Z.e_rev, Y.Z.e_call, Y.Z.e_callK, Y.Z.e_blt, Y.Z.e_isi, Y.Z.e_isq, Y.Z.e_app, Y.Z.e_pop, Y.Z.e_ext, Y.Z.kExt1_e, Y.Z.k_ex_e, Y.Z.k_ex2_e, Y.Z.ex_ref, Y.Z.t_max1, Y.Z.t_min1, Y.Z.e_get2, Y.Z.e_lc, Y.Z.e_lc2, Y.Z.l_nil, Y.Z.l_cons, Y.Z.o_non, Y.Z.o_som, Y.Z.c_val, Y.Z.c_cp, Y.Z.c_cp2, Y.Z.c_and, Y.Z.c_or, Y.Z.c_not, Y.Z.co_non, Y.Z.co_som, Y.Z.i_seq, Y.Z.i_rng1, Y.Z.i_rng2, Y.Z.i_enm, Y.Z.i_zip, Y.Z.g_nm, Y.Z.g_tup, Y.Z.g_ct, Y.Z.g_ix, Y.Z.gs_nil, Y.Z.gs_cons, Y.Z.b_add, Y.Z.b_sub, Y.Z.b_mul, Y.Z.b_div, Y.Z.b_mod, Y.Z.b_pow, Y.Z.b_tup, Y.Z.b_lst, Y.Z.b_mulL, Y.Z.c_lt, Y.Z.c_le, Y.Z.c_gt, Y.Z.c_ge, Y.Z.c_eq, Y.Z.c_ne, Y.Z.c_isN, Y.Z.c_notN, Y.Z.c_isB, Y.Z.c_notB, Y.isNon, Y.Z.newL_f, Y.Z.newL_t, Y.Z.t_len, Y.Z.t_sum, Y.Z.t_any, Y.Z.t_all, Y.Z.t_abs, Y.Z.t_min, Y.Z.t_max, Y.Z.t_tuple, Y.Z.t_list, Y.Z.t_int, Y.Z.t_repr, Y.Z.t_str, Y.Z.st_str, Y.Z.st_int, Y.Z.st_tup, Y.Z.len_tup, Y.Z.len_lst, Y.Z.len_rd, Y.Z.len_ct, Y.Z.tup_lst, Y.Z.tup_tup, Y.Z.tup_ct, Y.Z.lst_lst, Y.Z.lst_tup, Y.Z.sum_ints, Y.Z.sum_ints', Y.Z.w_tup, Y.Z.w_lst, Y.Z.w_rd, Y.Z.w_ct, Y.Z.we_tup, Y.Z.we_lst, Y.Z.we_ct, Y.Z.wz_tl, Y.Z.wz_ll, Y.Z.wz_tt, Y.Z.r_tup, Y.Z.r_lst, Y.Z.r_rd, Y.Z.r_ct, Y.Z.cut_tup, Y.Z.cut_lst, Y.Z.cut_rd, Y.Z.rev_tup, Y.Z.tr_bl, Y.Z.tr_int, Y.Z.tr_tup, Y.Z.tr_lst, Y.Z.refL_lst, Y.Z.getO_lst, Y.Z.r_ref, Y.Z.lstOf_ref, Y.Z.len_ref, Y.Z.tup_ref, Y.Z.lst_ref, Y.Z.w_ref, Y.Z.we_ref, Y.Z.cut_ref, Y.Z.tr_ref, Y.Z.s_ref, Y.Z.so_lst, Y.Z.a_ref, Y.Z.po_ref, Y.Z.ixN_lit, Y.Z.atI_lit, Y.isD, Y.tyD, Y.subTy, Y.Z.fin_rtc, Y.Z.fin_rta, Y.Z.fin_nx, Y.D.lt, Y.ltL, Y.Z.ltL_ints, Y.Z.still_nil2, Y.Z.still_tup, Y.Z.still_ct, Y.Z.still_rd, Y.Z.still_lst, Y.wipe, Y.Z.blO_some, Y.Z.y_par, Y.Z.y_par3, Y.Z.kPar31_e, Y.Z.kPar32_e, Y.Z.kPar33_e, Y.Z.y_expr, Y.Z.y_ret, Y.Z.y_for, Y.Z.x_while, Y.Z.kAsg_e, Y.Z.kAug3_e, Y.Z.kAug2_e, Y.Z.kAug1_e, Y.Z.kIte_e, Y.Z.kPar2_e, Y.Z.kPar1_e, Y.Z.kExpr_e, Y.Z.kFor_e, Y.Z.kBin1_e, Y.Z.kNeg_e, Y.Z.kCmp2_e, Y.Z.kCmp1_e, Y.Z.kC23_e, Y.Z.kC22_e, Y.Z.kC21_e, Y.Z.kAnd_e, Y.Z.kOr_e, Y.Z.kNot_e, Y.Z.kIfe_e, Y.Z.kTup_e, Y.Z.kLst_e, Y.Z.kDic_e, Y.Z.kIx1_e, Y.Z.kSl2_e, Y.Z.kSl1_e, Y.Z.kCall_e, Y.Z.kCK3_e, Y.Z.kCK2_e, Y.Z.kCK1_e, Y.Z.kApp1_e, Y.Z.kG2_e, Y.Z.kG1_e, Y.Z.lcF3_e, Y.Z.lcF2_e, Y.Z.lcF1_e, Y.Z.kLc_e, Y.Z.lcG1_e, Y.Z.lcH2_e, Y.Z.lcH1_e, Y.Z.kLc2_e, Y.Z.kL2_e, Y.Z.kL1_e, Y.Z.kInt_e, Y.Z.kTru_e, Y.Z.kCp2_e, Y.Z.kCp1_e, Y.Z.kCq3_e, Y.Z.kCq2_e, Y.Z.kCq1_e, Y.Z.kCand_e, Y.Z.kCor_e, Y.Z.kCnot_e, Y.Z.kR2_e, Y.Z.kZ_e, Y.Z.kGx3_e, Y.Z.kGx2_e, Y.Z.kGx1_e, Y.Z.kWh_e, Y.Z.k_len_e, Y.Z.k_tup_e, Y.Z.k_lst_e, Y.Z.k_w_e, Y.Z.k_we_e, Y.Z.k_cut_e, Y.Z.k_tr_e, Y.Z.sK2_e, Y.Z.sK1_e, Y.Z.soK_e, Y.Z.k_ap_e, Y.Z.k_po2_e, Y.Z.k_po_e, pw, h', g_count, lt, k1, k2, k3, k4, k5, mixed]
  · refine ⟨a4, ?_⟩
    rw [if_neg h]
    have h' : ¬ cell < 1000000000000000000 := h
    simp (implicitDefEqProofs := false) [Y.Z.x_nil, Y.Z.x_cons, Y.Z.bind_ok, Y.Z.bind_ex, Y.Z.lift_ok, Y.Z.lift_ex, Y.Z.noEx_ok, Y.Z.seq_nx, Y.Z.seq_rt, Y.Z.seq_bk, Y.Z.seq_ct, Y.Z.seq_ex, Y.Z.kRaise_e, Y.Z.y_raise, Y.Z.y_tryv, Y.Z.tv_nx, Y.Z.tv_rt, Y.Z.tv_ex, Y.hkD, Y.Z.e_fld, Y.Z.fld_e, Y.Z.loop_nx, Y.Z.loop_rt, Y.Z.loop_bk, Y.Z.loop_ct, Y.Z.asT_ok, Y.Z.opt_some, Y.Z.var_some, Y.Z.y_asg, Y.Z.y_aug, Y.Z.y_ite, Y.Z.x_retN, Y.Z.x_brk, Y.Z.x_cnt, Y.Z.x_pass, Y.Z.e_var, Y.Z.e_cst, Y.Z.e_glo, Y.Z.e_bin, Y.Z.e_neg, Y.Z.e_cmp, Y.Z.e_cmp2, Y.Z.e_and, Y.Z.e_or, Y.Z.e_not, Y.Z.e_ife, Y.Z.e_tup, Y.Z.e_lst, Y.Z.e_dic, Y.Z.e_dic0, Y.Z.e_ix, Y.Z.e_sl, Y.Z.e_rev, Y.Z.e_call, Y.Z.e_callK, Y.Z.e_blt, Y.Z.e_isi, Y.Z.e_isq, Y.Z.e_app, Y.Z.e_pop, Y.Z.e_ext, Y.Z.kExt1_e, Y.Z.k_ex_e, Y.Z.k_ex2_e, Y.Z.ex_ref, Y.Z.t_max1, Y.Z.t_min1, Y.Z.e_get2, Y.Z.e_lc, Y.Z.e_lc2, Y.Z.l_nil, Y.Z.l_cons, Y.Z.o_non, Y.Z.o_som, Y.Z.c_val, Y.Z.c_cp, Y.Z.c_cp2, Y.Z.c_and, Y.Z.c_or, Y.Z.c_not, Y.Z.co_non, Y.Z.co_som, Y.Z.i_seq, Y.Z.i_rng1, Y.Z.i_rng2, Y.Z.i_enm, Y.Z.i_zip, Y.Z.g_nm, Y.Z.g_tup, Y.Z.g_ct, Y.Z.g_ix, Y.Z.gs_nil, Y.Z.gs_cons, Y.Z.b_add, Y.Z.b_sub, Y.Z.b_mul, Y.Z.b_div, Y.Z.b_mod, Y.Z.b_pow, Y.Z.b_tup, Y.Z.b_lst, Y.Z.b_mulL, Y.Z.c_lt, Y.Z.c_le, Y.Z.c_gt, Y.Z.c_ge, Y.Z.c_eq, Y.Z.c_ne, Y.Z.c_isN, Y.Z.c_notN, Y.Z.c_isB, Y.Z.c_notB, Y.isNon, Y.Z.newL_f, Y.Z.newL_t, Y.Z.t_len, Y.Z.t_sum, Y.Z.t_any, Y.Z.t_all, Y.Z.t_abs, Y.Z.t_min, Y.Z.t_max, Y.Z.t_tuple, Y.Z.t_list, Y.Z.t_int, Y.Z.t_repr, Y.Z.t_str, Y.Z.st_str, Y.Z.st_int, Y.Z.st_tup, Y.Z.len_tup, Y.Z.len_lst, Y.Z.len_rd, Y.Z.len_ct, Y.Z.tup_lst, Y.Z.tup_tup, Y.Z.tup_ct, Y.Z.lst_lst, Y.Z.lst_tup, Y.Z.sum_ints, Y.Z.sum_ints', Y.Z.w_tup, Y.Z.w_lst, Y.Z.w_rd, Y.Z.w_ct, Y.Z.we_tup, Y.Z.we_lst, Y.Z.we_ct, Y.Z.wz_tl, Y.Z.wz_ll, Y.Z.wz_tt, Y.Z.r_tup, Y.Z.r_lst, Y.Z.r_rd, Y.Z.r_ct, Y.Z.cut_tup, Y.Z.cut_lst, Y.Z.cut_rd, Y.Z.rev_tup, Y.Z.tr_bl, Y.Z.tr_int, Y.Z.tr_tup, Y.Z.tr_lst, Y.Z.refL_lst, Y.Z.getO_lst, Y.Z.r_ref, Y.Z.lstOf_ref, Y.Z.len_ref, Y.Z.tup_ref, Y.Z.lst_ref, Y.Z.w_ref, Y.Z.we_ref, Y.Z.cut_ref, Y.Z.tr_ref, Y.Z.s_ref, Y.Z.so_lst, Y.Z.a_ref, Y.Z.po_ref, Y.Z.ixN_lit, Y.Z.atI_lit, Y.isD, Y.tyD, Y.subTy, Y.Z.fin_rtc, Y.Z.fin_rta, Y.Z.fin_nx, Y.D.lt, Y.ltL, Y.Z.ltL_ints, Y.Z.still_nil2, Y.Z.still_tup, Y.Z.still_ct, Y.Z.still_rd, Y.Z.still_lst, Y.wipe, Y.Z.blO_some, Y.Z.y_par, Y.Z.y_par3, Y.Z.kPar31_e, Y.Z.kPar32_e, Y.Z.kPar33_e, Y.Z.y_expr, Y.Z.y_ret, Y.Z.y_for, Y.Z.x_while, Y.Z.kAsg_e, Y.Z.kAug3_e, Y.Z.kAug2_e, Y.Z.kAug1_e, Y.Z.kIte_e, Y.Z.kPar2_e, Y.Z.kPar1_e, Y.Z.kExpr_e, Y.Z.kFor_e, Y.Z.kBin1_e, Y.Z.kNeg_e, Y.Z.kCmp2_e, Y.Z.kCmp1_e, Y.Z.kC23_e, Y.Z.kC22_e, Y.Z.kC21_e, Y.Z.kAnd_e, Y.Z.kOr_e, Y.Z.kNot_e, Y.Z.kIfe_e, Y.Z.kTup_e, Y.Z.kLst_e, Y.Z.kDic_e, Y.Z.kIx1_e, Y.Z.kSl2_e, Y.Z.kSl1_e, Y.Z.kCall_e, Y.Z.kCK3_e, Y.Z.kCK2_e, Y.Z.kCK1_e, Y.Z.kApp1_e, Y.Z.kG2_e, Y.Z.kG1_e, Y.Z.lcF3_e, Y.Z.lcF2_e, Y.Z.lcF1_e, Y.Z.kLc_e, Y.Z.lcG1_e, Y.Z.lcH2_e, Y.Z.lcH1_e, Y.Z.kLc2_e, Y.Z.kL2_e, Y.Z.kL1_e, Y.Z.kInt_e, Y.Z.kTru_e, Y.Z.kCp2_e, Y.Z.kCp1_e, Y.Z.kCq3_e, Y.Z.kCq2_e, Y.Z.kCq1_e, Y.Z.kCand_e, Y.Z.kCor_e, Y.Z.kCnot_e, Y.Z.kR2_e, Y.Z.kZ_e, Y.Z.kGx3_e, Y.Z.kGx2_e, Y.Z.kGx1_e, Y.Z.kWh_e, Y.Z.k_len_e, Y.Z.k_tup_e, Y.Z.k_lst_e, Y.Z.k_w_e, Y.Z.k_we_e, Y.Z.k_cut_e, Y.Z.k_tr_e, Y.Z.sK2_e, Y.Z.sK1_e, Y.Z.soK_e, Y.Z.k_ap_e, Y.Z.k_po2_e, Y.Z.k_po_e, pw, h']
theorem sp_draw (k : Nat) (m : Int) (hm : 0 < m) (hm2 : m.natAbs.log2 < 9000) (r st : Stt) (h : StO r st) : ∃ i st', (∀ b, callF tbl glo 100000 (k+1) 23 [.ref 0, .int m] b st = .ok (.int i) st') ∧ StO r st' ∧ 0 ≤ i ∧ i < m := by
  obtain ⟨c, a, l, n, s, ha, rfl⟩ := h
  have hi : ∀ l' : Int, 0 ≤ l' % m ∧ l' % m < m := fun l' => ⟨Int.emod_nonneg _ (by omega), Int.emod_lt_of_pos _ hm⟩
  have dv : ∀ l', divOk l' m = true := fun l' => by simp [divOk, hm, hm2]
  have fin : ∀ (i : Int) (c a l n s), finO 0 (r.length + 1) (.rt (.int i) (stD c a l n s :: r)) = .ok (.int i) (stD c a l n s :: r) := fun i c a l n s => by
    rw [show r.length + 1 = (stD c a l n s :: r).length from rfl]
    exact fin_rt rfl
  by_cases h1 : l < m
  · by_cases h2 : a < c.length
    · have gc := fun st => getc c a ha h2 st
      generalize c.getD a.toNat 0 = v at gc
      obtain ⟨a4', e⟩ := ex_draw1 ⟨callF tbl glo 100000 k, glo, 100000⟩ (stD c a l n s :: r).length c (a + 1) l (n + 1) s r m v none none
      generalize hcell : (if v < 10 ^ 18 then mixed v (n + 1) else v) = cell at e
      refine ⟨cell % m, stD c (a + 1) (cell / m) (n + 1) s :: r, fun b => ?_, ⟨c, a + 1, _, _, s, by omega, rfl⟩, hi _⟩
      rw [en__law_draw]
      simp only [r_lst] at gc
      unfold ir__law_draw
      generalize hq : IS.ite (IC.cp .lt (.var 3) (.bin .pow false (.cst (.int 10)) (.cst (.int 18)))) _ _ = Q at e ⊢
      simp only [List.length_cons] at e
      simp (implicitDefEqProofs := false) [Y.Z.x_nil, Y.Z.x_cons, Y.Z.bind_ok, Y.Z.bind_ex, Y.Z.lift_ok, Y.Z.lift_ex, Y.Z.noEx_ok, Y.Z.seq_nx, Y.Z.seq_rt, Y.Z.seq_bk, Y.Z.seq_ct, Y.Z.seq_ex, Y.Z.kRaise_e, Y.Z.y_raise, Y.Z.y_tryv, Y.Z.tv_nx, Y.Z.tv_rt, Y.Z.tv_ex, Y.hkD, Y.Z.e_fld, Y.Z.fld_e, Y.Z.loop_nx, Y.Z.loop_rt, Y.Z.loop_bk, Y.Z.loop_ct, Y.Z.asT_ok, Y.Z.opt_some, Y.Z.var_some, Y.Z.y_asg, Y.Z.y_aug, Y.Z.y_ite, Y.Z.x_retN, Y.Z.x_brk, Y.Z.x_cnt, Y.Z.x_pass, Y.Z.e_var, Y.Z.e_cst, Y.Z.e_glo, Y.Z.e_bin, Y.Z.e_neg, Y.Z.e_cmp, Y.Z.e_cmp2, Y.Z.e_and, Y.Z.e_or, Y.Z.e_not, Y.Z.e_ife, Y.Z.e_tup, Y.Z.e_lst, Y.Z.e_dic, Y.Z.e_dic0, Y.Z.e_ix, Y.Z.e_sl, Y.Z.e_rev, Y.Z.e_call, Y.Z.e_callK, Y.Z.e_blt, Y.Z.e_isi, Y.Z.e_isq, Y.Z.e_app, Y.Z.e_pop, Y.Z.e_ext, Y.Z.kExt1_e, Y.Z.k_ex_e, Y.Z.k_ex2_e, Y.Z.ex_ref, Y.Z.t_max1, Y.Z.t_min1, Y.Z.e_get2, Y.Z.e_lc, Y.Z.e_lc2, Y.Z.l_nil, Y.Z.l_cons, Y.Z.o_non, Y.Z.o_som, Y.Z.c_val, Y.Z.c_cp, Y.Z.c_cp2, Y.Z.c_and, Y.Z.c_or, Y.Z.c_not, Y.Z.co_non, Y.Z.co_som, Y.Z.i_seq, Y.Z.i_rng1, Y.Z.i_rng2, Y.Z.i_enm, Y.Z.i_zip, Y.Z.g_nm, Y.Z.g_tup, Y.Z.g_ct, Y.Z.g_ix, Y.Z.gs_nil, Y.Z.gs_cons, Y.Z.b_add, Y.Z.b_sub, Y.Z.b_mul, Y.Z.b_div, Y.Z.b_mod, Y.Z.b_pow, Y.Z.b_tup, Y.Z.b_lst, Y.Z.b_mulL, Y.Z.c_lt, Y.Z.c_le, Y.Z.c_gt, Y.Z.c_ge, Y.Z.c_eq, Y.Z.c_ne, Y.Z.c_isN, Y.Z.c_notN, Y.Z.c_isB, Y.Z.c_notB, Y.isNon, Y.Z.newL_f, Y.Z.newL_t, Y.Z.t_len, Y.Z.t_sum, Y.Z.t_any, Y.Z.t_all, Y.Z.t_abs, Y.Z.t_min, Y.Z.t_max, Y.Z.t_tuple, Y.Z.t_list, Y.Z.t_int, Y.Z.t_repr, Y.Z.t_str, Y.Z.st_str, Y.Z.st_int, Y.Z.st_tup, Y.Z.len_tup, Y.Z.len_lst, Y.Z.len_rd, Y.Z.len_ct, Y.Z.tup_lst, Y.Z.tup_tup, Y.Z.tup_ct, Y.Z.lst_lst, Y.Z.lst_tup, Y.Z.sum_ints, Y.Z.sum_ints', Y.Z.w_tup, Y.Z.w_lst, Y.Z.w_rd, Y.Z.w_ct, Y.Z.we_tup, Y.Z.we_lst, Y.Z.we_ct, Y.Z.wz_tl, Y.Z.wz_ll, Y.Z.wz_tt, Y.Z.r_tup, Y.Z.r_lst, Y.Z.r_rd, Y.Z.r_ct, Y.Z.cut_tup, Y.Z.cut_lst, Y.Z.cut_rd, Y.Z.rev_tup, Y.Z.tr_bl, Y.Z.tr_int, Y.Z.tr_tup, Y.Z.tr_lst, Y.Z.refL_lst, Y.Z.getO_lst, Y.Z.r_ref, Y.Z.lstOf_ref, Y.Z.len_ref, Y.Z.tup_ref, Y.Z.lst_ref, Y.Z.w_ref, Y.Z.we_ref, Y.Z.cut_ref, Y.Z.tr_ref, Y.Z.s_ref, Y.Z.so_lst, Y.Z.a_ref, Y.Z.po_ref, Y.Z.ixN_lit, Y.Z.atI_lit, Y.isD, Y.tyD, Y.subTy, Y.Z.fin_rtc, Y.Z.fin_rta, Y.Z.fin_nx, Y.D.lt, Y.ltL, Y.Z.ltL_ints, Y.Z.still_nil2, Y.Z.still_tup, Y.Z.still_ct, Y.Z.still_rd, Y.Z.still_lst, Y.wipe, Y.Z.blO_some, Y.Z.y_par, Y.Z.y_par3, Y.Z.kPar31_e, Y.Z.kPar32_e, Y.Z.kPar33_e, Y.Z.y_expr, Y.Z.y_ret, Y.Z.y_for, Y.Z.x_while, Y.Z.kAsg_e, Y.Z.kAug3_e, Y.Z.kAug2_e, Y.Z.kAug1_e, Y.Z.kIte_e, Y.Z.kPar2_e, Y.Z.kPar1_e, Y.Z.kExpr_e, Y.Z.kFor_e, Y.Z.kBin1_e, Y.Z.kNeg_e, Y.Z.kCmp2_e, Y.Z.kCmp1_e, Y.Z.kC23_e, Y.Z.kC22_e, Y.Z.kC21_e, Y.Z.kAnd_e, Y.Z.kOr_e, Y.Z.kNot_e, Y.Z.kIfe_e, Y.Z.kTup_e, Y.Z.kLst_e, Y.Z.kDic_e, Y.Z.kIx1_e, Y.Z.kSl2_e, Y.Z.kSl1_e, Y.Z.kCall_e, Y.Z.kCK3_e, Y.Z.kCK2_e, Y.Z.kCK1_e, Y.Z.kApp1_e, Y.Z.kG2_e, Y.Z.kG1_e, Y.Z.lcF3_e, Y.Z.lcF2_e, Y.Z.lcF1_e, Y.Z.kLc_e, Y.Z.lcG1_e, Y.Z.lcH2_e, Y.Z.lcH1_e, Y.Z.kLc2_e, Y.Z.kL2_e, Y.Z.kL1_e, Y.Z.kInt_e, Y.Z.kTru_e, Y.Z.kCp2_e, Y.Z.kCp1_e, Y.Z.kCq3_e, Y.Z.kCq2_e, Y.Z.kCq1_e, Y.Z.kCand_e, Y.Z.kCor_e, Y.Z.kCnot_e, Y.Z.kR2_e, Y.Z.kZ_e, Y.Z.kGx3_e, Y.Z.kGx2_e, Y.Z.kGx1_e, Y.Z.kWh_e, Y.Z.k_len_e, Y.Z.k_tup_e, Y.Z.k_lst_e, Y.Z.k_w_e, Y.Z.k_we_e, Y.Z.k_cut_e, Y.Z.k_tr_e, Y.Z.sK2_e, Y.Z.sK1_e, Y.Z.soK_e, Y.Z.k_ap_e, Y.Z.k_po2_e, Y.Z.k_po_e, g_count, g_left, g_at, g_cells, g_sum, p_count, p_at, p_left, h1, h2, gc, e, dv, hm, fin]
    · obtain ⟨a4', e⟩ := ex_draw1 ⟨callF tbl glo 100000 k, glo, 100000⟩ (stD c a l n s :: r).length c a l (n + 1) s r m (s + (n + 1)) none none
      generalize hcell : (if s + (n + 1) < 10 ^ 18 then mixed (s + (n + 1)) (n + 1) else s + (n + 1)) = cell at e
      refine ⟨cell % m, stD c a (cell / m) (n + 1) s :: r, fun b => ?_, ⟨c, a, _, _, s, by omega, rfl⟩, hi _⟩
      rw [en__law_draw]
      unfold ir__law_draw
      generalize hq : IS.ite (IC.cp .lt (.var 3) (.bin .pow false (.cst (.int 10)) (.cst (.int 18)))) _ _ = Q at e ⊢
      simp only [List.length_cons] at e
      simp (implicitDefEqProofs := false) [Y.Z.x_nil, Y.Z.x_cons, Y.Z.bind_ok, Y.Z.bind_ex, Y.Z.lift_ok, Y.Z.lift_ex, Y.Z.noEx_ok, Y.Z.seq_nx, Y.Z.seq_rt, Y.Z.seq_bk, Y.Z.seq_ct, Y.Z.seq_ex, Y.Z.kRaise_e, Y.Z.y_raise, Y.Z.y_tryv, Y.Z.tv_nx, Y.Z.tv_rt, Y.Z.tv_ex, Y.hkD, Y.Z.e_fld, Y.Z.fld_e, Y.Z.loop_nx, Y.Z.loop_rt, Y.Z.loop_bk, Y.Z.loop_ct, Y.Z.asT_ok, Y.Z.opt_some, Y.Z.var_some, Y.Z.y_asg, Y.Z.y_aug, Y.Z.y_ite, Y.Z.x_retN, Y.Z.x_brk, Y.Z.x_cnt, Y.Z.x_pass, Y.Z.e_var, Y.Z.e_cst, Y.Z.e_glo, Y.Z.e_bin, Y.Z.e_neg, Y.Z.e_cmp, Y.Z.e_cmp2, Y.Z.e_and, Y.Z.e_or, Y.Z.e_not, Y.Z.e_ife, Y.Z.e_tup, Y.Z.e_lst, Y.Z.e_dic, Y.Z.e_dic0, Y.Z.e_ix, Y.Z.e_sl, Y.Z.e_rev, Y.Z.e_call, Y.Z.e_callK, Y.Z.e_blt, Y.Z.e_isi, Y.Z.e_isq, Y.Z.e_app, Y.Z.e_pop, Y.Z.e_ext, Y.Z.kExt1_e, Y.Z.k_ex_e, Y.Z.k_ex2_e, Y.Z.ex_ref, Y.Z.t_max1, Y.Z.t_min1, Y.Z.e_get2, Y.Z.e_lc, Y.Z.e_lc2, Y.Z.l_nil, Y.Z.l_cons, Y.Z.o_non, Y.Z.o_som, Y.Z.c_val, Y.Z.c_cp, Y.Z.c_cp2, Y.Z.c_and, Y.Z.c_or, Y.Z.c_not, Y.Z.co_non, Y.Z.co_som, Y.Z.i_seq, Y.Z.i_rng1, Y.Z.i_rng2, Y.Z.i_enm, Y.Z.i_zip, Y.Z.g_nm, Y.Z.g_tup, Y.Z.g_ct, Y.Z.g_ix, Y.Z.gs_nil, Y.Z.gs_cons, Y.Z.b_add, Y.Z.b_sub, Y.Z.b_mul, Y.Z.b_div, Y.Z.b_mod, Y.Z.b_pow, Y.Z.b_tup, Y.Z.b_lst, Y.Z.b_mulL, Y.Z.c_lt, Y.Z.c_le, Y.Z.c_gt, Y.Z.c_ge, Y.Z.c_eq, Y.Z.c_ne, Y.Z.c_isN, Y.Z.c_notN, Y.Z.c_isB, Y.Z.c_notB, Y.isNon, Y.Z.newL_f, Y.Z.newL_t, Y.Z.t_len, Y.Z.t_sum, Y.Z.t_any, Y.Z.t_all, Y.Z.t_abs, Y.Z.t_min, Y.Z.t_max, Y.Z.t_tuple, Y.Z.t_list, Y.Z.t_int, Y.Z.t_repr, Y.Z.t_str, Y.Z.st_str, Y.Z.st_int, Y.Z.st_tup, Y.Z.len_tup, Y.Z.len_lst, Y.Z.len_rd, Y.Z.len_ct, Y.Z.tup_lst, Y.Z.tup_tup, Y.Z.tup_ct, Y.Z.lst_lst, Y.Z.lst_tup, Y.Z.sum_ints, Y.Z.sum_ints', Y.Z.w_tup, Y.Z.w_lst, Y.Z.w_rd, Y.Z.w_ct, Y.Z.we_tup, Y.Z.we_lst, Y.Z.we_ct, Y.Z.wz_tl, Y.Z.wz_ll, Y.Z.wz_tt, Y.Z.r_tup, Y.Z.r_lst, Y.Z.r_rd, Y.Z.r_ct, Y.Z.cut_tup, Y.Z.cut_lst, Y.Z.cut_rd, Y.Z.rev_tup, Y.Z.tr_bl, Y.Z.tr_int, Y.Z.tr_tup, Y.Z.tr_lst, Y.Z.refL_lst, Y.Z.getO_lst, Y.Z.r_ref, Y.Z.lstOf_ref, Y.Z.len_ref, Y.Z.tup_ref, Y.Z.lst_ref, Y.Z.w_ref, Y.Z.we_ref, Y.Z.cut_ref, Y.Z.tr_ref, Y.Z.s_ref, Y.Z.so_lst, Y.Z.a_ref, Y.Z.po_ref, Y.Z.ixN_lit, Y.Z.atI_lit, Y.isD, Y.tyD, Y.subTy, Y.Z.fin_rtc, Y.Z.fin_rta, Y.Z.fin_nx, Y.D.lt, Y.ltL, Y.Z.ltL_ints, Y.Z.still_nil2, Y.Z.still_tup, Y.Z.still_ct, Y.Z.still_rd, Y.Z.still_lst, Y.wipe, Y.Z.blO_some, Y.Z.y_par, Y.Z.y_par3, Y.Z.kPar31_e, Y.Z.kPar32_e, Y.Z.kPar33_e, Y.Z.y_expr, Y.Z.y_ret, Y.Z.y_for, Y.Z.x_while, Y.Z.kAsg_e, Y.Z.kAug3_e, Y.Z.kAug2_e, Y.Z.kAug1_e, Y.Z.kIte_e, Y.Z.kPar2_e, Y.Z.kPar1_e, Y.Z.kExpr_e, Y.Z.kFor_e, Y.Z.kBin1_e, Y.Z.kNeg_e, Y.Z.kCmp2_e, Y.Z.kCmp1_e, Y.Z.kC23_e, Y.Z.kC22_e, Y.Z.kC21_e, Y.Z.kAnd_e, Y.Z.kOr_e, Y.Z.kNot_e, Y.Z.kIfe_e, Y.Z.kTup_e, Y.Z.kLst_e, Y.Z.kDic_e, Y.Z.kIx1_e, Y.Z.kSl2_e, Y.Z.kSl1_e, Y.Z.kCall_e, Y.Z.kCK3_e, Y.Z.kCK2_e, Y.Z.kCK1_e, Y.Z.kApp1_e, Y.Z.kG2_e, Y.Z.kG1_e, Y.Z.lcF3_e, Y.Z.lcF2_e, Y.Z.lcF1_e, Y.Z.kLc_e, Y.Z.lcG1_e, Y.Z.lcH2_e, Y.Z.lcH1_e, Y.Z.kLc2_e, Y.Z.kL2_e, Y.Z.kL1_e, Y.Z.kInt_e, Y.Z.kTru_e, Y.Z.kCp2_e, Y.Z.kCp1_e, Y.Z.kCq3_e, Y.Z.kCq2_e, Y.Z.kCq1_e, Y.Z.kCand_e, Y.Z.kCor_e, Y.Z.kCnot_e, Y.Z.kR2_e, Y.Z.kZ_e, Y.Z.kGx3_e, Y.Z.kGx2_e, Y.Z.kGx1_e, Y.Z.kWh_e, Y.Z.k_len_e, Y.Z.k_tup_e, Y.Z.k_lst_e, Y.Z.k_w_e, Y.Z.k_we_e, Y.Z.k_cut_e, Y.Z.k_tr_e, Y.Z.sK2_e, Y.Z.sK1_e, Y.Z.soK_e, Y.Z.k_ap_e, Y.Z.k_po2_e, Y.Z.k_po_e, g_count, g_left, g_at, g_cells, g_sum, p_count, p_at, p_left, h1, h2, e, dv, hm, fin]
  · refine ⟨l % m, stD c a (l / m) (n + 1) s :: r, fun b => ?_, ⟨c, a, _, _, s, by omega, rfl⟩, hi _⟩
    rw [en__law_draw]
    simp (implicitDefEqProofs := false) [Y.Z.x_nil, Y.Z.x_cons, Y.Z.bind_ok, Y.Z.bind_ex, Y.Z.lift_ok, Y.Z.lift_ex, Y.Z.noEx_ok, Y.Z.seq_nx, Y.Z.seq_rt, Y.Z.seq_bk, Y.Z.seq_ct, Y.Z.seq_ex, Y.Z.kRaise_e, Y.Z.y_raise, Y.Z.y_tryv, Y.Z.tv_nx, Y.Z.tv_rt, Y.Z.tv_ex, Y.hkD, Y.Z.e_fld, Y.Z.fld_e, Y.Z.loop_nx, Y.Z.loop_rt, Y.Z.loop_bk, Y.Z.loop_ct, Y.Z.asT_ok, Y.Z.opt_some, Y.Z.var_some, Y.Z.y_asg, Y.Z.y_aug, Y.Z.y_ite, Y.Z.x_retN, Y.Z.x_brk, Y.Z.x_cnt, Y.Z.x_pass, Y.Z.e_var, Y.Z.e_cst, Y.Z.e_glo, Y.Z.e_bin, Y.Z.e_neg, Y.Z.e_cmp, Y.Z.e_cmp2, Y.Z.e_and, Y.Z.e_or, Y.Z.e_not, Y.Z.e_ife, Y.Z.e_tup, Y.Z.e_lst, Y.Z.e_dic, Y.Z.e_dic0, Y.Z.e_ix, Y.Z.e_sl, Y.Z.e_rev, Y.Z.e_call, Y.Z.e_callK, Y.Z.e_blt, Y.Z.e_isi, Y.Z.e_isq, Y.Z.e_app, Y.Z.e_pop, Y.Z.e_ext, Y.Z.kExt1_e, Y.Z.k_ex_e, Y.Z.k_ex2_e, Y.Z.ex_ref, Y.Z.t_max1, Y.Z.t_min1, Y.Z.e_get2, Y.Z.e_lc, Y.Z.e_lc2, Y.Z.l_nil, Y.Z.l_cons, Y.Z.o_non, Y.Z.o_som, Y.Z.c_val, Y.Z.c_cp, Y.Z.c_cp2, Y.Z.c_and, Y.Z.c_or, Y.Z.c_not, Y.Z.co_non, Y.Z.co_som, Y.Z.i_seq, Y.Z.i_rng1, Y.Z.i_rng2, Y.Z.i_enm, Y.Z.i_zip, Y.Z.g_nm, Y.Z.g_tup, Y.Z.g_ct, Y.Z.g_ix, Y.Z.gs_nil, Y.Z.gs_cons, Y.Z.b_add, Y.Z.b_sub, Y.Z.b_mul, Y.Z.b_div, Y.Z.b_mod, Y.Z.b_pow, Y.Z.b_tup, Y.Z.b_lst, Y.Z.b_mulL, Y.Z.c_lt, Y.Z.c_le, Y.Z.c_gt, Y.Z.c_ge, Y.Z.c_eq, Y.Z.c_ne, Y.Z.c_isN, Y.Z.c_notN, Y.Z.c_isB, Y.Z.c_notB, Y.isNon, Y.Z.newL_f, Y.Z.newL_t, Y.Z.t_len, Y.Z.t_sum, Y.Z.t_any, Y.Z.t_all, Y.Z.t_abs, Y.Z.t_min, Y.Z.t_max, Y.Z.t_tuple, Y.Z.t_list, Y.Z.t_int, Y.Z.t_repr, Y.Z.t_str, Y.Z.st_str, Y.Z.st_int, Y.Z.st_tup, Y.Z.len_tup, Y.Z.len_lst, Y.Z.len_rd, Y.Z.len_ct, Y.Z.tup_lst, Y.Z.tup_tup, Y.Z.tup_ct, Y.Z.lst_lst, Y.Z.lst_tup, Y.Z.sum_ints, Y.Z.sum_ints', Y.Z.w_tup, Y.Z.w_lst, Y.Z.w_rd, Y.Z.w_ct, Y.Z.we_tup, Y.Z.we_lst, Y.Z.we_ct, Y.Z.wz_tl, Y.Z.wz_ll, Y.Z.wz_tt, Y.Z.r_tup, Y.Z.r_lst, Y.Z.r_rd, Y.Z.r_ct, Y.Z.cut_tup, Y.Z.cut_lst, Y.Z.cut_rd, Y.Z.rev_tup, Y.Z.tr_bl, Y.Z.tr_int, Y.Z.tr_tup, Y.Z.tr_lst, Y.Z.refL_lst, Y.Z.getO_lst, Y.Z.r_ref, Y.Z.lstOf_ref, Y.Z.len_ref, Y.Z.tup_ref, Y.Z.lst_ref, Y.Z.w_ref, Y.Z.we_ref, Y.Z.cut_ref, Y.Z.tr_ref, Y.Z.s_ref, Y.Z.so_lst, Y.Z.a_ref, Y.Z.po_ref, Y.Z.ixN_lit, Y.Z.atI_lit, Y.isD, Y.tyD, Y.subTy, Y.Z.fin_rtc, Y.Z.fin_rta, Y.Z.fin_nx, Y.D.lt, Y.ltL, Y.Z.ltL_ints, Y.Z.still_nil2, Y.Z.still_tup, Y.Z.still_ct, Y.Z.still_rd, Y.Z.still_lst, Y.wipe, Y.Z.blO_some, Y.Z.y_par, Y.Z.y_par3, Y.Z.kPar31_e, Y.Z.kPar32_e, Y.Z.kPar33_e, Y.Z.y_expr, Y.Z.y_ret, Y.Z.y_for, Y.Z.x_while, Y.Z.kAsg_e, Y.Z.kAug3_e, Y.Z.kAug2_e, Y.Z.kAug1_e, Y.Z.kIte_e, Y.Z.kPar2_e, Y.Z.kPar1_e, Y.Z.kExpr_e, Y.Z.kFor_e, Y.Z.kBin1_e, Y.Z.kNeg_e, Y.Z.kCmp2_e, Y.Z.kCmp1_e, Y.Z.kC23_e, Y.Z.kC22_e, Y.Z.kC21_e, Y.Z.kAnd_e, Y.Z.kOr_e, Y.Z.kNot_e, Y.Z.kIfe_e, Y.Z.kTup_e, Y.Z.kLst_e, Y.Z.kDic_e, Y.Z.kIx1_e, Y.Z.kSl2_e, Y.Z.kSl1_e, Y.Z.kCall_e, Y.Z.kCK3_e, Y.Z.kCK2_e, Y.Z.kCK1_e, Y.Z.kApp1_e, Y.Z.kG2_e, Y.Z.kG1_e, Y.Z.lcF3_e, Y.Z.lcF2_e, Y.Z.lcF1_e, Y.Z.kLc_e, Y.Z.lcG1_e, Y.Z.lcH2_e, Y.Z.lcH1_e, Y.Z.kLc2_e, Y.Z.kL2_e, Y.Z.kL1_e, Y.Z.kInt_e, Y.Z.kTru_e, Y.Z.kCp2_e, Y.Z.kCp1_e, Y.Z.kCq3_e, Y.Z.kCq2_e, Y.Z.kCq1_e, Y.Z.kCand_e, Y.Z.kCor_e, Y.Z.kCnot_e, Y.Z.kR2_e, Y.Z.kZ_e, Y.Z.kGx3_e, Y.Z.kGx2_e, Y.Z.kGx1_e, Y.Z.kWh_e, Y.Z.k_len_e, Y.Z.k_tup_e, Y.Z.k_lst_e, Y.Z.k_w_e, Y.Z.k_we_e, Y.Z.k_cut_e, Y.Z.k_tr_e, Y.Z.sK2_e, Y.Z.sK1_e, Y.Z.soK_e, Y.Z.k_ap_e, Y.Z.k_po2_e, Y.Z.k_po_e, ir__law_draw, g_count, g_left, g_at, g_cells, g_sum, p_count, p_at, p_left, h1, dv, hm, fin]
/-- a cell of the script as the law takes it -/
theorem sp_begin (k : Nat) (ns : List Int) (hl : ns.length ≤ 63) (b : Nat) : ∃ st', callF tbl glo 100000 (k+1) 22 [.rd (ns.map .int)] b [] = .ok (.ref 0) st' ∧ StO [] st' := by
  have k2 : ∀ i, mulOk i 2 = true := fun i => mulr _ _ (by decide)
  have hc : cut (ns.map D.int) none (some 63) = ns.map .int := by
    have hl' : ns.length ≤ 63 := hl
    unfold cut
    rw [HT.sIx_none, show (some (63 : Int)) = some ((63 : Nat) : Int) from rfl, HT.sIx_nat, List.drop_zero]
    apply List.take_of_length_le
    simp
    omega
  refine ⟨[stD (ns.map fun c => if c ≥ 0 then c * 2 else -c * 2 - 1) 0 0 0 ((ns.map fun c => if c ≥ 0 then c * 2 else -c * 2 - 1).sum % 1000003)], ?_, ⟨_, _, _, _, _, by decide, rfl⟩⟩
  rw [en__law_begin]
  simp (implicitDefEqProofs := false) [Y.Z.x_nil, Y.Z.x_cons, Y.Z.bind_ok, Y.Z.bind_ex, Y.Z.lift_ok, Y.Z.lift_ex, Y.Z.noEx_ok, Y.Z.seq_nx, Y.Z.seq_rt, Y.Z.seq_bk, Y.Z.seq_ct, Y.Z.seq_ex, Y.Z.kRaise_e, Y.Z.y_raise, Y.Z.y_tryv, Y.Z.tv_nx, Y.Z.tv_rt, Y.Z.tv_ex, Y.hkD, Y.Z.e_fld, Y.Z.fld_e, Y.Z.loop_nx, Y.Z.loop_rt, Y.Z.loop_bk, Y.Z.loop_ct, Y.Z.asT_ok, Y.Z.opt_some, Y.Z.var_some, Y.Z.y_asg, Y.Z.y_aug, Y.Z.y_ite, Y.Z.x_retN, Y.Z.x_brk, Y.Z.x_cnt, Y.Z.x_pass, Y.Z.e_var, Y.Z.e_cst, Y.Z.e_glo, Y.Z.e_bin, Y.Z.e_neg, Y.Z.e_cmp, Y.Z.e_cmp2, Y.Z.e_and, Y.Z.e_or, Y.Z.e_not, Y.Z.e_ife, Y.Z.e_tup, Y.Z.e_lst, Y.Z.e_dic, Y.Z.e_dic0, Y.Z.e_ix, Y.Z.e_sl, Y.Z.e_rev, Y.Z.e_call, Y.Z.e_callK, Y.Z.e_blt, Y.Z.e_isi, Y.Z.e_isq, Y.Z.e_app, Y.Z.e_pop, Y.Z.e_ext, Y.Z.kExt1_e, Y.Z.k_ex_e, Y.Z.k_ex2_e, Y.Z.ex_ref, Y.Z.t_max1, Y.Z.t_min1, Y.Z.e_get2, Y.Z.e_lc, Y.Z.e_lc2, Y.Z.l_nil, Y.Z.l_cons, Y.Z.o_non, Y.Z.o_som, Y.Z.c_val, Y.Z.c_cp, Y.Z.c_cp2, Y.Z.c_and, Y.Z.c_or, Y.Z.c_not, Y.Z.co_non, Y.Z.co_som, Y.Z.i_seq, Y.Z.i_rng1, Y.Z.i_rng2, Y.Z.i_enm, Y.Z.i_zip, Y.Z.g_nm, Y.Z.g_tup, Y.Z.g_ct, Y.Z.g_ix, Y.Z.gs_nil, Y.Z.gs_cons, Y.Z.b_add, Y.Z.b_sub, Y.Z.b_mul, Y.Z.b_div, Y.Z.b_mod, Y.Z.b_pow, Y.Z.b_tup, Y.Z.b_lst, Y.Z.b_mulL, Y.Z.c_lt, Y.Z.c_le, Y.Z.c_gt, Y.Z.c_ge, Y.Z.c_eq, Y.Z.c_ne, Y.Z.c_isN, Y.Z.c_notN, Y.Z.c_isB, Y.Z.c_notB, Y.isNon, Y.Z.newL_f, Y.Z.newL_t, Y.Z.t_len, Y.Z.t_sum, Y.Z.t_any, Y.Z.t_all, Y.Z.t_abs, Y.Z.t_min, Y.Z.t_max, Y.Z.t_tuple, Y.Z.t_list, Y.Z.t_int, Y.Z.t_repr, Y.Z.t_str, Y.Z.st_str, Y.Z.st_int, Y.Z.st_tup, Y.Z.len_tup, Y.Z.len_lst, Y.Z.len_rd, Y.Z.len_ct, Y.Z.tup_lst, Y.Z.tup_tup, Y.Z.tup_ct, Y.Z.lst_lst, Y.Z.lst_tup, Y.Z.sum_ints, Y.Z.sum_ints', Y.Z.w_tup, Y.Z.w_lst, Y.Z.w_rd, Y.Z.w_ct, Y.Z.we_tup, Y.Z.we_lst, Y.Z.we_ct, Y.Z.wz_tl, Y.Z.wz_ll, Y.Z.wz_tt, Y.Z.r_tup, Y.Z.r_lst, Y.Z.r_rd, Y.Z.r_ct, Y.Z.cut_tup, Y.Z.cut_lst, Y.Z.cut_rd, Y.Z.rev_tup, Y.Z.tr_bl, Y.Z.tr_int, Y.Z.tr_tup, Y.Z.tr_lst, Y.Z.refL_lst, Y.Z.getO_lst, Y.Z.r_ref, Y.Z.lstOf_ref, Y.Z.len_ref, Y.Z.tup_ref, Y.Z.lst_ref, Y.Z.w_ref, Y.Z.we_ref, Y.Z.cut_ref, Y.Z.tr_ref, Y.Z.s_ref, Y.Z.so_lst, Y.Z.a_ref, Y.Z.po_ref, Y.Z.ixN_lit, Y.Z.atI_lit, Y.isD, Y.tyD, Y.subTy, Y.Z.fin_rtc, Y.Z.fin_rta, Y.Z.fin_nx, Y.D.lt, Y.ltL, Y.Z.ltL_ints, Y.Z.still_nil2, Y.Z.still_tup, Y.Z.still_ct, Y.Z.still_rd, Y.Z.still_lst, Y.wipe, Y.Z.blO_some, Y.Z.y_par, Y.Z.y_par3, Y.Z.kPar31_e, Y.Z.kPar32_e, Y.Z.kPar33_e, Y.Z.y_expr, Y.Z.y_ret, Y.Z.y_for, Y.Z.x_while, Y.Z.kAsg_e, Y.Z.kAug3_e, Y.Z.kAug2_e, Y.Z.kAug1_e, Y.Z.kIte_e, Y.Z.kPar2_e, Y.Z.kPar1_e, Y.Z.kExpr_e, Y.Z.kFor_e, Y.Z.kBin1_e, Y.Z.kNeg_e, Y.Z.kCmp2_e, Y.Z.kCmp1_e, Y.Z.kC23_e, Y.Z.kC22_e, Y.Z.kC21_e, Y.Z.kAnd_e, Y.Z.kOr_e, Y.Z.kNot_e, Y.Z.kIfe_e, Y.Z.kTup_e, Y.Z.kLst_e, Y.Z.kDic_e, Y.Z.kIx1_e, Y.Z.kSl2_e, Y.Z.kSl1_e, Y.Z.kCall_e, Y.Z.kCK3_e, Y.Z.kCK2_e, Y.Z.kCK1_e, Y.Z.kApp1_e, Y.Z.kG2_e, Y.Z.kG1_e, Y.Z.lcF3_e, Y.Z.lcF2_e, Y.Z.lcF1_e, Y.Z.kLc_e, Y.Z.lcG1_e, Y.Z.lcH2_e, Y.Z.lcH1_e, Y.Z.kLc2_e, Y.Z.kL2_e, Y.Z.kL1_e, Y.Z.kInt_e, Y.Z.kTru_e, Y.Z.kCp2_e, Y.Z.kCp1_e, Y.Z.kCq3_e, Y.Z.kCq2_e, Y.Z.kCq1_e, Y.Z.kCand_e, Y.Z.kCor_e, Y.Z.kCnot_e, Y.Z.kR2_e, Y.Z.kZ_e, Y.Z.kGx3_e, Y.Z.kGx2_e, Y.Z.kGx1_e, Y.Z.kWh_e, Y.Z.k_len_e, Y.Z.k_tup_e, Y.Z.k_lst_e, Y.Z.k_w_e, Y.Z.k_we_e, Y.Z.k_cut_e, Y.Z.k_tr_e, Y.Z.sK2_e, Y.Z.sK1_e, Y.Z.soK_e, Y.Z.k_ap_e, Y.Z.k_po2_e, Y.Z.k_po_e, ir__law_begin, hc]
  rw [lcA_gs D.int (fun c => .int (if c ≥ 0 then c * 2 else -c * 2 - 1)) (by simp [still_lst, still_nil]) ns (by
    intro x hx acc ha
    by_cases h0 : 0 ≤ x
    · simp (implicitDefEqProofs := false) [Y.Z.x_nil, Y.Z.x_cons, Y.Z.bind_ok, Y.Z.bind_ex, Y.Z.lift_ok, Y.Z.lift_ex, Y.Z.noEx_ok, Y.Z.seq_nx, Y.Z.seq_rt, Y.Z.seq_bk, Y.Z.seq_ct, Y.Z.seq_ex, Y.Z.kRaise_e, Y.Z.y_raise, Y.Z.y_tryv, Y.Z.tv_nx, Y.Z.tv_rt, Y.Z.tv_ex, Y.hkD, Y.Z.e_fld, Y.Z.fld_e, Y.Z.loop_nx, Y.Z.loop_rt, Y.Z.loop_bk, Y.Z.loop_ct, Y.Z.asT_ok, Y.Z.opt_some, Y.Z.var_some, Y.Z.y_asg, Y.Z.y_aug, Y.Z.y_ite, Y.Z.x_retN, Y.Z.x_brk, Y.Z.x_cnt, Y.Z.x_pass, Y.Z.e_var, Y.Z.e_cst, Y.Z.e_glo, Y.Z.e_bin, Y.Z.e_neg, Y.Z.e_cmp, Y.Z.e_cmp2, Y.Z.e_and, Y.Z.e_or, Y.Z.e_not, Y.Z.e_ife, Y.Z.e_tup, Y.Z.e_lst, Y.Z.e_dic, Y.Z.e_dic0, Y.Z.e_ix, Y.Z.e_sl, Y.Z.e_rev, Y.Z.e_call, Y.Z.e_callK, Y.Z.e_blt, Y.Z.e_isi, Y.Z.e_isq, Y.Z.e_app, Y.Z.e_pop, Y.Z.e_ext, Y.Z.kExt1_e, Y.Z.k_ex_e, Y.Z.k_ex2_e, Y.Z.ex_ref, Y.Z.t_max1, Y.Z.t_min1, Y.Z.e_get2, Y.Z.e_lc, Y.Z.e_lc2, Y.Z.l_nil, Y.Z.l_cons, Y.Z.o_non, Y.Z.o_som, Y.Z.c_val, Y.Z.c_cp, Y.Z.c_cp2, Y.Z.c_and, Y.Z.c_or, Y.Z.c_not, Y.Z.co_non, Y.Z.co_som, Y.Z.i_seq, Y.Z.i_rng1, Y.Z.i_rng2, Y.Z.i_enm, Y.Z.i_zip, Y.Z.g_nm, Y.Z.g_tup, Y.Z.g_ct, Y.Z.g_ix, Y.Z.gs_nil, Y.Z.gs_cons, Y.Z.b_add, Y.Z.b_sub, Y.Z.b_mul, Y.Z.b_div, Y.Z.b_mod, Y.Z.b_pow, Y.Z.b_tup, Y.Z.b_lst, Y.Z.b_mulL, Y.Z.c_lt, Y.Z.c_le, Y.Z.c_gt, Y.Z.c_ge, Y.Z.c_eq, Y.Z.c_ne, Y.Z.c_isN, Y.Z.c_notN, Y.Z.c_isB, Y.Z.c_notB, Y.isNon, Y.Z.newL_f, Y.Z.newL_t, Y.Z.t_len, Y.Z.t_sum, Y.Z.t_any, Y.Z.t_all, Y.Z.t_abs, Y.Z.t_min, Y.Z.t_max, Y.Z.t_tuple, Y.Z.t_list, Y.Z.t_int, Y.Z.t_repr, Y.Z.t_str, Y.Z.st_str, Y.Z.st_int, Y.Z.st_tup, Y.Z.len_tup, Y.Z.len_lst, Y.Z.len_rd, Y.Z.len_ct, Y.Z.tup_lst, Y.Z.tup_tup, Y.Z.tup_ct, Y.Z.lst_lst, Y.Z.lst_tup, Y.Z.sum_ints, Y.Z.sum_ints', Y.Z.w_tup, Y.Z.w_lst, Y.Z.w_rd, Y.Z.w_ct, Y.Z.we_tup, Y.Z.we_lst, Y.Z.we_ct, Y.Z.wz_tl, Y.Z.wz_ll, Y.Z.wz_tt, Y.Z.r_tup, Y.Z.r_lst, Y.Z.r_rd, Y.Z.r_ct, Y.Z.cut_tup, Y.Z.cut_lst, Y.Z.cut_rd, Y.Z.rev_tup, Y.Z.tr_bl, Y.Z.tr_int, Y.Z.tr_tup, Y.Z.tr_lst, Y.Z.refL_lst, Y.Z.getO_lst, Y.Z.r_ref, Y.Z.lstOf_ref, Y.Z.len_ref, Y.Z.tup_ref, Y.Z.lst_ref, Y.Z.w_ref, Y.Z.we_ref, Y.Z.cut_ref, Y.Z.tr_ref, Y.Z.s_ref, Y.Z.so_lst, Y.Z.a_ref, Y.Z.po_ref, Y.Z.ixN_lit, Y.Z.atI_lit, Y.isD, Y.tyD, Y.subTy, Y.Z.fin_rtc, Y.Z.fin_rta, Y.Z.fin_nx, Y.D.lt, Y.ltL, Y.Z.ltL_ints, Y.Z.still_nil2, Y.Z.still_tup, Y.Z.still_ct, Y.Z.still_rd, Y.Z.still_lst, Y.wipe, Y.Z.blO_some, Y.Z.y_par, Y.Z.y_par3, Y.Z.kPar31_e, Y.Z.kPar32_e, Y.Z.kPar33_e, Y.Z.y_expr, Y.Z.y_ret, Y.Z.y_for, Y.Z.x_while, Y.Z.kAsg_e, Y.Z.kAug3_e, Y.Z.kAug2_e, Y.Z.kAug1_e, Y.Z.kIte_e, Y.Z.kPar2_e, Y.Z.kPar1_e, Y.Z.kExpr_e, Y.Z.kFor_e, Y.Z.kBin1_e, Y.Z.kNeg_e, Y.Z.kCmp2_e, Y.Z.kCmp1_e, Y.Z.kC23_e, Y.Z.kC22_e, Y.Z.kC21_e, Y.Z.kAnd_e, Y.Z.kOr_e, Y.Z.kNot_e, Y.Z.kIfe_e, Y.Z.kTup_e, Y.Z.kLst_e, Y.Z.kDic_e, Y.Z.kIx1_e, Y.Z.kSl2_e, Y.Z.kSl1_e, Y.Z.kCall_e, Y.Z.kCK3_e, Y.Z.kCK2_e, Y.Z.kCK1_e, Y.Z.kApp1_e, Y.Z.kG2_e, Y.Z.kG1_e, Y.Z.lcF3_e, Y.Z.lcF2_e, Y.Z.lcF1_e, Y.Z.kLc_e, Y.Z.lcG1_e, Y.Z.lcH2_e, Y.Z.lcH1_e, Y.Z.kLc2_e, Y.Z.kL2_e, Y.Z.kL1_e, Y.Z.kInt_e, Y.Z.kTru_e, Y.Z.kCp2_e, Y.Z.kCp1_e, Y.Z.kCq3_e, Y.Z.kCq2_e, Y.Z.kCq1_e, Y.Z.kCand_e, Y.Z.kCor_e, Y.Z.kCnot_e, Y.Z.kR2_e, Y.Z.kZ_e, Y.Z.kGx3_e, Y.Z.kGx2_e, Y.Z.kGx1_e, Y.Z.kWh_e, Y.Z.k_len_e, Y.Z.k_tup_e, Y.Z.k_lst_e, Y.Z.k_w_e, Y.Z.k_we_e, Y.Z.k_cut_e, Y.Z.k_tr_e, Y.Z.sK2_e, Y.Z.sK1_e, Y.Z.soK_e, Y.Z.k_ap_e, Y.Z.k_po2_e, Y.Z.k_po_e, lcF, push, k2, h0, ha]
    · simp (implicitDefEqProofs := false) [Y.Z.x_nil, Y.Z.x_cons, Y.Z.bind_ok, Y.Z.bind_ex, Y.Z.lift_ok, Y.Z.lift_ex, Y.Z.noEx_ok, Y.Z.seq_nx, Y.Z.seq_rt, Y.Z.seq_bk, Y.Z.seq_ct, Y.Z.seq_ex, Y.Z.kRaise_e, Y.Z.y_raise, Y.Z.y_tryv, Y.Z.tv_nx, Y.Z.tv_rt, Y.Z.tv_ex, Y.hkD, Y.Z.e_fld, Y.Z.fld_e, Y.Z.loop_nx, Y.Z.loop_rt, Y.Z.loop_bk, Y.Z.loop_ct, Y.Z.asT_ok, Y.Z.opt_some, Y.Z.var_some, Y.Z.y_asg, Y.Z.y_aug, Y.Z.y_ite, Y.Z.x_retN, Y.Z.x_brk, Y.Z.x_cnt, Y.Z.x_pass, Y.Z.e_var, Y.Z.e_cst, Y.Z.e_glo, Y.Z.e_bin, Y.Z.e_neg, Y.Z.e_cmp, Y.Z.e_cmp2, Y.Z.e_and, Y.Z.e_or, Y.Z.e_not, Y.Z.e_ife, Y.Z.e_tup, Y.Z.e_lst, Y.Z.e_dic, Y.Z.e_dic0, Y.Z.e_ix, Y.Z.e_sl, Y.Z.e_rev, Y.Z.e_call, Y.Z.e_callK, Y.Z.e_blt, Y.Z.e_isi, Y.Z.e_isq, Y.Z.e_app, Y.Z.e_pop, Y.Z.e_ext, Y.Z.kExt1_e, Y.Z.k_ex_e, Y.Z.k_ex2_e, Y.Z.ex_ref, Y.Z.t_max1, Y.Z.t_min1, Y.Z.e_get2, Y.Z.e_lc, Y.Z.e_lc2, Y.Z.l_nil, Y.Z.l_cons, Y.Z.o_non, Y.Z.o_som, Y.Z.c_val, Y.Z.c_cp, Y.Z.c_cp2, Y.Z.c_and, Y.Z.c_or, Y.Z.c_not, Y.Z.co_non, Y.Z.co_som, Y.Z.i_seq, Y.Z.i_rng1, Y.Z.i_rng2, Y.Z.i_enm, Y.Z.i_zip, Y.Z.g_nm, Y.Z.g_tup, Y.Z.g_ct, Y.Z.g_ix, Y.Z.gs_nil, Y.Z.gs_cons, Y.Z.b_add, Y.Z.b_sub, Y.Z.b_mul, Y.Z.b_div, Y.Z.b_mod, Y.Z.b_pow, Y.Z.b_tup, Y.Z.b_lst, Y.Z.b_mulL, Y.Z.c_lt, Y.Z.c_le, Y.Z.c_gt, Y.Z.c_ge, Y.Z.c_eq, Y.Z.c_ne, Y.Z.c_isN, Y.Z.c_notN, Y.Z.c_isB, Y.Z.c_notB, Y.isNon, Y.Z.newL_f, Y.Z.newL_t, Y.Z.t_len, Y.Z.t_sum, Y.Z.t_any, Y.Z.t_all, Y.Z.t_abs, Y.Z.t_min, Y.Z.t_max, Y.Z.t_tuple, Y.Z.t_list, Y.Z.t_int, Y.Z.t_repr, Y.Z.t_str, Y.Z.st_str, Y.Z.st_int, Y.Z.st_tup, Y.Z.len_tup, Y.Z.len_lst, Y.Z.len_rd, Y.Z.len_ct, Y.Z.tup_lst, Y.Z.tup_tup, Y.Z.tup_ct, Y.Z.lst_lst, Y.Z.lst_tup, Y.Z.sum_ints, Y.Z.sum_ints', Y.Z.w_tup, Y.Z.w_lst, Y.Z.w_rd, Y.Z.w_ct, Y.Z.we_tup, Y.Z.we_lst, Y.Z.we_ct, Y.Z.wz_tl, Y.Z.wz_ll, Y.Z.wz_tt, Y.Z.r_tup, Y.Z.r_lst, Y.Z.r_rd, Y.Z.r_ct, Y.Z.cut_tup, Y.Z.cut_lst, Y.Z.cut_rd, Y.Z.rev_tup, Y.Z.tr_bl, Y.Z.tr_int, Y.Z.tr_tup, Y.Z.tr_lst, Y.Z.refL_lst, Y.Z.getO_lst, Y.Z.r_ref, Y.Z.lstOf_ref, Y.Z.len_ref, Y.Z.tup_ref, Y.Z.lst_ref, Y.Z.w_ref, Y.Z.we_ref, Y.Z.cut_ref, Y.Z.tr_ref, Y.Z.s_ref, Y.Z.so_lst, Y.Z.a_ref, Y.Z.po_ref, Y.Z.ixN_lit, Y.Z.atI_lit, Y.isD, Y.tyD, Y.subTy, Y.Z.fin_rtc, Y.Z.fin_rta, Y.Z.fin_nx, Y.D.lt, Y.ltL, Y.Z.ltL_ints, Y.Z.still_nil2, Y.Z.still_tup, Y.Z.still_ct, Y.Z.still_rd, Y.Z.still_lst, Y.wipe, Y.Z.blO_some, Y.Z.y_par, Y.Z.y_par3, Y.Z.kPar31_e, Y.Z.kPar32_e, Y.Z.kPar33_e, Y.Z.y_expr, Y.Z.y_ret, Y.Z.y_for, Y.Z.x_while, Y.Z.kAsg_e, Y.Z.kAug3_e, Y.Z.kAug2_e, Y.Z.kAug1_e, Y.Z.kIte_e, Y.Z.kPar2_e, Y.Z.kPar1_e, Y.Z.kExpr_e, Y.Z.kFor_e, Y.Z.kBin1_e, Y.Z.kNeg_e, Y.Z.kCmp2_e, Y.Z.kCmp1_e, Y.Z.kC23_e, Y.Z.kC22_e, Y.Z.kC21_e, Y.Z.kAnd_e, Y.Z.kOr_e, Y.Z.kNot_e, Y.Z.kIfe_e, Y.Z.kTup_e, Y.Z.kLst_e, Y.Z.kDic_e, Y.Z.kIx1_e, Y.Z.kSl2_e, Y.Z.kSl1_e, Y.Z.kCall_e, Y.Z.kCK3_e, Y.Z.kCK2_e, Y.Z.kCK1_e, Y.Z.kApp1_e, Y.Z.kG2_e, Y.Z.kG1_e, Y.Z.lcF3_e, Y.Z.lcF2_e, Y.Z.lcF1_e, Y.Z.kLc_e, Y.Z.lcG1_e, Y.Z.lcH2_e, Y.Z.lcH1_e, Y.Z.kLc2_e, Y.Z.kL2_e, Y.Z.kL1_e, Y.Z.kInt_e, Y.Z.kTru_e, Y.Z.kCp2_e, Y.Z.kCp1_e, Y.Z.kCq3_e, Y.Z.kCq2_e, Y.Z.kCq1_e, Y.Z.kCand_e, Y.Z.kCor_e, Y.Z.kCnot_e, Y.Z.kR2_e, Y.Z.kZ_e, Y.Z.kGx3_e, Y.Z.kGx2_e, Y.Z.kGx1_e, Y.Z.kWh_e, Y.Z.k_len_e, Y.Z.k_tup_e, Y.Z.k_lst_e, Y.Z.k_w_e, Y.Z.k_we_e, Y.Z.k_cut_e, Y.Z.k_tr_e, Y.Z.sK2_e, Y.Z.sK1_e, Y.Z.soK_e, Y.Z.k_ap_e, Y.Z.k_po2_e, Y.Z.k_po_e, lcF, push, k2, h0, ha]) (by simp [sz]; omega)]
  have hsum : sumD (.lst (ns.map fun c => .int (if c ≥ 0 then c * 2 else -c * 2 - 1))) [] = .ok (.int (ns.map fun c => if c ≥ 0 then c * 2 else -c * 2 - 1).sum) [] := sum_ints' _ _ _
  have hn : nodupB [Sum.inr (Str.ofString "cells"), Sum.inr (Str.ofString "at"), Sum.inr (Str.ofString "left"), Sum.inr (Str.ofString "count"), Sum.inr (Str.ofString "sum")] = true := by decide
  simp (implicitDefEqProofs := false) [Y.Z.x_nil, Y.Z.x_cons, Y.Z.bind_ok, Y.Z.bind_ex, Y.Z.lift_ok, Y.Z.lift_ex, Y.Z.noEx_ok, Y.Z.seq_nx, Y.Z.seq_rt, Y.Z.seq_bk, Y.Z.seq_ct, Y.Z.seq_ex, Y.Z.kRaise_e, Y.Z.y_raise, Y.Z.y_tryv, Y.Z.tv_nx, Y.Z.tv_rt, Y.Z.tv_ex, Y.hkD, Y.Z.e_fld, Y.Z.fld_e, Y.Z.loop_nx, Y.Z.loop_rt, Y.Z.loop_bk, Y.Z.loop_ct, Y.Z.asT_ok, Y.Z.opt_some, Y.Z.var_some, Y.Z.y_asg, Y.Z.y_aug, Y.Z.y_ite, Y.Z.x_retN, Y.Z.x_brk, Y.Z.x_cnt, Y.Z.x_pass, Y.Z.e_var, Y.Z.e_cst, Y.Z.e_glo, Y.Z.e_bin, Y.Z.e_neg, Y.Z.e_cmp, Y.Z.e_cmp2, Y.Z.e_and, Y.Z.e_or, Y.Z.e_not, Y.Z.e_ife, Y.Z.e_tup, Y.Z.e_lst, Y.Z.e_dic, Y.Z.e_dic0, Y.Z.e_ix, Y.Z.e_sl, Y.Z.e_rev, Y.Z.e_call, Y.Z.e_callK, Y.Z.e_blt, Y.Z.e_isi, Y.Z.e_isq, Y.Z.e_app, Y.Z.e_pop, Y.Z.e_ext, Y.Z.kExt1_e, Y.Z.k_ex_e, Y.Z.k_ex2_e, Y.Z.ex_ref, Y.Z.t_max1, Y.Z.t_min1, Y.Z.e_get2, Y.Z.e_lc, Y.Z.e_lc2, Y.Z.l_nil, Y.Z.l_cons, Y.Z.o_non, Y.Z.o_som, Y.Z.c_val, Y.Z.c_cp, Y.Z.c_cp2, Y.Z.c_and, Y.Z.c_or, Y.Z.c_not, Y.Z.co_non, Y.Z.co_som, Y.Z.i_seq, Y.Z.i_rng1, Y.Z.i_rng2, Y.Z.i_enm, Y.Z.i_zip, Y.Z.g_nm, Y.Z.g_tup, Y.Z.g_ct, Y.Z.g_ix, Y.Z.gs_nil, Y.Z.gs_cons, Y.Z.b_add, Y.Z.b_sub, Y.Z.b_mul, Y.Z.b_div, Y.Z.b_mod, Y.Z.b_pow, Y.Z.b_tup, Y.Z.b_lst, Y.Z.b_mulL, Y.Z.c_lt, Y.Z.c_le, Y.Z.c_gt, Y.Z.c_ge, Y.Z.c_eq, Y.Z.c_ne, Y.Z.c_isN, Y.Z.c_notN, Y.Z.c_isB, Y.Z.c_notB, Y.isNon, Y.Z.newL_f, Y.Z.newL_t, Y.Z.t_len, Y.Z.t_sum, Y.Z.t_any, Y.Z.t_all, Y.Z.t_abs, Y.Z.t_min, Y.Z.t_max, Y.Z.t_tuple, Y.Z.t_list, Y.Z.t_int, Y.Z.t_repr, Y.Z.t_str, Y.Z.st_str, Y.Z.st_int, Y.Z.st_tup, Y.Z.len_tup, Y.Z.len_lst, Y.Z.len_rd, Y.Z.len_ct, Y.Z.tup_lst, Y.Z.tup_tup, Y.Z.tup_ct, Y.Z.lst_lst, Y.Z.lst_tup, Y.Z.sum_ints, Y.Z.sum_ints', Y.Z.w_tup, Y.Z.w_lst, Y.Z.w_rd, Y.Z.w_ct, Y.Z.we_tup, Y.Z.we_lst, Y.Z.we_ct, Y.Z.wz_tl, Y.Z.wz_ll, Y.Z.wz_tt, Y.Z.r_tup, Y.Z.r_lst, Y.Z.r_rd, Y.Z.r_ct, Y.Z.cut_tup, Y.Z.cut_lst, Y.Z.cut_rd, Y.Z.rev_tup, Y.Z.tr_bl, Y.Z.tr_int, Y.Z.tr_tup, Y.Z.tr_lst, Y.Z.refL_lst, Y.Z.getO_lst, Y.Z.r_ref, Y.Z.lstOf_ref, Y.Z.len_ref, Y.Z.tup_ref, Y.Z.lst_ref, Y.Z.w_ref, Y.Z.we_ref, Y.Z.cut_ref, Y.Z.tr_ref, Y.Z.s_ref, Y.Z.so_lst, Y.Z.a_ref, Y.Z.po_ref, Y.Z.ixN_lit, Y.Z.atI_lit, Y.isD, Y.tyD, Y.subTy, Y.Z.fin_rtc, Y.Z.fin_rta, Y.Z.fin_nx, Y.D.lt, Y.ltL, Y.Z.ltL_ints, Y.Z.still_nil2, Y.Z.still_tup, Y.Z.still_ct, Y.Z.still_rd, Y.Z.still_lst, Y.wipe, Y.Z.blO_some, Y.Z.y_par, Y.Z.y_par3, Y.Z.kPar31_e, Y.Z.kPar32_e, Y.Z.kPar33_e, Y.Z.y_expr, Y.Z.y_ret, Y.Z.y_for, Y.Z.x_while, Y.Z.kAsg_e, Y.Z.kAug3_e, Y.Z.kAug2_e, Y.Z.kAug1_e, Y.Z.kIte_e, Y.Z.kPar2_e, Y.Z.kPar1_e, Y.Z.kExpr_e, Y.Z.kFor_e, Y.Z.kBin1_e, Y.Z.kNeg_e, Y.Z.kCmp2_e, Y.Z.kCmp1_e, Y.Z.kC23_e, Y.Z.kC22_e, Y.Z.kC21_e, Y.Z.kAnd_e, Y.Z.kOr_e, Y.Z.kNot_e, Y.Z.kIfe_e, Y.Z.kTup_e, Y.Z.kLst_e, Y.Z.kDic_e, Y.Z.kIx1_e, Y.Z.kSl2_e, Y.Z.kSl1_e, Y.Z.kCall_e, Y.Z.kCK3_e, Y.Z.kCK2_e, Y.Z.kCK1_e, Y.Z.kApp1_e, Y.Z.kG2_e, Y.Z.kG1_e, Y.Z.lcF3_e, Y.Z.lcF2_e, Y.Z.lcF1_e, Y.Z.kLc_e, Y.Z.lcG1_e, Y.Z.lcH2_e, Y.Z.lcH1_e, Y.Z.kLc2_e, Y.Z.kL2_e, Y.Z.kL1_e, Y.Z.kInt_e, Y.Z.kTru_e, Y.Z.kCp2_e, Y.Z.kCp1_e, Y.Z.kCq3_e, Y.Z.kCq2_e, Y.Z.kCq1_e, Y.Z.kCand_e, Y.Z.kCor_e, Y.Z.kCnot_e, Y.Z.kR2_e, Y.Z.kZ_e, Y.Z.kGx3_e, Y.Z.kGx2_e, Y.Z.kGx1_e, Y.Z.kWh_e, Y.Z.k_len_e, Y.Z.k_tup_e, Y.Z.k_lst_e, Y.Z.k_w_e, Y.Z.k_we_e, Y.Z.k_cut_e, Y.Z.k_tr_e, Y.Z.sK2_e, Y.Z.sK1_e, Y.Z.soK_e, Y.Z.k_ap_e, Y.Z.k_po2_e, Y.Z.k_po_e, hsum, hn, newK]
  have hf : mapWL (frzR [stD (ns.map fun c => if 0 ≤ c then c * 2 else -c * 2 - 1) 0 0 0 ((ns.map fun c => if 0 ≤ c then c * 2 else -c * 2 - 1).sum % 1000003)] 0 0 6) [D.lst (ns.map fun c => .int (if 0 ≤ c then c * 2 else -c * 2 - 1)), D.int 0, D.int 0, D.int 0, D.int ((ns.map fun c => if 0 ≤ c then c * 2 else -c * 2 - 1).sum % 1000003)] = some _ := mapL_lt0 _ _ (by
    have := ltL_map (f := fun c : Int => D.int (if 0 ≤ c then c * 2 else -c * 2 - 1)) (fun _ => rfl) ns
    simp [ltL, D.lt, this])
  simp only [stD, List.map_map, Function.comp_def] at hf
  simp [finO, finF, fin1, frzO, stD, hf, Function.comp_def]
end LW

/-! the law's own functions -/
namespace LW
open PySem Y Y.Z
theorem sp_lwidth (k : Nat) (ss : List Int) (hs : okS ss) (hl : ss.length ≤ 3) (b : Nat) (st : Stt) : callF tbl glo 100000 (k+1) 24 [.tup (ss.map .int)] b st = .ok (.int (wid ss)) st := by
  rw [en__law_width]
  have l2 : Nat.log2 2 < 9000 := by decide
  simp [Y.exSs, Y.Z.x_asg, Y.Z.x_par, Y.Z.x_expr, Y.Z.x_ret, Y.Z.x_retN, Y.Z.x_ite, Y.Z.x_for, Y.Z.x_while, Y.Z.x_brk, Y.Z.x_cnt, Y.Z.x_pass, Y.evE, Y.evL, Y.evC, Y.evCo, Y.evI, Y.evO, Y.asG, Y.asGs, Y.R.bind, Y.liftO, Y.isD, Y.tyD, Y.subTy, Y.bltD, Y.one, Y.two, Y.lenD, Y.seqOf, Y.lstOf, Y.lstF, Y.cmpR, Y.cmpT, Y.cmpD, Y.noEx, Y.walkSeq, Y.wsrc, Y.Z.still_nil, Y.Z.still_tup, Y.Z.still_ct, Y.Z.still_rd, Y.Z.still_lst, Y.wipe, Y.D.lt, Y.ltL, Y.Z.ltL_ints, Y.Z.fin_rtc, Y.Z.fin_rta, Y.tupD, Y.Z.fin_nx, Y.truth, Y.newL, Y.push, Y.allD, Y.anyD, Y.sumD, Y.Z.asI, Y.Z.asB, Y.Z.asB', Y.Z.asI', Y.absD, Y.Z.eqD_int, ir__law_width]
  rw [lcA_ints (fun s => .int (s * (s - 1) / 2)) (by simp [still_tup, still_nil]) ss (by
    intro x hx acc ha
    rcases hs x hx with e | e | e | e <;> subst e <;> simp [Y.exSs, Y.Z.x_asg, Y.Z.x_par, Y.Z.x_expr, Y.Z.x_ret, Y.Z.x_retN, Y.Z.x_ite, Y.Z.x_for, Y.Z.x_while, Y.Z.x_brk, Y.Z.x_cnt, Y.Z.x_pass, Y.evE, Y.evL, Y.evC, Y.evCo, Y.evI, Y.evO, Y.asG, Y.asGs, Y.R.bind, Y.liftO, Y.isD, Y.tyD, Y.subTy, Y.bltD, Y.one, Y.two, Y.lenD, Y.seqOf, Y.lstOf, Y.lstF, Y.cmpR, Y.cmpT, Y.cmpD, Y.noEx, Y.walkSeq, Y.wsrc, Y.Z.still_nil, Y.Z.still_tup, Y.Z.still_ct, Y.Z.still_rd, Y.Z.still_lst, Y.wipe, Y.D.lt, Y.ltL, Y.Z.ltL_ints, Y.Z.fin_rtc, Y.Z.fin_rta, Y.tupD, Y.Z.fin_nx, Y.truth, Y.newL, Y.push, Y.allD, Y.anyD, Y.sumD, Y.Z.asI, Y.Z.asB, Y.Z.asB', Y.Z.asI', Y.absD, Y.Z.eqD_int, binD, mulOk, divOk, l2, ha]) (by simp [sz]; omega)]
  simp [Y.exSs, Y.Z.x_asg, Y.Z.x_par, Y.Z.x_expr, Y.Z.x_ret, Y.Z.x_retN, Y.Z.x_ite, Y.Z.x_for, Y.Z.x_while, Y.Z.x_brk, Y.Z.x_cnt, Y.Z.x_pass, Y.evE, Y.evL, Y.evC, Y.evCo, Y.evI, Y.evO, Y.asG, Y.asGs, Y.R.bind, Y.liftO, Y.isD, Y.tyD, Y.subTy, Y.bltD, Y.one, Y.two, Y.lenD, Y.seqOf, Y.lstOf, Y.lstF, Y.cmpR, Y.cmpT, Y.cmpD, Y.noEx, Y.walkSeq, Y.wsrc, Y.Z.still_nil, Y.Z.still_tup, Y.Z.still_ct, Y.Z.still_rd, Y.Z.still_lst, Y.wipe, Y.D.lt, Y.ltL, Y.Z.ltL_ints, Y.Z.fin_rtc, Y.Z.fin_rta, Y.tupD, Y.Z.fin_nx, Y.truth, Y.newL, Y.push, Y.allD, Y.anyD, Y.sumD, Y.Z.asI, Y.Z.asB, Y.Z.asB', Y.Z.asI', Y.absD, Y.Z.eqD_int, wid_sum ss hs]
end LW

namespace LW
open PySem Y Y.Z
def mOk (xs ys : List Int) : Prop := ∀ u ∈ xs, ∀ v ∈ ys, mulOk u v = true
def ws (s : Int) : Nat := (s * (s - 1) / 2).toNat
theorem len1 {A : List Int} (h : A.length = 1) : ∃ a, A = [a] := by
  match A, h with
  | [a], _ => exact ⟨a, rfl⟩
theorem len3 {A : List Int} (h : A.length = 3) : ∃ a b c, A = [a, b, c] := by
  match A, h with
  | [a, b, c], _ => exact ⟨a, b, c, rfl⟩
theorem len6 {A : List Int} (h : A.length = 6) : ∃ a b c d e f, A = [a, b, c, d, e, f] := by
  match A, h with
  | [a, b, c, d, e, f], _ => exact ⟨a, b, c, d, e, f, rfl⟩
theorem len10 {A : List Int} (h : A.length = 10) : ∃ a b c d e f g h i j, A = [a, b, c, d, e, f, g, h, i, j] := by
  match A, h with
  | [a, b, c, d, e, f, g, h, i, j], _ => exact ⟨a, b, c, d, e, f, g, h, i, j, rfl⟩
theorem bd_product (k : Nat) (sp : D) (s : Int) (hs : s = 2 ∨ s = 3 ∨ s = 4 ∨ s = 5) (px py rx ry A B : List Int) (hp : px.length = py.length) (hA : A.length = ws s) (hB : B.length = ws s)
   (acc : List D) (ha : acc.length ≤ 100) (st : Stt) (a6 a7 a8 a9 a10 : Option D) (hm : mOk A B) :
   ∃ c6 c7 c8 c9 c10, exSs ⟨callF tbl glo 100000 k, glo, 100000⟩ st.length ir_product_in_3 [some sp, some (.tup ((px ++ A ++ rx).map .int)), some (.tup ((py ++ B ++ ry).map .int)), some (.ref st.length), some (.int px.length), some (.int s), a6, a7, a8, a9, a10] (st ++ [.lst acc])
    = .nx [some sp, some (.tup ((px ++ A ++ rx).map .int)), some (.tup ((py ++ B ++ ry).map .int)), some (.ref st.length), some (.int (px.length + A.length)), some (.int s), c6, c7, c8, c9, c10] (st ++ [.lst (acc ++ (prodB A B).map .int)]) := by
  have q : ∀ n : Nat, n < 1000 → acc.length + n < sz := by simp [sz]; omega
  have q1 : acc.length < sz := q 0 (by omega)
  have y0 := atI_px0 py
  have y1 := atI_px py
  rw [← hp] at y0 y1
  rcases hs with e | e | e | e <;> subst e
  · obtain ⟨a0, rfl⟩ := len1 (A := A) hA
    obtain ⟨b0, rfl⟩ := len1 (A := B) hB
    simp [Y.exSs, Y.Z.x_asg, Y.Z.x_par, Y.Z.x_expr, Y.Z.x_ret, Y.Z.x_retN, Y.Z.x_ite, Y.Z.x_for, Y.Z.x_while, Y.Z.x_brk, Y.Z.x_cnt, Y.Z.x_pass, Y.evE, Y.evL, Y.evC, Y.evCo, Y.evI, Y.evO, Y.asG, Y.asGs, Y.R.bind, Y.liftO, Y.isD, Y.tyD, Y.subTy, Y.bltD, Y.one, Y.two, Y.lenD, Y.seqOf, Y.lstOf, Y.lstF, Y.cmpR, Y.cmpT, Y.cmpD, Y.noEx, Y.walkSeq, Y.wsrc, Y.Z.still_nil, Y.Z.still_tup, Y.Z.still_ct, Y.Z.still_rd, Y.Z.still_lst, Y.wipe, Y.D.lt, Y.ltL, Y.Z.ltL_ints, Y.Z.fin_rtc, Y.Z.fin_rta, Y.tupD, Y.Z.fin_nx, Y.truth, Y.newL, Y.push, Y.allD, Y.anyD, Y.sumD, Y.Z.asI, Y.Z.asB, Y.Z.asB', Y.Z.asI', Y.absD, Y.Z.eqD_int, ir_product_in_3, glo, cv_SUMMANDS, getR, getD, lookV, walkEnm, enmL, f_cons, f_nil, ir_product_in_4, ir_product_in_6, binD, atI_px0, atI_px, y0, y1, appD, appOb, q1, q, prodB]
  · obtain ⟨a0, a1, a2, rfl⟩ := len3 (A := A) hA
    obtain ⟨b0, b1, b2, rfl⟩ := len3 (A := B) hB
    have m01 := hm a0 (by simp) b1 (by simp)
    simp [Y.exSs, Y.Z.x_asg, Y.Z.x_par, Y.Z.x_expr, Y.Z.x_ret, Y.Z.x_retN, Y.Z.x_ite, Y.Z.x_for, Y.Z.x_while, Y.Z.x_brk, Y.Z.x_cnt, Y.Z.x_pass, Y.evE, Y.evL, Y.evC, Y.evCo, Y.evI, Y.evO, Y.asG, Y.asGs, Y.R.bind, Y.liftO, Y.isD, Y.tyD, Y.subTy, Y.bltD, Y.one, Y.two, Y.lenD, Y.seqOf, Y.lstOf, Y.lstF, Y.cmpR, Y.cmpT, Y.cmpD, Y.noEx, Y.walkSeq, Y.wsrc, Y.Z.still_nil, Y.Z.still_tup, Y.Z.still_ct, Y.Z.still_rd, Y.Z.still_lst, Y.wipe, Y.D.lt, Y.ltL, Y.Z.ltL_ints, Y.Z.fin_rtc, Y.Z.fin_rta, Y.tupD, Y.Z.fin_nx, Y.truth, Y.newL, Y.push, Y.allD, Y.anyD, Y.sumD, Y.Z.asI, Y.Z.asB, Y.Z.asB', Y.Z.asI', Y.absD, Y.Z.eqD_int, ir_product_in_3, glo, cv_SUMMANDS, getR, getD, lookV, walkEnm, enmL, f_cons, f_nil, ir_product_in_4, ir_product_in_6, binD, atI_px0, atI_px, y0, y1, appD, appOb, q1, q, m01, prodB]
  · obtain ⟨a0, a1, a2, a3, a4, a5, rfl⟩ := len6 (A := A) hA
    obtain ⟨b0, b1, b2, b3, b4, b5, rfl⟩ := len6 (A := B) hB
    have m1 := hm a0 (by simp) b1 (by simp)
    have m2 := hm a1 (by simp) b2 (by simp)
    have m3 := hm a0 (by simp) b4 (by simp)
    have m4 := hm a3 (by simp) b2 (by simp)
    simp [Y.exSs, Y.Z.x_asg, Y.Z.x_par, Y.Z.x_expr, Y.Z.x_ret, Y.Z.x_retN, Y.Z.x_ite, Y.Z.x_for, Y.Z.x_while, Y.Z.x_brk, Y.Z.x_cnt, Y.Z.x_pass, Y.evE, Y.evL, Y.evC, Y.evCo, Y.evI, Y.evO, Y.asG, Y.asGs, Y.R.bind, Y.liftO, Y.isD, Y.tyD, Y.subTy, Y.bltD, Y.one, Y.two, Y.lenD, Y.seqOf, Y.lstOf, Y.lstF, Y.cmpR, Y.cmpT, Y.cmpD, Y.noEx, Y.walkSeq, Y.wsrc, Y.Z.still_nil, Y.Z.still_tup, Y.Z.still_ct, Y.Z.still_rd, Y.Z.still_lst, Y.wipe, Y.D.lt, Y.ltL, Y.Z.ltL_ints, Y.Z.fin_rtc, Y.Z.fin_rta, Y.tupD, Y.Z.fin_nx, Y.truth, Y.newL, Y.push, Y.allD, Y.anyD, Y.sumD, Y.Z.asI, Y.Z.asB, Y.Z.asB', Y.Z.asI', Y.absD, Y.Z.eqD_int, ir_product_in_3, glo, cv_SUMMANDS, getR, getD, lookV, walkEnm, enmL, f_cons, f_nil, ir_product_in_4, ir_product_in_6, binD, atI_px0, atI_px, y0, y1, appD, appOb, q1, q, m1, m2, m3, m4, prodB]
  · obtain ⟨a0, a1, a2, a3, a4, a5, a6, a7, a8, a9, rfl⟩ := len10 (A := A) hA
    obtain ⟨b0, b1, b2, b3, b4, b5, b6, b7, b8, b9, rfl⟩ := len10 (A := B) hB
    have m1 := hm a0 (by simp) b1 (by simp)
    have m2 := hm a1 (by simp) b2 (by simp)
    have m3 := hm a2 (by simp) b3 (by simp)
    have m4 := hm a0 (by simp) b5 (by simp)
    have m5 := hm a4 (by simp) b2 (by simp)
    have m6 := hm a1 (by simp) b6 (by simp)
    have m7 := hm a5 (by simp) b3 (by simp)
    have m8 := hm a0 (by simp) b8 (by simp)
    have m9 := hm a4 (by simp) b6 (by simp)
    have m10 := hm a7 (by simp) b3 (by simp)
    simp [Y.exSs, Y.Z.x_asg, Y.Z.x_par, Y.Z.x_expr, Y.Z.x_ret, Y.Z.x_retN, Y.Z.x_ite, Y.Z.x_for, Y.Z.x_while, Y.Z.x_brk, Y.Z.x_cnt, Y.Z.x_pass, Y.evE, Y.evL, Y.evC, Y.evCo, Y.evI, Y.evO, Y.asG, Y.asGs, Y.R.bind, Y.liftO, Y.isD, Y.tyD, Y.subTy, Y.bltD, Y.one, Y.two, Y.lenD, Y.seqOf, Y.lstOf, Y.lstF, Y.cmpR, Y.cmpT, Y.cmpD, Y.noEx, Y.walkSeq, Y.wsrc, Y.Z.still_nil, Y.Z.still_tup, Y.Z.still_ct, Y.Z.still_rd, Y.Z.still_lst, Y.wipe, Y.D.lt, Y.ltL, Y.Z.ltL_ints, Y.Z.fin_rtc, Y.Z.fin_rta, Y.tupD, Y.Z.fin_nx, Y.truth, Y.newL, Y.push, Y.allD, Y.anyD, Y.sumD, Y.Z.asI, Y.Z.asB, Y.Z.asB', Y.Z.asI', Y.absD, Y.Z.eqD_int, ir_product_in_3, glo, cv_SUMMANDS, getR, getD, lookV, walkEnm, enmL, f_cons, f_nil, ir_product_in_4, ir_product_in_6, binD, atI_px0, atI_px, y0, y1, appD, appOb, q1, q, m1, m2, m3, m4, m5, m6, m7, m8, m9, m10, prodB]
end LW

namespace LW
open PySem Y Y.Z
def e4 (a0 a1 a4 : Int) : Int := -(a4 + a0 * -a1)
def invB : List Int → List Int
  | [a] => [-a]
  | [a0, a1, a2] => [-a0, -a1, e4 a0 a1 a2]
  | [a0, a1, a2, a3, a4, a5] => [-a0, -a1, -a2, e4 a0 a1 a3, e4 a1 a2 a4, -(a5 + a0 * e4 a1 a2 a4 + a3 * -a2)]
  | [a0, a1, a2, a3, a4, a5, a6, a7, a8, a9] => [-a0, -a1, -a2, -a3, e4 a0 a1 a4, e4 a1 a2 a5, e4 a2 a3 a6, -(a7 + a0 * e4 a1 a2 a5 + a4 * -a2), -(a8 + a1 * e4 a2 a3 a6 + a5 * -a3), -(a9 + a0 * -(a8 + a1 * e4 a2 a3 a6 + a5 * -a3) + a4 * e4 a2 a3 a6 + a7 * -a3)]
  | _ => []
def invL : List Int → List Int → List Int
  | [], _ => []
  | s :: r, x => invB (x.take (s * (s - 1) / 2).toNat) ++ invL r (x.drop (s * (s - 1) / 2).toNat)
theorem bd_inverse (k : Nat) (sp : D) (s : Int) (hs : s = 2 ∨ s = 3 ∨ s = 4 ∨ s = 5) (px pi rx A : List Int) (hp : px.length = pi.length) (hA : A.length = ws s)
   (ha : pi.length ≤ 100) (st : Stt) (a5 a6 a7 a8 a9 : Option D) (hm : mOk A (invB A)) :
   ∃ c5 c6 c7 c8 c9, exSs ⟨callF tbl glo 100000 k, glo, 100000⟩ st.length ir_inverse_in_3 [some sp, some (.tup ((px ++ A ++ rx).map .int)), some (.ref st.length), some (.int px.length), some (.int s), a5, a6, a7, a8, a9] (st ++ [.lst (pi.map .int)])
    = .nx [some sp, some (.tup ((px ++ A ++ rx).map .int)), some (.ref st.length), some (.int (px.length + A.length)), some (.int s), c5, c6, c7, c8, c9] (st ++ [.lst ((pi ++ invB A).map .int)]) := by
  have q : ∀ n : Nat, n < 1000 → pi.length + n < sz := by simp [sz]; omega
  have q1 : pi.length < sz := q 0 (by omega)
  have y0 := atI_px0 pi
  have y1 := atI_px pi
  rw [← hp] at y0 y1
  rcases hs with e | e | e | e <;> subst e
  · obtain ⟨a0, rfl⟩ := len1 (A := A) hA
    simp [Y.exSs, Y.Z.x_asg, Y.Z.x_par, Y.Z.x_expr, Y.Z.x_ret, Y.Z.x_retN, Y.Z.x_ite, Y.Z.x_for, Y.Z.x_while, Y.Z.x_brk, Y.Z.x_cnt, Y.Z.x_pass, Y.evE, Y.evL, Y.evC, Y.evCo, Y.evI, Y.evO, Y.asG, Y.asGs, Y.R.bind, Y.liftO, Y.isD, Y.tyD, Y.subTy, Y.bltD, Y.one, Y.two, Y.lenD, Y.seqOf, Y.lstOf, Y.lstF, Y.cmpR, Y.cmpT, Y.cmpD, Y.noEx, Y.walkSeq, Y.wsrc, Y.Z.still_nil, Y.Z.still_tup, Y.Z.still_ct, Y.Z.still_rd, Y.Z.still_lst, Y.wipe, Y.D.lt, Y.ltL, Y.Z.ltL_ints, Y.Z.fin_rtc, Y.Z.fin_rta, Y.tupD, Y.Z.fin_nx, Y.truth, Y.newL, Y.push, Y.allD, Y.anyD, Y.sumD, Y.Z.asI, Y.Z.asB, Y.Z.asB', Y.Z.asI', Y.absD, Y.Z.eqD_int, ir_inverse_in_3, glo, cv_SUMMANDS, getR, getD, lookV, walkEnm, enmL, f_cons, f_nil, ir_inverse_in_4, ir_inverse_in_6, binD, atI_px0, atI_px, y0, y1, appD, appOb, q1, q, invB]
  · obtain ⟨a0, a1, a2, rfl⟩ := len3 (A := A) hA
    have m1 := hm a0 (by simp) (-a1) (by simp [invB])
    simp [Y.exSs, Y.Z.x_asg, Y.Z.x_par, Y.Z.x_expr, Y.Z.x_ret, Y.Z.x_retN, Y.Z.x_ite, Y.Z.x_for, Y.Z.x_while, Y.Z.x_brk, Y.Z.x_cnt, Y.Z.x_pass, Y.evE, Y.evL, Y.evC, Y.evCo, Y.evI, Y.evO, Y.asG, Y.asGs, Y.R.bind, Y.liftO, Y.isD, Y.tyD, Y.subTy, Y.bltD, Y.one, Y.two, Y.lenD, Y.seqOf, Y.lstOf, Y.lstF, Y.cmpR, Y.cmpT, Y.cmpD, Y.noEx, Y.walkSeq, Y.wsrc, Y.Z.still_nil, Y.Z.still_tup, Y.Z.still_ct, Y.Z.still_rd, Y.Z.still_lst, Y.wipe, Y.D.lt, Y.ltL, Y.Z.ltL_ints, Y.Z.fin_rtc, Y.Z.fin_rta, Y.tupD, Y.Z.fin_nx, Y.truth, Y.newL, Y.push, Y.allD, Y.anyD, Y.sumD, Y.Z.asI, Y.Z.asB, Y.Z.asB', Y.Z.asI', Y.absD, Y.Z.eqD_int, ir_inverse_in_3, glo, cv_SUMMANDS, getR, getD, lookV, walkEnm, enmL, f_cons, f_nil, ir_inverse_in_4, ir_inverse_in_6, binD, atI_px0, atI_px, y0, y1, appD, appOb, q1, q, m1, invB, e4]
  · obtain ⟨a0, a1, a2, a3, a4, a5, rfl⟩ := len6 (A := A) hA
    have m1 := hm a0 (by simp) (-a1) (by simp [invB])
    have m2 := hm a1 (by simp) (-a2) (by simp [invB])
    have m3 := hm a0 (by simp) (e4 a1 a2 a4) (by simp [invB])
    have m4 := hm a3 (by simp) (-a2) (by simp [invB])
    simp [e4] at m3
    simp [Y.exSs, Y.Z.x_asg, Y.Z.x_par, Y.Z.x_expr, Y.Z.x_ret, Y.Z.x_retN, Y.Z.x_ite, Y.Z.x_for, Y.Z.x_while, Y.Z.x_brk, Y.Z.x_cnt, Y.Z.x_pass, Y.evE, Y.evL, Y.evC, Y.evCo, Y.evI, Y.evO, Y.asG, Y.asGs, Y.R.bind, Y.liftO, Y.isD, Y.tyD, Y.subTy, Y.bltD, Y.one, Y.two, Y.lenD, Y.seqOf, Y.lstOf, Y.lstF, Y.cmpR, Y.cmpT, Y.cmpD, Y.noEx, Y.walkSeq, Y.wsrc, Y.Z.still_nil, Y.Z.still_tup, Y.Z.still_ct, Y.Z.still_rd, Y.Z.still_lst, Y.wipe, Y.D.lt, Y.ltL, Y.Z.ltL_ints, Y.Z.fin_rtc, Y.Z.fin_rta, Y.tupD, Y.Z.fin_nx, Y.truth, Y.newL, Y.push, Y.allD, Y.anyD, Y.sumD, Y.Z.asI, Y.Z.asB, Y.Z.asB', Y.Z.asI', Y.absD, Y.Z.eqD_int, ir_inverse_in_3, glo, cv_SUMMANDS, getR, getD, lookV, walkEnm, enmL, f_cons, f_nil, ir_inverse_in_4, ir_inverse_in_6, binD, atI_px0, atI_px, y0, y1, appD, appOb, q1, q, m1, m2, m3, m4, invB, e4]
  · obtain ⟨a0, a1, a2, a3, a4, a5, a6, a7, a8, a9, rfl⟩ := len10 (A := A) hA
    have m1 := hm a0 (by simp) (-a1) (by simp [invB])
    have m2 := hm a1 (by simp) (-a2) (by simp [invB])
    have m3 := hm a2 (by simp) (-a3) (by simp [invB])
    have m4 := hm a0 (by simp) (e4 a1 a2 a5) (by simp [invB])
    have m5 := hm a4 (by simp) (-a2) (by simp [invB])
    have m6 := hm a1 (by simp) (e4 a2 a3 a6) (by simp [invB])
    have m7 := hm a5 (by simp) (-a3) (by simp [invB])
    have m8 := hm a0 (by simp) (-(a8 + a1 * e4 a2 a3 a6 + a5 * -a3)) (by simp [invB])
    have m9 := hm a4 (by simp) (e4 a2 a3 a6) (by simp [invB])
    have m10 := hm a7 (by simp) (-a3) (by simp [invB])
    simp [e4] at m4 m6 m8 m9
    simp [Y.exSs, Y.Z.x_asg, Y.Z.x_par, Y.Z.x_expr, Y.Z.x_ret, Y.Z.x_retN, Y.Z.x_ite, Y.Z.x_for, Y.Z.x_while, Y.Z.x_brk, Y.Z.x_cnt, Y.Z.x_pass, Y.evE, Y.evL, Y.evC, Y.evCo, Y.evI, Y.evO, Y.asG, Y.asGs, Y.R.bind, Y.liftO, Y.isD, Y.tyD, Y.subTy, Y.bltD, Y.one, Y.two, Y.lenD, Y.seqOf, Y.lstOf, Y.lstF, Y.cmpR, Y.cmpT, Y.cmpD, Y.noEx, Y.walkSeq, Y.wsrc, Y.Z.still_nil, Y.Z.still_tup, Y.Z.still_ct, Y.Z.still_rd, Y.Z.still_lst, Y.wipe, Y.D.lt, Y.ltL, Y.Z.ltL_ints, Y.Z.fin_rtc, Y.Z.fin_rta, Y.tupD, Y.Z.fin_nx, Y.truth, Y.newL, Y.push, Y.allD, Y.anyD, Y.sumD, Y.Z.asI, Y.Z.asB, Y.Z.asB', Y.Z.asI', Y.absD, Y.Z.eqD_int, ir_inverse_in_3, glo, cv_SUMMANDS, getR, getD, lookV, walkEnm, enmL, f_cons, f_nil, ir_inverse_in_4, ir_inverse_in_6, binD, atI_px0, atI_px, y0, y1, appD, appOb, q1, q, m1, m2, m3, m4, m5, m6, m7, m8, m9, m10, invB, e4]
end LW

namespace LW
open PySem Y Y.Z
theorem prodB_len (s : Int) (hs : s = 2 ∨ s = 3 ∨ s = 4 ∨ s = 5) (A B : List Int) (hA : A.length = ws s) (hB : B.length = ws s) : (prodB A B).length = ws s := by
  rcases hs with e | e | e | e <;> subst e
  · obtain ⟨a0, rfl⟩ := len1 (A := A) hA
    obtain ⟨b0, rfl⟩ := len1 (A := B) hB
    rfl
  · obtain ⟨a0, a1, a2, rfl⟩ := len3 (A := A) hA
    obtain ⟨b0, b1, b2, rfl⟩ := len3 (A := B) hB
    rfl
  · obtain ⟨a0, a1, a2, a3, a4, a5, rfl⟩ := len6 (A := A) hA
    obtain ⟨b0, b1, b2, b3, b4, b5, rfl⟩ := len6 (A := B) hB
    rfl
  · obtain ⟨a0, a1, a2, a3, a4, a5, a6, a7, a8, a9, rfl⟩ := len10 (A := A) hA
    obtain ⟨b0, b1, b2, b3, b4, b5, b6, b7, b8, b9, rfl⟩ := len10 (A := B) hB
    rfl
theorem wid_cons (s : Int) (r : List Int) : wid (s :: r) = ws s + wid r := rfl
theorem cutw {x : List Int} {s : Int} {r : List Int} (h : x.length = wid (s :: r)) : ∃ A B, x = A ++ B ∧ A.length = ws s ∧ B.length = wid r := by
  rw [wid_cons] at h
  exact ⟨x.take (ws s), x.drop (ws s), (List.take_append_drop _ _).symm, by simp; omega, by simp; omega⟩
theorem prodL_cons (s : Int) (r A B x y : List Int) (hA : A.length = ws s) (hB : B.length = ws s) : prodL (s :: r) (A ++ x) (B ++ y) = prodB A B ++ prodL r x y := by
  have e1 : (A ++ x).take (ws s) = A := by rw [← hA]; simp
  have e2 : (A ++ x).drop (ws s) = x := by rw [← hA]; simp
  have e3 : (B ++ y).take (ws s) = B := by rw [← hB]; simp
  have e4 : (B ++ y).drop (ws s) = y := by rw [← hB]; simp
  show prodB ((A ++ x).take (ws s)) ((B ++ y).take (ws s)) ++ prodL r ((A ++ x).drop (ws s)) ((B ++ y).drop (ws s)) = _
  rw [e1, e2, e3, e4]
theorem prodL_len : ∀ (ss : List Int), okS ss → ∀ x y : List Int, x.length = wid ss → y.length = wid ss → (prodL ss x y).length = wid ss
  | [], _, _, _, _, _ => rfl
  | s :: r, hs, x, y, hx, hy => by
    obtain ⟨A, x', rfl, hA, hx'⟩ := cutw hx
    obtain ⟨B, y', rfl, hB, hy'⟩ := cutw hy
    rw [prodL_cons s r A B x' y' hA hB, List.length_append, prodB_len s (hs s (List.mem_cons_self ..)) A B hA hB, prodL_len r (fun x hx => hs x (List.mem_cons_of_mem _ hx)) x' y' hx' hy', wid_cons]
theorem lp_product (k : Nat) (sp : D) (src : List (D × List D)) (hsrc : ∀ st, stills st src = true) (st : Stt) : ∀ (ss : List Int), okS ss → ∀ (px py x y : List Int), px.length = py.length → x.length = wid ss → y.length = wid ss → mOk x y → ∀ (acc : List D), acc.length + wid ss ≤ 100 → ∀ a5 a6 a7 a8 a9 a10 : Option D,
   ∃ z c5 c6 c7 c8 c9 c10, forS ⟨callF tbl glo 100000 k, glo, 100000⟩ st.length (.nm 5) ir_product_in_3 src (ss.map .int) [some sp, some (.tup ((px ++ x).map .int)), some (.tup ((py ++ y).map .int)), some (.ref st.length), some (.int px.length), a5, a6, a7, a8, a9, a10] (st ++ [.lst acc])
    = .nx [some sp, some (.tup ((px ++ x).map .int)), some (.tup ((py ++ y).map .int)), some (.ref st.length), z, c5, c6, c7, c8, c9, c10] (st ++ [.lst (acc ++ (prodL ss x y).map .int)])
  | [], _, px, py, x, y, hp, hx, hy, hm, acc, ha, a5, a6, a7, a8, a9, a10 => by
    refine ⟨some (.int px.length), a5, a6, a7, a8, a9, a10, ?_⟩
    rw [List.map_nil, f_nil _ _ _ _ _ _ _ (hsrc _)]
    simp [prodL]
  | s :: r, hs, px, py, x, y, hp, hx, hy, hm, acc, ha, a5, a6, a7, a8, a9, a10 => by
    have h1 := hs s (List.mem_cons_self ..)
    obtain ⟨A, x', rfl, hA, hx'⟩ := cutw hx
    obtain ⟨B, y', rfl, hB, hy'⟩ := cutw hy
    have hl := prodB_len s h1 A B hA hB
    rw [wid_cons] at ha
    obtain ⟨c6, c7, c8, c9, c10, e⟩ := bd_product k sp s h1 px py x' y' A B hp hA hB acc (by omega) st a6 a7 a8 a9 a10 (fun u hu v hv => hm u (by simp [hu]) v (by simp [hv]))
    obtain ⟨z, d5, d6, d7, d8, d9, d10, e2⟩ := lp_product k sp src hsrc st r (fun x hx => hs x (List.mem_cons_of_mem _ hx)) (px ++ A) (py ++ B) x' y' (by simp [hp, hA, hB]) hx' hy' (fun u hu v hv => hm u (by simp [hu]) v (by simp [hv])) (acc ++ (prodB A B).map .int) (by simp [hl]; omega) (some (.int s)) c6 c7 c8 c9 c10
    refine ⟨z, d5, d6, d7, d8, d9, d10, ?_⟩
    rw [List.map_cons, f_cons _ _ _ _ _ _ _ _ _ (hsrc _), prodL_cons s r A B x' y' hA hB, ← List.append_assoc, ← List.append_assoc]
    simp only [asG, List.set]
    rw [e]
    simp only []
    have ec : ((px ++ A).length : Int) = px.length + A.length := by simp
    rw [ec] at e2
    rw [e2]
    simp
theorem sp_product_in (k : Nat) (ss x y : List Int) (hs : okS ss) (hx : x.length = wid ss) (hy : y.length = wid ss) (hw : wid ss ≤ 12) (hm : mOk x y) (b : Nat) (st : Stt) : callF tbl glo 100000 (k+1) 10 [.tup (ss.map .int), .tup (x.map .int), .tup (y.map .int)] b st = .ok (.tup ((prodL ss x y).map .int)) st := by
  rw [en_product_in]
  obtain ⟨z, d5, d6, d7, d8, d9, d10, e⟩ := lp_product k (.tup (ss.map .int)) [] (fun st => rfl) st ss hs [] [] x y rfl hx hy hm [] (by simp; omega) none none none none none none
  simp only [List.nil_append, List.length_nil, Int.ofNat_zero, Int.natCast_zero] at e
  simp [Y.exSs, Y.Z.x_asg, Y.Z.x_par, Y.Z.x_expr, Y.Z.x_ret, Y.Z.x_retN, Y.Z.x_ite, Y.Z.x_for, Y.Z.x_while, Y.Z.x_brk, Y.Z.x_cnt, Y.Z.x_pass, Y.evE, Y.evL, Y.evC, Y.evCo, Y.evI, Y.evO, Y.asG, Y.asGs, Y.R.bind, Y.liftO, Y.isD, Y.tyD, Y.subTy, Y.bltD, Y.one, Y.two, Y.lenD, Y.seqOf, Y.lstOf, Y.lstF, Y.cmpR, Y.cmpT, Y.cmpD, Y.noEx, Y.walkSeq, Y.wsrc, Y.Z.still_nil, Y.Z.still_tup, Y.Z.still_ct, Y.Z.still_rd, Y.Z.still_lst, Y.wipe, Y.D.lt, Y.ltL, Y.Z.ltL_ints, Y.Z.fin_rtc, Y.Z.fin_rta, Y.tupD, Y.Z.fin_nx, Y.truth, Y.newL, Y.push, Y.allD, Y.anyD, Y.sumD, Y.Z.asI, Y.Z.asB, Y.Z.asB', Y.Z.asI', Y.absD, Y.Z.eqD_int, ir_product_in, e]
end LW

namespace LW
open PySem Y Y.Z
theorem invB_len (s : Int) (hs : s = 2 ∨ s = 3 ∨ s = 4 ∨ s = 5) (A : List Int) (hA : A.length = ws s) : (invB A).length = ws s := by
  rcases hs with e | e | e | e <;> subst e
  · obtain ⟨a0, rfl⟩ := len1 (A := A) hA
    rfl
  · obtain ⟨a0, a1, a2, rfl⟩ := len3 (A := A) hA
    rfl
  · obtain ⟨a0, a1, a2, a3, a4, a5, rfl⟩ := len6 (A := A) hA
    rfl
  · obtain ⟨a0, a1, a2, a3, a4, a5, a6, a7, a8, a9, rfl⟩ := len10 (A := A) hA
    rfl
theorem invL_cons (s : Int) (r A x : List Int) (hA : A.length = ws s) : invL (s :: r) (A ++ x) = invB A ++ invL r x := by
  have e1 : (A ++ x).take (ws s) = A := by rw [← hA]; simp
  have e2 : (A ++ x).drop (ws s) = x := by rw [← hA]; simp
  show invB ((A ++ x).take (ws s)) ++ invL r ((A ++ x).drop (ws s)) = _
  rw [e1, e2]
theorem invL_len : ∀ (ss : List Int), okS ss → ∀ x : List Int, x.length = wid ss → (invL ss x).length = wid ss
  | [], _, _, _ => rfl
  | s :: r, hs, x, hx => by
    obtain ⟨A, x', rfl, hA, hx'⟩ := cutw hx
    rw [invL_cons s r A x' hA, List.length_append, invB_len s (hs s (List.mem_cons_self ..)) A hA, invL_len r (fun x hx => hs x (List.mem_cons_of_mem _ hx)) x' hx', wid_cons]
theorem lp_inverse (k : Nat) (sp : D) (src : List (D × List D)) (hsrc : ∀ st, stills st src = true) (st : Stt) : ∀ (ss : List Int), okS ss → ∀ (px pi x : List Int), px.length = pi.length → x.length = wid ss → mOk x (invL ss x) → pi.length + wid ss ≤ 100 → ∀ a4 a5 a6 a7 a8 a9 : Option D,
   ∃ z c4 c5 c6 c7 c8 c9, forS ⟨callF tbl glo 100000 k, glo, 100000⟩ st.length (.nm 4) ir_inverse_in_3 src (ss.map .int) [some sp, some (.tup ((px ++ x).map .int)), some (.ref st.length), some (.int px.length), a4, a5, a6, a7, a8, a9] (st ++ [.lst (pi.map .int)])
    = .nx [some sp, some (.tup ((px ++ x).map .int)), some (.ref st.length), z, c4, c5, c6, c7, c8, c9] (st ++ [.lst ((pi ++ invL ss x).map .int)])
  | [], _, px, pi, x, hp, hx, hm, ha, a4, a5, a6, a7, a8, a9 => by
    refine ⟨some (.int px.length), a4, a5, a6, a7, a8, a9, ?_⟩
    rw [List.map_nil, f_nil _ _ _ _ _ _ _ (hsrc _)]
    simp [invL]
  | s :: r, hs, px, pi, x, hp, hx, hm, ha, a4, a5, a6, a7, a8, a9 => by
    have h1 := hs s (List.mem_cons_self ..)
    obtain ⟨A, x', rfl, hA, hx'⟩ := cutw hx
    have hl := invB_len s h1 A hA
    rw [wid_cons] at ha
    rw [invL_cons s r A x' hA] at hm
    obtain ⟨c5, c6, c7, c8, c9, e⟩ := bd_inverse k sp s h1 px pi x' A hp hA (by omega) st a5 a6 a7 a8 a9 (fun u hu v hv => hm u (by simp [hu]) v (by simp [hv]))
    obtain ⟨z, d4, d5, d6, d7, d8, d9, e2⟩ := lp_inverse k sp src hsrc st r (fun x hx => hs x (List.mem_cons_of_mem _ hx)) (px ++ A) (pi ++ invB A) x' (by simp [hp, hA, hl]) hx' (fun u hu v hv => hm u (by simp [hu]) v (by simp [hv])) (by simp [hl]; omega) (some (.int s)) c5 c6 c7 c8 c9
    refine ⟨z, d4, d5, d6, d7, d8, d9, ?_⟩
    rw [List.map_cons, f_cons _ _ _ _ _ _ _ _ _ (hsrc _), invL_cons s r A x' hA, ← List.append_assoc, ← List.append_assoc]
    simp only [asG, List.set]
    rw [e]
    simp only []
    have ec : ((px ++ A).length : Int) = px.length + A.length := by simp
    rw [ec] at e2
    rw [e2]
theorem sp_inverse_in (k : Nat) (ss x : List Int) (hs : okS ss) (hx : x.length = wid ss) (hw : wid ss ≤ 12) (hm : mOk x (invL ss x)) (b : Nat) (st : Stt) : callF tbl glo 100000 (k+1) 11 [.tup (ss.map .int), .tup (x.map .int)] b st = .ok (.tup ((invL ss x).map .int)) st := by
  rw [en_inverse_in]
  obtain ⟨z, d4, d5, d6, d7, d8, d9, e⟩ := lp_inverse k (.tup (ss.map .int)) [] (fun st => rfl) st ss hs [] [] x rfl hx hm (by simp; omega) none none none none none none
  simp only [List.nil_append, List.length_nil, Int.ofNat_zero, Int.natCast_zero, List.map_nil] at e
  simp [Y.exSs, Y.Z.x_asg, Y.Z.x_par, Y.Z.x_expr, Y.Z.x_ret, Y.Z.x_retN, Y.Z.x_ite, Y.Z.x_for, Y.Z.x_while, Y.Z.x_brk, Y.Z.x_cnt, Y.Z.x_pass, Y.evE, Y.evL, Y.evC, Y.evCo, Y.evI, Y.evO, Y.asG, Y.asGs, Y.R.bind, Y.liftO, Y.isD, Y.tyD, Y.subTy, Y.bltD, Y.one, Y.two, Y.lenD, Y.seqOf, Y.lstOf, Y.lstF, Y.cmpR, Y.cmpT, Y.cmpD, Y.noEx, Y.walkSeq, Y.wsrc, Y.Z.still_nil, Y.Z.still_tup, Y.Z.still_ct, Y.Z.still_rd, Y.Z.still_lst, Y.wipe, Y.D.lt, Y.ltL, Y.Z.ltL_ints, Y.Z.fin_rtc, Y.Z.fin_rta, Y.tupD, Y.Z.fin_nx, Y.truth, Y.newL, Y.push, Y.allD, Y.anyD, Y.sumD, Y.Z.asI, Y.Z.asB, Y.Z.asB', Y.Z.asI', Y.absD, Y.Z.eqD_int, ir_inverse_in, e]
end LW

namespace LW
open PySem Y Y.Z
/-! bounds: nb e x: every entry u has 1 + 3 |u| ≤ 2 ^ e -/
def ub (e : Nat) (u : Int) : Prop := 1 + 3 * u.natAbs ≤ 2 ^ e
def nb (e : Nat) (x : List Int) : Prop := ∀ u ∈ x, ub e u
theorem ub_mono {e f : Nat} {u : Int} (h : e ≤ f) (hu : ub e u) : ub f u := Nat.le_trans hu (Nat.pow_le_pow_right (by decide) h)
theorem nb_mono {e f : Nat} {x : List Int} (h : e ≤ f) (hx : nb e x) : nb f x := fun u hu => ub_mono h (hx u hu)
theorem ub_neg {e : Nat} {u : Int} (h : ub e u) : ub e (-u) := by unfold ub at *; rwa [Int.natAbs_neg]
theorem ub_zero (e : Nat) : ub e 0 := Nat.one_le_two_pow
theorem ub_lt {e : Nat} {u : Int} (h : ub e u) : u.natAbs < 2 ^ e := by unfold ub at h; omega
theorem mulOk_ub {e f : Nat} {u v : Int} (hu : ub e u) (hv : ub f v) (h : e + f ≤ 1000000) : mulOk u v = true := by
  by_cases u0 : u.natAbs = 0
  · simp [mulOk, u0]
  by_cases v0 : v.natAbs = 0
  · simp [mulOk, v0]
  have h1 : u.natAbs.log2 < e := (Nat.log2_lt u0).mpr (ub_lt hu)
  have h2 : v.natAbs.log2 < f := (Nat.log2_lt v0).mpr (ub_lt hv)
  have h3 : u.natAbs.log2 + v.natAbs.log2 < 1000000 := by omega
  simp [mulOk, h3]
theorem mOk_nb {e f : Nat} {x y : List Int} (hx : nb e x) (hy : nb f y) (h : e + f ≤ 1000000) : mOk x y := fun u hu v hv => mulOk_ub (hx u hu) (hy v hv) h
theorem tm {B C : Nat} {u v : Int} (hu : 1 + 3 * u.natAbs ≤ B) (hv : 1 + 3 * v.natAbs ≤ C) : 9 * (u * v).natAbs ≤ (B - 1) * (C - 1) := by
  rw [Int.natAbs_mul]
  have : (3 * u.natAbs) * (3 * v.natAbs) ≤ (B - 1) * (C - 1) := Nat.mul_le_mul (by omega) (by omega)
  calc 9 * (u.natAbs * v.natAbs) = (3 * u.natAbs) * (3 * v.natAbs) := by rw [Nat.mul_mul_mul_comm]
    _ ≤ _ := this
theorem bc {B C : Nat} (hB : 1 ≤ B) (hC : 1 ≤ C) : B * C = (B - 1) * (C - 1) + (B - 1) + (C - 1) + 1 := by
  obtain ⟨B, rfl⟩ : ∃ b, B = b + 1 := ⟨B - 1, by omega⟩
  obtain ⟨C, rfl⟩ : ∃ b, C = b + 1 := ⟨C - 1, by omega⟩
  simp only [Nat.add_mul, Nat.mul_add, Nat.add_sub_cancel, Nat.mul_one, Nat.one_mul]
  omega
theorem s0 {e f : Nat} {a b : Int} (ha : ub e a) (hb : ub f b) : ub (e + f) (a + b) := by
  unfold ub at *
  rw [Nat.pow_add, bc Nat.one_le_two_pow Nat.one_le_two_pow]
  have n1 := Int.natAbs_add_le a b
  omega
theorem s1 {e f : Nat} {a b u v : Int} (ha : ub e a) (hb : ub f b) (hu : ub e u) (hv : ub f v) : ub (e + f) (a + b + u * v) := by
  unfold ub at *
  have h1 := tm hu hv
  have n1 := Int.natAbs_add_le a b
  have n2 := Int.natAbs_add_le (a + b) (u * v)
  rw [Nat.pow_add, bc Nat.one_le_two_pow Nat.one_le_two_pow]
  generalize (2 ^ e - 1) * (2 ^ f - 1) = X at *
  generalize (u * v).natAbs = t at *
  generalize (a + b + u * v).natAbs = t1 at *
  generalize (a + b).natAbs = t2 at *
  omega
theorem s2 {e f : Nat} {a b u v u' v' : Int} (ha : ub e a) (hb : ub f b) (hu : ub e u) (hv : ub f v) (hu' : ub e u') (hv' : ub f v') : ub (e + f) (a + b + u * v + u' * v') := by
  unfold ub at *
  have h1 := tm hu hv
  have h2 := tm hu' hv'
  have n1 := Int.natAbs_add_le a b
  have n2 := Int.natAbs_add_le (a + b) (u * v)
  have n3 := Int.natAbs_add_le (a + b + u * v) (u' * v')
  rw [Nat.pow_add, bc Nat.one_le_two_pow Nat.one_le_two_pow]
  generalize (2 ^ e - 1) * (2 ^ f - 1) = X at *
  generalize (a + b + u * v + u' * v').natAbs = t0 at *
  generalize (u * v).natAbs = t at *
  generalize (u' * v').natAbs = t' at *
  generalize (a + b + u * v).natAbs = t1 at *
  generalize (a + b).natAbs = t2 at *
  omega
theorem s3 {e f : Nat} {a b u v u' v' u2 v2 : Int} (ha : ub e a) (hb : ub f b) (hu : ub e u) (hv : ub f v) (hu' : ub e u') (hv' : ub f v') (hu2 : ub e u2) (hv2 : ub f v2) : ub (e + f) (a + b + u * v + u' * v' + u2 * v2) := by
  unfold ub at *
  have h1 := tm hu hv
  have h2 := tm hu' hv'
  have h3 := tm hu2 hv2
  have n1 := Int.natAbs_add_le a b
  have n2 := Int.natAbs_add_le (a + b) (u * v)
  have n3 := Int.natAbs_add_le (a + b + u * v) (u' * v')
  have n4 := Int.natAbs_add_le (a + b + u * v + u' * v') (u2 * v2)
  rw [Nat.pow_add, bc Nat.one_le_two_pow Nat.one_le_two_pow]
  generalize (2 ^ e - 1) * (2 ^ f - 1) = X at *
  generalize (a + b + u * v + u' * v' + u2 * v2).natAbs = t00 at *
  generalize (a + b + u * v + u' * v').natAbs = t0 at *
  generalize (u * v).natAbs = t at *
  generalize (u' * v').natAbs = t' at *
  generalize (u2 * v2).natAbs = t'' at *
  generalize (a + b + u * v).natAbs = t1 at *
  generalize (a + b).natAbs = t2 at *
  omega
theorem nb_cons {e : Nat} {a : Int} {x : List Int} : nb e (a :: x) ↔ ub e a ∧ nb e x := by
  unfold nb
  simp
theorem nb_nil {e : Nat} : nb e [] := fun _ h => nomatch h
theorem nb_app {e : Nat} {x y : List Int} : nb e (x ++ y) ↔ nb e x ∧ nb e y := by
  unfold nb
  simp only [List.mem_append, or_imp, forall_and]
theorem nb_prodB (s : Int) (hs : s = 2 ∨ s = 3 ∨ s = 4 ∨ s = 5) (A B : List Int) (hA : A.length = ws s) (hB : B.length = ws s) {e f : Nat} (h1 : nb e A) (h2 : nb f B) : nb (e + f) (prodB A B) := by
  rcases hs with h | h | h | h <;> subst h
  · obtain ⟨a0, rfl⟩ := len1 (A := A) hA
    obtain ⟨b0, rfl⟩ := len1 (A := B) hB
    simp only [prodB, nb_cons] at *
    exact ⟨s0 h1.1 h2.1, nb_nil⟩
  · obtain ⟨a0, a1, a2, rfl⟩ := len3 (A := A) hA
    obtain ⟨b0, b1, b2, rfl⟩ := len3 (A := B) hB
    simp only [prodB, nb_cons] at *
    obtain ⟨h10, h11, h12, -⟩ := h1
    obtain ⟨h20, h21, h22, -⟩ := h2
    exact ⟨s0 h10 h20, s0 h11 h21, s1 h12 h22 h10 h21, nb_nil⟩
  · obtain ⟨a0, a1, a2, a3, a4, a5, rfl⟩ := len6 (A := A) hA
    obtain ⟨b0, b1, b2, b3, b4, b5, rfl⟩ := len6 (A := B) hB
    simp only [prodB, nb_cons] at *
    obtain ⟨h10, h11, h12, h13, h14, h15, -⟩ := h1
    obtain ⟨h20, h21, h22, h23, h24, h25, -⟩ := h2
    exact ⟨s0 h10 h20, s0 h11 h21, s0 h12 h22, s1 h13 h23 h10 h21, s1 h14 h24 h11 h22, s2 h15 h25 h10 h24 h13 h22, nb_nil⟩
  · obtain ⟨a0, a1, a2, a3, a4, a5, a6, a7, a8, a9, rfl⟩ := len10 (A := A) hA
    obtain ⟨b0, b1, b2, b3, b4, b5, b6, b7, b8, b9, rfl⟩ := len10 (A := B) hB
    simp only [prodB, nb_cons] at *
    obtain ⟨h10, h11, h12, h13, h14, h15, h16, h17, h18, h19, -⟩ := h1
    obtain ⟨h20, h21, h22, h23, h24, h25, h26, h27, h28, h29, -⟩ := h2
    exact ⟨s0 h10 h20, s0 h11 h21, s0 h12 h22, s0 h13 h23, s1 h14 h24 h10 h21, s1 h15 h25 h11 h22, s1 h16 h26 h12 h23, s2 h17 h27 h10 h25 h14 h22, s2 h18 h28 h11 h26 h15 h23, s3 h19 h29 h10 h28 h14 h26 h17 h23, nb_nil⟩
theorem nb_prodL {e f : Nat} : ∀ ss, okS ss → ∀ x y : List Int, x.length = wid ss → y.length = wid ss → nb e x → nb f y → nb (e + f) (prodL ss x y)
  | [], _, _, _, _, _, _, _ => nb_nil
  | s :: r, hs, x, y, hx, hy, h1, h2 => by
    obtain ⟨A, x', rfl, hA, hx'⟩ := cutw hx
    obtain ⟨B, y', rfl, hB, hy'⟩ := cutw hy
    rw [prodL_cons s r A B x' y' hA hB, nb_app]
    rw [nb_app] at h1 h2
    exact ⟨nb_prodB s (hs s (List.mem_cons_self ..)) A B hA hB h1.1 h2.1, nb_prodL r (fun x hx => hs x (List.mem_cons_of_mem _ hx)) x' y' hx' hy' h1.2 h2.2⟩
theorem t1 {e f : Nat} {a u v : Int} (ha : ub e a) (hu : ub e u) (hv : ub f v) : ub (e + f) (a + u * v) := by
  have := s1 (b := 0) ha (ub_zero f) hu hv
  rwa [Int.add_zero] at this
theorem t2 {e f : Nat} {a u v u' v' : Int} (ha : ub e a) (hu : ub e u) (hv : ub f v) (hu' : ub e u') (hv' : ub f v') : ub (e + f) (a + u * v + u' * v') := by
  have := s2 (b := 0) ha (ub_zero f) hu hv hu' hv'
  rwa [Int.add_zero] at this
theorem t3 {e f : Nat} {a u v u' v' u2 v2 : Int} (ha : ub e a) (hu : ub e u) (hv : ub f v) (hu' : ub e u') (hv' : ub f v') (hu2 : ub e u2) (hv2 : ub f v2) : ub (e + f) (a + u * v + u' * v' + u2 * v2) := by
  have := s3 (b := 0) ha (ub_zero f) hu hv hu' hv' hu2 hv2
  rwa [Int.add_zero] at this
theorem ub_e4 {e : Nat} {a b c : Int} (ha : ub e a) (hb : ub e b) (hc : ub e c) : ub (e + e) (e4 a b c) := ub_neg (t1 hc ha (ub_neg hb))
theorem nb_invB (s : Int) (hs : s = 2 ∨ s = 3 ∨ s = 4 ∨ s = 5) (A : List Int) (hA : A.length = ws s) {e : Nat} (h1 : nb e A) : nb (4 * e) (invB A) := by
  have m : ∀ {u : Int}, ub e u → ub (4 * e) u := fun h => ub_mono (by omega) h
  have m1 : ∀ {u : Int}, ub e u → ub (e + e) u := fun h => ub_mono (by omega) h
  have m12 : ∀ {u : Int}, ub e u → ub (e + (e + e)) u := fun h => ub_mono (by omega) h
  have m2 : ∀ {u : Int}, ub (e + e) u → ub (4 * e) u := fun h => ub_mono (by omega) h
  have m23 : ∀ {u : Int}, ub (e + e) u → ub (e + (e + e)) u := fun h => ub_mono (by omega) h
  have m3 : ∀ {u : Int}, ub (e + (e + e)) u → ub (4 * e) u := fun h => ub_mono (by omega) h
  have m4 : ∀ {u : Int}, ub (e + (e + (e + e))) u → ub (4 * e) u := fun h => ub_mono (by omega) h
  rcases hs with h | h | h | h <;> subst h
  · obtain ⟨a0, rfl⟩ := len1 (A := A) hA
    simp only [invB, nb_cons] at *
    exact ⟨m (ub_neg h1.1), nb_nil⟩
  · obtain ⟨a0, a1, a2, rfl⟩ := len3 (A := A) hA
    simp only [invB, nb_cons] at *
    obtain ⟨h10, h11, h12, -⟩ := h1
    exact ⟨m (ub_neg h10), m (ub_neg h11), m2 (ub_e4 h10 h11 h12), nb_nil⟩
  · obtain ⟨a0, a1, a2, a3, a4, a5, rfl⟩ := len6 (A := A) hA
    simp only [invB, nb_cons] at *
    obtain ⟨h10, h11, h12, h13, h14, h15, -⟩ := h1
    exact ⟨m (ub_neg h10), m (ub_neg h11), m (ub_neg h12), m2 (ub_e4 h10 h11 h13), m2 (ub_e4 h11 h12 h14), m3 (ub_neg (t2 h15 h10 (ub_e4 h11 h12 h14) h13 (m1 (ub_neg h12)))), nb_nil⟩
  · obtain ⟨a0, a1, a2, a3, a4, a5, a6, a7, a8, a9, rfl⟩ := len10 (A := A) hA
    simp only [invB, nb_cons] at *
    obtain ⟨h10, h11, h12, h13, h14, h15, h16, h17, h18, h19, -⟩ := h1
    have q := ub_neg (t2 h18 h11 (ub_e4 h12 h13 h16) h15 (m1 (ub_neg h13)))
    exact ⟨m (ub_neg h10), m (ub_neg h11), m (ub_neg h12), m (ub_neg h13), m2 (ub_e4 h10 h11 h14), m2 (ub_e4 h11 h12 h15), m2 (ub_e4 h12 h13 h16),
      m3 (ub_neg (t2 h17 h10 (ub_e4 h11 h12 h15) h14 (m1 (ub_neg h12)))), m3 q, m4 (ub_neg (t3 h19 h10 q h14 (m23 (ub_e4 h12 h13 h16)) h17 (m12 (ub_neg h13)))), nb_nil⟩
theorem nb_invL {e : Nat} : ∀ ss, okS ss → ∀ x : List Int, x.length = wid ss → nb e x → nb (4 * e) (invL ss x)
  | [], _, _, _, _ => nb_nil
  | s :: r, hs, x, hx, h1 => by
    obtain ⟨A, x', rfl, hA, hx'⟩ := cutw hx
    rw [invL_cons s r A x' hA, nb_app]
    rw [nb_app] at h1
    exact ⟨nb_invB s (hs s (List.mem_cons_self ..)) A hA h1.1, nb_invL r (fun x hx => hs x (List.mem_cons_of_mem _ hx)) x' hx' h1.2⟩
theorem nb_id (ss : List Int) (e : Nat) : nb e (List.replicate (wid ss) 0) := fun u hu => by
  rw [List.eq_of_mem_replicate hu]
  exact ub_zero e
end LW

namespace LW
open PySem Y Y.Z
theorem log_small (m : Int) (h0 : 0 < m) (h1 : m < 18446744073709551616) : m.natAbs.log2 < 9000 := by
  have : m.natAbs ≠ 0 := by omega
  rw [Nat.log2_lt this]
  have : m.natAbs < 2 ^ 64 := by omega
  exact Nat.lt_of_lt_of_le this (Nat.pow_le_pow_right (by decide) (by decide))
theorem dr (k : Nat) (m : Int) (hm : 0 < m) (h1 : m < 18446744073709551616) (r st : Stt) (h : StO r st) : ∃ i st', (∀ b, callF tbl glo 100000 (k+1) 23 [.ref 0, .int m] b st = .ok (.int i) st') ∧ StO r st' ∧ 0 ≤ i ∧ i < m := sp_draw k m hm (log_small m hm h1) r st h
theorem sto_take {r st : Stt} (h : StO r st) : st.length = r.length + 1 := by
  obtain ⟨c, a, l, n, s, _, rfl⟩ := h
  rfl
theorem fin_st {r st st1 : Stt} (h : StO r st) (h1 : StO r st1) (d : D) (hd : d.lt 0 = true) : finO 0 st.length (.rt d st1) = .ok d st1 := by
  rw [sto_take h, ← sto_take h1]
  exact fin_rt hd
theorem sp_lentry (k : Nat) (m : Int) (hm : 1 ≤ m) (hm2 : m ≤ 100000) (r st : Stt) (h : StO r st) : ∃ i st', (∀ b, callF tbl glo 100000 (k+2) 26 [.ref 0, .int m] b st = .ok (.int i) st') ∧ StO r st' ∧ -m ≤ i ∧ i ≤ m := by
  obtain ⟨j, st1, e1, h1, j0, j3⟩ := dr k 3 (by decide) (by decide) r st h
  obtain ⟨l, hl, hlm, hl0⟩ : ∃ l : Int, [D.int 1, D.int (if m < 3 then m else 3), D.int m][j.toNat]? = some (.int l) ∧ l ≤ m ∧ 1 ≤ l := by
    have : j = 0 ∨ j = 1 ∨ j = 2 := by omega
    rcases this with rfl | rfl | rfl
    · exact ⟨1, rfl, by omega, by omega⟩
    · exact ⟨if m < 3 then m else 3, rfl, by split <;> omega, by split <;> omega⟩
    · exact ⟨m, rfl, by omega, by omega⟩
  obtain ⟨i, st2, e2, h2, i0, i1⟩ := dr k (2 * l + 1) (by omega) (by omega) r st1 h1
  refine ⟨i - l, st2, fun b => ?_, h2, by omega, by omega⟩
  rw [en__law_entry]
  have hat : L2.atI [D.int 1, D.int (if m < 3 then m else 3), D.int m] j = some (.int l) := by
    have := atI_nat [D.int 1, D.int (if m < 3 then m else 3), D.int m] j.toNat
    rw [Int.toNat_of_nonneg j0] at this
    rw [this, hl]
  have hmul : mulOk 2 l = true := mull _ _ (by decide)
  have hf := fin_st h h2 (.int (i - l)) rfl
  have hsz : (3 : Nat) ≤ sz := by decide
  simp (implicitDefEqProofs := false) [Y.Z.x_nil, Y.Z.x_cons, Y.Z.bind_ok, Y.Z.bind_ex, Y.Z.lift_ok, Y.Z.lift_ex, Y.Z.noEx_ok, Y.Z.seq_nx, Y.Z.seq_rt, Y.Z.seq_bk, Y.Z.seq_ct, Y.Z.seq_ex, Y.Z.kRaise_e, Y.Z.y_raise, Y.Z.y_tryv, Y.Z.tv_nx, Y.Z.tv_rt, Y.Z.tv_ex, Y.hkD, Y.Z.e_fld, Y.Z.fld_e, Y.Z.loop_nx, Y.Z.loop_rt, Y.Z.loop_bk, Y.Z.loop_ct, Y.Z.asT_ok, Y.Z.opt_some, Y.Z.var_some, Y.Z.y_asg, Y.Z.y_aug, Y.Z.y_ite, Y.Z.x_retN, Y.Z.x_brk, Y.Z.x_cnt, Y.Z.x_pass, Y.Z.e_var, Y.Z.e_cst, Y.Z.e_glo, Y.Z.e_bin, Y.Z.e_neg, Y.Z.e_cmp, Y.Z.e_cmp2, Y.Z.e_and, Y.Z.e_or, Y.Z.e_not, Y.Z.e_ife, Y.Z.e_tup, Y.Z.e_lst, Y.Z.e_dic, Y.Z.e_dic0, Y.Z.e_ix, Y.Z.e_sl, Y.Z.e_rev, Y.Z.e_call, Y.Z.e_callK, Y.Z.e_blt, Y.Z.e_isi, Y.Z.e_isq, Y.Z.e_app, Y.Z.e_pop, Y.Z.e_ext, Y.Z.kExt1_e, Y.Z.k_ex_e, Y.Z.k_ex2_e, Y.Z.ex_ref, Y.Z.t_max1, Y.Z.t_min1, Y.Z.e_get2, Y.Z.e_lc, Y.Z.e_lc2, Y.Z.l_nil, Y.Z.l_cons, Y.Z.o_non, Y.Z.o_som, Y.Z.c_val, Y.Z.c_cp, Y.Z.c_cp2, Y.Z.c_and, Y.Z.c_or, Y.Z.c_not, Y.Z.co_non, Y.Z.co_som, Y.Z.i_seq, Y.Z.i_rng1, Y.Z.i_rng2, Y.Z.i_enm, Y.Z.i_zip, Y.Z.g_nm, Y.Z.g_tup, Y.Z.g_ct, Y.Z.g_ix, Y.Z.gs_nil, Y.Z.gs_cons, Y.Z.b_add, Y.Z.b_sub, Y.Z.b_mul, Y.Z.b_div, Y.Z.b_mod, Y.Z.b_pow, Y.Z.b_tup, Y.Z.b_lst, Y.Z.b_mulL, Y.Z.c_lt, Y.Z.c_le, Y.Z.c_gt, Y.Z.c_ge, Y.Z.c_eq, Y.Z.c_ne, Y.Z.c_isN, Y.Z.c_notN, Y.Z.c_isB, Y.Z.c_notB, Y.isNon, Y.Z.newL_f, Y.Z.newL_t, Y.Z.t_len, Y.Z.t_sum, Y.Z.t_any, Y.Z.t_all, Y.Z.t_abs, Y.Z.t_min, Y.Z.t_max, Y.Z.t_tuple, Y.Z.t_list, Y.Z.t_int, Y.Z.t_repr, Y.Z.t_str, Y.Z.st_str, Y.Z.st_int, Y.Z.st_tup, Y.Z.len_tup, Y.Z.len_lst, Y.Z.len_rd, Y.Z.len_ct, Y.Z.tup_lst, Y.Z.tup_tup, Y.Z.tup_ct, Y.Z.lst_lst, Y.Z.lst_tup, Y.Z.sum_ints, Y.Z.sum_ints', Y.Z.w_tup, Y.Z.w_lst, Y.Z.w_rd, Y.Z.w_ct, Y.Z.we_tup, Y.Z.we_lst, Y.Z.we_ct, Y.Z.wz_tl, Y.Z.wz_ll, Y.Z.wz_tt, Y.Z.r_tup, Y.Z.r_lst, Y.Z.r_rd, Y.Z.r_ct, Y.Z.cut_tup, Y.Z.cut_lst, Y.Z.cut_rd, Y.Z.rev_tup, Y.Z.tr_bl, Y.Z.tr_int, Y.Z.tr_tup, Y.Z.tr_lst, Y.Z.refL_lst, Y.Z.getO_lst, Y.Z.r_ref, Y.Z.lstOf_ref, Y.Z.len_ref, Y.Z.tup_ref, Y.Z.lst_ref, Y.Z.w_ref, Y.Z.we_ref, Y.Z.cut_ref, Y.Z.tr_ref, Y.Z.s_ref, Y.Z.so_lst, Y.Z.a_ref, Y.Z.po_ref, Y.Z.ixN_lit, Y.Z.atI_lit, Y.isD, Y.tyD, Y.subTy, Y.Z.fin_rtc, Y.Z.fin_rta, Y.Z.fin_nx, Y.D.lt, Y.ltL, Y.Z.ltL_ints, Y.Z.still_nil2, Y.Z.still_tup, Y.Z.still_ct, Y.Z.still_rd, Y.Z.still_lst, Y.wipe, Y.Z.blO_some, Y.Z.y_par, Y.Z.y_par3, Y.Z.kPar31_e, Y.Z.kPar32_e, Y.Z.kPar33_e, Y.Z.y_expr, Y.Z.y_ret, Y.Z.y_for, Y.Z.x_while, Y.Z.kAsg_e, Y.Z.kAug3_e, Y.Z.kAug2_e, Y.Z.kAug1_e, Y.Z.kIte_e, Y.Z.kPar2_e, Y.Z.kPar1_e, Y.Z.kExpr_e, Y.Z.kFor_e, Y.Z.kBin1_e, Y.Z.kNeg_e, Y.Z.kCmp2_e, Y.Z.kCmp1_e, Y.Z.kC23_e, Y.Z.kC22_e, Y.Z.kC21_e, Y.Z.kAnd_e, Y.Z.kOr_e, Y.Z.kNot_e, Y.Z.kIfe_e, Y.Z.kTup_e, Y.Z.kLst_e, Y.Z.kDic_e, Y.Z.kIx1_e, Y.Z.kSl2_e, Y.Z.kSl1_e, Y.Z.kCall_e, Y.Z.kCK3_e, Y.Z.kCK2_e, Y.Z.kCK1_e, Y.Z.kApp1_e, Y.Z.kG2_e, Y.Z.kG1_e, Y.Z.lcF3_e, Y.Z.lcF2_e, Y.Z.lcF1_e, Y.Z.kLc_e, Y.Z.lcG1_e, Y.Z.lcH2_e, Y.Z.lcH1_e, Y.Z.kLc2_e, Y.Z.kL2_e, Y.Z.kL1_e, Y.Z.kInt_e, Y.Z.kTru_e, Y.Z.kCp2_e, Y.Z.kCp1_e, Y.Z.kCq3_e, Y.Z.kCq2_e, Y.Z.kCq1_e, Y.Z.kCand_e, Y.Z.kCor_e, Y.Z.kCnot_e, Y.Z.kR2_e, Y.Z.kZ_e, Y.Z.kGx3_e, Y.Z.kGx2_e, Y.Z.kGx1_e, Y.Z.kWh_e, Y.Z.k_len_e, Y.Z.k_tup_e, Y.Z.k_lst_e, Y.Z.k_w_e, Y.Z.k_we_e, Y.Z.k_cut_e, Y.Z.k_tr_e, Y.Z.sK2_e, Y.Z.sK1_e, Y.Z.soK_e, Y.Z.k_ap_e, Y.Z.k_po2_e, Y.Z.k_po_e, ir__law_entry, e1, hsz, hat, hmul, e2, hf]
/-- an element drawn, its entries small -/
theorem sp_lelement (k : Nat) (ss : List Int) (hs : okS ss) (h3 : ss.length ≤ 3) (hw : wid ss ≤ 12) (r st : Stt) (h : StO r st) : ∃ (x : List Int) (st' : Stt), (∀ b, callF tbl glo 100000 (k+3) 27 [.ref 0, .tup (ss.map .int)] b st = .ok (.tup (x.map .int)) st') ∧ StO r st' ∧ x.length = wid ss ∧ nb 7 x := by
  obtain ⟨m, hm1, hm2, hm⟩ : ∃ m : Int, 1 ≤ m ∧ m ≤ 30 ∧ ∀ b st, evE ⟨callF tbl glo 100000 (k+2), glo, 100000⟩ b (.ife (.cp .mem (.cst (.int 5)) (.var 1)) (.cst (.int 2)) (.ife (.cp .mem (.cst (.int 4)) (.var 1)) (.cst (.int 5)) (.cst (.int 30)))) [some (.ref 0), some (.tup (ss.map .int)), none, none] st = .ok (.int m) st := by
    by_cases h5 : (5 : Int) ∈ ss
    · exact ⟨2, by decide, by decide, fun b st => by simp (implicitDefEqProofs := false) [Y.Z.x_nil, Y.Z.x_cons, Y.Z.bind_ok, Y.Z.bind_ex, Y.Z.lift_ok, Y.Z.lift_ex, Y.Z.noEx_ok, Y.Z.seq_nx, Y.Z.seq_rt, Y.Z.seq_bk, Y.Z.seq_ct, Y.Z.seq_ex, Y.Z.kRaise_e, Y.Z.y_raise, Y.Z.y_tryv, Y.Z.tv_nx, Y.Z.tv_rt, Y.Z.tv_ex, Y.hkD, Y.Z.e_fld, Y.Z.fld_e, Y.Z.loop_nx, Y.Z.loop_rt, Y.Z.loop_bk, Y.Z.loop_ct, Y.Z.asT_ok, Y.Z.opt_some, Y.Z.var_some, Y.Z.y_asg, Y.Z.y_aug, Y.Z.y_ite, Y.Z.x_retN, Y.Z.x_brk, Y.Z.x_cnt, Y.Z.x_pass, Y.Z.e_var, Y.Z.e_cst, Y.Z.e_glo, Y.Z.e_bin, Y.Z.e_neg, Y.Z.e_cmp, Y.Z.e_cmp2, Y.Z.e_and, Y.Z.e_or, Y.Z.e_not, Y.Z.e_ife, Y.Z.e_tup, Y.Z.e_lst, Y.Z.e_dic, Y.Z.e_dic0, Y.Z.e_ix, Y.Z.e_sl, Y.Z.e_rev, Y.Z.e_call, Y.Z.e_callK, Y.Z.e_blt, Y.Z.e_isi, Y.Z.e_isq, Y.Z.e_app, Y.Z.e_pop, Y.Z.e_ext, Y.Z.kExt1_e, Y.Z.k_ex_e, Y.Z.k_ex2_e, Y.Z.ex_ref, Y.Z.t_max1, Y.Z.t_min1, Y.Z.e_get2, Y.Z.e_lc, Y.Z.e_lc2, Y.Z.l_nil, Y.Z.l_cons, Y.Z.o_non, Y.Z.o_som, Y.Z.c_val, Y.Z.c_cp, Y.Z.c_cp2, Y.Z.c_and, Y.Z.c_or, Y.Z.c_not, Y.Z.co_non, Y.Z.co_som, Y.Z.i_seq, Y.Z.i_rng1, Y.Z.i_rng2, Y.Z.i_enm, Y.Z.i_zip, Y.Z.g_nm, Y.Z.g_tup, Y.Z.g_ct, Y.Z.g_ix, Y.Z.gs_nil, Y.Z.gs_cons, Y.Z.b_add, Y.Z.b_sub, Y.Z.b_mul, Y.Z.b_div, Y.Z.b_mod, Y.Z.b_pow, Y.Z.b_tup, Y.Z.b_lst, Y.Z.b_mulL, Y.Z.c_lt, Y.Z.c_le, Y.Z.c_gt, Y.Z.c_ge, Y.Z.c_eq, Y.Z.c_ne, Y.Z.c_isN, Y.Z.c_notN, Y.Z.c_isB, Y.Z.c_notB, Y.isNon, Y.Z.newL_f, Y.Z.newL_t, Y.Z.t_len, Y.Z.t_sum, Y.Z.t_any, Y.Z.t_all, Y.Z.t_abs, Y.Z.t_min, Y.Z.t_max, Y.Z.t_tuple, Y.Z.t_list, Y.Z.t_int, Y.Z.t_repr, Y.Z.t_str, Y.Z.st_str, Y.Z.st_int, Y.Z.st_tup, Y.Z.len_tup, Y.Z.len_lst, Y.Z.len_rd, Y.Z.len_ct, Y.Z.tup_lst, Y.Z.tup_tup, Y.Z.tup_ct, Y.Z.lst_lst, Y.Z.lst_tup, Y.Z.sum_ints, Y.Z.sum_ints', Y.Z.w_tup, Y.Z.w_lst, Y.Z.w_rd, Y.Z.w_ct, Y.Z.we_tup, Y.Z.we_lst, Y.Z.we_ct, Y.Z.wz_tl, Y.Z.wz_ll, Y.Z.wz_tt, Y.Z.r_tup, Y.Z.r_lst, Y.Z.r_rd, Y.Z.r_ct, Y.Z.cut_tup, Y.Z.cut_lst, Y.Z.cut_rd, Y.Z.rev_tup, Y.Z.tr_bl, Y.Z.tr_int, Y.Z.tr_tup, Y.Z.tr_lst, Y.Z.refL_lst, Y.Z.getO_lst, Y.Z.r_ref, Y.Z.lstOf_ref, Y.Z.len_ref, Y.Z.tup_ref, Y.Z.lst_ref, Y.Z.w_ref, Y.Z.we_ref, Y.Z.cut_ref, Y.Z.tr_ref, Y.Z.s_ref, Y.Z.so_lst, Y.Z.a_ref, Y.Z.po_ref, Y.Z.ixN_lit, Y.Z.atI_lit, Y.isD, Y.tyD, Y.subTy, Y.Z.fin_rtc, Y.Z.fin_rta, Y.Z.fin_nx, Y.D.lt, Y.ltL, Y.Z.ltL_ints, Y.Z.still_nil2, Y.Z.still_tup, Y.Z.still_ct, Y.Z.still_rd, Y.Z.still_lst, Y.wipe, Y.Z.blO_some, Y.Z.y_par, Y.Z.y_par3, Y.Z.kPar31_e, Y.Z.kPar32_e, Y.Z.kPar33_e, Y.Z.y_expr, Y.Z.y_ret, Y.Z.y_for, Y.Z.x_while, Y.Z.kAsg_e, Y.Z.kAug3_e, Y.Z.kAug2_e, Y.Z.kAug1_e, Y.Z.kIte_e, Y.Z.kPar2_e, Y.Z.kPar1_e, Y.Z.kExpr_e, Y.Z.kFor_e, Y.Z.kBin1_e, Y.Z.kNeg_e, Y.Z.kCmp2_e, Y.Z.kCmp1_e, Y.Z.kC23_e, Y.Z.kC22_e, Y.Z.kC21_e, Y.Z.kAnd_e, Y.Z.kOr_e, Y.Z.kNot_e, Y.Z.kIfe_e, Y.Z.kTup_e, Y.Z.kLst_e, Y.Z.kDic_e, Y.Z.kIx1_e, Y.Z.kSl2_e, Y.Z.kSl1_e, Y.Z.kCall_e, Y.Z.kCK3_e, Y.Z.kCK2_e, Y.Z.kCK1_e, Y.Z.kApp1_e, Y.Z.kG2_e, Y.Z.kG1_e, Y.Z.lcF3_e, Y.Z.lcF2_e, Y.Z.lcF1_e, Y.Z.kLc_e, Y.Z.lcG1_e, Y.Z.lcH2_e, Y.Z.lcH1_e, Y.Z.kLc2_e, Y.Z.kL2_e, Y.Z.kL1_e, Y.Z.kInt_e, Y.Z.kTru_e, Y.Z.kCp2_e, Y.Z.kCp1_e, Y.Z.kCq3_e, Y.Z.kCq2_e, Y.Z.kCq1_e, Y.Z.kCand_e, Y.Z.kCor_e, Y.Z.kCnot_e, Y.Z.kR2_e, Y.Z.kZ_e, Y.Z.kGx3_e, Y.Z.kGx2_e, Y.Z.kGx1_e, Y.Z.kWh_e, Y.Z.k_len_e, Y.Z.k_tup_e, Y.Z.k_lst_e, Y.Z.k_w_e, Y.Z.k_we_e, Y.Z.k_cut_e, Y.Z.k_tr_e, Y.Z.sK2_e, Y.Z.sK1_e, Y.Z.soK_e, Y.Z.k_ap_e, Y.Z.k_po2_e, Y.Z.k_po_e, c_mem, h5]⟩
    · by_cases h4 : (4 : Int) ∈ ss
      · exact ⟨5, by decide, by decide, fun b st => by simp (implicitDefEqProofs := false) [Y.Z.x_nil, Y.Z.x_cons, Y.Z.bind_ok, Y.Z.bind_ex, Y.Z.lift_ok, Y.Z.lift_ex, Y.Z.noEx_ok, Y.Z.seq_nx, Y.Z.seq_rt, Y.Z.seq_bk, Y.Z.seq_ct, Y.Z.seq_ex, Y.Z.kRaise_e, Y.Z.y_raise, Y.Z.y_tryv, Y.Z.tv_nx, Y.Z.tv_rt, Y.Z.tv_ex, Y.hkD, Y.Z.e_fld, Y.Z.fld_e, Y.Z.loop_nx, Y.Z.loop_rt, Y.Z.loop_bk, Y.Z.loop_ct, Y.Z.asT_ok, Y.Z.opt_some, Y.Z.var_some, Y.Z.y_asg, Y.Z.y_aug, Y.Z.y_ite, Y.Z.x_retN, Y.Z.x_brk, Y.Z.x_cnt, Y.Z.x_pass, Y.Z.e_var, Y.Z.e_cst, Y.Z.e_glo, Y.Z.e_bin, Y.Z.e_neg, Y.Z.e_cmp, Y.Z.e_cmp2, Y.Z.e_and, Y.Z.e_or, Y.Z.e_not, Y.Z.e_ife, Y.Z.e_tup, Y.Z.e_lst, Y.Z.e_dic, Y.Z.e_dic0, Y.Z.e_ix, Y.Z.e_sl, Y.Z.e_rev, Y.Z.e_call, Y.Z.e_callK, Y.Z.e_blt, Y.Z.e_isi, Y.Z.e_isq, Y.Z.e_app, Y.Z.e_pop, Y.Z.e_ext, Y.Z.kExt1_e, Y.Z.k_ex_e, Y.Z.k_ex2_e, Y.Z.ex_ref, Y.Z.t_max1, Y.Z.t_min1, Y.Z.e_get2, Y.Z.e_lc, Y.Z.e_lc2, Y.Z.l_nil, Y.Z.l_cons, Y.Z.o_non, Y.Z.o_som, Y.Z.c_val, Y.Z.c_cp, Y.Z.c_cp2, Y.Z.c_and, Y.Z.c_or, Y.Z.c_not, Y.Z.co_non, Y.Z.co_som, Y.Z.i_seq, Y.Z.i_rng1, Y.Z.i_rng2, Y.Z.i_enm, Y.Z.i_zip, Y.Z.g_nm, Y.Z.g_tup, Y.Z.g_ct, Y.Z.g_ix, Y.Z.gs_nil, Y.Z.gs_cons, Y.Z.b_add, Y.Z.b_sub, Y.Z.b_mul, Y.Z.b_div, Y.Z.b_mod, Y.Z.b_pow, Y.Z.b_tup, Y.Z.b_lst, Y.Z.b_mulL, Y.Z.c_lt, Y.Z.c_le, Y.Z.c_gt, Y.Z.c_ge, Y.Z.c_eq, Y.Z.c_ne, Y.Z.c_isN, Y.Z.c_notN, Y.Z.c_isB, Y.Z.c_notB, Y.isNon, Y.Z.newL_f, Y.Z.newL_t, Y.Z.t_len, Y.Z.t_sum, Y.Z.t_any, Y.Z.t_all, Y.Z.t_abs, Y.Z.t_min, Y.Z.t_max, Y.Z.t_tuple, Y.Z.t_list, Y.Z.t_int, Y.Z.t_repr, Y.Z.t_str, Y.Z.st_str, Y.Z.st_int, Y.Z.st_tup, Y.Z.len_tup, Y.Z.len_lst, Y.Z.len_rd, Y.Z.len_ct, Y.Z.tup_lst, Y.Z.tup_tup, Y.Z.tup_ct, Y.Z.lst_lst, Y.Z.lst_tup, Y.Z.sum_ints, Y.Z.sum_ints', Y.Z.w_tup, Y.Z.w_lst, Y.Z.w_rd, Y.Z.w_ct, Y.Z.we_tup, Y.Z.we_lst, Y.Z.we_ct, Y.Z.wz_tl, Y.Z.wz_ll, Y.Z.wz_tt, Y.Z.r_tup, Y.Z.r_lst, Y.Z.r_rd, Y.Z.r_ct, Y.Z.cut_tup, Y.Z.cut_lst, Y.Z.cut_rd, Y.Z.rev_tup, Y.Z.tr_bl, Y.Z.tr_int, Y.Z.tr_tup, Y.Z.tr_lst, Y.Z.refL_lst, Y.Z.getO_lst, Y.Z.r_ref, Y.Z.lstOf_ref, Y.Z.len_ref, Y.Z.tup_ref, Y.Z.lst_ref, Y.Z.w_ref, Y.Z.we_ref, Y.Z.cut_ref, Y.Z.tr_ref, Y.Z.s_ref, Y.Z.so_lst, Y.Z.a_ref, Y.Z.po_ref, Y.Z.ixN_lit, Y.Z.atI_lit, Y.isD, Y.tyD, Y.subTy, Y.Z.fin_rtc, Y.Z.fin_rta, Y.Z.fin_nx, Y.D.lt, Y.ltL, Y.Z.ltL_ints, Y.Z.still_nil2, Y.Z.still_tup, Y.Z.still_ct, Y.Z.still_rd, Y.Z.still_lst, Y.wipe, Y.Z.blO_some, Y.Z.y_par, Y.Z.y_par3, Y.Z.kPar31_e, Y.Z.kPar32_e, Y.Z.kPar33_e, Y.Z.y_expr, Y.Z.y_ret, Y.Z.y_for, Y.Z.x_while, Y.Z.kAsg_e, Y.Z.kAug3_e, Y.Z.kAug2_e, Y.Z.kAug1_e, Y.Z.kIte_e, Y.Z.kPar2_e, Y.Z.kPar1_e, Y.Z.kExpr_e, Y.Z.kFor_e, Y.Z.kBin1_e, Y.Z.kNeg_e, Y.Z.kCmp2_e, Y.Z.kCmp1_e, Y.Z.kC23_e, Y.Z.kC22_e, Y.Z.kC21_e, Y.Z.kAnd_e, Y.Z.kOr_e, Y.Z.kNot_e, Y.Z.kIfe_e, Y.Z.kTup_e, Y.Z.kLst_e, Y.Z.kDic_e, Y.Z.kIx1_e, Y.Z.kSl2_e, Y.Z.kSl1_e, Y.Z.kCall_e, Y.Z.kCK3_e, Y.Z.kCK2_e, Y.Z.kCK1_e, Y.Z.kApp1_e, Y.Z.kG2_e, Y.Z.kG1_e, Y.Z.lcF3_e, Y.Z.lcF2_e, Y.Z.lcF1_e, Y.Z.kLc_e, Y.Z.lcG1_e, Y.Z.lcH2_e, Y.Z.lcH1_e, Y.Z.kLc2_e, Y.Z.kL2_e, Y.Z.kL1_e, Y.Z.kInt_e, Y.Z.kTru_e, Y.Z.kCp2_e, Y.Z.kCp1_e, Y.Z.kCq3_e, Y.Z.kCq2_e, Y.Z.kCq1_e, Y.Z.kCand_e, Y.Z.kCor_e, Y.Z.kCnot_e, Y.Z.kR2_e, Y.Z.kZ_e, Y.Z.kGx3_e, Y.Z.kGx2_e, Y.Z.kGx1_e, Y.Z.kWh_e, Y.Z.k_len_e, Y.Z.k_tup_e, Y.Z.k_lst_e, Y.Z.k_w_e, Y.Z.k_we_e, Y.Z.k_cut_e, Y.Z.k_tr_e, Y.Z.sK2_e, Y.Z.sK1_e, Y.Z.soK_e, Y.Z.k_ap_e, Y.Z.k_po2_e, Y.Z.k_po_e, c_mem, h5, h4]⟩
      · exact ⟨30, by decide, by decide, fun b st => by simp (implicitDefEqProofs := false) [Y.Z.x_nil, Y.Z.x_cons, Y.Z.bind_ok, Y.Z.bind_ex, Y.Z.lift_ok, Y.Z.lift_ex, Y.Z.noEx_ok, Y.Z.seq_nx, Y.Z.seq_rt, Y.Z.seq_bk, Y.Z.seq_ct, Y.Z.seq_ex, Y.Z.kRaise_e, Y.Z.y_raise, Y.Z.y_tryv, Y.Z.tv_nx, Y.Z.tv_rt, Y.Z.tv_ex, Y.hkD, Y.Z.e_fld, Y.Z.fld_e, Y.Z.loop_nx, Y.Z.loop_rt, Y.Z.loop_bk, Y.Z.loop_ct, Y.Z.asT_ok, Y.Z.opt_some, Y.Z.var_some, Y.Z.y_asg, Y.Z.y_aug, Y.Z.y_ite, Y.Z.x_retN, Y.Z.x_brk, Y.Z.x_cnt, Y.Z.x_pass, Y.Z.e_var, Y.Z.e_cst, Y.Z.e_glo, Y.Z.e_bin, Y.Z.e_neg, Y.Z.e_cmp, Y.Z.e_cmp2, Y.Z.e_and, Y.Z.e_or, Y.Z.e_not, Y.Z.e_ife, Y.Z.e_tup, Y.Z.e_lst, Y.Z.e_dic, Y.Z.e_dic0, Y.Z.e_ix, Y.Z.e_sl, Y.Z.e_rev, Y.Z.e_call, Y.Z.e_callK, Y.Z.e_blt, Y.Z.e_isi, Y.Z.e_isq, Y.Z.e_app, Y.Z.e_pop, Y.Z.e_ext, Y.Z.kExt1_e, Y.Z.k_ex_e, Y.Z.k_ex2_e, Y.Z.ex_ref, Y.Z.t_max1, Y.Z.t_min1, Y.Z.e_get2, Y.Z.e_lc, Y.Z.e_lc2, Y.Z.l_nil, Y.Z.l_cons, Y.Z.o_non, Y.Z.o_som, Y.Z.c_val, Y.Z.c_cp, Y.Z.c_cp2, Y.Z.c_and, Y.Z.c_or, Y.Z.c_not, Y.Z.co_non, Y.Z.co_som, Y.Z.i_seq, Y.Z.i_rng1, Y.Z.i_rng2, Y.Z.i_enm, Y.Z.i_zip, Y.Z.g_nm, Y.Z.g_tup, Y.Z.g_ct, Y.Z.g_ix, Y.Z.gs_nil, Y.Z.gs_cons, Y.Z.b_add, Y.Z.b_sub, Y.Z.b_mul, Y.Z.b_div, Y.Z.b_mod, Y.Z.b_pow, Y.Z.b_tup, Y.Z.b_lst, Y.Z.b_mulL, Y.Z.c_lt, Y.Z.c_le, Y.Z.c_gt, Y.Z.c_ge, Y.Z.c_eq, Y.Z.c_ne, Y.Z.c_isN, Y.Z.c_notN, Y.Z.c_isB, Y.Z.c_notB, Y.isNon, Y.Z.newL_f, Y.Z.newL_t, Y.Z.t_len, Y.Z.t_sum, Y.Z.t_any, Y.Z.t_all, Y.Z.t_abs, Y.Z.t_min, Y.Z.t_max, Y.Z.t_tuple, Y.Z.t_list, Y.Z.t_int, Y.Z.t_repr, Y.Z.t_str, Y.Z.st_str, Y.Z.st_int, Y.Z.st_tup, Y.Z.len_tup, Y.Z.len_lst, Y.Z.len_rd, Y.Z.len_ct, Y.Z.tup_lst, Y.Z.tup_tup, Y.Z.tup_ct, Y.Z.lst_lst, Y.Z.lst_tup, Y.Z.sum_ints, Y.Z.sum_ints', Y.Z.w_tup, Y.Z.w_lst, Y.Z.w_rd, Y.Z.w_ct, Y.Z.we_tup, Y.Z.we_lst, Y.Z.we_ct, Y.Z.wz_tl, Y.Z.wz_ll, Y.Z.wz_tt, Y.Z.r_tup, Y.Z.r_lst, Y.Z.r_rd, Y.Z.r_ct, Y.Z.cut_tup, Y.Z.cut_lst, Y.Z.cut_rd, Y.Z.rev_tup, Y.Z.tr_bl, Y.Z.tr_int, Y.Z.tr_tup, Y.Z.tr_lst, Y.Z.refL_lst, Y.Z.getO_lst, Y.Z.r_ref, Y.Z.lstOf_ref, Y.Z.len_ref, Y.Z.tup_ref, Y.Z.lst_ref, Y.Z.w_ref, Y.Z.we_ref, Y.Z.cut_ref, Y.Z.tr_ref, Y.Z.s_ref, Y.Z.so_lst, Y.Z.a_ref, Y.Z.po_ref, Y.Z.ixN_lit, Y.Z.atI_lit, Y.isD, Y.tyD, Y.subTy, Y.Z.fin_rtc, Y.Z.fin_rta, Y.Z.fin_nx, Y.D.lt, Y.ltL, Y.Z.ltL_ints, Y.Z.still_nil2, Y.Z.still_tup, Y.Z.still_ct, Y.Z.still_rd, Y.Z.still_lst, Y.wipe, Y.Z.blO_some, Y.Z.y_par, Y.Z.y_par3, Y.Z.kPar31_e, Y.Z.kPar32_e, Y.Z.kPar33_e, Y.Z.y_expr, Y.Z.y_ret, Y.Z.y_for, Y.Z.x_while, Y.Z.kAsg_e, Y.Z.kAug3_e, Y.Z.kAug2_e, Y.Z.kAug1_e, Y.Z.kIte_e, Y.Z.kPar2_e, Y.Z.kPar1_e, Y.Z.kExpr_e, Y.Z.kFor_e, Y.Z.kBin1_e, Y.Z.kNeg_e, Y.Z.kCmp2_e, Y.Z.kCmp1_e, Y.Z.kC23_e, Y.Z.kC22_e, Y.Z.kC21_e, Y.Z.kAnd_e, Y.Z.kOr_e, Y.Z.kNot_e, Y.Z.kIfe_e, Y.Z.kTup_e, Y.Z.kLst_e, Y.Z.kDic_e, Y.Z.kIx1_e, Y.Z.kSl2_e, Y.Z.kSl1_e, Y.Z.kCall_e, Y.Z.kCK3_e, Y.Z.kCK2_e, Y.Z.kCK1_e, Y.Z.kApp1_e, Y.Z.kG2_e, Y.Z.kG1_e, Y.Z.lcF3_e, Y.Z.lcF2_e, Y.Z.lcF1_e, Y.Z.kLc_e, Y.Z.lcG1_e, Y.Z.lcH2_e, Y.Z.lcH1_e, Y.Z.kLc2_e, Y.Z.kL2_e, Y.Z.kL1_e, Y.Z.kInt_e, Y.Z.kTru_e, Y.Z.kCp2_e, Y.Z.kCp1_e, Y.Z.kCq3_e, Y.Z.kCq2_e, Y.Z.kCq1_e, Y.Z.kCand_e, Y.Z.kCor_e, Y.Z.kCnot_e, Y.Z.kR2_e, Y.Z.kZ_e, Y.Z.kGx3_e, Y.Z.kGx2_e, Y.Z.kGx1_e, Y.Z.kWh_e, Y.Z.k_len_e, Y.Z.k_tup_e, Y.Z.k_lst_e, Y.Z.k_w_e, Y.Z.k_we_e, Y.Z.k_cut_e, Y.Z.k_tr_e, Y.Z.sK2_e, Y.Z.sK1_e, Y.Z.soK_e, Y.Z.k_ap_e, Y.Z.k_po2_e, Y.Z.k_po_e, c_mem, h5, h4]⟩
  have hwd := fun b st => sp_lwidth (k+1) ss hs h3 b st
  have hsm : small (wid ss : Int) = true := by simp [small]; omega
  have hz : wid ss ≤ sz := Nat.le_trans hw (by decide)
  obtain ⟨x, st1, e1, h1, l1, q1⟩ := lcA_st (src := []) (f := lcF ⟨callF tbl glo 100000 (k+2), glo, 100000⟩ st.length (.nm 3) [3] [some (.ref 0), some (.tup (ss.map .int)), some (.int m), none] .non (.call 26 (.cons (.var 0) (.cons (.var 2) .nil)) [])) (StO r) (ub 7) D.int (fun _ _ => rfl) (rngL 0 (wid ss)) [] st h (fun d hd acc st hst ha => by
    obtain ⟨i, st', e, h', i1, i2⟩ := sp_lentry k m hm1 (by omega) r st hst
    refine ⟨i, st', ?_, h', ?_⟩
    · simp (implicitDefEqProofs := false) [Y.Z.x_nil, Y.Z.x_cons, Y.Z.bind_ok, Y.Z.bind_ex, Y.Z.lift_ok, Y.Z.lift_ex, Y.Z.noEx_ok, Y.Z.seq_nx, Y.Z.seq_rt, Y.Z.seq_bk, Y.Z.seq_ct, Y.Z.seq_ex, Y.Z.kRaise_e, Y.Z.y_raise, Y.Z.y_tryv, Y.Z.tv_nx, Y.Z.tv_rt, Y.Z.tv_ex, Y.hkD, Y.Z.e_fld, Y.Z.fld_e, Y.Z.loop_nx, Y.Z.loop_rt, Y.Z.loop_bk, Y.Z.loop_ct, Y.Z.asT_ok, Y.Z.opt_some, Y.Z.var_some, Y.Z.y_asg, Y.Z.y_aug, Y.Z.y_ite, Y.Z.x_retN, Y.Z.x_brk, Y.Z.x_cnt, Y.Z.x_pass, Y.Z.e_var, Y.Z.e_cst, Y.Z.e_glo, Y.Z.e_bin, Y.Z.e_neg, Y.Z.e_cmp, Y.Z.e_cmp2, Y.Z.e_and, Y.Z.e_or, Y.Z.e_not, Y.Z.e_ife, Y.Z.e_tup, Y.Z.e_lst, Y.Z.e_dic, Y.Z.e_dic0, Y.Z.e_ix, Y.Z.e_sl, Y.Z.e_rev, Y.Z.e_call, Y.Z.e_callK, Y.Z.e_blt, Y.Z.e_isi, Y.Z.e_isq, Y.Z.e_app, Y.Z.e_pop, Y.Z.e_ext, Y.Z.kExt1_e, Y.Z.k_ex_e, Y.Z.k_ex2_e, Y.Z.ex_ref, Y.Z.t_max1, Y.Z.t_min1, Y.Z.e_get2, Y.Z.e_lc, Y.Z.e_lc2, Y.Z.l_nil, Y.Z.l_cons, Y.Z.o_non, Y.Z.o_som, Y.Z.c_val, Y.Z.c_cp, Y.Z.c_cp2, Y.Z.c_and, Y.Z.c_or, Y.Z.c_not, Y.Z.co_non, Y.Z.co_som, Y.Z.i_seq, Y.Z.i_rng1, Y.Z.i_rng2, Y.Z.i_enm, Y.Z.i_zip, Y.Z.g_nm, Y.Z.g_tup, Y.Z.g_ct, Y.Z.g_ix, Y.Z.gs_nil, Y.Z.gs_cons, Y.Z.b_add, Y.Z.b_sub, Y.Z.b_mul, Y.Z.b_div, Y.Z.b_mod, Y.Z.b_pow, Y.Z.b_tup, Y.Z.b_lst, Y.Z.b_mulL, Y.Z.c_lt, Y.Z.c_le, Y.Z.c_gt, Y.Z.c_ge, Y.Z.c_eq, Y.Z.c_ne, Y.Z.c_isN, Y.Z.c_notN, Y.Z.c_isB, Y.Z.c_notB, Y.isNon, Y.Z.newL_f, Y.Z.newL_t, Y.Z.t_len, Y.Z.t_sum, Y.Z.t_any, Y.Z.t_all, Y.Z.t_abs, Y.Z.t_min, Y.Z.t_max, Y.Z.t_tuple, Y.Z.t_list, Y.Z.t_int, Y.Z.t_repr, Y.Z.t_str, Y.Z.st_str, Y.Z.st_int, Y.Z.st_tup, Y.Z.len_tup, Y.Z.len_lst, Y.Z.len_rd, Y.Z.len_ct, Y.Z.tup_lst, Y.Z.tup_tup, Y.Z.tup_ct, Y.Z.lst_lst, Y.Z.lst_tup, Y.Z.sum_ints, Y.Z.sum_ints', Y.Z.w_tup, Y.Z.w_lst, Y.Z.w_rd, Y.Z.w_ct, Y.Z.we_tup, Y.Z.we_lst, Y.Z.we_ct, Y.Z.wz_tl, Y.Z.wz_ll, Y.Z.wz_tt, Y.Z.r_tup, Y.Z.r_lst, Y.Z.r_rd, Y.Z.r_ct, Y.Z.cut_tup, Y.Z.cut_lst, Y.Z.cut_rd, Y.Z.rev_tup, Y.Z.tr_bl, Y.Z.tr_int, Y.Z.tr_tup, Y.Z.tr_lst, Y.Z.refL_lst, Y.Z.getO_lst, Y.Z.r_ref, Y.Z.lstOf_ref, Y.Z.len_ref, Y.Z.tup_ref, Y.Z.lst_ref, Y.Z.w_ref, Y.Z.we_ref, Y.Z.cut_ref, Y.Z.tr_ref, Y.Z.s_ref, Y.Z.so_lst, Y.Z.a_ref, Y.Z.po_ref, Y.Z.ixN_lit, Y.Z.atI_lit, Y.isD, Y.tyD, Y.subTy, Y.Z.fin_rtc, Y.Z.fin_rta, Y.Z.fin_nx, Y.D.lt, Y.ltL, Y.Z.ltL_ints, Y.Z.still_nil2, Y.Z.still_tup, Y.Z.still_ct, Y.Z.still_rd, Y.Z.still_lst, Y.wipe, Y.Z.blO_some, Y.Z.y_par, Y.Z.y_par3, Y.Z.kPar31_e, Y.Z.kPar32_e, Y.Z.kPar33_e, Y.Z.y_expr, Y.Z.y_ret, Y.Z.y_for, Y.Z.x_while, Y.Z.kAsg_e, Y.Z.kAug3_e, Y.Z.kAug2_e, Y.Z.kAug1_e, Y.Z.kIte_e, Y.Z.kPar2_e, Y.Z.kPar1_e, Y.Z.kExpr_e, Y.Z.kFor_e, Y.Z.kBin1_e, Y.Z.kNeg_e, Y.Z.kCmp2_e, Y.Z.kCmp1_e, Y.Z.kC23_e, Y.Z.kC22_e, Y.Z.kC21_e, Y.Z.kAnd_e, Y.Z.kOr_e, Y.Z.kNot_e, Y.Z.kIfe_e, Y.Z.kTup_e, Y.Z.kLst_e, Y.Z.kDic_e, Y.Z.kIx1_e, Y.Z.kSl2_e, Y.Z.kSl1_e, Y.Z.kCall_e, Y.Z.kCK3_e, Y.Z.kCK2_e, Y.Z.kCK1_e, Y.Z.kApp1_e, Y.Z.kG2_e, Y.Z.kG1_e, Y.Z.lcF3_e, Y.Z.lcF2_e, Y.Z.lcF1_e, Y.Z.kLc_e, Y.Z.lcG1_e, Y.Z.lcH2_e, Y.Z.lcH1_e, Y.Z.kLc2_e, Y.Z.kL2_e, Y.Z.kL1_e, Y.Z.kInt_e, Y.Z.kTru_e, Y.Z.kCp2_e, Y.Z.kCp1_e, Y.Z.kCq3_e, Y.Z.kCq2_e, Y.Z.kCq1_e, Y.Z.kCand_e, Y.Z.kCor_e, Y.Z.kCnot_e, Y.Z.kR2_e, Y.Z.kZ_e, Y.Z.kGx3_e, Y.Z.kGx2_e, Y.Z.kGx1_e, Y.Z.kWh_e, Y.Z.k_len_e, Y.Z.k_tup_e, Y.Z.k_lst_e, Y.Z.k_w_e, Y.Z.k_we_e, Y.Z.k_cut_e, Y.Z.k_tr_e, Y.Z.sK2_e, Y.Z.sK1_e, Y.Z.soK_e, Y.Z.k_ap_e, Y.Z.k_po2_e, Y.Z.k_po_e, lcF, push, e, ha]
    · unfold ub
      omega) (by rw [rngL_len]; simpa using hz)
  rw [rngL_len] at l1
  refine ⟨x, st1, fun b => ?_, h1, l1, q1⟩
  rw [en__law_element]
  have hf := fin_st h h1 (.tup (x.map .int)) (by simp [D.lt, ltL_ints])
  rw [List.nil_append] at e1
  unfold ir__law_element
  rw [x_cons, y_asg]
  simp only [hm]
  simp (implicitDefEqProofs := false) [Y.Z.x_nil, Y.Z.x_cons, Y.Z.bind_ok, Y.Z.bind_ex, Y.Z.lift_ok, Y.Z.lift_ex, Y.Z.noEx_ok, Y.Z.seq_nx, Y.Z.seq_rt, Y.Z.seq_bk, Y.Z.seq_ct, Y.Z.seq_ex, Y.Z.kRaise_e, Y.Z.y_raise, Y.Z.y_tryv, Y.Z.tv_nx, Y.Z.tv_rt, Y.Z.tv_ex, Y.hkD, Y.Z.e_fld, Y.Z.fld_e, Y.Z.loop_nx, Y.Z.loop_rt, Y.Z.loop_bk, Y.Z.loop_ct, Y.Z.asT_ok, Y.Z.opt_some, Y.Z.var_some, Y.Z.y_asg, Y.Z.y_aug, Y.Z.y_ite, Y.Z.x_retN, Y.Z.x_brk, Y.Z.x_cnt, Y.Z.x_pass, Y.Z.e_var, Y.Z.e_cst, Y.Z.e_glo, Y.Z.e_bin, Y.Z.e_neg, Y.Z.e_cmp, Y.Z.e_cmp2, Y.Z.e_and, Y.Z.e_or, Y.Z.e_not, Y.Z.e_ife, Y.Z.e_tup, Y.Z.e_lst, Y.Z.e_dic, Y.Z.e_dic0, Y.Z.e_ix, Y.Z.e_sl, Y.Z.e_rev, Y.Z.e_call, Y.Z.e_callK, Y.Z.e_blt, Y.Z.e_isi, Y.Z.e_isq, Y.Z.e_app, Y.Z.e_pop, Y.Z.e_ext, Y.Z.kExt1_e, Y.Z.k_ex_e, Y.Z.k_ex2_e, Y.Z.ex_ref, Y.Z.t_max1, Y.Z.t_min1, Y.Z.e_get2, Y.Z.e_lc, Y.Z.e_lc2, Y.Z.l_nil, Y.Z.l_cons, Y.Z.o_non, Y.Z.o_som, Y.Z.c_val, Y.Z.c_cp, Y.Z.c_cp2, Y.Z.c_and, Y.Z.c_or, Y.Z.c_not, Y.Z.co_non, Y.Z.co_som, Y.Z.i_seq, Y.Z.i_rng1, Y.Z.i_rng2, Y.Z.i_enm, Y.Z.i_zip, Y.Z.g_nm, Y.Z.g_tup, Y.Z.g_ct, Y.Z.g_ix, Y.Z.gs_nil, Y.Z.gs_cons, Y.Z.b_add, Y.Z.b_sub, Y.Z.b_mul, Y.Z.b_div, Y.Z.b_mod, Y.Z.b_pow, Y.Z.b_tup, Y.Z.b_lst, Y.Z.b_mulL, Y.Z.c_lt, Y.Z.c_le, Y.Z.c_gt, Y.Z.c_ge, Y.Z.c_eq, Y.Z.c_ne, Y.Z.c_isN, Y.Z.c_notN, Y.Z.c_isB, Y.Z.c_notB, Y.isNon, Y.Z.newL_f, Y.Z.newL_t, Y.Z.t_len, Y.Z.t_sum, Y.Z.t_any, Y.Z.t_all, Y.Z.t_abs, Y.Z.t_min, Y.Z.t_max, Y.Z.t_tuple, Y.Z.t_list, Y.Z.t_int, Y.Z.t_repr, Y.Z.t_str, Y.Z.st_str, Y.Z.st_int, Y.Z.st_tup, Y.Z.len_tup, Y.Z.len_lst, Y.Z.len_rd, Y.Z.len_ct, Y.Z.tup_lst, Y.Z.tup_tup, Y.Z.tup_ct, Y.Z.lst_lst, Y.Z.lst_tup, Y.Z.sum_ints, Y.Z.sum_ints', Y.Z.w_tup, Y.Z.w_lst, Y.Z.w_rd, Y.Z.w_ct, Y.Z.we_tup, Y.Z.we_lst, Y.Z.we_ct, Y.Z.wz_tl, Y.Z.wz_ll, Y.Z.wz_tt, Y.Z.r_tup, Y.Z.r_lst, Y.Z.r_rd, Y.Z.r_ct, Y.Z.cut_tup, Y.Z.cut_lst, Y.Z.cut_rd, Y.Z.rev_tup, Y.Z.tr_bl, Y.Z.tr_int, Y.Z.tr_tup, Y.Z.tr_lst, Y.Z.refL_lst, Y.Z.getO_lst, Y.Z.r_ref, Y.Z.lstOf_ref, Y.Z.len_ref, Y.Z.tup_ref, Y.Z.lst_ref, Y.Z.w_ref, Y.Z.we_ref, Y.Z.cut_ref, Y.Z.tr_ref, Y.Z.s_ref, Y.Z.so_lst, Y.Z.a_ref, Y.Z.po_ref, Y.Z.ixN_lit, Y.Z.atI_lit, Y.isD, Y.tyD, Y.subTy, Y.Z.fin_rtc, Y.Z.fin_rta, Y.Z.fin_nx, Y.D.lt, Y.ltL, Y.Z.ltL_ints, Y.Z.still_nil2, Y.Z.still_tup, Y.Z.still_ct, Y.Z.still_rd, Y.Z.still_lst, Y.wipe, Y.Z.blO_some, Y.Z.y_par, Y.Z.y_par3, Y.Z.kPar31_e, Y.Z.kPar32_e, Y.Z.kPar33_e, Y.Z.y_expr, Y.Z.y_ret, Y.Z.y_for, Y.Z.x_while, Y.Z.kAsg_e, Y.Z.kAug3_e, Y.Z.kAug2_e, Y.Z.kAug1_e, Y.Z.kIte_e, Y.Z.kPar2_e, Y.Z.kPar1_e, Y.Z.kExpr_e, Y.Z.kFor_e, Y.Z.kBin1_e, Y.Z.kNeg_e, Y.Z.kCmp2_e, Y.Z.kCmp1_e, Y.Z.kC23_e, Y.Z.kC22_e, Y.Z.kC21_e, Y.Z.kAnd_e, Y.Z.kOr_e, Y.Z.kNot_e, Y.Z.kIfe_e, Y.Z.kTup_e, Y.Z.kLst_e, Y.Z.kDic_e, Y.Z.kIx1_e, Y.Z.kSl2_e, Y.Z.kSl1_e, Y.Z.kCall_e, Y.Z.kCK3_e, Y.Z.kCK2_e, Y.Z.kCK1_e, Y.Z.kApp1_e, Y.Z.kG2_e, Y.Z.kG1_e, Y.Z.lcF3_e, Y.Z.lcF2_e, Y.Z.lcF1_e, Y.Z.kLc_e, Y.Z.lcG1_e, Y.Z.lcH2_e, Y.Z.lcH1_e, Y.Z.kLc2_e, Y.Z.kL2_e, Y.Z.kL1_e, Y.Z.kInt_e, Y.Z.kTru_e, Y.Z.kCp2_e, Y.Z.kCp1_e, Y.Z.kCq3_e, Y.Z.kCq2_e, Y.Z.kCq1_e, Y.Z.kCand_e, Y.Z.kCor_e, Y.Z.kCnot_e, Y.Z.kR2_e, Y.Z.kZ_e, Y.Z.kGx3_e, Y.Z.kGx2_e, Y.Z.kGx1_e, Y.Z.kWh_e, Y.Z.k_len_e, Y.Z.k_tup_e, Y.Z.k_lst_e, Y.Z.k_w_e, Y.Z.k_we_e, Y.Z.k_cut_e, Y.Z.k_tr_e, Y.Z.sK2_e, Y.Z.sK1_e, Y.Z.soK_e, Y.Z.k_ap_e, Y.Z.k_po2_e, Y.Z.k_po_e, hwd, w_rng1, hsm, e1, hf]
end LW

namespace LW
open PySem Y Y.Z
theorem all_isI (x : List Int) : (x.map D.int).all isI = true := by simp [List.all_map, Function.comp_def, isI]
theorem sm_ints (x : List Int) : ∀ d ∈ x.map D.int, sm d = true := by
  intro d hd
  obtain ⟨i, _, rfl⟩ := List.mem_map.mp hd
  rfl
theorem cut1 (xs : List D) (i : Nat) : cut xs (some ((i : Int) + 1)) none = xs.drop (i + 1) := cut_hi xs (i + 1)
/-- what is no int -/
structure OthI (d : D) : Prop where
  sm : sm d = true
  no : isI d = false
  lt : d.lt 0 = true
  pb : PB d 3000 2
theorem oth5 (j : Int) (h0 : 0 ≤ j) (h1 : j < 5) : ∃ O, L2.atI [D.bl true, D.non, D.str "1", D.tup [.int 1], D.lst [.int 1]] j = some O ∧ OthI O := by
  have pi : PB (.int 1) 1921 0 := PB.int (by decide)
  have ps : PBs [D.int 1] 1923 0 := (PBs.cons pi PBs.nil (b := 0)).mono (by omega) (Nat.le_refl _)
  have : j = 0 ∨ j = 1 ∨ j = 2 ∨ j = 3 ∨ j = 4 := by omega
  rcases this with rfl | rfl | rfl | rfl | rfl
  · exact ⟨_, rfl, rfl, rfl, rfl, ⟨⟨5, rfl, by omega⟩, by decide⟩⟩
  · exact ⟨_, rfl, rfl, rfl, rfl, ⟨⟨4, rfl, by omega⟩, by decide⟩⟩
  · exact ⟨_, rfl, rfl, rfl, rfl, (PB.str (sOk_of "1")).mono (by decide +kernel) (by omega)⟩
  · exact ⟨_, rfl, rfl, rfl, rfl, (PB.tup ps).mono (by omega) (by omega)⟩
  · exact ⟨_, rfl, rfl, rfl, rfl, (PB.lst ps).mono (by omega) (by omega)⟩
/-- a value that is no element of n places, its text not too long -/
structure BadE (n : Nat) (e : D) : Prop where
  sm : smA e
  no : elB n e = false
  lt : e.lt 0 = true
  pb : PB e 400000 5
theorem sp_bad_element (k : Nat) (x : List Int) (h1 : 1 ≤ x.length) (h12 : x.length ≤ 12) (hx : ∀ i ∈ x, i.natAbs.log2 < 1920) (st : Stt) (h : StO [] st) :
    ∃ e st', (∀ b, callF tbl glo 100000 (k+2) 30 [.ref 0, .tup (x.map .int)] b st = .ok e st') ∧ StO [] st' ∧ BadE x.length e := by
  obtain ⟨j, st1, e1, g1, j0, j1⟩ := dr k x.length (by omega) (by omega) [] st h
  obtain ⟨i, rfl⟩ : ∃ i : Nat, j = (i : Int) := ⟨j.toNat, by omega⟩
  obtain ⟨j2, st2, e2, g2, j20, j25⟩ := dr k 5 (by decide) (by decide) [] st1 g1
  obtain ⟨O, eO, hO⟩ := oth5 j2 j20 j25
  obtain ⟨j3, st3, e3, g3, j30, j38⟩ := dr k 8 (by decide) (by decide) [] st2 g2
  have pX := PBs.ints hx
  have pX' : PBs (x.map .int) 30000 0 := pX.mono (by omega) (Nat.le_refl _)
  have hi : i < x.length := by omega
  have split : x.map D.int = (x.map D.int).take i ++ (x.map D.int).drop i := (List.take_append_drop i _).symm
  have pL : PBs ((x.map D.int).take i) 30000 0 := (PBs.sub (ds := (x.map D.int).take i) (es := (x.map D.int).drop i) (by rw [← split]; exact pX')).1
  have pH : PBs ((x.map D.int).drop (i + 1)) 30000 0 := (PBs.sub (ds := (x.map D.int).take (i + 1)) (es := (x.map D.int).drop (i + 1)) (by rw [List.take_append_drop]; exact pX')).2
  have pT : PBs ((x.map D.int).drop 1) 30000 0 := (PBs.sub (ds := (x.map D.int).take 1) (es := (x.map D.int).drop 1) (by rw [List.take_append_drop]; exact pX')).2
  have pbt : PB (.tup (x.map .int)) 30003 1 := PB.tup pX'
  obtain ⟨rl, ro⟩ := pbt.rtx (by decide) (by decide)
  have rp := fun st => (repr_plain _ (pbt.plain (by decide) (by decide)) st).1
  have lX : (x.map D.int).length = x.length := List.length_map _
  have aX := all_isI x
  have sX := sm_ints x
  have tX : ltL 0 (x.map D.int) = true := ltL_ints x
  have c1 := cut_lo (x.map D.int) i
  have c2 := cut1 (x.map D.int) i
  have c3 : cut (x.map D.int) (some 1) none = (x.map D.int).drop 1 := cut_hi (x.map D.int) 1
  have e1' : ∀ b, callF tbl glo 100000 (k+1) 23 [.ref 0, .int (x.map D.int).length] b st = .ok (.int i) st1 := by rw [lX]; exact e1
  generalize hX : x.map D.int = X at *
  rw [← lX] at h1 h12 hi ⊢
  have tL : ltL 0 (X.take i) = true := ltL_take X i tX
  have tH : ltL 0 (X.drop (i + 1)) = true := ltL_drop X (i + 1) tX
  have tT : ltL 0 (X.drop 1) = true := ltL_drop X 1 tX
  have sL : ∀ d ∈ X.take i, sm d = true := fun d hd => sX d (List.mem_of_mem_take hd)
  have sH : ∀ d ∈ X.drop (i + 1), sm d = true := fun d hd => sX d (List.mem_of_mem_drop hd)
  have sT : ∀ d ∈ X.drop 1, sm d = true := fun d hd => sX d (List.mem_of_mem_drop hd)
  have lL : (X.take i).length = i := by rw [List.length_take]; omega
  have lH : (X.drop (i + 1)).length = X.length - (i + 1) := List.length_drop
  have lT : (X.drop 1).length = X.length - 1 := List.length_drop
  generalize X.take i = L at *
  generalize X.drop (i + 1) = H at *
  generalize X.drop 1 = T at *
  generalize hS : rtx (.tup X) = S at *
  obtain ⟨e, he, hB⟩ : ∃ e, L2.atI [D.tup T, D.tup (X ++ [.int 0]), D.lst X, D.non, D.tup (L ++ [O] ++ H), D.str S, D.int 5, D.tup [.tup X]] j3 = some e ∧ BadE X.length e := by
    have : j3 = 0 ∨ j3 = 1 ∨ j3 = 2 ∨ j3 = 3 ∨ j3 = 4 ∨ j3 = 5 ∨ j3 = 6 ∨ j3 = 7 := by omega
    have p0 : PB (.int 0) 1921 0 := PB.int (by decide)
    rcases this with rfl | rfl | rfl | rfl | rfl | rfl | rfl | rfl
    · exact ⟨_, rfl, ⟨sT, by omega⟩, by simp only [elB, lT, Bool.and_eq_false_iff, decide_eq_false_iff_not]; left; omega, tT, (PB.tup pT).mono (by omega) (by omega)⟩
    · refine ⟨_, rfl, ⟨fun d hd => ?_, by simp; omega⟩, by simp [elB], by simp [D.lt, ltL_app2, tX, ltL], (PB.tup (PBs.app pX' (PBs.cons p0 PBs.nil (b := 0)))).mono (by omega) (by omega)⟩
      rcases List.mem_append.mp hd with z | z
      · exact sX d z
      · rw [List.mem_singleton.mp z]; rfl
    · exact ⟨_, rfl, rfl, rfl, tX, (PB.lst pX').mono (by omega) (by omega)⟩
    · exact ⟨_, rfl, rfl, rfl, rfl, ⟨⟨4, rfl, by omega⟩, by decide⟩⟩
    · refine ⟨_, rfl, ⟨fun d hd => ?_, by simp; omega⟩, ?_, by simp [D.lt, ltL_app2, tL, tH, ltL, hO.lt], (PB.tup (PBs.app (PBs.app (pL.mono (Nat.le_refl _) (Nat.zero_le 2)) (PBs.cons hO.pb PBs.nil (b := 0))) (pH.mono (Nat.le_refl _) (Nat.zero_le 2)))).mono (by omega) (by omega)⟩
      · rcases List.mem_append.mp hd with z | z
        · rcases List.mem_append.mp z with z | z
          · exact sL d z
          · rw [List.mem_singleton.mp z]; exact hO.sm
        · exact sH d z
      · simp [elB, hO.no]
    · exact ⟨_, rfl, rfl, rfl, rfl, (PB.str ro).mono (by omega) (by omega)⟩
    · exact ⟨_, rfl, rfl, rfl, rfl, (PB.int (by decide)).mono (by omega) (by omega)⟩
    · exact ⟨_, rfl, ⟨fun d hd => by rw [List.mem_singleton.mp hd]; rfl, by simp⟩, by simp [elB, isI], by simp [D.lt, ltL, tX], (PB.tup (PBs.cons pbt PBs.nil (b := 0))).mono (by omega) (by omega)⟩
  simp only [List.append_assoc, List.singleton_append] at he
  refine ⟨e, st3, fun b => ?_, g3, hB⟩
  rw [en__law_bad_element]
  have hf := fin_st h g3 e hB.lt
  have z1 : (1 : Nat) ≤ sz := by decide
  have z5 : (5 : Nat) ≤ sz := by decide
  have z8 : (8 : Nat) ≤ sz := by decide
  have s1 : X.length + 1 ≤ sz := by have : (13 : Nat) ≤ sz := by decide
                                    omega
  have s2 : L.length + 1 ≤ sz := by have : (13 : Nat) ≤ sz := by decide
                                    omega
  have s3 : L.length + 1 + H.length ≤ sz := by have : (33 : Nat) ≤ sz := by decide
                                               omega
  have s4 : L.length + (H.length + 1) ≤ sz := by omega
  simp (implicitDefEqProofs := false) [Y.Z.x_nil, Y.Z.x_cons, Y.Z.bind_ok, Y.Z.bind_ex, Y.Z.lift_ok, Y.Z.lift_ex, Y.Z.noEx_ok, Y.Z.seq_nx, Y.Z.seq_rt, Y.Z.seq_bk, Y.Z.seq_ct, Y.Z.seq_ex, Y.Z.kRaise_e, Y.Z.y_raise, Y.Z.y_tryv, Y.Z.tv_nx, Y.Z.tv_rt, Y.Z.tv_ex, Y.hkD, Y.Z.e_fld, Y.Z.fld_e, Y.Z.loop_nx, Y.Z.loop_rt, Y.Z.loop_bk, Y.Z.loop_ct, Y.Z.asT_ok, Y.Z.opt_some, Y.Z.var_some, Y.Z.y_asg, Y.Z.y_aug, Y.Z.y_ite, Y.Z.x_retN, Y.Z.x_brk, Y.Z.x_cnt, Y.Z.x_pass, Y.Z.e_var, Y.Z.e_cst, Y.Z.e_glo, Y.Z.e_bin, Y.Z.e_neg, Y.Z.e_cmp, Y.Z.e_cmp2, Y.Z.e_and, Y.Z.e_or, Y.Z.e_not, Y.Z.e_ife, Y.Z.e_tup, Y.Z.e_lst, Y.Z.e_dic, Y.Z.e_dic0, Y.Z.e_ix, Y.Z.e_sl, Y.Z.e_rev, Y.Z.e_call, Y.Z.e_callK, Y.Z.e_blt, Y.Z.e_isi, Y.Z.e_isq, Y.Z.e_app, Y.Z.e_pop, Y.Z.e_ext, Y.Z.kExt1_e, Y.Z.k_ex_e, Y.Z.k_ex2_e, Y.Z.ex_ref, Y.Z.t_max1, Y.Z.t_min1, Y.Z.e_get2, Y.Z.e_lc, Y.Z.e_lc2, Y.Z.l_nil, Y.Z.l_cons, Y.Z.o_non, Y.Z.o_som, Y.Z.c_val, Y.Z.c_cp, Y.Z.c_cp2, Y.Z.c_and, Y.Z.c_or, Y.Z.c_not, Y.Z.co_non, Y.Z.co_som, Y.Z.i_seq, Y.Z.i_rng1, Y.Z.i_rng2, Y.Z.i_enm, Y.Z.i_zip, Y.Z.g_nm, Y.Z.g_tup, Y.Z.g_ct, Y.Z.g_ix, Y.Z.gs_nil, Y.Z.gs_cons, Y.Z.b_add, Y.Z.b_sub, Y.Z.b_mul, Y.Z.b_div, Y.Z.b_mod, Y.Z.b_pow, Y.Z.b_tup, Y.Z.b_lst, Y.Z.b_mulL, Y.Z.c_lt, Y.Z.c_le, Y.Z.c_gt, Y.Z.c_ge, Y.Z.c_eq, Y.Z.c_ne, Y.Z.c_isN, Y.Z.c_notN, Y.Z.c_isB, Y.Z.c_notB, Y.isNon, Y.Z.newL_f, Y.Z.newL_t, Y.Z.t_len, Y.Z.t_sum, Y.Z.t_any, Y.Z.t_all, Y.Z.t_abs, Y.Z.t_min, Y.Z.t_max, Y.Z.t_tuple, Y.Z.t_list, Y.Z.t_int, Y.Z.t_repr, Y.Z.t_str, Y.Z.st_str, Y.Z.st_int, Y.Z.st_tup, Y.Z.len_tup, Y.Z.len_lst, Y.Z.len_rd, Y.Z.len_ct, Y.Z.tup_lst, Y.Z.tup_tup, Y.Z.tup_ct, Y.Z.lst_lst, Y.Z.lst_tup, Y.Z.sum_ints, Y.Z.sum_ints', Y.Z.w_tup, Y.Z.w_lst, Y.Z.w_rd, Y.Z.w_ct, Y.Z.we_tup, Y.Z.we_lst, Y.Z.we_ct, Y.Z.wz_tl, Y.Z.wz_ll, Y.Z.wz_tt, Y.Z.r_tup, Y.Z.r_lst, Y.Z.r_rd, Y.Z.r_ct, Y.Z.cut_tup, Y.Z.cut_lst, Y.Z.cut_rd, Y.Z.rev_tup, Y.Z.tr_bl, Y.Z.tr_int, Y.Z.tr_tup, Y.Z.tr_lst, Y.Z.refL_lst, Y.Z.getO_lst, Y.Z.r_ref, Y.Z.lstOf_ref, Y.Z.len_ref, Y.Z.tup_ref, Y.Z.lst_ref, Y.Z.w_ref, Y.Z.we_ref, Y.Z.cut_ref, Y.Z.tr_ref, Y.Z.s_ref, Y.Z.so_lst, Y.Z.a_ref, Y.Z.po_ref, Y.Z.ixN_lit, Y.Z.atI_lit, Y.isD, Y.tyD, Y.subTy, Y.Z.fin_rtc, Y.Z.fin_rta, Y.Z.fin_nx, Y.D.lt, Y.ltL, Y.Z.ltL_ints, Y.Z.still_nil2, Y.Z.still_tup, Y.Z.still_ct, Y.Z.still_rd, Y.Z.still_lst, Y.wipe, Y.Z.blO_some, Y.Z.y_par, Y.Z.y_par3, Y.Z.kPar31_e, Y.Z.kPar32_e, Y.Z.kPar33_e, Y.Z.y_expr, Y.Z.y_ret, Y.Z.y_for, Y.Z.x_while, Y.Z.kAsg_e, Y.Z.kAug3_e, Y.Z.kAug2_e, Y.Z.kAug1_e, Y.Z.kIte_e, Y.Z.kPar2_e, Y.Z.kPar1_e, Y.Z.kExpr_e, Y.Z.kFor_e, Y.Z.kBin1_e, Y.Z.kNeg_e, Y.Z.kCmp2_e, Y.Z.kCmp1_e, Y.Z.kC23_e, Y.Z.kC22_e, Y.Z.kC21_e, Y.Z.kAnd_e, Y.Z.kOr_e, Y.Z.kNot_e, Y.Z.kIfe_e, Y.Z.kTup_e, Y.Z.kLst_e, Y.Z.kDic_e, Y.Z.kIx1_e, Y.Z.kSl2_e, Y.Z.kSl1_e, Y.Z.kCall_e, Y.Z.kCK3_e, Y.Z.kCK2_e, Y.Z.kCK1_e, Y.Z.kApp1_e, Y.Z.kG2_e, Y.Z.kG1_e, Y.Z.lcF3_e, Y.Z.lcF2_e, Y.Z.lcF1_e, Y.Z.kLc_e, Y.Z.lcG1_e, Y.Z.lcH2_e, Y.Z.lcH1_e, Y.Z.kLc2_e, Y.Z.kL2_e, Y.Z.kL1_e, Y.Z.kInt_e, Y.Z.kTru_e, Y.Z.kCp2_e, Y.Z.kCp1_e, Y.Z.kCq3_e, Y.Z.kCq2_e, Y.Z.kCq1_e, Y.Z.kCand_e, Y.Z.kCor_e, Y.Z.kCnot_e, Y.Z.kR2_e, Y.Z.kZ_e, Y.Z.kGx3_e, Y.Z.kGx2_e, Y.Z.kGx1_e, Y.Z.kWh_e, Y.Z.k_len_e, Y.Z.k_tup_e, Y.Z.k_lst_e, Y.Z.k_w_e, Y.Z.k_we_e, Y.Z.k_cut_e, Y.Z.k_tr_e, Y.Z.sK2_e, Y.Z.sK1_e, Y.Z.soK_e, Y.Z.k_ap_e, Y.Z.k_po2_e, Y.Z.k_po_e, ir__law_bad_element, e1', e2, z1, z5, z8, eO, c1, c2, c3, s1, s2, s3, s4, rp, e3, he, hf]
end LW

namespace LW
open PySem Y Y.Z
/-- a value that is no word, its text not too long -/
structure BadW (e : D) : Prop where
  sm : smA e
  no : wordB e = false
  lt : e.lt 0 = true
  pb : PB e 400000 5
structure OthW (d : D) : Prop where
  sm : sm d = true
  no : ltB d = false
  lt : d.lt 0 = true
  pb : PB d 3000 2
theorem oth9 (j : Int) (h0 : 0 ≤ j) (h1 : j < 9) : ∃ O, L2.atI [D.int 0, D.int 4, D.int (-4), D.bl true, D.non, D.str "1", D.tup [.int 1], D.lst [.int 2], D.int (-1000)] j = some O ∧ OthW O := by
  have pi : ∀ i : Int, i.natAbs.log2 < 1920 → PB (.int i) 3000 2 := fun i h => (PB.int h).mono (by omega) (by omega)
  have ps : ∀ i : Int, i.natAbs.log2 < 1920 → PBs [D.int i] 1923 0 := fun i h => (PBs.cons (PB.int h) PBs.nil (b := 0)).mono (by omega) (Nat.le_refl _)
  have : j = 0 ∨ j = 1 ∨ j = 2 ∨ j = 3 ∨ j = 4 ∨ j = 5 ∨ j = 6 ∨ j = 7 ∨ j = 8 := by omega
  rcases this with rfl | rfl | rfl | rfl | rfl | rfl | rfl | rfl | rfl
  · exact ⟨_, rfl, rfl, rfl, rfl, pi _ (by decide)⟩
  · exact ⟨_, rfl, rfl, rfl, rfl, pi _ (by decide)⟩
  · exact ⟨_, rfl, rfl, rfl, rfl, pi _ (by decide)⟩
  · exact ⟨_, rfl, rfl, rfl, rfl, ⟨⟨5, rfl, by omega⟩, by decide⟩⟩
  · exact ⟨_, rfl, rfl, rfl, rfl, ⟨⟨4, rfl, by omega⟩, by decide⟩⟩
  · exact ⟨_, rfl, rfl, rfl, rfl, (PB.str (sOk_of "1")).mono (by decide +kernel) (by omega)⟩
  · exact ⟨_, rfl, rfl, rfl, rfl, (PB.tup (ps _ (by decide))).mono (by omega) (by omega)⟩
  · exact ⟨_, rfl, rfl, rfl, rfl, (PB.lst (ps _ (by decide))).mono (by omega) (by omega)⟩
  · exact ⟨_, rfl, rfl, rfl, rfl, pi _ (by decide)⟩
theorem cut0 (xs : List D) (i : Nat) : cut xs (some (i : Int)) none = xs.drop i := cut_hi xs i
theorem sp_bad_word (k : Nat) (w : List Int) (h6 : w.length ≤ 6) (hw : ∀ i ∈ w, i.natAbs.log2 < 1920) (st : Stt) (h : StO [] st) :
    ∃ e st', (∀ b, callF tbl glo 100000 (k+2) 31 [.ref 0, .tup (w.map .int)] b st = .ok e st') ∧ StO [] st' ∧ BadW e := by
  obtain ⟨j, st1, e1, g1, j0, j1⟩ := dr k (w.length + 1) (by omega) (by omega) [] st h
  obtain ⟨i, rfl⟩ : ∃ i : Nat, j = (i : Int) := ⟨j.toNat, by omega⟩
  obtain ⟨j2, st2, e2, g2, j20, j25⟩ := dr k 9 (by decide) (by decide) [] st1 g1
  obtain ⟨O, eO, hO⟩ := oth9 j2 j20 j25
  obtain ⟨j3, st3, e3, g3, j30, j38⟩ := dr k 7 (by decide) (by decide) [] st2 g2
  have pX : PBs (w.map .int) 30000 0 := (PBs.ints hw).mono (by omega) (Nat.le_refl _)
  have pL : PBs ((w.map D.int).take i) 30000 0 := (PBs.sub (ds := (w.map D.int).take i) (es := (w.map D.int).drop i) (by rw [List.take_append_drop]; exact pX)).1
  have pH : PBs ((w.map D.int).drop i) 30000 0 := (PBs.sub (ds := (w.map D.int).take i) (es := (w.map D.int).drop i) (by rw [List.take_append_drop]; exact pX)).2
  have pbt : PB (.tup (w.map .int)) 30003 1 := PB.tup pX
  have lX : (w.map D.int).length = w.length := List.length_map _
  have sX := sm_ints w
  have tX : ltL 0 (w.map D.int) = true := ltL_ints w
  have c1 := cut_lo (w.map D.int) i
  have c2 := cut0 (w.map D.int) i
  have e1' : ∀ b, callF tbl glo 100000 (k+1) 23 [.ref 0, .int ((w.map D.int).length + 1)] b st = .ok (.int i) st1 := by rw [lX]; exact e1
  generalize hX : w.map D.int = X at *
  have tL : ltL 0 (X.take i) = true := ltL_take X i tX
  have tH : ltL 0 (X.drop i) = true := ltL_drop X i tX
  have sL : ∀ d ∈ X.take i, sm d = true := fun d hd => sX d (List.mem_of_mem_take hd)
  have sH : ∀ d ∈ X.drop i, sm d = true := fun d hd => sX d (List.mem_of_mem_drop hd)
  have lL : (X.take i).length ≤ 6 := by rw [List.length_take]; omega
  have lH : (X.drop i).length ≤ 6 := by rw [List.length_drop]; omega
  generalize X.take i = L at *
  generalize X.drop i = H at *
  obtain ⟨e, he, hB⟩ : ∃ e, L2.atI [D.tup (L ++ [O] ++ H), D.lst X, D.non, D.str "12", D.int 1, D.tup [.tup X], D.bl false] j3 = some e ∧ BadW e := by
    have : j3 = 0 ∨ j3 = 1 ∨ j3 = 2 ∨ j3 = 3 ∨ j3 = 4 ∨ j3 = 5 ∨ j3 = 6 := by omega
    rcases this with rfl | rfl | rfl | rfl | rfl | rfl | rfl
    · refine ⟨_, rfl, ⟨fun d hd => ?_, by simp; omega⟩, ?_, by simp [D.lt, ltL_app2, tL, tH, ltL, hO.lt], (PB.tup (PBs.app (PBs.app (pL.mono (Nat.le_refl _) (Nat.zero_le 2)) (PBs.cons hO.pb PBs.nil (b := 0))) (pH.mono (Nat.le_refl _) (Nat.zero_le 2)))).mono (by omega) (by omega)⟩
      · rcases List.mem_append.mp hd with z | z
        · rcases List.mem_append.mp z with z | z
          · exact sL d z
          · rw [List.mem_singleton.mp z]; exact hO.sm
        · exact sH d z
      · simp [wordB, hO.no]
    · exact ⟨_, rfl, rfl, rfl, tX, (PB.lst pX).mono (by omega) (by omega)⟩
    · exact ⟨_, rfl, rfl, rfl, rfl, ⟨⟨4, rfl, by omega⟩, by decide⟩⟩
    · exact ⟨_, rfl, rfl, rfl, rfl, (PB.str (sOk_of "12")).mono (by decide +kernel) (by omega)⟩
    · exact ⟨_, rfl, rfl, rfl, rfl, (PB.int (by decide)).mono (by omega) (by omega)⟩
    · exact ⟨_, rfl, ⟨fun d hd => by rw [List.mem_singleton.mp hd]; rfl, by simp⟩, by simp [wordB, ltB], by simp [D.lt, ltL, tX], (PB.tup (PBs.cons pbt PBs.nil (b := 0))).mono (by omega) (by omega)⟩
    · exact ⟨_, rfl, rfl, rfl, rfl, ⟨⟨5, rfl, by omega⟩, by decide⟩⟩
  simp only [List.append_assoc, List.singleton_append] at he
  refine ⟨e, st3, fun b => ?_, g3, hB⟩
  rw [en__law_bad_word]
  have hf := fin_st h g3 e hB.lt
  have z1 : (1 : Nat) ≤ sz := by decide
  have z7 : (7 : Nat) ≤ sz := by decide
  have z9 : (9 : Nat) ≤ sz := by decide
  have s2 : L.length + 1 ≤ sz := by have : (13 : Nat) ≤ sz := by decide
                                    omega
  have s3 : L.length + 1 + H.length ≤ sz := by have : (33 : Nat) ≤ sz := by decide
                                               omega
  have s4 : L.length + (H.length + 1) ≤ sz := by omega
  simp (implicitDefEqProofs := false) [Y.Z.x_nil, Y.Z.x_cons, Y.Z.bind_ok, Y.Z.bind_ex, Y.Z.lift_ok, Y.Z.lift_ex, Y.Z.noEx_ok, Y.Z.seq_nx, Y.Z.seq_rt, Y.Z.seq_bk, Y.Z.seq_ct, Y.Z.seq_ex, Y.Z.kRaise_e, Y.Z.y_raise, Y.Z.y_tryv, Y.Z.tv_nx, Y.Z.tv_rt, Y.Z.tv_ex, Y.hkD, Y.Z.e_fld, Y.Z.fld_e, Y.Z.loop_nx, Y.Z.loop_rt, Y.Z.loop_bk, Y.Z.loop_ct, Y.Z.asT_ok, Y.Z.opt_some, Y.Z.var_some, Y.Z.y_asg, Y.Z.y_aug, Y.Z.y_ite, Y.Z.x_retN, Y.Z.x_brk, Y.Z.x_cnt, Y.Z.x_pass, Y.Z.e_var, Y.Z.e_cst, Y.Z.e_glo, Y.Z.e_bin, Y.Z.e_neg, Y.Z.e_cmp, Y.Z.e_cmp2, Y.Z.e_and, Y.Z.e_or, Y.Z.e_not, Y.Z.e_ife, Y.Z.e_tup, Y.Z.e_lst, Y.Z.e_dic, Y.Z.e_dic0, Y.Z.e_ix, Y.Z.e_sl, Y.Z.e_rev, Y.Z.e_call, Y.Z.e_callK, Y.Z.e_blt, Y.Z.e_isi, Y.Z.e_isq, Y.Z.e_app, Y.Z.e_pop, Y.Z.e_ext, Y.Z.kExt1_e, Y.Z.k_ex_e, Y.Z.k_ex2_e, Y.Z.ex_ref, Y.Z.t_max1, Y.Z.t_min1, Y.Z.e_get2, Y.Z.e_lc, Y.Z.e_lc2, Y.Z.l_nil, Y.Z.l_cons, Y.Z.o_non, Y.Z.o_som, Y.Z.c_val, Y.Z.c_cp, Y.Z.c_cp2, Y.Z.c_and, Y.Z.c_or, Y.Z.c_not, Y.Z.co_non, Y.Z.co_som, Y.Z.i_seq, Y.Z.i_rng1, Y.Z.i_rng2, Y.Z.i_enm, Y.Z.i_zip, Y.Z.g_nm, Y.Z.g_tup, Y.Z.g_ct, Y.Z.g_ix, Y.Z.gs_nil, Y.Z.gs_cons, Y.Z.b_add, Y.Z.b_sub, Y.Z.b_mul, Y.Z.b_div, Y.Z.b_mod, Y.Z.b_pow, Y.Z.b_tup, Y.Z.b_lst, Y.Z.b_mulL, Y.Z.c_lt, Y.Z.c_le, Y.Z.c_gt, Y.Z.c_ge, Y.Z.c_eq, Y.Z.c_ne, Y.Z.c_isN, Y.Z.c_notN, Y.Z.c_isB, Y.Z.c_notB, Y.isNon, Y.Z.newL_f, Y.Z.newL_t, Y.Z.t_len, Y.Z.t_sum, Y.Z.t_any, Y.Z.t_all, Y.Z.t_abs, Y.Z.t_min, Y.Z.t_max, Y.Z.t_tuple, Y.Z.t_list, Y.Z.t_int, Y.Z.t_repr, Y.Z.t_str, Y.Z.st_str, Y.Z.st_int, Y.Z.st_tup, Y.Z.len_tup, Y.Z.len_lst, Y.Z.len_rd, Y.Z.len_ct, Y.Z.tup_lst, Y.Z.tup_tup, Y.Z.tup_ct, Y.Z.lst_lst, Y.Z.lst_tup, Y.Z.sum_ints, Y.Z.sum_ints', Y.Z.w_tup, Y.Z.w_lst, Y.Z.w_rd, Y.Z.w_ct, Y.Z.we_tup, Y.Z.we_lst, Y.Z.we_ct, Y.Z.wz_tl, Y.Z.wz_ll, Y.Z.wz_tt, Y.Z.r_tup, Y.Z.r_lst, Y.Z.r_rd, Y.Z.r_ct, Y.Z.cut_tup, Y.Z.cut_lst, Y.Z.cut_rd, Y.Z.rev_tup, Y.Z.tr_bl, Y.Z.tr_int, Y.Z.tr_tup, Y.Z.tr_lst, Y.Z.refL_lst, Y.Z.getO_lst, Y.Z.r_ref, Y.Z.lstOf_ref, Y.Z.len_ref, Y.Z.tup_ref, Y.Z.lst_ref, Y.Z.w_ref, Y.Z.we_ref, Y.Z.cut_ref, Y.Z.tr_ref, Y.Z.s_ref, Y.Z.so_lst, Y.Z.a_ref, Y.Z.po_ref, Y.Z.ixN_lit, Y.Z.atI_lit, Y.isD, Y.tyD, Y.subTy, Y.Z.fin_rtc, Y.Z.fin_rta, Y.Z.fin_nx, Y.D.lt, Y.ltL, Y.Z.ltL_ints, Y.Z.still_nil2, Y.Z.still_tup, Y.Z.still_ct, Y.Z.still_rd, Y.Z.still_lst, Y.wipe, Y.Z.blO_some, Y.Z.y_par, Y.Z.y_par3, Y.Z.kPar31_e, Y.Z.kPar32_e, Y.Z.kPar33_e, Y.Z.y_expr, Y.Z.y_ret, Y.Z.y_for, Y.Z.x_while, Y.Z.kAsg_e, Y.Z.kAug3_e, Y.Z.kAug2_e, Y.Z.kAug1_e, Y.Z.kIte_e, Y.Z.kPar2_e, Y.Z.kPar1_e, Y.Z.kExpr_e, Y.Z.kFor_e, Y.Z.kBin1_e, Y.Z.kNeg_e, Y.Z.kCmp2_e, Y.Z.kCmp1_e, Y.Z.kC23_e, Y.Z.kC22_e, Y.Z.kC21_e, Y.Z.kAnd_e, Y.Z.kOr_e, Y.Z.kNot_e, Y.Z.kIfe_e, Y.Z.kTup_e, Y.Z.kLst_e, Y.Z.kDic_e, Y.Z.kIx1_e, Y.Z.kSl2_e, Y.Z.kSl1_e, Y.Z.kCall_e, Y.Z.kCK3_e, Y.Z.kCK2_e, Y.Z.kCK1_e, Y.Z.kApp1_e, Y.Z.kG2_e, Y.Z.kG1_e, Y.Z.lcF3_e, Y.Z.lcF2_e, Y.Z.lcF1_e, Y.Z.kLc_e, Y.Z.lcG1_e, Y.Z.lcH2_e, Y.Z.lcH1_e, Y.Z.kLc2_e, Y.Z.kL2_e, Y.Z.kL1_e, Y.Z.kInt_e, Y.Z.kTru_e, Y.Z.kCp2_e, Y.Z.kCp1_e, Y.Z.kCq3_e, Y.Z.kCq2_e, Y.Z.kCq1_e, Y.Z.kCand_e, Y.Z.kCor_e, Y.Z.kCnot_e, Y.Z.kR2_e, Y.Z.kZ_e, Y.Z.kGx3_e, Y.Z.kGx2_e, Y.Z.kGx1_e, Y.Z.kWh_e, Y.Z.k_len_e, Y.Z.k_tup_e, Y.Z.k_lst_e, Y.Z.k_w_e, Y.Z.k_we_e, Y.Z.k_cut_e, Y.Z.k_tr_e, Y.Z.sK2_e, Y.Z.sK1_e, Y.Z.soK_e, Y.Z.k_ap_e, Y.Z.k_po2_e, Y.Z.k_po_e, ir__law_bad_word, e1', e2, z1, z7, z9, eO, c1, c2, s2, s3, s4, e3, he, hf]
end LW

namespace LW
open PySem Y Y.Z
def elsB (n : Nat) : D → Bool
  | .tup ys => decide (ys.length = 3) && ys.all (elB n)
  | _ => false
def smT : D → Prop
  | .tup ys => (∀ y ∈ ys, smA y) ∧ ys.length ≤ 1000
  | d => sm d = true
section
variable (ss : List Int) (hs : okS ss) (h3 : ss.length ≤ 3) (hw : wid ss ≤ 12) (h0 : ss ≠ [])
include hs h3 hw h0
theorem elc (ys : List D) (hy : ∀ y ∈ ys, smA y) (hl : ys.length ≤ 1000) (b : Nat) (a1 a2 a3 : Option D) (st : Stt) : lcA [] (lcF ⟨callF tbl glo 100000 37, glo, 100000⟩ b (.nm 3) [3] [some (.tup (ss.map .int)), a1, a2, a3] .non (.call 8 (.cons (.var 0) (.cons (.var 3) .nil)) [])) ys [] st = .ok (ys.map fun y => .bl (elB (wid ss) y)) st := by
  rw [lcA_map (fun y => .bl (elB (wid ss) y)) rfl ys [] (by
    intro y hd acc ha
    have := fun b st => is_elem_any 34 ss hs h3 y (hy y hd) b st
    generalize ss.map D.int = S at *
    simp (implicitDefEqProofs := false) [Y.Z.x_nil, Y.Z.x_cons, Y.Z.bind_ok, Y.Z.bind_ex, Y.Z.lift_ok, Y.Z.lift_ex, Y.Z.noEx_ok, Y.Z.seq_nx, Y.Z.seq_rt, Y.Z.seq_bk, Y.Z.seq_ct, Y.Z.seq_ex, Y.Z.kRaise_e, Y.Z.y_raise, Y.Z.y_tryv, Y.Z.tv_nx, Y.Z.tv_rt, Y.Z.tv_ex, Y.hkD, Y.Z.e_fld, Y.Z.fld_e, Y.Z.loop_nx, Y.Z.loop_rt, Y.Z.loop_bk, Y.Z.loop_ct, Y.Z.asT_ok, Y.Z.opt_some, Y.Z.var_some, Y.Z.y_asg, Y.Z.y_aug, Y.Z.y_ite, Y.Z.x_retN, Y.Z.x_brk, Y.Z.x_cnt, Y.Z.x_pass, Y.Z.e_var, Y.Z.e_cst, Y.Z.e_glo, Y.Z.e_bin, Y.Z.e_neg, Y.Z.e_cmp, Y.Z.e_cmp2, Y.Z.e_and, Y.Z.e_or, Y.Z.e_not, Y.Z.e_ife, Y.Z.e_tup, Y.Z.e_lst, Y.Z.e_dic, Y.Z.e_dic0, Y.Z.e_ix, Y.Z.e_sl, Y.Z.e_rev, Y.Z.e_call, Y.Z.e_callK, Y.Z.e_blt, Y.Z.e_isi, Y.Z.e_isq, Y.Z.e_app, Y.Z.e_pop, Y.Z.e_ext, Y.Z.kExt1_e, Y.Z.k_ex_e, Y.Z.k_ex2_e, Y.Z.ex_ref, Y.Z.t_max1, Y.Z.t_min1, Y.Z.e_get2, Y.Z.e_lc, Y.Z.e_lc2, Y.Z.l_nil, Y.Z.l_cons, Y.Z.o_non, Y.Z.o_som, Y.Z.c_val, Y.Z.c_cp, Y.Z.c_cp2, Y.Z.c_and, Y.Z.c_or, Y.Z.c_not, Y.Z.co_non, Y.Z.co_som, Y.Z.i_seq, Y.Z.i_rng1, Y.Z.i_rng2, Y.Z.i_enm, Y.Z.i_zip, Y.Z.g_nm, Y.Z.g_tup, Y.Z.g_ct, Y.Z.g_ix, Y.Z.gs_nil, Y.Z.gs_cons, Y.Z.b_add, Y.Z.b_sub, Y.Z.b_mul, Y.Z.b_div, Y.Z.b_mod, Y.Z.b_pow, Y.Z.b_tup, Y.Z.b_lst, Y.Z.b_mulL, Y.Z.c_lt, Y.Z.c_le, Y.Z.c_gt, Y.Z.c_ge, Y.Z.c_eq, Y.Z.c_ne, Y.Z.c_isN, Y.Z.c_notN, Y.Z.c_isB, Y.Z.c_notB, Y.isNon, Y.Z.newL_f, Y.Z.newL_t, Y.Z.t_len, Y.Z.t_sum, Y.Z.t_any, Y.Z.t_all, Y.Z.t_abs, Y.Z.t_min, Y.Z.t_max, Y.Z.t_tuple, Y.Z.t_list, Y.Z.t_int, Y.Z.t_repr, Y.Z.t_str, Y.Z.st_str, Y.Z.st_int, Y.Z.st_tup, Y.Z.len_tup, Y.Z.len_lst, Y.Z.len_rd, Y.Z.len_ct, Y.Z.tup_lst, Y.Z.tup_tup, Y.Z.tup_ct, Y.Z.lst_lst, Y.Z.lst_tup, Y.Z.sum_ints, Y.Z.sum_ints', Y.Z.w_tup, Y.Z.w_lst, Y.Z.w_rd, Y.Z.w_ct, Y.Z.we_tup, Y.Z.we_lst, Y.Z.we_ct, Y.Z.wz_tl, Y.Z.wz_ll, Y.Z.wz_tt, Y.Z.r_tup, Y.Z.r_lst, Y.Z.r_rd, Y.Z.r_ct, Y.Z.cut_tup, Y.Z.cut_lst, Y.Z.cut_rd, Y.Z.rev_tup, Y.Z.tr_bl, Y.Z.tr_int, Y.Z.tr_tup, Y.Z.tr_lst, Y.Z.refL_lst, Y.Z.getO_lst, Y.Z.r_ref, Y.Z.lstOf_ref, Y.Z.len_ref, Y.Z.tup_ref, Y.Z.lst_ref, Y.Z.w_ref, Y.Z.we_ref, Y.Z.cut_ref, Y.Z.tr_ref, Y.Z.s_ref, Y.Z.so_lst, Y.Z.a_ref, Y.Z.po_ref, Y.Z.ixN_lit, Y.Z.atI_lit, Y.isD, Y.tyD, Y.subTy, Y.Z.fin_rtc, Y.Z.fin_rta, Y.Z.fin_nx, Y.D.lt, Y.ltL, Y.Z.ltL_ints, Y.Z.still_nil2, Y.Z.still_tup, Y.Z.still_ct, Y.Z.still_rd, Y.Z.still_lst, Y.wipe, Y.Z.blO_some, Y.Z.y_par, Y.Z.y_par3, Y.Z.kPar31_e, Y.Z.kPar32_e, Y.Z.kPar33_e, Y.Z.y_expr, Y.Z.y_ret, Y.Z.y_for, Y.Z.x_while, Y.Z.kAsg_e, Y.Z.kAug3_e, Y.Z.kAug2_e, Y.Z.kAug1_e, Y.Z.kIte_e, Y.Z.kPar2_e, Y.Z.kPar1_e, Y.Z.kExpr_e, Y.Z.kFor_e, Y.Z.kBin1_e, Y.Z.kNeg_e, Y.Z.kCmp2_e, Y.Z.kCmp1_e, Y.Z.kC23_e, Y.Z.kC22_e, Y.Z.kC21_e, Y.Z.kAnd_e, Y.Z.kOr_e, Y.Z.kNot_e, Y.Z.kIfe_e, Y.Z.kTup_e, Y.Z.kLst_e, Y.Z.kDic_e, Y.Z.kIx1_e, Y.Z.kSl2_e, Y.Z.kSl1_e, Y.Z.kCall_e, Y.Z.kCK3_e, Y.Z.kCK2_e, Y.Z.kCK1_e, Y.Z.kApp1_e, Y.Z.kG2_e, Y.Z.kG1_e, Y.Z.lcF3_e, Y.Z.lcF2_e, Y.Z.lcF1_e, Y.Z.kLc_e, Y.Z.lcG1_e, Y.Z.lcH2_e, Y.Z.lcH1_e, Y.Z.kLc2_e, Y.Z.kL2_e, Y.Z.kL1_e, Y.Z.kInt_e, Y.Z.kTru_e, Y.Z.kCp2_e, Y.Z.kCp1_e, Y.Z.kCq3_e, Y.Z.kCq2_e, Y.Z.kCq1_e, Y.Z.kCand_e, Y.Z.kCor_e, Y.Z.kCnot_e, Y.Z.kR2_e, Y.Z.kZ_e, Y.Z.kGx3_e, Y.Z.kGx2_e, Y.Z.kGx1_e, Y.Z.kWh_e, Y.Z.k_len_e, Y.Z.k_tup_e, Y.Z.k_lst_e, Y.Z.k_w_e, Y.Z.k_we_e, Y.Z.k_cut_e, Y.Z.k_tr_e, Y.Z.sK2_e, Y.Z.sK1_e, Y.Z.soK_e, Y.Z.k_ap_e, Y.Z.k_po2_e, Y.Z.k_po_e, lcF, push, this, ha]) (by simp [sz]; omega)]
  rfl
theorem word_at_els (d w : D) (hd : smT d) (hl : d.lt 0 = true) (hb : elsB (wid ss) d = false) (b : Nat) (st : Stt) : callF tbl glo 100000 38 14 [.tup (ss.map .int), d, w] b st = .ex 1 d st := by
  rw [en_word_at]
  have hc := fun b st => sp_check_space 33 ss hs h3 h0 hw b st
  have fx := fun env => fin_ex (c := 1) (mode := 0) (env := env) hl st
  by_cases ht : ∃ ys, d = .tup ys
  · obtain ⟨ys, rfl⟩ := ht
    by_cases h5 : ys.length = 3
    · have ec := elc ss hs h3 hw h0 ys hd.1 hd.2
      have ea := fun st => all_map (elB (wid ss)) ys st
      have hb' : ys.all (elB (wid ss)) = false := by simpa [elsB, h5] using hb
      have h5' : ((ys.length : Int) = 3) := by omega
      generalize ss.map D.int = S at *
      simp (implicitDefEqProofs := false) [Y.Z.x_nil, Y.Z.x_cons, Y.Z.bind_ok, Y.Z.bind_ex, Y.Z.lift_ok, Y.Z.lift_ex, Y.Z.noEx_ok, Y.Z.seq_nx, Y.Z.seq_rt, Y.Z.seq_bk, Y.Z.seq_ct, Y.Z.seq_ex, Y.Z.kRaise_e, Y.Z.y_raise, Y.Z.y_tryv, Y.Z.tv_nx, Y.Z.tv_rt, Y.Z.tv_ex, Y.hkD, Y.Z.e_fld, Y.Z.fld_e, Y.Z.loop_nx, Y.Z.loop_rt, Y.Z.loop_bk, Y.Z.loop_ct, Y.Z.asT_ok, Y.Z.opt_some, Y.Z.var_some, Y.Z.y_asg, Y.Z.y_aug, Y.Z.y_ite, Y.Z.x_retN, Y.Z.x_brk, Y.Z.x_cnt, Y.Z.x_pass, Y.Z.e_var, Y.Z.e_cst, Y.Z.e_glo, Y.Z.e_bin, Y.Z.e_neg, Y.Z.e_cmp, Y.Z.e_cmp2, Y.Z.e_and, Y.Z.e_or, Y.Z.e_not, Y.Z.e_ife, Y.Z.e_tup, Y.Z.e_lst, Y.Z.e_dic, Y.Z.e_dic0, Y.Z.e_ix, Y.Z.e_sl, Y.Z.e_rev, Y.Z.e_call, Y.Z.e_callK, Y.Z.e_blt, Y.Z.e_isi, Y.Z.e_isq, Y.Z.e_app, Y.Z.e_pop, Y.Z.e_ext, Y.Z.kExt1_e, Y.Z.k_ex_e, Y.Z.k_ex2_e, Y.Z.ex_ref, Y.Z.t_max1, Y.Z.t_min1, Y.Z.e_get2, Y.Z.e_lc, Y.Z.e_lc2, Y.Z.l_nil, Y.Z.l_cons, Y.Z.o_non, Y.Z.o_som, Y.Z.c_val, Y.Z.c_cp, Y.Z.c_cp2, Y.Z.c_and, Y.Z.c_or, Y.Z.c_not, Y.Z.co_non, Y.Z.co_som, Y.Z.i_seq, Y.Z.i_rng1, Y.Z.i_rng2, Y.Z.i_enm, Y.Z.i_zip, Y.Z.g_nm, Y.Z.g_tup, Y.Z.g_ct, Y.Z.g_ix, Y.Z.gs_nil, Y.Z.gs_cons, Y.Z.b_add, Y.Z.b_sub, Y.Z.b_mul, Y.Z.b_div, Y.Z.b_mod, Y.Z.b_pow, Y.Z.b_tup, Y.Z.b_lst, Y.Z.b_mulL, Y.Z.c_lt, Y.Z.c_le, Y.Z.c_gt, Y.Z.c_ge, Y.Z.c_eq, Y.Z.c_ne, Y.Z.c_isN, Y.Z.c_notN, Y.Z.c_isB, Y.Z.c_notB, Y.isNon, Y.Z.newL_f, Y.Z.newL_t, Y.Z.t_len, Y.Z.t_sum, Y.Z.t_any, Y.Z.t_all, Y.Z.t_abs, Y.Z.t_min, Y.Z.t_max, Y.Z.t_tuple, Y.Z.t_list, Y.Z.t_int, Y.Z.t_repr, Y.Z.t_str, Y.Z.st_str, Y.Z.st_int, Y.Z.st_tup, Y.Z.len_tup, Y.Z.len_lst, Y.Z.len_rd, Y.Z.len_ct, Y.Z.tup_lst, Y.Z.tup_tup, Y.Z.tup_ct, Y.Z.lst_lst, Y.Z.lst_tup, Y.Z.sum_ints, Y.Z.sum_ints', Y.Z.w_tup, Y.Z.w_lst, Y.Z.w_rd, Y.Z.w_ct, Y.Z.we_tup, Y.Z.we_lst, Y.Z.we_ct, Y.Z.wz_tl, Y.Z.wz_ll, Y.Z.wz_tt, Y.Z.r_tup, Y.Z.r_lst, Y.Z.r_rd, Y.Z.r_ct, Y.Z.cut_tup, Y.Z.cut_lst, Y.Z.cut_rd, Y.Z.rev_tup, Y.Z.tr_bl, Y.Z.tr_int, Y.Z.tr_tup, Y.Z.tr_lst, Y.Z.refL_lst, Y.Z.getO_lst, Y.Z.r_ref, Y.Z.lstOf_ref, Y.Z.len_ref, Y.Z.tup_ref, Y.Z.lst_ref, Y.Z.w_ref, Y.Z.we_ref, Y.Z.cut_ref, Y.Z.tr_ref, Y.Z.s_ref, Y.Z.so_lst, Y.Z.a_ref, Y.Z.po_ref, Y.Z.ixN_lit, Y.Z.atI_lit, Y.isD, Y.tyD, Y.subTy, Y.Z.fin_rtc, Y.Z.fin_rta, Y.Z.fin_nx, Y.D.lt, Y.ltL, Y.Z.ltL_ints, Y.Z.still_nil2, Y.Z.still_tup, Y.Z.still_ct, Y.Z.still_rd, Y.Z.still_lst, Y.wipe, Y.Z.blO_some, Y.Z.y_par, Y.Z.y_par3, Y.Z.kPar31_e, Y.Z.kPar32_e, Y.Z.kPar33_e, Y.Z.y_expr, Y.Z.y_ret, Y.Z.y_for, Y.Z.x_while, Y.Z.kAsg_e, Y.Z.kAug3_e, Y.Z.kAug2_e, Y.Z.kAug1_e, Y.Z.kIte_e, Y.Z.kPar2_e, Y.Z.kPar1_e, Y.Z.kExpr_e, Y.Z.kFor_e, Y.Z.kBin1_e, Y.Z.kNeg_e, Y.Z.kCmp2_e, Y.Z.kCmp1_e, Y.Z.kC23_e, Y.Z.kC22_e, Y.Z.kC21_e, Y.Z.kAnd_e, Y.Z.kOr_e, Y.Z.kNot_e, Y.Z.kIfe_e, Y.Z.kTup_e, Y.Z.kLst_e, Y.Z.kDic_e, Y.Z.kIx1_e, Y.Z.kSl2_e, Y.Z.kSl1_e, Y.Z.kCall_e, Y.Z.kCK3_e, Y.Z.kCK2_e, Y.Z.kCK1_e, Y.Z.kApp1_e, Y.Z.kG2_e, Y.Z.kG1_e, Y.Z.lcF3_e, Y.Z.lcF2_e, Y.Z.lcF1_e, Y.Z.kLc_e, Y.Z.lcG1_e, Y.Z.lcH2_e, Y.Z.lcH1_e, Y.Z.kLc2_e, Y.Z.kL2_e, Y.Z.kL1_e, Y.Z.kInt_e, Y.Z.kTru_e, Y.Z.kCp2_e, Y.Z.kCp1_e, Y.Z.kCq3_e, Y.Z.kCq2_e, Y.Z.kCq1_e, Y.Z.kCand_e, Y.Z.kCor_e, Y.Z.kCnot_e, Y.Z.kR2_e, Y.Z.kZ_e, Y.Z.kGx3_e, Y.Z.kGx2_e, Y.Z.kGx1_e, Y.Z.kWh_e, Y.Z.k_len_e, Y.Z.k_tup_e, Y.Z.k_lst_e, Y.Z.k_w_e, Y.Z.k_we_e, Y.Z.k_cut_e, Y.Z.k_tr_e, Y.Z.sK2_e, Y.Z.sK1_e, Y.Z.soK_e, Y.Z.k_ap_e, Y.Z.k_po2_e, Y.Z.k_po_e, ir_word_at, hc, h5, h5', ec, ea, hb', fx]
    · have h5' : ¬ ((ys.length : Int) = 3) := by omega
      generalize ss.map D.int = S at *
      simp (implicitDefEqProofs := false) [Y.Z.x_nil, Y.Z.x_cons, Y.Z.bind_ok, Y.Z.bind_ex, Y.Z.lift_ok, Y.Z.lift_ex, Y.Z.noEx_ok, Y.Z.seq_nx, Y.Z.seq_rt, Y.Z.seq_bk, Y.Z.seq_ct, Y.Z.seq_ex, Y.Z.kRaise_e, Y.Z.y_raise, Y.Z.y_tryv, Y.Z.tv_nx, Y.Z.tv_rt, Y.Z.tv_ex, Y.hkD, Y.Z.e_fld, Y.Z.fld_e, Y.Z.loop_nx, Y.Z.loop_rt, Y.Z.loop_bk, Y.Z.loop_ct, Y.Z.asT_ok, Y.Z.opt_some, Y.Z.var_some, Y.Z.y_asg, Y.Z.y_aug, Y.Z.y_ite, Y.Z.x_retN, Y.Z.x_brk, Y.Z.x_cnt, Y.Z.x_pass, Y.Z.e_var, Y.Z.e_cst, Y.Z.e_glo, Y.Z.e_bin, Y.Z.e_neg, Y.Z.e_cmp, Y.Z.e_cmp2, Y.Z.e_and, Y.Z.e_or, Y.Z.e_not, Y.Z.e_ife, Y.Z.e_tup, Y.Z.e_lst, Y.Z.e_dic, Y.Z.e_dic0, Y.Z.e_ix, Y.Z.e_sl, Y.Z.e_rev, Y.Z.e_call, Y.Z.e_callK, Y.Z.e_blt, Y.Z.e_isi, Y.Z.e_isq, Y.Z.e_app, Y.Z.e_pop, Y.Z.e_ext, Y.Z.kExt1_e, Y.Z.k_ex_e, Y.Z.k_ex2_e, Y.Z.ex_ref, Y.Z.t_max1, Y.Z.t_min1, Y.Z.e_get2, Y.Z.e_lc, Y.Z.e_lc2, Y.Z.l_nil, Y.Z.l_cons, Y.Z.o_non, Y.Z.o_som, Y.Z.c_val, Y.Z.c_cp, Y.Z.c_cp2, Y.Z.c_and, Y.Z.c_or, Y.Z.c_not, Y.Z.co_non, Y.Z.co_som, Y.Z.i_seq, Y.Z.i_rng1, Y.Z.i_rng2, Y.Z.i_enm, Y.Z.i_zip, Y.Z.g_nm, Y.Z.g_tup, Y.Z.g_ct, Y.Z.g_ix, Y.Z.gs_nil, Y.Z.gs_cons, Y.Z.b_add, Y.Z.b_sub, Y.Z.b_mul, Y.Z.b_div, Y.Z.b_mod, Y.Z.b_pow, Y.Z.b_tup, Y.Z.b_lst, Y.Z.b_mulL, Y.Z.c_lt, Y.Z.c_le, Y.Z.c_gt, Y.Z.c_ge, Y.Z.c_eq, Y.Z.c_ne, Y.Z.c_isN, Y.Z.c_notN, Y.Z.c_isB, Y.Z.c_notB, Y.isNon, Y.Z.newL_f, Y.Z.newL_t, Y.Z.t_len, Y.Z.t_sum, Y.Z.t_any, Y.Z.t_all, Y.Z.t_abs, Y.Z.t_min, Y.Z.t_max, Y.Z.t_tuple, Y.Z.t_list, Y.Z.t_int, Y.Z.t_repr, Y.Z.t_str, Y.Z.st_str, Y.Z.st_int, Y.Z.st_tup, Y.Z.len_tup, Y.Z.len_lst, Y.Z.len_rd, Y.Z.len_ct, Y.Z.tup_lst, Y.Z.tup_tup, Y.Z.tup_ct, Y.Z.lst_lst, Y.Z.lst_tup, Y.Z.sum_ints, Y.Z.sum_ints', Y.Z.w_tup, Y.Z.w_lst, Y.Z.w_rd, Y.Z.w_ct, Y.Z.we_tup, Y.Z.we_lst, Y.Z.we_ct, Y.Z.wz_tl, Y.Z.wz_ll, Y.Z.wz_tt, Y.Z.r_tup, Y.Z.r_lst, Y.Z.r_rd, Y.Z.r_ct, Y.Z.cut_tup, Y.Z.cut_lst, Y.Z.cut_rd, Y.Z.rev_tup, Y.Z.tr_bl, Y.Z.tr_int, Y.Z.tr_tup, Y.Z.tr_lst, Y.Z.refL_lst, Y.Z.getO_lst, Y.Z.r_ref, Y.Z.lstOf_ref, Y.Z.len_ref, Y.Z.tup_ref, Y.Z.lst_ref, Y.Z.w_ref, Y.Z.we_ref, Y.Z.cut_ref, Y.Z.tr_ref, Y.Z.s_ref, Y.Z.so_lst, Y.Z.a_ref, Y.Z.po_ref, Y.Z.ixN_lit, Y.Z.atI_lit, Y.isD, Y.tyD, Y.subTy, Y.Z.fin_rtc, Y.Z.fin_rta, Y.Z.fin_nx, Y.D.lt, Y.ltL, Y.Z.ltL_ints, Y.Z.still_nil2, Y.Z.still_tup, Y.Z.still_ct, Y.Z.still_rd, Y.Z.still_lst, Y.wipe, Y.Z.blO_some, Y.Z.y_par, Y.Z.y_par3, Y.Z.kPar31_e, Y.Z.kPar32_e, Y.Z.kPar33_e, Y.Z.y_expr, Y.Z.y_ret, Y.Z.y_for, Y.Z.x_while, Y.Z.kAsg_e, Y.Z.kAug3_e, Y.Z.kAug2_e, Y.Z.kAug1_e, Y.Z.kIte_e, Y.Z.kPar2_e, Y.Z.kPar1_e, Y.Z.kExpr_e, Y.Z.kFor_e, Y.Z.kBin1_e, Y.Z.kNeg_e, Y.Z.kCmp2_e, Y.Z.kCmp1_e, Y.Z.kC23_e, Y.Z.kC22_e, Y.Z.kC21_e, Y.Z.kAnd_e, Y.Z.kOr_e, Y.Z.kNot_e, Y.Z.kIfe_e, Y.Z.kTup_e, Y.Z.kLst_e, Y.Z.kDic_e, Y.Z.kIx1_e, Y.Z.kSl2_e, Y.Z.kSl1_e, Y.Z.kCall_e, Y.Z.kCK3_e, Y.Z.kCK2_e, Y.Z.kCK1_e, Y.Z.kApp1_e, Y.Z.kG2_e, Y.Z.kG1_e, Y.Z.lcF3_e, Y.Z.lcF2_e, Y.Z.lcF1_e, Y.Z.kLc_e, Y.Z.lcG1_e, Y.Z.lcH2_e, Y.Z.lcH1_e, Y.Z.kLc2_e, Y.Z.kL2_e, Y.Z.kL1_e, Y.Z.kInt_e, Y.Z.kTru_e, Y.Z.kCp2_e, Y.Z.kCp1_e, Y.Z.kCq3_e, Y.Z.kCq2_e, Y.Z.kCq1_e, Y.Z.kCand_e, Y.Z.kCor_e, Y.Z.kCnot_e, Y.Z.kR2_e, Y.Z.kZ_e, Y.Z.kGx3_e, Y.Z.kGx2_e, Y.Z.kGx1_e, Y.Z.kWh_e, Y.Z.k_len_e, Y.Z.k_tup_e, Y.Z.k_lst_e, Y.Z.k_w_e, Y.Z.k_we_e, Y.Z.k_cut_e, Y.Z.k_tr_e, Y.Z.sK2_e, Y.Z.sK1_e, Y.Z.soK_e, Y.Z.k_ap_e, Y.Z.k_po2_e, Y.Z.k_po_e, ir_word_at, hc, h5, h5', fx]
  · generalize ss.map D.int = S at *
    cases d <;> first | (exact absurd ⟨_, rfl⟩ ht) | (cases hd; done) | simp (implicitDefEqProofs := false) [Y.Z.x_nil, Y.Z.x_cons, Y.Z.bind_ok, Y.Z.bind_ex, Y.Z.lift_ok, Y.Z.lift_ex, Y.Z.noEx_ok, Y.Z.seq_nx, Y.Z.seq_rt, Y.Z.seq_bk, Y.Z.seq_ct, Y.Z.seq_ex, Y.Z.kRaise_e, Y.Z.y_raise, Y.Z.y_tryv, Y.Z.tv_nx, Y.Z.tv_rt, Y.Z.tv_ex, Y.hkD, Y.Z.e_fld, Y.Z.fld_e, Y.Z.loop_nx, Y.Z.loop_rt, Y.Z.loop_bk, Y.Z.loop_ct, Y.Z.asT_ok, Y.Z.opt_some, Y.Z.var_some, Y.Z.y_asg, Y.Z.y_aug, Y.Z.y_ite, Y.Z.x_retN, Y.Z.x_brk, Y.Z.x_cnt, Y.Z.x_pass, Y.Z.e_var, Y.Z.e_cst, Y.Z.e_glo, Y.Z.e_bin, Y.Z.e_neg, Y.Z.e_cmp, Y.Z.e_cmp2, Y.Z.e_and, Y.Z.e_or, Y.Z.e_not, Y.Z.e_ife, Y.Z.e_tup, Y.Z.e_lst, Y.Z.e_dic, Y.Z.e_dic0, Y.Z.e_ix, Y.Z.e_sl, Y.Z.e_rev, Y.Z.e_call, Y.Z.e_callK, Y.Z.e_blt, Y.Z.e_isi, Y.Z.e_isq, Y.Z.e_app, Y.Z.e_pop, Y.Z.e_ext, Y.Z.kExt1_e, Y.Z.k_ex_e, Y.Z.k_ex2_e, Y.Z.ex_ref, Y.Z.t_max1, Y.Z.t_min1, Y.Z.e_get2, Y.Z.e_lc, Y.Z.e_lc2, Y.Z.l_nil, Y.Z.l_cons, Y.Z.o_non, Y.Z.o_som, Y.Z.c_val, Y.Z.c_cp, Y.Z.c_cp2, Y.Z.c_and, Y.Z.c_or, Y.Z.c_not, Y.Z.co_non, Y.Z.co_som, Y.Z.i_seq, Y.Z.i_rng1, Y.Z.i_rng2, Y.Z.i_enm, Y.Z.i_zip, Y.Z.g_nm, Y.Z.g_tup, Y.Z.g_ct, Y.Z.g_ix, Y.Z.gs_nil, Y.Z.gs_cons, Y.Z.b_add, Y.Z.b_sub, Y.Z.b_mul, Y.Z.b_div, Y.Z.b_mod, Y.Z.b_pow, Y.Z.b_tup, Y.Z.b_lst, Y.Z.b_mulL, Y.Z.c_lt, Y.Z.c_le, Y.Z.c_gt, Y.Z.c_ge, Y.Z.c_eq, Y.Z.c_ne, Y.Z.c_isN, Y.Z.c_notN, Y.Z.c_isB, Y.Z.c_notB, Y.isNon, Y.Z.newL_f, Y.Z.newL_t, Y.Z.t_len, Y.Z.t_sum, Y.Z.t_any, Y.Z.t_all, Y.Z.t_abs, Y.Z.t_min, Y.Z.t_max, Y.Z.t_tuple, Y.Z.t_list, Y.Z.t_int, Y.Z.t_repr, Y.Z.t_str, Y.Z.st_str, Y.Z.st_int, Y.Z.st_tup, Y.Z.len_tup, Y.Z.len_lst, Y.Z.len_rd, Y.Z.len_ct, Y.Z.tup_lst, Y.Z.tup_tup, Y.Z.tup_ct, Y.Z.lst_lst, Y.Z.lst_tup, Y.Z.sum_ints, Y.Z.sum_ints', Y.Z.w_tup, Y.Z.w_lst, Y.Z.w_rd, Y.Z.w_ct, Y.Z.we_tup, Y.Z.we_lst, Y.Z.we_ct, Y.Z.wz_tl, Y.Z.wz_ll, Y.Z.wz_tt, Y.Z.r_tup, Y.Z.r_lst, Y.Z.r_rd, Y.Z.r_ct, Y.Z.cut_tup, Y.Z.cut_lst, Y.Z.cut_rd, Y.Z.rev_tup, Y.Z.tr_bl, Y.Z.tr_int, Y.Z.tr_tup, Y.Z.tr_lst, Y.Z.refL_lst, Y.Z.getO_lst, Y.Z.r_ref, Y.Z.lstOf_ref, Y.Z.len_ref, Y.Z.tup_ref, Y.Z.lst_ref, Y.Z.w_ref, Y.Z.we_ref, Y.Z.cut_ref, Y.Z.tr_ref, Y.Z.s_ref, Y.Z.so_lst, Y.Z.a_ref, Y.Z.po_ref, Y.Z.ixN_lit, Y.Z.atI_lit, Y.isD, Y.tyD, Y.subTy, Y.Z.fin_rtc, Y.Z.fin_rta, Y.Z.fin_nx, Y.D.lt, Y.ltL, Y.Z.ltL_ints, Y.Z.still_nil2, Y.Z.still_tup, Y.Z.still_ct, Y.Z.still_rd, Y.Z.still_lst, Y.wipe, Y.Z.blO_some, Y.Z.y_par, Y.Z.y_par3, Y.Z.kPar31_e, Y.Z.kPar32_e, Y.Z.kPar33_e, Y.Z.y_expr, Y.Z.y_ret, Y.Z.y_for, Y.Z.x_while, Y.Z.kAsg_e, Y.Z.kAug3_e, Y.Z.kAug2_e, Y.Z.kAug1_e, Y.Z.kIte_e, Y.Z.kPar2_e, Y.Z.kPar1_e, Y.Z.kExpr_e, Y.Z.kFor_e, Y.Z.kBin1_e, Y.Z.kNeg_e, Y.Z.kCmp2_e, Y.Z.kCmp1_e, Y.Z.kC23_e, Y.Z.kC22_e, Y.Z.kC21_e, Y.Z.kAnd_e, Y.Z.kOr_e, Y.Z.kNot_e, Y.Z.kIfe_e, Y.Z.kTup_e, Y.Z.kLst_e, Y.Z.kDic_e, Y.Z.kIx1_e, Y.Z.kSl2_e, Y.Z.kSl1_e, Y.Z.kCall_e, Y.Z.kCK3_e, Y.Z.kCK2_e, Y.Z.kCK1_e, Y.Z.kApp1_e, Y.Z.kG2_e, Y.Z.kG1_e, Y.Z.lcF3_e, Y.Z.lcF2_e, Y.Z.lcF1_e, Y.Z.kLc_e, Y.Z.lcG1_e, Y.Z.lcH2_e, Y.Z.lcH1_e, Y.Z.kLc2_e, Y.Z.kL2_e, Y.Z.kL1_e, Y.Z.kInt_e, Y.Z.kTru_e, Y.Z.kCp2_e, Y.Z.kCp1_e, Y.Z.kCq3_e, Y.Z.kCq2_e, Y.Z.kCq1_e, Y.Z.kCand_e, Y.Z.kCor_e, Y.Z.kCnot_e, Y.Z.kR2_e, Y.Z.kZ_e, Y.Z.kGx3_e, Y.Z.kGx2_e, Y.Z.kGx1_e, Y.Z.kWh_e, Y.Z.k_len_e, Y.Z.k_tup_e, Y.Z.k_lst_e, Y.Z.k_w_e, Y.Z.k_we_e, Y.Z.k_cut_e, Y.Z.k_tr_e, Y.Z.sK2_e, Y.Z.sK1_e, Y.Z.soK_e, Y.Z.k_ap_e, Y.Z.k_po2_e, Y.Z.k_po_e, ir_word_at, hc, fx]
theorem word_at_word (ys : List D) (hy : ∀ y ∈ ys, smA y) (hy3 : ys.length = 3) (hya : ys.all (elB (wid ss)) = true) (d : D) (hd : smA d) (hl : d.lt 0 = true) (hb : wordB d = false) (b : Nat) (st : Stt) : callF tbl glo 100000 38 14 [.tup (ss.map .int), .tup ys, d] b st = .ex 3 d st := by
  rw [en_word_at]
  have hc := fun b st => sp_check_space 33 ss hs h3 h0 hw b st
  have hcw := fun b st => check_word_any 34 d hd hl b st
  have fx := fun env => fin_ex (c := 3) (mode := 0) (env := env) hl st
  have ec := elc ss hs h3 hw h0 ys hy (by omega)
  have ea := fun st => all_map (elB (wid ss)) ys st
  have h5' : ((ys.length : Int) = 3) := by omega
  generalize ss.map D.int = S at *
  simp (implicitDefEqProofs := false) [Y.Z.x_nil, Y.Z.x_cons, Y.Z.bind_ok, Y.Z.bind_ex, Y.Z.lift_ok, Y.Z.lift_ex, Y.Z.noEx_ok, Y.Z.seq_nx, Y.Z.seq_rt, Y.Z.seq_bk, Y.Z.seq_ct, Y.Z.seq_ex, Y.Z.kRaise_e, Y.Z.y_raise, Y.Z.y_tryv, Y.Z.tv_nx, Y.Z.tv_rt, Y.Z.tv_ex, Y.hkD, Y.Z.e_fld, Y.Z.fld_e, Y.Z.loop_nx, Y.Z.loop_rt, Y.Z.loop_bk, Y.Z.loop_ct, Y.Z.asT_ok, Y.Z.opt_some, Y.Z.var_some, Y.Z.y_asg, Y.Z.y_aug, Y.Z.y_ite, Y.Z.x_retN, Y.Z.x_brk, Y.Z.x_cnt, Y.Z.x_pass, Y.Z.e_var, Y.Z.e_cst, Y.Z.e_glo, Y.Z.e_bin, Y.Z.e_neg, Y.Z.e_cmp, Y.Z.e_cmp2, Y.Z.e_and, Y.Z.e_or, Y.Z.e_not, Y.Z.e_ife, Y.Z.e_tup, Y.Z.e_lst, Y.Z.e_dic, Y.Z.e_dic0, Y.Z.e_ix, Y.Z.e_sl, Y.Z.e_rev, Y.Z.e_call, Y.Z.e_callK, Y.Z.e_blt, Y.Z.e_isi, Y.Z.e_isq, Y.Z.e_app, Y.Z.e_pop, Y.Z.e_ext, Y.Z.kExt1_e, Y.Z.k_ex_e, Y.Z.k_ex2_e, Y.Z.ex_ref, Y.Z.t_max1, Y.Z.t_min1, Y.Z.e_get2, Y.Z.e_lc, Y.Z.e_lc2, Y.Z.l_nil, Y.Z.l_cons, Y.Z.o_non, Y.Z.o_som, Y.Z.c_val, Y.Z.c_cp, Y.Z.c_cp2, Y.Z.c_and, Y.Z.c_or, Y.Z.c_not, Y.Z.co_non, Y.Z.co_som, Y.Z.i_seq, Y.Z.i_rng1, Y.Z.i_rng2, Y.Z.i_enm, Y.Z.i_zip, Y.Z.g_nm, Y.Z.g_tup, Y.Z.g_ct, Y.Z.g_ix, Y.Z.gs_nil, Y.Z.gs_cons, Y.Z.b_add, Y.Z.b_sub, Y.Z.b_mul, Y.Z.b_div, Y.Z.b_mod, Y.Z.b_pow, Y.Z.b_tup, Y.Z.b_lst, Y.Z.b_mulL, Y.Z.c_lt, Y.Z.c_le, Y.Z.c_gt, Y.Z.c_ge, Y.Z.c_eq, Y.Z.c_ne, Y.Z.c_isN, Y.Z.c_notN, Y.Z.c_isB, Y.Z.c_notB, Y.isNon, Y.Z.newL_f, Y.Z.newL_t, Y.Z.t_len, Y.Z.t_sum, Y.Z.t_any, Y.Z.t_all, Y.Z.t_abs, Y.Z.t_min, Y.Z.t_max, Y.Z.t_tuple, Y.Z.t_list, Y.Z.t_int, Y.Z.t_repr, Y.Z.t_str, Y.Z.st_str, Y.Z.st_int, Y.Z.st_tup, Y.Z.len_tup, Y.Z.len_lst, Y.Z.len_rd, Y.Z.len_ct, Y.Z.tup_lst, Y.Z.tup_tup, Y.Z.tup_ct, Y.Z.lst_lst, Y.Z.lst_tup, Y.Z.sum_ints, Y.Z.sum_ints', Y.Z.w_tup, Y.Z.w_lst, Y.Z.w_rd, Y.Z.w_ct, Y.Z.we_tup, Y.Z.we_lst, Y.Z.we_ct, Y.Z.wz_tl, Y.Z.wz_ll, Y.Z.wz_tt, Y.Z.r_tup, Y.Z.r_lst, Y.Z.r_rd, Y.Z.r_ct, Y.Z.cut_tup, Y.Z.cut_lst, Y.Z.cut_rd, Y.Z.rev_tup, Y.Z.tr_bl, Y.Z.tr_int, Y.Z.tr_tup, Y.Z.tr_lst, Y.Z.refL_lst, Y.Z.getO_lst, Y.Z.r_ref, Y.Z.lstOf_ref, Y.Z.len_ref, Y.Z.tup_ref, Y.Z.lst_ref, Y.Z.w_ref, Y.Z.we_ref, Y.Z.cut_ref, Y.Z.tr_ref, Y.Z.s_ref, Y.Z.so_lst, Y.Z.a_ref, Y.Z.po_ref, Y.Z.ixN_lit, Y.Z.atI_lit, Y.isD, Y.tyD, Y.subTy, Y.Z.fin_rtc, Y.Z.fin_rta, Y.Z.fin_nx, Y.D.lt, Y.ltL, Y.Z.ltL_ints, Y.Z.still_nil2, Y.Z.still_tup, Y.Z.still_ct, Y.Z.still_rd, Y.Z.still_lst, Y.wipe, Y.Z.blO_some, Y.Z.y_par, Y.Z.y_par3, Y.Z.kPar31_e, Y.Z.kPar32_e, Y.Z.kPar33_e, Y.Z.y_expr, Y.Z.y_ret, Y.Z.y_for, Y.Z.x_while, Y.Z.kAsg_e, Y.Z.kAug3_e, Y.Z.kAug2_e, Y.Z.kAug1_e, Y.Z.kIte_e, Y.Z.kPar2_e, Y.Z.kPar1_e, Y.Z.kExpr_e, Y.Z.kFor_e, Y.Z.kBin1_e, Y.Z.kNeg_e, Y.Z.kCmp2_e, Y.Z.kCmp1_e, Y.Z.kC23_e, Y.Z.kC22_e, Y.Z.kC21_e, Y.Z.kAnd_e, Y.Z.kOr_e, Y.Z.kNot_e, Y.Z.kIfe_e, Y.Z.kTup_e, Y.Z.kLst_e, Y.Z.kDic_e, Y.Z.kIx1_e, Y.Z.kSl2_e, Y.Z.kSl1_e, Y.Z.kCall_e, Y.Z.kCK3_e, Y.Z.kCK2_e, Y.Z.kCK1_e, Y.Z.kApp1_e, Y.Z.kG2_e, Y.Z.kG1_e, Y.Z.lcF3_e, Y.Z.lcF2_e, Y.Z.lcF1_e, Y.Z.kLc_e, Y.Z.lcG1_e, Y.Z.lcH2_e, Y.Z.lcH1_e, Y.Z.kLc2_e, Y.Z.kL2_e, Y.Z.kL1_e, Y.Z.kInt_e, Y.Z.kTru_e, Y.Z.kCp2_e, Y.Z.kCp1_e, Y.Z.kCq3_e, Y.Z.kCq2_e, Y.Z.kCq1_e, Y.Z.kCand_e, Y.Z.kCor_e, Y.Z.kCnot_e, Y.Z.kR2_e, Y.Z.kZ_e, Y.Z.kGx3_e, Y.Z.kGx2_e, Y.Z.kGx1_e, Y.Z.kWh_e, Y.Z.k_len_e, Y.Z.k_tup_e, Y.Z.k_lst_e, Y.Z.k_w_e, Y.Z.k_we_e, Y.Z.k_cut_e, Y.Z.k_tr_e, Y.Z.sK2_e, Y.Z.sK1_e, Y.Z.soK_e, Y.Z.k_ap_e, Y.Z.k_po2_e, Y.Z.k_po_e, ir_word_at, hc, hcw, hb, hy3, h5', ec, ea, hya, fx]
end
section
variable (d : D) (hd : smA d) (hl : d.lt 0 = true) (hb : wordB d = false)
include hd hl hb
theorem leaving_bad (b : Nat) (st : Stt) : callF tbl glo 100000 38 16 [d] b st = .ex 3 d st := by
  rw [en_leaving_out]
  have hcw := fun b st => check_word_any 34 d hd hl b st
  have fx := fun env => fin_ex (c := 3) (mode := 0) (env := env) hl st
  simp (implicitDefEqProofs := false) [Y.Z.x_nil, Y.Z.x_cons, Y.Z.bind_ok, Y.Z.bind_ex, Y.Z.lift_ok, Y.Z.lift_ex, Y.Z.noEx_ok, Y.Z.seq_nx, Y.Z.seq_rt, Y.Z.seq_bk, Y.Z.seq_ct, Y.Z.seq_ex, Y.Z.kRaise_e, Y.Z.y_raise, Y.Z.y_tryv, Y.Z.tv_nx, Y.Z.tv_rt, Y.Z.tv_ex, Y.hkD, Y.Z.e_fld, Y.Z.fld_e, Y.Z.loop_nx, Y.Z.loop_rt, Y.Z.loop_bk, Y.Z.loop_ct, Y.Z.asT_ok, Y.Z.opt_some, Y.Z.var_some, Y.Z.y_asg, Y.Z.y_aug, Y.Z.y_ite, Y.Z.x_retN, Y.Z.x_brk, Y.Z.x_cnt, Y.Z.x_pass, Y.Z.e_var, Y.Z.e_cst, Y.Z.e_glo, Y.Z.e_bin, Y.Z.e_neg, Y.Z.e_cmp, Y.Z.e_cmp2, Y.Z.e_and, Y.Z.e_or, Y.Z.e_not, Y.Z.e_ife, Y.Z.e_tup, Y.Z.e_lst, Y.Z.e_dic, Y.Z.e_dic0, Y.Z.e_ix, Y.Z.e_sl, Y.Z.e_rev, Y.Z.e_call, Y.Z.e_callK, Y.Z.e_blt, Y.Z.e_isi, Y.Z.e_isq, Y.Z.e_app, Y.Z.e_pop, Y.Z.e_ext, Y.Z.kExt1_e, Y.Z.k_ex_e, Y.Z.k_ex2_e, Y.Z.ex_ref, Y.Z.t_max1, Y.Z.t_min1, Y.Z.e_get2, Y.Z.e_lc, Y.Z.e_lc2, Y.Z.l_nil, Y.Z.l_cons, Y.Z.o_non, Y.Z.o_som, Y.Z.c_val, Y.Z.c_cp, Y.Z.c_cp2, Y.Z.c_and, Y.Z.c_or, Y.Z.c_not, Y.Z.co_non, Y.Z.co_som, Y.Z.i_seq, Y.Z.i_rng1, Y.Z.i_rng2, Y.Z.i_enm, Y.Z.i_zip, Y.Z.g_nm, Y.Z.g_tup, Y.Z.g_ct, Y.Z.g_ix, Y.Z.gs_nil, Y.Z.gs_cons, Y.Z.b_add, Y.Z.b_sub, Y.Z.b_mul, Y.Z.b_div, Y.Z.b_mod, Y.Z.b_pow, Y.Z.b_tup, Y.Z.b_lst, Y.Z.b_mulL, Y.Z.c_lt, Y.Z.c_le, Y.Z.c_gt, Y.Z.c_ge, Y.Z.c_eq, Y.Z.c_ne, Y.Z.c_isN, Y.Z.c_notN, Y.Z.c_isB, Y.Z.c_notB, Y.isNon, Y.Z.newL_f, Y.Z.newL_t, Y.Z.t_len, Y.Z.t_sum, Y.Z.t_any, Y.Z.t_all, Y.Z.t_abs, Y.Z.t_min, Y.Z.t_max, Y.Z.t_tuple, Y.Z.t_list, Y.Z.t_int, Y.Z.t_repr, Y.Z.t_str, Y.Z.st_str, Y.Z.st_int, Y.Z.st_tup, Y.Z.len_tup, Y.Z.len_lst, Y.Z.len_rd, Y.Z.len_ct, Y.Z.tup_lst, Y.Z.tup_tup, Y.Z.tup_ct, Y.Z.lst_lst, Y.Z.lst_tup, Y.Z.sum_ints, Y.Z.sum_ints', Y.Z.w_tup, Y.Z.w_lst, Y.Z.w_rd, Y.Z.w_ct, Y.Z.we_tup, Y.Z.we_lst, Y.Z.we_ct, Y.Z.wz_tl, Y.Z.wz_ll, Y.Z.wz_tt, Y.Z.r_tup, Y.Z.r_lst, Y.Z.r_rd, Y.Z.r_ct, Y.Z.cut_tup, Y.Z.cut_lst, Y.Z.cut_rd, Y.Z.rev_tup, Y.Z.tr_bl, Y.Z.tr_int, Y.Z.tr_tup, Y.Z.tr_lst, Y.Z.refL_lst, Y.Z.getO_lst, Y.Z.r_ref, Y.Z.lstOf_ref, Y.Z.len_ref, Y.Z.tup_ref, Y.Z.lst_ref, Y.Z.w_ref, Y.Z.we_ref, Y.Z.cut_ref, Y.Z.tr_ref, Y.Z.s_ref, Y.Z.so_lst, Y.Z.a_ref, Y.Z.po_ref, Y.Z.ixN_lit, Y.Z.atI_lit, Y.isD, Y.tyD, Y.subTy, Y.Z.fin_rtc, Y.Z.fin_rta, Y.Z.fin_nx, Y.D.lt, Y.ltL, Y.Z.ltL_ints, Y.Z.still_nil2, Y.Z.still_tup, Y.Z.still_ct, Y.Z.still_rd, Y.Z.still_lst, Y.wipe, Y.Z.blO_some, Y.Z.y_par, Y.Z.y_par3, Y.Z.kPar31_e, Y.Z.kPar32_e, Y.Z.kPar33_e, Y.Z.y_expr, Y.Z.y_ret, Y.Z.y_for, Y.Z.x_while, Y.Z.kAsg_e, Y.Z.kAug3_e, Y.Z.kAug2_e, Y.Z.kAug1_e, Y.Z.kIte_e, Y.Z.kPar2_e, Y.Z.kPar1_e, Y.Z.kExpr_e, Y.Z.kFor_e, Y.Z.kBin1_e, Y.Z.kNeg_e, Y.Z.kCmp2_e, Y.Z.kCmp1_e, Y.Z.kC23_e, Y.Z.kC22_e, Y.Z.kC21_e, Y.Z.kAnd_e, Y.Z.kOr_e, Y.Z.kNot_e, Y.Z.kIfe_e, Y.Z.kTup_e, Y.Z.kLst_e, Y.Z.kDic_e, Y.Z.kIx1_e, Y.Z.kSl2_e, Y.Z.kSl1_e, Y.Z.kCall_e, Y.Z.kCK3_e, Y.Z.kCK2_e, Y.Z.kCK1_e, Y.Z.kApp1_e, Y.Z.kG2_e, Y.Z.kG1_e, Y.Z.lcF3_e, Y.Z.lcF2_e, Y.Z.lcF1_e, Y.Z.kLc_e, Y.Z.lcG1_e, Y.Z.lcH2_e, Y.Z.lcH1_e, Y.Z.kLc2_e, Y.Z.kL2_e, Y.Z.kL1_e, Y.Z.kInt_e, Y.Z.kTru_e, Y.Z.kCp2_e, Y.Z.kCp1_e, Y.Z.kCq3_e, Y.Z.kCq2_e, Y.Z.kCq1_e, Y.Z.kCand_e, Y.Z.kCor_e, Y.Z.kCnot_e, Y.Z.kR2_e, Y.Z.kZ_e, Y.Z.kGx3_e, Y.Z.kGx2_e, Y.Z.kGx1_e, Y.Z.kWh_e, Y.Z.k_len_e, Y.Z.k_tup_e, Y.Z.k_lst_e, Y.Z.k_w_e, Y.Z.k_we_e, Y.Z.k_cut_e, Y.Z.k_tr_e, Y.Z.sK2_e, Y.Z.sK1_e, Y.Z.soK_e, Y.Z.k_ap_e, Y.Z.k_po2_e, Y.Z.k_po_e, ir_leaving_out, hcw, hb, fx]
theorem expansion_bad (e : D) (b : Nat) (st : Stt) : callF tbl glo 100000 38 18 [d, e] b st = .ex 3 d st := by
  rw [en_expansion]
  have hcw := fun b st => check_word_any 34 d hd hl b st
  have fx := fun env => fin_ex (c := 3) (mode := 0) (env := env) hl st
  simp (implicitDefEqProofs := false) [Y.Z.x_nil, Y.Z.x_cons, Y.Z.bind_ok, Y.Z.bind_ex, Y.Z.lift_ok, Y.Z.lift_ex, Y.Z.noEx_ok, Y.Z.seq_nx, Y.Z.seq_rt, Y.Z.seq_bk, Y.Z.seq_ct, Y.Z.seq_ex, Y.Z.kRaise_e, Y.Z.y_raise, Y.Z.y_tryv, Y.Z.tv_nx, Y.Z.tv_rt, Y.Z.tv_ex, Y.hkD, Y.Z.e_fld, Y.Z.fld_e, Y.Z.loop_nx, Y.Z.loop_rt, Y.Z.loop_bk, Y.Z.loop_ct, Y.Z.asT_ok, Y.Z.opt_some, Y.Z.var_some, Y.Z.y_asg, Y.Z.y_aug, Y.Z.y_ite, Y.Z.x_retN, Y.Z.x_brk, Y.Z.x_cnt, Y.Z.x_pass, Y.Z.e_var, Y.Z.e_cst, Y.Z.e_glo, Y.Z.e_bin, Y.Z.e_neg, Y.Z.e_cmp, Y.Z.e_cmp2, Y.Z.e_and, Y.Z.e_or, Y.Z.e_not, Y.Z.e_ife, Y.Z.e_tup, Y.Z.e_lst, Y.Z.e_dic, Y.Z.e_dic0, Y.Z.e_ix, Y.Z.e_sl, Y.Z.e_rev, Y.Z.e_call, Y.Z.e_callK, Y.Z.e_blt, Y.Z.e_isi, Y.Z.e_isq, Y.Z.e_app, Y.Z.e_pop, Y.Z.e_ext, Y.Z.kExt1_e, Y.Z.k_ex_e, Y.Z.k_ex2_e, Y.Z.ex_ref, Y.Z.t_max1, Y.Z.t_min1, Y.Z.e_get2, Y.Z.e_lc, Y.Z.e_lc2, Y.Z.l_nil, Y.Z.l_cons, Y.Z.o_non, Y.Z.o_som, Y.Z.c_val, Y.Z.c_cp, Y.Z.c_cp2, Y.Z.c_and, Y.Z.c_or, Y.Z.c_not, Y.Z.co_non, Y.Z.co_som, Y.Z.i_seq, Y.Z.i_rng1, Y.Z.i_rng2, Y.Z.i_enm, Y.Z.i_zip, Y.Z.g_nm, Y.Z.g_tup, Y.Z.g_ct, Y.Z.g_ix, Y.Z.gs_nil, Y.Z.gs_cons, Y.Z.b_add, Y.Z.b_sub, Y.Z.b_mul, Y.Z.b_div, Y.Z.b_mod, Y.Z.b_pow, Y.Z.b_tup, Y.Z.b_lst, Y.Z.b_mulL, Y.Z.c_lt, Y.Z.c_le, Y.Z.c_gt, Y.Z.c_ge, Y.Z.c_eq, Y.Z.c_ne, Y.Z.c_isN, Y.Z.c_notN, Y.Z.c_isB, Y.Z.c_notB, Y.isNon, Y.Z.newL_f, Y.Z.newL_t, Y.Z.t_len, Y.Z.t_sum, Y.Z.t_any, Y.Z.t_all, Y.Z.t_abs, Y.Z.t_min, Y.Z.t_max, Y.Z.t_tuple, Y.Z.t_list, Y.Z.t_int, Y.Z.t_repr, Y.Z.t_str, Y.Z.st_str, Y.Z.st_int, Y.Z.st_tup, Y.Z.len_tup, Y.Z.len_lst, Y.Z.len_rd, Y.Z.len_ct, Y.Z.tup_lst, Y.Z.tup_tup, Y.Z.tup_ct, Y.Z.lst_lst, Y.Z.lst_tup, Y.Z.sum_ints, Y.Z.sum_ints', Y.Z.w_tup, Y.Z.w_lst, Y.Z.w_rd, Y.Z.w_ct, Y.Z.we_tup, Y.Z.we_lst, Y.Z.we_ct, Y.Z.wz_tl, Y.Z.wz_ll, Y.Z.wz_tt, Y.Z.r_tup, Y.Z.r_lst, Y.Z.r_rd, Y.Z.r_ct, Y.Z.cut_tup, Y.Z.cut_lst, Y.Z.cut_rd, Y.Z.rev_tup, Y.Z.tr_bl, Y.Z.tr_int, Y.Z.tr_tup, Y.Z.tr_lst, Y.Z.refL_lst, Y.Z.getO_lst, Y.Z.r_ref, Y.Z.lstOf_ref, Y.Z.len_ref, Y.Z.tup_ref, Y.Z.lst_ref, Y.Z.w_ref, Y.Z.we_ref, Y.Z.cut_ref, Y.Z.tr_ref, Y.Z.s_ref, Y.Z.so_lst, Y.Z.a_ref, Y.Z.po_ref, Y.Z.ixN_lit, Y.Z.atI_lit, Y.isD, Y.tyD, Y.subTy, Y.Z.fin_rtc, Y.Z.fin_rta, Y.Z.fin_nx, Y.D.lt, Y.ltL, Y.Z.ltL_ints, Y.Z.still_nil2, Y.Z.still_tup, Y.Z.still_ct, Y.Z.still_rd, Y.Z.still_lst, Y.wipe, Y.Z.blO_some, Y.Z.y_par, Y.Z.y_par3, Y.Z.kPar31_e, Y.Z.kPar32_e, Y.Z.kPar33_e, Y.Z.y_expr, Y.Z.y_ret, Y.Z.y_for, Y.Z.x_while, Y.Z.kAsg_e, Y.Z.kAug3_e, Y.Z.kAug2_e, Y.Z.kAug1_e, Y.Z.kIte_e, Y.Z.kPar2_e, Y.Z.kPar1_e, Y.Z.kExpr_e, Y.Z.kFor_e, Y.Z.kBin1_e, Y.Z.kNeg_e, Y.Z.kCmp2_e, Y.Z.kCmp1_e, Y.Z.kC23_e, Y.Z.kC22_e, Y.Z.kC21_e, Y.Z.kAnd_e, Y.Z.kOr_e, Y.Z.kNot_e, Y.Z.kIfe_e, Y.Z.kTup_e, Y.Z.kLst_e, Y.Z.kDic_e, Y.Z.kIx1_e, Y.Z.kSl2_e, Y.Z.kSl1_e, Y.Z.kCall_e, Y.Z.kCK3_e, Y.Z.kCK2_e, Y.Z.kCK1_e, Y.Z.kApp1_e, Y.Z.kG2_e, Y.Z.kG1_e, Y.Z.lcF3_e, Y.Z.lcF2_e, Y.Z.lcF1_e, Y.Z.kLc_e, Y.Z.lcG1_e, Y.Z.lcH2_e, Y.Z.lcH1_e, Y.Z.kLc2_e, Y.Z.kL2_e, Y.Z.kL1_e, Y.Z.kInt_e, Y.Z.kTru_e, Y.Z.kCp2_e, Y.Z.kCp1_e, Y.Z.kCq3_e, Y.Z.kCq2_e, Y.Z.kCq1_e, Y.Z.kCand_e, Y.Z.kCor_e, Y.Z.kCnot_e, Y.Z.kR2_e, Y.Z.kZ_e, Y.Z.kGx3_e, Y.Z.kGx2_e, Y.Z.kGx1_e, Y.Z.kWh_e, Y.Z.k_len_e, Y.Z.k_tup_e, Y.Z.k_lst_e, Y.Z.k_w_e, Y.Z.k_we_e, Y.Z.k_cut_e, Y.Z.k_tr_e, Y.Z.sK2_e, Y.Z.sK1_e, Y.Z.soK_e, Y.Z.k_ap_e, Y.Z.k_po2_e, Y.Z.k_po_e, ir_expansion, hcw, hb, fx]
theorem depth_bad (b : Nat) (st : Stt) : callF tbl glo 100000 38 19 [d] b st = .ex 3 d st := by
  rw [en_depth_of]
  have hcw := fun b st => check_word_any 34 d hd hl b st
  have fx := fun env => fin_ex (c := 3) (mode := 0) (env := env) hl st
  simp (implicitDefEqProofs := false) [Y.Z.x_nil, Y.Z.x_cons, Y.Z.bind_ok, Y.Z.bind_ex, Y.Z.lift_ok, Y.Z.lift_ex, Y.Z.noEx_ok, Y.Z.seq_nx, Y.Z.seq_rt, Y.Z.seq_bk, Y.Z.seq_ct, Y.Z.seq_ex, Y.Z.kRaise_e, Y.Z.y_raise, Y.Z.y_tryv, Y.Z.tv_nx, Y.Z.tv_rt, Y.Z.tv_ex, Y.hkD, Y.Z.e_fld, Y.Z.fld_e, Y.Z.loop_nx, Y.Z.loop_rt, Y.Z.loop_bk, Y.Z.loop_ct, Y.Z.asT_ok, Y.Z.opt_some, Y.Z.var_some, Y.Z.y_asg, Y.Z.y_aug, Y.Z.y_ite, Y.Z.x_retN, Y.Z.x_brk, Y.Z.x_cnt, Y.Z.x_pass, Y.Z.e_var, Y.Z.e_cst, Y.Z.e_glo, Y.Z.e_bin, Y.Z.e_neg, Y.Z.e_cmp, Y.Z.e_cmp2, Y.Z.e_and, Y.Z.e_or, Y.Z.e_not, Y.Z.e_ife, Y.Z.e_tup, Y.Z.e_lst, Y.Z.e_dic, Y.Z.e_dic0, Y.Z.e_ix, Y.Z.e_sl, Y.Z.e_rev, Y.Z.e_call, Y.Z.e_callK, Y.Z.e_blt, Y.Z.e_isi, Y.Z.e_isq, Y.Z.e_app, Y.Z.e_pop, Y.Z.e_ext, Y.Z.kExt1_e, Y.Z.k_ex_e, Y.Z.k_ex2_e, Y.Z.ex_ref, Y.Z.t_max1, Y.Z.t_min1, Y.Z.e_get2, Y.Z.e_lc, Y.Z.e_lc2, Y.Z.l_nil, Y.Z.l_cons, Y.Z.o_non, Y.Z.o_som, Y.Z.c_val, Y.Z.c_cp, Y.Z.c_cp2, Y.Z.c_and, Y.Z.c_or, Y.Z.c_not, Y.Z.co_non, Y.Z.co_som, Y.Z.i_seq, Y.Z.i_rng1, Y.Z.i_rng2, Y.Z.i_enm, Y.Z.i_zip, Y.Z.g_nm, Y.Z.g_tup, Y.Z.g_ct, Y.Z.g_ix, Y.Z.gs_nil, Y.Z.gs_cons, Y.Z.b_add, Y.Z.b_sub, Y.Z.b_mul, Y.Z.b_div, Y.Z.b_mod, Y.Z.b_pow, Y.Z.b_tup, Y.Z.b_lst, Y.Z.b_mulL, Y.Z.c_lt, Y.Z.c_le, Y.Z.c_gt, Y.Z.c_ge, Y.Z.c_eq, Y.Z.c_ne, Y.Z.c_isN, Y.Z.c_notN, Y.Z.c_isB, Y.Z.c_notB, Y.isNon, Y.Z.newL_f, Y.Z.newL_t, Y.Z.t_len, Y.Z.t_sum, Y.Z.t_any, Y.Z.t_all, Y.Z.t_abs, Y.Z.t_min, Y.Z.t_max, Y.Z.t_tuple, Y.Z.t_list, Y.Z.t_int, Y.Z.t_repr, Y.Z.t_str, Y.Z.st_str, Y.Z.st_int, Y.Z.st_tup, Y.Z.len_tup, Y.Z.len_lst, Y.Z.len_rd, Y.Z.len_ct, Y.Z.tup_lst, Y.Z.tup_tup, Y.Z.tup_ct, Y.Z.lst_lst, Y.Z.lst_tup, Y.Z.sum_ints, Y.Z.sum_ints', Y.Z.w_tup, Y.Z.w_lst, Y.Z.w_rd, Y.Z.w_ct, Y.Z.we_tup, Y.Z.we_lst, Y.Z.we_ct, Y.Z.wz_tl, Y.Z.wz_ll, Y.Z.wz_tt, Y.Z.r_tup, Y.Z.r_lst, Y.Z.r_rd, Y.Z.r_ct, Y.Z.cut_tup, Y.Z.cut_lst, Y.Z.cut_rd, Y.Z.rev_tup, Y.Z.tr_bl, Y.Z.tr_int, Y.Z.tr_tup, Y.Z.tr_lst, Y.Z.refL_lst, Y.Z.getO_lst, Y.Z.r_ref, Y.Z.lstOf_ref, Y.Z.len_ref, Y.Z.tup_ref, Y.Z.lst_ref, Y.Z.w_ref, Y.Z.we_ref, Y.Z.cut_ref, Y.Z.tr_ref, Y.Z.s_ref, Y.Z.so_lst, Y.Z.a_ref, Y.Z.po_ref, Y.Z.ixN_lit, Y.Z.atI_lit, Y.isD, Y.tyD, Y.subTy, Y.Z.fin_rtc, Y.Z.fin_rta, Y.Z.fin_nx, Y.D.lt, Y.ltL, Y.Z.ltL_ints, Y.Z.still_nil2, Y.Z.still_tup, Y.Z.still_ct, Y.Z.still_rd, Y.Z.still_lst, Y.wipe, Y.Z.blO_some, Y.Z.y_par, Y.Z.y_par3, Y.Z.kPar31_e, Y.Z.kPar32_e, Y.Z.kPar33_e, Y.Z.y_expr, Y.Z.y_ret, Y.Z.y_for, Y.Z.x_while, Y.Z.kAsg_e, Y.Z.kAug3_e, Y.Z.kAug2_e, Y.Z.kAug1_e, Y.Z.kIte_e, Y.Z.kPar2_e, Y.Z.kPar1_e, Y.Z.kExpr_e, Y.Z.kFor_e, Y.Z.kBin1_e, Y.Z.kNeg_e, Y.Z.kCmp2_e, Y.Z.kCmp1_e, Y.Z.kC23_e, Y.Z.kC22_e, Y.Z.kC21_e, Y.Z.kAnd_e, Y.Z.kOr_e, Y.Z.kNot_e, Y.Z.kIfe_e, Y.Z.kTup_e, Y.Z.kLst_e, Y.Z.kDic_e, Y.Z.kIx1_e, Y.Z.kSl2_e, Y.Z.kSl1_e, Y.Z.kCall_e, Y.Z.kCK3_e, Y.Z.kCK2_e, Y.Z.kCK1_e, Y.Z.kApp1_e, Y.Z.kG2_e, Y.Z.kG1_e, Y.Z.lcF3_e, Y.Z.lcF2_e, Y.Z.lcF1_e, Y.Z.kLc_e, Y.Z.lcG1_e, Y.Z.lcH2_e, Y.Z.lcH1_e, Y.Z.kLc2_e, Y.Z.kL2_e, Y.Z.kL1_e, Y.Z.kInt_e, Y.Z.kTru_e, Y.Z.kCp2_e, Y.Z.kCp1_e, Y.Z.kCq3_e, Y.Z.kCq2_e, Y.Z.kCq1_e, Y.Z.kCand_e, Y.Z.kCor_e, Y.Z.kCnot_e, Y.Z.kR2_e, Y.Z.kZ_e, Y.Z.kGx3_e, Y.Z.kGx2_e, Y.Z.kGx1_e, Y.Z.kWh_e, Y.Z.k_len_e, Y.Z.k_tup_e, Y.Z.k_lst_e, Y.Z.k_w_e, Y.Z.k_we_e, Y.Z.k_cut_e, Y.Z.k_tr_e, Y.Z.sK2_e, Y.Z.sK1_e, Y.Z.soK_e, Y.Z.k_ap_e, Y.Z.k_po2_e, Y.Z.k_po_e, ir_depth_of, hcw, hb, fx]
theorem identity_bad (e : D) (b : Nat) (st : Stt) : callF tbl glo 100000 38 21 [d, e] b st = .ex 3 d st := by
  rw [en_identity_for]
  have hcw := fun b st => check_word_any 34 d hd hl b st
  have fx := fun env => fin_ex (c := 3) (mode := 0) (env := env) hl st
  simp (implicitDefEqProofs := false) [Y.Z.x_nil, Y.Z.x_cons, Y.Z.bind_ok, Y.Z.bind_ex, Y.Z.lift_ok, Y.Z.lift_ex, Y.Z.noEx_ok, Y.Z.seq_nx, Y.Z.seq_rt, Y.Z.seq_bk, Y.Z.seq_ct, Y.Z.seq_ex, Y.Z.kRaise_e, Y.Z.y_raise, Y.Z.y_tryv, Y.Z.tv_nx, Y.Z.tv_rt, Y.Z.tv_ex, Y.hkD, Y.Z.e_fld, Y.Z.fld_e, Y.Z.loop_nx, Y.Z.loop_rt, Y.Z.loop_bk, Y.Z.loop_ct, Y.Z.asT_ok, Y.Z.opt_some, Y.Z.var_some, Y.Z.y_asg, Y.Z.y_aug, Y.Z.y_ite, Y.Z.x_retN, Y.Z.x_brk, Y.Z.x_cnt, Y.Z.x_pass, Y.Z.e_var, Y.Z.e_cst, Y.Z.e_glo, Y.Z.e_bin, Y.Z.e_neg, Y.Z.e_cmp, Y.Z.e_cmp2, Y.Z.e_and, Y.Z.e_or, Y.Z.e_not, Y.Z.e_ife, Y.Z.e_tup, Y.Z.e_lst, Y.Z.e_dic, Y.Z.e_dic0, Y.Z.e_ix, Y.Z.e_sl, Y.Z.e_rev, Y.Z.e_call, Y.Z.e_callK, Y.Z.e_blt, Y.Z.e_isi, Y.Z.e_isq, Y.Z.e_app, Y.Z.e_pop, Y.Z.e_ext, Y.Z.kExt1_e, Y.Z.k_ex_e, Y.Z.k_ex2_e, Y.Z.ex_ref, Y.Z.t_max1, Y.Z.t_min1, Y.Z.e_get2, Y.Z.e_lc, Y.Z.e_lc2, Y.Z.l_nil, Y.Z.l_cons, Y.Z.o_non, Y.Z.o_som, Y.Z.c_val, Y.Z.c_cp, Y.Z.c_cp2, Y.Z.c_and, Y.Z.c_or, Y.Z.c_not, Y.Z.co_non, Y.Z.co_som, Y.Z.i_seq, Y.Z.i_rng1, Y.Z.i_rng2, Y.Z.i_enm, Y.Z.i_zip, Y.Z.g_nm, Y.Z.g_tup, Y.Z.g_ct, Y.Z.g_ix, Y.Z.gs_nil, Y.Z.gs_cons, Y.Z.b_add, Y.Z.b_sub, Y.Z.b_mul, Y.Z.b_div, Y.Z.b_mod, Y.Z.b_pow, Y.Z.b_tup, Y.Z.b_lst, Y.Z.b_mulL, Y.Z.c_lt, Y.Z.c_le, Y.Z.c_gt, Y.Z.c_ge, Y.Z.c_eq, Y.Z.c_ne, Y.Z.c_isN, Y.Z.c_notN, Y.Z.c_isB, Y.Z.c_notB, Y.isNon, Y.Z.newL_f, Y.Z.newL_t, Y.Z.t_len, Y.Z.t_sum, Y.Z.t_any, Y.Z.t_all, Y.Z.t_abs, Y.Z.t_min, Y.Z.t_max, Y.Z.t_tuple, Y.Z.t_list, Y.Z.t_int, Y.Z.t_repr, Y.Z.t_str, Y.Z.st_str, Y.Z.st_int, Y.Z.st_tup, Y.Z.len_tup, Y.Z.len_lst, Y.Z.len_rd, Y.Z.len_ct, Y.Z.tup_lst, Y.Z.tup_tup, Y.Z.tup_ct, Y.Z.lst_lst, Y.Z.lst_tup, Y.Z.sum_ints, Y.Z.sum_ints', Y.Z.w_tup, Y.Z.w_lst, Y.Z.w_rd, Y.Z.w_ct, Y.Z.we_tup, Y.Z.we_lst, Y.Z.we_ct, Y.Z.wz_tl, Y.Z.wz_ll, Y.Z.wz_tt, Y.Z.r_tup, Y.Z.r_lst, Y.Z.r_rd, Y.Z.r_ct, Y.Z.cut_tup, Y.Z.cut_lst, Y.Z.cut_rd, Y.Z.rev_tup, Y.Z.tr_bl, Y.Z.tr_int, Y.Z.tr_tup, Y.Z.tr_lst, Y.Z.refL_lst, Y.Z.getO_lst, Y.Z.r_ref, Y.Z.lstOf_ref, Y.Z.len_ref, Y.Z.tup_ref, Y.Z.lst_ref, Y.Z.w_ref, Y.Z.we_ref, Y.Z.cut_ref, Y.Z.tr_ref, Y.Z.s_ref, Y.Z.so_lst, Y.Z.a_ref, Y.Z.po_ref, Y.Z.ixN_lit, Y.Z.atI_lit, Y.isD, Y.tyD, Y.subTy, Y.Z.fin_rtc, Y.Z.fin_rta, Y.Z.fin_nx, Y.D.lt, Y.ltL, Y.Z.ltL_ints, Y.Z.still_nil2, Y.Z.still_tup, Y.Z.still_ct, Y.Z.still_rd, Y.Z.still_lst, Y.wipe, Y.Z.blO_some, Y.Z.y_par, Y.Z.y_par3, Y.Z.kPar31_e, Y.Z.kPar32_e, Y.Z.kPar33_e, Y.Z.y_expr, Y.Z.y_ret, Y.Z.y_for, Y.Z.x_while, Y.Z.kAsg_e, Y.Z.kAug3_e, Y.Z.kAug2_e, Y.Z.kAug1_e, Y.Z.kIte_e, Y.Z.kPar2_e, Y.Z.kPar1_e, Y.Z.kExpr_e, Y.Z.kFor_e, Y.Z.kBin1_e, Y.Z.kNeg_e, Y.Z.kCmp2_e, Y.Z.kCmp1_e, Y.Z.kC23_e, Y.Z.kC22_e, Y.Z.kC21_e, Y.Z.kAnd_e, Y.Z.kOr_e, Y.Z.kNot_e, Y.Z.kIfe_e, Y.Z.kTup_e, Y.Z.kLst_e, Y.Z.kDic_e, Y.Z.kIx1_e, Y.Z.kSl2_e, Y.Z.kSl1_e, Y.Z.kCall_e, Y.Z.kCK3_e, Y.Z.kCK2_e, Y.Z.kCK1_e, Y.Z.kApp1_e, Y.Z.kG2_e, Y.Z.kG1_e, Y.Z.lcF3_e, Y.Z.lcF2_e, Y.Z.lcF1_e, Y.Z.kLc_e, Y.Z.lcG1_e, Y.Z.lcH2_e, Y.Z.lcH1_e, Y.Z.kLc2_e, Y.Z.kL2_e, Y.Z.kL1_e, Y.Z.kInt_e, Y.Z.kTru_e, Y.Z.kCp2_e, Y.Z.kCp1_e, Y.Z.kCq3_e, Y.Z.kCq2_e, Y.Z.kCq1_e, Y.Z.kCand_e, Y.Z.kCor_e, Y.Z.kCnot_e, Y.Z.kR2_e, Y.Z.kZ_e, Y.Z.kGx3_e, Y.Z.kGx2_e, Y.Z.kGx1_e, Y.Z.kWh_e, Y.Z.k_len_e, Y.Z.k_tup_e, Y.Z.k_lst_e, Y.Z.k_w_e, Y.Z.k_we_e, Y.Z.k_cut_e, Y.Z.k_tr_e, Y.Z.sK2_e, Y.Z.sK1_e, Y.Z.soK_e, Y.Z.k_ap_e, Y.Z.k_po2_e, Y.Z.k_po_e, ir_identity_for, hcw, hb, fx]
end
/-- the numbers -/
def nb5 : List D := [.int 0, .int 5, .int (-1), .int 1000, .bl true, .bl false, .non, .str "3", .tup [.int 2], .lst [.int 2]]
def nb8 : List D := [.int 1, .int 6, .int 0, .int (-3), .bl true, .bl false, .non, .str "3", .tup [.int 2], .lst [.int 2]]
def sp13 : List D := [.tup [], .tup [.int 1], .tup [.int 6], .lst [.int 3], .int 3, .non, .str "3", .tup [.int 5, .int 5], .tup [.int 3, .int 3, .int 3, .int 3], .tup [.bl true, .int 2], .tup [.int 4, .int 4, .int 2], .tup [.int 3, .str "3"], .tup [.int 0]]
theorem betw5 (b : Nat) (o : Ob) {d : D} (h : d ∈ nb5) : callF tbl glo 100000 37 4 [d, .int 1, .int 4] b [o] = .ex 2 d [o] := by
  unfold nb5 at h
  iterate 10 (rcases List.mem_cons.mp h with rfl | h; · kernel_rfl)
  exact absurd h (by simp)
theorem betw8 (b : Nat) (o : Ob) {d : D} (h : d ∈ nb8) : callF tbl glo 100000 37 4 [d, .int 2, .int 5] b [o] = .ex 2 d [o] := by
  unfold nb8 at h
  iterate 10 (rcases List.mem_cons.mp h with rfl | h; · kernel_rfl)
  exact absurd h (by simp)
theorem told0 (s xs w : D) (o : Ob) {d : D} (h : d ∈ sp13) : callF tbl glo 100000 39 32 [.int 0, s, xs, w, d] 0 [o] = .ok (.tup [.str "space", d]) [o] := by
  unfold sp13 at h
  iterate 13 (rcases List.mem_cons.mp h with rfl | h; · kernel_rfl)
  exact absurd h (by simp)
theorem exp_num (w : List Int) (hw : wordB (.tup (w.map .int)) = true) (hl : w.length ≤ 1000) (o : Ob) (b : Nat) {d : D} (h : d ∈ nb5) : callF tbl glo 100000 38 18 [.tup (w.map .int), d] b [o] = .ex 2 d [o] := by
  rw [en_expansion]
  have hcw := fun b st => check_word_any 34 (.tup (w.map .int)) ⟨sm_ints w, by simpa using hl⟩ (ltL_ints w) b st
  rw [hw] at hcw
  have hb := fun b => betw5 b o h
  have hlt : d.lt 0 = true := by
    have : ∀ d ∈ nb5, d.lt 0 = true := by decide
    exact this d h
  have fx := fun env => fin_ex (c := 2) (mode := 0) (env := env) hlt [o]
  simp only [List.length_singleton] at fx
  generalize w.map D.int = W at *
  simp (implicitDefEqProofs := false) [Y.Z.x_nil, Y.Z.x_cons, Y.Z.bind_ok, Y.Z.bind_ex, Y.Z.lift_ok, Y.Z.lift_ex, Y.Z.noEx_ok, Y.Z.seq_nx, Y.Z.seq_rt, Y.Z.seq_bk, Y.Z.seq_ct, Y.Z.seq_ex, Y.Z.kRaise_e, Y.Z.y_raise, Y.Z.y_tryv, Y.Z.tv_nx, Y.Z.tv_rt, Y.Z.tv_ex, Y.hkD, Y.Z.e_fld, Y.Z.fld_e, Y.Z.loop_nx, Y.Z.loop_rt, Y.Z.loop_bk, Y.Z.loop_ct, Y.Z.asT_ok, Y.Z.opt_some, Y.Z.var_some, Y.Z.y_asg, Y.Z.y_aug, Y.Z.y_ite, Y.Z.x_retN, Y.Z.x_brk, Y.Z.x_cnt, Y.Z.x_pass, Y.Z.e_var, Y.Z.e_cst, Y.Z.e_glo, Y.Z.e_bin, Y.Z.e_neg, Y.Z.e_cmp, Y.Z.e_cmp2, Y.Z.e_and, Y.Z.e_or, Y.Z.e_not, Y.Z.e_ife, Y.Z.e_tup, Y.Z.e_lst, Y.Z.e_dic, Y.Z.e_dic0, Y.Z.e_ix, Y.Z.e_sl, Y.Z.e_rev, Y.Z.e_call, Y.Z.e_callK, Y.Z.e_blt, Y.Z.e_isi, Y.Z.e_isq, Y.Z.e_app, Y.Z.e_pop, Y.Z.e_ext, Y.Z.kExt1_e, Y.Z.k_ex_e, Y.Z.k_ex2_e, Y.Z.ex_ref, Y.Z.t_max1, Y.Z.t_min1, Y.Z.e_get2, Y.Z.e_lc, Y.Z.e_lc2, Y.Z.l_nil, Y.Z.l_cons, Y.Z.o_non, Y.Z.o_som, Y.Z.c_val, Y.Z.c_cp, Y.Z.c_cp2, Y.Z.c_and, Y.Z.c_or, Y.Z.c_not, Y.Z.co_non, Y.Z.co_som, Y.Z.i_seq, Y.Z.i_rng1, Y.Z.i_rng2, Y.Z.i_enm, Y.Z.i_zip, Y.Z.g_nm, Y.Z.g_tup, Y.Z.g_ct, Y.Z.g_ix, Y.Z.gs_nil, Y.Z.gs_cons, Y.Z.b_add, Y.Z.b_sub, Y.Z.b_mul, Y.Z.b_div, Y.Z.b_mod, Y.Z.b_pow, Y.Z.b_tup, Y.Z.b_lst, Y.Z.b_mulL, Y.Z.c_lt, Y.Z.c_le, Y.Z.c_gt, Y.Z.c_ge, Y.Z.c_eq, Y.Z.c_ne, Y.Z.c_isN, Y.Z.c_notN, Y.Z.c_isB, Y.Z.c_notB, Y.isNon, Y.Z.newL_f, Y.Z.newL_t, Y.Z.t_len, Y.Z.t_sum, Y.Z.t_any, Y.Z.t_all, Y.Z.t_abs, Y.Z.t_min, Y.Z.t_max, Y.Z.t_tuple, Y.Z.t_list, Y.Z.t_int, Y.Z.t_repr, Y.Z.t_str, Y.Z.st_str, Y.Z.st_int, Y.Z.st_tup, Y.Z.len_tup, Y.Z.len_lst, Y.Z.len_rd, Y.Z.len_ct, Y.Z.tup_lst, Y.Z.tup_tup, Y.Z.tup_ct, Y.Z.lst_lst, Y.Z.lst_tup, Y.Z.sum_ints, Y.Z.sum_ints', Y.Z.w_tup, Y.Z.w_lst, Y.Z.w_rd, Y.Z.w_ct, Y.Z.we_tup, Y.Z.we_lst, Y.Z.we_ct, Y.Z.wz_tl, Y.Z.wz_ll, Y.Z.wz_tt, Y.Z.r_tup, Y.Z.r_lst, Y.Z.r_rd, Y.Z.r_ct, Y.Z.cut_tup, Y.Z.cut_lst, Y.Z.cut_rd, Y.Z.rev_tup, Y.Z.tr_bl, Y.Z.tr_int, Y.Z.tr_tup, Y.Z.tr_lst, Y.Z.refL_lst, Y.Z.getO_lst, Y.Z.r_ref, Y.Z.lstOf_ref, Y.Z.len_ref, Y.Z.tup_ref, Y.Z.lst_ref, Y.Z.w_ref, Y.Z.we_ref, Y.Z.cut_ref, Y.Z.tr_ref, Y.Z.s_ref, Y.Z.so_lst, Y.Z.a_ref, Y.Z.po_ref, Y.Z.ixN_lit, Y.Z.atI_lit, Y.isD, Y.tyD, Y.subTy, Y.Z.fin_rtc, Y.Z.fin_rta, Y.Z.fin_nx, Y.D.lt, Y.ltL, Y.Z.ltL_ints, Y.Z.still_nil2, Y.Z.still_tup, Y.Z.still_ct, Y.Z.still_rd, Y.Z.still_lst, Y.wipe, Y.Z.blO_some, Y.Z.y_par, Y.Z.y_par3, Y.Z.kPar31_e, Y.Z.kPar32_e, Y.Z.kPar33_e, Y.Z.y_expr, Y.Z.y_ret, Y.Z.y_for, Y.Z.x_while, Y.Z.kAsg_e, Y.Z.kAug3_e, Y.Z.kAug2_e, Y.Z.kAug1_e, Y.Z.kIte_e, Y.Z.kPar2_e, Y.Z.kPar1_e, Y.Z.kExpr_e, Y.Z.kFor_e, Y.Z.kBin1_e, Y.Z.kNeg_e, Y.Z.kCmp2_e, Y.Z.kCmp1_e, Y.Z.kC23_e, Y.Z.kC22_e, Y.Z.kC21_e, Y.Z.kAnd_e, Y.Z.kOr_e, Y.Z.kNot_e, Y.Z.kIfe_e, Y.Z.kTup_e, Y.Z.kLst_e, Y.Z.kDic_e, Y.Z.kIx1_e, Y.Z.kSl2_e, Y.Z.kSl1_e, Y.Z.kCall_e, Y.Z.kCK3_e, Y.Z.kCK2_e, Y.Z.kCK1_e, Y.Z.kApp1_e, Y.Z.kG2_e, Y.Z.kG1_e, Y.Z.lcF3_e, Y.Z.lcF2_e, Y.Z.lcF1_e, Y.Z.kLc_e, Y.Z.lcG1_e, Y.Z.lcH2_e, Y.Z.lcH1_e, Y.Z.kLc2_e, Y.Z.kL2_e, Y.Z.kL1_e, Y.Z.kInt_e, Y.Z.kTru_e, Y.Z.kCp2_e, Y.Z.kCp1_e, Y.Z.kCq3_e, Y.Z.kCq2_e, Y.Z.kCq1_e, Y.Z.kCand_e, Y.Z.kCor_e, Y.Z.kCnot_e, Y.Z.kR2_e, Y.Z.kZ_e, Y.Z.kGx3_e, Y.Z.kGx2_e, Y.Z.kGx1_e, Y.Z.kWh_e, Y.Z.k_len_e, Y.Z.k_tup_e, Y.Z.k_lst_e, Y.Z.k_w_e, Y.Z.k_we_e, Y.Z.k_cut_e, Y.Z.k_tr_e, Y.Z.sK2_e, Y.Z.sK1_e, Y.Z.soK_e, Y.Z.k_ap_e, Y.Z.k_po2_e, Y.Z.k_po_e, ir_expansion, hcw, hb, fx]
theorem idn_num (w : List Int) (hw : wordB (.tup (w.map .int)) = true) (hl : w.length ≤ 1000) (o : Ob) (b : Nat) {d : D} (h : d ∈ nb8) : callF tbl glo 100000 38 21 [.tup (w.map .int), d] b [o] = .ex 2 d [o] := by
  rw [en_identity_for]
  have hcw := fun b st => check_word_any 34 (.tup (w.map .int)) ⟨sm_ints w, by simpa using hl⟩ (ltL_ints w) b st
  rw [hw] at hcw
  have hb := fun b => betw8 b o h
  have hlt : d.lt 0 = true := by
    have : ∀ d ∈ nb8, d.lt 0 = true := by decide
    exact this d h
  have fx := fun env => fin_ex (c := 2) (mode := 0) (env := env) hlt [o]
  simp only [List.length_singleton] at fx
  generalize w.map D.int = W at *
  simp (implicitDefEqProofs := false) [Y.Z.x_nil, Y.Z.x_cons, Y.Z.bind_ok, Y.Z.bind_ex, Y.Z.lift_ok, Y.Z.lift_ex, Y.Z.noEx_ok, Y.Z.seq_nx, Y.Z.seq_rt, Y.Z.seq_bk, Y.Z.seq_ct, Y.Z.seq_ex, Y.Z.kRaise_e, Y.Z.y_raise, Y.Z.y_tryv, Y.Z.tv_nx, Y.Z.tv_rt, Y.Z.tv_ex, Y.hkD, Y.Z.e_fld, Y.Z.fld_e, Y.Z.loop_nx, Y.Z.loop_rt, Y.Z.loop_bk, Y.Z.loop_ct, Y.Z.asT_ok, Y.Z.opt_some, Y.Z.var_some, Y.Z.y_asg, Y.Z.y_aug, Y.Z.y_ite, Y.Z.x_retN, Y.Z.x_brk, Y.Z.x_cnt, Y.Z.x_pass, Y.Z.e_var, Y.Z.e_cst, Y.Z.e_glo, Y.Z.e_bin, Y.Z.e_neg, Y.Z.e_cmp, Y.Z.e_cmp2, Y.Z.e_and, Y.Z.e_or, Y.Z.e_not, Y.Z.e_ife, Y.Z.e_tup, Y.Z.e_lst, Y.Z.e_dic, Y.Z.e_dic0, Y.Z.e_ix, Y.Z.e_sl, Y.Z.e_rev, Y.Z.e_call, Y.Z.e_callK, Y.Z.e_blt, Y.Z.e_isi, Y.Z.e_isq, Y.Z.e_app, Y.Z.e_pop, Y.Z.e_ext, Y.Z.kExt1_e, Y.Z.k_ex_e, Y.Z.k_ex2_e, Y.Z.ex_ref, Y.Z.t_max1, Y.Z.t_min1, Y.Z.e_get2, Y.Z.e_lc, Y.Z.e_lc2, Y.Z.l_nil, Y.Z.l_cons, Y.Z.o_non, Y.Z.o_som, Y.Z.c_val, Y.Z.c_cp, Y.Z.c_cp2, Y.Z.c_and, Y.Z.c_or, Y.Z.c_not, Y.Z.co_non, Y.Z.co_som, Y.Z.i_seq, Y.Z.i_rng1, Y.Z.i_rng2, Y.Z.i_enm, Y.Z.i_zip, Y.Z.g_nm, Y.Z.g_tup, Y.Z.g_ct, Y.Z.g_ix, Y.Z.gs_nil, Y.Z.gs_cons, Y.Z.b_add, Y.Z.b_sub, Y.Z.b_mul, Y.Z.b_div, Y.Z.b_mod, Y.Z.b_pow, Y.Z.b_tup, Y.Z.b_lst, Y.Z.b_mulL, Y.Z.c_lt, Y.Z.c_le, Y.Z.c_gt, Y.Z.c_ge, Y.Z.c_eq, Y.Z.c_ne, Y.Z.c_isN, Y.Z.c_notN, Y.Z.c_isB, Y.Z.c_notB, Y.isNon, Y.Z.newL_f, Y.Z.newL_t, Y.Z.t_len, Y.Z.t_sum, Y.Z.t_any, Y.Z.t_all, Y.Z.t_abs, Y.Z.t_min, Y.Z.t_max, Y.Z.t_tuple, Y.Z.t_list, Y.Z.t_int, Y.Z.t_repr, Y.Z.t_str, Y.Z.st_str, Y.Z.st_int, Y.Z.st_tup, Y.Z.len_tup, Y.Z.len_lst, Y.Z.len_rd, Y.Z.len_ct, Y.Z.tup_lst, Y.Z.tup_tup, Y.Z.tup_ct, Y.Z.lst_lst, Y.Z.lst_tup, Y.Z.sum_ints, Y.Z.sum_ints', Y.Z.w_tup, Y.Z.w_lst, Y.Z.w_rd, Y.Z.w_ct, Y.Z.we_tup, Y.Z.we_lst, Y.Z.we_ct, Y.Z.wz_tl, Y.Z.wz_ll, Y.Z.wz_tt, Y.Z.r_tup, Y.Z.r_lst, Y.Z.r_rd, Y.Z.r_ct, Y.Z.cut_tup, Y.Z.cut_lst, Y.Z.cut_rd, Y.Z.rev_tup, Y.Z.tr_bl, Y.Z.tr_int, Y.Z.tr_tup, Y.Z.tr_lst, Y.Z.refL_lst, Y.Z.getO_lst, Y.Z.r_ref, Y.Z.lstOf_ref, Y.Z.len_ref, Y.Z.tup_ref, Y.Z.lst_ref, Y.Z.w_ref, Y.Z.we_ref, Y.Z.cut_ref, Y.Z.tr_ref, Y.Z.s_ref, Y.Z.so_lst, Y.Z.a_ref, Y.Z.po_ref, Y.Z.ixN_lit, Y.Z.atI_lit, Y.isD, Y.tyD, Y.subTy, Y.Z.fin_rtc, Y.Z.fin_rta, Y.Z.fin_nx, Y.D.lt, Y.ltL, Y.Z.ltL_ints, Y.Z.still_nil2, Y.Z.still_tup, Y.Z.still_ct, Y.Z.still_rd, Y.Z.still_lst, Y.wipe, Y.Z.blO_some, Y.Z.y_par, Y.Z.y_par3, Y.Z.kPar31_e, Y.Z.kPar32_e, Y.Z.kPar33_e, Y.Z.y_expr, Y.Z.y_ret, Y.Z.y_for, Y.Z.x_while, Y.Z.kAsg_e, Y.Z.kAug3_e, Y.Z.kAug2_e, Y.Z.kAug1_e, Y.Z.kIte_e, Y.Z.kPar2_e, Y.Z.kPar1_e, Y.Z.kExpr_e, Y.Z.kFor_e, Y.Z.kBin1_e, Y.Z.kNeg_e, Y.Z.kCmp2_e, Y.Z.kCmp1_e, Y.Z.kC23_e, Y.Z.kC22_e, Y.Z.kC21_e, Y.Z.kAnd_e, Y.Z.kOr_e, Y.Z.kNot_e, Y.Z.kIfe_e, Y.Z.kTup_e, Y.Z.kLst_e, Y.Z.kDic_e, Y.Z.kIx1_e, Y.Z.kSl2_e, Y.Z.kSl1_e, Y.Z.kCall_e, Y.Z.kCK3_e, Y.Z.kCK2_e, Y.Z.kCK1_e, Y.Z.kApp1_e, Y.Z.kG2_e, Y.Z.kG1_e, Y.Z.lcF3_e, Y.Z.lcF2_e, Y.Z.lcF1_e, Y.Z.kLc_e, Y.Z.lcG1_e, Y.Z.lcH2_e, Y.Z.lcH1_e, Y.Z.kLc2_e, Y.Z.kL2_e, Y.Z.kL1_e, Y.Z.kInt_e, Y.Z.kTru_e, Y.Z.kCp2_e, Y.Z.kCp1_e, Y.Z.kCq3_e, Y.Z.kCq2_e, Y.Z.kCq1_e, Y.Z.kCand_e, Y.Z.kCor_e, Y.Z.kCnot_e, Y.Z.kR2_e, Y.Z.kZ_e, Y.Z.kGx3_e, Y.Z.kGx2_e, Y.Z.kGx1_e, Y.Z.kWh_e, Y.Z.k_len_e, Y.Z.k_tup_e, Y.Z.k_lst_e, Y.Z.k_w_e, Y.Z.k_we_e, Y.Z.k_cut_e, Y.Z.k_tr_e, Y.Z.sK2_e, Y.Z.sK1_e, Y.Z.soK_e, Y.Z.k_ap_e, Y.Z.k_po2_e, Y.Z.k_po_e, ir_identity_for, hcw, hb, fx]
end LW

/-! the group laws of blocks and elements -/
namespace LW
open PySem Y Y.Z
theorem prodB_assoc (s : Int) (hs : s = 2 ∨ s = 3 ∨ s = 4 ∨ s = 5) (A B C : List Int) (hA : A.length = ws s) (hB : B.length = ws s) (hC : C.length = ws s) : prodB (prodB A B) C = prodB A (prodB B C) := by
  rcases hs with e | e | e | e <;> subst e
  · obtain ⟨a0, rfl⟩ := len1 (A := A) hA
    obtain ⟨b0, rfl⟩ := len1 (A := B) hB
    obtain ⟨c0, rfl⟩ := len1 (A := C) hC
    simp only [prodB, List.cons.injEq]
    refine ⟨?_, trivial⟩
    grind
  · obtain ⟨a0, a1, a2, rfl⟩ := len3 (A := A) hA
    obtain ⟨b0, b1, b2, rfl⟩ := len3 (A := B) hB
    obtain ⟨c0, c1, c2, rfl⟩ := len3 (A := C) hC
    simp only [prodB, List.cons.injEq]
    refine ⟨?_, ?_, ?_, trivial⟩ <;> grind
  · obtain ⟨a0, a1, a2, a3, a4, a5, rfl⟩ := len6 (A := A) hA
    obtain ⟨b0, b1, b2, b3, b4, b5, rfl⟩ := len6 (A := B) hB
    obtain ⟨c0, c1, c2, c3, c4, c5, rfl⟩ := len6 (A := C) hC
    simp only [prodB, List.cons.injEq]
    refine ⟨?_, ?_, ?_, ?_, ?_, ?_, trivial⟩ <;> grind
  · obtain ⟨a0, a1, a2, a3, a4, a5, a6, a7, a8, a9, rfl⟩ := len10 (A := A) hA
    obtain ⟨b0, b1, b2, b3, b4, b5, b6, b7, b8, b9, rfl⟩ := len10 (A := B) hB
    obtain ⟨c0, c1, c2, c3, c4, c5, c6, c7, c8, c9, rfl⟩ := len10 (A := C) hC
    simp only [prodB, List.cons.injEq]
    refine ⟨?_, ?_, ?_, ?_, ?_, ?_, ?_, ?_, ?_, ?_, trivial⟩ <;> grind
theorem prodB_inv (s : Int) (hs : s = 2 ∨ s = 3 ∨ s = 4 ∨ s = 5) (A : List Int) (hA : A.length = ws s) : prodB A (invB A) = List.replicate (ws s) 0 := by
  rcases hs with e | e | e | e <;> subst e
  · obtain ⟨a0, rfl⟩ := len1 (A := A) hA
    simp [prodB, invB, ws, List.replicate]
    try grind
  · obtain ⟨a0, a1, a2, rfl⟩ := len3 (A := A) hA
    show _ = [0, 0, 0]
    simp only [prodB, invB, e4, List.cons.injEq]
    refine ⟨?_, ?_, ?_, trivial⟩ <;> grind
  · obtain ⟨a0, a1, a2, a3, a4, a5, rfl⟩ := len6 (A := A) hA
    show _ = [0, 0, 0, 0, 0, 0]
    simp only [prodB, invB, e4, List.cons.injEq]
    refine ⟨?_, ?_, ?_, ?_, ?_, ?_, trivial⟩ <;> grind
  · obtain ⟨a0, a1, a2, a3, a4, a5, a6, a7, a8, a9, rfl⟩ := len10 (A := A) hA
    show _ = [0, 0, 0, 0, 0, 0, 0, 0, 0, 0]
    simp only [prodB, invB, e4, List.cons.injEq]
    refine ⟨?_, ?_, ?_, ?_, ?_, ?_, ?_, ?_, ?_, ?_, trivial⟩ <;> grind
theorem prodB_one (s : Int) (hs : s = 2 ∨ s = 3 ∨ s = 4 ∨ s = 5) (A : List Int) (hA : A.length = ws s) : prodB A (List.replicate (ws s) 0) = A ∧ prodB (List.replicate (ws s) 0) A = A := by
  rcases hs with e | e | e | e <;> subst e
  · obtain ⟨a0, rfl⟩ := len1 (A := A) hA
    show prodB _ [0] = _ ∧ prodB [0] _ = _
    simp [prodB]
  · obtain ⟨a0, a1, a2, rfl⟩ := len3 (A := A) hA
    show prodB _ [0, 0, 0] = _ ∧ prodB [0, 0, 0] _ = _
    simp [prodB]
  · obtain ⟨a0, a1, a2, a3, a4, a5, rfl⟩ := len6 (A := A) hA
    show prodB _ [0, 0, 0, 0, 0, 0] = _ ∧ prodB [0, 0, 0, 0, 0, 0] _ = _
    simp [prodB]
  · obtain ⟨a0, a1, a2, a3, a4, a5, a6, a7, a8, a9, rfl⟩ := len10 (A := A) hA
    show prodB _ [0, 0, 0, 0, 0, 0, 0, 0, 0, 0] = _ ∧ prodB [0, 0, 0, 0, 0, 0, 0, 0, 0, 0] _ = _
    simp [prodB]
theorem okS_tl {s : Int} {r : List Int} (h : okS (s :: r)) : okS r := fun x hx => h x (List.mem_cons_of_mem _ hx)
theorem okS_hd {s : Int} {r : List Int} (h : okS (s :: r)) : s = 2 ∨ s = 3 ∨ s = 4 ∨ s = 5 := h s (List.mem_cons_self ..)
def idL (ss : List Int) : List Int := List.replicate (wid ss) 0
theorem idL_cons (s : Int) (r : List Int) : idL (s :: r) = List.replicate (ws s) 0 ++ idL r := by
  unfold idL
  rw [wid_cons, List.replicate_append_replicate]
theorem prodL_assoc : ∀ ss, okS ss → ∀ x y z : List Int, x.length = wid ss → y.length = wid ss → z.length = wid ss → prodL ss (prodL ss x y) z = prodL ss x (prodL ss y z)
  | [], _, _, _, _, _, _, _ => rfl
  | s :: r, hs, x, y, z, hx, hy, hz => by
    obtain ⟨A, x', rfl, hA, hx'⟩ := cutw hx
    obtain ⟨B, y', rfl, hB, hy'⟩ := cutw hy
    obtain ⟨C, z', rfl, hC, hz'⟩ := cutw hz
    have h := okS_hd hs
    rw [prodL_cons s r A B x' y' hA hB, prodL_cons s r B C y' z' hB hC, prodL_cons _ _ _ _ _ _ (prodB_len s h A B hA hB) hC, prodL_cons _ _ _ _ _ _ hA (prodB_len s h B C hB hC), prodB_assoc s h A B C hA hB hC, prodL_assoc r (okS_tl hs) x' y' z' hx' hy' hz']
theorem prodL_inv : ∀ ss, okS ss → ∀ x : List Int, x.length = wid ss → prodL ss x (invL ss x) = idL ss
  | [], _, _, _ => rfl
  | s :: r, hs, x, hx => by
    obtain ⟨A, x', rfl, hA, hx'⟩ := cutw hx
    have h := okS_hd hs
    rw [invL_cons s r A x' hA, prodL_cons _ _ _ _ _ _ hA (invB_len s h A hA), prodB_inv s h A hA, prodL_inv r (okS_tl hs) x' hx', idL_cons]
theorem prodL_one : ∀ ss, okS ss → ∀ x : List Int, x.length = wid ss → prodL ss x (idL ss) = x
  | [], _, x, hx => by
    have : x = [] := List.eq_nil_of_length_eq_zero hx
    subst this
    rfl
  | s :: r, hs, x, hx => by
    obtain ⟨A, x', rfl, hA, hx'⟩ := cutw hx
    rw [idL_cons, prodL_cons _ _ _ _ _ _ hA (by simp), (prodB_one s (okS_hd hs) A hA).1, prodL_one r (okS_tl hs) x' hx']
theorem one_prodL : ∀ ss, okS ss → ∀ x : List Int, x.length = wid ss → prodL ss (idL ss) x = x
  | [], _, x, hx => by
    have : x = [] := List.eq_nil_of_length_eq_zero hx
    subst this
    rfl
  | s :: r, hs, x, hx => by
    obtain ⟨A, x', rfl, hA, hx'⟩ := cutw hx
    rw [idL_cons, prodL_cons _ _ _ _ _ _ (by simp) hA, (prodB_one s (okS_hd hs) A hA).2, one_prodL r (okS_tl hs) x' hx']
end LW

/-! consequences of the group laws; words -/
namespace LW
open PySem Y Y.Z
section
variable (ss : List Int) (hs : okS ss)
include hs
theorem idL_len : (idL ss).length = wid ss := by simp [idL]
theorem invinv (x : List Int) (hx : x.length = wid ss) : invL ss (invL ss x) = x := by
  have hy := invL_len ss hs x hx
  have hz := invL_len ss hs _ hy
  have e := prodL_assoc ss hs x (invL ss x) (invL ss (invL ss x)) hx hy hz
  rw [prodL_inv ss hs x hx, prodL_inv ss hs _ hy, prodL_one ss hs x hx, one_prodL ss hs _ hz] at e
  exact e
theorem inv_prodL (x : List Int) (hx : x.length = wid ss) : prodL ss (invL ss x) x = idL ss := by
  have e := prodL_inv ss hs _ (invL_len ss hs x hx)
  rwa [invinv ss hs x hx] at e
theorem inv_unique (x y : List Int) (hx : x.length = wid ss) (hy : y.length = wid ss) (h : prodL ss x y = idL ss) : y = invL ss x := by
  have e := prodL_assoc ss hs (invL ss x) x y (invL_len ss hs x hx) hx hy
  rw [inv_prodL ss hs x hx, h, one_prodL ss hs y hy, prodL_one ss hs _ (invL_len ss hs x hx)] at e
  exact e
theorem inv_prod (x y : List Int) (hx : x.length = wid ss) (hy : y.length = wid ss) : invL ss (prodL ss x y) = prodL ss (invL ss y) (invL ss x) := by
  have hx' := invL_len ss hs x hx
  have hy' := invL_len ss hs y hy
  symm
  apply inv_unique ss hs _ _ (prodL_len ss hs x y hx hy) (prodL_len ss hs _ _ hy' hx')
  rw [prodL_assoc ss hs x y _ hx hy (prodL_len ss hs _ _ hy' hx'), ← prodL_assoc ss hs y _ _ hy hy' hx', prodL_inv ss hs y hy, one_prodL ss hs _ hx', prodL_inv ss hs x hx]
end
/-- the element of a letter -/
def letL (ss : List Int) (xs : List (List Int)) (l : Int) : List Int := if l > 0 then xs.getD (l.natAbs - 1) [] else invL ss (xs.getD (l.natAbs - 1) [])
def wordL (ss : List Int) (xs : List (List Int)) (w : List Int) : List Int := w.foldl (fun f l => prodL ss f (letL ss xs l)) (idL ss)
def okW (w : List Int) : Prop := ∀ l ∈ w, l ≠ 0 ∧ -3 ≤ l ∧ l ≤ 3
section
variable (ss : List Int) (hs : okS ss) (xs : List (List Int)) (hx : xs.length = 3 ∧ ∀ x ∈ xs, x.length = wid ss)
include hs hx
theorem letL_len (l : Int) (h : l ≠ 0 ∧ -3 ≤ l ∧ l ≤ 3) : (letL ss xs l).length = wid ss := by
  have hi : l.natAbs - 1 < xs.length := by rw [hx.1]; omega
  have e : (xs.getD (l.natAbs - 1) []).length = wid ss := by
    rw [List.getD_eq_getElem?_getD, List.getElem?_eq_getElem hi]
    exact hx.2 _ (List.getElem_mem hi)
  unfold letL
  by_cases h0 : l > 0
  · rw [if_pos h0]; exact e
  · rw [if_neg h0]; exact invL_len ss hs _ e
theorem letL_neg (l : Int) (h : l ≠ 0 ∧ -3 ≤ l ∧ l ≤ 3) : letL ss xs (-l) = invL ss (letL ss xs l) := by
  have hi : l.natAbs - 1 < xs.length := by rw [hx.1]; omega
  have e : (xs.getD (l.natAbs - 1) []).length = wid ss := by
    rw [List.getD_eq_getElem?_getD, List.getElem?_eq_getElem hi]
    exact hx.2 _ (List.getElem_mem hi)
  unfold letL
  rw [Int.natAbs_neg]
  by_cases h0 : l > 0
  · rw [if_pos h0, if_neg (by omega)]
  · rw [if_neg h0, if_pos (by omega), invinv ss hs _ e]
theorem fold_len : ∀ w, okW w → ∀ f : List Int, f.length = wid ss → (w.foldl (fun f l => prodL ss f (letL ss xs l)) f).length = wid ss
  | [], _, f, hf => hf
  | l :: w, h, f, hf => fold_len w (fun x hx => h x (List.mem_cons_of_mem _ hx)) _ (prodL_len ss hs _ _ hf (letL_len ss hs xs hx l (h l (List.mem_cons_self ..))))
theorem fold_word : ∀ w, okW w → ∀ f : List Int, f.length = wid ss → w.foldl (fun f l => prodL ss f (letL ss xs l)) f = prodL ss f (wordL ss xs w)
  | [], _, f, hf => (prodL_one ss hs f hf).symm
  | l :: w, h, f, hf => by
    have hl := letL_len ss hs xs hx l (h l (List.mem_cons_self ..))
    have hw : okW w := fun x hx => h x (List.mem_cons_of_mem _ hx)
    have hi := idL_len ss hs
    show w.foldl (fun f l => prodL ss f (letL ss xs l)) (prodL ss f (letL ss xs l)) = prodL ss f (w.foldl (fun f l => prodL ss f (letL ss xs l)) (prodL ss (idL ss) (letL ss xs l)))
    have hwl : (wordL ss xs w).length = wid ss := fold_len ss hs xs hx w hw _ hi
    rw [fold_word w hw _ (prodL_len ss hs _ _ hf hl), fold_word w hw _ (prodL_len ss hs _ _ hi hl), one_prodL ss hs _ hl, prodL_assoc ss hs _ _ _ hf hl hwl]
theorem word_len (w) (h : okW w) : (wordL ss xs w).length = wid ss := fold_len ss hs xs hx w h _ (idL_len ss hs)
theorem word_app (v w) (hv : okW v) (hw : okW w) : wordL ss xs (v ++ w) = prodL ss (wordL ss xs v) (wordL ss xs w) := by
  show (v ++ w).foldl _ _ = _
  rw [List.foldl_append]
  exact fold_word ss hs xs hx w hw _ (word_len ss hs xs hx v hv)
theorem word_one (l) (h : l ≠ 0 ∧ -3 ≤ l ∧ l ≤ 3) : wordL ss xs [l] = letL ss xs l := one_prodL ss hs _ (letL_len ss hs xs hx l h)
theorem word_pair (l) (h : l ≠ 0 ∧ -3 ≤ l ∧ l ≤ 3) : wordL ss xs [l, -l] = idL ss := by
  have h' : -l ≠ 0 ∧ -3 ≤ -l ∧ -l ≤ 3 := by omega
  rw [show [l, -l] = [l] ++ [-l] from rfl, word_app ss hs xs hx [l] [-l] (by intro x hx; simp at hx; subst hx; exact h) (by intro x hx; simp at hx; subst hx; exact h'), word_one ss hs xs hx l h, word_one ss hs xs hx _ h', letL_neg ss hs xs hx l h, prodL_inv ss hs _ (letL_len ss hs xs hx l h)]
theorem word_back : ∀ w, okW w → wordL ss xs (w.reverse.map fun l => -l) = invL ss (wordL ss xs w)
  | [], _ => by
    have := prodL_inv ss hs (idL ss) (idL_len ss hs)
    rw [one_prodL ss hs _ (invL_len ss hs _ (idL_len ss hs))] at this
    exact this.symm
  | l :: w, h => by
    have hl := h l (List.mem_cons_self ..)
    have hw : okW w := fun x hx => h x (List.mem_cons_of_mem _ hx)
    have h1 : okW [l] := by intro x hx; simp at hx; subst hx; exact hl
    have h2 : okW [-l] := by intro x hx; simp at hx; subst hx; omega
    have h3 : okW (w.reverse.map fun l => -l) := by
      intro x hx
      obtain ⟨a, ha, rfl⟩ := List.mem_map.mp hx
      have := hw a (List.mem_reverse.mp ha)
      omega
    rw [List.reverse_cons, List.map_append, List.map_cons, List.map_nil, word_app ss hs xs hx _ _ h3 h2, word_back w hw, show l :: w = [l] ++ w from rfl, word_app ss hs xs hx _ _ h1 hw, inv_prod ss hs _ _ (word_len ss hs xs hx _ h1) (word_len ss hs xs hx _ hw)]
    congr 1
    rw [word_one ss hs xs hx _ (by omega), word_one ss hs xs hx _ hl, letL_neg ss hs xs hx l hl]
end
end LW

namespace LW
open PySem Y Y.Z
theorem sp_lword (k : Nat) (m : Int) (hm : 0 ≤ m) (hm2 : m ≤ 1000) (r st : Stt) (h : StO r st) : ∃ (w : List Int) (st' : Stt), (∀ b, callF tbl glo 100000 (k+2) 28 [.ref 0, .int m] b st = .ok (.tup (w.map .int)) st') ∧ StO r st' ∧ (w.length : Int) ≤ m ∧ okW w := by
  obtain ⟨j, st1, e1, h1, j0, j3⟩ := dr k (m + 1) (by omega) (by omega) r st h
  have hsm : small j = true := by simp [small]; omega
  obtain ⟨x, st2, e2, h2, l2, q2⟩ := lcA_st (src := []) (f := lcF ⟨callF tbl glo 100000 (k+1), glo, 100000⟩ st.length (.nm 3) [3] [some (.ref 0), some (.int m), some (.lst [.int 1, .int (-1), .int 2, .int (-2), .int 3, .int (-3)]), none] .non (.ix (.var 2) (.call 23 (.cons (.var 0) (.cons (.cst (.int 6)) .nil)) []))) (StO r) (fun l => l ≠ 0 ∧ -3 ≤ l ∧ l ≤ 3) D.int (fun _ _ => rfl) (rngL 0 j.toNat) [] st1 h1 (fun d hd acc st hst ha => by
    obtain ⟨i, st', e, h', i1, i2⟩ := dr k 6 (by decide) (by decide) r st hst
    obtain ⟨l, hl, hl2⟩ : ∃ l : Int, L2.atI [D.int 1, D.int (-1), D.int 2, D.int (-2), D.int 3, D.int (-3)] i = some (.int l) ∧ (l ≠ 0 ∧ -3 ≤ l ∧ l ≤ 3) := by
      have : i = 0 ∨ i = 1 ∨ i = 2 ∨ i = 3 ∨ i = 4 ∨ i = 5 := by omega
      rcases this with rfl | rfl | rfl | rfl | rfl | rfl
      · exact ⟨1, rfl, by decide⟩
      · exact ⟨-1, rfl, by decide⟩
      · exact ⟨2, rfl, by decide⟩
      · exact ⟨-2, rfl, by decide⟩
      · exact ⟨3, rfl, by decide⟩
      · exact ⟨-3, rfl, by decide⟩
    refine ⟨l, st', ?_, h', hl2⟩
    simp (implicitDefEqProofs := false) [Y.Z.x_nil, Y.Z.x_cons, Y.Z.bind_ok, Y.Z.bind_ex, Y.Z.lift_ok, Y.Z.lift_ex, Y.Z.noEx_ok, Y.Z.seq_nx, Y.Z.seq_rt, Y.Z.seq_bk, Y.Z.seq_ct, Y.Z.seq_ex, Y.Z.kRaise_e, Y.Z.y_raise, Y.Z.y_tryv, Y.Z.tv_nx, Y.Z.tv_rt, Y.Z.tv_ex, Y.hkD, Y.Z.e_fld, Y.Z.fld_e, Y.Z.loop_nx, Y.Z.loop_rt, Y.Z.loop_bk, Y.Z.loop_ct, Y.Z.asT_ok, Y.Z.opt_some, Y.Z.var_some, Y.Z.y_asg, Y.Z.y_aug, Y.Z.y_ite, Y.Z.x_retN, Y.Z.x_brk, Y.Z.x_cnt, Y.Z.x_pass, Y.Z.e_var, Y.Z.e_cst, Y.Z.e_glo, Y.Z.e_bin, Y.Z.e_neg, Y.Z.e_cmp, Y.Z.e_cmp2, Y.Z.e_and, Y.Z.e_or, Y.Z.e_not, Y.Z.e_ife, Y.Z.e_tup, Y.Z.e_lst, Y.Z.e_dic, Y.Z.e_dic0, Y.Z.e_ix, Y.Z.e_sl, Y.Z.e_rev, Y.Z.e_call, Y.Z.e_callK, Y.Z.e_blt, Y.Z.e_isi, Y.Z.e_isq, Y.Z.e_app, Y.Z.e_pop, Y.Z.e_ext, Y.Z.kExt1_e, Y.Z.k_ex_e, Y.Z.k_ex2_e, Y.Z.ex_ref, Y.Z.t_max1, Y.Z.t_min1, Y.Z.e_get2, Y.Z.e_lc, Y.Z.e_lc2, Y.Z.l_nil, Y.Z.l_cons, Y.Z.o_non, Y.Z.o_som, Y.Z.c_val, Y.Z.c_cp, Y.Z.c_cp2, Y.Z.c_and, Y.Z.c_or, Y.Z.c_not, Y.Z.co_non, Y.Z.co_som, Y.Z.i_seq, Y.Z.i_rng1, Y.Z.i_rng2, Y.Z.i_enm, Y.Z.i_zip, Y.Z.g_nm, Y.Z.g_tup, Y.Z.g_ct, Y.Z.g_ix, Y.Z.gs_nil, Y.Z.gs_cons, Y.Z.b_add, Y.Z.b_sub, Y.Z.b_mul, Y.Z.b_div, Y.Z.b_mod, Y.Z.b_pow, Y.Z.b_tup, Y.Z.b_lst, Y.Z.b_mulL, Y.Z.c_lt, Y.Z.c_le, Y.Z.c_gt, Y.Z.c_ge, Y.Z.c_eq, Y.Z.c_ne, Y.Z.c_isN, Y.Z.c_notN, Y.Z.c_isB, Y.Z.c_notB, Y.isNon, Y.Z.newL_f, Y.Z.newL_t, Y.Z.t_len, Y.Z.t_sum, Y.Z.t_any, Y.Z.t_all, Y.Z.t_abs, Y.Z.t_min, Y.Z.t_max, Y.Z.t_tuple, Y.Z.t_list, Y.Z.t_int, Y.Z.t_repr, Y.Z.t_str, Y.Z.st_str, Y.Z.st_int, Y.Z.st_tup, Y.Z.len_tup, Y.Z.len_lst, Y.Z.len_rd, Y.Z.len_ct, Y.Z.tup_lst, Y.Z.tup_tup, Y.Z.tup_ct, Y.Z.lst_lst, Y.Z.lst_tup, Y.Z.sum_ints, Y.Z.sum_ints', Y.Z.w_tup, Y.Z.w_lst, Y.Z.w_rd, Y.Z.w_ct, Y.Z.we_tup, Y.Z.we_lst, Y.Z.we_ct, Y.Z.wz_tl, Y.Z.wz_ll, Y.Z.wz_tt, Y.Z.r_tup, Y.Z.r_lst, Y.Z.r_rd, Y.Z.r_ct, Y.Z.cut_tup, Y.Z.cut_lst, Y.Z.cut_rd, Y.Z.rev_tup, Y.Z.tr_bl, Y.Z.tr_int, Y.Z.tr_tup, Y.Z.tr_lst, Y.Z.refL_lst, Y.Z.getO_lst, Y.Z.r_ref, Y.Z.lstOf_ref, Y.Z.len_ref, Y.Z.tup_ref, Y.Z.lst_ref, Y.Z.w_ref, Y.Z.we_ref, Y.Z.cut_ref, Y.Z.tr_ref, Y.Z.s_ref, Y.Z.so_lst, Y.Z.a_ref, Y.Z.po_ref, Y.Z.ixN_lit, Y.Z.atI_lit, Y.isD, Y.tyD, Y.subTy, Y.Z.fin_rtc, Y.Z.fin_rta, Y.Z.fin_nx, Y.D.lt, Y.ltL, Y.Z.ltL_ints, Y.Z.still_nil2, Y.Z.still_tup, Y.Z.still_ct, Y.Z.still_rd, Y.Z.still_lst, Y.wipe, Y.Z.blO_some, Y.Z.y_par, Y.Z.y_par3, Y.Z.kPar31_e, Y.Z.kPar32_e, Y.Z.kPar33_e, Y.Z.y_expr, Y.Z.y_ret, Y.Z.y_for, Y.Z.x_while, Y.Z.kAsg_e, Y.Z.kAug3_e, Y.Z.kAug2_e, Y.Z.kAug1_e, Y.Z.kIte_e, Y.Z.kPar2_e, Y.Z.kPar1_e, Y.Z.kExpr_e, Y.Z.kFor_e, Y.Z.kBin1_e, Y.Z.kNeg_e, Y.Z.kCmp2_e, Y.Z.kCmp1_e, Y.Z.kC23_e, Y.Z.kC22_e, Y.Z.kC21_e, Y.Z.kAnd_e, Y.Z.kOr_e, Y.Z.kNot_e, Y.Z.kIfe_e, Y.Z.kTup_e, Y.Z.kLst_e, Y.Z.kDic_e, Y.Z.kIx1_e, Y.Z.kSl2_e, Y.Z.kSl1_e, Y.Z.kCall_e, Y.Z.kCK3_e, Y.Z.kCK2_e, Y.Z.kCK1_e, Y.Z.kApp1_e, Y.Z.kG2_e, Y.Z.kG1_e, Y.Z.lcF3_e, Y.Z.lcF2_e, Y.Z.lcF1_e, Y.Z.kLc_e, Y.Z.lcG1_e, Y.Z.lcH2_e, Y.Z.lcH1_e, Y.Z.kLc2_e, Y.Z.kL2_e, Y.Z.kL1_e, Y.Z.kInt_e, Y.Z.kTru_e, Y.Z.kCp2_e, Y.Z.kCp1_e, Y.Z.kCq3_e, Y.Z.kCq2_e, Y.Z.kCq1_e, Y.Z.kCand_e, Y.Z.kCor_e, Y.Z.kCnot_e, Y.Z.kR2_e, Y.Z.kZ_e, Y.Z.kGx3_e, Y.Z.kGx2_e, Y.Z.kGx1_e, Y.Z.kWh_e, Y.Z.k_len_e, Y.Z.k_tup_e, Y.Z.k_lst_e, Y.Z.k_w_e, Y.Z.k_we_e, Y.Z.k_cut_e, Y.Z.k_tr_e, Y.Z.sK2_e, Y.Z.sK1_e, Y.Z.soK_e, Y.Z.k_ap_e, Y.Z.k_po2_e, Y.Z.k_po_e, lcF, push, e, ha, hl]) (by rw [rngL_len]; simp [sz]; omega)
  rw [rngL_len] at l2
  refine ⟨x, st2, fun b => ?_, h2, by omega, q2⟩
  rw [en__law_word]
  have hf := fin_st h h2 (.tup (x.map .int)) (by simp [D.lt, ltL_ints])
  rw [List.nil_append] at e2
  have hsz : (6 : Nat) ≤ sz := by decide
  simp (implicitDefEqProofs := false) [Y.Z.x_nil, Y.Z.x_cons, Y.Z.bind_ok, Y.Z.bind_ex, Y.Z.lift_ok, Y.Z.lift_ex, Y.Z.noEx_ok, Y.Z.seq_nx, Y.Z.seq_rt, Y.Z.seq_bk, Y.Z.seq_ct, Y.Z.seq_ex, Y.Z.kRaise_e, Y.Z.y_raise, Y.Z.y_tryv, Y.Z.tv_nx, Y.Z.tv_rt, Y.Z.tv_ex, Y.hkD, Y.Z.e_fld, Y.Z.fld_e, Y.Z.loop_nx, Y.Z.loop_rt, Y.Z.loop_bk, Y.Z.loop_ct, Y.Z.asT_ok, Y.Z.opt_some, Y.Z.var_some, Y.Z.y_asg, Y.Z.y_aug, Y.Z.y_ite, Y.Z.x_retN, Y.Z.x_brk, Y.Z.x_cnt, Y.Z.x_pass, Y.Z.e_var, Y.Z.e_cst, Y.Z.e_glo, Y.Z.e_bin, Y.Z.e_neg, Y.Z.e_cmp, Y.Z.e_cmp2, Y.Z.e_and, Y.Z.e_or, Y.Z.e_not, Y.Z.e_ife, Y.Z.e_tup, Y.Z.e_lst, Y.Z.e_dic, Y.Z.e_dic0, Y.Z.e_ix, Y.Z.e_sl, Y.Z.e_rev, Y.Z.e_call, Y.Z.e_callK, Y.Z.e_blt, Y.Z.e_isi, Y.Z.e_isq, Y.Z.e_app, Y.Z.e_pop, Y.Z.e_ext, Y.Z.kExt1_e, Y.Z.k_ex_e, Y.Z.k_ex2_e, Y.Z.ex_ref, Y.Z.t_max1, Y.Z.t_min1, Y.Z.e_get2, Y.Z.e_lc, Y.Z.e_lc2, Y.Z.l_nil, Y.Z.l_cons, Y.Z.o_non, Y.Z.o_som, Y.Z.c_val, Y.Z.c_cp, Y.Z.c_cp2, Y.Z.c_and, Y.Z.c_or, Y.Z.c_not, Y.Z.co_non, Y.Z.co_som, Y.Z.i_seq, Y.Z.i_rng1, Y.Z.i_rng2, Y.Z.i_enm, Y.Z.i_zip, Y.Z.g_nm, Y.Z.g_tup, Y.Z.g_ct, Y.Z.g_ix, Y.Z.gs_nil, Y.Z.gs_cons, Y.Z.b_add, Y.Z.b_sub, Y.Z.b_mul, Y.Z.b_div, Y.Z.b_mod, Y.Z.b_pow, Y.Z.b_tup, Y.Z.b_lst, Y.Z.b_mulL, Y.Z.c_lt, Y.Z.c_le, Y.Z.c_gt, Y.Z.c_ge, Y.Z.c_eq, Y.Z.c_ne, Y.Z.c_isN, Y.Z.c_notN, Y.Z.c_isB, Y.Z.c_notB, Y.isNon, Y.Z.newL_f, Y.Z.newL_t, Y.Z.t_len, Y.Z.t_sum, Y.Z.t_any, Y.Z.t_all, Y.Z.t_abs, Y.Z.t_min, Y.Z.t_max, Y.Z.t_tuple, Y.Z.t_list, Y.Z.t_int, Y.Z.t_repr, Y.Z.t_str, Y.Z.st_str, Y.Z.st_int, Y.Z.st_tup, Y.Z.len_tup, Y.Z.len_lst, Y.Z.len_rd, Y.Z.len_ct, Y.Z.tup_lst, Y.Z.tup_tup, Y.Z.tup_ct, Y.Z.lst_lst, Y.Z.lst_tup, Y.Z.sum_ints, Y.Z.sum_ints', Y.Z.w_tup, Y.Z.w_lst, Y.Z.w_rd, Y.Z.w_ct, Y.Z.we_tup, Y.Z.we_lst, Y.Z.we_ct, Y.Z.wz_tl, Y.Z.wz_ll, Y.Z.wz_tt, Y.Z.r_tup, Y.Z.r_lst, Y.Z.r_rd, Y.Z.r_ct, Y.Z.cut_tup, Y.Z.cut_lst, Y.Z.cut_rd, Y.Z.rev_tup, Y.Z.tr_bl, Y.Z.tr_int, Y.Z.tr_tup, Y.Z.tr_lst, Y.Z.refL_lst, Y.Z.getO_lst, Y.Z.r_ref, Y.Z.lstOf_ref, Y.Z.len_ref, Y.Z.tup_ref, Y.Z.lst_ref, Y.Z.w_ref, Y.Z.we_ref, Y.Z.cut_ref, Y.Z.tr_ref, Y.Z.s_ref, Y.Z.so_lst, Y.Z.a_ref, Y.Z.po_ref, Y.Z.ixN_lit, Y.Z.atI_lit, Y.isD, Y.tyD, Y.subTy, Y.Z.fin_rtc, Y.Z.fin_rta, Y.Z.fin_nx, Y.D.lt, Y.ltL, Y.Z.ltL_ints, Y.Z.still_nil2, Y.Z.still_tup, Y.Z.still_ct, Y.Z.still_rd, Y.Z.still_lst, Y.wipe, Y.Z.blO_some, Y.Z.y_par, Y.Z.y_par3, Y.Z.kPar31_e, Y.Z.kPar32_e, Y.Z.kPar33_e, Y.Z.y_expr, Y.Z.y_ret, Y.Z.y_for, Y.Z.x_while, Y.Z.kAsg_e, Y.Z.kAug3_e, Y.Z.kAug2_e, Y.Z.kAug1_e, Y.Z.kIte_e, Y.Z.kPar2_e, Y.Z.kPar1_e, Y.Z.kExpr_e, Y.Z.kFor_e, Y.Z.kBin1_e, Y.Z.kNeg_e, Y.Z.kCmp2_e, Y.Z.kCmp1_e, Y.Z.kC23_e, Y.Z.kC22_e, Y.Z.kC21_e, Y.Z.kAnd_e, Y.Z.kOr_e, Y.Z.kNot_e, Y.Z.kIfe_e, Y.Z.kTup_e, Y.Z.kLst_e, Y.Z.kDic_e, Y.Z.kIx1_e, Y.Z.kSl2_e, Y.Z.kSl1_e, Y.Z.kCall_e, Y.Z.kCK3_e, Y.Z.kCK2_e, Y.Z.kCK1_e, Y.Z.kApp1_e, Y.Z.kG2_e, Y.Z.kG1_e, Y.Z.lcF3_e, Y.Z.lcF2_e, Y.Z.lcF1_e, Y.Z.kLc_e, Y.Z.lcG1_e, Y.Z.lcH2_e, Y.Z.lcH1_e, Y.Z.kLc2_e, Y.Z.kL2_e, Y.Z.kL1_e, Y.Z.kInt_e, Y.Z.kTru_e, Y.Z.kCp2_e, Y.Z.kCp1_e, Y.Z.kCq3_e, Y.Z.kCq2_e, Y.Z.kCq1_e, Y.Z.kCand_e, Y.Z.kCor_e, Y.Z.kCnot_e, Y.Z.kR2_e, Y.Z.kZ_e, Y.Z.kGx3_e, Y.Z.kGx2_e, Y.Z.kGx1_e, Y.Z.kWh_e, Y.Z.k_len_e, Y.Z.k_tup_e, Y.Z.k_lst_e, Y.Z.k_w_e, Y.Z.k_we_e, Y.Z.k_cut_e, Y.Z.k_tr_e, Y.Z.sK2_e, Y.Z.sK1_e, Y.Z.soK_e, Y.Z.k_ap_e, Y.Z.k_po2_e, Y.Z.k_po_e, ir__law_word, hsz, e1, w_rng1, hsm, e2, hf]
end LW

namespace LW
open PySem Y Y.Z
theorem okW_word {w : List Int} (hw : okW w) : wordB (.tup (w.map .int)) = true := by
  simp only [wordB, List.all_map, List.all_eq_true, Function.comp_apply, ltB, Bool.and_eq_true, decide_eq_true_eq, Bool.not_eq_true', decide_eq_false_iff_not]
  intro x hx
  have := hw x hx
  exact ⟨⟨this.2.1, this.2.2⟩, this.1⟩
/-- what is handed in and what is due: (number, kind) -/
def kinds : List (Nat × Str) := [(0, "space"), (1, "elements"), (2, "word"), (3, "word"), (4, "word"), (5, "number"), (6, "word"), (7, "word"), (8, "number")]
/-- a bad value of the number n -/
def BadN (n : Nat) (ss : List Int) (d : D) : Prop :=
  if n = 0 then d ∈ sp13 else if n = 1 then smT d ∧ elsB (wid ss) d = false ∧ d.lt 0 = true ∧ PB d 2000000 9 else if n = 5 then d ∈ nb5 else if n = 8 then d ∈ nb8 else BadW d
theorem told_n (ss : List Int) (hs : okS ss) (h3 : ss.length ≤ 3) (hw12 : wid ss ≤ 12) (h0 : ss ≠ []) (ys : List D) (hy : ∀ y ∈ ys, smA y) (hy3 : ys.length = 3) (hya : ys.all (elB (wid ss)) = true) (w : List Int) (hw : okW w) (hl : w.length ≤ 6) (d : D) (o : Ob) :
    ∀ p ∈ kinds, BadN p.1 ss d → callF tbl glo 100000 39 32 [.int (p.1 : Nat), .tup (ss.map .int), .tup ys, .tup (w.map .int), d] 0 [o] = .ok (.tup [.str p.2, d]) [o] := by
  have hw' := okW_word hw
  have W : BadW d → ∀ st, (callF tbl glo 100000 38 14 [.tup (ss.map .int), .tup ys, d] 1 st = .ex 3 d st) ∧ (callF tbl glo 100000 38 16 [d] 1 st = .ex 3 d st) ∧ (∀ e, callF tbl glo 100000 38 18 [d, e] 1 st = .ex 3 d st) ∧
      (callF tbl glo 100000 38 19 [d] 1 st = .ex 3 d st) ∧ (∀ e, callF tbl glo 100000 38 21 [d, e] 1 st = .ex 3 d st) := fun B st =>
    ⟨word_at_word ss hs h3 hw12 h0 ys hy hy3 hya d B.sm B.lt B.no 1 st, leaving_bad d B.sm B.lt B.no 1 st, fun e => expansion_bad d B.sm B.lt B.no e 1 st, depth_bad d B.sm B.lt B.no 1 st, fun e => identity_bad d B.sm B.lt B.no e 1 st⟩
  have z2 : (2 : Nat) ≤ sz := by decide
  have fin : ∀ t : Str, d.lt 0 = true → finO 0 1 (.rt (.tup [.str t, d]) [o]) = .ok (.tup [.str t, d]) [o] := fun t hl => by
    have := fin_rt (d := .tup [.str t, d]) (st := [o]) (by simp [D.lt, ltL, hl])
    exact this
  intro p hp hB
  simp only [kinds, List.mem_cons, List.not_mem_nil, or_false] at hp
  rcases hp with rfl | rfl | rfl | rfl | rfl | rfl | rfl | rfl | rfl
  · exact told0 _ _ _ o hB
  · obtain ⟨b1, b2, b3, b4⟩ : smT d ∧ elsB (wid ss) d = false ∧ d.lt 0 = true ∧ PB d 2000000 9 := hB
    have h1 := word_at_els ss hs h3 hw12 h0 d (.int 0) b1 b3 b2 1 [o]
    have f := fin "elements" b3
    rw [en__law_told]
    generalize ss.map D.int = S at *
    generalize w.map D.int = WW at *
    simp (implicitDefEqProofs := false) [Y.Z.x_nil, Y.Z.x_cons, Y.Z.bind_ok, Y.Z.bind_ex, Y.Z.lift_ok, Y.Z.lift_ex, Y.Z.noEx_ok, Y.Z.seq_nx, Y.Z.seq_rt, Y.Z.seq_bk, Y.Z.seq_ct, Y.Z.seq_ex, Y.Z.kRaise_e, Y.Z.y_raise, Y.Z.y_tryv, Y.Z.tv_nx, Y.Z.tv_rt, Y.Z.tv_ex, Y.hkD, Y.Z.e_fld, Y.Z.fld_e, Y.Z.loop_nx, Y.Z.loop_rt, Y.Z.loop_bk, Y.Z.loop_ct, Y.Z.asT_ok, Y.Z.opt_some, Y.Z.var_some, Y.Z.y_asg, Y.Z.y_aug, Y.Z.y_ite, Y.Z.x_retN, Y.Z.x_brk, Y.Z.x_cnt, Y.Z.x_pass, Y.Z.e_var, Y.Z.e_cst, Y.Z.e_glo, Y.Z.e_bin, Y.Z.e_neg, Y.Z.e_cmp, Y.Z.e_cmp2, Y.Z.e_and, Y.Z.e_or, Y.Z.e_not, Y.Z.e_ife, Y.Z.e_tup, Y.Z.e_lst, Y.Z.e_dic, Y.Z.e_dic0, Y.Z.e_ix, Y.Z.e_sl, Y.Z.e_rev, Y.Z.e_call, Y.Z.e_callK, Y.Z.e_blt, Y.Z.e_isi, Y.Z.e_isq, Y.Z.e_app, Y.Z.e_pop, Y.Z.e_ext, Y.Z.kExt1_e, Y.Z.k_ex_e, Y.Z.k_ex2_e, Y.Z.ex_ref, Y.Z.t_max1, Y.Z.t_min1, Y.Z.e_get2, Y.Z.e_lc, Y.Z.e_lc2, Y.Z.l_nil, Y.Z.l_cons, Y.Z.o_non, Y.Z.o_som, Y.Z.c_val, Y.Z.c_cp, Y.Z.c_cp2, Y.Z.c_and, Y.Z.c_or, Y.Z.c_not, Y.Z.co_non, Y.Z.co_som, Y.Z.i_seq, Y.Z.i_rng1, Y.Z.i_rng2, Y.Z.i_enm, Y.Z.i_zip, Y.Z.g_nm, Y.Z.g_tup, Y.Z.g_ct, Y.Z.g_ix, Y.Z.gs_nil, Y.Z.gs_cons, Y.Z.b_add, Y.Z.b_sub, Y.Z.b_mul, Y.Z.b_div, Y.Z.b_mod, Y.Z.b_pow, Y.Z.b_tup, Y.Z.b_lst, Y.Z.b_mulL, Y.Z.c_lt, Y.Z.c_le, Y.Z.c_gt, Y.Z.c_ge, Y.Z.c_eq, Y.Z.c_ne, Y.Z.c_isN, Y.Z.c_notN, Y.Z.c_isB, Y.Z.c_notB, Y.isNon, Y.Z.newL_f, Y.Z.newL_t, Y.Z.t_len, Y.Z.t_sum, Y.Z.t_any, Y.Z.t_all, Y.Z.t_abs, Y.Z.t_min, Y.Z.t_max, Y.Z.t_tuple, Y.Z.t_list, Y.Z.t_int, Y.Z.t_repr, Y.Z.t_str, Y.Z.st_str, Y.Z.st_int, Y.Z.st_tup, Y.Z.len_tup, Y.Z.len_lst, Y.Z.len_rd, Y.Z.len_ct, Y.Z.tup_lst, Y.Z.tup_tup, Y.Z.tup_ct, Y.Z.lst_lst, Y.Z.lst_tup, Y.Z.sum_ints, Y.Z.sum_ints', Y.Z.w_tup, Y.Z.w_lst, Y.Z.w_rd, Y.Z.w_ct, Y.Z.we_tup, Y.Z.we_lst, Y.Z.we_ct, Y.Z.wz_tl, Y.Z.wz_ll, Y.Z.wz_tt, Y.Z.r_tup, Y.Z.r_lst, Y.Z.r_rd, Y.Z.r_ct, Y.Z.cut_tup, Y.Z.cut_lst, Y.Z.cut_rd, Y.Z.rev_tup, Y.Z.tr_bl, Y.Z.tr_int, Y.Z.tr_tup, Y.Z.tr_lst, Y.Z.refL_lst, Y.Z.getO_lst, Y.Z.r_ref, Y.Z.lstOf_ref, Y.Z.len_ref, Y.Z.tup_ref, Y.Z.lst_ref, Y.Z.w_ref, Y.Z.we_ref, Y.Z.cut_ref, Y.Z.tr_ref, Y.Z.s_ref, Y.Z.so_lst, Y.Z.a_ref, Y.Z.po_ref, Y.Z.ixN_lit, Y.Z.atI_lit, Y.isD, Y.tyD, Y.subTy, Y.Z.fin_rtc, Y.Z.fin_rta, Y.Z.fin_nx, Y.D.lt, Y.ltL, Y.Z.ltL_ints, Y.Z.still_nil2, Y.Z.still_tup, Y.Z.still_ct, Y.Z.still_rd, Y.Z.still_lst, Y.wipe, Y.Z.blO_some, Y.Z.y_par, Y.Z.y_par3, Y.Z.kPar31_e, Y.Z.kPar32_e, Y.Z.kPar33_e, Y.Z.y_expr, Y.Z.y_ret, Y.Z.y_for, Y.Z.x_while, Y.Z.kAsg_e, Y.Z.kAug3_e, Y.Z.kAug2_e, Y.Z.kAug1_e, Y.Z.kIte_e, Y.Z.kPar2_e, Y.Z.kPar1_e, Y.Z.kExpr_e, Y.Z.kFor_e, Y.Z.kBin1_e, Y.Z.kNeg_e, Y.Z.kCmp2_e, Y.Z.kCmp1_e, Y.Z.kC23_e, Y.Z.kC22_e, Y.Z.kC21_e, Y.Z.kAnd_e, Y.Z.kOr_e, Y.Z.kNot_e, Y.Z.kIfe_e, Y.Z.kTup_e, Y.Z.kLst_e, Y.Z.kDic_e, Y.Z.kIx1_e, Y.Z.kSl2_e, Y.Z.kSl1_e, Y.Z.kCall_e, Y.Z.kCK3_e, Y.Z.kCK2_e, Y.Z.kCK1_e, Y.Z.kApp1_e, Y.Z.kG2_e, Y.Z.kG1_e, Y.Z.lcF3_e, Y.Z.lcF2_e, Y.Z.lcF1_e, Y.Z.kLc_e, Y.Z.lcG1_e, Y.Z.lcH2_e, Y.Z.lcH1_e, Y.Z.kLc2_e, Y.Z.kL2_e, Y.Z.kL1_e, Y.Z.kInt_e, Y.Z.kTru_e, Y.Z.kCp2_e, Y.Z.kCp1_e, Y.Z.kCq3_e, Y.Z.kCq2_e, Y.Z.kCq1_e, Y.Z.kCand_e, Y.Z.kCor_e, Y.Z.kCnot_e, Y.Z.kR2_e, Y.Z.kZ_e, Y.Z.kGx3_e, Y.Z.kGx2_e, Y.Z.kGx1_e, Y.Z.kWh_e, Y.Z.k_len_e, Y.Z.k_tup_e, Y.Z.k_lst_e, Y.Z.k_w_e, Y.Z.k_we_e, Y.Z.k_cut_e, Y.Z.k_tr_e, Y.Z.sK2_e, Y.Z.sK1_e, Y.Z.soK_e, Y.Z.k_ap_e, Y.Z.k_po2_e, Y.Z.k_po_e, ir__law_told, h1, z2, f]
  · have B : BadW d := hB
    obtain ⟨w1, w2, w3, w4, w5⟩ := W B [o]
    have f := fin "word" B.lt
    rw [en__law_told]
    generalize ss.map D.int = S at *
    generalize w.map D.int = WW at *
    simp (implicitDefEqProofs := false) [Y.Z.x_nil, Y.Z.x_cons, Y.Z.bind_ok, Y.Z.bind_ex, Y.Z.lift_ok, Y.Z.lift_ex, Y.Z.noEx_ok, Y.Z.seq_nx, Y.Z.seq_rt, Y.Z.seq_bk, Y.Z.seq_ct, Y.Z.seq_ex, Y.Z.kRaise_e, Y.Z.y_raise, Y.Z.y_tryv, Y.Z.tv_nx, Y.Z.tv_rt, Y.Z.tv_ex, Y.hkD, Y.Z.e_fld, Y.Z.fld_e, Y.Z.loop_nx, Y.Z.loop_rt, Y.Z.loop_bk, Y.Z.loop_ct, Y.Z.asT_ok, Y.Z.opt_some, Y.Z.var_some, Y.Z.y_asg, Y.Z.y_aug, Y.Z.y_ite, Y.Z.x_retN, Y.Z.x_brk, Y.Z.x_cnt, Y.Z.x_pass, Y.Z.e_var, Y.Z.e_cst, Y.Z.e_glo, Y.Z.e_bin, Y.Z.e_neg, Y.Z.e_cmp, Y.Z.e_cmp2, Y.Z.e_and, Y.Z.e_or, Y.Z.e_not, Y.Z.e_ife, Y.Z.e_tup, Y.Z.e_lst, Y.Z.e_dic, Y.Z.e_dic0, Y.Z.e_ix, Y.Z.e_sl, Y.Z.e_rev, Y.Z.e_call, Y.Z.e_callK, Y.Z.e_blt, Y.Z.e_isi, Y.Z.e_isq, Y.Z.e_app, Y.Z.e_pop, Y.Z.e_ext, Y.Z.kExt1_e, Y.Z.k_ex_e, Y.Z.k_ex2_e, Y.Z.ex_ref, Y.Z.t_max1, Y.Z.t_min1, Y.Z.e_get2, Y.Z.e_lc, Y.Z.e_lc2, Y.Z.l_nil, Y.Z.l_cons, Y.Z.o_non, Y.Z.o_som, Y.Z.c_val, Y.Z.c_cp, Y.Z.c_cp2, Y.Z.c_and, Y.Z.c_or, Y.Z.c_not, Y.Z.co_non, Y.Z.co_som, Y.Z.i_seq, Y.Z.i_rng1, Y.Z.i_rng2, Y.Z.i_enm, Y.Z.i_zip, Y.Z.g_nm, Y.Z.g_tup, Y.Z.g_ct, Y.Z.g_ix, Y.Z.gs_nil, Y.Z.gs_cons, Y.Z.b_add, Y.Z.b_sub, Y.Z.b_mul, Y.Z.b_div, Y.Z.b_mod, Y.Z.b_pow, Y.Z.b_tup, Y.Z.b_lst, Y.Z.b_mulL, Y.Z.c_lt, Y.Z.c_le, Y.Z.c_gt, Y.Z.c_ge, Y.Z.c_eq, Y.Z.c_ne, Y.Z.c_isN, Y.Z.c_notN, Y.Z.c_isB, Y.Z.c_notB, Y.isNon, Y.Z.newL_f, Y.Z.newL_t, Y.Z.t_len, Y.Z.t_sum, Y.Z.t_any, Y.Z.t_all, Y.Z.t_abs, Y.Z.t_min, Y.Z.t_max, Y.Z.t_tuple, Y.Z.t_list, Y.Z.t_int, Y.Z.t_repr, Y.Z.t_str, Y.Z.st_str, Y.Z.st_int, Y.Z.st_tup, Y.Z.len_tup, Y.Z.len_lst, Y.Z.len_rd, Y.Z.len_ct, Y.Z.tup_lst, Y.Z.tup_tup, Y.Z.tup_ct, Y.Z.lst_lst, Y.Z.lst_tup, Y.Z.sum_ints, Y.Z.sum_ints', Y.Z.w_tup, Y.Z.w_lst, Y.Z.w_rd, Y.Z.w_ct, Y.Z.we_tup, Y.Z.we_lst, Y.Z.we_ct, Y.Z.wz_tl, Y.Z.wz_ll, Y.Z.wz_tt, Y.Z.r_tup, Y.Z.r_lst, Y.Z.r_rd, Y.Z.r_ct, Y.Z.cut_tup, Y.Z.cut_lst, Y.Z.cut_rd, Y.Z.rev_tup, Y.Z.tr_bl, Y.Z.tr_int, Y.Z.tr_tup, Y.Z.tr_lst, Y.Z.refL_lst, Y.Z.getO_lst, Y.Z.r_ref, Y.Z.lstOf_ref, Y.Z.len_ref, Y.Z.tup_ref, Y.Z.lst_ref, Y.Z.w_ref, Y.Z.we_ref, Y.Z.cut_ref, Y.Z.tr_ref, Y.Z.s_ref, Y.Z.so_lst, Y.Z.a_ref, Y.Z.po_ref, Y.Z.ixN_lit, Y.Z.atI_lit, Y.isD, Y.tyD, Y.subTy, Y.Z.fin_rtc, Y.Z.fin_rta, Y.Z.fin_nx, Y.D.lt, Y.ltL, Y.Z.ltL_ints, Y.Z.still_nil2, Y.Z.still_tup, Y.Z.still_ct, Y.Z.still_rd, Y.Z.still_lst, Y.wipe, Y.Z.blO_some, Y.Z.y_par, Y.Z.y_par3, Y.Z.kPar31_e, Y.Z.kPar32_e, Y.Z.kPar33_e, Y.Z.y_expr, Y.Z.y_ret, Y.Z.y_for, Y.Z.x_while, Y.Z.kAsg_e, Y.Z.kAug3_e, Y.Z.kAug2_e, Y.Z.kAug1_e, Y.Z.kIte_e, Y.Z.kPar2_e, Y.Z.kPar1_e, Y.Z.kExpr_e, Y.Z.kFor_e, Y.Z.kBin1_e, Y.Z.kNeg_e, Y.Z.kCmp2_e, Y.Z.kCmp1_e, Y.Z.kC23_e, Y.Z.kC22_e, Y.Z.kC21_e, Y.Z.kAnd_e, Y.Z.kOr_e, Y.Z.kNot_e, Y.Z.kIfe_e, Y.Z.kTup_e, Y.Z.kLst_e, Y.Z.kDic_e, Y.Z.kIx1_e, Y.Z.kSl2_e, Y.Z.kSl1_e, Y.Z.kCall_e, Y.Z.kCK3_e, Y.Z.kCK2_e, Y.Z.kCK1_e, Y.Z.kApp1_e, Y.Z.kG2_e, Y.Z.kG1_e, Y.Z.lcF3_e, Y.Z.lcF2_e, Y.Z.lcF1_e, Y.Z.kLc_e, Y.Z.lcG1_e, Y.Z.lcH2_e, Y.Z.lcH1_e, Y.Z.kLc2_e, Y.Z.kL2_e, Y.Z.kL1_e, Y.Z.kInt_e, Y.Z.kTru_e, Y.Z.kCp2_e, Y.Z.kCp1_e, Y.Z.kCq3_e, Y.Z.kCq2_e, Y.Z.kCq1_e, Y.Z.kCand_e, Y.Z.kCor_e, Y.Z.kCnot_e, Y.Z.kR2_e, Y.Z.kZ_e, Y.Z.kGx3_e, Y.Z.kGx2_e, Y.Z.kGx1_e, Y.Z.kWh_e, Y.Z.k_len_e, Y.Z.k_tup_e, Y.Z.k_lst_e, Y.Z.k_w_e, Y.Z.k_we_e, Y.Z.k_cut_e, Y.Z.k_tr_e, Y.Z.sK2_e, Y.Z.sK1_e, Y.Z.soK_e, Y.Z.k_ap_e, Y.Z.k_po2_e, Y.Z.k_po_e, ir__law_told, w1, z2, f]
  · have B : BadW d := hB
    obtain ⟨w1, w2, w3, w4, w5⟩ := W B [o]
    have f := fin "word" B.lt
    rw [en__law_told]
    generalize ss.map D.int = S at *
    generalize w.map D.int = WW at *
    simp (implicitDefEqProofs := false) [Y.Z.x_nil, Y.Z.x_cons, Y.Z.bind_ok, Y.Z.bind_ex, Y.Z.lift_ok, Y.Z.lift_ex, Y.Z.noEx_ok, Y.Z.seq_nx, Y.Z.seq_rt, Y.Z.seq_bk, Y.Z.seq_ct, Y.Z.seq_ex, Y.Z.kRaise_e, Y.Z.y_raise, Y.Z.y_tryv, Y.Z.tv_nx, Y.Z.tv_rt, Y.Z.tv_ex, Y.hkD, Y.Z.e_fld, Y.Z.fld_e, Y.Z.loop_nx, Y.Z.loop_rt, Y.Z.loop_bk, Y.Z.loop_ct, Y.Z.asT_ok, Y.Z.opt_some, Y.Z.var_some, Y.Z.y_asg, Y.Z.y_aug, Y.Z.y_ite, Y.Z.x_retN, Y.Z.x_brk, Y.Z.x_cnt, Y.Z.x_pass, Y.Z.e_var, Y.Z.e_cst, Y.Z.e_glo, Y.Z.e_bin, Y.Z.e_neg, Y.Z.e_cmp, Y.Z.e_cmp2, Y.Z.e_and, Y.Z.e_or, Y.Z.e_not, Y.Z.e_ife, Y.Z.e_tup, Y.Z.e_lst, Y.Z.e_dic, Y.Z.e_dic0, Y.Z.e_ix, Y.Z.e_sl, Y.Z.e_rev, Y.Z.e_call, Y.Z.e_callK, Y.Z.e_blt, Y.Z.e_isi, Y.Z.e_isq, Y.Z.e_app, Y.Z.e_pop, Y.Z.e_ext, Y.Z.kExt1_e, Y.Z.k_ex_e, Y.Z.k_ex2_e, Y.Z.ex_ref, Y.Z.t_max1, Y.Z.t_min1, Y.Z.e_get2, Y.Z.e_lc, Y.Z.e_lc2, Y.Z.l_nil, Y.Z.l_cons, Y.Z.o_non, Y.Z.o_som, Y.Z.c_val, Y.Z.c_cp, Y.Z.c_cp2, Y.Z.c_and, Y.Z.c_or, Y.Z.c_not, Y.Z.co_non, Y.Z.co_som, Y.Z.i_seq, Y.Z.i_rng1, Y.Z.i_rng2, Y.Z.i_enm, Y.Z.i_zip, Y.Z.g_nm, Y.Z.g_tup, Y.Z.g_ct, Y.Z.g_ix, Y.Z.gs_nil, Y.Z.gs_cons, Y.Z.b_add, Y.Z.b_sub, Y.Z.b_mul, Y.Z.b_div, Y.Z.b_mod, Y.Z.b_pow, Y.Z.b_tup, Y.Z.b_lst, Y.Z.b_mulL, Y.Z.c_lt, Y.Z.c_le, Y.Z.c_gt, Y.Z.c_ge, Y.Z.c_eq, Y.Z.c_ne, Y.Z.c_isN, Y.Z.c_notN, Y.Z.c_isB, Y.Z.c_notB, Y.isNon, Y.Z.newL_f, Y.Z.newL_t, Y.Z.t_len, Y.Z.t_sum, Y.Z.t_any, Y.Z.t_all, Y.Z.t_abs, Y.Z.t_min, Y.Z.t_max, Y.Z.t_tuple, Y.Z.t_list, Y.Z.t_int, Y.Z.t_repr, Y.Z.t_str, Y.Z.st_str, Y.Z.st_int, Y.Z.st_tup, Y.Z.len_tup, Y.Z.len_lst, Y.Z.len_rd, Y.Z.len_ct, Y.Z.tup_lst, Y.Z.tup_tup, Y.Z.tup_ct, Y.Z.lst_lst, Y.Z.lst_tup, Y.Z.sum_ints, Y.Z.sum_ints', Y.Z.w_tup, Y.Z.w_lst, Y.Z.w_rd, Y.Z.w_ct, Y.Z.we_tup, Y.Z.we_lst, Y.Z.we_ct, Y.Z.wz_tl, Y.Z.wz_ll, Y.Z.wz_tt, Y.Z.r_tup, Y.Z.r_lst, Y.Z.r_rd, Y.Z.r_ct, Y.Z.cut_tup, Y.Z.cut_lst, Y.Z.cut_rd, Y.Z.rev_tup, Y.Z.tr_bl, Y.Z.tr_int, Y.Z.tr_tup, Y.Z.tr_lst, Y.Z.refL_lst, Y.Z.getO_lst, Y.Z.r_ref, Y.Z.lstOf_ref, Y.Z.len_ref, Y.Z.tup_ref, Y.Z.lst_ref, Y.Z.w_ref, Y.Z.we_ref, Y.Z.cut_ref, Y.Z.tr_ref, Y.Z.s_ref, Y.Z.so_lst, Y.Z.a_ref, Y.Z.po_ref, Y.Z.ixN_lit, Y.Z.atI_lit, Y.isD, Y.tyD, Y.subTy, Y.Z.fin_rtc, Y.Z.fin_rta, Y.Z.fin_nx, Y.D.lt, Y.ltL, Y.Z.ltL_ints, Y.Z.still_nil2, Y.Z.still_tup, Y.Z.still_ct, Y.Z.still_rd, Y.Z.still_lst, Y.wipe, Y.Z.blO_some, Y.Z.y_par, Y.Z.y_par3, Y.Z.kPar31_e, Y.Z.kPar32_e, Y.Z.kPar33_e, Y.Z.y_expr, Y.Z.y_ret, Y.Z.y_for, Y.Z.x_while, Y.Z.kAsg_e, Y.Z.kAug3_e, Y.Z.kAug2_e, Y.Z.kAug1_e, Y.Z.kIte_e, Y.Z.kPar2_e, Y.Z.kPar1_e, Y.Z.kExpr_e, Y.Z.kFor_e, Y.Z.kBin1_e, Y.Z.kNeg_e, Y.Z.kCmp2_e, Y.Z.kCmp1_e, Y.Z.kC23_e, Y.Z.kC22_e, Y.Z.kC21_e, Y.Z.kAnd_e, Y.Z.kOr_e, Y.Z.kNot_e, Y.Z.kIfe_e, Y.Z.kTup_e, Y.Z.kLst_e, Y.Z.kDic_e, Y.Z.kIx1_e, Y.Z.kSl2_e, Y.Z.kSl1_e, Y.Z.kCall_e, Y.Z.kCK3_e, Y.Z.kCK2_e, Y.Z.kCK1_e, Y.Z.kApp1_e, Y.Z.kG2_e, Y.Z.kG1_e, Y.Z.lcF3_e, Y.Z.lcF2_e, Y.Z.lcF1_e, Y.Z.kLc_e, Y.Z.lcG1_e, Y.Z.lcH2_e, Y.Z.lcH1_e, Y.Z.kLc2_e, Y.Z.kL2_e, Y.Z.kL1_e, Y.Z.kInt_e, Y.Z.kTru_e, Y.Z.kCp2_e, Y.Z.kCp1_e, Y.Z.kCq3_e, Y.Z.kCq2_e, Y.Z.kCq1_e, Y.Z.kCand_e, Y.Z.kCor_e, Y.Z.kCnot_e, Y.Z.kR2_e, Y.Z.kZ_e, Y.Z.kGx3_e, Y.Z.kGx2_e, Y.Z.kGx1_e, Y.Z.kWh_e, Y.Z.k_len_e, Y.Z.k_tup_e, Y.Z.k_lst_e, Y.Z.k_w_e, Y.Z.k_we_e, Y.Z.k_cut_e, Y.Z.k_tr_e, Y.Z.sK2_e, Y.Z.sK1_e, Y.Z.soK_e, Y.Z.k_ap_e, Y.Z.k_po2_e, Y.Z.k_po_e, ir__law_told, w2, z2, f]
  · have B : BadW d := hB
    obtain ⟨w1, w2, w3, w4, w5⟩ := W B [o]
    have f := fin "word" B.lt
    rw [en__law_told]
    generalize ss.map D.int = S at *
    generalize w.map D.int = WW at *
    simp (implicitDefEqProofs := false) [Y.Z.x_nil, Y.Z.x_cons, Y.Z.bind_ok, Y.Z.bind_ex, Y.Z.lift_ok, Y.Z.lift_ex, Y.Z.noEx_ok, Y.Z.seq_nx, Y.Z.seq_rt, Y.Z.seq_bk, Y.Z.seq_ct, Y.Z.seq_ex, Y.Z.kRaise_e, Y.Z.y_raise, Y.Z.y_tryv, Y.Z.tv_nx, Y.Z.tv_rt, Y.Z.tv_ex, Y.hkD, Y.Z.e_fld, Y.Z.fld_e, Y.Z.loop_nx, Y.Z.loop_rt, Y.Z.loop_bk, Y.Z.loop_ct, Y.Z.asT_ok, Y.Z.opt_some, Y.Z.var_some, Y.Z.y_asg, Y.Z.y_aug, Y.Z.y_ite, Y.Z.x_retN, Y.Z.x_brk, Y.Z.x_cnt, Y.Z.x_pass, Y.Z.e_var, Y.Z.e_cst, Y.Z.e_glo, Y.Z.e_bin, Y.Z.e_neg, Y.Z.e_cmp, Y.Z.e_cmp2, Y.Z.e_and, Y.Z.e_or, Y.Z.e_not, Y.Z.e_ife, Y.Z.e_tup, Y.Z.e_lst, Y.Z.e_dic, Y.Z.e_dic0, Y.Z.e_ix, Y.Z.e_sl, Y.Z.e_rev, Y.Z.e_call, Y.Z.e_callK, Y.Z.e_blt, Y.Z.e_isi, Y.Z.e_isq, Y.Z.e_app, Y.Z.e_pop, Y.Z.e_ext, Y.Z.kExt1_e, Y.Z.k_ex_e, Y.Z.k_ex2_e, Y.Z.ex_ref, Y.Z.t_max1, Y.Z.t_min1, Y.Z.e_get2, Y.Z.e_lc, Y.Z.e_lc2, Y.Z.l_nil, Y.Z.l_cons, Y.Z.o_non, Y.Z.o_som, Y.Z.c_val, Y.Z.c_cp, Y.Z.c_cp2, Y.Z.c_and, Y.Z.c_or, Y.Z.c_not, Y.Z.co_non, Y.Z.co_som, Y.Z.i_seq, Y.Z.i_rng1, Y.Z.i_rng2, Y.Z.i_enm, Y.Z.i_zip, Y.Z.g_nm, Y.Z.g_tup, Y.Z.g_ct, Y.Z.g_ix, Y.Z.gs_nil, Y.Z.gs_cons, Y.Z.b_add, Y.Z.b_sub, Y.Z.b_mul, Y.Z.b_div, Y.Z.b_mod, Y.Z.b_pow, Y.Z.b_tup, Y.Z.b_lst, Y.Z.b_mulL, Y.Z.c_lt, Y.Z.c_le, Y.Z.c_gt, Y.Z.c_ge, Y.Z.c_eq, Y.Z.c_ne, Y.Z.c_isN, Y.Z.c_notN, Y.Z.c_isB, Y.Z.c_notB, Y.isNon, Y.Z.newL_f, Y.Z.newL_t, Y.Z.t_len, Y.Z.t_sum, Y.Z.t_any, Y.Z.t_all, Y.Z.t_abs, Y.Z.t_min, Y.Z.t_max, Y.Z.t_tuple, Y.Z.t_list, Y.Z.t_int, Y.Z.t_repr, Y.Z.t_str, Y.Z.st_str, Y.Z.st_int, Y.Z.st_tup, Y.Z.len_tup, Y.Z.len_lst, Y.Z.len_rd, Y.Z.len_ct, Y.Z.tup_lst, Y.Z.tup_tup, Y.Z.tup_ct, Y.Z.lst_lst, Y.Z.lst_tup, Y.Z.sum_ints, Y.Z.sum_ints', Y.Z.w_tup, Y.Z.w_lst, Y.Z.w_rd, Y.Z.w_ct, Y.Z.we_tup, Y.Z.we_lst, Y.Z.we_ct, Y.Z.wz_tl, Y.Z.wz_ll, Y.Z.wz_tt, Y.Z.r_tup, Y.Z.r_lst, Y.Z.r_rd, Y.Z.r_ct, Y.Z.cut_tup, Y.Z.cut_lst, Y.Z.cut_rd, Y.Z.rev_tup, Y.Z.tr_bl, Y.Z.tr_int, Y.Z.tr_tup, Y.Z.tr_lst, Y.Z.refL_lst, Y.Z.getO_lst, Y.Z.r_ref, Y.Z.lstOf_ref, Y.Z.len_ref, Y.Z.tup_ref, Y.Z.lst_ref, Y.Z.w_ref, Y.Z.we_ref, Y.Z.cut_ref, Y.Z.tr_ref, Y.Z.s_ref, Y.Z.so_lst, Y.Z.a_ref, Y.Z.po_ref, Y.Z.ixN_lit, Y.Z.atI_lit, Y.isD, Y.tyD, Y.subTy, Y.Z.fin_rtc, Y.Z.fin_rta, Y.Z.fin_nx, Y.D.lt, Y.ltL, Y.Z.ltL_ints, Y.Z.still_nil2, Y.Z.still_tup, Y.Z.still_ct, Y.Z.still_rd, Y.Z.still_lst, Y.wipe, Y.Z.blO_some, Y.Z.y_par, Y.Z.y_par3, Y.Z.kPar31_e, Y.Z.kPar32_e, Y.Z.kPar33_e, Y.Z.y_expr, Y.Z.y_ret, Y.Z.y_for, Y.Z.x_while, Y.Z.kAsg_e, Y.Z.kAug3_e, Y.Z.kAug2_e, Y.Z.kAug1_e, Y.Z.kIte_e, Y.Z.kPar2_e, Y.Z.kPar1_e, Y.Z.kExpr_e, Y.Z.kFor_e, Y.Z.kBin1_e, Y.Z.kNeg_e, Y.Z.kCmp2_e, Y.Z.kCmp1_e, Y.Z.kC23_e, Y.Z.kC22_e, Y.Z.kC21_e, Y.Z.kAnd_e, Y.Z.kOr_e, Y.Z.kNot_e, Y.Z.kIfe_e, Y.Z.kTup_e, Y.Z.kLst_e, Y.Z.kDic_e, Y.Z.kIx1_e, Y.Z.kSl2_e, Y.Z.kSl1_e, Y.Z.kCall_e, Y.Z.kCK3_e, Y.Z.kCK2_e, Y.Z.kCK1_e, Y.Z.kApp1_e, Y.Z.kG2_e, Y.Z.kG1_e, Y.Z.lcF3_e, Y.Z.lcF2_e, Y.Z.lcF1_e, Y.Z.kLc_e, Y.Z.lcG1_e, Y.Z.lcH2_e, Y.Z.lcH1_e, Y.Z.kLc2_e, Y.Z.kL2_e, Y.Z.kL1_e, Y.Z.kInt_e, Y.Z.kTru_e, Y.Z.kCp2_e, Y.Z.kCp1_e, Y.Z.kCq3_e, Y.Z.kCq2_e, Y.Z.kCq1_e, Y.Z.kCand_e, Y.Z.kCor_e, Y.Z.kCnot_e, Y.Z.kR2_e, Y.Z.kZ_e, Y.Z.kGx3_e, Y.Z.kGx2_e, Y.Z.kGx1_e, Y.Z.kWh_e, Y.Z.k_len_e, Y.Z.k_tup_e, Y.Z.k_lst_e, Y.Z.k_w_e, Y.Z.k_we_e, Y.Z.k_cut_e, Y.Z.k_tr_e, Y.Z.sK2_e, Y.Z.sK1_e, Y.Z.soK_e, Y.Z.k_ap_e, Y.Z.k_po2_e, Y.Z.k_po_e, ir__law_told, w3, z2, f]
  · have B : d ∈ nb5 := hB
    have h1 := exp_num w hw' (by omega) o 1 B
    have hlt : d.lt 0 = true := by
      have : ∀ d ∈ nb5, d.lt 0 = true := by decide
      exact this d B
    have f := fin "number" hlt
    rw [en__law_told]
    generalize ss.map D.int = S at *
    generalize w.map D.int = WW at *
    simp (implicitDefEqProofs := false) [Y.Z.x_nil, Y.Z.x_cons, Y.Z.bind_ok, Y.Z.bind_ex, Y.Z.lift_ok, Y.Z.lift_ex, Y.Z.noEx_ok, Y.Z.seq_nx, Y.Z.seq_rt, Y.Z.seq_bk, Y.Z.seq_ct, Y.Z.seq_ex, Y.Z.kRaise_e, Y.Z.y_raise, Y.Z.y_tryv, Y.Z.tv_nx, Y.Z.tv_rt, Y.Z.tv_ex, Y.hkD, Y.Z.e_fld, Y.Z.fld_e, Y.Z.loop_nx, Y.Z.loop_rt, Y.Z.loop_bk, Y.Z.loop_ct, Y.Z.asT_ok, Y.Z.opt_some, Y.Z.var_some, Y.Z.y_asg, Y.Z.y_aug, Y.Z.y_ite, Y.Z.x_retN, Y.Z.x_brk, Y.Z.x_cnt, Y.Z.x_pass, Y.Z.e_var, Y.Z.e_cst, Y.Z.e_glo, Y.Z.e_bin, Y.Z.e_neg, Y.Z.e_cmp, Y.Z.e_cmp2, Y.Z.e_and, Y.Z.e_or, Y.Z.e_not, Y.Z.e_ife, Y.Z.e_tup, Y.Z.e_lst, Y.Z.e_dic, Y.Z.e_dic0, Y.Z.e_ix, Y.Z.e_sl, Y.Z.e_rev, Y.Z.e_call, Y.Z.e_callK, Y.Z.e_blt, Y.Z.e_isi, Y.Z.e_isq, Y.Z.e_app, Y.Z.e_pop, Y.Z.e_ext, Y.Z.kExt1_e, Y.Z.k_ex_e, Y.Z.k_ex2_e, Y.Z.ex_ref, Y.Z.t_max1, Y.Z.t_min1, Y.Z.e_get2, Y.Z.e_lc, Y.Z.e_lc2, Y.Z.l_nil, Y.Z.l_cons, Y.Z.o_non, Y.Z.o_som, Y.Z.c_val, Y.Z.c_cp, Y.Z.c_cp2, Y.Z.c_and, Y.Z.c_or, Y.Z.c_not, Y.Z.co_non, Y.Z.co_som, Y.Z.i_seq, Y.Z.i_rng1, Y.Z.i_rng2, Y.Z.i_enm, Y.Z.i_zip, Y.Z.g_nm, Y.Z.g_tup, Y.Z.g_ct, Y.Z.g_ix, Y.Z.gs_nil, Y.Z.gs_cons, Y.Z.b_add, Y.Z.b_sub, Y.Z.b_mul, Y.Z.b_div, Y.Z.b_mod, Y.Z.b_pow, Y.Z.b_tup, Y.Z.b_lst, Y.Z.b_mulL, Y.Z.c_lt, Y.Z.c_le, Y.Z.c_gt, Y.Z.c_ge, Y.Z.c_eq, Y.Z.c_ne, Y.Z.c_isN, Y.Z.c_notN, Y.Z.c_isB, Y.Z.c_notB, Y.isNon, Y.Z.newL_f, Y.Z.newL_t, Y.Z.t_len, Y.Z.t_sum, Y.Z.t_any, Y.Z.t_all, Y.Z.t_abs, Y.Z.t_min, Y.Z.t_max, Y.Z.t_tuple, Y.Z.t_list, Y.Z.t_int, Y.Z.t_repr, Y.Z.t_str, Y.Z.st_str, Y.Z.st_int, Y.Z.st_tup, Y.Z.len_tup, Y.Z.len_lst, Y.Z.len_rd, Y.Z.len_ct, Y.Z.tup_lst, Y.Z.tup_tup, Y.Z.tup_ct, Y.Z.lst_lst, Y.Z.lst_tup, Y.Z.sum_ints, Y.Z.sum_ints', Y.Z.w_tup, Y.Z.w_lst, Y.Z.w_rd, Y.Z.w_ct, Y.Z.we_tup, Y.Z.we_lst, Y.Z.we_ct, Y.Z.wz_tl, Y.Z.wz_ll, Y.Z.wz_tt, Y.Z.r_tup, Y.Z.r_lst, Y.Z.r_rd, Y.Z.r_ct, Y.Z.cut_tup, Y.Z.cut_lst, Y.Z.cut_rd, Y.Z.rev_tup, Y.Z.tr_bl, Y.Z.tr_int, Y.Z.tr_tup, Y.Z.tr_lst, Y.Z.refL_lst, Y.Z.getO_lst, Y.Z.r_ref, Y.Z.lstOf_ref, Y.Z.len_ref, Y.Z.tup_ref, Y.Z.lst_ref, Y.Z.w_ref, Y.Z.we_ref, Y.Z.cut_ref, Y.Z.tr_ref, Y.Z.s_ref, Y.Z.so_lst, Y.Z.a_ref, Y.Z.po_ref, Y.Z.ixN_lit, Y.Z.atI_lit, Y.isD, Y.tyD, Y.subTy, Y.Z.fin_rtc, Y.Z.fin_rta, Y.Z.fin_nx, Y.D.lt, Y.ltL, Y.Z.ltL_ints, Y.Z.still_nil2, Y.Z.still_tup, Y.Z.still_ct, Y.Z.still_rd, Y.Z.still_lst, Y.wipe, Y.Z.blO_some, Y.Z.y_par, Y.Z.y_par3, Y.Z.kPar31_e, Y.Z.kPar32_e, Y.Z.kPar33_e, Y.Z.y_expr, Y.Z.y_ret, Y.Z.y_for, Y.Z.x_while, Y.Z.kAsg_e, Y.Z.kAug3_e, Y.Z.kAug2_e, Y.Z.kAug1_e, Y.Z.kIte_e, Y.Z.kPar2_e, Y.Z.kPar1_e, Y.Z.kExpr_e, Y.Z.kFor_e, Y.Z.kBin1_e, Y.Z.kNeg_e, Y.Z.kCmp2_e, Y.Z.kCmp1_e, Y.Z.kC23_e, Y.Z.kC22_e, Y.Z.kC21_e, Y.Z.kAnd_e, Y.Z.kOr_e, Y.Z.kNot_e, Y.Z.kIfe_e, Y.Z.kTup_e, Y.Z.kLst_e, Y.Z.kDic_e, Y.Z.kIx1_e, Y.Z.kSl2_e, Y.Z.kSl1_e, Y.Z.kCall_e, Y.Z.kCK3_e, Y.Z.kCK2_e, Y.Z.kCK1_e, Y.Z.kApp1_e, Y.Z.kG2_e, Y.Z.kG1_e, Y.Z.lcF3_e, Y.Z.lcF2_e, Y.Z.lcF1_e, Y.Z.kLc_e, Y.Z.lcG1_e, Y.Z.lcH2_e, Y.Z.lcH1_e, Y.Z.kLc2_e, Y.Z.kL2_e, Y.Z.kL1_e, Y.Z.kInt_e, Y.Z.kTru_e, Y.Z.kCp2_e, Y.Z.kCp1_e, Y.Z.kCq3_e, Y.Z.kCq2_e, Y.Z.kCq1_e, Y.Z.kCand_e, Y.Z.kCor_e, Y.Z.kCnot_e, Y.Z.kR2_e, Y.Z.kZ_e, Y.Z.kGx3_e, Y.Z.kGx2_e, Y.Z.kGx1_e, Y.Z.kWh_e, Y.Z.k_len_e, Y.Z.k_tup_e, Y.Z.k_lst_e, Y.Z.k_w_e, Y.Z.k_we_e, Y.Z.k_cut_e, Y.Z.k_tr_e, Y.Z.sK2_e, Y.Z.sK1_e, Y.Z.soK_e, Y.Z.k_ap_e, Y.Z.k_po2_e, Y.Z.k_po_e, ir__law_told, h1, z2, f]
  · have B : BadW d := hB
    obtain ⟨w1, w2, w3, w4, w5⟩ := W B [o]
    have f := fin "word" B.lt
    rw [en__law_told]
    generalize ss.map D.int = S at *
    generalize w.map D.int = WW at *
    simp (implicitDefEqProofs := false) [Y.Z.x_nil, Y.Z.x_cons, Y.Z.bind_ok, Y.Z.bind_ex, Y.Z.lift_ok, Y.Z.lift_ex, Y.Z.noEx_ok, Y.Z.seq_nx, Y.Z.seq_rt, Y.Z.seq_bk, Y.Z.seq_ct, Y.Z.seq_ex, Y.Z.kRaise_e, Y.Z.y_raise, Y.Z.y_tryv, Y.Z.tv_nx, Y.Z.tv_rt, Y.Z.tv_ex, Y.hkD, Y.Z.e_fld, Y.Z.fld_e, Y.Z.loop_nx, Y.Z.loop_rt, Y.Z.loop_bk, Y.Z.loop_ct, Y.Z.asT_ok, Y.Z.opt_some, Y.Z.var_some, Y.Z.y_asg, Y.Z.y_aug, Y.Z.y_ite, Y.Z.x_retN, Y.Z.x_brk, Y.Z.x_cnt, Y.Z.x_pass, Y.Z.e_var, Y.Z.e_cst, Y.Z.e_glo, Y.Z.e_bin, Y.Z.e_neg, Y.Z.e_cmp, Y.Z.e_cmp2, Y.Z.e_and, Y.Z.e_or, Y.Z.e_not, Y.Z.e_ife, Y.Z.e_tup, Y.Z.e_lst, Y.Z.e_dic, Y.Z.e_dic0, Y.Z.e_ix, Y.Z.e_sl, Y.Z.e_rev, Y.Z.e_call, Y.Z.e_callK, Y.Z.e_blt, Y.Z.e_isi, Y.Z.e_isq, Y.Z.e_app, Y.Z.e_pop, Y.Z.e_ext, Y.Z.kExt1_e, Y.Z.k_ex_e, Y.Z.k_ex2_e, Y.Z.ex_ref, Y.Z.t_max1, Y.Z.t_min1, Y.Z.e_get2, Y.Z.e_lc, Y.Z.e_lc2, Y.Z.l_nil, Y.Z.l_cons, Y.Z.o_non, Y.Z.o_som, Y.Z.c_val, Y.Z.c_cp, Y.Z.c_cp2, Y.Z.c_and, Y.Z.c_or, Y.Z.c_not, Y.Z.co_non, Y.Z.co_som, Y.Z.i_seq, Y.Z.i_rng1, Y.Z.i_rng2, Y.Z.i_enm, Y.Z.i_zip, Y.Z.g_nm, Y.Z.g_tup, Y.Z.g_ct, Y.Z.g_ix, Y.Z.gs_nil, Y.Z.gs_cons, Y.Z.b_add, Y.Z.b_sub, Y.Z.b_mul, Y.Z.b_div, Y.Z.b_mod, Y.Z.b_pow, Y.Z.b_tup, Y.Z.b_lst, Y.Z.b_mulL, Y.Z.c_lt, Y.Z.c_le, Y.Z.c_gt, Y.Z.c_ge, Y.Z.c_eq, Y.Z.c_ne, Y.Z.c_isN, Y.Z.c_notN, Y.Z.c_isB, Y.Z.c_notB, Y.isNon, Y.Z.newL_f, Y.Z.newL_t, Y.Z.t_len, Y.Z.t_sum, Y.Z.t_any, Y.Z.t_all, Y.Z.t_abs, Y.Z.t_min, Y.Z.t_max, Y.Z.t_tuple, Y.Z.t_list, Y.Z.t_int, Y.Z.t_repr, Y.Z.t_str, Y.Z.st_str, Y.Z.st_int, Y.Z.st_tup, Y.Z.len_tup, Y.Z.len_lst, Y.Z.len_rd, Y.Z.len_ct, Y.Z.tup_lst, Y.Z.tup_tup, Y.Z.tup_ct, Y.Z.lst_lst, Y.Z.lst_tup, Y.Z.sum_ints, Y.Z.sum_ints', Y.Z.w_tup, Y.Z.w_lst, Y.Z.w_rd, Y.Z.w_ct, Y.Z.we_tup, Y.Z.we_lst, Y.Z.we_ct, Y.Z.wz_tl, Y.Z.wz_ll, Y.Z.wz_tt, Y.Z.r_tup, Y.Z.r_lst, Y.Z.r_rd, Y.Z.r_ct, Y.Z.cut_tup, Y.Z.cut_lst, Y.Z.cut_rd, Y.Z.rev_tup, Y.Z.tr_bl, Y.Z.tr_int, Y.Z.tr_tup, Y.Z.tr_lst, Y.Z.refL_lst, Y.Z.getO_lst, Y.Z.r_ref, Y.Z.lstOf_ref, Y.Z.len_ref, Y.Z.tup_ref, Y.Z.lst_ref, Y.Z.w_ref, Y.Z.we_ref, Y.Z.cut_ref, Y.Z.tr_ref, Y.Z.s_ref, Y.Z.so_lst, Y.Z.a_ref, Y.Z.po_ref, Y.Z.ixN_lit, Y.Z.atI_lit, Y.isD, Y.tyD, Y.subTy, Y.Z.fin_rtc, Y.Z.fin_rta, Y.Z.fin_nx, Y.D.lt, Y.ltL, Y.Z.ltL_ints, Y.Z.still_nil2, Y.Z.still_tup, Y.Z.still_ct, Y.Z.still_rd, Y.Z.still_lst, Y.wipe, Y.Z.blO_some, Y.Z.y_par, Y.Z.y_par3, Y.Z.kPar31_e, Y.Z.kPar32_e, Y.Z.kPar33_e, Y.Z.y_expr, Y.Z.y_ret, Y.Z.y_for, Y.Z.x_while, Y.Z.kAsg_e, Y.Z.kAug3_e, Y.Z.kAug2_e, Y.Z.kAug1_e, Y.Z.kIte_e, Y.Z.kPar2_e, Y.Z.kPar1_e, Y.Z.kExpr_e, Y.Z.kFor_e, Y.Z.kBin1_e, Y.Z.kNeg_e, Y.Z.kCmp2_e, Y.Z.kCmp1_e, Y.Z.kC23_e, Y.Z.kC22_e, Y.Z.kC21_e, Y.Z.kAnd_e, Y.Z.kOr_e, Y.Z.kNot_e, Y.Z.kIfe_e, Y.Z.kTup_e, Y.Z.kLst_e, Y.Z.kDic_e, Y.Z.kIx1_e, Y.Z.kSl2_e, Y.Z.kSl1_e, Y.Z.kCall_e, Y.Z.kCK3_e, Y.Z.kCK2_e, Y.Z.kCK1_e, Y.Z.kApp1_e, Y.Z.kG2_e, Y.Z.kG1_e, Y.Z.lcF3_e, Y.Z.lcF2_e, Y.Z.lcF1_e, Y.Z.kLc_e, Y.Z.lcG1_e, Y.Z.lcH2_e, Y.Z.lcH1_e, Y.Z.kLc2_e, Y.Z.kL2_e, Y.Z.kL1_e, Y.Z.kInt_e, Y.Z.kTru_e, Y.Z.kCp2_e, Y.Z.kCp1_e, Y.Z.kCq3_e, Y.Z.kCq2_e, Y.Z.kCq1_e, Y.Z.kCand_e, Y.Z.kCor_e, Y.Z.kCnot_e, Y.Z.kR2_e, Y.Z.kZ_e, Y.Z.kGx3_e, Y.Z.kGx2_e, Y.Z.kGx1_e, Y.Z.kWh_e, Y.Z.k_len_e, Y.Z.k_tup_e, Y.Z.k_lst_e, Y.Z.k_w_e, Y.Z.k_we_e, Y.Z.k_cut_e, Y.Z.k_tr_e, Y.Z.sK2_e, Y.Z.sK1_e, Y.Z.soK_e, Y.Z.k_ap_e, Y.Z.k_po2_e, Y.Z.k_po_e, ir__law_told, w4, z2, f]
  · have B : BadW d := hB
    obtain ⟨w1, w2, w3, w4, w5⟩ := W B [o]
    have f := fin "word" B.lt
    rw [en__law_told]
    generalize ss.map D.int = S at *
    generalize w.map D.int = WW at *
    simp (implicitDefEqProofs := false) [Y.Z.x_nil, Y.Z.x_cons, Y.Z.bind_ok, Y.Z.bind_ex, Y.Z.lift_ok, Y.Z.lift_ex, Y.Z.noEx_ok, Y.Z.seq_nx, Y.Z.seq_rt, Y.Z.seq_bk, Y.Z.seq_ct, Y.Z.seq_ex, Y.Z.kRaise_e, Y.Z.y_raise, Y.Z.y_tryv, Y.Z.tv_nx, Y.Z.tv_rt, Y.Z.tv_ex, Y.hkD, Y.Z.e_fld, Y.Z.fld_e, Y.Z.loop_nx, Y.Z.loop_rt, Y.Z.loop_bk, Y.Z.loop_ct, Y.Z.asT_ok, Y.Z.opt_some, Y.Z.var_some, Y.Z.y_asg, Y.Z.y_aug, Y.Z.y_ite, Y.Z.x_retN, Y.Z.x_brk, Y.Z.x_cnt, Y.Z.x_pass, Y.Z.e_var, Y.Z.e_cst, Y.Z.e_glo, Y.Z.e_bin, Y.Z.e_neg, Y.Z.e_cmp, Y.Z.e_cmp2, Y.Z.e_and, Y.Z.e_or, Y.Z.e_not, Y.Z.e_ife, Y.Z.e_tup, Y.Z.e_lst, Y.Z.e_dic, Y.Z.e_dic0, Y.Z.e_ix, Y.Z.e_sl, Y.Z.e_rev, Y.Z.e_call, Y.Z.e_callK, Y.Z.e_blt, Y.Z.e_isi, Y.Z.e_isq, Y.Z.e_app, Y.Z.e_pop, Y.Z.e_ext, Y.Z.kExt1_e, Y.Z.k_ex_e, Y.Z.k_ex2_e, Y.Z.ex_ref, Y.Z.t_max1, Y.Z.t_min1, Y.Z.e_get2, Y.Z.e_lc, Y.Z.e_lc2, Y.Z.l_nil, Y.Z.l_cons, Y.Z.o_non, Y.Z.o_som, Y.Z.c_val, Y.Z.c_cp, Y.Z.c_cp2, Y.Z.c_and, Y.Z.c_or, Y.Z.c_not, Y.Z.co_non, Y.Z.co_som, Y.Z.i_seq, Y.Z.i_rng1, Y.Z.i_rng2, Y.Z.i_enm, Y.Z.i_zip, Y.Z.g_nm, Y.Z.g_tup, Y.Z.g_ct, Y.Z.g_ix, Y.Z.gs_nil, Y.Z.gs_cons, Y.Z.b_add, Y.Z.b_sub, Y.Z.b_mul, Y.Z.b_div, Y.Z.b_mod, Y.Z.b_pow, Y.Z.b_tup, Y.Z.b_lst, Y.Z.b_mulL, Y.Z.c_lt, Y.Z.c_le, Y.Z.c_gt, Y.Z.c_ge, Y.Z.c_eq, Y.Z.c_ne, Y.Z.c_isN, Y.Z.c_notN, Y.Z.c_isB, Y.Z.c_notB, Y.isNon, Y.Z.newL_f, Y.Z.newL_t, Y.Z.t_len, Y.Z.t_sum, Y.Z.t_any, Y.Z.t_all, Y.Z.t_abs, Y.Z.t_min, Y.Z.t_max, Y.Z.t_tuple, Y.Z.t_list, Y.Z.t_int, Y.Z.t_repr, Y.Z.t_str, Y.Z.st_str, Y.Z.st_int, Y.Z.st_tup, Y.Z.len_tup, Y.Z.len_lst, Y.Z.len_rd, Y.Z.len_ct, Y.Z.tup_lst, Y.Z.tup_tup, Y.Z.tup_ct, Y.Z.lst_lst, Y.Z.lst_tup, Y.Z.sum_ints, Y.Z.sum_ints', Y.Z.w_tup, Y.Z.w_lst, Y.Z.w_rd, Y.Z.w_ct, Y.Z.we_tup, Y.Z.we_lst, Y.Z.we_ct, Y.Z.wz_tl, Y.Z.wz_ll, Y.Z.wz_tt, Y.Z.r_tup, Y.Z.r_lst, Y.Z.r_rd, Y.Z.r_ct, Y.Z.cut_tup, Y.Z.cut_lst, Y.Z.cut_rd, Y.Z.rev_tup, Y.Z.tr_bl, Y.Z.tr_int, Y.Z.tr_tup, Y.Z.tr_lst, Y.Z.refL_lst, Y.Z.getO_lst, Y.Z.r_ref, Y.Z.lstOf_ref, Y.Z.len_ref, Y.Z.tup_ref, Y.Z.lst_ref, Y.Z.w_ref, Y.Z.we_ref, Y.Z.cut_ref, Y.Z.tr_ref, Y.Z.s_ref, Y.Z.so_lst, Y.Z.a_ref, Y.Z.po_ref, Y.Z.ixN_lit, Y.Z.atI_lit, Y.isD, Y.tyD, Y.subTy, Y.Z.fin_rtc, Y.Z.fin_rta, Y.Z.fin_nx, Y.D.lt, Y.ltL, Y.Z.ltL_ints, Y.Z.still_nil2, Y.Z.still_tup, Y.Z.still_ct, Y.Z.still_rd, Y.Z.still_lst, Y.wipe, Y.Z.blO_some, Y.Z.y_par, Y.Z.y_par3, Y.Z.kPar31_e, Y.Z.kPar32_e, Y.Z.kPar33_e, Y.Z.y_expr, Y.Z.y_ret, Y.Z.y_for, Y.Z.x_while, Y.Z.kAsg_e, Y.Z.kAug3_e, Y.Z.kAug2_e, Y.Z.kAug1_e, Y.Z.kIte_e, Y.Z.kPar2_e, Y.Z.kPar1_e, Y.Z.kExpr_e, Y.Z.kFor_e, Y.Z.kBin1_e, Y.Z.kNeg_e, Y.Z.kCmp2_e, Y.Z.kCmp1_e, Y.Z.kC23_e, Y.Z.kC22_e, Y.Z.kC21_e, Y.Z.kAnd_e, Y.Z.kOr_e, Y.Z.kNot_e, Y.Z.kIfe_e, Y.Z.kTup_e, Y.Z.kLst_e, Y.Z.kDic_e, Y.Z.kIx1_e, Y.Z.kSl2_e, Y.Z.kSl1_e, Y.Z.kCall_e, Y.Z.kCK3_e, Y.Z.kCK2_e, Y.Z.kCK1_e, Y.Z.kApp1_e, Y.Z.kG2_e, Y.Z.kG1_e, Y.Z.lcF3_e, Y.Z.lcF2_e, Y.Z.lcF1_e, Y.Z.kLc_e, Y.Z.lcG1_e, Y.Z.lcH2_e, Y.Z.lcH1_e, Y.Z.kLc2_e, Y.Z.kL2_e, Y.Z.kL1_e, Y.Z.kInt_e, Y.Z.kTru_e, Y.Z.kCp2_e, Y.Z.kCp1_e, Y.Z.kCq3_e, Y.Z.kCq2_e, Y.Z.kCq1_e, Y.Z.kCand_e, Y.Z.kCor_e, Y.Z.kCnot_e, Y.Z.kR2_e, Y.Z.kZ_e, Y.Z.kGx3_e, Y.Z.kGx2_e, Y.Z.kGx1_e, Y.Z.kWh_e, Y.Z.k_len_e, Y.Z.k_tup_e, Y.Z.k_lst_e, Y.Z.k_w_e, Y.Z.k_we_e, Y.Z.k_cut_e, Y.Z.k_tr_e, Y.Z.sK2_e, Y.Z.sK1_e, Y.Z.soK_e, Y.Z.k_ap_e, Y.Z.k_po2_e, Y.Z.k_po_e, ir__law_told, w5, z2, f]
  · have B : d ∈ nb8 := hB
    have h1 := idn_num w hw' (by omega) o 1 B
    have hlt : d.lt 0 = true := by
      have : ∀ d ∈ nb8, d.lt 0 = true := by decide
      exact this d B
    have f := fin "number" hlt
    rw [en__law_told]
    generalize ss.map D.int = S at *
    generalize w.map D.int = WW at *
    simp (implicitDefEqProofs := false) [Y.Z.x_nil, Y.Z.x_cons, Y.Z.bind_ok, Y.Z.bind_ex, Y.Z.lift_ok, Y.Z.lift_ex, Y.Z.noEx_ok, Y.Z.seq_nx, Y.Z.seq_rt, Y.Z.seq_bk, Y.Z.seq_ct, Y.Z.seq_ex, Y.Z.kRaise_e, Y.Z.y_raise, Y.Z.y_tryv, Y.Z.tv_nx, Y.Z.tv_rt, Y.Z.tv_ex, Y.hkD, Y.Z.e_fld, Y.Z.fld_e, Y.Z.loop_nx, Y.Z.loop_rt, Y.Z.loop_bk, Y.Z.loop_ct, Y.Z.asT_ok, Y.Z.opt_some, Y.Z.var_some, Y.Z.y_asg, Y.Z.y_aug, Y.Z.y_ite, Y.Z.x_retN, Y.Z.x_brk, Y.Z.x_cnt, Y.Z.x_pass, Y.Z.e_var, Y.Z.e_cst, Y.Z.e_glo, Y.Z.e_bin, Y.Z.e_neg, Y.Z.e_cmp, Y.Z.e_cmp2, Y.Z.e_and, Y.Z.e_or, Y.Z.e_not, Y.Z.e_ife, Y.Z.e_tup, Y.Z.e_lst, Y.Z.e_dic, Y.Z.e_dic0, Y.Z.e_ix, Y.Z.e_sl, Y.Z.e_rev, Y.Z.e_call, Y.Z.e_callK, Y.Z.e_blt, Y.Z.e_isi, Y.Z.e_isq, Y.Z.e_app, Y.Z.e_pop, Y.Z.e_ext, Y.Z.kExt1_e, Y.Z.k_ex_e, Y.Z.k_ex2_e, Y.Z.ex_ref, Y.Z.t_max1, Y.Z.t_min1, Y.Z.e_get2, Y.Z.e_lc, Y.Z.e_lc2, Y.Z.l_nil, Y.Z.l_cons, Y.Z.o_non, Y.Z.o_som, Y.Z.c_val, Y.Z.c_cp, Y.Z.c_cp2, Y.Z.c_and, Y.Z.c_or, Y.Z.c_not, Y.Z.co_non, Y.Z.co_som, Y.Z.i_seq, Y.Z.i_rng1, Y.Z.i_rng2, Y.Z.i_enm, Y.Z.i_zip, Y.Z.g_nm, Y.Z.g_tup, Y.Z.g_ct, Y.Z.g_ix, Y.Z.gs_nil, Y.Z.gs_cons, Y.Z.b_add, Y.Z.b_sub, Y.Z.b_mul, Y.Z.b_div, Y.Z.b_mod, Y.Z.b_pow, Y.Z.b_tup, Y.Z.b_lst, Y.Z.b_mulL, Y.Z.c_lt, Y.Z.c_le, Y.Z.c_gt, Y.Z.c_ge, Y.Z.c_eq, Y.Z.c_ne, Y.Z.c_isN, Y.Z.c_notN, Y.Z.c_isB, Y.Z.c_notB, Y.isNon, Y.Z.newL_f, Y.Z.newL_t, Y.Z.t_len, Y.Z.t_sum, Y.Z.t_any, Y.Z.t_all, Y.Z.t_abs, Y.Z.t_min, Y.Z.t_max, Y.Z.t_tuple, Y.Z.t_list, Y.Z.t_int, Y.Z.t_repr, Y.Z.t_str, Y.Z.st_str, Y.Z.st_int, Y.Z.st_tup, Y.Z.len_tup, Y.Z.len_lst, Y.Z.len_rd, Y.Z.len_ct, Y.Z.tup_lst, Y.Z.tup_tup, Y.Z.tup_ct, Y.Z.lst_lst, Y.Z.lst_tup, Y.Z.sum_ints, Y.Z.sum_ints', Y.Z.w_tup, Y.Z.w_lst, Y.Z.w_rd, Y.Z.w_ct, Y.Z.we_tup, Y.Z.we_lst, Y.Z.we_ct, Y.Z.wz_tl, Y.Z.wz_ll, Y.Z.wz_tt, Y.Z.r_tup, Y.Z.r_lst, Y.Z.r_rd, Y.Z.r_ct, Y.Z.cut_tup, Y.Z.cut_lst, Y.Z.cut_rd, Y.Z.rev_tup, Y.Z.tr_bl, Y.Z.tr_int, Y.Z.tr_tup, Y.Z.tr_lst, Y.Z.refL_lst, Y.Z.getO_lst, Y.Z.r_ref, Y.Z.lstOf_ref, Y.Z.len_ref, Y.Z.tup_ref, Y.Z.lst_ref, Y.Z.w_ref, Y.Z.we_ref, Y.Z.cut_ref, Y.Z.tr_ref, Y.Z.s_ref, Y.Z.so_lst, Y.Z.a_ref, Y.Z.po_ref, Y.Z.ixN_lit, Y.Z.atI_lit, Y.isD, Y.tyD, Y.subTy, Y.Z.fin_rtc, Y.Z.fin_rta, Y.Z.fin_nx, Y.D.lt, Y.ltL, Y.Z.ltL_ints, Y.Z.still_nil2, Y.Z.still_tup, Y.Z.still_ct, Y.Z.still_rd, Y.Z.still_lst, Y.wipe, Y.Z.blO_some, Y.Z.y_par, Y.Z.y_par3, Y.Z.kPar31_e, Y.Z.kPar32_e, Y.Z.kPar33_e, Y.Z.y_expr, Y.Z.y_ret, Y.Z.y_for, Y.Z.x_while, Y.Z.kAsg_e, Y.Z.kAug3_e, Y.Z.kAug2_e, Y.Z.kAug1_e, Y.Z.kIte_e, Y.Z.kPar2_e, Y.Z.kPar1_e, Y.Z.kExpr_e, Y.Z.kFor_e, Y.Z.kBin1_e, Y.Z.kNeg_e, Y.Z.kCmp2_e, Y.Z.kCmp1_e, Y.Z.kC23_e, Y.Z.kC22_e, Y.Z.kC21_e, Y.Z.kAnd_e, Y.Z.kOr_e, Y.Z.kNot_e, Y.Z.kIfe_e, Y.Z.kTup_e, Y.Z.kLst_e, Y.Z.kDic_e, Y.Z.kIx1_e, Y.Z.kSl2_e, Y.Z.kSl1_e, Y.Z.kCall_e, Y.Z.kCK3_e, Y.Z.kCK2_e, Y.Z.kCK1_e, Y.Z.kApp1_e, Y.Z.kG2_e, Y.Z.kG1_e, Y.Z.lcF3_e, Y.Z.lcF2_e, Y.Z.lcF1_e, Y.Z.kLc_e, Y.Z.lcG1_e, Y.Z.lcH2_e, Y.Z.lcH1_e, Y.Z.kLc2_e, Y.Z.kL2_e, Y.Z.kL1_e, Y.Z.kInt_e, Y.Z.kTru_e, Y.Z.kCp2_e, Y.Z.kCp1_e, Y.Z.kCq3_e, Y.Z.kCq2_e, Y.Z.kCq1_e, Y.Z.kCand_e, Y.Z.kCor_e, Y.Z.kCnot_e, Y.Z.kR2_e, Y.Z.kZ_e, Y.Z.kGx3_e, Y.Z.kGx2_e, Y.Z.kGx1_e, Y.Z.kWh_e, Y.Z.k_len_e, Y.Z.k_tup_e, Y.Z.k_lst_e, Y.Z.k_w_e, Y.Z.k_we_e, Y.Z.k_cut_e, Y.Z.k_tr_e, Y.Z.sK2_e, Y.Z.sK1_e, Y.Z.soK_e, Y.Z.k_ap_e, Y.Z.k_po2_e, Y.Z.k_po_e, ir__law_told, h1, z2, f]
end LW

namespace LW
open PySem Y Y.Z
theorem ss_eq (a b : String) (st : Stt) : cmpD .eq (.str a) (.str b) st = some (decide ((Str.ofString a) = (Str.ofString b))) := by
  simp only [cmpD, eqD_str st _ _ (sOk_of a) (sOk_of b)]
theorem log_nb {e : Nat} {x : List Int} (h : nb e x) (he : e ≤ 1920) (h0 : 0 < e) : ∀ u ∈ x, u.natAbs.log2 < 1920 := by
  intro u hu
  by_cases h1 : u.natAbs = 0
  · rw [h1]; decide
  · exact Nat.lt_of_lt_of_le ((Nat.log2_lt h1).mpr (ub_lt (h u hu))) he
theorem log_word {w : List Int} (h : okW w) : ∀ u ∈ w, u.natAbs.log2 < 1920 := by
  intro u hu
  have := h u hu
  have h2 : u.natAbs < 2 ^ 2 := by omega
  by_cases h1 : u.natAbs = 0
  · rw [h1]; decide
  · exact Nat.lt_of_lt_of_le ((Nat.log2_lt h1).mpr h2) (by decide)
theorem bad_space (S ys W n : D) (st : Stt) (h : StO [] st) : ∃ d st', (∀ b, callF tbl glo 100000 39 33 [.ref 0, .str "space", S, ys, W, n] b st = .ok d st') ∧ StO [] st' ∧ d ∈ sp13 := by
  obtain ⟨j, st1, e1, h1, j0, j1⟩ := dr 36 13 (by decide) (by decide) [] st h
  obtain ⟨d, hd, hm⟩ : ∃ d, L2.atI sp13 j = some d ∧ d ∈ sp13 := by
    have e := atI_nat sp13 j.toNat
    rw [Int.toNat_of_nonneg j0] at e
    have hl : j.toNat < sp13.length := by have : sp13.length = 13 := rfl
                                          omega
    rw [List.getElem?_eq_getElem hl] at e
    exact ⟨_, e, List.getElem_mem hl⟩
  have hlt : d.lt 0 = true := by
    have : ∀ d ∈ sp13, d.lt 0 = true := by decide
    exact this d hm
  have hf := fin_st h h1 d hlt
  have hf2 := fin_st h h1 d hlt
  have z : ∀ n : Nat, n ≤ 13 → n ≤ sz := fun n hn => Nat.le_trans hn (by decide)
  have hb : ∀ b, callF tbl glo 100000 38 29 [.ref 0] b st = .ok d st1 := fun b => by
    rw [en__law_bad_space]
    unfold sp13 at hd
    simp (implicitDefEqProofs := false) [Y.Z.x_nil, Y.Z.x_cons, Y.Z.bind_ok, Y.Z.bind_ex, Y.Z.lift_ok, Y.Z.lift_ex, Y.Z.noEx_ok, Y.Z.seq_nx, Y.Z.seq_rt, Y.Z.seq_bk, Y.Z.seq_ct, Y.Z.seq_ex, Y.Z.kRaise_e, Y.Z.y_raise, Y.Z.y_tryv, Y.Z.tv_nx, Y.Z.tv_rt, Y.Z.tv_ex, Y.hkD, Y.Z.e_fld, Y.Z.fld_e, Y.Z.loop_nx, Y.Z.loop_rt, Y.Z.loop_bk, Y.Z.loop_ct, Y.Z.asT_ok, Y.Z.opt_some, Y.Z.var_some, Y.Z.y_asg, Y.Z.y_aug, Y.Z.y_ite, Y.Z.x_retN, Y.Z.x_brk, Y.Z.x_cnt, Y.Z.x_pass, Y.Z.e_var, Y.Z.e_cst, Y.Z.e_glo, Y.Z.e_bin, Y.Z.e_neg, Y.Z.e_cmp, Y.Z.e_cmp2, Y.Z.e_and, Y.Z.e_or, Y.Z.e_not, Y.Z.e_ife, Y.Z.e_tup, Y.Z.e_lst, Y.Z.e_dic, Y.Z.e_dic0, Y.Z.e_ix, Y.Z.e_sl, Y.Z.e_rev, Y.Z.e_call, Y.Z.e_callK, Y.Z.e_blt, Y.Z.e_isi, Y.Z.e_isq, Y.Z.e_app, Y.Z.e_pop, Y.Z.e_ext, Y.Z.kExt1_e, Y.Z.k_ex_e, Y.Z.k_ex2_e, Y.Z.ex_ref, Y.Z.t_max1, Y.Z.t_min1, Y.Z.e_get2, Y.Z.e_lc, Y.Z.e_lc2, Y.Z.l_nil, Y.Z.l_cons, Y.Z.o_non, Y.Z.o_som, Y.Z.c_val, Y.Z.c_cp, Y.Z.c_cp2, Y.Z.c_and, Y.Z.c_or, Y.Z.c_not, Y.Z.co_non, Y.Z.co_som, Y.Z.i_seq, Y.Z.i_rng1, Y.Z.i_rng2, Y.Z.i_enm, Y.Z.i_zip, Y.Z.g_nm, Y.Z.g_tup, Y.Z.g_ct, Y.Z.g_ix, Y.Z.gs_nil, Y.Z.gs_cons, Y.Z.b_add, Y.Z.b_sub, Y.Z.b_mul, Y.Z.b_div, Y.Z.b_mod, Y.Z.b_pow, Y.Z.b_tup, Y.Z.b_lst, Y.Z.b_mulL, Y.Z.c_lt, Y.Z.c_le, Y.Z.c_gt, Y.Z.c_ge, Y.Z.c_eq, Y.Z.c_ne, Y.Z.c_isN, Y.Z.c_notN, Y.Z.c_isB, Y.Z.c_notB, Y.isNon, Y.Z.newL_f, Y.Z.newL_t, Y.Z.t_len, Y.Z.t_sum, Y.Z.t_any, Y.Z.t_all, Y.Z.t_abs, Y.Z.t_min, Y.Z.t_max, Y.Z.t_tuple, Y.Z.t_list, Y.Z.t_int, Y.Z.t_repr, Y.Z.t_str, Y.Z.st_str, Y.Z.st_int, Y.Z.st_tup, Y.Z.len_tup, Y.Z.len_lst, Y.Z.len_rd, Y.Z.len_ct, Y.Z.tup_lst, Y.Z.tup_tup, Y.Z.tup_ct, Y.Z.lst_lst, Y.Z.lst_tup, Y.Z.sum_ints, Y.Z.sum_ints', Y.Z.w_tup, Y.Z.w_lst, Y.Z.w_rd, Y.Z.w_ct, Y.Z.we_tup, Y.Z.we_lst, Y.Z.we_ct, Y.Z.wz_tl, Y.Z.wz_ll, Y.Z.wz_tt, Y.Z.r_tup, Y.Z.r_lst, Y.Z.r_rd, Y.Z.r_ct, Y.Z.cut_tup, Y.Z.cut_lst, Y.Z.cut_rd, Y.Z.rev_tup, Y.Z.tr_bl, Y.Z.tr_int, Y.Z.tr_tup, Y.Z.tr_lst, Y.Z.refL_lst, Y.Z.getO_lst, Y.Z.r_ref, Y.Z.lstOf_ref, Y.Z.len_ref, Y.Z.tup_ref, Y.Z.lst_ref, Y.Z.w_ref, Y.Z.we_ref, Y.Z.cut_ref, Y.Z.tr_ref, Y.Z.s_ref, Y.Z.so_lst, Y.Z.a_ref, Y.Z.po_ref, Y.Z.ixN_lit, Y.Z.atI_lit, Y.isD, Y.tyD, Y.subTy, Y.Z.fin_rtc, Y.Z.fin_rta, Y.Z.fin_nx, Y.D.lt, Y.ltL, Y.Z.ltL_ints, Y.Z.still_nil2, Y.Z.still_tup, Y.Z.still_ct, Y.Z.still_rd, Y.Z.still_lst, Y.wipe, Y.Z.blO_some, Y.Z.y_par, Y.Z.y_par3, Y.Z.kPar31_e, Y.Z.kPar32_e, Y.Z.kPar33_e, Y.Z.y_expr, Y.Z.y_ret, Y.Z.y_for, Y.Z.x_while, Y.Z.kAsg_e, Y.Z.kAug3_e, Y.Z.kAug2_e, Y.Z.kAug1_e, Y.Z.kIte_e, Y.Z.kPar2_e, Y.Z.kPar1_e, Y.Z.kExpr_e, Y.Z.kFor_e, Y.Z.kBin1_e, Y.Z.kNeg_e, Y.Z.kCmp2_e, Y.Z.kCmp1_e, Y.Z.kC23_e, Y.Z.kC22_e, Y.Z.kC21_e, Y.Z.kAnd_e, Y.Z.kOr_e, Y.Z.kNot_e, Y.Z.kIfe_e, Y.Z.kTup_e, Y.Z.kLst_e, Y.Z.kDic_e, Y.Z.kIx1_e, Y.Z.kSl2_e, Y.Z.kSl1_e, Y.Z.kCall_e, Y.Z.kCK3_e, Y.Z.kCK2_e, Y.Z.kCK1_e, Y.Z.kApp1_e, Y.Z.kG2_e, Y.Z.kG1_e, Y.Z.lcF3_e, Y.Z.lcF2_e, Y.Z.lcF1_e, Y.Z.kLc_e, Y.Z.lcG1_e, Y.Z.lcH2_e, Y.Z.lcH1_e, Y.Z.kLc2_e, Y.Z.kL2_e, Y.Z.kL1_e, Y.Z.kInt_e, Y.Z.kTru_e, Y.Z.kCp2_e, Y.Z.kCp1_e, Y.Z.kCq3_e, Y.Z.kCq2_e, Y.Z.kCq1_e, Y.Z.kCand_e, Y.Z.kCor_e, Y.Z.kCnot_e, Y.Z.kR2_e, Y.Z.kZ_e, Y.Z.kGx3_e, Y.Z.kGx2_e, Y.Z.kGx1_e, Y.Z.kWh_e, Y.Z.k_len_e, Y.Z.k_tup_e, Y.Z.k_lst_e, Y.Z.k_w_e, Y.Z.k_we_e, Y.Z.k_cut_e, Y.Z.k_tr_e, Y.Z.sK2_e, Y.Z.sK1_e, Y.Z.soK_e, Y.Z.k_ap_e, Y.Z.k_po2_e, Y.Z.k_po_e, ir__law_bad_space, z, e1, hd, hf]
  refine ⟨d, st1, fun b => ?_, h1, hm⟩
  rw [en__law_bad]
  have q1 := fun st => ss_eq "space" "space" st
  simp (implicitDefEqProofs := false) [Y.Z.x_nil, Y.Z.x_cons, Y.Z.bind_ok, Y.Z.bind_ex, Y.Z.lift_ok, Y.Z.lift_ex, Y.Z.noEx_ok, Y.Z.seq_nx, Y.Z.seq_rt, Y.Z.seq_bk, Y.Z.seq_ct, Y.Z.seq_ex, Y.Z.kRaise_e, Y.Z.y_raise, Y.Z.y_tryv, Y.Z.tv_nx, Y.Z.tv_rt, Y.Z.tv_ex, Y.hkD, Y.Z.e_fld, Y.Z.fld_e, Y.Z.loop_nx, Y.Z.loop_rt, Y.Z.loop_bk, Y.Z.loop_ct, Y.Z.asT_ok, Y.Z.opt_some, Y.Z.var_some, Y.Z.y_asg, Y.Z.y_aug, Y.Z.y_ite, Y.Z.x_retN, Y.Z.x_brk, Y.Z.x_cnt, Y.Z.x_pass, Y.Z.e_var, Y.Z.e_cst, Y.Z.e_glo, Y.Z.e_bin, Y.Z.e_neg, Y.Z.e_cmp, Y.Z.e_cmp2, Y.Z.e_and, Y.Z.e_or, Y.Z.e_not, Y.Z.e_ife, Y.Z.e_tup, Y.Z.e_lst, Y.Z.e_dic, Y.Z.e_dic0, Y.Z.e_ix, Y.Z.e_sl, Y.Z.e_rev, Y.Z.e_call, Y.Z.e_callK, Y.Z.e_blt, Y.Z.e_isi, Y.Z.e_isq, Y.Z.e_app, Y.Z.e_pop, Y.Z.e_ext, Y.Z.kExt1_e, Y.Z.k_ex_e, Y.Z.k_ex2_e, Y.Z.ex_ref, Y.Z.t_max1, Y.Z.t_min1, Y.Z.e_get2, Y.Z.e_lc, Y.Z.e_lc2, Y.Z.l_nil, Y.Z.l_cons, Y.Z.o_non, Y.Z.o_som, Y.Z.c_val, Y.Z.c_cp, Y.Z.c_cp2, Y.Z.c_and, Y.Z.c_or, Y.Z.c_not, Y.Z.co_non, Y.Z.co_som, Y.Z.i_seq, Y.Z.i_rng1, Y.Z.i_rng2, Y.Z.i_enm, Y.Z.i_zip, Y.Z.g_nm, Y.Z.g_tup, Y.Z.g_ct, Y.Z.g_ix, Y.Z.gs_nil, Y.Z.gs_cons, Y.Z.b_add, Y.Z.b_sub, Y.Z.b_mul, Y.Z.b_div, Y.Z.b_mod, Y.Z.b_pow, Y.Z.b_tup, Y.Z.b_lst, Y.Z.b_mulL, Y.Z.c_lt, Y.Z.c_le, Y.Z.c_gt, Y.Z.c_ge, Y.Z.c_eq, Y.Z.c_ne, Y.Z.c_isN, Y.Z.c_notN, Y.Z.c_isB, Y.Z.c_notB, Y.isNon, Y.Z.newL_f, Y.Z.newL_t, Y.Z.t_len, Y.Z.t_sum, Y.Z.t_any, Y.Z.t_all, Y.Z.t_abs, Y.Z.t_min, Y.Z.t_max, Y.Z.t_tuple, Y.Z.t_list, Y.Z.t_int, Y.Z.t_repr, Y.Z.t_str, Y.Z.st_str, Y.Z.st_int, Y.Z.st_tup, Y.Z.len_tup, Y.Z.len_lst, Y.Z.len_rd, Y.Z.len_ct, Y.Z.tup_lst, Y.Z.tup_tup, Y.Z.tup_ct, Y.Z.lst_lst, Y.Z.lst_tup, Y.Z.sum_ints, Y.Z.sum_ints', Y.Z.w_tup, Y.Z.w_lst, Y.Z.w_rd, Y.Z.w_ct, Y.Z.we_tup, Y.Z.we_lst, Y.Z.we_ct, Y.Z.wz_tl, Y.Z.wz_ll, Y.Z.wz_tt, Y.Z.r_tup, Y.Z.r_lst, Y.Z.r_rd, Y.Z.r_ct, Y.Z.cut_tup, Y.Z.cut_lst, Y.Z.cut_rd, Y.Z.rev_tup, Y.Z.tr_bl, Y.Z.tr_int, Y.Z.tr_tup, Y.Z.tr_lst, Y.Z.refL_lst, Y.Z.getO_lst, Y.Z.r_ref, Y.Z.lstOf_ref, Y.Z.len_ref, Y.Z.tup_ref, Y.Z.lst_ref, Y.Z.w_ref, Y.Z.we_ref, Y.Z.cut_ref, Y.Z.tr_ref, Y.Z.s_ref, Y.Z.so_lst, Y.Z.a_ref, Y.Z.po_ref, Y.Z.ixN_lit, Y.Z.atI_lit, Y.isD, Y.tyD, Y.subTy, Y.Z.fin_rtc, Y.Z.fin_rta, Y.Z.fin_nx, Y.D.lt, Y.ltL, Y.Z.ltL_ints, Y.Z.still_nil2, Y.Z.still_tup, Y.Z.still_ct, Y.Z.still_rd, Y.Z.still_lst, Y.wipe, Y.Z.blO_some, Y.Z.y_par, Y.Z.y_par3, Y.Z.kPar31_e, Y.Z.kPar32_e, Y.Z.kPar33_e, Y.Z.y_expr, Y.Z.y_ret, Y.Z.y_for, Y.Z.x_while, Y.Z.kAsg_e, Y.Z.kAug3_e, Y.Z.kAug2_e, Y.Z.kAug1_e, Y.Z.kIte_e, Y.Z.kPar2_e, Y.Z.kPar1_e, Y.Z.kExpr_e, Y.Z.kFor_e, Y.Z.kBin1_e, Y.Z.kNeg_e, Y.Z.kCmp2_e, Y.Z.kCmp1_e, Y.Z.kC23_e, Y.Z.kC22_e, Y.Z.kC21_e, Y.Z.kAnd_e, Y.Z.kOr_e, Y.Z.kNot_e, Y.Z.kIfe_e, Y.Z.kTup_e, Y.Z.kLst_e, Y.Z.kDic_e, Y.Z.kIx1_e, Y.Z.kSl2_e, Y.Z.kSl1_e, Y.Z.kCall_e, Y.Z.kCK3_e, Y.Z.kCK2_e, Y.Z.kCK1_e, Y.Z.kApp1_e, Y.Z.kG2_e, Y.Z.kG1_e, Y.Z.lcF3_e, Y.Z.lcF2_e, Y.Z.lcF1_e, Y.Z.kLc_e, Y.Z.lcG1_e, Y.Z.lcH2_e, Y.Z.lcH1_e, Y.Z.kLc2_e, Y.Z.kL2_e, Y.Z.kL1_e, Y.Z.kInt_e, Y.Z.kTru_e, Y.Z.kCp2_e, Y.Z.kCp1_e, Y.Z.kCq3_e, Y.Z.kCq2_e, Y.Z.kCq1_e, Y.Z.kCand_e, Y.Z.kCor_e, Y.Z.kCnot_e, Y.Z.kR2_e, Y.Z.kZ_e, Y.Z.kGx3_e, Y.Z.kGx2_e, Y.Z.kGx1_e, Y.Z.kWh_e, Y.Z.k_len_e, Y.Z.k_tup_e, Y.Z.k_lst_e, Y.Z.k_w_e, Y.Z.k_we_e, Y.Z.k_cut_e, Y.Z.k_tr_e, Y.Z.sK2_e, Y.Z.sK1_e, Y.Z.soK_e, Y.Z.k_ap_e, Y.Z.k_po2_e, Y.Z.k_po_e, ir__law_bad, q1, hb, hf]
theorem bad_word (S ys n : D) (w : List Int) (hw : okW w) (hl : w.length ≤ 6) (st : Stt) (h : StO [] st) : ∃ d st', (∀ b, callF tbl glo 100000 39 33 [.ref 0, .str "word", S, ys, .tup (w.map .int), n] b st = .ok d st') ∧ StO [] st' ∧ BadW d := by
  obtain ⟨d, st1, e1, h1, B⟩ := sp_bad_word 36 w hl (log_word hw) st h
  have hf := fin_st h h1 d B.lt
  refine ⟨d, st1, fun b => ?_, h1, B⟩
  rw [en__law_bad]
  have q1 := fun st => ss_eq "word" "space" st
  have q2 := fun st => ss_eq "word" "elements" st
  have q3 := fun st => ss_eq "word" "number" st
  have d1 : ¬ Str.ofString "word" = Str.ofString "space" := by decide +kernel
  have d2 : ¬ Str.ofString "word" = Str.ofString "elements" := by decide +kernel
  have d3 : ¬ Str.ofString "word" = Str.ofString "number" := by decide +kernel
  generalize w.map D.int = W at *
  simp (implicitDefEqProofs := false) [Y.Z.x_nil, Y.Z.x_cons, Y.Z.bind_ok, Y.Z.bind_ex, Y.Z.lift_ok, Y.Z.lift_ex, Y.Z.noEx_ok, Y.Z.seq_nx, Y.Z.seq_rt, Y.Z.seq_bk, Y.Z.seq_ct, Y.Z.seq_ex, Y.Z.kRaise_e, Y.Z.y_raise, Y.Z.y_tryv, Y.Z.tv_nx, Y.Z.tv_rt, Y.Z.tv_ex, Y.hkD, Y.Z.e_fld, Y.Z.fld_e, Y.Z.loop_nx, Y.Z.loop_rt, Y.Z.loop_bk, Y.Z.loop_ct, Y.Z.asT_ok, Y.Z.opt_some, Y.Z.var_some, Y.Z.y_asg, Y.Z.y_aug, Y.Z.y_ite, Y.Z.x_retN, Y.Z.x_brk, Y.Z.x_cnt, Y.Z.x_pass, Y.Z.e_var, Y.Z.e_cst, Y.Z.e_glo, Y.Z.e_bin, Y.Z.e_neg, Y.Z.e_cmp, Y.Z.e_cmp2, Y.Z.e_and, Y.Z.e_or, Y.Z.e_not, Y.Z.e_ife, Y.Z.e_tup, Y.Z.e_lst, Y.Z.e_dic, Y.Z.e_dic0, Y.Z.e_ix, Y.Z.e_sl, Y.Z.e_rev, Y.Z.e_call, Y.Z.e_callK, Y.Z.e_blt, Y.Z.e_isi, Y.Z.e_isq, Y.Z.e_app, Y.Z.e_pop, Y.Z.e_ext, Y.Z.kExt1_e, Y.Z.k_ex_e, Y.Z.k_ex2_e, Y.Z.ex_ref, Y.Z.t_max1, Y.Z.t_min1, Y.Z.e_get2, Y.Z.e_lc, Y.Z.e_lc2, Y.Z.l_nil, Y.Z.l_cons, Y.Z.o_non, Y.Z.o_som, Y.Z.c_val, Y.Z.c_cp, Y.Z.c_cp2, Y.Z.c_and, Y.Z.c_or, Y.Z.c_not, Y.Z.co_non, Y.Z.co_som, Y.Z.i_seq, Y.Z.i_rng1, Y.Z.i_rng2, Y.Z.i_enm, Y.Z.i_zip, Y.Z.g_nm, Y.Z.g_tup, Y.Z.g_ct, Y.Z.g_ix, Y.Z.gs_nil, Y.Z.gs_cons, Y.Z.b_add, Y.Z.b_sub, Y.Z.b_mul, Y.Z.b_div, Y.Z.b_mod, Y.Z.b_pow, Y.Z.b_tup, Y.Z.b_lst, Y.Z.b_mulL, Y.Z.c_lt, Y.Z.c_le, Y.Z.c_gt, Y.Z.c_ge, Y.Z.c_eq, Y.Z.c_ne, Y.Z.c_isN, Y.Z.c_notN, Y.Z.c_isB, Y.Z.c_notB, Y.isNon, Y.Z.newL_f, Y.Z.newL_t, Y.Z.t_len, Y.Z.t_sum, Y.Z.t_any, Y.Z.t_all, Y.Z.t_abs, Y.Z.t_min, Y.Z.t_max, Y.Z.t_tuple, Y.Z.t_list, Y.Z.t_int, Y.Z.t_repr, Y.Z.t_str, Y.Z.st_str, Y.Z.st_int, Y.Z.st_tup, Y.Z.len_tup, Y.Z.len_lst, Y.Z.len_rd, Y.Z.len_ct, Y.Z.tup_lst, Y.Z.tup_tup, Y.Z.tup_ct, Y.Z.lst_lst, Y.Z.lst_tup, Y.Z.sum_ints, Y.Z.sum_ints', Y.Z.w_tup, Y.Z.w_lst, Y.Z.w_rd, Y.Z.w_ct, Y.Z.we_tup, Y.Z.we_lst, Y.Z.we_ct, Y.Z.wz_tl, Y.Z.wz_ll, Y.Z.wz_tt, Y.Z.r_tup, Y.Z.r_lst, Y.Z.r_rd, Y.Z.r_ct, Y.Z.cut_tup, Y.Z.cut_lst, Y.Z.cut_rd, Y.Z.rev_tup, Y.Z.tr_bl, Y.Z.tr_int, Y.Z.tr_tup, Y.Z.tr_lst, Y.Z.refL_lst, Y.Z.getO_lst, Y.Z.r_ref, Y.Z.lstOf_ref, Y.Z.len_ref, Y.Z.tup_ref, Y.Z.lst_ref, Y.Z.w_ref, Y.Z.we_ref, Y.Z.cut_ref, Y.Z.tr_ref, Y.Z.s_ref, Y.Z.so_lst, Y.Z.a_ref, Y.Z.po_ref, Y.Z.ixN_lit, Y.Z.atI_lit, Y.isD, Y.tyD, Y.subTy, Y.Z.fin_rtc, Y.Z.fin_rta, Y.Z.fin_nx, Y.D.lt, Y.ltL, Y.Z.ltL_ints, Y.Z.still_nil2, Y.Z.still_tup, Y.Z.still_ct, Y.Z.still_rd, Y.Z.still_lst, Y.wipe, Y.Z.blO_some, Y.Z.y_par, Y.Z.y_par3, Y.Z.kPar31_e, Y.Z.kPar32_e, Y.Z.kPar33_e, Y.Z.y_expr, Y.Z.y_ret, Y.Z.y_for, Y.Z.x_while, Y.Z.kAsg_e, Y.Z.kAug3_e, Y.Z.kAug2_e, Y.Z.kAug1_e, Y.Z.kIte_e, Y.Z.kPar2_e, Y.Z.kPar1_e, Y.Z.kExpr_e, Y.Z.kFor_e, Y.Z.kBin1_e, Y.Z.kNeg_e, Y.Z.kCmp2_e, Y.Z.kCmp1_e, Y.Z.kC23_e, Y.Z.kC22_e, Y.Z.kC21_e, Y.Z.kAnd_e, Y.Z.kOr_e, Y.Z.kNot_e, Y.Z.kIfe_e, Y.Z.kTup_e, Y.Z.kLst_e, Y.Z.kDic_e, Y.Z.kIx1_e, Y.Z.kSl2_e, Y.Z.kSl1_e, Y.Z.kCall_e, Y.Z.kCK3_e, Y.Z.kCK2_e, Y.Z.kCK1_e, Y.Z.kApp1_e, Y.Z.kG2_e, Y.Z.kG1_e, Y.Z.lcF3_e, Y.Z.lcF2_e, Y.Z.lcF1_e, Y.Z.kLc_e, Y.Z.lcG1_e, Y.Z.lcH2_e, Y.Z.lcH1_e, Y.Z.kLc2_e, Y.Z.kL2_e, Y.Z.kL1_e, Y.Z.kInt_e, Y.Z.kTru_e, Y.Z.kCp2_e, Y.Z.kCp1_e, Y.Z.kCq3_e, Y.Z.kCq2_e, Y.Z.kCq1_e, Y.Z.kCand_e, Y.Z.kCor_e, Y.Z.kCnot_e, Y.Z.kR2_e, Y.Z.kZ_e, Y.Z.kGx3_e, Y.Z.kGx2_e, Y.Z.kGx1_e, Y.Z.kWh_e, Y.Z.k_len_e, Y.Z.k_tup_e, Y.Z.k_lst_e, Y.Z.k_w_e, Y.Z.k_we_e, Y.Z.k_cut_e, Y.Z.k_tr_e, Y.Z.sK2_e, Y.Z.sK1_e, Y.Z.soK_e, Y.Z.k_ap_e, Y.Z.k_po2_e, Y.Z.k_po_e, ir__law_bad, q1, q2, q3, d1, d2, d3, e1, hf]
theorem bad_number (S ys W : D) (five : Bool) (st : Stt) (h : StO [] st) : ∃ d st', (∀ b, callF tbl glo 100000 39 33 [.ref 0, .str "number", S, ys, W, .int (if five = true then 5 else 8)] b st = .ok d st') ∧ StO [] st' ∧ d ∈ (if five = true then nb5 else nb8) := by
  obtain ⟨j, st1, e1, h1, j0, j1⟩ := dr 37 10 (by decide) (by decide) [] st h
  have at_ : ∀ l : List D, l.length = 10 → (∀ d ∈ l, d.lt 0 = true) → ∃ d, L2.atI l j = some d ∧ d ∈ l ∧ d.lt 0 = true := fun l hl hlt => by
    have e := atI_nat l j.toNat
    rw [Int.toNat_of_nonneg j0] at e
    have hlen : j.toNat < l.length := by omega
    rw [List.getElem?_eq_getElem hlen] at e
    exact ⟨_, e, List.getElem_mem hlen, hlt _ (List.getElem_mem hlen)⟩
  have q1 := fun st => ss_eq "number" "space" st
  have q2 := fun st => ss_eq "number" "elements" st
  have q3 := fun st => ss_eq "number" "number" st
  have d1 : ¬ Str.ofString "number" = Str.ofString "space" := by decide +kernel
  have d2 : ¬ Str.ofString "number" = Str.ofString "elements" := by decide +kernel
  have z : ∀ n : Nat, n ≤ 13 → n ≤ sz := fun n hn => Nat.le_trans hn (by decide)
  have z10 : (4 : Nat) + 6 ≤ sz := by decide
  cases five with
  | true =>
    obtain ⟨d, hd, hm, hlt⟩ := at_ nb5 rfl (by decide)
    have hf := fin_st h h1 d hlt
    refine ⟨d, st1, fun b => ?_, h1, hm⟩
    rw [en__law_bad]
    unfold nb5 at hd
    simp (implicitDefEqProofs := false) [Y.Z.x_nil, Y.Z.x_cons, Y.Z.bind_ok, Y.Z.bind_ex, Y.Z.lift_ok, Y.Z.lift_ex, Y.Z.noEx_ok, Y.Z.seq_nx, Y.Z.seq_rt, Y.Z.seq_bk, Y.Z.seq_ct, Y.Z.seq_ex, Y.Z.kRaise_e, Y.Z.y_raise, Y.Z.y_tryv, Y.Z.tv_nx, Y.Z.tv_rt, Y.Z.tv_ex, Y.hkD, Y.Z.e_fld, Y.Z.fld_e, Y.Z.loop_nx, Y.Z.loop_rt, Y.Z.loop_bk, Y.Z.loop_ct, Y.Z.asT_ok, Y.Z.opt_some, Y.Z.var_some, Y.Z.y_asg, Y.Z.y_aug, Y.Z.y_ite, Y.Z.x_retN, Y.Z.x_brk, Y.Z.x_cnt, Y.Z.x_pass, Y.Z.e_var, Y.Z.e_cst, Y.Z.e_glo, Y.Z.e_bin, Y.Z.e_neg, Y.Z.e_cmp, Y.Z.e_cmp2, Y.Z.e_and, Y.Z.e_or, Y.Z.e_not, Y.Z.e_ife, Y.Z.e_tup, Y.Z.e_lst, Y.Z.e_dic, Y.Z.e_dic0, Y.Z.e_ix, Y.Z.e_sl, Y.Z.e_rev, Y.Z.e_call, Y.Z.e_callK, Y.Z.e_blt, Y.Z.e_isi, Y.Z.e_isq, Y.Z.e_app, Y.Z.e_pop, Y.Z.e_ext, Y.Z.kExt1_e, Y.Z.k_ex_e, Y.Z.k_ex2_e, Y.Z.ex_ref, Y.Z.t_max1, Y.Z.t_min1, Y.Z.e_get2, Y.Z.e_lc, Y.Z.e_lc2, Y.Z.l_nil, Y.Z.l_cons, Y.Z.o_non, Y.Z.o_som, Y.Z.c_val, Y.Z.c_cp, Y.Z.c_cp2, Y.Z.c_and, Y.Z.c_or, Y.Z.c_not, Y.Z.co_non, Y.Z.co_som, Y.Z.i_seq, Y.Z.i_rng1, Y.Z.i_rng2, Y.Z.i_enm, Y.Z.i_zip, Y.Z.g_nm, Y.Z.g_tup, Y.Z.g_ct, Y.Z.g_ix, Y.Z.gs_nil, Y.Z.gs_cons, Y.Z.b_add, Y.Z.b_sub, Y.Z.b_mul, Y.Z.b_div, Y.Z.b_mod, Y.Z.b_pow, Y.Z.b_tup, Y.Z.b_lst, Y.Z.b_mulL, Y.Z.c_lt, Y.Z.c_le, Y.Z.c_gt, Y.Z.c_ge, Y.Z.c_eq, Y.Z.c_ne, Y.Z.c_isN, Y.Z.c_notN, Y.Z.c_isB, Y.Z.c_notB, Y.isNon, Y.Z.newL_f, Y.Z.newL_t, Y.Z.t_len, Y.Z.t_sum, Y.Z.t_any, Y.Z.t_all, Y.Z.t_abs, Y.Z.t_min, Y.Z.t_max, Y.Z.t_tuple, Y.Z.t_list, Y.Z.t_int, Y.Z.t_repr, Y.Z.t_str, Y.Z.st_str, Y.Z.st_int, Y.Z.st_tup, Y.Z.len_tup, Y.Z.len_lst, Y.Z.len_rd, Y.Z.len_ct, Y.Z.tup_lst, Y.Z.tup_tup, Y.Z.tup_ct, Y.Z.lst_lst, Y.Z.lst_tup, Y.Z.sum_ints, Y.Z.sum_ints', Y.Z.w_tup, Y.Z.w_lst, Y.Z.w_rd, Y.Z.w_ct, Y.Z.we_tup, Y.Z.we_lst, Y.Z.we_ct, Y.Z.wz_tl, Y.Z.wz_ll, Y.Z.wz_tt, Y.Z.r_tup, Y.Z.r_lst, Y.Z.r_rd, Y.Z.r_ct, Y.Z.cut_tup, Y.Z.cut_lst, Y.Z.cut_rd, Y.Z.rev_tup, Y.Z.tr_bl, Y.Z.tr_int, Y.Z.tr_tup, Y.Z.tr_lst, Y.Z.refL_lst, Y.Z.getO_lst, Y.Z.r_ref, Y.Z.lstOf_ref, Y.Z.len_ref, Y.Z.tup_ref, Y.Z.lst_ref, Y.Z.w_ref, Y.Z.we_ref, Y.Z.cut_ref, Y.Z.tr_ref, Y.Z.s_ref, Y.Z.so_lst, Y.Z.a_ref, Y.Z.po_ref, Y.Z.ixN_lit, Y.Z.atI_lit, Y.isD, Y.tyD, Y.subTy, Y.Z.fin_rtc, Y.Z.fin_rta, Y.Z.fin_nx, Y.D.lt, Y.ltL, Y.Z.ltL_ints, Y.Z.still_nil2, Y.Z.still_tup, Y.Z.still_ct, Y.Z.still_rd, Y.Z.still_lst, Y.wipe, Y.Z.blO_some, Y.Z.y_par, Y.Z.y_par3, Y.Z.kPar31_e, Y.Z.kPar32_e, Y.Z.kPar33_e, Y.Z.y_expr, Y.Z.y_ret, Y.Z.y_for, Y.Z.x_while, Y.Z.kAsg_e, Y.Z.kAug3_e, Y.Z.kAug2_e, Y.Z.kAug1_e, Y.Z.kIte_e, Y.Z.kPar2_e, Y.Z.kPar1_e, Y.Z.kExpr_e, Y.Z.kFor_e, Y.Z.kBin1_e, Y.Z.kNeg_e, Y.Z.kCmp2_e, Y.Z.kCmp1_e, Y.Z.kC23_e, Y.Z.kC22_e, Y.Z.kC21_e, Y.Z.kAnd_e, Y.Z.kOr_e, Y.Z.kNot_e, Y.Z.kIfe_e, Y.Z.kTup_e, Y.Z.kLst_e, Y.Z.kDic_e, Y.Z.kIx1_e, Y.Z.kSl2_e, Y.Z.kSl1_e, Y.Z.kCall_e, Y.Z.kCK3_e, Y.Z.kCK2_e, Y.Z.kCK1_e, Y.Z.kApp1_e, Y.Z.kG2_e, Y.Z.kG1_e, Y.Z.lcF3_e, Y.Z.lcF2_e, Y.Z.lcF1_e, Y.Z.kLc_e, Y.Z.lcG1_e, Y.Z.lcH2_e, Y.Z.lcH1_e, Y.Z.kLc2_e, Y.Z.kL2_e, Y.Z.kL1_e, Y.Z.kInt_e, Y.Z.kTru_e, Y.Z.kCp2_e, Y.Z.kCp1_e, Y.Z.kCq3_e, Y.Z.kCq2_e, Y.Z.kCq1_e, Y.Z.kCand_e, Y.Z.kCor_e, Y.Z.kCnot_e, Y.Z.kR2_e, Y.Z.kZ_e, Y.Z.kGx3_e, Y.Z.kGx2_e, Y.Z.kGx1_e, Y.Z.kWh_e, Y.Z.k_len_e, Y.Z.k_tup_e, Y.Z.k_lst_e, Y.Z.k_w_e, Y.Z.k_we_e, Y.Z.k_cut_e, Y.Z.k_tr_e, Y.Z.sK2_e, Y.Z.sK1_e, Y.Z.soK_e, Y.Z.k_ap_e, Y.Z.k_po2_e, Y.Z.k_po_e, ir__law_bad, q1, q2, q3, d1, d2, z, z10, e1, hd, hf]
  | false =>
    obtain ⟨d, hd, hm, hlt⟩ := at_ nb8 rfl (by decide)
    have hf := fin_st h h1 d hlt
    refine ⟨d, st1, fun b => ?_, h1, hm⟩
    rw [en__law_bad]
    unfold nb8 at hd
    simp (implicitDefEqProofs := false) [Y.Z.x_nil, Y.Z.x_cons, Y.Z.bind_ok, Y.Z.bind_ex, Y.Z.lift_ok, Y.Z.lift_ex, Y.Z.noEx_ok, Y.Z.seq_nx, Y.Z.seq_rt, Y.Z.seq_bk, Y.Z.seq_ct, Y.Z.seq_ex, Y.Z.kRaise_e, Y.Z.y_raise, Y.Z.y_tryv, Y.Z.tv_nx, Y.Z.tv_rt, Y.Z.tv_ex, Y.hkD, Y.Z.e_fld, Y.Z.fld_e, Y.Z.loop_nx, Y.Z.loop_rt, Y.Z.loop_bk, Y.Z.loop_ct, Y.Z.asT_ok, Y.Z.opt_some, Y.Z.var_some, Y.Z.y_asg, Y.Z.y_aug, Y.Z.y_ite, Y.Z.x_retN, Y.Z.x_brk, Y.Z.x_cnt, Y.Z.x_pass, Y.Z.e_var, Y.Z.e_cst, Y.Z.e_glo, Y.Z.e_bin, Y.Z.e_neg, Y.Z.e_cmp, Y.Z.e_cmp2, Y.Z.e_and, Y.Z.e_or, Y.Z.e_not, Y.Z.e_ife, Y.Z.e_tup, Y.Z.e_lst, Y.Z.e_dic, Y.Z.e_dic0, Y.Z.e_ix, Y.Z.e_sl, Y.Z.e_rev, Y.Z.e_call, Y.Z.e_callK, Y.Z.e_blt, Y.Z.e_isi, Y.Z.e_isq, Y.Z.e_app, Y.Z.e_pop, Y.Z.e_ext, Y.Z.kExt1_e, Y.Z.k_ex_e, Y.Z.k_ex2_e, Y.Z.ex_ref, Y.Z.t_max1, Y.Z.t_min1, Y.Z.e_get2, Y.Z.e_lc, Y.Z.e_lc2, Y.Z.l_nil, Y.Z.l_cons, Y.Z.o_non, Y.Z.o_som, Y.Z.c_val, Y.Z.c_cp, Y.Z.c_cp2, Y.Z.c_and, Y.Z.c_or, Y.Z.c_not, Y.Z.co_non, Y.Z.co_som, Y.Z.i_seq, Y.Z.i_rng1, Y.Z.i_rng2, Y.Z.i_enm, Y.Z.i_zip, Y.Z.g_nm, Y.Z.g_tup, Y.Z.g_ct, Y.Z.g_ix, Y.Z.gs_nil, Y.Z.gs_cons, Y.Z.b_add, Y.Z.b_sub, Y.Z.b_mul, Y.Z.b_div, Y.Z.b_mod, Y.Z.b_pow, Y.Z.b_tup, Y.Z.b_lst, Y.Z.b_mulL, Y.Z.c_lt, Y.Z.c_le, Y.Z.c_gt, Y.Z.c_ge, Y.Z.c_eq, Y.Z.c_ne, Y.Z.c_isN, Y.Z.c_notN, Y.Z.c_isB, Y.Z.c_notB, Y.isNon, Y.Z.newL_f, Y.Z.newL_t, Y.Z.t_len, Y.Z.t_sum, Y.Z.t_any, Y.Z.t_all, Y.Z.t_abs, Y.Z.t_min, Y.Z.t_max, Y.Z.t_tuple, Y.Z.t_list, Y.Z.t_int, Y.Z.t_repr, Y.Z.t_str, Y.Z.st_str, Y.Z.st_int, Y.Z.st_tup, Y.Z.len_tup, Y.Z.len_lst, Y.Z.len_rd, Y.Z.len_ct, Y.Z.tup_lst, Y.Z.tup_tup, Y.Z.tup_ct, Y.Z.lst_lst, Y.Z.lst_tup, Y.Z.sum_ints, Y.Z.sum_ints', Y.Z.w_tup, Y.Z.w_lst, Y.Z.w_rd, Y.Z.w_ct, Y.Z.we_tup, Y.Z.we_lst, Y.Z.we_ct, Y.Z.wz_tl, Y.Z.wz_ll, Y.Z.wz_tt, Y.Z.r_tup, Y.Z.r_lst, Y.Z.r_rd, Y.Z.r_ct, Y.Z.cut_tup, Y.Z.cut_lst, Y.Z.cut_rd, Y.Z.rev_tup, Y.Z.tr_bl, Y.Z.tr_int, Y.Z.tr_tup, Y.Z.tr_lst, Y.Z.refL_lst, Y.Z.getO_lst, Y.Z.r_ref, Y.Z.lstOf_ref, Y.Z.len_ref, Y.Z.tup_ref, Y.Z.lst_ref, Y.Z.w_ref, Y.Z.we_ref, Y.Z.cut_ref, Y.Z.tr_ref, Y.Z.s_ref, Y.Z.so_lst, Y.Z.a_ref, Y.Z.po_ref, Y.Z.ixN_lit, Y.Z.atI_lit, Y.isD, Y.tyD, Y.subTy, Y.Z.fin_rtc, Y.Z.fin_rta, Y.Z.fin_nx, Y.D.lt, Y.ltL, Y.Z.ltL_ints, Y.Z.still_nil2, Y.Z.still_tup, Y.Z.still_ct, Y.Z.still_rd, Y.Z.still_lst, Y.wipe, Y.Z.blO_some, Y.Z.y_par, Y.Z.y_par3, Y.Z.kPar31_e, Y.Z.kPar32_e, Y.Z.kPar33_e, Y.Z.y_expr, Y.Z.y_ret, Y.Z.y_for, Y.Z.x_while, Y.Z.kAsg_e, Y.Z.kAug3_e, Y.Z.kAug2_e, Y.Z.kAug1_e, Y.Z.kIte_e, Y.Z.kPar2_e, Y.Z.kPar1_e, Y.Z.kExpr_e, Y.Z.kFor_e, Y.Z.kBin1_e, Y.Z.kNeg_e, Y.Z.kCmp2_e, Y.Z.kCmp1_e, Y.Z.kC23_e, Y.Z.kC22_e, Y.Z.kC21_e, Y.Z.kAnd_e, Y.Z.kOr_e, Y.Z.kNot_e, Y.Z.kIfe_e, Y.Z.kTup_e, Y.Z.kLst_e, Y.Z.kDic_e, Y.Z.kIx1_e, Y.Z.kSl2_e, Y.Z.kSl1_e, Y.Z.kCall_e, Y.Z.kCK3_e, Y.Z.kCK2_e, Y.Z.kCK1_e, Y.Z.kApp1_e, Y.Z.kG2_e, Y.Z.kG1_e, Y.Z.lcF3_e, Y.Z.lcF2_e, Y.Z.lcF1_e, Y.Z.kLc_e, Y.Z.lcG1_e, Y.Z.lcH2_e, Y.Z.lcH1_e, Y.Z.kLc2_e, Y.Z.kL2_e, Y.Z.kL1_e, Y.Z.kInt_e, Y.Z.kTru_e, Y.Z.kCp2_e, Y.Z.kCp1_e, Y.Z.kCq3_e, Y.Z.kCq2_e, Y.Z.kCq1_e, Y.Z.kCand_e, Y.Z.kCor_e, Y.Z.kCnot_e, Y.Z.kR2_e, Y.Z.kZ_e, Y.Z.kGx3_e, Y.Z.kGx2_e, Y.Z.kGx1_e, Y.Z.kWh_e, Y.Z.k_len_e, Y.Z.k_tup_e, Y.Z.k_lst_e, Y.Z.k_w_e, Y.Z.k_we_e, Y.Z.k_cut_e, Y.Z.k_tr_e, Y.Z.sK2_e, Y.Z.sK1_e, Y.Z.soK_e, Y.Z.k_ap_e, Y.Z.k_po2_e, Y.Z.k_po_e, ir__law_bad, q1, q2, q3, d1, d2, z, z10, e1, hd, hf]
end LW

namespace LW
open PySem Y Y.Z
theorem elB_ints {n : Nat} {x : List Int} (h : x.length = n) : elB n (.tup (x.map .int)) = true := by
  simp only [elB, List.length_map, h, decide_true, Bool.true_and]
  exact all_isI x
theorem smA_ints {x : List Int} (h : x.length ≤ 1000) : smA (.tup (x.map .int)) := ⟨sm_ints x, by simpa using h⟩
theorem bad_elements (S W n : D) (N : Nat) (x1 x2 x3 : List Int) (l1 : x1.length = N) (l2 : x2.length = N) (l3 : x3.length = N) (hN : 1 ≤ N) (hN2 : N ≤ 12) (n1 : nb 7 x1) (n2 : nb 7 x2) (n3 : nb 7 x3) (st : Stt) (h : StO [] st) :
    ∃ d st', (∀ b, callF tbl glo 100000 39 33 [.ref 0, .str "elements", S, .tup [.tup (x1.map .int), .tup (x2.map .int), .tup (x3.map .int)], W, n] b st = .ok d st') ∧ StO [] st' ∧ smT d ∧ elsB N d = false ∧ d.lt 0 = true ∧ PB d 2000000 9 := by
  obtain ⟨j, st1, e1, g1, j0, j3⟩ := dr 37 3 (by decide) (by decide) [] st h
  have q1 := fun st => ss_eq "elements" "space" st
  have q2 := fun st => ss_eq "elements" "elements" st
  have d1 : ¬ Str.ofString "elements" = Str.ofString "space" := by decide +kernel
  have pb : ∀ x : List Int, x.length = N → nb 7 x → PB (.tup (x.map .int)) 30003 1 := fun x hl hn => PB.tup ((PBs.ints (log_nb hn (by decide) (by decide))).mono (by omega) (Nat.le_refl _))
  have p1 := pb x1 l1 n1
  have p2 := pb x2 l2 n2
  have p3 := pb x3 l3 n3
  have s1 := smA_ints (x := x1) (by omega)
  have s2 := smA_ints (x := x2) (by omega)
  have s3 := smA_ints (x := x3) (by omega)
  have t1 : (D.tup (x1.map .int)).lt 0 = true := ltL_ints x1
  have t2 : (D.tup (x2.map .int)).lt 0 = true := ltL_ints x2
  have t3 : (D.tup (x3.map .int)).lt 0 = true := ltL_ints x3
  have b1 : elB N (.tup (x1.map .int)) = true := elB_ints l1
  have b2 : elB N (.tup (x2.map .int)) = true := elB_ints l2
  have b3 : elB N (.tup (x3.map .int)) = true := elB_ints l3
  obtain ⟨xj, bent, st2, hx, eb, g2, B, hbent⟩ : ∃ (xj : D) (bent : D → D) (st2 : Stt), True ∧ True ∧ True ∧ True ∧ True := ⟨.non, id, st, trivial, trivial, trivial, trivial, trivial⟩
  clear hx eb g2 B hbent xj bent st2
  have be : ∀ x : List Int, x.length = N → nb 7 x → ∃ e st', (∀ b, callF tbl glo 100000 38 30 [.ref 0, .tup (x.map .int)] b st1 = .ok e st') ∧ StO [] st' ∧ BadE N e := fun x hl hn => by
    have := sp_bad_element 36 x (by omega) (by omega) (log_nb hn (by decide) (by decide)) st1 g1
    rw [hl] at this
    exact this
  have fin7 : ∀ (st2 : Stt), StO [] st2 → ∃ i st3, (∀ b, callF tbl glo 100000 38 23 [.ref 0, .int 7] b st2 = .ok (.int i) st3) ∧ StO [] st3 ∧ 0 ≤ i ∧ i < 7 := fun st2 g => dr 37 7 (by decide) (by decide) [] st2 g
  have z : ∀ n : Nat, n ≤ 13 → n ≤ sz := fun n hn => Nat.le_trans hn (by decide)
  -- the choice
  have pick7 : ∀ (e : D) (A B C : D), BadE N e → ([A, B, C] = [e, .tup (x2.map .int), .tup (x3.map .int)] ∨ [A, B, C] = [.tup (x1.map .int), e, .tup (x3.map .int)] ∨ [A, B, C] = [.tup (x1.map .int), .tup (x2.map .int), e]) → ∀ i : Int, 0 ≤ i → i < 7 →
      ∃ d, L2.atI [.tup [.tup (x2.map .int), .tup (x3.map .int)], .tup [.tup (x1.map .int), .tup (x2.map .int), .tup (x3.map .int), .tup (x1.map .int)], .lst [.tup (x1.map .int), .tup (x2.map .int), .tup (x3.map .int)], .non, .tup [A, B, C], .tup [A, B, C], .int 3] i = some d ∧ smT d ∧ elsB N d = false ∧ d.lt 0 = true ∧ PB d 2000000 9 := by
    intro e A B C hE hABC i i0 i7
    have q3 : ∀ {a b c : D} {m1 m2 m3 : Nat}, PB a m1 5 → PB b m2 5 → PB c m3 5 → m1 ≤ 400000 → m2 ≤ 400000 → m3 ≤ 400000 → PB (.tup [a, b, c]) 2000000 9 := fun ha hb hc h1 h2 h3 => (PB.tup (PBs.cons ha (PBs.cons hb (PBs.cons hc PBs.nil (b := 0))))).mono (by omega) (by omega)
    have P1 := p1.mono (Nat.le_refl _) (show 1 ≤ 5 by omega)
    have P2 := p2.mono (Nat.le_refl _) (show 1 ≤ 5 by omega)
    have P3 := p3.mono (Nat.le_refl _) (show 1 ≤ 5 by omega)
    have bent : smT (.tup [A, B, C]) ∧ elsB N (.tup [A, B, C]) = false ∧ (D.tup [A, B, C]).lt 0 = true ∧ PB (.tup [A, B, C]) 2000000 9 := by
      have he := hE.no
      have hl := hE.lt
      rcases hABC with h | h | h
      · cases h
        refine ⟨⟨fun y hy => ?_, by simp⟩, by simp [elsB, he], ?_, q3 hE.pb P2 P3 (Nat.le_refl _) (by omega) (by omega)⟩
        · simp only [List.mem_cons, List.not_mem_nil, or_false] at hy
          rcases hy with rfl | rfl | rfl
          · exact hE.sm
          · exact s2
          · exact s3
        · show (D.lt 0 e && (D.lt 0 (.tup (x2.map .int)) && (D.lt 0 (.tup (x3.map .int)) && true))) = true
          rw [hl, t2, t3]; rfl
      · cases h
        refine ⟨⟨fun y hy => ?_, by simp⟩, by simp [elsB, he], ?_, q3 P1 hE.pb P3 (by omega) (Nat.le_refl _) (by omega)⟩
        · simp only [List.mem_cons, List.not_mem_nil, or_false] at hy
          rcases hy with rfl | rfl | rfl
          · exact s1
          · exact hE.sm
          · exact s3
        · show (D.lt 0 (.tup (x1.map .int)) && (D.lt 0 e && (D.lt 0 (.tup (x3.map .int)) && true))) = true
          rw [hl, t1, t3]; rfl
      · cases h
        refine ⟨⟨fun y hy => ?_, by simp⟩, by simp [elsB, he], ?_, q3 P1 P2 hE.pb (by omega) (by omega) (Nat.le_refl _)⟩
        · simp only [List.mem_cons, List.not_mem_nil, or_false] at hy
          rcases hy with rfl | rfl | rfl
          · exact s1
          · exact s2
          · exact hE.sm
        · show (D.lt 0 (.tup (x1.map .int)) && (D.lt 0 (.tup (x2.map .int)) && (D.lt 0 e && true))) = true
          rw [hl, t1, t2]; rfl
    have : i = 0 ∨ i = 1 ∨ i = 2 ∨ i = 3 ∨ i = 4 ∨ i = 5 ∨ i = 6 := by omega
    rcases this with rfl | rfl | rfl | rfl | rfl | rfl | rfl
    · refine ⟨_, rfl, ⟨fun y hy => ?_, by simp⟩, by simp [elsB], ?_, (PB.tup (PBs.cons P2 (PBs.cons P3 PBs.nil (b := 0)))).mono (by omega) (by omega)⟩
      · simp only [List.mem_cons, List.not_mem_nil, or_false] at hy
        rcases hy with rfl | rfl
        · exact s2
        · exact s3
      · show (D.lt 0 (.tup (x2.map .int)) && (D.lt 0 (.tup (x3.map .int)) && true)) = true
        rw [t2, t3]; rfl
    · refine ⟨_, rfl, ⟨fun y hy => ?_, by simp⟩, by simp [elsB], ?_, (PB.tup (PBs.cons P1 (PBs.cons P2 (PBs.cons P3 (PBs.cons P1 PBs.nil (b := 0)))))).mono (by omega) (by omega)⟩
      · simp only [List.mem_cons, List.not_mem_nil, or_false] at hy
        rcases hy with rfl | rfl | rfl | rfl
        · exact s1
        · exact s2
        · exact s3
        · exact s1
      · show (D.lt 0 (.tup (x1.map .int)) && (D.lt 0 (.tup (x2.map .int)) && (D.lt 0 (.tup (x3.map .int)) && (D.lt 0 (.tup (x1.map .int)) && true)))) = true
        rw [t1, t2, t3]; rfl
    · refine ⟨_, rfl, rfl, rfl, ?_, (PB.lst (PBs.cons P1 (PBs.cons P2 (PBs.cons P3 PBs.nil (b := 0))))).mono (by omega) (by omega)⟩
      show (D.lt 0 (.tup (x1.map .int)) && (D.lt 0 (.tup (x2.map .int)) && (D.lt 0 (.tup (x3.map .int)) && true))) = true
      rw [t1, t2, t3]; rfl
    · exact ⟨_, rfl, rfl, rfl, rfl, ⟨⟨4, rfl, by omega⟩, by decide⟩⟩
    · exact ⟨_, rfl, bent⟩
    · exact ⟨_, rfl, bent⟩
    · exact ⟨_, rfl, rfl, rfl, rfl, (PB.int (by decide)).mono (by omega) (by omega)⟩
  have ks : ∀ a b c : D, cut [a, b, c] none (some 0) = [] ∧ cut [a, b, c] none (some 1) = [a] ∧ cut [a, b, c] none (some 2) = [a, b] ∧ cut [a, b, c] (some 1) none = [b, c] ∧ cut [a, b, c] (some 2) none = [c] ∧ cut [a, b, c] (some 3) none = [] := fun a b c => ⟨rfl, rfl, rfl, rfl, rfl, rfl⟩
  have : j = 0 ∨ j = 1 ∨ j = 2 := by omega
  rcases this with rfl | rfl | rfl
  · obtain ⟨e, st2, e2, g2, hE⟩ := be x1 l1 n1
    obtain ⟨i, st3, e3, g3, i0, i7⟩ := fin7 st2 g2
    obtain ⟨d, hd, a1, a2, a3, a4⟩ := pick7 e _ _ _ hE (.inl rfl) i i0 i7
    have hf := fin_st h g3 d a3
    refine ⟨d, st3, fun b => ?_, g3, a1, a2, a3, a4⟩
    rw [en__law_bad]
    clear p1 p2 p3 s1 s2 s3 t1 t2 t3 b1 b2 b3 pick7 be pb fin7 n1 n2 n3 hE a1 a2 a3 a4
    generalize x1.map D.int = X1 at *
    generalize x2.map D.int = X2 at *
    generalize x3.map D.int = X3 at *
    obtain ⟨k1, k2, k3, k4, k5, k6⟩ := ks (.tup X1) (.tup X2) (.tup X3)
    simp (implicitDefEqProofs := false) [Y.Z.x_nil, Y.Z.x_cons, Y.Z.bind_ok, Y.Z.bind_ex, Y.Z.lift_ok, Y.Z.lift_ex, Y.Z.noEx_ok, Y.Z.seq_nx, Y.Z.seq_rt, Y.Z.seq_bk, Y.Z.seq_ct, Y.Z.seq_ex, Y.Z.kRaise_e, Y.Z.y_raise, Y.Z.y_tryv, Y.Z.tv_nx, Y.Z.tv_rt, Y.Z.tv_ex, Y.hkD, Y.Z.e_fld, Y.Z.fld_e, Y.Z.loop_nx, Y.Z.loop_rt, Y.Z.loop_bk, Y.Z.loop_ct, Y.Z.asT_ok, Y.Z.opt_some, Y.Z.var_some, Y.Z.y_asg, Y.Z.y_aug, Y.Z.y_ite, Y.Z.x_retN, Y.Z.x_brk, Y.Z.x_cnt, Y.Z.x_pass, Y.Z.e_var, Y.Z.e_cst, Y.Z.e_glo, Y.Z.e_bin, Y.Z.e_neg, Y.Z.e_cmp, Y.Z.e_cmp2, Y.Z.e_and, Y.Z.e_or, Y.Z.e_not, Y.Z.e_ife, Y.Z.e_tup, Y.Z.e_lst, Y.Z.e_dic, Y.Z.e_dic0, Y.Z.e_ix, Y.Z.e_sl, Y.Z.e_rev, Y.Z.e_call, Y.Z.e_callK, Y.Z.e_blt, Y.Z.e_isi, Y.Z.e_isq, Y.Z.e_app, Y.Z.e_pop, Y.Z.e_ext, Y.Z.kExt1_e, Y.Z.k_ex_e, Y.Z.k_ex2_e, Y.Z.ex_ref, Y.Z.t_max1, Y.Z.t_min1, Y.Z.e_get2, Y.Z.e_lc, Y.Z.e_lc2, Y.Z.l_nil, Y.Z.l_cons, Y.Z.o_non, Y.Z.o_som, Y.Z.c_val, Y.Z.c_cp, Y.Z.c_cp2, Y.Z.c_and, Y.Z.c_or, Y.Z.c_not, Y.Z.co_non, Y.Z.co_som, Y.Z.i_seq, Y.Z.i_rng1, Y.Z.i_rng2, Y.Z.i_enm, Y.Z.i_zip, Y.Z.g_nm, Y.Z.g_tup, Y.Z.g_ct, Y.Z.g_ix, Y.Z.gs_nil, Y.Z.gs_cons, Y.Z.b_add, Y.Z.b_sub, Y.Z.b_mul, Y.Z.b_div, Y.Z.b_mod, Y.Z.b_pow, Y.Z.b_tup, Y.Z.b_lst, Y.Z.b_mulL, Y.Z.c_lt, Y.Z.c_le, Y.Z.c_gt, Y.Z.c_ge, Y.Z.c_eq, Y.Z.c_ne, Y.Z.c_isN, Y.Z.c_notN, Y.Z.c_isB, Y.Z.c_notB, Y.isNon, Y.Z.newL_f, Y.Z.newL_t, Y.Z.t_len, Y.Z.t_sum, Y.Z.t_any, Y.Z.t_all, Y.Z.t_abs, Y.Z.t_min, Y.Z.t_max, Y.Z.t_tuple, Y.Z.t_list, Y.Z.t_int, Y.Z.t_repr, Y.Z.t_str, Y.Z.st_str, Y.Z.st_int, Y.Z.st_tup, Y.Z.len_tup, Y.Z.len_lst, Y.Z.len_rd, Y.Z.len_ct, Y.Z.tup_lst, Y.Z.tup_tup, Y.Z.tup_ct, Y.Z.lst_lst, Y.Z.lst_tup, Y.Z.sum_ints, Y.Z.sum_ints', Y.Z.w_tup, Y.Z.w_lst, Y.Z.w_rd, Y.Z.w_ct, Y.Z.we_tup, Y.Z.we_lst, Y.Z.we_ct, Y.Z.wz_tl, Y.Z.wz_ll, Y.Z.wz_tt, Y.Z.r_tup, Y.Z.r_lst, Y.Z.r_rd, Y.Z.r_ct, Y.Z.cut_tup, Y.Z.cut_lst, Y.Z.cut_rd, Y.Z.rev_tup, Y.Z.tr_bl, Y.Z.tr_int, Y.Z.tr_tup, Y.Z.tr_lst, Y.Z.refL_lst, Y.Z.getO_lst, Y.Z.r_ref, Y.Z.lstOf_ref, Y.Z.len_ref, Y.Z.tup_ref, Y.Z.lst_ref, Y.Z.w_ref, Y.Z.we_ref, Y.Z.cut_ref, Y.Z.tr_ref, Y.Z.s_ref, Y.Z.so_lst, Y.Z.a_ref, Y.Z.po_ref, Y.Z.ixN_lit, Y.Z.atI_lit, Y.isD, Y.tyD, Y.subTy, Y.Z.fin_rtc, Y.Z.fin_rta, Y.Z.fin_nx, Y.D.lt, Y.ltL, Y.Z.ltL_ints, Y.Z.still_nil2, Y.Z.still_tup, Y.Z.still_ct, Y.Z.still_rd, Y.Z.still_lst, Y.wipe, Y.Z.blO_some, Y.Z.y_par, Y.Z.y_par3, Y.Z.kPar31_e, Y.Z.kPar32_e, Y.Z.kPar33_e, Y.Z.y_expr, Y.Z.y_ret, Y.Z.y_for, Y.Z.x_while, Y.Z.kAsg_e, Y.Z.kAug3_e, Y.Z.kAug2_e, Y.Z.kAug1_e, Y.Z.kIte_e, Y.Z.kPar2_e, Y.Z.kPar1_e, Y.Z.kExpr_e, Y.Z.kFor_e, Y.Z.kBin1_e, Y.Z.kNeg_e, Y.Z.kCmp2_e, Y.Z.kCmp1_e, Y.Z.kC23_e, Y.Z.kC22_e, Y.Z.kC21_e, Y.Z.kAnd_e, Y.Z.kOr_e, Y.Z.kNot_e, Y.Z.kIfe_e, Y.Z.kTup_e, Y.Z.kLst_e, Y.Z.kDic_e, Y.Z.kIx1_e, Y.Z.kSl2_e, Y.Z.kSl1_e, Y.Z.kCall_e, Y.Z.kCK3_e, Y.Z.kCK2_e, Y.Z.kCK1_e, Y.Z.kApp1_e, Y.Z.kG2_e, Y.Z.kG1_e, Y.Z.lcF3_e, Y.Z.lcF2_e, Y.Z.lcF1_e, Y.Z.kLc_e, Y.Z.lcG1_e, Y.Z.lcH2_e, Y.Z.lcH1_e, Y.Z.kLc2_e, Y.Z.kL2_e, Y.Z.kL1_e, Y.Z.kInt_e, Y.Z.kTru_e, Y.Z.kCp2_e, Y.Z.kCp1_e, Y.Z.kCq3_e, Y.Z.kCq2_e, Y.Z.kCq1_e, Y.Z.kCand_e, Y.Z.kCor_e, Y.Z.kCnot_e, Y.Z.kR2_e, Y.Z.kZ_e, Y.Z.kGx3_e, Y.Z.kGx2_e, Y.Z.kGx1_e, Y.Z.kWh_e, Y.Z.k_len_e, Y.Z.k_tup_e, Y.Z.k_lst_e, Y.Z.k_w_e, Y.Z.k_we_e, Y.Z.k_cut_e, Y.Z.k_tr_e, Y.Z.sK2_e, Y.Z.sK1_e, Y.Z.soK_e, Y.Z.k_ap_e, Y.Z.k_po2_e, Y.Z.k_po_e, ir__law_bad, q1, q2, d1, z, e1, e2, e3, k1, k2, k3, k4, k5, k6, hd, hf]
  · obtain ⟨e, st2, e2, g2, hE⟩ := be x2 l2 n2
    obtain ⟨i, st3, e3, g3, i0, i7⟩ := fin7 st2 g2
    obtain ⟨d, hd, a1, a2, a3, a4⟩ := pick7 e _ _ _ hE (.inr (.inl rfl)) i i0 i7
    have hf := fin_st h g3 d a3
    refine ⟨d, st3, fun b => ?_, g3, a1, a2, a3, a4⟩
    rw [en__law_bad]
    clear p1 p2 p3 s1 s2 s3 t1 t2 t3 b1 b2 b3 pick7 be pb fin7 n1 n2 n3 hE a1 a2 a3 a4
    generalize x1.map D.int = X1 at *
    generalize x2.map D.int = X2 at *
    generalize x3.map D.int = X3 at *
    obtain ⟨k1, k2, k3, k4, k5, k6⟩ := ks (.tup X1) (.tup X2) (.tup X3)
    simp (implicitDefEqProofs := false) [Y.Z.x_nil, Y.Z.x_cons, Y.Z.bind_ok, Y.Z.bind_ex, Y.Z.lift_ok, Y.Z.lift_ex, Y.Z.noEx_ok, Y.Z.seq_nx, Y.Z.seq_rt, Y.Z.seq_bk, Y.Z.seq_ct, Y.Z.seq_ex, Y.Z.kRaise_e, Y.Z.y_raise, Y.Z.y_tryv, Y.Z.tv_nx, Y.Z.tv_rt, Y.Z.tv_ex, Y.hkD, Y.Z.e_fld, Y.Z.fld_e, Y.Z.loop_nx, Y.Z.loop_rt, Y.Z.loop_bk, Y.Z.loop_ct, Y.Z.asT_ok, Y.Z.opt_some, Y.Z.var_some, Y.Z.y_asg, Y.Z.y_aug, Y.Z.y_ite, Y.Z.x_retN, Y.Z.x_brk, Y.Z.x_cnt, Y.Z.x_pass, Y.Z.e_var, Y.Z.e_cst, Y.Z.e_glo, Y.Z.e_bin, Y.Z.e_neg, Y.Z.e_cmp, Y.Z.e_cmp2, Y.Z.e_and, Y.Z.e_or, Y.Z.e_not, Y.Z.e_ife, Y.Z.e_tup, Y.Z.e_lst, Y.Z.e_dic, Y.Z.e_dic0, Y.Z.e_ix, Y.Z.e_sl, Y.Z.e_rev, Y.Z.e_call, Y.Z.e_callK, Y.Z.e_blt, Y.Z.e_isi, Y.Z.e_isq, Y.Z.e_app, Y.Z.e_pop, Y.Z.e_ext, Y.Z.kExt1_e, Y.Z.k_ex_e, Y.Z.k_ex2_e, Y.Z.ex_ref, Y.Z.t_max1, Y.Z.t_min1, Y.Z.e_get2, Y.Z.e_lc, Y.Z.e_lc2, Y.Z.l_nil, Y.Z.l_cons, Y.Z.o_non, Y.Z.o_som, Y.Z.c_val, Y.Z.c_cp, Y.Z.c_cp2, Y.Z.c_and, Y.Z.c_or, Y.Z.c_not, Y.Z.co_non, Y.Z.co_som, Y.Z.i_seq, Y.Z.i_rng1, Y.Z.i_rng2, Y.Z.i_enm, Y.Z.i_zip, Y.Z.g_nm, Y.Z.g_tup, Y.Z.g_ct, Y.Z.g_ix, Y.Z.gs_nil, Y.Z.gs_cons, Y.Z.b_add, Y.Z.b_sub, Y.Z.b_mul, Y.Z.b_div, Y.Z.b_mod, Y.Z.b_pow, Y.Z.b_tup, Y.Z.b_lst, Y.Z.b_mulL, Y.Z.c_lt, Y.Z.c_le, Y.Z.c_gt, Y.Z.c_ge, Y.Z.c_eq, Y.Z.c_ne, Y.Z.c_isN, Y.Z.c_notN, Y.Z.c_isB, Y.Z.c_notB, Y.isNon, Y.Z.newL_f, Y.Z.newL_t, Y.Z.t_len, Y.Z.t_sum, Y.Z.t_any, Y.Z.t_all, Y.Z.t_abs, Y.Z.t_min, Y.Z.t_max, Y.Z.t_tuple, Y.Z.t_list, Y.Z.t_int, Y.Z.t_repr, Y.Z.t_str, Y.Z.st_str, Y.Z.st_int, Y.Z.st_tup, Y.Z.len_tup, Y.Z.len_lst, Y.Z.len_rd, Y.Z.len_ct, Y.Z.tup_lst, Y.Z.tup_tup, Y.Z.tup_ct, Y.Z.lst_lst, Y.Z.lst_tup, Y.Z.sum_ints, Y.Z.sum_ints', Y.Z.w_tup, Y.Z.w_lst, Y.Z.w_rd, Y.Z.w_ct, Y.Z.we_tup, Y.Z.we_lst, Y.Z.we_ct, Y.Z.wz_tl, Y.Z.wz_ll, Y.Z.wz_tt, Y.Z.r_tup, Y.Z.r_lst, Y.Z.r_rd, Y.Z.r_ct, Y.Z.cut_tup, Y.Z.cut_lst, Y.Z.cut_rd, Y.Z.rev_tup, Y.Z.tr_bl, Y.Z.tr_int, Y.Z.tr_tup, Y.Z.tr_lst, Y.Z.refL_lst, Y.Z.getO_lst, Y.Z.r_ref, Y.Z.lstOf_ref, Y.Z.len_ref, Y.Z.tup_ref, Y.Z.lst_ref, Y.Z.w_ref, Y.Z.we_ref, Y.Z.cut_ref, Y.Z.tr_ref, Y.Z.s_ref, Y.Z.so_lst, Y.Z.a_ref, Y.Z.po_ref, Y.Z.ixN_lit, Y.Z.atI_lit, Y.isD, Y.tyD, Y.subTy, Y.Z.fin_rtc, Y.Z.fin_rta, Y.Z.fin_nx, Y.D.lt, Y.ltL, Y.Z.ltL_ints, Y.Z.still_nil2, Y.Z.still_tup, Y.Z.still_ct, Y.Z.still_rd, Y.Z.still_lst, Y.wipe, Y.Z.blO_some, Y.Z.y_par, Y.Z.y_par3, Y.Z.kPar31_e, Y.Z.kPar32_e, Y.Z.kPar33_e, Y.Z.y_expr, Y.Z.y_ret, Y.Z.y_for, Y.Z.x_while, Y.Z.kAsg_e, Y.Z.kAug3_e, Y.Z.kAug2_e, Y.Z.kAug1_e, Y.Z.kIte_e, Y.Z.kPar2_e, Y.Z.kPar1_e, Y.Z.kExpr_e, Y.Z.kFor_e, Y.Z.kBin1_e, Y.Z.kNeg_e, Y.Z.kCmp2_e, Y.Z.kCmp1_e, Y.Z.kC23_e, Y.Z.kC22_e, Y.Z.kC21_e, Y.Z.kAnd_e, Y.Z.kOr_e, Y.Z.kNot_e, Y.Z.kIfe_e, Y.Z.kTup_e, Y.Z.kLst_e, Y.Z.kDic_e, Y.Z.kIx1_e, Y.Z.kSl2_e, Y.Z.kSl1_e, Y.Z.kCall_e, Y.Z.kCK3_e, Y.Z.kCK2_e, Y.Z.kCK1_e, Y.Z.kApp1_e, Y.Z.kG2_e, Y.Z.kG1_e, Y.Z.lcF3_e, Y.Z.lcF2_e, Y.Z.lcF1_e, Y.Z.kLc_e, Y.Z.lcG1_e, Y.Z.lcH2_e, Y.Z.lcH1_e, Y.Z.kLc2_e, Y.Z.kL2_e, Y.Z.kL1_e, Y.Z.kInt_e, Y.Z.kTru_e, Y.Z.kCp2_e, Y.Z.kCp1_e, Y.Z.kCq3_e, Y.Z.kCq2_e, Y.Z.kCq1_e, Y.Z.kCand_e, Y.Z.kCor_e, Y.Z.kCnot_e, Y.Z.kR2_e, Y.Z.kZ_e, Y.Z.kGx3_e, Y.Z.kGx2_e, Y.Z.kGx1_e, Y.Z.kWh_e, Y.Z.k_len_e, Y.Z.k_tup_e, Y.Z.k_lst_e, Y.Z.k_w_e, Y.Z.k_we_e, Y.Z.k_cut_e, Y.Z.k_tr_e, Y.Z.sK2_e, Y.Z.sK1_e, Y.Z.soK_e, Y.Z.k_ap_e, Y.Z.k_po2_e, Y.Z.k_po_e, ir__law_bad, q1, q2, d1, z, e1, e2, e3, k1, k2, k3, k4, k5, k6, hd, hf]
  · obtain ⟨e, st2, e2, g2, hE⟩ := be x3 l3 n3
    obtain ⟨i, st3, e3, g3, i0, i7⟩ := fin7 st2 g2
    obtain ⟨d, hd, a1, a2, a3, a4⟩ := pick7 e _ _ _ hE (.inr (.inr rfl)) i i0 i7
    have hf := fin_st h g3 d a3
    refine ⟨d, st3, fun b => ?_, g3, a1, a2, a3, a4⟩
    rw [en__law_bad]
    clear p1 p2 p3 s1 s2 s3 t1 t2 t3 b1 b2 b3 pick7 be pb fin7 n1 n2 n3 hE a1 a2 a3 a4
    generalize x1.map D.int = X1 at *
    generalize x2.map D.int = X2 at *
    generalize x3.map D.int = X3 at *
    obtain ⟨k1, k2, k3, k4, k5, k6⟩ := ks (.tup X1) (.tup X2) (.tup X3)
    simp (implicitDefEqProofs := false) [Y.Z.x_nil, Y.Z.x_cons, Y.Z.bind_ok, Y.Z.bind_ex, Y.Z.lift_ok, Y.Z.lift_ex, Y.Z.noEx_ok, Y.Z.seq_nx, Y.Z.seq_rt, Y.Z.seq_bk, Y.Z.seq_ct, Y.Z.seq_ex, Y.Z.kRaise_e, Y.Z.y_raise, Y.Z.y_tryv, Y.Z.tv_nx, Y.Z.tv_rt, Y.Z.tv_ex, Y.hkD, Y.Z.e_fld, Y.Z.fld_e, Y.Z.loop_nx, Y.Z.loop_rt, Y.Z.loop_bk, Y.Z.loop_ct, Y.Z.asT_ok, Y.Z.opt_some, Y.Z.var_some, Y.Z.y_asg, Y.Z.y_aug, Y.Z.y_ite, Y.Z.x_retN, Y.Z.x_brk, Y.Z.x_cnt, Y.Z.x_pass, Y.Z.e_var, Y.Z.e_cst, Y.Z.e_glo, Y.Z.e_bin, Y.Z.e_neg, Y.Z.e_cmp, Y.Z.e_cmp2, Y.Z.e_and, Y.Z.e_or, Y.Z.e_not, Y.Z.e_ife, Y.Z.e_tup, Y.Z.e_lst, Y.Z.e_dic, Y.Z.e_dic0, Y.Z.e_ix, Y.Z.e_sl, Y.Z.e_rev, Y.Z.e_call, Y.Z.e_callK, Y.Z.e_blt, Y.Z.e_isi, Y.Z.e_isq, Y.Z.e_app, Y.Z.e_pop, Y.Z.e_ext, Y.Z.kExt1_e, Y.Z.k_ex_e, Y.Z.k_ex2_e, Y.Z.ex_ref, Y.Z.t_max1, Y.Z.t_min1, Y.Z.e_get2, Y.Z.e_lc, Y.Z.e_lc2, Y.Z.l_nil, Y.Z.l_cons, Y.Z.o_non, Y.Z.o_som, Y.Z.c_val, Y.Z.c_cp, Y.Z.c_cp2, Y.Z.c_and, Y.Z.c_or, Y.Z.c_not, Y.Z.co_non, Y.Z.co_som, Y.Z.i_seq, Y.Z.i_rng1, Y.Z.i_rng2, Y.Z.i_enm, Y.Z.i_zip, Y.Z.g_nm, Y.Z.g_tup, Y.Z.g_ct, Y.Z.g_ix, Y.Z.gs_nil, Y.Z.gs_cons, Y.Z.b_add, Y.Z.b_sub, Y.Z.b_mul, Y.Z.b_div, Y.Z.b_mod, Y.Z.b_pow, Y.Z.b_tup, Y.Z.b_lst, Y.Z.b_mulL, Y.Z.c_lt, Y.Z.c_le, Y.Z.c_gt, Y.Z.c_ge, Y.Z.c_eq, Y.Z.c_ne, Y.Z.c_isN, Y.Z.c_notN, Y.Z.c_isB, Y.Z.c_notB, Y.isNon, Y.Z.newL_f, Y.Z.newL_t, Y.Z.t_len, Y.Z.t_sum, Y.Z.t_any, Y.Z.t_all, Y.Z.t_abs, Y.Z.t_min, Y.Z.t_max, Y.Z.t_tuple, Y.Z.t_list, Y.Z.t_int, Y.Z.t_repr, Y.Z.t_str, Y.Z.st_str, Y.Z.st_int, Y.Z.st_tup, Y.Z.len_tup, Y.Z.len_lst, Y.Z.len_rd, Y.Z.len_ct, Y.Z.tup_lst, Y.Z.tup_tup, Y.Z.tup_ct, Y.Z.lst_lst, Y.Z.lst_tup, Y.Z.sum_ints, Y.Z.sum_ints', Y.Z.w_tup, Y.Z.w_lst, Y.Z.w_rd, Y.Z.w_ct, Y.Z.we_tup, Y.Z.we_lst, Y.Z.we_ct, Y.Z.wz_tl, Y.Z.wz_ll, Y.Z.wz_tt, Y.Z.r_tup, Y.Z.r_lst, Y.Z.r_rd, Y.Z.r_ct, Y.Z.cut_tup, Y.Z.cut_lst, Y.Z.cut_rd, Y.Z.rev_tup, Y.Z.tr_bl, Y.Z.tr_int, Y.Z.tr_tup, Y.Z.tr_lst, Y.Z.refL_lst, Y.Z.getO_lst, Y.Z.r_ref, Y.Z.lstOf_ref, Y.Z.len_ref, Y.Z.tup_ref, Y.Z.lst_ref, Y.Z.w_ref, Y.Z.we_ref, Y.Z.cut_ref, Y.Z.tr_ref, Y.Z.s_ref, Y.Z.so_lst, Y.Z.a_ref, Y.Z.po_ref, Y.Z.ixN_lit, Y.Z.atI_lit, Y.isD, Y.tyD, Y.subTy, Y.Z.fin_rtc, Y.Z.fin_rta, Y.Z.fin_nx, Y.D.lt, Y.ltL, Y.Z.ltL_ints, Y.Z.still_nil2, Y.Z.still_tup, Y.Z.still_ct, Y.Z.still_rd, Y.Z.still_lst, Y.wipe, Y.Z.blO_some, Y.Z.y_par, Y.Z.y_par3, Y.Z.kPar31_e, Y.Z.kPar32_e, Y.Z.kPar33_e, Y.Z.y_expr, Y.Z.y_ret, Y.Z.y_for, Y.Z.x_while, Y.Z.kAsg_e, Y.Z.kAug3_e, Y.Z.kAug2_e, Y.Z.kAug1_e, Y.Z.kIte_e, Y.Z.kPar2_e, Y.Z.kPar1_e, Y.Z.kExpr_e, Y.Z.kFor_e, Y.Z.kBin1_e, Y.Z.kNeg_e, Y.Z.kCmp2_e, Y.Z.kCmp1_e, Y.Z.kC23_e, Y.Z.kC22_e, Y.Z.kC21_e, Y.Z.kAnd_e, Y.Z.kOr_e, Y.Z.kNot_e, Y.Z.kIfe_e, Y.Z.kTup_e, Y.Z.kLst_e, Y.Z.kDic_e, Y.Z.kIx1_e, Y.Z.kSl2_e, Y.Z.kSl1_e, Y.Z.kCall_e, Y.Z.kCK3_e, Y.Z.kCK2_e, Y.Z.kCK1_e, Y.Z.kApp1_e, Y.Z.kG2_e, Y.Z.kG1_e, Y.Z.lcF3_e, Y.Z.lcF2_e, Y.Z.lcF1_e, Y.Z.kLc_e, Y.Z.lcG1_e, Y.Z.lcH2_e, Y.Z.lcH1_e, Y.Z.kLc2_e, Y.Z.kL2_e, Y.Z.kL1_e, Y.Z.kInt_e, Y.Z.kTru_e, Y.Z.kCp2_e, Y.Z.kCp1_e, Y.Z.kCq3_e, Y.Z.kCq2_e, Y.Z.kCq1_e, Y.Z.kCand_e, Y.Z.kCor_e, Y.Z.kCnot_e, Y.Z.kR2_e, Y.Z.kZ_e, Y.Z.kGx3_e, Y.Z.kGx2_e, Y.Z.kGx1_e, Y.Z.kWh_e, Y.Z.k_len_e, Y.Z.k_tup_e, Y.Z.k_lst_e, Y.Z.k_w_e, Y.Z.k_we_e, Y.Z.k_cut_e, Y.Z.k_tr_e, Y.Z.sK2_e, Y.Z.sK1_e, Y.Z.soK_e, Y.Z.k_ap_e, Y.Z.k_po2_e, Y.Z.k_po_e, ir__law_bad, q1, q2, d1, z, e1, e2, e3, k1, k2, k3, k4, k5, k6, hd, hf]
end LW

namespace LW
open PySem Y Y.Z
/-! what the kernel computes: parts of a body, over explicit data -/
def takeS : Nat → ISs → ISs
  | 0, _ => .nil
  | _ + 1, .nil => .nil
  | n + 1, .cons s ss => .cons s (takeS n ss)
def dropS : Nat → ISs → ISs
  | 0, ss => ss
  | _ + 1, .nil => .nil
  | n + 1, .cons _ ss => dropS n ss
theorem cut_nx {F : Fs} {b : Nat} : ∀ (n : Nat) {ss : ISs} {env env' : Y.Env} {st st' : Stt}, exSs F b (takeS n ss) env st = .nx env' st' → exSs F b ss env st = exSs F b (dropS n ss) env' st'
  | 0, ss, env, env', st, st', h => by
    simp only [takeS, exSs] at h
    cases h
    rfl
  | n + 1, .nil, env, env', st, st', h => by
    simp only [takeS, exSs] at h
    cases h
    rfl
  | n + 1, .cons s ss, env, env', st, st', h => by
    simp only [takeS, exSs] at h
    simp only [dropS, exSs]
    cases e : exS F b s env st with
    | nx env1 st1 =>
      rw [e] at h
      exact cut_nx n h
    | bk _ _ => rw [e] at h; cases h
    | ct _ _ => rw [e] at h; cases h
    | rt _ _ => rw [e] at h; cases h
    | ex _ _ _ _ => rw [e] at h; cases h
    | no => rw [e] at h; cases h
theorem cut_ct {F : Fs} {b : Nat} : ∀ (n : Nat) {ss : ISs} {env env' : Y.Env} {st st' : Stt}, exSs F b (takeS n ss) env st = .ct env' st' → exSs F b ss env st = .ct env' st'
  | 0, ss, env, env', st, st', h => by simp only [takeS, exSs] at h; cases h
  | n + 1, .nil, env, env', st, st', h => by simp only [takeS, exSs] at h; cases h
  | n + 1, .cons s ss, env, env', st, st', h => by
    simp only [takeS, exSs] at h
    simp only [exSs]
    cases e : exS F b s env st with
    | nx env1 st1 => rw [e] at h; exact cut_ct n h
    | ct _ _ => rw [e] at h; exact h
    | bk _ _ => rw [e] at h; cases h
    | rt _ _ => rw [e] at h; cases h
    | ex _ _ _ _ => rw [e] at h; cases h
    | no => rw [e] at h; cases h
/-- a loop by an invariant of slots and store; a turn may end early -/
theorem f_inv2 {F b g body src} (P : Y.Env → Stt → Prop) (hs : ∀ env st, P env st → stills st src = true) {items : List D} :
    (∀ d ∈ items, ∀ env st, P env st → ∃ env1 st1 env' st', asG F b g d env st = .ok env1 st1 ∧ (exSs F b body env1 st1 = .nx env' st' ∨ exSs F b body env1 st1 = .ct env' st') ∧ P env' st') → ∀ env st, P env st → ∃ env' st', forS F b g body src items env st = .nx env' st' ∧ P env' st' := by
  induction items with
  | nil => exact fun _ env st h => ⟨env, st, f_nil _ _ _ _ _ _ _ (hs _ _ h), h⟩
  | cons d ds ih =>
    intro step env st h
    obtain ⟨env1, st1, env', st', e1, e2, h'⟩ := step d (List.mem_cons_self ..) env st h
    obtain ⟨env2, st2, e3, h2⟩ := ih (fun x hx => step x (List.mem_cons_of_mem _ hx)) env' st' h'
    refine ⟨env2, st2, ?_, h2⟩
    rw [f_cons _ _ _ _ _ _ _ _ _ (hs _ _ h)]
    rcases e2 with e2 | e2 <;> simp only [e1, e2, e3]
/-- a call's value put in its place, where a list is made of it and any is asked -/
theorem any_sub {F : Fs} {b : Nat} {e x : IE} {d : D} {m : Bool} {g : IG} {t : ICo} {own : List Nat} {A B : ISs} {env : Y.Env} {st st' : Stt} (h : evE F b e env st = .ok d st') :
    exS F b (.ite (.val (.blt .any (.cons (.lc m x g (.seq e) t own) .nil))) A B) env st = exS F b (.ite (.val (.blt .any (.cons (.lc m x g (.seq (.cst d)) t own) .nil))) A B) env st' := by
  simp only [exS, evC, evE, evL, evI, h, R.bind]
theorem mem_map {α β : Type} {f g : α → β} {l : List α} (h : l.map f = l.map g) {a : α} (ha : a ∈ l) : f a = g a := List.map_inj_left.mp h a ha
def ofF (X : Nat → Int) (n : Nat) : List D := (List.range n).map fun i => .int (X i)
theorem ofF_list (xs : List Int) : xs.map D.int = ofF (fun i => xs.getD i 0) xs.length := by
  apply List.ext_getElem
  · simp [ofF]
  · intro i h1 h2
    simp only [List.length_map] at h1
    simp [ofF, h1]
theorem tail_len {α : Type} {n : Nat} : ∀ {l : List α}, l.length = n + 1 → ∃ a r, l = a :: r ∧ r.length = n
  | a :: r, h => ⟨a, r, rfl, by simpa using h⟩
theorem st_one {st : Stt} (h : StO [] st) : ∃ o, st = [o] := by
  obtain ⟨c, a, l, n, s, _, e⟩ := h
  exact ⟨_, e⟩
end LW

namespace LW
open PySem Y Y.Z
def sps : List (List Int) := [[3], [4], [2, 3], [3, 2], [3, 3], [2, 2], [4, 2], [2], [5]]
theorem sps_ok : ∀ ss ∈ sps, okS ss ∧ ss.length ≤ 3 ∧ wid ss ≤ 12 ∧ 1 ≤ wid ss ∧ ss ≠ [] := by
  intro ss h
  have : ∀ ss ∈ sps, ((ss.all fun s => s == 2 || s == 3 || s == 4 || s == 5) && decide (ss.length ≤ 3) && decide (wid ss ≤ 12) && decide (1 ≤ wid ss) && decide (ss ≠ [])) = true := by decide
  have := this ss h
  simp only [Bool.and_eq_true, decide_eq_true_eq, List.all_eq_true, Bool.or_eq_true, beq_iff_eq] at this
  refine ⟨fun s hs => ?_, this.1.1.1.2, this.1.1.2, this.1.2, this.2⟩
  have := this.1.1.1.1 s hs
  omega
theorem sp_space (k : Nat) (st : Stt) (h : StO [] st) : ∃ (ss : List Int) (st' : Stt), (∀ b, callF tbl glo 100000 (k+2) 25 [.ref 0] b st = .ok (.tup (ss.map .int)) st') ∧ StO [] st' ∧ ss ∈ sps := by
  obtain ⟨j, st1, e1, h1, j0, j3⟩ := dr k 9 (by decide) (by decide) [] st h
  obtain ⟨ss, hat, hm⟩ : ∃ ss, L2.atI [D.tup [.int 3], D.tup [.int 4], D.tup [.int 2, .int 3], D.tup [.int 3, .int 2], D.tup [.int 3, .int 3], D.tup [.int 2, .int 2], D.tup [.int 4, .int 2], D.tup [.int 2], D.tup [.int 5]] j = some (.tup (ss.map .int)) ∧ ss ∈ sps := by
    have : j = 0 ∨ j = 1 ∨ j = 2 ∨ j = 3 ∨ j = 4 ∨ j = 5 ∨ j = 6 ∨ j = 7 ∨ j = 8 := by omega
    rcases this with rfl | rfl | rfl | rfl | rfl | rfl | rfl | rfl | rfl
    · exact ⟨[3], rfl, by decide⟩
    · exact ⟨[4], rfl, by decide⟩
    · exact ⟨[2, 3], rfl, by decide⟩
    · exact ⟨[3, 2], rfl, by decide⟩
    · exact ⟨[3, 3], rfl, by decide⟩
    · exact ⟨[2, 2], rfl, by decide⟩
    · exact ⟨[4, 2], rfl, by decide⟩
    · exact ⟨[2], rfl, by decide⟩
    · exact ⟨[5], rfl, by decide⟩
  have hf := fin_st h h1 (.tup (ss.map .int)) (by simp [D.lt, ltL_ints])
  refine ⟨ss, st1, fun b => ?_, h1, hm⟩
  rw [en__law_space]
  generalize ss.map D.int = S at hat hf ⊢
  have z : ∀ n : Nat, n ≤ 13 → n ≤ sz := fun n hn => Nat.le_trans hn (by decide)
  simp (implicitDefEqProofs := false) [Y.Z.x_nil, Y.Z.x_cons, Y.Z.bind_ok, Y.Z.bind_ex, Y.Z.lift_ok, Y.Z.lift_ex, Y.Z.noEx_ok, Y.Z.seq_nx, Y.Z.seq_rt, Y.Z.seq_bk, Y.Z.seq_ct, Y.Z.seq_ex, Y.Z.kRaise_e, Y.Z.y_raise, Y.Z.y_tryv, Y.Z.tv_nx, Y.Z.tv_rt, Y.Z.tv_ex, Y.hkD, Y.Z.e_fld, Y.Z.fld_e, Y.Z.loop_nx, Y.Z.loop_rt, Y.Z.loop_bk, Y.Z.loop_ct, Y.Z.asT_ok, Y.Z.opt_some, Y.Z.var_some, Y.Z.y_asg, Y.Z.y_aug, Y.Z.y_ite, Y.Z.x_retN, Y.Z.x_brk, Y.Z.x_cnt, Y.Z.x_pass, Y.Z.e_var, Y.Z.e_cst, Y.Z.e_glo, Y.Z.e_bin, Y.Z.e_neg, Y.Z.e_cmp, Y.Z.e_cmp2, Y.Z.e_and, Y.Z.e_or, Y.Z.e_not, Y.Z.e_ife, Y.Z.e_tup, Y.Z.e_lst, Y.Z.e_dic, Y.Z.e_dic0, Y.Z.e_ix, Y.Z.e_sl, Y.Z.e_rev, Y.Z.e_call, Y.Z.e_callK, Y.Z.e_blt, Y.Z.e_isi, Y.Z.e_isq, Y.Z.e_app, Y.Z.e_pop, Y.Z.e_ext, Y.Z.kExt1_e, Y.Z.k_ex_e, Y.Z.k_ex2_e, Y.Z.ex_ref, Y.Z.t_max1, Y.Z.t_min1, Y.Z.e_get2, Y.Z.e_lc, Y.Z.e_lc2, Y.Z.l_nil, Y.Z.l_cons, Y.Z.o_non, Y.Z.o_som, Y.Z.c_val, Y.Z.c_cp, Y.Z.c_cp2, Y.Z.c_and, Y.Z.c_or, Y.Z.c_not, Y.Z.co_non, Y.Z.co_som, Y.Z.i_seq, Y.Z.i_rng1, Y.Z.i_rng2, Y.Z.i_enm, Y.Z.i_zip, Y.Z.g_nm, Y.Z.g_tup, Y.Z.g_ct, Y.Z.g_ix, Y.Z.gs_nil, Y.Z.gs_cons, Y.Z.b_add, Y.Z.b_sub, Y.Z.b_mul, Y.Z.b_div, Y.Z.b_mod, Y.Z.b_pow, Y.Z.b_tup, Y.Z.b_lst, Y.Z.b_mulL, Y.Z.c_lt, Y.Z.c_le, Y.Z.c_gt, Y.Z.c_ge, Y.Z.c_eq, Y.Z.c_ne, Y.Z.c_isN, Y.Z.c_notN, Y.Z.c_isB, Y.Z.c_notB, Y.isNon, Y.Z.newL_f, Y.Z.newL_t, Y.Z.t_len, Y.Z.t_sum, Y.Z.t_any, Y.Z.t_all, Y.Z.t_abs, Y.Z.t_min, Y.Z.t_max, Y.Z.t_tuple, Y.Z.t_list, Y.Z.t_int, Y.Z.t_repr, Y.Z.t_str, Y.Z.st_str, Y.Z.st_int, Y.Z.st_tup, Y.Z.len_tup, Y.Z.len_lst, Y.Z.len_rd, Y.Z.len_ct, Y.Z.tup_lst, Y.Z.tup_tup, Y.Z.tup_ct, Y.Z.lst_lst, Y.Z.lst_tup, Y.Z.sum_ints, Y.Z.sum_ints', Y.Z.w_tup, Y.Z.w_lst, Y.Z.w_rd, Y.Z.w_ct, Y.Z.we_tup, Y.Z.we_lst, Y.Z.we_ct, Y.Z.wz_tl, Y.Z.wz_ll, Y.Z.wz_tt, Y.Z.r_tup, Y.Z.r_lst, Y.Z.r_rd, Y.Z.r_ct, Y.Z.cut_tup, Y.Z.cut_lst, Y.Z.cut_rd, Y.Z.rev_tup, Y.Z.tr_bl, Y.Z.tr_int, Y.Z.tr_tup, Y.Z.tr_lst, Y.Z.refL_lst, Y.Z.getO_lst, Y.Z.r_ref, Y.Z.lstOf_ref, Y.Z.len_ref, Y.Z.tup_ref, Y.Z.lst_ref, Y.Z.w_ref, Y.Z.we_ref, Y.Z.cut_ref, Y.Z.tr_ref, Y.Z.s_ref, Y.Z.so_lst, Y.Z.a_ref, Y.Z.po_ref, Y.Z.ixN_lit, Y.Z.atI_lit, Y.isD, Y.tyD, Y.subTy, Y.Z.fin_rtc, Y.Z.fin_rta, Y.Z.fin_nx, Y.D.lt, Y.ltL, Y.Z.ltL_ints, Y.Z.still_nil2, Y.Z.still_tup, Y.Z.still_ct, Y.Z.still_rd, Y.Z.still_lst, Y.wipe, Y.Z.blO_some, Y.Z.y_par, Y.Z.y_par3, Y.Z.kPar31_e, Y.Z.kPar32_e, Y.Z.kPar33_e, Y.Z.y_expr, Y.Z.y_ret, Y.Z.y_for, Y.Z.x_while, Y.Z.kAsg_e, Y.Z.kAug3_e, Y.Z.kAug2_e, Y.Z.kAug1_e, Y.Z.kIte_e, Y.Z.kPar2_e, Y.Z.kPar1_e, Y.Z.kExpr_e, Y.Z.kFor_e, Y.Z.kBin1_e, Y.Z.kNeg_e, Y.Z.kCmp2_e, Y.Z.kCmp1_e, Y.Z.kC23_e, Y.Z.kC22_e, Y.Z.kC21_e, Y.Z.kAnd_e, Y.Z.kOr_e, Y.Z.kNot_e, Y.Z.kIfe_e, Y.Z.kTup_e, Y.Z.kLst_e, Y.Z.kDic_e, Y.Z.kIx1_e, Y.Z.kSl2_e, Y.Z.kSl1_e, Y.Z.kCall_e, Y.Z.kCK3_e, Y.Z.kCK2_e, Y.Z.kCK1_e, Y.Z.kApp1_e, Y.Z.kG2_e, Y.Z.kG1_e, Y.Z.lcF3_e, Y.Z.lcF2_e, Y.Z.lcF1_e, Y.Z.kLc_e, Y.Z.lcG1_e, Y.Z.lcH2_e, Y.Z.lcH1_e, Y.Z.kLc2_e, Y.Z.kL2_e, Y.Z.kL1_e, Y.Z.kInt_e, Y.Z.kTru_e, Y.Z.kCp2_e, Y.Z.kCp1_e, Y.Z.kCq3_e, Y.Z.kCq2_e, Y.Z.kCq1_e, Y.Z.kCand_e, Y.Z.kCor_e, Y.Z.kCnot_e, Y.Z.kR2_e, Y.Z.kZ_e, Y.Z.kGx3_e, Y.Z.kGx2_e, Y.Z.kGx1_e, Y.Z.kWh_e, Y.Z.k_len_e, Y.Z.k_tup_e, Y.Z.k_lst_e, Y.Z.k_w_e, Y.Z.k_we_e, Y.Z.k_cut_e, Y.Z.k_tr_e, Y.Z.sK2_e, Y.Z.sK1_e, Y.Z.soK_e, Y.Z.k_ap_e, Y.Z.k_po2_e, Y.Z.k_po_e, ir__law_space, z, e1, hat, hf]
abbrev F0 : Fs := ⟨callF tbl glo 100000 39, glo, 100000⟩
/-- a bad value, its promise -/
theorem bad_n (ss : List Int) (hm : ss ∈ sps) (x1 x2 x3 w : List Int) (l1 : x1.length = wid ss) (l2 : x2.length = wid ss) (l3 : x3.length = wid ss) (n1 : nb 7 x1) (n2 : nb 7 x2) (n3 : nb 7 x3) (hw : okW w) (hl : w.length ≤ 6) (st : Stt) (h : StO [] st) :
    ∀ p ∈ kinds, ∃ d st', (∀ b, callF tbl glo 100000 39 33 [.ref 0, .str p.2, .tup (ss.map .int), .tup [.tup (x1.map .int), .tup (x2.map .int), .tup (x3.map .int)], .tup (w.map .int), .int (p.1 : Nat)] b st = .ok d st') ∧ StO [] st' ∧ BadN p.1 ss d ∧ plain (.tup [.str p.2, d]) = true := by
  obtain ⟨hs, h3, hw12, hw1, h0⟩ := sps_ok ss hm
  have pk : ∀ (t : String) (d : D) (n k : Nat), (Str.ofString t).length ≤ 20 → PB d n k → n ≤ 3000000 → k ≤ 50 → plain (.tup [.str t, d]) = true := fun t d n k ht hp hn hk => by
    have := PB.tup (PBs.cons ((PB.str (sOk_of t)).mono (Nat.le_refl _) (Nat.zero_le 50)) (PBs.cons (hp.mono hn hk) PBs.nil (b := 0)))
    exact this.plain (by simp only [sz]; omega) (by omega)
  have pw : ∀ d, BadW d → plain (.tup [.str "word", d]) = true := fun d B => pk "word" d _ _ (by decide +kernel) B.pb (by omega) (by omega)
  intro p hp
  simp only [kinds, List.mem_cons, List.not_mem_nil, or_false] at hp
  rcases hp with rfl | rfl | rfl | rfl | rfl | rfl | rfl | rfl | rfl
  · obtain ⟨d, st', e, g, q⟩ := bad_space (.tup (ss.map .int)) (.tup [.tup (x1.map .int), .tup (x2.map .int), .tup (x3.map .int)]) (.tup (w.map .int)) (.int 0) st h
    refine ⟨d, st', e, g, q, ?_⟩
    have : ∀ d ∈ sp13, plain (.tup [.str "space", d]) = true := by
      intro d hd
      unfold sp13 at hd
      iterate 13 (rcases List.mem_cons.mp hd with rfl | hd; · kernel_rfl)
      exact absurd hd (by simp)
    exact this d q
  · obtain ⟨d, st', e, g, q1, q2, q3, q4⟩ := bad_elements (.tup (ss.map .int)) (.tup (w.map .int)) (.int 1) (wid ss) x1 x2 x3 l1 l2 l3 hw1 hw12 n1 n2 n3 st h
    exact ⟨d, st', e, g, ⟨q1, q2, q3, q4⟩, pk "elements" d _ _ (by decide +kernel) q4 (by omega) (by omega)⟩
  · obtain ⟨d, st', e, g, q⟩ := bad_word (.tup (ss.map .int)) (.tup [.tup (x1.map .int), .tup (x2.map .int), .tup (x3.map .int)]) (.int 2) w hw hl st h
    exact ⟨d, st', e, g, q, pw d q⟩
  · obtain ⟨d, st', e, g, q⟩ := bad_word (.tup (ss.map .int)) (.tup [.tup (x1.map .int), .tup (x2.map .int), .tup (x3.map .int)]) (.int 3) w hw hl st h
    exact ⟨d, st', e, g, q, pw d q⟩
  · obtain ⟨d, st', e, g, q⟩ := bad_word (.tup (ss.map .int)) (.tup [.tup (x1.map .int), .tup (x2.map .int), .tup (x3.map .int)]) (.int 4) w hw hl st h
    exact ⟨d, st', e, g, q, pw d q⟩
  · obtain ⟨d, st', e, g, q⟩ := bad_number (.tup (ss.map .int)) (.tup [.tup (x1.map .int), .tup (x2.map .int), .tup (x3.map .int)]) (.tup (w.map .int)) true st h
    refine ⟨d, st', e, g, q, ?_⟩
    have : ∀ d ∈ nb5, plain (.tup [.str "number", d]) = true := by
      intro d hd
      unfold nb5 at hd
      iterate 10 (rcases List.mem_cons.mp hd with rfl | hd; · kernel_rfl)
      exact absurd hd (by simp)
    exact this d q
  · obtain ⟨d, st', e, g, q⟩ := bad_word (.tup (ss.map .int)) (.tup [.tup (x1.map .int), .tup (x2.map .int), .tup (x3.map .int)]) (.int 6) w hw hl st h
    exact ⟨d, st', e, g, q, pw d q⟩
  · obtain ⟨d, st', e, g, q⟩ := bad_word (.tup (ss.map .int)) (.tup [.tup (x1.map .int), .tup (x2.map .int), .tup (x3.map .int)]) (.int 7) w hw hl st h
    exact ⟨d, st', e, g, q, pw d q⟩
  · obtain ⟨d, st', e, g, q⟩ := bad_number (.tup (ss.map .int)) (.tup [.tup (x1.map .int), .tup (x2.map .int), .tup (x3.map .int)]) (.tup (w.map .int)) false st h
    refine ⟨d, st', e, g, q, ?_⟩
    have : ∀ d ∈ nb8, plain (.tup [.str "number", d]) = true := by
      intro d hd
      unfold nb8 at hd
      iterate 10 (rcases List.mem_cons.mp hd with rfl | hd; · kernel_rfl)
      exact absurd hd (by simp)
    exact this d q
theorem turn (s0 a3 : Option D) (K : D) (ss : List Int) (hm : ss ∈ sps) (x1 x2 x3 w : List Int) (l1 : x1.length = wid ss) (l2 : x2.length = wid ss) (l3 : x3.length = wid ss) (n1 : nb 7 x1) (n2 : nb 7 x2) (n3 : nb 7 x3) (hw : okW w) (hl : w.length ≤ 6) (st : Stt) (h : StO [] st) (p : Nat × Str) (hp : p ∈ kinds) (a9 : Option D) :
    ∃ d st', exSs F0 0 ir_law_7 [s0, some (.ref 0), some K, a3, some (.tup (ss.map .int)), some (.tup [.tup (x1.map .int), .tup (x2.map .int), .tup (x3.map .int)]), some (.tup (w.map .int)), some (.int (p.1 : Nat)), some (.str p.2), a9] st = .nx [s0, some (.ref 0), some K, a3, some (.tup (ss.map .int)), some (.tup [.tup (x1.map .int), .tup (x2.map .int), .tup (x3.map .int)]), some (.tup (w.map .int)), some (.int (p.1 : Nat)), some (.str p.2), d] st' ∧ StO [] st' := by
  obtain ⟨hs, h3, hw12, hw1, h0⟩ := sps_ok ss hm
  obtain ⟨d, st', e, g, B, P⟩ := bad_n ss hm x1 x2 x3 w l1 l2 l3 n1 n2 n3 hw hl st h p hp
  obtain ⟨o, rfl⟩ := st_one g
  have t := told_n ss hs h3 hw12 h0 [.tup (x1.map .int), .tup (x2.map .int), .tup (x3.map .int)] (fun y hy => by
    simp only [List.mem_cons, List.not_mem_nil, or_false] at hy
    rcases hy with rfl | rfl | rfl <;> exact smA_ints (by omega)) rfl (by
    show (elB _ _ && (elB _ _ && (elB _ _ && true))) = true
    rw [elB_ints l1, elB_ints l2, elB_ints l3]; rfl) w hw hl d o p hp B
  have r := fun st => (repr_plain _ P st).1
  have c := fun st => c_neR _ P st
  refine ⟨some d, [o], ?_, g⟩
  have z2 : (2 : Nat) ≤ sz := by decide
  clear B P
  generalize (p.1 : Int) = N at *
  generalize p.2 = T at *
  generalize ss.map D.int = S at *
  generalize x1.map D.int = X1 at *
  generalize x2.map D.int = X2 at *
  generalize x3.map D.int = X3 at *
  generalize w.map D.int = W at *
  simp (implicitDefEqProofs := false) [Y.Z.x_nil, Y.Z.x_cons, Y.Z.bind_ok, Y.Z.bind_ex, Y.Z.lift_ok, Y.Z.lift_ex, Y.Z.noEx_ok, Y.Z.seq_nx, Y.Z.seq_rt, Y.Z.seq_bk, Y.Z.seq_ct, Y.Z.seq_ex, Y.Z.kRaise_e, Y.Z.y_raise, Y.Z.y_tryv, Y.Z.tv_nx, Y.Z.tv_rt, Y.Z.tv_ex, Y.hkD, Y.Z.e_fld, Y.Z.fld_e, Y.Z.loop_nx, Y.Z.loop_rt, Y.Z.loop_bk, Y.Z.loop_ct, Y.Z.asT_ok, Y.Z.opt_some, Y.Z.var_some, Y.Z.y_asg, Y.Z.y_aug, Y.Z.y_ite, Y.Z.x_retN, Y.Z.x_brk, Y.Z.x_cnt, Y.Z.x_pass, Y.Z.e_var, Y.Z.e_cst, Y.Z.e_glo, Y.Z.e_bin, Y.Z.e_neg, Y.Z.e_cmp, Y.Z.e_cmp2, Y.Z.e_and, Y.Z.e_or, Y.Z.e_not, Y.Z.e_ife, Y.Z.e_tup, Y.Z.e_lst, Y.Z.e_dic, Y.Z.e_dic0, Y.Z.e_ix, Y.Z.e_sl, Y.Z.e_rev, Y.Z.e_call, Y.Z.e_callK, Y.Z.e_blt, Y.Z.e_isi, Y.Z.e_isq, Y.Z.e_app, Y.Z.e_pop, Y.Z.e_ext, Y.Z.kExt1_e, Y.Z.k_ex_e, Y.Z.k_ex2_e, Y.Z.ex_ref, Y.Z.t_max1, Y.Z.t_min1, Y.Z.e_get2, Y.Z.e_lc, Y.Z.e_lc2, Y.Z.l_nil, Y.Z.l_cons, Y.Z.o_non, Y.Z.o_som, Y.Z.c_val, Y.Z.c_cp, Y.Z.c_cp2, Y.Z.c_and, Y.Z.c_or, Y.Z.c_not, Y.Z.co_non, Y.Z.co_som, Y.Z.i_seq, Y.Z.i_rng1, Y.Z.i_rng2, Y.Z.i_enm, Y.Z.i_zip, Y.Z.g_nm, Y.Z.g_tup, Y.Z.g_ct, Y.Z.g_ix, Y.Z.gs_nil, Y.Z.gs_cons, Y.Z.b_add, Y.Z.b_sub, Y.Z.b_mul, Y.Z.b_div, Y.Z.b_mod, Y.Z.b_pow, Y.Z.b_tup, Y.Z.b_lst, Y.Z.b_mulL, Y.Z.c_lt, Y.Z.c_le, Y.Z.c_gt, Y.Z.c_ge, Y.Z.c_eq, Y.Z.c_ne, Y.Z.c_isN, Y.Z.c_notN, Y.Z.c_isB, Y.Z.c_notB, Y.isNon, Y.Z.newL_f, Y.Z.newL_t, Y.Z.t_len, Y.Z.t_sum, Y.Z.t_any, Y.Z.t_all, Y.Z.t_abs, Y.Z.t_min, Y.Z.t_max, Y.Z.t_tuple, Y.Z.t_list, Y.Z.t_int, Y.Z.t_repr, Y.Z.t_str, Y.Z.st_str, Y.Z.st_int, Y.Z.st_tup, Y.Z.len_tup, Y.Z.len_lst, Y.Z.len_rd, Y.Z.len_ct, Y.Z.tup_lst, Y.Z.tup_tup, Y.Z.tup_ct, Y.Z.lst_lst, Y.Z.lst_tup, Y.Z.sum_ints, Y.Z.sum_ints', Y.Z.w_tup, Y.Z.w_lst, Y.Z.w_rd, Y.Z.w_ct, Y.Z.we_tup, Y.Z.we_lst, Y.Z.we_ct, Y.Z.wz_tl, Y.Z.wz_ll, Y.Z.wz_tt, Y.Z.r_tup, Y.Z.r_lst, Y.Z.r_rd, Y.Z.r_ct, Y.Z.cut_tup, Y.Z.cut_lst, Y.Z.cut_rd, Y.Z.rev_tup, Y.Z.tr_bl, Y.Z.tr_int, Y.Z.tr_tup, Y.Z.tr_lst, Y.Z.refL_lst, Y.Z.getO_lst, Y.Z.r_ref, Y.Z.lstOf_ref, Y.Z.len_ref, Y.Z.tup_ref, Y.Z.lst_ref, Y.Z.w_ref, Y.Z.we_ref, Y.Z.cut_ref, Y.Z.tr_ref, Y.Z.s_ref, Y.Z.so_lst, Y.Z.a_ref, Y.Z.po_ref, Y.Z.ixN_lit, Y.Z.atI_lit, Y.isD, Y.tyD, Y.subTy, Y.Z.fin_rtc, Y.Z.fin_rta, Y.Z.fin_nx, Y.D.lt, Y.ltL, Y.Z.ltL_ints, Y.Z.still_nil2, Y.Z.still_tup, Y.Z.still_ct, Y.Z.still_rd, Y.Z.still_lst, Y.wipe, Y.Z.blO_some, Y.Z.y_par, Y.Z.y_par3, Y.Z.kPar31_e, Y.Z.kPar32_e, Y.Z.kPar33_e, Y.Z.y_expr, Y.Z.y_ret, Y.Z.y_for, Y.Z.x_while, Y.Z.kAsg_e, Y.Z.kAug3_e, Y.Z.kAug2_e, Y.Z.kAug1_e, Y.Z.kIte_e, Y.Z.kPar2_e, Y.Z.kPar1_e, Y.Z.kExpr_e, Y.Z.kFor_e, Y.Z.kBin1_e, Y.Z.kNeg_e, Y.Z.kCmp2_e, Y.Z.kCmp1_e, Y.Z.kC23_e, Y.Z.kC22_e, Y.Z.kC21_e, Y.Z.kAnd_e, Y.Z.kOr_e, Y.Z.kNot_e, Y.Z.kIfe_e, Y.Z.kTup_e, Y.Z.kLst_e, Y.Z.kDic_e, Y.Z.kIx1_e, Y.Z.kSl2_e, Y.Z.kSl1_e, Y.Z.kCall_e, Y.Z.kCK3_e, Y.Z.kCK2_e, Y.Z.kCK1_e, Y.Z.kApp1_e, Y.Z.kG2_e, Y.Z.kG1_e, Y.Z.lcF3_e, Y.Z.lcF2_e, Y.Z.lcF1_e, Y.Z.kLc_e, Y.Z.lcG1_e, Y.Z.lcH2_e, Y.Z.lcH1_e, Y.Z.kLc2_e, Y.Z.kL2_e, Y.Z.kL1_e, Y.Z.kInt_e, Y.Z.kTru_e, Y.Z.kCp2_e, Y.Z.kCp1_e, Y.Z.kCq3_e, Y.Z.kCq2_e, Y.Z.kCq1_e, Y.Z.kCand_e, Y.Z.kCor_e, Y.Z.kCnot_e, Y.Z.kR2_e, Y.Z.kZ_e, Y.Z.kGx3_e, Y.Z.kGx2_e, Y.Z.kGx1_e, Y.Z.kWh_e, Y.Z.k_len_e, Y.Z.k_tup_e, Y.Z.k_lst_e, Y.Z.k_w_e, Y.Z.k_we_e, Y.Z.k_cut_e, Y.Z.k_tr_e, Y.Z.sK2_e, Y.Z.sK1_e, Y.Z.soK_e, Y.Z.k_ap_e, Y.Z.k_po2_e, Y.Z.k_po_e, ir_law_7, e, t, r, c, z2]
theorem turns (s0 a3 : Option D) (K : D) (ss : List Int) (hm : ss ∈ sps) (x1 x2 x3 w : List Int) (l1 : x1.length = wid ss) (l2 : x2.length = wid ss) (l3 : x3.length = wid ss) (n1 : nb 7 x1) (n2 : nb 7 x2) (n3 : nb 7 x3) (hw : okW w) (hl : w.length ≤ 6) :
    ∀ (ps : List (Nat × Str)), (∀ p ∈ ps, p ∈ kinds) → ∀ (st : Stt), StO [] st → ∀ a7 a8 a9 : Option D, ∃ c7 c8 c9 st', forS F0 0 (.tp (.cons (.nm 7) (.cons (.nm 8) .nil))) ir_law_7 [] (ps.map fun p => .tup [.int (p.1 : Nat), .str p.2]) [s0, some (.ref 0), some K, a3, some (.tup (ss.map .int)), some (.tup [.tup (x1.map .int), .tup (x2.map .int), .tup (x3.map .int)]), some (.tup (w.map .int)), a7, a8, a9] st =
      .nx [s0, some (.ref 0), some K, a3, some (.tup (ss.map .int)), some (.tup [.tup (x1.map .int), .tup (x2.map .int), .tup (x3.map .int)]), some (.tup (w.map .int)), c7, c8, c9] st' ∧ StO [] st'
  | [], _, st, h, a7, a8, a9 => ⟨a7, a8, a9, st, f_nil _ _ _ _ _ _ _ rfl, h⟩
  | p :: ps, hp, st, h, a7, a8, a9 => by
    obtain ⟨d, st1, e1, h1⟩ := turn s0 a3 K ss hm x1 x2 x3 w l1 l2 l3 n1 n2 n3 hw hl st h p (hp p (List.mem_cons_self ..)) a9
    obtain ⟨c7, c8, c9, st2, e2, h2⟩ := turns s0 a3 K ss hm x1 x2 x3 w l1 l2 l3 n1 n2 n3 hw hl ps (fun q hq => hp q (List.mem_cons_of_mem _ hq)) st1 h1 (some (.int (p.1 : Nat))) (some (.str p.2)) d
    refine ⟨c7, c8, c9, st2, ?_, h2⟩
    rw [List.map_cons, f_cons _ _ _ _ _ _ _ _ _ rfl]
    simp only [asG, asGs, R.bind, List.set_cons_succ, List.set_cons_zero]
    rw [e1]
    exact e2
theorem body (s0 a3 a4 a5 a6 a7 a8 a9 : Option D) (st : Stt) (h : StO [] st) : ∃ c4 c5 c6 c7 c8 c9 st', exSs F0 0 ir_law_3 [s0, some (.ref 0), some (.lst (kinds.map fun p => .str p.2)), a3, a4, a5, a6, a7, a8, a9] st = .nx [s0, some (.ref 0), some (.lst (kinds.map fun p => .str p.2)), a3, c4, c5, c6, c7, c8, c9] st' ∧ StO [] st' := by
  obtain ⟨ss, st1, e1, h1, hm⟩ := sp_space 37 st h
  obtain ⟨hs, h3, hw12, hw1, h0⟩ := sps_ok ss hm
  obtain ⟨x1, st2, e2, h2, l1, n1⟩ := sp_lelement 36 ss hs h3 hw12 [] st1 h1
  obtain ⟨x2, st3, e3, h3', l2, n2⟩ := sp_lelement 36 ss hs h3 hw12 [] st2 h2
  obtain ⟨x3, st4, e4, h4, l3, n3⟩ := sp_lelement 36 ss hs h3 hw12 [] st3 h3'
  obtain ⟨w, st5, e5, h5, lw, hw⟩ := sp_lword 37 6 (by decide) (by decide) [] st4 h4
  obtain ⟨c7, c8, c9, st6, e6, h6⟩ := turns s0 a3 (.lst (kinds.map fun p => .str p.2)) ss hm x1 x2 x3 w l1 l2 l3 n1 n2 n3 hw (by omega) kinds (fun _ h => h) st5 h5 a7 a8 a9
  refine ⟨some (.tup (ss.map .int)), some (.tup [.tup (x1.map .int), .tup (x2.map .int), .tup (x3.map .int)]), some (.tup (w.map .int)), c7, c8, c9, st6, ?_, h6⟩
  have hen : enmL 0 (kinds.map fun p => D.str p.2) = kinds.map fun p => .tup [.int (p.1 : Nat), .str p.2] := rfl
  have z3 : (3 : Nat) ≤ sz := by decide
  generalize (kinds.map fun p : Nat × Str => D.str p.2) = KK at *
  generalize (kinds.map fun p : Nat × Str => D.tup [.int (p.1 : Nat), .str p.2]) = KT at *
  generalize ss.map D.int = S at *
  generalize x1.map D.int = X1 at *
  generalize x2.map D.int = X2 at *
  generalize x3.map D.int = X3 at *
  generalize w.map D.int = W at *
  unfold ir_law_3
  generalize ir_law_7 = Q at *
  simp (implicitDefEqProofs := false) [Y.Z.x_nil, Y.Z.x_cons, Y.Z.bind_ok, Y.Z.bind_ex, Y.Z.lift_ok, Y.Z.lift_ex, Y.Z.noEx_ok, Y.Z.seq_nx, Y.Z.seq_rt, Y.Z.seq_bk, Y.Z.seq_ct, Y.Z.seq_ex, Y.Z.kRaise_e, Y.Z.y_raise, Y.Z.y_tryv, Y.Z.tv_nx, Y.Z.tv_rt, Y.Z.tv_ex, Y.hkD, Y.Z.e_fld, Y.Z.fld_e, Y.Z.loop_nx, Y.Z.loop_rt, Y.Z.loop_bk, Y.Z.loop_ct, Y.Z.asT_ok, Y.Z.opt_some, Y.Z.var_some, Y.Z.y_asg, Y.Z.y_aug, Y.Z.y_ite, Y.Z.x_retN, Y.Z.x_brk, Y.Z.x_cnt, Y.Z.x_pass, Y.Z.e_var, Y.Z.e_cst, Y.Z.e_glo, Y.Z.e_bin, Y.Z.e_neg, Y.Z.e_cmp, Y.Z.e_cmp2, Y.Z.e_and, Y.Z.e_or, Y.Z.e_not, Y.Z.e_ife, Y.Z.e_tup, Y.Z.e_lst, Y.Z.e_dic, Y.Z.e_dic0, Y.Z.e_ix, Y.Z.e_sl, Y.Z.e_rev, Y.Z.e_call, Y.Z.e_callK, Y.Z.e_blt, Y.Z.e_isi, Y.Z.e_isq, Y.Z.e_app, Y.Z.e_pop, Y.Z.e_ext, Y.Z.kExt1_e, Y.Z.k_ex_e, Y.Z.k_ex2_e, Y.Z.ex_ref, Y.Z.t_max1, Y.Z.t_min1, Y.Z.e_get2, Y.Z.e_lc, Y.Z.e_lc2, Y.Z.l_nil, Y.Z.l_cons, Y.Z.o_non, Y.Z.o_som, Y.Z.c_val, Y.Z.c_cp, Y.Z.c_cp2, Y.Z.c_and, Y.Z.c_or, Y.Z.c_not, Y.Z.co_non, Y.Z.co_som, Y.Z.i_seq, Y.Z.i_rng1, Y.Z.i_rng2, Y.Z.i_enm, Y.Z.i_zip, Y.Z.g_nm, Y.Z.g_tup, Y.Z.g_ct, Y.Z.g_ix, Y.Z.gs_nil, Y.Z.gs_cons, Y.Z.b_add, Y.Z.b_sub, Y.Z.b_mul, Y.Z.b_div, Y.Z.b_mod, Y.Z.b_pow, Y.Z.b_tup, Y.Z.b_lst, Y.Z.b_mulL, Y.Z.c_lt, Y.Z.c_le, Y.Z.c_gt, Y.Z.c_ge, Y.Z.c_eq, Y.Z.c_ne, Y.Z.c_isN, Y.Z.c_notN, Y.Z.c_isB, Y.Z.c_notB, Y.isNon, Y.Z.newL_f, Y.Z.newL_t, Y.Z.t_len, Y.Z.t_sum, Y.Z.t_any, Y.Z.t_all, Y.Z.t_abs, Y.Z.t_min, Y.Z.t_max, Y.Z.t_tuple, Y.Z.t_list, Y.Z.t_int, Y.Z.t_repr, Y.Z.t_str, Y.Z.st_str, Y.Z.st_int, Y.Z.st_tup, Y.Z.len_tup, Y.Z.len_lst, Y.Z.len_rd, Y.Z.len_ct, Y.Z.tup_lst, Y.Z.tup_tup, Y.Z.tup_ct, Y.Z.lst_lst, Y.Z.lst_tup, Y.Z.sum_ints, Y.Z.sum_ints', Y.Z.w_tup, Y.Z.w_lst, Y.Z.w_rd, Y.Z.w_ct, Y.Z.we_tup, Y.Z.we_lst, Y.Z.we_ct, Y.Z.wz_tl, Y.Z.wz_ll, Y.Z.wz_tt, Y.Z.r_tup, Y.Z.r_lst, Y.Z.r_rd, Y.Z.r_ct, Y.Z.cut_tup, Y.Z.cut_lst, Y.Z.cut_rd, Y.Z.rev_tup, Y.Z.tr_bl, Y.Z.tr_int, Y.Z.tr_tup, Y.Z.tr_lst, Y.Z.refL_lst, Y.Z.getO_lst, Y.Z.r_ref, Y.Z.lstOf_ref, Y.Z.len_ref, Y.Z.tup_ref, Y.Z.lst_ref, Y.Z.w_ref, Y.Z.we_ref, Y.Z.cut_ref, Y.Z.tr_ref, Y.Z.s_ref, Y.Z.so_lst, Y.Z.a_ref, Y.Z.po_ref, Y.Z.ixN_lit, Y.Z.atI_lit, Y.isD, Y.tyD, Y.subTy, Y.Z.fin_rtc, Y.Z.fin_rta, Y.Z.fin_nx, Y.D.lt, Y.ltL, Y.Z.ltL_ints, Y.Z.still_nil2, Y.Z.still_tup, Y.Z.still_ct, Y.Z.still_rd, Y.Z.still_lst, Y.wipe, Y.Z.blO_some, Y.Z.y_par, Y.Z.y_par3, Y.Z.kPar31_e, Y.Z.kPar32_e, Y.Z.kPar33_e, Y.Z.y_expr, Y.Z.y_ret, Y.Z.y_for, Y.Z.x_while, Y.Z.kAsg_e, Y.Z.kAug3_e, Y.Z.kAug2_e, Y.Z.kAug1_e, Y.Z.kIte_e, Y.Z.kPar2_e, Y.Z.kPar1_e, Y.Z.kExpr_e, Y.Z.kFor_e, Y.Z.kBin1_e, Y.Z.kNeg_e, Y.Z.kCmp2_e, Y.Z.kCmp1_e, Y.Z.kC23_e, Y.Z.kC22_e, Y.Z.kC21_e, Y.Z.kAnd_e, Y.Z.kOr_e, Y.Z.kNot_e, Y.Z.kIfe_e, Y.Z.kTup_e, Y.Z.kLst_e, Y.Z.kDic_e, Y.Z.kIx1_e, Y.Z.kSl2_e, Y.Z.kSl1_e, Y.Z.kCall_e, Y.Z.kCK3_e, Y.Z.kCK2_e, Y.Z.kCK1_e, Y.Z.kApp1_e, Y.Z.kG2_e, Y.Z.kG1_e, Y.Z.lcF3_e, Y.Z.lcF2_e, Y.Z.lcF1_e, Y.Z.kLc_e, Y.Z.lcG1_e, Y.Z.lcH2_e, Y.Z.lcH1_e, Y.Z.kLc2_e, Y.Z.kL2_e, Y.Z.kL1_e, Y.Z.kInt_e, Y.Z.kTru_e, Y.Z.kCp2_e, Y.Z.kCp1_e, Y.Z.kCq3_e, Y.Z.kCq2_e, Y.Z.kCq1_e, Y.Z.kCand_e, Y.Z.kCor_e, Y.Z.kCnot_e, Y.Z.kR2_e, Y.Z.kZ_e, Y.Z.kGx3_e, Y.Z.kGx2_e, Y.Z.kGx1_e, Y.Z.kWh_e, Y.Z.k_len_e, Y.Z.k_tup_e, Y.Z.k_lst_e, Y.Z.k_w_e, Y.Z.k_we_e, Y.Z.k_cut_e, Y.Z.k_tr_e, Y.Z.sK2_e, Y.Z.sK1_e, Y.Z.soK_e, Y.Z.k_ap_e, Y.Z.k_po2_e, Y.Z.k_po_e, e1, e2, e3, e4, e5, z3, hen, e6]
theorem sem (ns : List Int) (hl : ns.length ≤ 63) (hb : ∀ k ∈ ns, PySem.Builtin.Int.intBits k ≤ 1048576) : ∃ st, callF tbl glo 100000 40 34 [.rd (ns.map .int)] 0 [] = .ok (.bl true) st := by
  obtain ⟨st0, e0, h0⟩ := sp_begin 38 ns hl 0
  refine ⟨[], ?_⟩
  rw [show (40 : Nat) = 39 + 1 from rfl, en_law]
  obtain ⟨env', st', el, _⟩ := f_inv2 (F := F0) (b := 0) (g := .nm 3) (body := ir_law_3) (src := []) (fun env st => StO [] st ∧ ∃ c3 c4 c5 c6 c7 c8 c9 : Option D, env = [some (.rd (ns.map .int)), some (.ref 0), some (.lst (kinds.map fun p => .str p.2)), c3, c4, c5, c6, c7, c8, c9]) (fun _ _ _ => rfl) (items := rngL 0 6) (fun d hd env st ⟨h, c3, c4, c5, c6, c7, c8, c9, e⟩ => by
    subst e
    obtain ⟨d4, d5, d6, d7, d8, d9, st', e, h'⟩ := body (some (.rd (ns.map .int))) (some d) c4 c5 c6 c7 c8 c9 st h
    exact ⟨_, st, _, st', rfl, .inl e, h', _, _, _, _, _, _, _, rfl⟩) [some (.rd (ns.map .int)), some (.ref 0), some (.lst (kinds.map fun p => .str p.2)), none, none, none, none, none, none, none] st0 ⟨h0, none, none, none, none, none, none, none, rfl⟩
  have hk : (kinds.map fun p => D.str p.2) = [.str "space", .str "elements", .str "word", .str "word", .str "word", .str "number", .str "word", .str "word", .str "number"] := rfl
  rw [hk] at el
  have hsm : small 6 = true := by decide
  have z9 : (9 : Nat) ≤ sz := by decide
  generalize ns.map D.int = N at *
  unfold ir_law
  generalize ir_law_3 = Q at *
  simp (implicitDefEqProofs := false) [Y.Z.x_nil, Y.Z.x_cons, Y.Z.bind_ok, Y.Z.bind_ex, Y.Z.lift_ok, Y.Z.lift_ex, Y.Z.noEx_ok, Y.Z.seq_nx, Y.Z.seq_rt, Y.Z.seq_bk, Y.Z.seq_ct, Y.Z.seq_ex, Y.Z.kRaise_e, Y.Z.y_raise, Y.Z.y_tryv, Y.Z.tv_nx, Y.Z.tv_rt, Y.Z.tv_ex, Y.hkD, Y.Z.e_fld, Y.Z.fld_e, Y.Z.loop_nx, Y.Z.loop_rt, Y.Z.loop_bk, Y.Z.loop_ct, Y.Z.asT_ok, Y.Z.opt_some, Y.Z.var_some, Y.Z.y_asg, Y.Z.y_aug, Y.Z.y_ite, Y.Z.x_retN, Y.Z.x_brk, Y.Z.x_cnt, Y.Z.x_pass, Y.Z.e_var, Y.Z.e_cst, Y.Z.e_glo, Y.Z.e_bin, Y.Z.e_neg, Y.Z.e_cmp, Y.Z.e_cmp2, Y.Z.e_and, Y.Z.e_or, Y.Z.e_not, Y.Z.e_ife, Y.Z.e_tup, Y.Z.e_lst, Y.Z.e_dic, Y.Z.e_dic0, Y.Z.e_ix, Y.Z.e_sl, Y.Z.e_rev, Y.Z.e_call, Y.Z.e_callK, Y.Z.e_blt, Y.Z.e_isi, Y.Z.e_isq, Y.Z.e_app, Y.Z.e_pop, Y.Z.e_ext, Y.Z.kExt1_e, Y.Z.k_ex_e, Y.Z.k_ex2_e, Y.Z.ex_ref, Y.Z.t_max1, Y.Z.t_min1, Y.Z.e_get2, Y.Z.e_lc, Y.Z.e_lc2, Y.Z.l_nil, Y.Z.l_cons, Y.Z.o_non, Y.Z.o_som, Y.Z.c_val, Y.Z.c_cp, Y.Z.c_cp2, Y.Z.c_and, Y.Z.c_or, Y.Z.c_not, Y.Z.co_non, Y.Z.co_som, Y.Z.i_seq, Y.Z.i_rng1, Y.Z.i_rng2, Y.Z.i_enm, Y.Z.i_zip, Y.Z.g_nm, Y.Z.g_tup, Y.Z.g_ct, Y.Z.g_ix, Y.Z.gs_nil, Y.Z.gs_cons, Y.Z.b_add, Y.Z.b_sub, Y.Z.b_mul, Y.Z.b_div, Y.Z.b_mod, Y.Z.b_pow, Y.Z.b_tup, Y.Z.b_lst, Y.Z.b_mulL, Y.Z.c_lt, Y.Z.c_le, Y.Z.c_gt, Y.Z.c_ge, Y.Z.c_eq, Y.Z.c_ne, Y.Z.c_isN, Y.Z.c_notN, Y.Z.c_isB, Y.Z.c_notB, Y.isNon, Y.Z.newL_f, Y.Z.newL_t, Y.Z.t_len, Y.Z.t_sum, Y.Z.t_any, Y.Z.t_all, Y.Z.t_abs, Y.Z.t_min, Y.Z.t_max, Y.Z.t_tuple, Y.Z.t_list, Y.Z.t_int, Y.Z.t_repr, Y.Z.t_str, Y.Z.st_str, Y.Z.st_int, Y.Z.st_tup, Y.Z.len_tup, Y.Z.len_lst, Y.Z.len_rd, Y.Z.len_ct, Y.Z.tup_lst, Y.Z.tup_tup, Y.Z.tup_ct, Y.Z.lst_lst, Y.Z.lst_tup, Y.Z.sum_ints, Y.Z.sum_ints', Y.Z.w_tup, Y.Z.w_lst, Y.Z.w_rd, Y.Z.w_ct, Y.Z.we_tup, Y.Z.we_lst, Y.Z.we_ct, Y.Z.wz_tl, Y.Z.wz_ll, Y.Z.wz_tt, Y.Z.r_tup, Y.Z.r_lst, Y.Z.r_rd, Y.Z.r_ct, Y.Z.cut_tup, Y.Z.cut_lst, Y.Z.cut_rd, Y.Z.rev_tup, Y.Z.tr_bl, Y.Z.tr_int, Y.Z.tr_tup, Y.Z.tr_lst, Y.Z.refL_lst, Y.Z.getO_lst, Y.Z.r_ref, Y.Z.lstOf_ref, Y.Z.len_ref, Y.Z.tup_ref, Y.Z.lst_ref, Y.Z.w_ref, Y.Z.we_ref, Y.Z.cut_ref, Y.Z.tr_ref, Y.Z.s_ref, Y.Z.so_lst, Y.Z.a_ref, Y.Z.po_ref, Y.Z.ixN_lit, Y.Z.atI_lit, Y.isD, Y.tyD, Y.subTy, Y.Z.fin_rtc, Y.Z.fin_rta, Y.Z.fin_nx, Y.D.lt, Y.ltL, Y.Z.ltL_ints, Y.Z.still_nil2, Y.Z.still_tup, Y.Z.still_ct, Y.Z.still_rd, Y.Z.still_lst, Y.wipe, Y.Z.blO_some, Y.Z.y_par, Y.Z.y_par3, Y.Z.kPar31_e, Y.Z.kPar32_e, Y.Z.kPar33_e, Y.Z.y_expr, Y.Z.y_ret, Y.Z.y_for, Y.Z.x_while, Y.Z.kAsg_e, Y.Z.kAug3_e, Y.Z.kAug2_e, Y.Z.kAug1_e, Y.Z.kIte_e, Y.Z.kPar2_e, Y.Z.kPar1_e, Y.Z.kExpr_e, Y.Z.kFor_e, Y.Z.kBin1_e, Y.Z.kNeg_e, Y.Z.kCmp2_e, Y.Z.kCmp1_e, Y.Z.kC23_e, Y.Z.kC22_e, Y.Z.kC21_e, Y.Z.kAnd_e, Y.Z.kOr_e, Y.Z.kNot_e, Y.Z.kIfe_e, Y.Z.kTup_e, Y.Z.kLst_e, Y.Z.kDic_e, Y.Z.kIx1_e, Y.Z.kSl2_e, Y.Z.kSl1_e, Y.Z.kCall_e, Y.Z.kCK3_e, Y.Z.kCK2_e, Y.Z.kCK1_e, Y.Z.kApp1_e, Y.Z.kG2_e, Y.Z.kG1_e, Y.Z.lcF3_e, Y.Z.lcF2_e, Y.Z.lcF1_e, Y.Z.kLc_e, Y.Z.lcG1_e, Y.Z.lcH2_e, Y.Z.lcH1_e, Y.Z.kLc2_e, Y.Z.kL2_e, Y.Z.kL1_e, Y.Z.kInt_e, Y.Z.kTru_e, Y.Z.kCp2_e, Y.Z.kCp1_e, Y.Z.kCq3_e, Y.Z.kCq2_e, Y.Z.kCq1_e, Y.Z.kCand_e, Y.Z.kCor_e, Y.Z.kCnot_e, Y.Z.kR2_e, Y.Z.kZ_e, Y.Z.kGx3_e, Y.Z.kGx2_e, Y.Z.kGx1_e, Y.Z.kWh_e, Y.Z.k_len_e, Y.Z.k_tup_e, Y.Z.k_lst_e, Y.Z.k_w_e, Y.Z.k_we_e, Y.Z.k_cut_e, Y.Z.k_tr_e, Y.Z.sK2_e, Y.Z.sK1_e, Y.Z.soK_e, Y.Z.k_ap_e, Y.Z.k_po2_e, Y.Z.k_po_e, e0, z9, w_rng1, hsm, el]
  simp [finO, finF, fin0, frz, mapW]
end LW


set_option maxHeartbeats 400000
/-! Y2: the evaluator's data in the hand layer's heap; readings T; the rules. -/
namespace Y
open PySem PySem.Spec PyProof.Rows L2

/-! ### data in the heap -/
def KL (K : PySem.W.Frag) (a : Addr) (xs : List V) : Prop := ∃ (o : Obj) (its : Array Value) (n : Nat), K.lookup a = some o ∧ o.cls = .type "list" ∧ o.dict = none ∧ o.data = .seq its n ∧ its.size ≤ sizeLine ∧ Vals xs its.toList
def KT (K : PySem.W.Frag) (a : Addr) (xs : List V) : Prop := ∃ (o : Obj) (its : Array Value) (n : Nat), K.lookup a = some o ∧ o.cls = .type "tuple" ∧ o.data = .seq its n ∧ its.size ≤ sizeLine ∧ Vals xs its.toList
/-- unchangeable, by its place -/
def Fz (hid ρ : List Addr) (H : Hp) (a : Addr) (o : HO) : Prop := Rd H a o ∧ a ∉ ρ ∧ a ∉ hid
/-- a caught exception that is kept: its class, its dict -/
def exh (a : Addr) (cls : Value) (d : Option Addr) : HO := .ext fun h => ∃ o, h.get? a = some o ∧ o.cls = cls ∧ o.dict = d ∧ ∃ vs, o.data = .fields vs
mutual
def Rel (K : PySem.W.Frag) (hid : List Addr) (H : Hp) (ρ : List Addr) : D → V → Prop
  | .non, v => v = .non
  | .bl b, v => v = .bl b
  | .int i, v => v = .int i
  | .str x, v => v = .str x
  | .tup ds, v => ∃ a vs, v = .ref a ∧ H a = some (.tup vs) ∧ Rels K hid H ρ ds vs
  | .ct ds, v => ∃ a vs, v = .ref a ∧ KT K a vs ∧ Rels K hid H ρ ds vs
  | .lst ds, v => ∃ a vs, v = .ref a ∧ Fz hid ρ H a (.lst vs) ∧ Rels K hid H ρ ds vs
  | .rd ds, v => ∃ a vs, v = .ref a ∧ (Fz hid ρ H a (.lst vs) ∨ KL K a vs) ∧ Rels K hid H ρ ds vs
  | .dK ks ds, v => ∃ a vs, v = .ref a ∧ Fz hid ρ H a (.dK (ks.zip vs)) ∧ ks.length = vs.length ∧ Rels K hid H ρ ds vs
  | .dT ks ds, v => ∃ a vs, v = .ref a ∧ Fz hid ρ H a (.dT (ks.zip vs)) ∧ ks.length = vs.length ∧ Rels K hid H ρ ds vs
  | .exn _ d, v => ∃ a C dd w, v = .ref a ∧ H a = some (exh a (.ref C) (some dd)) ∧ H dd = some (.xd [("value", w)]) ∧ XfC K C ∧ PySem.W.findIn K (.ref C) "value" = some none ∧ Rel K hid H ρ d w
  | .cdi ks ds, v => ∃ a vs, v = .ref a ∧ KDi K a ks vs ∧ Rels K hid H ρ ds vs
  | .ref n, v => ∃ a, v = .ref a ∧ ρ[n]? = some a
def Rels (K : PySem.W.Frag) (hid : List Addr) (H : Hp) (ρ : List Addr) : List D → List V → Prop
  | [], vs => vs = []
  | d :: ds, vs => ∃ v r, vs = v :: r ∧ Rel K hid H ρ d v ∧ Rels K hid H ρ ds r
end
def ObR (K : PySem.W.Frag) (hid : List Addr) (H : Hp) (ρ : List Addr) : Ob → HO → Prop
  | .lst ds, o => ∃ vs, o = .lst vs ∧ Rels K hid H ρ ds vs
  | .dK ks ds, o => ∃ vs, o = .dK (ks.zip vs) ∧ ks.length = vs.length ∧ Rels K hid H ρ ds vs
  | .dT ks ds, o => ∃ vs, o = .dT (ks.zip vs) ∧ ks.length = vs.length ∧ Rels K hid H ρ ds vs
/-- what the store's objects are -/
def Chg : HO → Prop
  | .lst _ => True
  | .dK _ => True
  | .dT _ => True
  | _ => False
/-- the world grows: ρ is continued by new objects (or hidden ones), all but ρ and what is hidden stays -/
structure Gr (hid ρ : List Addr) (H : Hp) (hid' ρ' : List Addr) (H' : Hp) : Prop where
  pre : ∀ (n : Nat) (a : Addr), ρ[n]? = some a → ρ'[n]? = some a
  chg : ∀ a ∈ ρ, ∃ o, H a = some o ∧ Chg o
  hch : ∀ a ∈ hid, ∃ o, H a = some o ∧ Chg o
  ext : ∀ a o, H a = some o → a ∉ ρ → a ∉ hid → H' a = some o
  fre : ∀ a ∈ ρ', a ∉ ρ → a ∉ hid → H a = none
  hfr : ∀ a ∈ hid', a ∉ ρ → a ∉ hid → H a = none
section
variable {K : PySem.W.Frag} {hid hid' ρ ρ' ρ'' : List Addr} {H H' H'' : Hp}
theorem rd_notin {a : Addr} {xs : List V} (g : ∀ a ∈ ρ, ∃ o, H a = some o ∧ Chg o) (h : Rd H a (.tup xs)) : a ∉ ρ := fun hm => by
  obtain ⟨o, e, c⟩ := g a hm
  rcases h with h | ⟨ob, h⟩
  · rw [e] at h; cases h; exact c
  · rw [e] at h; cases h; exact c
theorem ob_notin {l : List Addr} {a : Addr} {u : HO} (g : ∀ a ∈ l, ∃ o, H a = some o ∧ Chg o) (h : H a = some u) (hu : ¬ Chg u) : a ∉ l := fun hm => by
  obtain ⟨o, e, c⟩ := g a hm
  rw [e] at h
  cases h
  exact hu c
theorem Gr.obs {a : Addr} {u : HO} (g : Gr hid ρ H hid' ρ' H') (h : H a = some u) (hu : ¬ Chg u) : H' a = some u := g.ext _ _ h (ob_notin g.chg h hu) (ob_notin g.hch h hu)
theorem Rd.ext {a : Addr} {u : HO} (g : Gr hid ρ H hid' ρ' H') (h : Rd H a u) (hn : a ∉ ρ) (hh : a ∉ hid) : Rd H' a u := by
  rcases h with h | ⟨ob, h⟩
  · exact .inl (g.ext _ _ h hn hh)
  · exact .inr ⟨ob, g.ext _ _ h hn hh⟩
theorem Rd.ne {a : Addr} {u : HO} (h : Rd H a u) : H a ≠ none := by
  rcases h with h | ⟨ob, h⟩ <;> (rw [h]; exact fun z => nomatch z)
theorem Fz.ext {a : Addr} {u : HO} (g : Gr hid ρ H hid' ρ' H') (h : Fz hid ρ H a u) : Fz hid' ρ' H' a u :=
  ⟨Rd.ext g h.1 h.2.1 h.2.2, fun hm => Rd.ne h.1 (g.fre a hm h.2.1 h.2.2), fun hm => Rd.ne h.1 (g.hfr a hm h.2.1 h.2.2)⟩
mutual
theorem Rel.mono (g : Gr hid ρ H hid' ρ' H') : ∀ (d : D) (v : V), Rel K hid H ρ d v → Rel K hid' H' ρ' d v
  | .non, _, h => h
  | .bl _, _, h => h
  | .int _, _, h => h
  | .str _, _, h => h
  | .tup ds, _, ⟨a, vs, e, s, r⟩ => ⟨a, vs, e, g.ext _ _ s (rd_notin g.chg (.inl s)) (rd_notin g.hch (.inl s)), Rels.mono g ds vs r⟩
  | .ct ds, _, ⟨a, vs, e, s, r⟩ => ⟨a, vs, e, s, Rels.mono g ds vs r⟩
  | .lst ds, _, ⟨a, vs, e, s, r⟩ => ⟨a, vs, e, Fz.ext g s, Rels.mono g ds vs r⟩
  | .rd ds, _, ⟨a, vs, e, s, r⟩ => ⟨a, vs, e, s.imp (Fz.ext g) id, Rels.mono g ds vs r⟩
  | .dK ks ds, _, ⟨a, vs, e, s, l, r⟩ => ⟨a, vs, e, Fz.ext g s, l, Rels.mono g ds vs r⟩
  | .dT ks ds, _, ⟨a, vs, e, s, l, r⟩ => ⟨a, vs, e, Fz.ext g s, l, Rels.mono g ds vs r⟩
  | .exn _ d, _, ⟨a, C, dd, w, e, h1, h2, x, f, r⟩ => ⟨a, C, dd, w, e, g.obs h1 id, g.obs h2 id, x, f, Rel.mono g d w r⟩
  | .cdi ks ds, _, ⟨a, vs, e, s, r⟩ => ⟨a, vs, e, s, Rels.mono g ds vs r⟩
  | .ref n, _, ⟨a, e, q⟩ => ⟨a, e, g.pre n a q⟩
theorem Rels.mono (g : Gr hid ρ H hid' ρ' H') : ∀ (ds : List D) (vs : List V), Rels K hid H ρ ds vs → Rels K hid' H' ρ' ds vs
  | [], _, h => h
  | d :: ds, _, ⟨v, r, e, h1, h2⟩ => ⟨v, r, e, Rel.mono g d v h1, Rels.mono g ds r h2⟩
end
theorem Rels.len : ∀ {ds : List D} {vs : List V}, Rels K hid H ρ ds vs → ds.length = vs.length
  | [], _, h => by
    have e : _ = [] := h
    rw [e]; rfl
  | d :: ds, _, h => by
    obtain ⟨v, r, e, h1, h2⟩ := h
    rw [e, List.length_cons, List.length_cons, Rels.len h2]
theorem Rels.get : ∀ {ds : List D} {vs : List V} {i : Nat} {d : D}, Rels K hid H ρ ds vs → ds[i]? = some d → ∃ v, vs[i]? = some v ∧ Rel K hid H ρ d v
  | [], _, _, _, _, e => by simp at e
  | x :: ds, _, 0, d, h, e => by
    obtain ⟨v, r, e1, h1, h2⟩ := h
    subst e1
    cases e
    exact ⟨v, rfl, h1⟩
  | x :: ds, _, i + 1, d, h, e => by
    obtain ⟨v, r, e1, h1, h2⟩ := h
    subst e1
    obtain ⟨w, q1, q2⟩ := Rels.get (i := i) h2 (by simpa using e)
    exact ⟨w, by simpa using q1, q2⟩
theorem Rels.app : ∀ {ds es : List D} {vs ws : List V}, Rels K hid H ρ ds vs → Rels K hid H ρ es ws → Rels K hid H ρ (ds ++ es) (vs ++ ws)
  | [], _, _, _, h, q => by
    have e : _ = [] := h
    subst e
    exact q
  | d :: ds, _, _, _, h, q => by
    obtain ⟨v, r, e, h1, h2⟩ := h
    subst e
    exact ⟨v, r ++ _, rfl, h1, Rels.app h2 q⟩
theorem Rels.set : ∀ {ds : List D} {vs : List V} (i : Nat) {d : D} {v : V}, Rels K hid H ρ ds vs → Rel K hid H ρ d v → Rels K hid H ρ (ds.set i d) (vs.set i v)
  | [], _, _, _, _, h, _ => by
    have e : _ = [] := h
    subst e
    exact rfl
  | x :: ds, _, 0, _, _, h, q => by
    obtain ⟨w, r, e, h1, h2⟩ := h
    subst e
    exact ⟨_, r, rfl, q, h2⟩
  | x :: ds, _, i + 1, _, _, h, q => by
    obtain ⟨w, r, e, h1, h2⟩ := h
    subst e
    exact ⟨w, r.set i _, rfl, h1, Rels.set i h2 q⟩
theorem Rels.take : ∀ {ds : List D} {vs : List V} (n : Nat), Rels K hid H ρ ds vs → Rels K hid H ρ (ds.take n) (vs.take n)
  | _, _, 0, _ => rfl
  | [], _, n + 1, h => by
    have e : _ = [] := h
    subst e
    exact rfl
  | x :: ds, _, n + 1, h => by
    obtain ⟨w, r, e, h1, h2⟩ := h
    subst e
    exact ⟨w, r.take n, rfl, h1, Rels.take n h2⟩
theorem Rels.drop : ∀ {ds : List D} {vs : List V} (n : Nat), Rels K hid H ρ ds vs → Rels K hid H ρ (ds.drop n) (vs.drop n)
  | _, _, 0, h => h
  | [], _, n + 1, h => by
    have e : _ = [] := h
    subst e
    exact rfl
  | x :: ds, _, n + 1, h => by
    obtain ⟨w, r, e, h1, h2⟩ := h
    subst e
    exact Rels.drop n h2
theorem Rels.one {d : D} {v : V} (h : Rel K hid H ρ d v) : Rels K hid H ρ [d] [v] := ⟨v, [], rfl, h, rfl⟩
theorem Rels.dropLast : ∀ {ds : List D} {vs : List V}, Rels K hid H ρ ds vs → Rels K hid H ρ ds.dropLast vs.dropLast := fun {ds vs} h => by
  rw [List.dropLast_eq_take, List.dropLast_eq_take, Rels.len h]
  exact Rels.take _ h
theorem Rels.rep {ds : List D} {vs : List V} (h : Rels K hid H ρ ds vs) : ∀ n, Rels K hid H ρ (List.replicate n ds).flatten (List.replicate n vs).flatten
  | 0 => rfl
  | n + 1 => by
    rw [List.replicate_succ, List.replicate_succ, List.flatten_cons, List.flatten_cons]
    exact Rels.app h (Rels.rep h n)
theorem Rels.cut {ds : List D} {vs : List V} (h : Rels K hid H ρ ds vs) (lo hi : Option Int) : Rels K hid H ρ (Y.cut ds lo hi) (cutV vs lo hi) := by
  unfold Y.cut cutV
  rw [Rels.len h]
  exact Rels.take _ (Rels.drop _ h)
end

/-! ### the state -/
structure Cc where
  K : PySem.W.Frag
  bs : List Nat
  b : Nat
  cls : Nat → Addr
  /-- what the module holds for good -/
  cs : List (D × V) := []
structure Mt (c : Cc) (hid : List Addr) (ρ : List Addr) (st : Stt) (H : Hp) : Prop where
  len : ρ.length = st.length
  nd : ρ.Nodup
  dis : ∀ a ∈ ρ, a ∉ hid
  hs : ∀ a ∈ hid, ∃ o, H a = some o ∧ Chg o
  ob : ∀ (n : Nat) (o : Ob) (a : Addr), st[n]? = some o → ρ[n]? = some a → ∃ ho, H a = some ho ∧ ObR c.K hid H ρ o ho
  wf : ∀ x ∈ c.bs, x ≤ c.b ∧ x ≤ st.length ∧ ∀ (n : Nat) (o : Ob), n < x → st[n]? = some o → o.lt x = true
  cs : ∀ p ∈ c.cs, Rel c.K hid H ρ p.1 p.2
def EnvR (c : Cc) (hid : List Addr) (H : Hp) (ρ : List Addr) (env : Env) (σ : L2.St) : Prop :=
  env.length = σ.length ∧ ∀ (i : Nat) (d : D), env[i]? = some (some d) → ∃ v, σ[i]? = some (some v) ∧ Rel c.K hid H ρ d v
theorem ObR.chg {K : PySem.W.Frag} {hid ρ : List Addr} {H : Hp} {o : Ob} {ho : HO} (h : ObR K hid H ρ o ho) : Chg ho := by
  cases o with
  | lst ds => obtain ⟨vs, e, _⟩ := h; subst e; trivial
  | dK ks ds => obtain ⟨vs, e, _⟩ := h; subst e; trivial
  | dT ks ds => obtain ⟨vs, e, _⟩ := h; subst e; trivial
section
variable {c : Cc} {hid : List Addr} {ρ ρ' ρ'' : List Addr} {st st' st'' : Stt} {H H' H'' : Hp}
theorem Mt.chg (M : Mt c hid ρ st H) : ∀ a ∈ ρ, ∃ o, H a = some o ∧ Chg o := fun a ha => by
  obtain ⟨n, hn⟩ := List.mem_iff_getElem?.mp ha
  have hl : n < st.length := by
    rw [← M.len]
    exact (List.getElem?_eq_some_iff.mp hn).1
  obtain ⟨ho, e, r⟩ := M.ob n _ a (List.getElem?_eq_getElem hl) hn
  exact ⟨ho, e, r.chg⟩
/-- one more state of the same run -/
structure Nx (c : Cc) (hid : List Addr) (ρ : List Addr) (H : Hp) (ρ' : List Addr) (st' : Stt) (H' : Hp) : Prop where
  mt : Mt c hid ρ' st' H'
  gr : Gr hid ρ H hid ρ' H'
  hk : ∀ a ∈ hid, H' a = H a
theorem Gr.trans {hid hid' hid'' : List Addr} (a : Gr hid ρ H hid' ρ' H') (b : Gr hid' ρ' H' hid'' ρ'' H'') : Gr hid ρ H hid'' ρ'' H'' where
  pre := fun n x e => b.pre n x (a.pre n x e)
  chg := a.chg
  hch := a.hch
  ext := fun x o e hn hh => by
    refine b.ext x o (a.ext x o e hn hh) (fun hm => ?_) fun hm => ?_
    · rw [a.fre x hm hn hh] at e
      cases e
    · rw [a.hfr x hm hn hh] at e
      cases e
  fre := fun x hm hn hh => by
    cases e : H x with
    | none => rfl
    | some o =>
      have q := a.ext x o e hn hh
      by_cases h : x ∈ ρ'
      · exact e.symm.trans (a.fre x h hn hh)
      · by_cases h2 : x ∈ hid'
        · exact e.symm.trans (a.hfr x h2 hn hh)
        · rw [b.fre x hm h h2] at q
          cases q
  hfr := fun x hm hn hh => by
    cases e : H x with
    | none => rfl
    | some o =>
      have q := a.ext x o e hn hh
      by_cases h : x ∈ ρ'
      · exact e.symm.trans (a.fre x h hn hh)
      · by_cases h2 : x ∈ hid'
        · exact e.symm.trans (a.hfr x h2 hn hh)
        · rw [b.hfr x hm h h2] at q
          cases q
theorem Gr.refl (M : Mt c hid ρ st H) : Gr hid ρ H hid ρ H := ⟨fun _ _ e => e, M.chg, M.hs, fun _ _ e _ _ => e, fun _ h n _ => absurd h n, fun _ h _ n => absurd h n⟩
theorem Nx.refl (M : Mt c hid ρ st H) : Nx c hid ρ H ρ st H := ⟨M, Gr.refl M, fun _ _ => rfl⟩
theorem Nx.trans (a : Nx c hid ρ H ρ' st' H') (b : Nx c hid ρ' H' ρ'' st'' H'') : Nx c hid ρ H ρ'' st'' H'' := ⟨b.mt, a.gr.trans b.gr, fun x hx => (b.hk x hx).trans (a.hk x hx)⟩
theorem EnvR.mono {hid' : List Addr} {env : Env} {σ : L2.St} (E : EnvR c hid H ρ env σ) (g : Gr hid ρ H hid' ρ' H') : EnvR c hid' H' ρ' env σ :=
  ⟨E.1, fun i d e => let ⟨v, h1, h2⟩ := E.2 i d e; ⟨v, h1, Rel.mono g d v h2⟩⟩
theorem EnvR.set {env : Env} {σ : L2.St} (E : EnvR c hid H ρ env σ) (i : Nat) {d : D} {v : V} (r : Rel c.K hid H ρ d v) : EnvR c hid H ρ (env.set i (some d)) (σ.set i (some v)) := by
  refine ⟨by rw [List.length_set, List.length_set, E.1], fun j e h => ?_⟩
  by_cases hj : i = j
  · subst hj
    by_cases hl : i < env.length
    · rw [List.getElem?_set_self hl] at h
      cases h
      exact ⟨v, by rw [List.getElem?_set_self (by rw [← E.1]; exact hl)], r⟩
    · rw [List.getElem?_eq_none (by rw [List.length_set]; omega)] at h
      cases h
  · rw [List.getElem?_set_ne hj] at h ⊢
    exact E.2 j e h

theorem ObR.mono {K : PySem.W.Frag} {hid' : List Addr} {o : Ob} {ho : HO} (g : Gr hid ρ H hid' ρ' H') (h : ObR K hid H ρ o ho) : ObR K hid' H' ρ' o ho := by
  cases o with
  | lst ds => obtain ⟨vs, e, r⟩ := h; exact ⟨vs, e, Rels.mono g _ _ r⟩
  | dK ks ds => obtain ⟨vs, e, l, r⟩ := h; exact ⟨vs, e, l, Rels.mono g _ _ r⟩
  | dT ks ds => obtain ⟨vs, e, l, r⟩ := h; exact ⟨vs, e, l, Rels.mono g _ _ r⟩
/-- a new object that is not the store's -/
theorem Nx.new {p : Addr} {o : HO} (M : Mt c hid ρ st H) (hp : H p = none) : Nx c hid ρ H ρ st (upd H p o) := by
  have np : ∀ a u, H a = some u → a ≠ p := fun a u e => ne_of_none e hp
  have g : Gr hid ρ H hid ρ (upd H p o) := ⟨fun _ _ e => e, M.chg, M.hs, fun a u e _ _ => by rw [upd_ne (np a u e)]; exact e, fun _ h n _ => absurd h n, fun _ h _ n => absurd h n⟩
  refine ⟨⟨M.len, M.nd, M.dis, fun a ha => ?_, fun n ob a h1 h2 => ?_, M.wf, fun p hp => ?_⟩, g, fun a ha => ?_⟩
  · obtain ⟨u, e, hc⟩ := M.hs a ha
    exact ⟨u, by rw [upd_ne (np a u e)]; exact e, hc⟩
  · obtain ⟨ho, e, r⟩ := M.ob n ob a h1 h2
    exact ⟨ho, by rw [upd_ne (np a ho e)]; exact e, r.mono g⟩
  · exact Rel.mono g _ _ (M.cs p hp)
  · obtain ⟨u, e, hc⟩ := M.hs a ha
    rw [upd_ne (np a u e)]
theorem Mt.fresh {p : Addr} (M : Mt c hid ρ st H) (hp : H p = none) : p ∉ ρ ∧ p ∉ hid := by
  refine ⟨fun hm => ?_, fun hm => ?_⟩
  · obtain ⟨o, e, _⟩ := M.chg p hm
    rw [hp] at e
    cases e
  · obtain ⟨o, e, _⟩ := M.hs p hm
    rw [hp] at e
    cases e
/-- a new object of the store -/
theorem Nx.push {p : Addr} {o : Ob} {ho : HO} (M : Mt c hid ρ st H) (hp : H p = none) (hc : Chg ho) (hr : ObR c.K hid H ρ o ho) : Nx c hid ρ H (ρ ++ [p]) (st ++ [o]) (upd H p ho) := by
  have np : ∀ a u, H a = some u → a ≠ p := fun a u e => ne_of_none e hp
  obtain ⟨n1, n2⟩ := M.fresh hp
  have g : Gr hid ρ H hid (ρ ++ [p]) (upd H p ho) := by
    refine ⟨fun n a e => ?_, M.chg, M.hs, fun a u e _ _ => by rw [upd_ne (np a u e)]; exact e, fun a h n _ => ?_, fun _ h _ n => absurd h n⟩
    · rw [List.getElem?_append_left (List.getElem?_eq_some_iff.mp e).1]; exact e
    · rcases List.mem_append.mp h with h | h
      · exact absurd h n
      · rw [List.mem_singleton.mp h]; exact hp
  refine ⟨⟨by rw [List.length_append, List.length_append, M.len]; rfl, ?_, fun a ha => ?_, fun a ha => ?_, fun n ob a h1 h2 => ?_, fun x hx => ?_, fun p hp => Rel.mono g _ _ (M.cs p hp)⟩, g, fun a ha => ?_⟩
  · rw [List.nodup_append]
    refine ⟨M.nd, by simp, fun a ha b hb => ?_⟩
    rw [List.mem_singleton.mp hb]
    intro e
    exact n1 (e ▸ ha)
  · rcases List.mem_append.mp ha with h | h
    · exact M.dis a h
    · rw [List.mem_singleton.mp h]; exact n2
  · obtain ⟨u, e, hc⟩ := M.hs a ha
    exact ⟨u, by rw [upd_ne (np a u e)]; exact e, hc⟩
  · by_cases hn : n < ρ.length
    · rw [List.getElem?_append_left hn] at h2
      rw [List.getElem?_append_left (by rw [← M.len]; exact hn)] at h1
      obtain ⟨hx, e, r⟩ := M.ob n ob a h1 h2
      exact ⟨hx, by rw [upd_ne (np a hx e)]; exact e, r.mono g⟩
    · rw [List.getElem?_append_right (by omega)] at h2
      rw [List.getElem?_append_right (by rw [← M.len]; omega), ← M.len] at h1
      by_cases hz : n - ρ.length = 0
      · rw [hz] at h1 h2
        have e1 : p = a := Option.some.inj h2
        have e2 : o = ob := Option.some.inj h1
        subst e1 e2
        exact ⟨ho, upd_same, hr.mono g⟩
      · rw [List.getElem?_eq_none (by simp; omega)] at h2
        cases h2
  · obtain ⟨h1, h2, h3⟩ := M.wf x hx
    refine ⟨h1, by rw [List.length_append]; omega, fun n ob hn e => h3 n ob hn ?_⟩
    rw [List.getElem?_append_left (by omega)] at e
    exact e
  · obtain ⟨u, e, hc⟩ := M.hs a ha
    rw [upd_ne (np a u e)]
/-- an object of the store is changed -/
theorem Nx.write {n : Nat} {a : Addr} {o : Ob} {ho : HO} (M : Mt c hid ρ st H) (hn : ρ[n]? = some a) (hc : Chg ho) (hr : ObR c.K hid H ρ o ho) (hw : ∀ x ∈ c.bs, n < x → o.lt x = true) : Nx c hid ρ H ρ (st.set n o) (upd H a ho) := by
  have ha : a ∈ ρ := List.mem_iff_getElem?.mpr ⟨n, hn⟩
  have hl : n < st.length := by
    rw [← M.len]
    exact (List.getElem?_eq_some_iff.mp hn).1
  have g : Gr hid ρ H hid ρ (upd H a ho) := ⟨fun _ _ e => e, M.chg, M.hs, fun b u e hb _ => by rw [upd_ne (fun z : b = a => hb (by rw [z]; exact ha))]; exact e, fun _ h n _ => absurd h n, fun _ h _ n => absurd h n⟩
  have nh : ∀ b ∈ hid, b ≠ a := fun b hb z => M.dis a ha (z ▸ hb)
  refine ⟨⟨by rw [List.length_set, M.len], M.nd, M.dis, fun b hb => ?_, fun m ob b h1 h2 => ?_, fun x hx => ?_, fun p hp => Rel.mono g _ _ (M.cs p hp)⟩, g, fun b hb => by rw [upd_ne (nh b hb)]⟩
  · rw [upd_ne (nh b hb)]
    exact M.hs b hb
  · by_cases hm : n = m
    · subst hm
      rw [List.getElem?_set_self hl] at h1
      rw [hn] at h2
      cases h1
      cases h2
      exact ⟨ho, upd_same, hr.mono g⟩
    · rw [List.getElem?_set_ne hm] at h1
      obtain ⟨hx, e, r⟩ := M.ob m ob b h1 h2
      have nb : b ≠ a := fun z => by
        subst z
        obtain ⟨l1, e1⟩ := List.getElem?_eq_some_iff.mp hn
        obtain ⟨l2, e2⟩ := List.getElem?_eq_some_iff.mp h2
        exact hm ((List.getElem_inj M.nd).mp (e1.trans e2.symm))
      exact ⟨hx, by rw [upd_ne nb]; exact e, r.mono g⟩
  · obtain ⟨h1, h2, h3⟩ := M.wf x hx
    refine ⟨h1, by rw [List.length_set]; exact h2, fun m ob hm e => ?_⟩
    by_cases hq : n = m
    · subst hq
      rw [List.getElem?_set_self hl] at e
      cases e
      exact hw x hx hm
    · rw [List.getElem?_set_ne hq] at e
      exact h3 m ob hm e
end

section
variable {c : Cc} {hid ρ ρ1 : List Addr} {st st1 : Stt} {H H1 : Hp} {p : Addr}
/-- a new object hidden -/
theorem Mt.hide {o : HO} (M : Mt c hid ρ st H) (hp : H p = none) (hc : Chg o) : Mt c (p :: hid) ρ st (upd H p o) ∧ Gr hid ρ H (p :: hid) ρ (upd H p o) := by
  have np : ∀ a u, H a = some u → a ≠ p := fun a u e => ne_of_none e hp
  have g : Gr hid ρ H (p :: hid) ρ (upd H p o) := ⟨fun _ _ e => e, M.chg, M.hs, fun a u e _ _ => by rw [upd_ne (np a u e)]; exact e, fun _ h n _ => absurd h n, fun a h _ n => (List.mem_cons.mp h).elim (fun e => e ▸ hp) fun h => absurd h n⟩
  refine ⟨⟨M.len, M.nd, fun a ha hm => ?_, fun a ha => ?_, fun n ob a h1 h2 => ?_, M.wf, fun q hq => Rel.mono g _ _ (M.cs q hq)⟩, g⟩
  · rcases List.mem_cons.mp hm with e | hm
    · exact (M.fresh hp).1 (e ▸ ha)
    · exact M.dis a ha hm
  · rcases List.mem_cons.mp ha with e | ha
    · rw [e]; exact ⟨o, upd_same, hc⟩
    · obtain ⟨u, e, hc⟩ := M.hs a ha
      exact ⟨u, by rw [upd_ne (np a u e)]; exact e, hc⟩
  · obtain ⟨ho, e, r⟩ := M.ob n ob a h1 h2
    exact ⟨ho, by rw [upd_ne (np a ho e)]; exact e, r.mono g⟩
/-- what is hidden is written -/
theorem Mt.wrote {o : HO} (M : Mt c hid ρ st H) (hp : p ∈ hid) (hc : Chg o) : Mt c hid ρ st (upd H p o) ∧ Gr hid ρ H hid ρ (upd H p o) := by
  have g : Gr hid ρ H hid ρ (upd H p o) := ⟨fun _ _ e => e, M.chg, M.hs, fun a u e _ nh => by rw [upd_ne (fun z : a = p => nh (z ▸ hp))]; exact e, fun _ h n _ => absurd h n, fun _ h _ n => absurd h n⟩
  refine ⟨⟨M.len, M.nd, M.dis, fun a ha => ?_, fun n ob a h1 h2 => ?_, M.wf, fun q hq => Rel.mono g _ _ (M.cs q hq)⟩, g⟩
  · by_cases e : a = p
    · rw [e]; exact ⟨o, upd_same, hc⟩
    · rw [upd_ne e]; exact M.hs a ha
  · obtain ⟨ho, e, r⟩ := M.ob n ob a h1 h2
    have na : a ≠ p := fun z => M.dis a (List.mem_iff_getElem?.mpr ⟨n, h2⟩) (z ▸ hp)
    exact ⟨ho, by rw [upd_ne na]; exact e, r.mono g⟩
/-- what was hidden comes forth as it is now -/
theorem Gr.show {o : HO} (M : Mt c (p :: hid) ρ st H) : Gr (p :: hid) ρ H hid ρ (upd H p o) :=
  ⟨fun _ _ e => e, M.chg, M.hs, fun a u e _ nh => by rw [upd_ne (fun z : a = p => nh (by rw [z]; exact List.mem_cons_self ..))]; exact e, fun _ h n _ => absurd h n, fun a h _ n => absurd (List.mem_cons_of_mem _ h) n⟩
theorem Mt.show {o : HO} (M : Mt c (p :: hid) ρ st H) (hc : Chg o) : Mt c hid ρ st (upd H p o) := by
  have g := Gr.show (o := o) M
  refine ⟨M.len, M.nd, fun a ha hm => M.dis a ha (List.mem_cons_of_mem _ hm), fun a ha => ?_, fun n ob a h1 h2 => ?_, M.wf, fun q hq => Rel.mono g _ _ (M.cs q hq)⟩
  · by_cases e : a = p
    · exact ⟨o, by rw [e]; exact upd_same, hc⟩
    · rw [upd_ne e]; exact M.hs a (List.mem_cons_of_mem _ ha)
  · obtain ⟨ho, e, r⟩ := M.ob n ob a h1 h2
    have na : a ≠ p := fun z => M.dis a (List.mem_iff_getElem?.mpr ⟨n, h2⟩) (by rw [z]; exact List.mem_cons_self ..)
    exact ⟨ho, by rw [upd_ne na]; exact e, r.mono g⟩
/-- .. as an object of the store -/
theorem Gr.adopt {o : HO} (M : Mt c (p :: hid) ρ st H) : Gr (p :: hid) ρ H hid (ρ ++ [p]) (upd H p o) := by
  refine ⟨fun n a e => ?_, M.chg, M.hs, fun a u e _ nh => by rw [upd_ne (fun z : a = p => nh (by rw [z]; exact List.mem_cons_self ..))]; exact e, fun a h n nh => ?_, fun a h _ n => absurd (List.mem_cons_of_mem _ h) n⟩
  · rw [List.getElem?_append_left (List.getElem?_eq_some_iff.mp e).1]; exact e
  · rcases List.mem_append.mp h with h | h
    · exact absurd h n
    · exact absurd (by rw [List.mem_singleton.mp h]; exact List.mem_cons_self ..) nh
theorem Mt.adopt {o : Ob} {ho : HO} (M : Mt c (p :: hid) ρ st H) (hp : p ∉ hid) (hc : Chg ho) (hr : ObR c.K (p :: hid) H ρ o ho) : Mt c hid (ρ ++ [p]) (st ++ [o]) (upd H p ho) := by
  have g := Gr.adopt (o := ho) M
  have np : p ∉ ρ := fun h => M.dis p h (List.mem_cons_self ..)
  refine ⟨by rw [List.length_append, List.length_append, M.len]; rfl, ?_, fun a ha => ?_, fun a ha => ?_, fun n ob a h1 h2 => ?_, fun x hx => ?_, fun q hq => Rel.mono g _ _ (M.cs q hq)⟩
  · rw [List.nodup_append]
    refine ⟨M.nd, by simp, fun a ha b hb => ?_⟩
    rw [List.mem_singleton.mp hb]
    intro e
    exact np (e ▸ ha)
  · rcases List.mem_append.mp ha with h | h
    · exact fun hm => M.dis a h (List.mem_cons_of_mem _ hm)
    · rw [List.mem_singleton.mp h]; exact hp
  · rw [upd_ne (fun z : a = p => hp (z ▸ ha))]
    exact M.hs a (List.mem_cons_of_mem _ ha)
  · by_cases hn : n < ρ.length
    · rw [List.getElem?_append_left hn] at h2
      rw [List.getElem?_append_left (by rw [← M.len]; exact hn)] at h1
      obtain ⟨hx, e, r⟩ := M.ob n ob a h1 h2
      have na : a ≠ p := fun z => np (z ▸ List.mem_iff_getElem?.mpr ⟨n, h2⟩)
      exact ⟨hx, by rw [upd_ne na]; exact e, r.mono g⟩
    · rw [List.getElem?_append_right (by omega)] at h2
      rw [List.getElem?_append_right (by rw [← M.len]; omega), ← M.len] at h1
      by_cases hz : n - ρ.length = 0
      · rw [hz] at h1 h2
        have e1 : p = a := Option.some.inj h2
        have e2 : o = ob := Option.some.inj h1
        subst e1 e2
        exact ⟨ho, upd_same, hr.mono g⟩
      · rw [List.getElem?_eq_none (by simp; omega)] at h2
        cases h2
  · obtain ⟨h1, h2, h3⟩ := M.wf x hx
    refine ⟨h1, by rw [List.length_append]; omega, fun n ob hn e => h3 n ob hn ?_⟩
    rw [List.getElem?_append_left (by omega)] at e
    exact e
theorem hid_keep {o : HO} (M : Mt c hid ρ st H) (hp : H p = none) {H2 : Hp} (hk : ∀ a ∈ p :: hid, H2 a = (upd H p o) a) {ho : HO} : ∀ a ∈ hid, (upd H2 p ho) a = H a := fun a ha => by
  have na : a ≠ p := fun z => (M.fresh hp).2 (z ▸ ha)
  rw [upd_ne na, hk a (List.mem_cons_of_mem _ ha), upd_ne na]
theorem upd_id {H : Hp} {p : Addr} {o : HO} (h : H p = some o) : upd H p o = H := by
  funext a
  by_cases e : a = p
  · rw [e, upd_same, h]
  · rw [upd_ne e]
theorem Nx.unhid {o : HO} {ρ0 : List Addr} {st0 : Stt} {H0 : Hp} (M0 : Mt c hid ρ0 st0 H0) (hp : H0 p = none) (hc : Chg o) (N : Nx c (p :: hid) ρ0 (upd H0 p o) ρ st H) : Nx c hid ρ0 H0 ρ st H ∧ Gr (p :: hid) ρ H hid ρ H := by
  obtain ⟨u, e, hu⟩ := N.mt.hs p (List.mem_cons_self ..)
  have e2 := upd_id e
  have g := Gr.show (o := u) N.mt
  have M := N.mt.show hu
  have hk := hid_keep M0 hp (o := o) (H2 := H) (fun a ha => N.hk a ha) (ho := u)
  rw [e2] at g M hk
  exact ⟨⟨M, ((M0.hide hp hc).2.trans N.gr).trans g, hk⟩, g⟩
end

/-! ### readings -/
/-- what the evaluator ends with, as a wish -/
def Post {α β : Type} (c : Cc) (hid : List Addr) (W : WX) (σ : L2.St) (ρ : List Addr) (H : Hp) (r : R α) (rel : Hp → List Addr → α → β → Prop) (Q : β → Hp → Prop) : Prop := match r with
  | .ok d st' => ∀ v H' ρ', Nx c hid ρ H ρ' st' H' → rel H' ρ' d v → Q v H'
  | .ex e d st' => ∀ v H' ρ' dd, Nx c hid ρ H ρ' st' H' → H' dd = some (.xd [("value", v)]) → Rel c.K hid H' ρ' d v → W (.ref (c.cls e)) (some dd) σ H'
  | .no => False
abbrev rl (c : Cc) (hid : List Addr) : Hp → List Addr → D → V → Prop := fun H ρ d v => Rel c.K hid H ρ d v
abbrev rls (c : Cc) (hid : List Addr) : Hp → List Addr → List D → List V → Prop := fun H ρ d v => Rels c.K hid H ρ d v
abbrev rq {α : Type} : Hp → List Addr → α → α → Prop := fun _ _ x y => y = x
section
variable {α β γ δ : Type} {c : Cc} {hid : List Addr} {W : WX} {σ : L2.St} {ρ : List Addr} {H : Hp} {r : R α} {f : α → Stt → R γ} {rel : Hp → List Addr → α → β → Prop} {rel2 : Hp → List Addr → γ → δ → Prop} {Q Q' : β → Hp → Prop} {Q2 : δ → Hp → Prop}
theorem Post.imp (h : Post c hid W σ ρ H r rel Q) (hq : ∀ v H', Q v H' → Q' v H') : Post c hid W σ ρ H r rel Q' := by
  cases r with
  | ok d st => exact fun v H' ρ' n q => hq _ _ (h v H' ρ' n q)
  | ex e d st => exact h
  | no => exact h
theorem Post.bind (h : Post c hid W σ ρ H (r.bind f) rel2 Q2) : Post c hid W σ ρ H r rel (fun v H1 => ∃ d st1 ρ1, Nx c hid ρ H ρ1 st1 H1 ∧ rel H1 ρ1 d v ∧ Post c hid W σ ρ1 H1 (f d st1) rel2 Q2) := by
  cases r with
  | ok d st =>
    intro v H1 ρ1 N q
    refine ⟨d, st, ρ1, N, q, ?_⟩
    have h' : Post c hid W σ ρ H (f d st) rel2 Q2 := h
    cases e : f d st with
    | ok x s2 => rw [e] at h'; exact fun w H2 ρ2 n2 q2 => h' w H2 ρ2 (N.trans n2) q2
    | ex x y s2 => rw [e] at h'; exact fun w H2 ρ2 dd n2 q2 q3 => h' w H2 ρ2 dd (N.trans n2) q2 q3
    | no => rw [e] at h'; exact h'
  | ex e d st => exact h
  | no => exact h
/-- the same with a new object hidden meanwhile -/
theorem Post.hide {p : Addr} {o : HO} {st0 : Stt} {rel1 : Hp → List Addr → α → β → Prop} (M : Mt c hid ρ st0 H) (hp : H p = none) (hc : Chg o) (h : Post c hid W σ ρ H (r.bind f) rel2 Q2) :
    Post c (p :: hid) W σ ρ (upd H p o) r rel1 (fun v H1 => ∃ d st1 ρ1, r = .ok d st1 ∧ Nx c (p :: hid) ρ (upd H p o) ρ1 st1 H1 ∧ rel1 H1 ρ1 d v ∧ Post c hid W σ ρ H (f d st1) rel2 Q2) := by
  cases r with
  | ok d st => exact fun v H1 ρ1 N q => ⟨d, st, ρ1, rfl, N, q, h⟩
  | ex e d st =>
    intro v H1 ρ1 dd N q1 q2
    obtain ⟨N2, g2⟩ := Nx.unhid M hp hc N
    exact h v H1 ρ1 dd N2 q1 (Rel.mono g2 _ _ q2)
  | no => exact h
theorem Post.ok {d : α} {st : Stt} {v : β} (h : Post c hid W σ ρ H (.ok d st) rel Q) (M : Mt c hid ρ st H) (q : rel H ρ d v) : Q v H := h v H ρ (Nx.refl M) q
end
def T (c : Cc) (W : WX) (m : Env → Stt → R D) : TE := fun σ H Q => ∃ hid env st ρ, Mt c hid ρ st H ∧ EnvR c hid H ρ env σ ∧ Post c hid W σ ρ H (m env st) (rl c hid) Q
def Ts (c : Cc) (W : WX) (m : Env → Stt → R (List D)) : TA := fun σ H Q => ∃ hid env st ρ, Mt c hid ρ st H ∧ EnvR c hid H ρ env σ ∧ Post c hid W σ ρ H (m env st) (rls c hid) Q
def Tt (c : Cc) (W : WX) (m : Env → Stt → R Bool) : TT := fun σ H Q => ∃ hid env st ρ, Mt c hid ρ st H ∧ EnvR c hid H ρ env σ ∧ Post c hid W σ ρ H (m env st) rq Q
def To (c : Cc) (W : WX) (m : Env → Stt → R (Option Int)) : TO := fun σ H Q => ∃ hid env st ρ, Mt c hid ρ st H ∧ EnvR c hid H ρ env σ ∧ Post c hid W σ ρ H (m env st) rq Q
def PostS (c : Cc) (hid : List Addr) (W : WX) (ρ : List Addr) (H : Hp) (o : O) (Dd : Ends) : Prop := match o with
  | .nx env st => ∀ σ' H' ρ', Nx c hid ρ H ρ' st H' → EnvR c hid H' ρ' env σ' → Dd.nx σ' H'
  | .bk env st => ∀ σ' H' ρ', Nx c hid ρ H ρ' st H' → EnvR c hid H' ρ' env σ' → Dd.bk σ' H'
  | .ct env st => ∀ σ' H' ρ', Nx c hid ρ H ρ' st H' → EnvR c hid H' ρ' env σ' → Dd.ct σ' H'
  | .rt d st => ∀ v H' ρ', Nx c hid ρ H ρ' st H' → Rel c.K hid H' ρ' d v → Dd.rt v H'
  | .ex e d env st => ∀ σ' v H' ρ' dd, Nx c hid ρ H ρ' st H' → EnvR c hid H' ρ' env σ' → H' dd = some (.xd [("value", v)]) → Rel c.K hid H' ρ' d v → W (.ref (c.cls e)) (some dd) σ' H'
  | .no => False
def TS' (c : Cc) (W : WX) (m : Env → Stt → O) : TS := fun Dd σ H => ∃ hid env st ρ, Mt c hid ρ st H ∧ EnvR c hid H ρ env σ ∧ PostS c hid W ρ H (m env st) Dd
end Y
/-! Y3: operations on values. -/
namespace Y
open PySem PySem.Spec PyProof.Rows L2

theorem sz_eq : sz = sizeLine := by rw [sizeLine_eq]; rfl
theorem OpR.or {X : Cx} {f : Value → Value → Sem Value} {r r' : R2} (h : OpR X f r) (h' : OpR X f r') : OpR X f (fun x y H Q => r x y H Q ∨ r' x y H Q) := by
  intro pins s σ H x y v u Q I rx ry q
  rcases q with q | q
  · exact h pins s σ H x y v u Q I rx ry q
  · exact h' pins s σ H x y v u Q I rx ry q
theorem CallR.or {X : Cx} {f : Value} {r r' : List V → Hp → VK → Prop} (h : CallR X f r) (h' : CallR X f r') : CallR X f (fun x H Q => r x H Q ∨ r' x H Q) := by
  intro pins s σ H x v Q I rx hq
  rcases hq with hq | hq
  · exact h pins s σ H x v Q I rx hq
  · exact h' pins s σ H x v Q I rx hq

section
variable {c : Cc} {hid : List Addr} {W : WX} {σ : L2.St} {ρ : List Addr} {st : Stt} {H : Hp} {Q : VK}
theorem lst_of (M : Mt c hid ρ st H) {d : D} {ds : List D} {v : V} (h : lstOf st d = some ds) (r : Rel c.K hid H ρ d v) : ∃ a vs, v = .ref a ∧ Rd H a (.lst vs) ∧ Rels c.K hid H ρ ds vs := by
  cases d with
  | lst xs =>
    obtain ⟨a, vs, e, f, q⟩ := r
    cases h
    exact ⟨a, vs, e, f.1, q⟩
  | ref n =>
    obtain ⟨a, e, q⟩ := r
    have h' : (match st[n]? with
      | some (.lst xs) => some xs
      | _ => none) = some ds := h
    cases e2 : st[n]? with
    | none => rw [e2] at h'; cases h'
    | some o =>
      rw [e2] at h'
      cases o with
      | lst xs =>
        cases h'
        obtain ⟨ho, e3, vs, e4, r4⟩ := M.ob n _ a e2 q
        subst e4
        exact ⟨a, vs, e, .inl e3, r4⟩
      | dK _ _ => cases h'
      | dT _ _ => cases h'
  | _ => cases h
theorem seq_of (M : Mt c hid ρ st H) {d : D} {ds : List D} {v : V} (h : seqOf st d = some ds) (r : Rel c.K hid H ρ d v) : ∃ a vs, v = .ref a ∧ (SqL c.K H a vs ∨ SqT c.K H a vs) ∧ Rels c.K hid H ρ ds vs := by
  cases d with
  | tup xs =>
    obtain ⟨a, vs, e, f, q⟩ := r
    cases h
    exact ⟨a, vs, e, .inr (.inl (.inl f)), q⟩
  | ct xs =>
    obtain ⟨a, vs, e, f, q⟩ := r
    cases h
    exact ⟨a, vs, e, .inr (.inr f), q⟩
  | rd xs =>
    obtain ⟨a, vs, e, f, q⟩ := r
    cases h
    rcases f with f | f
    · exact ⟨a, vs, e, .inl (.inl f.1), q⟩
    · exact ⟨a, vs, e, .inl (.inr f), q⟩
  | lst xs =>
    obtain ⟨a, vs, e, f, q⟩ := lst_of M (d := .lst xs) (ds := xs) rfl r
    cases h
    exact ⟨a, vs, e, .inl (.inl f), q⟩
  | ref n =>
    obtain ⟨a, vs, e, f, q⟩ := lst_of M (d := .ref n) (ds := ds) h r
    exact ⟨a, vs, e, .inl (.inl f), q⟩
  | _ => cases h
theorem newT_post {ds : List D} {vs : List V} (h : Post c hid W σ ρ H (.ok (.tup ds) st) (rl c hid) Q) (M : Mt c hid ρ st H) (r : Rels c.K hid H ρ ds vs) : ∀ p, H p = none → Q (.ref p) (upd H p (.tup vs)) := fun p hp =>
  h _ _ ρ (Nx.new M hp) ⟨p, vs, rfl, upd_same, Rels.mono (Nx.new (o := .tup vs) M hp).gr _ _ r⟩
theorem newF_post {ds : List D} {vs : List V} (h : Post c hid W σ ρ H (.ok (.lst ds) st) (rl c hid) Q) (M : Mt c hid ρ st H) (r : Rels c.K hid H ρ ds vs) : ∀ p, H p = none → Q (.ref p) (upd H p (.lst vs)) := fun p hp =>
  h _ _ ρ (Nx.new M hp) ⟨p, vs, rfl, ⟨.inl upd_same, (M.fresh hp).1, (M.fresh hp).2⟩, Rels.mono (Nx.new (o := .lst vs) M hp).gr _ _ r⟩
theorem at_new {ρ : List Addr} {st : Stt} {p : Addr} (h : ρ.length = st.length) : (ρ ++ [p])[st.length]? = some p := by
  rw [← h, List.getElem?_append_right (Nat.le_refl _), Nat.sub_self]
  rfl
theorem newL_post {m : Bool} {ds : List D} {vs : List V} (h : Post c hid W σ ρ H (newL m ds st) (rl c hid) Q) (M : Mt c hid ρ st H) (r : Rels c.K hid H ρ ds vs) : ∀ p, H p = none → Q (.ref p) (upd H p (.lst vs)) := by
  cases m with
  | false => exact newF_post h M r
  | true => exact fun p hp => h _ _ (ρ ++ [p]) (Nx.push M hp (o := .lst ds) trivial ⟨vs, rfl, r⟩) ⟨p, rfl, at_new M.len⟩

/-! ### binary operators -/
def rCatR : R2 := fun x y H Q => ∃ l b xs zs, x = .ref l ∧ y = .ref b ∧ Rd H l (.lst xs) ∧ Rd H b (.lst zs) ∧ xs.length + zs.length ≤ sizeLine ∧ ∀ p, H p = none → Q (.ref p) (upd H p (.lst (xs ++ zs)))
theorem rd_list {X : Cx} {pins : List (Addr × Obj)} {σ : L2.St} {s : Shared} {l : Addr} {xs : List V} (I : Inv X pins σ H s) (h : Rd H l (.lst xs)) :
    ∃ (its : List Value) (n : Nat), Vals xs its ∧ xs.length = its.length ∧ s.heap.get? l = some { cls := .type "list", data := .seq its.toArray n } := by
  obtain ⟨z, its, n, r, e⟩ := h.ok I.hok
  exact ⟨its, n, r, r.length, e⟩
theorem op_catR {X : Cx} : OpR X (binaryOp .Add) rCatR := by
  intro pins s σ H x y v u Q I rx ry h
  obtain ⟨l, b, xs, zs, rfl, rfl, hH, hB, hz, q⟩ := h
  cases rx
  cases ry
  obtain ⟨its, n, r, hl, e⟩ := rd_list I hH
  obtain ⟨its2, n2, r2, hl2, e2⟩ := rd_list I hB
  refine PySem.P.add_list e e2 ?_ (by rw [List.size_toArray, List.size_toArray]; omega)
  have ea : its.toArray ++ its2.toArray = (its ++ its2).toArray := by simp
  rw [ea]
  exact ⟨.ref _, _, I.lnew (t' := s.toks) (r.append r2) (by rw [List.length_append]; omega), rfl, q _ I.fresh⟩
def rRepR : R2 := fun x y H Q => ∃ l k xs, x = .ref l ∧ y = .int k ∧ Rd H l (.lst xs) ∧ -(2 ^ 63) ≤ k ∧ k < 2 ^ 63 ∧ xs.length * k.toNat ≤ sizeLine ∧
  ∀ p, H p = none → Q (.ref p) (upd H p (.lst (List.replicate k.toNat xs).flatten))
theorem op_repR {X : Cx} : OpR X (binaryOp .Mult) rRepR := by
  intro pins s σ H x y v u Q I rx ry h
  obtain ⟨l, k, xs, rfl, rfl, hH, h1, h2, hz, q⟩ := h
  cases rx
  obtain ⟨t, rfl⟩ := ry
  obtain ⟨its, n, r, hl, e⟩ := rd_list I hH
  have hlen : its.toArray.size * k.toNat ≤ sizeLine := by rw [List.size_toArray, ← hl]; exact hz
  have hcap : ¬ its.toArray.size * k.toNat > (2 ^ 63 - 1) / 8 := by
    have : (sizeLine : Nat) ≤ (2 ^ 63 - 1) / 8 := by decide
    omega
  have hfit : ¬ (!Builtin.List.listFitsIndex k) = true := by
    rw [fitsIndex_both h1 h2]
    exact Bool.false_ne_true
  have hlong : ¬ Builtin.List.listTooLong (its.toArray.size * k.toNat) = true := by
    rw [notLongL hlen]
    exact Bool.false_ne_true
  have hnew : List.foldl (fun x1 x2 => x1 ++ x2) #[] (List.replicate (if its.toArray.isEmpty = true then 0 else k.toNat) its.toArray) = (List.replicate k.toNat its).flatten.toArray := by
    have f0 : ∀ m : Nat, List.foldl (fun x1 x2 => x1 ++ x2) #[] (List.replicate m its.toArray) = (List.replicate m its).flatten.toArray := fun m => by
      have := foldl_rep its m []
      rw [List.nil_append] at this
      exact this
    rw [f0]
    cases its with
    | nil => simp
    | cons a r' => rw [if_neg (by simp)]
  refine wpAny_binaryOp_repeat_ref (T := "list") (U := "int") (by decide) ⟨_, e, rfl⟩ (fun s' => typeIs_int s' k t) noFill_list_mul F.fills_int_mul F.slot_int_rmul repeat_list F.slot_int_index.lookup
    (call_meets F.slot_int_rmul (typeIs_int s k t) F.entry_int_rmul (F.args_int_rmul_2 _ _) (int___rmul___int_list k t l its.toArray n)
      ⟨e, rfl, ⟨_, e, rfl⟩, call_meets F.slot_list_mul ⟨_, e, rfl⟩ F.entry_list_mul (F.args_list_mul_2 _ _) (AutoListH.list___mul___list_int_3 l its.toArray n k t hfit hcap hlong) ⟨e, ?_⟩⟩)
  rw [hnew]
  exact ⟨.ref _, _, I.lnew (t' := s.toks) (r.rep k.toNat) (by rw [PyProof.Rows.lm_len_rep_flat, Nat.mul_comm]; exact hz), rfl, q _ I.fresh⟩

def rAdd' (K : PySem.W.Frag) : R2 := fun x y H Q => ((rI0 fun i j => .int (i + j)) x y H Q ∨ (∃ i j, x = .str i ∧ y = .str j ∧ i.length + j.length ≤ sizeLine ∧ Q (.str (i ++ j)) H)) ∨ (rCatA K x y H Q ∨ rCatR x y H Q)
theorem op_add' {X : Cx} : OpR X (binaryOp .Add) (rAdd' X.K) := OpR.or (OpR.or op_add op_add_str) (OpR.or op_catA op_catR)
def rMul' (K : PySem.W.Frag) : R2 := fun x y H Q => ((rI CMul (fun i j => .int (i * j)) x y H Q ∨ rI CMulW (fun i j => .int (i * j)) x y H Q) ∨ rRepR x y H Q) ∨ ((rRepT K x y H Q ∨ rRepN K x y H Q) ∨ rRep1 K x y H Q)
theorem op_mul' {X : Cx} : OpR X (binaryOp .Mult) (rMul' X.K) := OpR.or (OpR.or (OpR.or op_mul op_mulW) op_repR) (OpR.or (OpR.or op_repT op_repN) op_rep1)
def opOf : BOp → Operator
  | .add => .Add | .sub => .Sub | .mul => .Mult | .fdiv => .FloorDiv | .mod => .Mod | .pow => .Pow
def rBin (K : PySem.W.Frag) : BOp → R2
  | .add => rAdd' K
  | .sub => rI0 fun i j => .int (i - j)
  | .mul => rMul' K
  | .fdiv => rI CDivW fun i j => .int (i / j)
  | .mod => rI (fun _ j => 0 < j) fun i j => .int (i % j)
  | .pow => rI CPow fun i j => .int (i ^ j.toNat)
theorem op_bin {X : Cx} : ∀ o : BOp, OpR X (binaryOp (opOf o)) (rBin X.K o)
  | .add => op_add'
  | .sub => op_sub
  | .mul => op_mul'
  | .fdiv => op_fdivW
  | .mod => op_mod
  | .pow => op_pow
theorem post_if {α β : Type} {b : Bool} {r : R α} {rel : Hp → List Addr → α → β → Prop} {Q : β → Hp → Prop} (h : Post c hid W σ ρ H (if b = true then r else .no) rel Q) : b = true ∧ Post c hid W σ ρ H r rel Q := by
  cases b with
  | true => exact ⟨rfl, h⟩
  | false => exact h.elim
theorem post_ifP {α β : Type} {p : Prop} [Decidable p] {r : R α} {rel : Hp → List Addr → α → β → Prop} {Q : β → Hp → Prop} (h : Post c hid W σ ρ H (if p then r else .no) rel Q) : p ∧ Post c hid W σ ρ H r rel Q := by
  by_cases hp : p
  · rw [if_pos hp] at h; exact ⟨hp, h⟩
  · rw [if_neg hp] at h; exact h.elim
theorem bin_cat {m : Bool} {d e : D} {v w : V} (M : Mt c hid ρ st H) (rd : Rel c.K hid H ρ d v) (re : Rel c.K hid H ρ e w)
    (h : Post c hid W σ ρ H (match lstOf st d, lstOf st e with
      | some xs, some ys => if xs.length + ys.length ≤ sz then newL m (xs ++ ys) st else .no
      | _, _ => .no) (rl c hid) Q) : rCatR v w H Q := by
  cases e1 : lstOf st d with
  | none => rw [e1] at h; exact h.elim
  | some xs =>
    cases e2 : lstOf st e with
    | none => rw [e1, e2] at h; exact h.elim
    | some ys =>
      rw [e1, e2] at h
      obtain ⟨hz, h'⟩ := post_ifP (p := xs.length + ys.length ≤ sz) h
      obtain ⟨a, vs, ea, fa, qa⟩ := lst_of M e1 rd
      obtain ⟨b, ws, eb, fb, qb⟩ := lst_of M e2 re
      exact ⟨a, b, vs, ws, ea, eb, fa, fb, by rw [← qa.len, ← qb.len, ← sz_eq]; exact hz, newL_post h' M (qa.app qb)⟩
theorem bin_rep {m : Bool} {d : D} {j : Int} {v : V} (M : Mt c hid ρ st H) (rd : Rel c.K hid H ρ d v)
    (h : Post c hid W σ ρ H (match lstOf st d with
      | some xs => if decide (-(2 ^ 63) ≤ j) && decide (j < 2 ^ 63) && decide (xs.length * j.toNat ≤ sz) then newL m (List.replicate j.toNat xs).flatten st else .no
      | none => .no) (rl c hid) Q) : rRepR v (.int j) H Q := by
  cases e1 : lstOf st d with
  | none => rw [e1] at h; exact h.elim
  | some xs =>
    rw [e1] at h
    obtain ⟨hz, h'⟩ := post_if h
    simp only [Bool.and_eq_true, decide_eq_true_eq] at hz
    obtain ⟨a, vs, ea, fa, qa⟩ := lst_of M e1 rd
    exact ⟨a, j, vs, ea, rfl, fa, hz.1.1, hz.1.2, by rw [← qa.len, ← sz_eq]; exact hz.2, newL_post h' M (qa.rep _)⟩
theorem ok_int {i : Int} (h : Post c hid W σ ρ H (.ok (.int i) st) (rl c hid) Q) (M : Mt c hid ρ st H) : Q (.int i) H := h.ok M rfl
theorem bin_spec {m : Bool} {d e : D} {v w : V} (o : BOp) (M : Mt c hid ρ st H) (rd : Rel c.K hid H ρ d v) (re : Rel c.K hid H ρ e w) (h : Post c hid W σ ρ H (binD o m d e st) (rl c hid) Q) : rBin c.K o v w H Q := by
  cases o with
  | add =>
    cases d with
    | int i =>
      cases e with
      | int j => exact .inl (.inl ⟨i, j, rd, re, ok_int h M⟩)
      | _ => exact .inr (.inr (bin_cat (m := m) M rd re h))
    | str a =>
      cases e with
      | str b =>
        obtain ⟨hz, h'⟩ := post_ifP (p := a.length + b.length ≤ sz) h
        exact .inl (.inr ⟨a, b, rd, re, by rw [← sz_eq]; exact hz, h'.ok M rfl⟩)
      | _ => exact .inr (.inr (bin_cat (m := m) M rd re h))
    | tup a =>
      cases e with
      | tup b =>
        obtain ⟨hz, h'⟩ := post_ifP (p := a.length + b.length ≤ sz) h
        obtain ⟨p, vs, e1, f1, q1⟩ := rd
        obtain ⟨p2, ws, e2, f2, q2⟩ := re
        refine .inr (.inl ⟨p, p2, vs, ws, e1, e2, .inl (.inl f1), .inl (.inl f2), by rw [← q1.len, ← q2.len, ← sz_eq]; exact hz, fun ez => ?_, fun _ ez => ?_, fun _ _ => newT_post h' M (q1.app q2)⟩)
        · subst ez
          have l := q1.len
          have ea : a = [] := List.eq_nil_of_length_eq_zero l
          subst ea
          exact h'.ok M ⟨p2, ws, rfl, f2, q2⟩
        · subst ez
          have l := q2.len
          have ea : b = [] := List.eq_nil_of_length_eq_zero l
          subst ea
          rw [List.append_nil] at h'
          exact h'.ok M ⟨p, vs, rfl, f1, q1⟩
      | _ => exact .inr (.inr (bin_cat (m := m) M rd re h))
    | _ => exact .inr (.inr (bin_cat (m := m) M rd re h))
  | sub =>
    cases d with
    | int i =>
      cases e with
      | int j => exact ⟨i, j, rd, re, ok_int h M⟩
      | _ => exact h.elim
    | _ => exact h.elim
  | mul =>
    cases e with
    | int j =>
      cases re
      cases d with
      | int i =>
        obtain ⟨hz, h'⟩ := post_if (b := mulOk i j) h
        unfold mulOk at hz
        simp only [Bool.or_eq_true, decide_eq_true_eq] at hz
        rcases hz with (hz | hz) | hz
        · exact .inl (.inl (.inl ⟨i, j, rd, rfl, .inl ⟨by omega, by omega⟩, ok_int h' M⟩))
        · exact .inl (.inl (.inl ⟨i, j, rd, rfl, .inr ⟨by omega, by omega⟩, ok_int h' M⟩))
        · exact .inl (.inl (.inr ⟨i, j, rd, rfl, hz, ok_int h' M⟩))
      | tup a =>
        obtain ⟨p, vs, ev, f, q⟩ := rd
        simp only [binD] at h
        by_cases h1 : j = 1
        · subst h1
          rw [if_pos rfl] at h
          exact .inr (.inr ⟨p, vs, ev, rfl, .inl (.inl f), h.ok M ⟨p, vs, rfl, f, q⟩⟩)
        · rw [if_neg h1] at h
          by_cases h2 : a.isEmpty = true
          · rw [if_pos h2] at h; exact h.elim
          · rw [if_neg h2] at h
            have hne : vs ≠ [] := fun z => by
              have := q.len
              rw [z] at this
              have e := List.eq_nil_of_length_eq_zero this
              exact h2 (by rw [e]; rfl)
            by_cases h3 : j ≤ 0
            · rw [if_pos h3] at h
              obtain ⟨h4, h5⟩ := post_ifP (p := -(2 ^ 63) ≤ j) h
              exact .inr (.inl (.inr ⟨p, j, vs, ev, rfl, .inl (.inl f), h3, h4, hne, newT_post h5 M rfl⟩))
            · rw [if_neg h3] at h
              obtain ⟨h4, h5⟩ := post_ifP (p := j ≤ 1000 ∧ a.length ≤ 1000) h
              exact .inr (.inl (.inl ⟨p, j, vs, ev, rfl, .inl (.inl f), hne, by omega, h4.1, by rw [← q.len]; exact h4.2, newT_post h5 M (q.rep _)⟩))
      | _ => exact .inl (.inr (bin_rep (m := m) M rd h))
    | _ => cases d <;> exact h.elim
  | fdiv =>
    cases d with
    | int i =>
      cases e with
      | int j =>
        obtain ⟨hz, h'⟩ := post_if (b := divOk i j) h
        unfold divOk at hz
        simp only [Bool.and_eq_true, decide_eq_true_eq] at hz
        exact ⟨i, j, rd, re, hz, ok_int h' M⟩
      | _ => exact h.elim
    | _ => exact h.elim
  | mod =>
    cases d with
    | int i =>
      cases e with
      | int j =>
        obtain ⟨hz, h'⟩ := post_ifP (p := 0 < j) h
        exact ⟨i, j, rd, re, hz, ok_int h' M⟩
      | _ => exact h.elim
    | _ => exact h.elim
  | pow =>
    cases d with
    | int i =>
      cases e with
      | int j =>
        obtain ⟨hz, h'⟩ := post_if (b := powOk i j) h
        unfold powOk at hz
        simp only [Bool.and_eq_true, decide_eq_true_eq] at hz
        exact ⟨i, j, rd, re, ⟨hz.1.1, hz.1.2, hz.2⟩, ok_int h' M⟩
      | _ => exact h.elim
    | _ => exact h.elim
end
end Y
/-! Y4: comparisons, subscripts, built-ins, methods, truth. -/
namespace Y
open PySem PySem.Spec PyProof.Rows L2

section
variable {c : Cc} {hid : List Addr} {W : WX} {σ : L2.St} {ρ : List Addr} {st : Stt} {H : Hp} {Q : VK}

/-! ### plain data -/
mutual
theorem dpW (f : Nat → Option PyData) (M : Mt c hid ρ st H) (hf : ∀ n p v, f n = some p → Rel c.K hid H ρ (.ref n) v → Dp c.K H v p) : ∀ (d : D) (p : PyData) (v : V), pyW f d = some p → Rel c.K hid H ρ d v → Dp c.K H v p
  | .non, p, v, h, r => by
    cases h
    cases r
    exact .non
  | .bl b, p, v, h, r => by
    cases h
    cases r
    exact .bl b
  | .int i, p, v, h, r => by
    cases h
    cases r
    exact .int i
  | .str x, p, v, h, r => by
    cases h
    cases r
    exact .str x
  | .tup ds, p, v, h, r => by
    obtain ⟨q, hq, e⟩ := Option.map_eq_some_iff.mp (show (pyWL f ds).map PyData.tuple = some p from h)
    subst e
    obtain ⟨a, vs, e, s, rs⟩ := r
    subst e
    exact .tup (.inl (.inl s)) (dpWL f M hf ds q vs hq rs)
  | .ct ds, p, v, h, r => by
    obtain ⟨q, hq, e⟩ := Option.map_eq_some_iff.mp (show (pyWL f ds).map PyData.tuple = some p from h)
    subst e
    obtain ⟨a, vs, e, s, rs⟩ := r
    subst e
    exact .tup (.inr s) (dpWL f M hf ds q vs hq rs)
  | .lst ds, p, v, h, r => by
    obtain ⟨q, hq, e⟩ := Option.map_eq_some_iff.mp (show (pyWL f ds).map PyData.list = some p from h)
    subst e
    obtain ⟨a, vs, e, s, rs⟩ := r
    subst e
    exact .lst (.inl s.1) (dpWL f M hf ds q vs hq rs)
  | .rd ds, p, v, h, r => by
    obtain ⟨q, hq, e⟩ := Option.map_eq_some_iff.mp (show (pyWL f ds).map PyData.list = some p from h)
    subst e
    obtain ⟨a, vs, e, s, rs⟩ := r
    subst e
    exact .lst (s.elim (fun s => .inl s.1) .inr) (dpWL f M hf ds q vs hq rs)
  | .ref n, p, v, h, r => hf n p v h r
  | .dK _ _, p, v, h, r => by cases h
  | .dT _ _, p, v, h, r => by cases h
  | .exn _ _, p, v, h, r => by cases h
theorem dpWL (f : Nat → Option PyData) (M : Mt c hid ρ st H) (hf : ∀ n p v, f n = some p → Rel c.K hid H ρ (.ref n) v → Dp c.K H v p) : ∀ (ds : List D) (ps : List PyData) (vs : List V), pyWL f ds = some ps → Rels c.K hid H ρ ds vs → DpAll c.K H vs ps
  | [], ps, vs, h, r => by
    cases h
    cases r
    exact .nil
  | d :: ds, ps, vs, h, r => by
    obtain ⟨v, r', e, h1, h2⟩ := r
    subst e
    have h' : (match pyW f d with
      | none => none
      | some e => match pyWL f ds with
        | none => none
        | some es => some (e :: es)) = some ps := h
    cases e1 : pyW f d with
    | none => rw [e1] at h'; cases h'
    | some q =>
      cases e2 : pyWL f ds with
      | none => rw [e1, e2] at h'; cases h'
      | some qs =>
        rw [e1, e2] at h'
        cases h'
        exact .cons (dpW f M hf d q v e1 h1) (dpWL f M hf ds qs r' e2 h2)
end
theorem dpR (M : Mt c hid ρ st H) : ∀ (k : Nat) (n : Nat) (p : PyData) (v : V), pyR st k n = some p → Rel c.K hid H ρ (.ref n) v → Dp c.K H v p
  | 0, n, p, v, h, _ => by cases h
  | k + 1, n, p, v, h, r => by
    obtain ⟨a, e, q⟩ := r
    subst e
    have h' : (match st[n]? with
      | some (.lst xs) => (pyWL (pyR st k) xs).map .list
      | _ => none) = some p := h
    cases e2 : st[n]? with
    | none => rw [e2] at h'; cases h'
    | some o =>
      rw [e2] at h'
      cases o with
      | lst xs =>
        obtain ⟨ps, hq, e⟩ := Option.map_eq_some_iff.mp (show (pyWL (pyR st k) xs).map PyData.list = some p from h')
        subst e
        obtain ⟨ho, e3, vs, e4, r4⟩ := M.ob n _ a e2 q
        subst e4
        exact .lst (.inl (.inl e3)) (dpWL _ M (fun n p v => dpR M k n p v) xs ps vs hq r4)
      | dK _ _ => cases h'
      | dT _ _ => cases h'
theorem dp_of (M : Mt c hid ρ st H) {d : D} {p : PyData} {v : V} (h : py st d = some p) (r : Rel c.K hid H ρ d v) : Dp c.K H v p := dpW _ M (fun n p v => dpR M 6 n p v) d p v h r

/-! ### comparisons -/
theorem flat_rel {d : D} {v : V} (r : Rel c.K hid H ρ d v) (h : flat d = true) : flatV v = true := by
  cases d with
  | non => cases r; rfl
  | bl b => cases r; rfl
  | int i => cases r; rfl
  | str x => cases r; rfl
  | _ => cases h
theorem flat_rels : ∀ {ds : List D} {vs : List V}, Rels c.K hid H ρ ds vs → ds.all flat = true → vs.all flatV = true
  | [], _, r, _ => by
    have e : _ = [] := r
    subst e
    rfl
  | d :: ds, _, r, h => by
    obtain ⟨v, r', e, h1, h2⟩ := r
    subst e
    rw [List.all_cons, Bool.and_eq_true] at h
    rw [List.all_cons, flat_rel h1 h.1, flat_rels h2 h.2]
    rfl
theorem eqF_rel {d e : D} {v w : V} (r : Rel c.K hid H ρ d v) (q : Rel c.K hid H ρ e w) (h1 : flat d = true) (h2 : flat e = true) : eqF d e = eqV v w := by
  cases d with
  | non => cases r; cases e with
    | non => cases q; rfl
    | bl _ => cases q; rfl
    | int _ => cases q; rfl
    | str _ => cases q; rfl
    | _ => cases h2
  | bl b => cases r; cases e with
    | non => cases q; rfl
    | bl _ => cases q; rfl
    | int _ => cases q; rfl
    | str _ => cases q; rfl
    | _ => cases h2
  | int i => cases r; cases e with
    | non => cases q; rfl
    | bl _ => cases q; rfl
    | int _ => cases q; rfl
    | str _ => cases q; rfl
    | _ => cases h2
  | str x => cases r; cases e with
    | non => cases q; rfl
    | bl _ => cases q; rfl
    | int _ => cases q; rfl
    | str _ => cases q; rfl
    | _ => cases h2
  | _ => cases h1
theorem any_rel {x : D} {v : V} (rx : Rel c.K hid H ρ x v) (hx : flat x = true) : ∀ {ds : List D} {vs : List V}, Rels c.K hid H ρ ds vs → ds.all flat = true → (ds.any fun z => eqF z x) = inV v vs
  | [], _, r, _ => by
    have e : _ = [] := r
    subst e
    rfl
  | d :: ds, _, r, h => by
    obtain ⟨w, r', e, h1, h2⟩ := r
    subst e
    rw [List.all_cons, Bool.and_eq_true] at h
    show _ = (w :: r').any fun y => eqV y v
    rw [List.any_cons, List.any_cons, eqF_rel h1 rx h.1 hx, any_rel rx hx h2 h.2]
    rfl
theorem asKey_rel {d : D} {k : Key} {v : V} (h : asKey d = some k) (r : Rel c.K hid H ρ d v) : v = kV k := by
  cases d with
  | int i => cases h; cases r; rfl
  | str x => cases h; cases r; rfl
  | _ => cases h
theorem asKeys_rel : ∀ {ds : List D} {ks : List Key} {vs : List V}, asKeys ds = some ks → Rels c.K hid H ρ ds vs → vs = ks.map kV
  | [], ks, _, h, r => by
    cases h
    cases r
    rfl
  | d :: ds, ks, _, h, r => by
    obtain ⟨v, r', e, h1, h2⟩ := r
    subst e
    have h' : (match asKey d with
      | none => none
      | some k => match asKeys ds with
        | none => none
        | some ks => some (k :: ks)) = some ks := h
    cases e1 : asKey d with
    | none => rw [e1] at h'; cases h'
    | some k =>
      cases e2 : asKeys ds with
      | none => rw [e1, e2] at h'; cases h'
      | some ks' =>
        rw [e1, e2] at h'
        cases h'
        rw [asKey_rel e1 h1, asKeys_rel e2 h2]
        rfl
theorem lookV_val {κ : Type} [DecidableEq κ] {k : κ} : ∀ {ks : List κ} {ds : List D} {vs : List V}, Rels c.K hid H ρ ds vs → ks.length = vs.length →
    (lookV k ks ds = none ∧ valV (ks.zip vs) k = none) ∨ ∃ d v, lookV k ks ds = some d ∧ valV (ks.zip vs) k = some v ∧ Rel c.K hid H ρ d v
  | [], [], _, r, _ => by
    have e : _ = [] := r
    subst e
    exact .inl ⟨rfl, rfl⟩
  | [], d :: ds, _, r, h => by
    obtain ⟨v, r', e, h1, h2⟩ := r
    subst e
    cases h
  | l :: ls, [], _, r, h => by
    have e : _ = [] := r
    subst e
    cases h
  | l :: ls, d :: ds, _, r, h => by
    obtain ⟨v, r', e, h1, h2⟩ := r
    subst e
    by_cases hk : l = k
    · refine .inr ⟨d, v, if_pos hk, valV_pos (p := (l, v)) hk, h1⟩
    · have e1 : lookV k (l :: ls) (d :: ds) = lookV k ls ds := if_neg hk
      have e2 : valV ((l :: ls).zip (v :: r')) k = valV (ls.zip r') k := valV_neg (p := (l, v)) hk
      rw [e1, e2]
      exact lookV_val h2 (by simpa using h)
/-- a dict's read place -/
theorem dic_k (M : Mt c hid ρ st H) {d : D} {ks : List Key} {ds : List D} {v : V} (h : dicOf st d = some (.k ks ds)) (r : Rel c.K hid H ρ d v) : ∃ a vs, v = .ref a ∧ Rd H a (.dK (ks.zip vs)) ∧ ks.length = vs.length ∧ Rels c.K hid H ρ ds vs := by
  cases d with
  | dK ks' ds' =>
    obtain ⟨a, vs, e, f, l, q⟩ := r
    cases h
    exact ⟨a, vs, e, f.1, l, q⟩
  | dT ks' ds' => cases h
  | ref n =>
    obtain ⟨a, e, q⟩ := r
    have h' : (match st[n]? with
      | some (.dK ks vs) => some (Dic.k ks vs)
      | some (.dT ks vs) => some (Dic.t ks vs)
      | _ => none) = some (.k ks ds) := h
    cases e2 : st[n]? with
    | none => rw [e2] at h'; cases h'
    | some o =>
      rw [e2] at h'
      cases o with
      | lst xs => cases h'
      | dK _ _ =>
        cases h'
        obtain ⟨ho, e3, vs, e4, l, r4⟩ := M.ob n _ a e2 q
        subst e4
        exact ⟨a, vs, e, .inl e3, l, r4⟩
      | dT _ _ => cases h'
  | _ => cases h
theorem dic_t (M : Mt c hid ρ st H) {d : D} {ks : List (List Key)} {ds : List D} {v : V} (h : dicOf st d = some (.t ks ds)) (r : Rel c.K hid H ρ d v) : ∃ a vs, v = .ref a ∧ Rd H a (.dT (ks.zip vs)) ∧ ks.length = vs.length ∧ Rels c.K hid H ρ ds vs := by
  cases d with
  | dT ks' ds' =>
    obtain ⟨a, vs, e, f, l, q⟩ := r
    cases h
    exact ⟨a, vs, e, f.1, l, q⟩
  | dK ks' ds' => cases h
  | ref n =>
    obtain ⟨a, e, q⟩ := r
    have h' : (match st[n]? with
      | some (.dK ks vs) => some (Dic.k ks vs)
      | some (.dT ks vs) => some (Dic.t ks vs)
      | _ => none) = some (.t ks ds) := h
    cases e2 : st[n]? with
    | none => rw [e2] at h'; cases h'
    | some o =>
      rw [e2] at h'
      cases o with
      | lst xs => cases h'
      | dT _ _ =>
        cases h'
        obtain ⟨ho, e3, vs, e4, l, r4⟩ := M.ob n _ a e2 q
        subst e4
        exact ⟨a, vs, e, .inl e3, l, r4⟩
      | dK _ _ => cases h'
  | _ => cases h
theorem dget_of (M : Mt c hid ρ st H) {x i : D} {v w : V} {o : Option D} (h : dicAt st x i = some o) (r : Rel c.K hid H ρ x v) (q : Rel c.K hid H ρ i w) :
    ∃ a ov, v = .ref a ∧ DGet H a w ov ∧ ((o = none ∧ ov = none) ∨ ∃ d z, o = some d ∧ ov = some z ∧ Rel c.K hid H ρ d z) := by
  unfold dicAt at h
  cases e : dicOf st x with
  | none => rw [e] at h; cases h
  | some dc =>
    rw [e] at h
    cases dc with
    | k ks ds =>
      obtain ⟨a, vs, ev, hr, l, rs⟩ := dic_k M e r
      obtain ⟨k, hk, ek⟩ := Option.map_eq_some_iff.mp (show (asKey i).map (fun k => lookV k ks ds) = some o from h)
      have ew := asKey_rel hk q
      subst ew
      refine ⟨a, valV (ks.zip vs) k, ev, .inl ⟨_, k, hr, rfl, rfl⟩, ?_⟩
      subst ek
      rcases lookV_val (k := k) rs l with ⟨h1, h2⟩ | ⟨d, z, h1, h2, h3⟩
      · exact .inl ⟨h1, h2⟩
      · exact .inr ⟨d, z, h1, h2, h3⟩
    | t ks ds =>
      obtain ⟨a, vs, ev, hr, l, rs⟩ := dic_t M e r
      cases i with
      | tup xs =>
        obtain ⟨k, hk, ek⟩ := Option.map_eq_some_iff.mp (show (keyT (.tup xs)).map (fun k => lookV k ks ds) = some o from h)
        obtain ⟨b, us, eb, hb, rb⟩ := q
        have ew := asKeys_rel (ds := xs) hk rb
        subst ew eb
        refine ⟨a, valV (ks.zip vs) k, ev, .inr ⟨_, k, b, hr, rfl, hb, rfl⟩, ?_⟩
        subst ek
        rcases lookV_val (k := k) rs l with ⟨h1, h2⟩ | ⟨d, z, h1, h2, h3⟩
        · exact .inl ⟨h1, h2⟩
        · exact .inr ⟨d, z, h1, h2, h3⟩
      | _ => cases h

def copOf : COp → CmpOp
  | .eq => .Eq | .ne => .NotEq | .lt => .Lt | .le => .LtE | .gt => .Gt | .ge => .GtE | .isN => .Is | .notN => .IsNot | .mem => .In | .nmem => .NotIn
def rDin (neg : Bool) : R2 := fun y x H Q => ∃ a o, x = .ref a ∧ DGet H a y o ∧ Q (.bl (if neg then !o.isSome else o.isSome)) H
theorem op_din {X : Cx} (hu : X.A.units + 1 < cLine) : OpR X (compareOp .In) (rDin false) := by
  intro pins s σ H y x u v Q I ry rx h
  obtain ⟨a, o, rfl, g, q⟩ := h
  cases rx
  exact d_in hu I g ry fun s3 I3 => ⟨.bl o.isSome, H, I3, rfl, q⟩
theorem op_dnin {X : Cx} (hu : X.A.units + 1 < cLine) : OpR X (compareOp .NotIn) (rDin true) := by
  intro pins s σ H y x u v Q I ry rx h
  obtain ⟨a, o, rfl, g, q⟩ := h
  cases rx
  exact d_notIn hu I g ry fun s3 I3 => ⟨.bl (!o.isSome), H, I3, rfl, q⟩
def rCmp (K : PySem.W.Frag) : COp → R2
  | .eq => rEqD K
  | .ne => rNeD K
  | .lt => rI0 fun i j => .bl (decide (i < j))
  | .le => rI0 fun i j => .bl (decide (i ≤ j))
  | .gt => rI0 fun i j => .bl (decide (j < i))
  | .ge => rI0 fun i j => .bl (decide (j ≤ i))
  | .isN => fun x y H Q => (y = .non ∧ Q (.bl (decide (x = .non))) H) ∨ rIsB x y H Q
  | .notN => fun x y H Q => (y = .non ∧ Q (.bl (!decide (x = .non))) H) ∨ rNotB x y H Q
  | .mem => fun x y H Q => rIn K false x y H Q ∨ rDin false x y H Q
  | .nmem => fun x y H Q => rIn K true x y H Q ∨ rDin true x y H Q
theorem op_cmp {X : Cx} {k : Nat} (hr : Room k X.A) : ∀ o : COp, OpR X (compareOp (copOf o)) (rCmp X.K o)
  | .eq => op_eqD hr.units
  | .ne => op_neD hr.units
  | .lt => op_lt
  | .le => op_le
  | .gt => op_gt
  | .ge => op_ge
  | .isN => OpR.or op_isN op_isBl
  | .notN => OpR.or op_notN op_notBl
  | .mem => OpR.or op_in_seq (op_din (hu_of hr))
  | .nmem => OpR.or op_notIn_seq (op_dnin (hu_of hr))
theorem isN_rel {d : D} {v : V} (r : Rel c.K hid H ρ d v) : decide (v = .non) = isNon d := by
  cases d with
  | non => cases r; rfl
  | bl b => cases r; rfl
  | int i => cases r; rfl
  | str x => cases r; rfl
  | tup _ => obtain ⟨a, vs, e, _⟩ := r; subst e; rfl
  | ct _ => obtain ⟨a, vs, e, _⟩ := r; subst e; rfl
  | lst _ => obtain ⟨a, vs, e, _⟩ := r; subst e; rfl
  | rd _ => obtain ⟨a, vs, e, _⟩ := r; subst e; rfl
  | dK _ _ => obtain ⟨a, vs, e, _⟩ := r; subst e; rfl
  | dT _ _ => obtain ⟨a, vs, e, _⟩ := r; subst e; rfl
  | exn _ _ => obtain ⟨a, C, dd, w, e, _⟩ := r; subst e; rfl
  | cdi _ _ => obtain ⟨a, vs, e, _⟩ := r; subst e; rfl
  | ref n => obtain ⟨a, e, _⟩ := r; subst e; rfl
theorem notN_rel {d : D} {v : V} (r : Rel c.K hid H ρ d v) : (!decide (v = .non)) = !isNon d := by
  rw [isN_rel r]
theorem mem_spec {neg : Bool} {d e : D} {v w : V} {b : Bool} (M : Mt c hid ρ st H) (rd : Rel c.K hid H ρ d v) (re : Rel c.K hid H ρ e w) (h : memD st d e = some b) (q : Q (.bl (if neg then !b else b)) H) : rIn c.K neg v w H Q ∨ rDin neg v w H Q := by
  unfold memD at h
  cases e1 : seqOf st e with
  | some ys =>
    rw [e1] at h
    obtain ⟨a, vs, ea, fa, ra⟩ := seq_of M e1 re
    by_cases hf : (flat d && ys.all flat) = true
    · have h' : some (ys.any fun z => eqF z d) = some b := by
        rw [← h]
        exact (if_pos hf).symm
      rw [Bool.and_eq_true] at hf
      have e2 := any_rel rd hf.1 ra hf.2
      have e3 := Option.some.inj h'
      refine .inl ⟨a, vs, ea, fa, flat_rel rd hf.1, flat_rels ra hf.2, ?_⟩
      rw [← e2, e3]
      exact q
    · have h' : (none : Option Bool) = some b := by
        rw [← h]
        exact (if_neg hf).symm
      cases h'
  | none =>
    rw [e1] at h
    obtain ⟨o, ho, eb⟩ := Option.map_eq_some_iff.mp (show (dicAt st e d).map (·.isSome) = some b from h)
    obtain ⟨a, ov, ea, g, hov⟩ := dget_of M ho re rd
    refine .inr ⟨a, ov, ea, g, ?_⟩
    have e4 : ov.isSome = b := by
      rw [← eb]
      rcases hov with ⟨h1, h2⟩ | ⟨x, z, h1, h2, _⟩ <;> (rw [h1, h2]; rfl)
    rw [e4]
    exact q
theorem cmp_spec {d e : D} {v w : V} (o : COp) (M : Mt c hid ρ st H) (rd : Rel c.K hid H ρ d v) (re : Rel c.K hid H ρ e w) {b : Bool} (h : cmpD o d e st = some b) (q : Q (.bl b) H) : rCmp c.K o v w H Q := by
  cases o with
  | lt =>
    cases d with
    | int i =>
      cases e with
      | int j => exact ⟨i, j, rd, re, by have e := Option.some.inj h; subst e; exact q⟩
      | _ => cases h
    | _ => cases h
  | le =>
    cases d with
    | int i =>
      cases e with
      | int j => exact ⟨i, j, rd, re, by have e := Option.some.inj h; subst e; exact q⟩
      | _ => cases h
    | _ => cases h
  | gt =>
    cases d with
    | int i =>
      cases e with
      | int j => exact ⟨i, j, rd, re, by have e := Option.some.inj h; subst e; exact q⟩
      | _ => cases h
    | _ => cases h
  | ge =>
    cases d with
    | int i =>
      cases e with
      | int j => exact ⟨i, j, rd, re, by have e := Option.some.inj h; subst e; exact q⟩
      | _ => cases h
    | _ => cases h
  | isN =>
    cases e with
    | non =>
      have e1 := Option.some.inj h
      refine .inl ⟨re, ?_⟩
      have e2 : isNon d = b := e1
      rw [isN_rel rd, e2]
      exact q
    | bl t =>
      cases d with
      | bl s =>
        have e1 : decide (s = t) = b := Option.some.inj h
        cases rd; cases re
        exact .inr ⟨s, t, rfl, rfl, by rw [e1]; exact q⟩
      | _ => cases h
    | _ => cases h
  | notN =>
    cases e with
    | non =>
      have e1 := Option.some.inj h
      refine .inl ⟨re, ?_⟩
      have e2 : (!isNon d) = b := e1
      rw [notN_rel rd, e2]
      exact q
    | bl t =>
      cases d with
      | bl s =>
        have e1 : (!decide (s = t)) = b := Option.some.inj h
        cases rd; cases re
        exact .inr ⟨s, t, rfl, rfl, by rw [e1]; exact q⟩
      | _ => cases h
    | _ => cases h
  | eq =>
    have h' : eqD st d e = some b := h
    unfold eqD at h'
    cases e1 : py st d with
    | none => rw [e1] at h'; cases h'
    | some a =>
      cases e2 : py st e with
      | none => rw [e1, e2] at h'; cases h'
      | some a2 =>
        rw [e1, e2] at h'
        by_cases hs : (SeqAt.shaped a && SeqAt.shaped a2) = true
        · have h3 : some (PyData.eqv a a2) = some b := by
            rw [← h']
            exact (if_pos hs).symm
          rw [Bool.and_eq_true] at hs
          refine ⟨a, a2, dp_of M e1 rd, dp_of M e2 re, hs.1, hs.2, ?_⟩
          rw [Option.some.inj h3]
          exact q
        · have h3 : (none : Option Bool) = some b := by
            rw [← h']
            exact (if_neg hs).symm
          cases h3
  | ne =>
    obtain ⟨b', h0, eb⟩ := Option.map_eq_some_iff.mp (show (eqD st d e).map (!·) = some b from h)
    have h' : eqD st d e = some b' := h0
    unfold eqD at h'
    cases e1 : py st d with
    | none => rw [e1] at h'; cases h'
    | some a =>
      cases e2 : py st e with
      | none => rw [e1, e2] at h'; cases h'
      | some a2 =>
        rw [e1, e2] at h'
        by_cases hs : (SeqAt.shaped a && SeqAt.shaped a2) = true
        · have h3 : some (PyData.eqv a a2) = some b' := by
            rw [← h']
            exact (if_pos hs).symm
          rw [Bool.and_eq_true] at hs
          refine ⟨a, a2, dp_of M e1 rd, dp_of M e2 re, hs.1, hs.2, ?_⟩
          rw [Option.some.inj h3, eb]
          exact q
        · have h3 : (none : Option Bool) = some b' := by
            rw [← h']
            exact (if_neg hs).symm
          cases h3
  | mem => exact mem_spec (neg := false) M rd re h q
  | nmem =>
    obtain ⟨b', h0, eb⟩ := Option.map_eq_some_iff.mp (show (memD st d e).map (!·) = some b from h)
    exact mem_spec (neg := true) M rd re h0 (by rw [show (if true = true then !b' else b') = !b' from rfl, eb]; exact q)

/-! ### subscripts -/
theorem atI_rel {ds : List D} {vs : List V} {i : Int} {d : D} (r : Rels c.K hid H ρ ds vs) (h : atI ds i = some d) : ∃ v, atI vs i = some v ∧ Rel c.K hid H ρ d v := by
  unfold atI at h ⊢
  rw [← r.len]
  cases e : L2.ixN ds.length i with
  | none => rw [e] at h; cases h
  | some j =>
    rw [e] at h
    exact r.get h
def rIxD : R2 := fun x y H Q => ∃ a v, x = .ref a ∧ DGet H a y (some v) ∧ Q v H
theorem ix_dict {X : Cx} (hu : X.A.units + 1 < cLine) : IxR X rIxD := by
  intro value slice pins s σ H x y v u Q I rx ry h hs
  obtain ⟨a, z, rfl, g, q⟩ := h
  cases rx
  exact tail_any (dict_typeIs I g) PySem.F.slot_dict_getitem.lookup (d_getItem hu I g ry fun w' s3 I3 rw' => ⟨z, H, I3, rw', q⟩) hs
theorem ix_all {X : Cx} {k : Nat} (hr : Room k X.A) : IxR X (fun x y H Q => (rIxL X.K x y H Q ∨ rIxT X.K x y H Q ∨ rIxS x y H Q) ∨ (rIxD x y H Q ∨ rIxKI X.K x y H Q)) := IxR.or (IxR.or ix_list (IxR.or ix_tup ix_str)) (IxR.or (ix_dict (hu_of hr)) ix_kdi)
theorem lookV_I {k : Int} : ∀ {ks : List Int} {ds : List D} {vs : List V} {d : D}, Rels c.K hid H ρ ds vs → lookV k ks ds = some d → ∃ z, lookI k ks vs = some z ∧ Rel c.K hid H ρ d z
  | [], _, _, _, _, h => by cases h
  | _ :: _, [], _, _, _, h => by cases h
  | l :: ls, x :: ds, vs, d, ⟨v, r, e, h1, h2⟩, h => by
    subst e
    unfold lookV at h
    unfold lookI
    by_cases hk : l = k
    · rw [if_pos hk] at h ⊢
      cases h
      exact ⟨v, rfl, h1⟩
    · rw [if_neg hk] at h ⊢
      exact lookV_I h2 h
theorem ix_spec {x i d : D} {v w : V} (M : Mt c hid ρ st H) (rx : Rel c.K hid H ρ x v) (ri : Rel c.K hid H ρ i w) (h : Y.getD st x i = some d) (q : ∀ z, Rel c.K hid H ρ d z → Q z H) :
    (rIxL c.K v w H Q ∨ rIxT c.K v w H Q ∨ rIxS v w H Q) ∨ (rIxD v w H Q ∨ rIxKI c.K v w H Q) := by
  unfold Y.getD at h
  cases e1 : seqOf st x with
  | some ys =>
    rw [e1] at h
    cases i with
    | int k =>
      cases ri
      obtain ⟨a, vs, ea, fa, ra⟩ := seq_of M e1 rx
      obtain ⟨z, hz, rz⟩ := atI_rel (i := k) ra h
      rcases fa with fa | fa
      · exact .inl (.inl ⟨a, vs, k, z, ea, rfl, fa, hz, q z rz⟩)
      · exact .inl (.inr (.inl ⟨a, vs, k, z, ea, rfl, fa, hz, q z rz⟩))
    | _ => cases h
  | none =>
    rw [e1] at h
    have dict : ∀ {x : D}, Rel c.K hid H ρ x v → (dicAt st x i).bind id = some d → rIxD v w H Q := fun {x} rx h => by
      obtain ⟨o, ho, e⟩ := Option.bind_eq_some_iff.mp h
      obtain ⟨a, ov, ea, g, hov⟩ := dget_of M ho rx ri
      have e' : o = some d := e
      rcases hov with ⟨h1, _⟩ | ⟨x', z, h1, h2, h3⟩
      · rw [h1] at e'; cases e'
      · rw [h1] at e'
        cases e'
        subst h2
        exact ⟨a, z, ea, g, q z h3⟩
    cases x with
    | str z =>
      cases i with
      | int k =>
        cases ri
        cases rx
        by_cases hz : z.length ≤ sz
        · have h' : (atI z.cps.toList k).map (fun c => D.str ⟨#[c]⟩) = some d := by
            rw [← h]
            exact (if_pos hz).symm
          obtain ⟨cp, hc, e⟩ := Option.map_eq_some_iff.mp h'
          subst e
          exact .inl (.inr (.inr ⟨z, k, cp, rfl, rfl, by rw [← sz_eq]; exact hz, hc, q _ rfl⟩))
        · have h' : (none : Option D) = some d := by
            rw [← h]
            exact (if_neg hz).symm
          cases h'
      | _ => cases h
    | tup _ => cases e1
    | ct _ => cases e1
    | rd _ => cases e1
    | lst _ => cases e1
    | non => exact .inr (.inl (dict rx h))
    | bl _ => exact .inr (.inl (dict rx h))
    | int _ => exact .inr (.inl (dict rx h))
    | dK _ _ => exact .inr (.inl (dict rx h))
    | dT _ _ => exact .inr (.inl (dict rx h))
    | exn _ _ => exact .inr (.inl (dict rx h))
    | cdi ks ds =>
      cases i with
      | int k =>
        cases ri
        obtain ⟨a, vs, ea, kd, rs⟩ := rx
        obtain ⟨z, hz, rz⟩ := lookV_I rs h
        exact .inr (.inr ⟨a, ks, vs, k, z, ea, rfl, kd, hz, q z rz⟩)
      | _ => cases h
    | ref _ => exact .inr (.inl (dict rx h))
end
end Y
/-! Y5: truth, slices, built-ins, methods, stores. -/
namespace Y
open PySem PySem.Spec PyProof.Rows L2

section
variable {c : Cc} {hid : List Addr} {W : WX} {σ : L2.St} {ρ : List Addr} {st : Stt} {H : Hp} {Q : VK}
theorem emp_rels {ds : List D} {vs : List V} (r : Rels c.K hid H ρ ds vs) : (!ds.isEmpty) = !vs.isEmpty := by
  cases ds with
  | nil => cases r; rfl
  | cons d ds => obtain ⟨v, r', e, _⟩ := r; subst e; rfl
theorem truth_spec {d : D} {v : V} {b : Bool} (M : Mt c hid ρ st H) (r : Rel c.K hid H ρ d v) (h : truth st d = some b) : TruV c.K v H b := by
  cases d with
  | non => cases r; exact (Option.some.inj h).symm
  | bl x => cases r; exact (Option.some.inj h).symm
  | int i => cases r; exact (Option.some.inj h).symm
  | str x =>
    cases r
    by_cases hz : x.length ≤ sz
    · have h' : some (x.length != 0) = some b := by rw [← h]; exact (if_pos hz).symm
      refine ⟨by rw [← sz_eq]; exact hz, ?_⟩
      rw [← Option.some.inj h']
      cases e : x.length with
      | zero => rfl
      | succ n =>
        have e1 : ((n + 1 : Nat) : Int) ≠ 0 := by omega
        rw [bne_iff_ne.mpr e1]
        rfl
    · have h' : (none : Option Bool) = some b := by rw [← h]; exact (if_neg hz).symm
      cases h'
  | tup ds =>
    obtain ⟨a, vs, e, f, q⟩ := r
    subst e
    refine .inr (.inl ⟨vs, .inl (.inl f), ?_⟩)
    rw [← emp_rels q]; exact (Option.some.inj h).symm
  | ct ds =>
    obtain ⟨a, vs, e, f, q⟩ := r
    subst e
    refine .inr (.inl ⟨vs, .inr f, ?_⟩)
    rw [← emp_rels q]; exact (Option.some.inj h).symm
  | rd ds =>
    obtain ⟨a, vs, e, f, q⟩ := r
    subst e
    refine .inl ⟨vs, f.elim (fun f => .inl f.1) .inr, ?_⟩
    rw [← emp_rels q]; exact (Option.some.inj h).symm
  | lst ds =>
    obtain ⟨a, vs, e, f, q⟩ := r
    subst e
    refine .inl ⟨vs, .inl f.1, ?_⟩
    rw [← emp_rels q]; exact (Option.some.inj h).symm
  | ref n =>
    have h' : (match st[n]? with
      | some (.lst xs) => some (!xs.isEmpty)
      | _ => none) = some b := h
    cases e2 : st[n]? with
    | none => rw [e2] at h'; cases h'
    | some o =>
      rw [e2] at h'
      cases o with
      | lst xs =>
        obtain ⟨a, e, q⟩ := r
        subst e
        obtain ⟨ho, e3, vs, e4, r4⟩ := M.ob n _ a e2 q
        subst e4
        refine .inl ⟨vs, .inl (.inl e3), ?_⟩
        rw [← emp_rels r4]; exact (Option.some.inj h').symm
      | dK _ _ => cases h'
      | dT _ _ => cases h'
  | _ => cases h

/-! ### types -/
def isTys : List String := ["NoneType", "bool", "int", "str", "tuple", "list", "dict"]
theorem kit_all : (isTys.all fun a => ["int", "bool", "str", "tuple", "list", "dict"].all fun b => decide (kitB a b = some (subTy a b))) = true := by decide +kernel
theorem tyX_of {d : D} {v : V} {t : String} (M : Mt c hid ρ st H) (r : Rel c.K hid H ρ d v) (h : tyD st d = some t) : TyX c.K H v (.type t) ∧ t ∈ isTys := by
  cases d with
  | non => cases r; cases h; exact ⟨.base .non, by decide⟩
  | bl x => cases r; cases h; exact ⟨.base (.bl x), by decide⟩
  | int i => cases r; cases h; exact ⟨.base (.int i), by decide⟩
  | str x => cases r; cases h; exact ⟨.base (.str x), by decide⟩
  | tup ds => obtain ⟨a, vs, e, f, q⟩ := r; subst e; cases h; exact ⟨.base (.tup f), by decide⟩
  | ct ds => obtain ⟨a, vs, e, ⟨o, its, n, h1, h2, _⟩, q⟩ := r; subst e; cases h; exact ⟨.kTuple h1 h2, by decide⟩
  | rd ds =>
    obtain ⟨a, vs, e, f, q⟩ := r
    subst e
    cases h
    rcases f with f | ⟨o, its, n, h1, h2, _⟩
    · rcases f.1 with f | ⟨o, f⟩
      · exact ⟨.base (.lst f), by decide⟩
      · exact ⟨.base (.frz f), by decide⟩
    · exact ⟨.kList h1 h2, by decide⟩
  | lst ds =>
    obtain ⟨a, vs, e, f, q⟩ := r
    subst e
    cases h
    rcases f.1 with f | ⟨o, f⟩
    · exact ⟨.base (.lst f), by decide⟩
    · exact ⟨.base (.frz f), by decide⟩
  | dK ks ds =>
    obtain ⟨a, vs, e, f, l, q⟩ := r
    subst e
    cases h
    rcases f.1 with f | ⟨o, f⟩
    · exact ⟨.base (.dK f), by decide⟩
    · exact ⟨.fDict f, by decide⟩
  | dT ks ds => cases h
  | cdi _ _ => cases h
  | exn _ _ => cases h
  | ref n =>
    have h' : (match st[n]? with
      | some (.lst _) => some "list"
      | some (.dK _ _) => some "dict"
      | some (.dT _ _) => some "dict"
      | none => none) = some t := h
    obtain ⟨a, e, q⟩ := r
    subst e
    cases e2 : st[n]? with
    | none => rw [e2] at h'; cases h'
    | some o =>
      rw [e2] at h'
      obtain ⟨ho, e3, hx⟩ := M.ob n _ a e2 q
      cases o with
      | lst xs => obtain ⟨vs, e4, r4⟩ := hx; subst e4; cases h'; exact ⟨.base (.lst e3), by decide⟩
      | dK _ _ => obtain ⟨vs, e4, _⟩ := hx; subst e4; cases h'; exact ⟨.base (.dK e3), by decide⟩
      | dT _ _ => obtain ⟨vs, e4, _⟩ := hx; subst e4; cases h'; exact ⟨.base (.dT e3), by decide⟩
theorem kit_sub {t T : String} (ht : t ∈ isTys) (hT : T ∈ ["int", "bool", "str", "tuple", "list", "dict"]) : kitB t T = some (subTy t T) := by
  have h := kit_all
  rw [List.all_eq_true] at h
  have h2 := h t ht
  rw [List.all_eq_true] at h2
  exact of_decide_eq_true (h2 T hT)
theorem is_spec {d : D} {v : V} {T : String} (hT : T ∈ ["int", "bool", "str", "tuple", "list", "dict"]) (M : Mt c hid ρ st H) (r : Rel c.K hid H ρ d v) (h : Post c hid W σ ρ H (isD T d st) (rl c hid) Q) : rIsi c.K [v, .ty T] H Q := by
  unfold isD at h
  cases e : tyD st d with
  | none => rw [e] at h; exact h.elim
  | some t =>
    rw [e] at h
    obtain ⟨ty, hm⟩ := tyX_of M r e
    exact ⟨v, .ty T, .type t, .type T, subTy t T, rfl, .ty T, ty, kit_ty (kit_sub hm hT), h.ok M rfl⟩

/-! ### built-ins over values -/
theorem ints_rel : ∀ {ds : List D} {is : List Int} {vs : List V}, asInts ds = some is → Rels c.K hid H ρ ds vs → vs = is.map V.int
  | [], is, _, h, r => by
    cases h
    cases r
    rfl
  | .int i :: ds, is, _, h, r => by
    obtain ⟨v, r', e, h1, h2⟩ := r
    subst e
    cases h1
    obtain ⟨is', hi, e⟩ := Option.map_eq_some_iff.mp (show (asInts ds).map (i :: ·) = some is from h)
    subst e
    rw [ints_rel hi h2]
    rfl
  | .non :: ds, _, _, h, _ => by cases h
  | .bl _ :: ds, _, _, h, _ => by cases h
  | .str _ :: ds, _, _, h, _ => by cases h
  | .tup _ :: ds, _, _, h, _ => by cases h
  | .ct _ :: ds, _, _, h, _ => by cases h
  | .rd _ :: ds, _, _, h, _ => by cases h
  | .lst _ :: ds, _, _, h, _ => by cases h
  | .dK _ _ :: ds, _, _, h, _ => by cases h
  | .dT _ _ :: ds, _, _, h, _ => by cases h
  | .exn _ _ :: ds, _, _, h, _ => by cases h
  | .ref _ :: ds, _, _, h, _ => by cases h
theorem bools_rel : ∀ {ds : List D} {is : List Bool} {vs : List V}, asBools ds = some is → Rels c.K hid H ρ ds vs → vs = is.map V.bl
  | [], is, _, h, r => by
    cases h
    cases r
    rfl
  | .bl i :: ds, is, _, h, r => by
    obtain ⟨v, r', e, h1, h2⟩ := r
    subst e
    cases h1
    obtain ⟨is', hi, e⟩ := Option.map_eq_some_iff.mp (show (asBools ds).map (i :: ·) = some is from h)
    subst e
    rw [bools_rel hi h2]
    rfl
  | .non :: ds, _, _, h, _ => by cases h
  | .int _ :: ds, _, _, h, _ => by cases h
  | .str _ :: ds, _, _, h, _ => by cases h
  | .tup _ :: ds, _, _, h, _ => by cases h
  | .ct _ :: ds, _, _, h, _ => by cases h
  | .rd _ :: ds, _, _, h, _ => by cases h
  | .lst _ :: ds, _, _, h, _ => by cases h
  | .dK _ _ :: ds, _, _, h, _ => by cases h
  | .dT _ _ :: ds, _, _, h, _ => by cases h
  | .exn _ _ :: ds, _, _, h, _ => by cases h
  | .ref _ :: ds, _, _, h, _ => by cases h
end

/-! ### a built-in by its name in the text -/
/-- name, whether it is a type, its id -/
def bltOf : Blt → Str × Value
  | .len => ("len", .builtin "len") | .sum => ("sum", .builtin "sum") | .any => ("any", .builtin "any") | .all => ("all", .builtin "all")
  | .abs => ("abs", .builtin "abs") | .min2 => ("min", .builtin "min") | .max2 => ("max", .builtin "max") | .max1 => ("max", .builtin "max") | .min1 => ("min", .builtin "min")
  | .tuple => ("tuple", .type "tuple") | .list => ("list", .type "list") | .int => ("int", .type "int") | .str => ("str", .type "str")
  | .repr => ("repr", .builtin "repr") | .sorted => ("sorted", .builtin "sorted") | .divmod => ("divmod", .builtin "divmod") | .gcd => ("gcd", .builtin "math.gcd")
def rTup' (K : PySem.W.Frag) : List V → Hp → VK → Prop := fun xs H Q => ∃ p ys, xs = [.ref p] ∧ ((SqL K H p ys ∧ ∀ l, H l = none → Q (.ref l) (upd H l (.tup ys))) ∨ (SqT K H p ys ∧ Q (.ref p) H))
def rLst' (K : PySem.W.Frag) : List V → Hp → VK → Prop := fun xs H Q => ∃ p ys, xs = [.ref p] ∧ (SqL K H p ys ∨ SqT K H p ys) ∧ ∀ l, H l = none → Q (.ref l) (upd H l (.lst ys))
def rLen' (K : PySem.W.Frag) : List V → Hp → VK → Prop := fun xs H Q => (∃ p ys, xs = [.ref p] ∧ (SqL K H p ys ∨ SqT K H p ys) ∧ Q (.int ys.length) H) ∨ ∃ z, xs = [.str z] ∧ z.length ≤ sizeLine ∧ Q (.int z.length) H
def rBlt (K : PySem.W.Frag) : Blt → List V → Hp → VK → Prop
  | .len => rLen' K
  | .sum => rSum K
  | .any => rAny K
  | .all => rAll K
  | .abs => fun xs H Q => ∃ i, xs = [.int i] ∧ Q (.int (if i < 0 then -i else i)) H
  | .min2 => fun xs H Q => ∃ i j, xs = [.int i, .int j] ∧ Q (.int (if j < i then j else i)) H
  | .max2 => fun xs H Q => ∃ i j, xs = [.int i, .int j] ∧ Q (.int (if j > i then j else i)) H
  | .tuple => rTup' K
  | .list => rLst' K
  | .int => fun xs H Q => (∃ i, xs = [.int i] ∧ Q (.int i) H) ∨ ∃ k, xs = [.bl k] ∧ Q (.int (if k then 1 else 0)) H
  | .repr => rRepr K
  | .str => rStr K
  | .max1 => rMax1 K
  | .min1 => rMin1 K
  | _ => fun _ _ _ => False
theorem callR_false {X : Cx} {f : Value} : CallR X f (fun _ _ _ => False) := by
  intro pins s σ H xs us Q I r h
  exact h.elim
theorem cr_blt {X : Cx} {k : Nat} (hgd : X.A.guards = some []) (hr : Room k X.A) (hc : X.calm = true) : ∀ f : Blt, CallR X (bltOf f).2 (rBlt X.K f)
  | .len => CallR.or call_len_seq call_len_str
  | .sum => cr_sum hc
  | .any => cr_any hc
  | .all => cr_all hc
  | .abs => call_abs
  | .min2 => call_min2 hc
  | .max2 => call_max2 hc
  | .max1 => call_max1 hc
  | .min1 => call_min1 hc
  | .tuple => call_tuple_of
  | .list => call_list_of
  | .int => call_int1
  | .str => call_str hgd hr
  | .repr => call_repr hgd hr
  | .sorted => callR_false
  | .divmod => callR_false
  | .gcd => callR_false
section
variable {c : Cc} {hid : List Addr} {W : WX} {σ : L2.St} {ρ : List Addr} {st : Stt} {H : Hp} {Q : VK}
theorem rels1 {d : D} {vs : List V} (r : Rels c.K hid H ρ [d] vs) : ∃ v, vs = [v] ∧ Rel c.K hid H ρ d v := by
  obtain ⟨v, r', e, h1, h2⟩ := r
  cases h2
  exact ⟨v, e, h1⟩
theorem rels2 {d e : D} {vs : List V} (r : Rels c.K hid H ρ [d, e] vs) : ∃ v w, vs = [v, w] ∧ Rel c.K hid H ρ d v ∧ Rel c.K hid H ρ e w := by
  obtain ⟨v, r', e, h1, h2⟩ := r
  obtain ⟨w, rfl, h3⟩ := rels1 h2
  exact ⟨v, w, e, h1, h3⟩
theorem len_spec {d : D} {v : V} (M : Mt c hid ρ st H) (r : Rel c.K hid H ρ d v) (h : Post c hid W σ ρ H (lenD d st) (rl c hid) Q) : rLen' c.K [v] H Q := by
  unfold lenD at h
  cases e : seqOf st d with
  | some ys =>
    rw [e] at h
    obtain ⟨a, vs, ea, fa, ra⟩ := seq_of M e r
    subst ea
    refine .inl ⟨a, vs, rfl, fa, ?_⟩
    rw [← ra.len]
    exact h.ok M rfl
  | none =>
    rw [e] at h
    cases d with
    | str z =>
      cases r
      obtain ⟨hz, h'⟩ := post_ifP (p := z.length ≤ sz) h
      exact .inr ⟨z, rfl, by rw [← sz_eq]; exact hz, h'.ok M rfl⟩
    | _ => exact h.elim
theorem lst_post {α : Type} {d : D} {f : List D → Option α} {g : α → D} {v : V} (M : Mt c hid ρ st H) (r : Rel c.K hid H ρ d v)
    (h : Post c hid W σ ρ H (lstF f g d st) (rl c hid) Q) : ∃ a vs ys is, v = .ref a ∧ SqL c.K H a vs ∧ Rels c.K hid H ρ ys vs ∧ f ys = some is ∧ ∀ w, Rel c.K hid H ρ (g is) w → Q w H := by
  unfold lstF at h
  cases e : lstOf st d with
  | none => rw [e] at h; exact h.elim
  | some ys =>
    rw [e] at h
    obtain ⟨a, vs, ea, fa, ra⟩ := lst_of M e r
    cases e2 : f ys with
    | none =>
      simp only [e2] at h
      exact h.elim
    | some is =>
      simp only [e2] at h
      exact ⟨a, vs, ys, is, ea, .inl fa, ra, e2, fun w rw => h.ok M rw⟩
theorem sum_spec {d : D} {v : V} (M : Mt c hid ρ st H) (r : Rel c.K hid H ρ d v) (h : Post c hid W σ ρ H (sumD d st) (rl c hid) Q) : rSum c.K [v] H Q := by
  obtain ⟨a, vs, ys, is, ea, hs, ra, hi, q⟩ := lst_post (f := asInts) (g := fun is => .int is.sum) M r h
  subst ea
  have e := ints_rel hi ra
  subst e
  exact ⟨a, is, rfl, hs, q _ rfl⟩
theorem any_spec {d : D} {v : V} (M : Mt c hid ρ st H) (r : Rel c.K hid H ρ d v) (h : Post c hid W σ ρ H (anyD d st) (rl c hid) Q) : rAny c.K [v] H Q := by
  obtain ⟨a, vs, ys, is, ea, hs, ra, hi, q⟩ := lst_post (f := asBools) (g := fun is => .bl (is.any id)) M r h
  subst ea
  have e := bools_rel hi ra
  subst e
  exact ⟨a, is, rfl, hs, q _ rfl⟩
theorem all_spec {d : D} {v : V} (M : Mt c hid ρ st H) (r : Rel c.K hid H ρ d v) (h : Post c hid W σ ρ H (allD d st) (rl c hid) Q) : rAll c.K [v] H Q := by
  obtain ⟨a, vs, ys, is, ea, hs, ra, hi, q⟩ := lst_post (f := asBools) (g := fun is => .bl (is.all id)) M r h
  subst ea
  have e := bools_rel hi ra
  subst e
  exact ⟨a, is, rfl, hs, q _ rfl⟩
theorem tup_spec {d : D} {v : V} (M : Mt c hid ρ st H) (r : Rel c.K hid H ρ d v) (h : Post c hid W σ ρ H (tupD d st) (rl c hid) Q) : rTup' c.K [v] H Q := by
  have lst : ∀ {d : D}, Rel c.K hid H ρ d v → Post c hid W σ ρ H (match lstOf st d with
      | some ys => .ok (.tup ys) st
      | none => .no) (rl c hid) Q → rTup' c.K [v] H Q := fun {d} r h => by
    cases e : lstOf st d with
    | none => rw [e] at h; exact h.elim
    | some ys =>
      rw [e] at h
      obtain ⟨a, vs, ea, fa, ra⟩ := lst_of M e r
      subst ea
      exact ⟨a, vs, rfl, .inl ⟨.inl fa, newT_post h M ra⟩⟩
  cases d with
  | tup ys =>
    obtain ⟨a, vs, e, f, q⟩ := id r
    subst e
    exact ⟨a, vs, rfl, .inr ⟨.inl (.inl f), h.ok M r⟩⟩
  | ct ys =>
    obtain ⟨a, vs, e, f, q⟩ := id r
    subst e
    exact ⟨a, vs, rfl, .inr ⟨.inr f, h.ok M r⟩⟩
  | _ => exact lst r h
theorem list_spec {d : D} {v : V} (M : Mt c hid ρ st H) (r : Rel c.K hid H ρ d v) (h : Post c hid W σ ρ H (lstD d st) (rl c hid) Q) : rLst' c.K [v] H Q := by
  unfold lstD at h
  cases e : seqOf st d with
  | none => rw [e] at h; exact h.elim
  | some ys =>
    rw [e] at h
    obtain ⟨a, vs, ea, fa, ra⟩ := seq_of M e r
    subst ea
    exact ⟨a, vs, rfl, fa, newL_post h M ra⟩
theorem repr_spec {d : D} {v : V} (M : Mt c hid ρ st H) (r : Rel c.K hid H ρ d v) (h : Post c hid W σ ρ H (reprD d st) (rl c hid) Q) : rRepr c.K [v] H Q := by
  unfold reprD at h
  cases e : py st d with
  | none => rw [e] at h; exact h.elim
  | some p =>
    rw [e] at h
    obtain ⟨hz, h'⟩ := post_if h
    simp only [Bool.and_eq_true, decide_eq_true_eq, Bool.not_eq_true'] at hz
    exact ⟨v, p, rfl, dp_of M e r, hz.1.1.1, hz.1.1.2, hz.1.2, by rw [← sz_eq]; exact hz.2, h'.ok M rfl⟩
theorem str_spec {d : D} {v : V} (M : Mt c hid ρ st H) (r : Rel c.K hid H ρ d v) (h : Post c hid W σ ρ H (strD d st) (rl c hid) Q) : rStr c.K [v] H Q := by
  by_cases hx : ∃ x, v = .str x
  · obtain ⟨x, rfl⟩ := hx
    cases d with
    | str z =>
      cases r
      exact .inl ⟨x, rfl, (show Post c hid W σ ρ H (.ok (.str x) st) (rl c hid) Q from h).ok M rfl⟩
    | non => cases r
    | bl b => cases r
    | int i => cases r
    | tup _ => obtain ⟨_, _, e, _⟩ := r; cases e
    | ct _ => obtain ⟨_, _, e, _⟩ := r; cases e
    | lst _ => obtain ⟨_, _, e, _⟩ := r; cases e
    | rd _ => obtain ⟨_, _, e, _⟩ := r; cases e
    | dK _ _ => obtain ⟨_, _, e, _⟩ := r; cases e
    | dT _ _ => obtain ⟨_, _, e, _⟩ := r; cases e
    | exn _ _ => obtain ⟨_, _, _, _, e, _⟩ := r; cases e
    | cdi _ _ => obtain ⟨_, _, e, _⟩ := r; cases e
    | ref n => obtain ⟨_, e, _⟩ := r; cases e
  · have h' : Post c hid W σ ρ H (reprD d st) (rl c hid) Q := by
      cases d with
      | str z => cases r; exact absurd ⟨z, rfl⟩ hx
      | _ => exact h
    obtain ⟨v', p, e, dp, a, b, c', d', q⟩ := repr_spec M r h'
    cases e
    exact .inr ⟨v, p, rfl, fun x e => hx ⟨x, e⟩, dp, a, b, c', d', q⟩
theorem bestI_mem (f : Int → Int → Bool) : ∀ (is : List Int) (m : Int), bestI f is m ∈ m :: is
  | [], m => List.mem_cons_self ..
  | i :: is, m => by
    have h := bestI_mem f is (if f i m = true then i else m)
    show bestI f is _ ∈ _
    rcases List.mem_cons.mp h with e | h
    · rw [e]
      split
      · exact List.mem_cons_of_mem _ (List.mem_cons_self ..)
      · exact List.mem_cons_self ..
    · exact List.mem_cons_of_mem _ (List.mem_cons_of_mem _ h)
theorem best_max : ∀ (is : List Int) (m : Int), ∀ y ∈ m :: is, y ≤ bestI (fun i j => decide (i > j)) is m
  | [], m, y, h => by
    rcases List.mem_cons.mp h with e | h
    · rw [e]; exact Int.le_refl _
    · cases h
  | i :: is, m, y, h => by
    have ih := best_max is (if decide (i > m) = true then i else m)
    have h0 := ih _ (List.mem_cons_self ..)
    show y ≤ bestI _ is _
    rcases List.mem_cons.mp h with e | h
    · subst e
      refine Int.le_trans ?_ h0
      split
      · rename_i h; exact Int.le_of_lt (of_decide_eq_true h)
      · exact Int.le_refl _
    · rcases List.mem_cons.mp h with e | h
      · subst e
        refine Int.le_trans ?_ h0
        split
        · exact Int.le_refl _
        · rename_i h; exact Int.not_lt.mp fun z => h (decide_eq_true z)
      · exact ih y (List.mem_cons_of_mem _ h)
theorem best_min : ∀ (is : List Int) (m : Int), ∀ y ∈ m :: is, bestI (fun i j => decide (i < j)) is m ≤ y
  | [], m, y, h => by
    rcases List.mem_cons.mp h with e | h
    · rw [e]; exact Int.le_refl _
    · cases h
  | i :: is, m, y, h => by
    have ih := best_min is (if decide (i < m) = true then i else m)
    have h0 := ih _ (List.mem_cons_self ..)
    show bestI _ is _ ≤ y
    rcases List.mem_cons.mp h with e | h
    · subst e
      refine Int.le_trans h0 ?_
      split
      · rename_i h; exact Int.le_of_lt (of_decide_eq_true h)
      · exact Int.le_refl _
    · rcases List.mem_cons.mp h with e | h
      · subst e
        refine Int.le_trans h0 ?_
        split
        · exact Int.le_refl _
        · rename_i h; exact Int.not_lt.mp fun z => h (decide_eq_true z)
      · exact ih y (List.mem_cons_of_mem _ h)
theorem best_get {f : Int → Int → Bool} {d : D} {v : V} (M : Mt c hid ρ st H) (r : Rel c.K hid H ρ d v) (h : Post c hid W σ ρ H (bestD f d st) (rl c hid) Q) : ∃ a i is, v = .ref a ∧ (SqL c.K H a ((i :: is).map V.int) ∨ SqT c.K H a ((i :: is).map V.int)) ∧ Q (.int (bestI f is i)) H := by
  unfold bestD at h
  cases e : seqOf st d with
  | none => rw [e] at h; exact h.elim
  | some ys =>
    rw [e] at h
    cases e2 : asInts ys with
    | none => simp only [e2] at h; exact h.elim
    | some is =>
      simp only [e2] at h
      cases is with
      | nil => exact h.elim
      | cons i is =>
        obtain ⟨a, vs, ea, fa, ra⟩ := seq_of M e r
        rw [ints_rel e2 ra] at fa
        exact ⟨a, i, is, ea, fa, ok_int h M⟩
theorem one_post {ds : List D} {vs : List V} {k : D → R D} (r : Rels c.K hid H ρ ds vs) (h : Post c hid W σ ρ H (one ds k) (rl c hid) Q) : ∃ d v, ds = [d] ∧ vs = [v] ∧ Rel c.K hid H ρ d v ∧ Post c hid W σ ρ H (k d) (rl c hid) Q := by
  match ds, r, h with
  | [], _, h => exact h.elim
  | [d], r, h =>
    obtain ⟨v, e, rd⟩ := rels1 r
    exact ⟨d, v, rfl, e, rd, h⟩
  | _ :: _ :: _, _, h => exact h.elim
theorem two_post {ds : List D} {vs : List V} {k : D → D → R D} (r : Rels c.K hid H ρ ds vs) (h : Post c hid W σ ρ H (two ds k) (rl c hid) Q) : ∃ d e v w, ds = [d, e] ∧ vs = [v, w] ∧ Rel c.K hid H ρ d v ∧ Rel c.K hid H ρ e w ∧ Post c hid W σ ρ H (k d e) (rl c hid) Q := by
  match ds, r, h with
  | [], _, h => exact h.elim
  | [_], _, h => exact h.elim
  | [d, e], r, h =>
    obtain ⟨v, w, ev, rd, re⟩ := rels2 r
    exact ⟨d, e, v, w, rfl, ev, rd, re, h⟩
  | _ :: _ :: _ :: _, _, h => exact h.elim
theorem blt_spec {ds : List D} {vs : List V} (f : Blt) (M : Mt c hid ρ st H) (r : Rels c.K hid H ρ ds vs) (h : Post c hid W σ ρ H (bltD f ds st) (rl c hid) Q) : rBlt c.K f vs H Q := by
  cases f with
  | len =>
    obtain ⟨d, v, _, e, rd, h'⟩ := one_post r h
    subst e
    exact len_spec M rd h'
  | sum =>
    obtain ⟨d, v, _, e, rd, h'⟩ := one_post r h
    subst e
    exact sum_spec M rd h'
  | any =>
    obtain ⟨d, v, _, e, rd, h'⟩ := one_post r h
    subst e
    exact any_spec M rd h'
  | all =>
    obtain ⟨d, v, _, e, rd, h'⟩ := one_post r h
    subst e
    exact all_spec M rd h'
  | tuple =>
    obtain ⟨d, v, _, e, rd, h'⟩ := one_post r h
    subst e
    exact tup_spec M rd h'
  | list =>
    obtain ⟨d, v, _, e, rd, h'⟩ := one_post r h
    subst e
    exact list_spec M rd h'
  | abs =>
    obtain ⟨d, v, _, e, rd, h'⟩ := one_post r h
    subst e
    cases d with
    | int i => cases rd; exact ⟨i, rfl, ok_int h' M⟩
    | _ => exact h'.elim
  | int =>
    obtain ⟨d, v, _, e, rd, h'⟩ := one_post r h
    subst e
    cases d with
    | int i => cases rd; exact .inl ⟨i, rfl, ok_int h' M⟩
    | bl i => cases rd; exact .inr ⟨i, rfl, ok_int h' M⟩
    | _ => exact h'.elim
  | repr =>
    obtain ⟨d, v, _, e, rd, h'⟩ := one_post r h
    subst e
    exact repr_spec M rd h'
  | str =>
    obtain ⟨d, v, _, e, rd, h'⟩ := one_post r h
    subst e
    exact str_spec M rd h'
  | max1 =>
    obtain ⟨d, v, _, e, rd, h'⟩ := one_post r h
    subst e
    obtain ⟨a, i, is, rfl, hs, q⟩ := best_get M rd h'
    refine ⟨a, i :: is, rfl, hs, by simp, fun m hm hb => ?_⟩
    have e : m = bestI (fun i j => decide (i > j)) is i := Int.le_antisymm (best_max is i m hm) (hb _ (bestI_mem _ is i))
    rw [e]
    exact q
  | min1 =>
    obtain ⟨d, v, _, e, rd, h'⟩ := one_post r h
    subst e
    obtain ⟨a, i, is, rfl, hs, q⟩ := best_get M rd h'
    refine ⟨a, i :: is, rfl, hs, by simp, fun m hm hb => ?_⟩
    have e : m = bestI (fun i j => decide (i < j)) is i := Int.le_antisymm (hb _ (bestI_mem _ is i)) (best_min is i m hm)
    rw [e]
    exact q
  | min2 =>
    obtain ⟨d, d2, v, w, _, e, rd, re, h'⟩ := two_post r h
    subst e
    cases d with
    | int i =>
      cases d2 with
      | int j => cases rd; cases re; exact ⟨i, j, rfl, ok_int h' M⟩
      | _ => exact h'.elim
    | _ => exact h'.elim
  | max2 =>
    obtain ⟨d, d2, v, w, _, e, rd, re, h'⟩ := two_post r h
    subst e
    cases d with
    | int i =>
      cases d2 with
      | int j => cases rd; cases re; exact ⟨i, j, rfl, ok_int h' M⟩
      | _ => exact h'.elim
    | _ => exact h'.elim
  | _ => exact h.elim
end
end Y
/-! Y6: methods, slices, stores; the expressions' rules. -/
namespace Y
open PySem PySem.Spec PyProof.Rows L2

mutual
theorem lt_mono {a b : Nat} (h : a ≤ b) : ∀ d : D, d.lt a = true → d.lt b = true
  | .non, _ => rfl
  | .bl _, _ => rfl
  | .int _, _ => rfl
  | .str _, _ => rfl
  | .tup ds, e => ltL_mono h ds e
  | .ct ds, e => ltL_mono h ds e
  | .rd ds, e => ltL_mono h ds e
  | .lst ds, e => ltL_mono h ds e
  | .dK _ ds, e => ltL_mono h ds e
  | .dT _ ds, e => ltL_mono h ds e
  | .exn _ d, e => lt_mono h d e
  | .cdi _ ds, e => ltL_mono h ds e
  | .ref n, e => decide_eq_true (Nat.lt_of_lt_of_le (of_decide_eq_true e) h)
theorem ltL_mono {a b : Nat} (h : a ≤ b) : ∀ ds : List D, ltL a ds = true → ltL b ds = true
  | [], _ => rfl
  | d :: ds, e => by
    have e' : (d.lt a && ltL a ds) = true := e
    rw [Bool.and_eq_true] at e'
    show (d.lt b && ltL b ds) = true
    rw [lt_mono h d e'.1, ltL_mono h ds e'.2]
    rfl
end
theorem ltL_app {b : Nat} : ∀ {xs ys : List D}, ltL b xs = true → ltL b ys = true → ltL b (xs ++ ys) = true
  | [], _, _, h => h
  | d :: ds, ys, h, h2 => by
    have e' : (d.lt b && ltL b ds) = true := h
    rw [Bool.and_eq_true] at e'
    show (d.lt b && ltL b (ds ++ ys)) = true
    rw [e'.1, ltL_app e'.2 h2]
    rfl
theorem ltL_one {b : Nat} {d : D} (h : d.lt b = true) : ltL b [d] = true := by
  show (d.lt b && ltL b []) = true
  rw [h]
  rfl
theorem ltL_dropLast {b : Nat} : ∀ {xs : List D}, ltL b xs = true → ltL b xs.dropLast = true
  | [], h => h
  | [_], _ => rfl
  | d :: e :: ds, h => by
    have e' : (d.lt b && ltL b (e :: ds)) = true := h
    rw [Bool.and_eq_true] at e'
    show (d.lt b && ltL b (e :: ds).dropLast) = true
    rw [e'.1, ltL_dropLast e'.2]
    rfl
theorem ltL_set {b : Nat} {v : D} (hv : v.lt b = true) : ∀ {xs : List D} (i : Nat), ltL b xs = true → ltL b (xs.set i v) = true
  | [], _, h => h
  | d :: ds, 0, h => by
    have e' : (d.lt b && ltL b ds) = true := h
    rw [Bool.and_eq_true] at e'
    show (v.lt b && ltL b ds) = true
    rw [hv, e'.2]
    rfl
  | d :: ds, i + 1, h => by
    have e' : (d.lt b && ltL b ds) = true := h
    rw [Bool.and_eq_true] at e'
    show (d.lt b && ltL b (ds.set i v)) = true
    rw [e'.1, ltL_set hv i e'.2]
    rfl
theorem ltL_rep {κ : Type} [DecidableEq κ] {b : Nat} {v : D} (hv : v.lt b = true) (k : κ) : ∀ {ks : List κ} {vs : List D}, ltL b vs = true → ltL b (repV k v ks vs) = true
  | [], _, _ => rfl
  | _ :: _, [], _ => rfl
  | l :: ls, d :: ds, h => by
    have e' : (d.lt b && ltL b ds) = true := h
    rw [Bool.and_eq_true] at e'
    show ((if l = k then v else d).lt b && ltL b (repV k v ls ds)) = true
    rw [ltL_rep hv k e'.2, Bool.and_true]
    by_cases hk : l = k
    · rw [if_pos hk]; exact hv
    · rw [if_neg hk]; exact e'.1
theorem ltL_put {κ : Type} [DecidableEq κ] {b : Nat} {v : D} (hv : v.lt b = true) (k : κ) {ks : List κ} {vs : List D} (h : ltL b vs = true) : ltL b (putV k v ks vs).2 = true := by
  unfold putV
  split
  · exact ltL_rep hv k h
  · exact ltL_app h (ltL_one hv)

section
variable {c : Cc} {hid : List Addr} {W : WX} {σ : L2.St} {ρ : List Addr} {st : Stt} {H : Hp} {Q : VK}
/-- what may be stored in the store's n-th object -/
theorem put_ok {n : Nat} {v : D} (M : Mt c hid ρ st H) (h : (decide (c.b ≤ n) || v.lt 0) = true) : ∀ x ∈ c.bs, n < x → v.lt x = true := fun x hx hn => by
  rw [Bool.or_eq_true, decide_eq_true_eq] at h
  obtain ⟨h1, h2, h3⟩ := M.wf x hx
  rcases h with h | h
  · omega
  · exact lt_mono (Nat.zero_le _) v h
theorem old_ok {n : Nat} {o : Ob} (M : Mt c hid ρ st H) (e : st[n]? = some o) : ∀ x ∈ c.bs, n < x → o.lt x = true := fun x hx hn => (M.wf x hx).2.2 n o hn e
theorem ref_at (M : Mt c hid ρ st H) {n : Nat} {o : Ob} {v : V} (e : st[n]? = some o) (r : Rel c.K hid H ρ (.ref n) v) : ∃ a ho, v = .ref a ∧ ρ[n]? = some a ∧ H a = some ho ∧ ObR c.K hid H ρ o ho := by
  obtain ⟨a, ea, q⟩ := r
  obtain ⟨ho, e3, hx⟩ := M.ob n _ a e q
  exact ⟨a, ho, ea, q, e3, hx⟩

/-! ### methods -/
theorem append_spec {o v : D} {x w : V} (M : Mt c hid ρ st H) (r : Rel c.K hid H ρ o x) (rv : Rel c.K hid H ρ v w) (h : Post c hid W σ ρ H (appD c.b o v st) (rl c hid) Q) :
    tyV c.K "list" x H ∧ rAppend x [w] H Q := by
  cases o with
  | ref n =>
    obtain ⟨hb, h⟩ := post_ifP (p := (decide (c.b ≤ n) || v.lt 0) = true) h
    cases e : st[n]? with
    | none => simp only [e, Option.bind_none] at h; exact h.elim
    | some ob =>
      simp only [e, Option.bind_some] at h
      cases ob with
      | lst ys =>
        by_cases hz : ys.length < sz
        · simp only [appOb, if_pos hz] at h
          obtain ⟨a, ho, ea, q, e3, ws, e4, rw'⟩ := ref_at M e r
          subst ea e4
          refine ⟨.inl ⟨rfl, ws, .inl (.inl e3)⟩, a, ws, w, rfl, rfl, e3, by rw [← rw'.len, ← sz_eq]; exact hz, ?_⟩
          have N := Nx.write (o := .lst (ys ++ [v])) (ho := .lst (ws ++ [w])) M q trivial ⟨_, rfl, rw'.app (Rels.one rv)⟩ (fun x hx hn => ltL_app (old_ok M e x hx hn) (ltL_one (put_ok M hb x hx hn)))
          exact h _ _ _ N rfl
        · simp only [appOb, if_neg hz] at h; exact h.elim
      | dK _ _ => exact h.elim
      | dT _ _ => exact h.elim
  | _ => exact h.elim
theorem put_okL {n : Nat} {zs : List D} (M : Mt c hid ρ st H) (h : (decide (c.b ≤ n) || ltL 0 zs) = true) : ∀ x ∈ c.bs, n < x → ltL x zs = true := fun x hx hn => by
  rw [Bool.or_eq_true, decide_eq_true_eq] at h
  obtain ⟨h1, h2, h3⟩ := M.wf x hx
  rcases h with h | h
  · omega
  · exact ltL_mono (Nat.zero_le _) zs h
theorem extend_spec {o v : D} {x w : V} (M : Mt c hid ρ st H) (r : Rel c.K hid H ρ o x) (rv : Rel c.K hid H ρ v w) (h : Post c hid W σ ρ H (extD c.b o v st) (rl c hid) Q) :
    rExtend x [w] H Q := by
  cases o with
  | ref n =>
    cases v with
    | ref m =>
      unfold extD at h
      simp only at h
      split at h
      · rename_i xs zs e1 e2
        obtain ⟨hb, h⟩ := post_ifP (p := ((decide (c.b ≤ n) || ltL 0 zs) && decide (xs.length + zs.length ≤ sz)) = true) h
        rw [Bool.and_eq_true, decide_eq_true_eq] at hb
        obtain ⟨a, ho, ea, q, e3, ws, e4, rw'⟩ := ref_at M e1 r
        obtain ⟨a2, ho2, ea2, q2, e32, ws2, e42, rw2⟩ := ref_at M e2 rv
        subst ea e4 ea2 e42
        refine ⟨a, a2, ws, ws2, rfl, rfl, e3, e32, by rw [← rw'.len, ← rw2.len, ← sz_eq]; exact hb.2, ?_⟩
        have N := Nx.write (o := .lst (xs ++ zs)) (ho := .lst (ws ++ ws2)) M q trivial ⟨_, rfl, rw'.app rw2⟩ (fun x hx hn => ltL_app (old_ok M e1 x hx hn) (put_okL M hb.1 x hx hn))
        exact h _ _ _ N rfl
      · exact h.elim
    | _ => exact h.elim
  | _ => exact h.elim
theorem pop_spec {o : D} {x : V} (M : Mt c hid ρ st H) (r : Rel c.K hid H ρ o x) (h : Post c hid W σ ρ H (popD o st) (rl c hid) Q) :
    tyV c.K "list" x H ∧ rPop x [] H Q := by
  cases o with
  | ref n =>
    have h : Post c hid W σ ρ H (popD (.ref n) st) (rl c hid) Q := h
    unfold popD at h
    cases e : st[n]? with
    | none => simp only [e, Option.bind_none] at h; exact h.elim
    | some ob =>
      simp only [e, Option.bind_some] at h
      cases ob with
      | lst ys =>
        cases e5 : ys.getLast? with
        | none => simp only [popOb, e5, Option.map_none] at h; exact h.elim
        | some y =>
          simp only [popOb, e5, Option.map_some] at h
          obtain ⟨a, ho, ea, q, e3, ws, e4, rw'⟩ := ref_at M e r
          subst ea e4
          rw [List.getLast?_eq_getElem?] at e5
          obtain ⟨z, hz, rz⟩ := rw'.get e5
          rw [rw'.len] at hz
          refine ⟨.inl ⟨rfl, ws, .inl (.inl e3)⟩, a, ws, z, rfl, rfl, e3, hz, ?_⟩
          have N := Nx.write (o := .lst ys.dropLast) (ho := .lst ws.dropLast) M q trivial ⟨_, rfl, rw'.dropLast⟩ (fun x hx hn => ltL_dropLast (old_ok M e x hx hn))
          exact h _ _ _ N (Rel.mono N.gr _ _ rz)
      | dK _ _ => exact h.elim
      | dT _ _ => exact h.elim
  | _ => exact h.elim

/-! ### x[i] = v -/
theorem zip_rep {κ : Type} [DecidableEq κ] (k : κ) (v : V) : ∀ {ks : List κ} {vs : List V}, ks.length = vs.length → ((ks.zip vs).map fun kv => if kv.1 = k then (kv.1, v) else kv) = ks.zip (List.zipWith (fun l w => if l = k then v else w) ks vs)
  | [], [], _ => rfl
  | [], _ :: _, h => by cases h
  | _ :: _, [], h => by cases h
  | l :: ls, w :: ws, h => by
    show (if l = k then (l, v) else (l, w)) :: _ = (l, if l = k then v else w) :: _
    have ih : (List.zipWith Prod.mk ls ws).map (fun kv => if kv.1 = k then (kv.1, v) else kv) = _ := zip_rep k v (ks := ls) (vs := ws) (by simpa using h)
    rw [ih]
    by_cases hk : l = k
    · rw [if_pos hk, if_pos hk]; rfl
    · rw [if_neg hk, if_neg hk]; rfl
theorem rep_rel {κ : Type} [DecidableEq κ] (k : κ) {d : D} {v : V} (rv : Rel c.K hid H ρ d v) : ∀ {ks : List κ} {ds : List D} {vs : List V}, Rels c.K hid H ρ ds vs → ks.length = vs.length → Rels c.K hid H ρ (repV k d ks ds) (List.zipWith (fun l w => if l = k then v else w) ks vs)
  | [], _, _, _, _ => rfl
  | _ :: _, [], _, r, h => by
    have e : _ = [] := r
    subst e
    cases h
  | l :: ls, x :: ds, _, r, h => by
    obtain ⟨w, r', e, h1, h2⟩ := r
    subst e
    refine ⟨if l = k then v else w, _, rfl, ?_, rep_rel k rv h2 (by simpa using h)⟩
    by_cases hk : l = k
    · rw [if_pos hk, if_pos hk]; exact rv
    · rw [if_neg hk, if_neg hk]; exact h1
theorem any_zip {κ : Type} [DecidableEq κ] (k : κ) : ∀ {ks : List κ} {vs : List V}, ks.length = vs.length → ((ks.zip vs).any fun kv => decide (kv.1 = k)) = ks.any fun l => decide (l = k)
  | [], [], _ => rfl
  | [], _ :: _, h => by cases h
  | _ :: _, [], h => by cases h
  | l :: ls, w :: ws, h => by
    show (decide (l = k) || (ls.zip ws).any _) = (decide (l = k) || ls.any _)
    rw [any_zip k (ks := ls) (vs := ws) (by simpa using h)]
theorem put_rel {κ : Type} [DecidableEq κ] (k : κ) {d : D} {v : V} (rv : Rel c.K hid H ρ d v) {ks : List κ} {ds : List D} {vs : List V} (r : Rels c.K hid H ρ ds vs) (h : ks.length = vs.length) :
    ∃ ws, L2.putK (ks.zip vs) k v = (putV k d ks ds).1.zip ws ∧ (putV k d ks ds).1.length = ws.length ∧ Rels c.K hid H ρ (putV k d ks ds).2 ws := by
  unfold L2.putK putV
  rw [any_zip k h]
  by_cases hk : (ks.any fun l => decide (l = k)) = true
  · rw [if_pos hk, if_pos hk]
    exact ⟨_, zip_rep k v h, by rw [List.length_zipWith, h, Nat.min_self], rep_rel k rv r h⟩
  · rw [if_neg hk, if_neg hk]
    refine ⟨vs ++ [v], ?_, by rw [List.length_append, List.length_append, h]; rfl, r.app (Rels.one rv)⟩
    rw [List.zip_append h]
    rfl
/-- the places of a store x[i] = v -/
def rSetD : V → V → V → Hp → (Hp → Prop) → Prop := fun o i v H Q => (∃ p xs k j, o = .ref p ∧ i = .int k ∧ H p = some (.lst xs) ∧ L2.ixN xs.length k = some j ∧ Q (upd H p (.lst (xs.set j v)))) ∨
  ∃ a H', o = .ref a ∧ DPut H a i v H' ∧ Q H'
theorem set_spec {x i d : D} {o w v : V} {st' : Stt} {Qh : Hp → Prop} (M : Mt c hid ρ st H) (rx : Rel c.K hid H ρ x o) (ri : Rel c.K hid H ρ i w) (rv : Rel c.K hid H ρ d v) (h : setD c.b x i d st = some st') (q : ∀ H', Nx c hid ρ H ρ st' H' → Qh H') : rSetD o w v H Qh := by
  cases x with
  | ref n =>
    simp only [setD] at h
    by_cases hb : (decide (c.b ≤ n) || d.lt 0) = true
    · rw [if_pos hb] at h
      obtain ⟨ob, e, h1⟩ := Option.bind_eq_some_iff.mp h
      obtain ⟨ob', hob, es⟩ := Option.map_eq_some_iff.mp h1
      subst es
      obtain ⟨a, ho, ea, hq, e3, hx⟩ := ref_at M e rx
      subst ea
      cases ob with
      | lst xs =>
        cases i with
        | int k =>
          cases ri
          obtain ⟨j, hj, es⟩ := Option.map_eq_some_iff.mp (show (L2.ixN xs.length k).map (fun j => Ob.lst (xs.set j d)) = some ob' from hob)
          obtain ⟨ws, e4, rw'⟩ := hx
          subst e4 es
          refine .inl ⟨a, ws, k, j, rfl, rfl, e3, by rw [← rw'.len]; exact hj, q _ ?_⟩
          exact Nx.write (o := .lst (xs.set j d)) M hq trivial ⟨_, rfl, rw'.set j rv⟩ (fun x hx hn => ltL_set (put_ok M hb x hx hn) j (old_ok M e x hx hn))
        | _ => cases hob
      | dK ks ds =>
        obtain ⟨k, hk, h1⟩ := Option.bind_eq_some_iff.mp (show (asKey i).bind (fun k => if ks.length < sz then some (Ob.dK (putV k d ks ds).1 (putV k d ks ds).2) else none) = some ob' from hob)
        by_cases hz : ks.length < sz
        · rw [if_pos hz] at h1
          cases h1
          obtain ⟨ws, e4, l, rw'⟩ := hx
          subst e4
          have ew := asKey_rel hk ri
          subst ew
          obtain ⟨us, e5, l5, r5⟩ := put_rel k rv rw' l
          refine .inr ⟨a, _, rfl, .inl ⟨_, k, e3, rfl, ?_, rfl⟩, q _ ?_⟩
          · rw [List.length_zip, l, Nat.min_self, ← l, ← sz_eq]; exact hz
          · rw [e5]
            exact Nx.write (o := .dK _ _) M hq trivial ⟨us, rfl, l5, r5⟩ (fun x hx hn => ltL_put (put_ok M hb x hx hn) k (old_ok M e x hx hn))
        · rw [if_neg hz] at h1; cases h1
      | dT ks ds =>
        cases i with
        | tup xs =>
          obtain ⟨k, hk, h1⟩ := Option.bind_eq_some_iff.mp (show (keyT (.tup xs)).bind (fun k => if ks.length < sz then some (Ob.dT (putV k d ks ds).1 (putV k d ks ds).2) else none) = some ob' from hob)
          by_cases hz : ks.length < sz
          · rw [if_pos hz] at h1
            cases h1
            obtain ⟨ws, e4, l, rw'⟩ := hx
            subst e4
            obtain ⟨b, us0, eb, hb2, rb⟩ := ri
            have ew := asKeys_rel (ds := xs) hk rb
            subst ew eb
            obtain ⟨us, e5, l5, r5⟩ := put_rel k rv rw' l
            refine .inr ⟨a, _, rfl, .inr ⟨_, k, b, e3, rfl, hb2, ?_, rfl⟩, q _ ?_⟩
            · rw [List.length_zip, l, Nat.min_self, ← l, ← sz_eq]; exact hz
            · rw [e5]
              exact Nx.write (o := .dT _ _) M hq trivial ⟨us, rfl, l5, r5⟩ (fun x hx hn => ltL_put (put_ok M hb x hx hn) k (old_ok M e x hx hn))
          · rw [if_neg hz] at h1; cases h1
        | _ => cases hob
    · rw [if_neg hb] at h; cases h
  | _ => cases h
theorem set_all {X : Cx} {k : Nat} (hr : Room k X.A) : PSet X rSetD := by
  intro pins s σ H o i v uo ui uv Q I ro ri rv h
  rcases h with ⟨p, xs, k, j, h1, h2, h3, h4, q⟩ | ⟨a, H', rfl, g, q⟩
  · exact set_list pins s σ H o i v uo ui uv Q I ro ri rv ⟨p, xs, k, j, h1, h2, h3, h4, q⟩
  · cases ro
    exact d_setItem (hu_of hr) I g ri rv fun s4 I4 => ⟨H', I4, q⟩
end
end Y
/-! Y7: the rules of expressions and tests. -/
namespace Y
open PySem PySem.Spec PyProof.Rows L2

theorem PE.imp {X : Cx} {e : Expr} {t t' : TE} (h : PE X e t) (i : ∀ σ H Q, t' σ H Q → t σ H Q) : PE X e t' := ⟨fun pins s σ H Q I q => h.run pins s σ H Q I (i σ H Q q)⟩
theorem PT.imp {X : Cx} {e : Expr} {t t' : TT} (h : PT X e t) (i : ∀ σ H Q, t' σ H Q → t σ H Q) : PT X e t' := ⟨fun pins s σ H Q I q => h.run pins s σ H Q I (i σ H Q q)⟩
theorem PA.imp {X : Cx} {e : List Expr} {t t' : TA} (h : PA X e t) (i : ∀ σ H Q, t' σ H Q → t σ H Q) : PA X e t' := ⟨fun pos pins s σ H Q I q => h.run pos pins s σ H Q I (i σ H Q q)⟩
theorem PO.imp {X : Cx} {e : Option Expr} {t t' : TO} (h : PO X e t) (i : ∀ σ H Q, t' σ H Q → t σ H Q) : PO X e t' := ⟨fun pins s σ H Q I q => h.run pins s σ H Q I (i σ H Q q)⟩

section
variable {X : Cx} {c : Cc} {W : WX} {F : Fs} {pos : Pos} {a b d : Expr} {x y z : IE} {k : Nat}
/-- the reading of a term -/
abbrev E (c : Cc) (W : WX) (F : Fs) (x : IE) : TE := T c W (evE F c.b x)
abbrev A (c : Cc) (W : WX) (F : Fs) (x : IEs) : TA := Ts c W (evL F c.b x)
abbrev C (c : Cc) (W : WX) (F : Fs) (x : IC) : TT := Tt c W (evC F c.b x)

theorem r_var {i : Nat} {n : Str} (hN : X.N[i]? = some n) (hv : Vis X.env.scope n) (hd : (n == ("__debug__" : Str)) = false) (hcd : (n == ("__classdict__" : Str)) = false) : PE X (.Name n pos) (E c W F (.var i)) :=
  PE.imp (pe_var hN hv hd hcd) fun σ H Q ⟨hid, env, st, ρ, M, En, h⟩ => by
    simp only [evE] at h
    cases e : env[i]? with
    | none => simp only [e] at h; exact h.elim
    | some o =>
      cases o with
      | none => simp only [e] at h; exact h.elim
      | some d =>
        simp only [e] at h
        obtain ⟨v, h1, h2⟩ := En.2 i d e
        exact ⟨v, h1, h.ok M h2⟩
theorem r_int {i : Int} {j : Nat} : PE X (.Constant (.int i) j pos) (E c W F (.cst (.int i))) := PE.imp pe_int fun σ H Q ⟨hid, env, st, ρ, M, En, h⟩ => by
  simp only [evE] at h
  exact h.ok M rfl
theorem r_bl {i : Bool} {j : Nat} : PE X (.Constant (.bool i) j pos) (E c W F (.cst (.bl i))) := PE.imp pe_bl fun σ H Q ⟨hid, env, st, ρ, M, En, h⟩ => by
  simp only [evE] at h
  exact h.ok M rfl
theorem r_str {i : Str} {j : Nat} : PE X (.Constant (.str i) j pos) (E c W F (.cst (.str i))) := PE.imp pe_str fun σ H Q ⟨hid, env, st, ρ, M, En, h⟩ => by
  simp only [evE] at h
  exact h.ok M rfl
theorem r_non {j : Nat} : PE X (.Constant .none j pos) (E c W F (.cst .non)) := PE.imp pe_non fun σ H Q ⟨hid, env, st, ρ, M, En, h⟩ => by
  simp only [evE] at h
  exact h.ok M rfl
/-- two parts, then r -/
theorem T2 {r : R2} {m1 m2 : Env → Stt → R D} {f : D → D → Stt → R D} {σ : L2.St} {H : Hp} {Q : VK} (h : T c W (fun env st => (m1 env st).bind fun p st => (m2 env st).bind fun q st => f p q st) σ H Q)
    (hr : ∀ hid ρ st H d e v w, Mt c hid ρ st H → Rel c.K hid H ρ d v → Rel c.K hid H ρ e w → Post c hid W σ ρ H (f d e st) (rl c hid) Q → r v w H Q) : tOp r (T c W m1) (T c W m2) σ H Q := by
  obtain ⟨hid, env, st, ρ, M, En, h⟩ := h
  refine ⟨hid, env, st, ρ, M, En, (Post.bind h).imp fun v H1 ⟨d, st1, ρ1, N, q, h1⟩ => ?_⟩
  refine ⟨hid, env, st1, ρ1, N.mt, En.mono N.gr, (Post.bind h1).imp fun w H2 ⟨e, st2, ρ2, N2, q2, h2⟩ => ?_⟩
  exact hr hid ρ2 st2 H2 d e v w N2.mt (Rel.mono N2.gr _ _ q) q2 h2
theorem r_bin (g : c.K = X.K) {o : BOp} {m : Bool} (ha : PE X a (E c W F x)) (hb : PE X b (E c W F y)) : PE X (.BinOp a (opOf o) b pos) (E c W F (.bin o m x y)) :=
  PE.imp (pe_op (op_bin o) ha hb) fun σ H Q h => by
    rw [← g]
    exact T2 (f := binD o m) (by simpa only [E, evE] using h) fun hid ρ st H d e v w M r1 r2 h => bin_spec o M r1 r2 h
theorem r_neg (ha : PE X a (E c W F x)) : PE X (.UnaryOp .USub a pos) (E c W F (.neg x)) :=
  PE.imp (pe_un un_neg ha) fun σ H Q ⟨hid, env, st, ρ, M, En, h⟩ => by
    simp only [evE] at h
    refine ⟨hid, env, st, ρ, M, En, (Post.bind h).imp fun v H1 ⟨d, st1, ρ1, N, q, h1⟩ => ?_⟩
    cases d with
    | int i => cases q; exact ⟨i, rfl, h1.ok N.mt rfl⟩
    | _ => exact h1.elim
theorem cmpR_spec {hid ρ : List Addr} {st : Stt} {H : Hp} {σ : L2.St} {Q : VK} {d e : D} {v w : V} (o : COp) (M : Mt c hid ρ st H) (r1 : Rel c.K hid H ρ d v) (r2 : Rel c.K hid H ρ e w) (h : Post c hid W σ ρ H (cmpR o d e st) (rl c hid) Q) : rCmp c.K o v w H Q := by
  unfold cmpR at h
  cases e1 : cmpD o d e st with
  | none => simp only [e1] at h; exact h.elim
  | some t => simp only [e1] at h; exact cmp_spec o M r1 r2 e1 (h.ok M rfl)
theorem r_cmp (g : c.K = X.K) (hr : Room k X.A) {o : COp} (ha : PE X a (E c W F x)) (hb : PE X b (E c W F y)) (hm : behindInMarks (copOf o) b = false) : PE X (.Compare a [copOf o] [b] pos) (E c W F (.cmp o x y)) :=
  PE.imp (pe_cmpR (op_cmp hr o) ha hb hm) fun σ H Q h => by
    rw [← g]
    exact T2 (f := cmpR o) (by simpa only [E, evE] using h) fun hid ρ st H d e v w M r1 r2 h => cmpR_spec o M r1 r2 h
theorem r_cmp2 (g : c.K = X.K) (hr : Room k X.A) {o p : COp} (ha : PE X a (E c W F x)) (hb : PE X b (E c W F y)) (hd : PE X d (E c W F z)) (hm : lastMarks [copOf o, copOf p] [b, d] = false) : PE X (.Compare a [copOf o, copOf p] [b, d] pos) (E c W F (.cmp2 o p x y z)) :=
  PE.imp (pe_chain (op_cmp hr o) (op_cmp hr p) ha hb hd hm) fun σ H Q ⟨hid, env, st, ρ, M, En, h⟩ => by
    rw [← g]
    simp only [evE] at h
    refine ⟨hid, env, st, ρ, M, En, (Post.bind h).imp fun v H1 ⟨d, st1, ρ1, N, q, h1⟩ => ?_⟩
    refine ⟨hid, env, st1, ρ1, N.mt, En.mono N.gr, (Post.bind h1).imp fun w H2 ⟨e, st2, ρ2, N2, q2, h2⟩ => ?_⟩
    cases e1 : cmpD o d e st2 with
    | none => simp only [e1] at h2; exact h2.elim
    | some t =>
      simp only [e1] at h2
      refine cmp_spec o N2.mt (Rel.mono N2.gr _ _ q) q2 e1 ⟨t, rfl, ?_⟩
      cases t with
      | false => exact h2.ok N2.mt rfl
      | true =>
        refine ⟨hid, env, st2, ρ2, N2.mt, (En.mono N.gr).mono N2.gr, (Post.bind h2).imp fun u H3 ⟨e', st3, ρ3, N3, q3, h3⟩ => ?_⟩
        exact cmpR_spec p N3.mt (Rel.mono N3.gr _ _ q2) q3 h3
theorem r_and {rest : List Expr} (ha : PE X a (E c W F x)) (hb : PE X (.BoolOp .And (b :: rest) pos) (E c W F y)) : PE X (.BoolOp .And (a :: b :: rest) pos) (E c W F (.and x y)) :=
  PE.imp (pe_and ha hb) fun σ H Q ⟨hid, env, st, ρ, M, En, h⟩ => by
    simp only [evE] at h
    refine ⟨hid, env, st, ρ, M, En, (Post.bind h).imp fun v H1 ⟨d, st1, ρ1, N, q, h1⟩ => ?_⟩
    cases d with
    | bl t =>
      cases q
      refine ⟨t, rfl, ?_⟩
      cases t with
      | true => exact ⟨hid, env, st1, ρ1, N.mt, En.mono N.gr, h1⟩
      | false => exact h1.ok N.mt rfl
    | _ => exact h1.elim
theorem r_or {rest : List Expr} (ha : PE X a (E c W F x)) (hb : PE X (.BoolOp .Or (b :: rest) pos) (E c W F y)) : PE X (.BoolOp .Or (a :: b :: rest) pos) (E c W F (.or x y)) :=
  PE.imp (pe_or ha hb) fun σ H Q ⟨hid, env, st, ρ, M, En, h⟩ => by
    simp only [evE] at h
    refine ⟨hid, env, st, ρ, M, En, (Post.bind h).imp fun v H1 ⟨d, st1, ρ1, N, q, h1⟩ => ?_⟩
    cases d with
    | bl t =>
      cases q
      refine ⟨t, rfl, ?_⟩
      cases t with
      | false => exact ⟨hid, env, st1, ρ1, N.mt, En.mono N.gr, h1⟩
      | true => exact h1.ok N.mt rfl
    | _ => exact h1.elim
theorem r_not (ha : PE X a (E c W F x)) : PE X (.UnaryOp .Not a pos) (E c W F (.not x)) :=
  PE.imp (pe_not ha) fun σ H Q ⟨hid, env, st, ρ, M, En, h⟩ => by
    simp only [evE] at h
    refine ⟨hid, env, st, ρ, M, En, (Post.bind h).imp fun v H1 ⟨d, st1, ρ1, N, q, h1⟩ => ?_⟩
    cases d with
    | bl t =>
      cases q
      exact ⟨t, rfl, h1.ok N.mt rfl⟩
    | _ => exact h1.elim
theorem r_ife {t : Expr} {ic : IC} (ht : PT X t (C c W F ic)) (ha : PE X a (E c W F x)) (hb : PE X b (E c W F y)) : PE X (.IfExp t a b pos) (E c W F (.ife ic x y)) :=
  PE.imp (pe_ifExp ht ha hb) fun σ H Q ⟨hid, env, st, ρ, M, En, h⟩ => by
    simp only [evE] at h
    refine ⟨hid, env, st, ρ, M, En, (Post.bind h).imp fun v H1 ⟨d, st1, ρ1, N, q, h1⟩ => ?_⟩
    cases q
    cases v with
    | true => exact ⟨hid, env, st1, ρ1, N.mt, En.mono N.gr, h1⟩
    | false => exact ⟨hid, env, st1, ρ1, N.mt, En.mono N.gr, h1⟩

/-! ### arguments, displays -/
variable {es : List Expr} {xs : IEs}
theorem r_nil : PA X [] (A c W F .nil) := PA.imp pa_nil fun σ H Q ⟨hid, env, st, ρ, M, En, h⟩ => by
  simp only [evL] at h
  exact h.ok M rfl
theorem r_cons (ha : PE X a (E c W F x)) (hr : PA X es (A c W F xs)) (hs : starEach (a :: es) X.env = (false, eval a X.env) :: starEach es X.env) : PA X (a :: es) (A c W F (.cons x xs)) :=
  PA.imp (pa_cons ha hr hs) fun σ H Q ⟨hid, env, st, ρ, M, En, h⟩ => by
    simp only [evL] at h
    refine ⟨hid, env, st, ρ, M, En, (Post.bind h).imp fun v H1 ⟨d, st1, ρ1, N, q, h1⟩ => ?_⟩
    refine ⟨hid, env, st1, ρ1, N.mt, En.mono N.gr, (Post.bind h1).imp fun vs H2 ⟨ds, st2, ρ2, N2, q2, h2⟩ => ?_⟩
    exact h2.ok N2.mt ⟨v, vs, rfl, Rel.mono N2.gr _ _ q, q2⟩
theorem r_tup {j : Nat} (h : PA X es (A c W F xs)) : PE X (.Tuple es j pos) (E c W F (.tup xs)) :=
  PE.imp (pe_tup h) fun σ H Q ⟨hid, env, st, ρ, M, En, h⟩ => by
    simp only [evE] at h
    refine ⟨hid, env, st, ρ, M, En, (Post.bind h).imp fun vs H1 ⟨ds, st1, ρ1, N, q, h1⟩ => ?_⟩
    obtain ⟨hz, h2⟩ := post_ifP (p := ds.length ≤ sz) h1
    exact ⟨by rw [← Rels.len q, ← sz_eq]; exact hz, newT_post h2 N.mt q⟩
theorem r_lst {m : Bool} (h : PA X es (A c W F xs)) : PE X (.List es pos) (E c W F (.lst m xs)) :=
  PE.imp (pe_lst h) fun σ H Q ⟨hid, env, st, ρ, M, En, h⟩ => by
    simp only [evE] at h
    refine ⟨hid, env, st, ρ, M, En, (Post.bind h).imp fun vs H1 ⟨ds, st1, ρ1, N, q, h1⟩ => ?_⟩
    obtain ⟨hz, h2⟩ := post_ifP (p := ds.length ≤ sz) h1
    exact ⟨by rw [← Rels.len q, ← sz_eq]; exact hz, newL_post h2 N.mt q⟩
theorem r_ix (g : c.K = X.K) (hr : Room k X.A) (ha : PE X a (E c W F x)) (hb : PE X b (E c W F y)) (hs : PlainIx b) : PE X (.Subscript a b pos) (E c W F (.ix x y)) :=
  PE.imp (pe_ix (ix_all hr) ha hb hs) fun σ H Q h => by
    rw [← g]
    refine T2 (f := getR) (by simpa only [E, evE] using h) fun hid ρ st H d e v w M r1 r2 h => ?_
    unfold getR at h
    cases e1 : Y.getD st d e with
    | none => simp only [e1] at h; exact h.elim
    | some t => simp only [e1] at h; exact ix_spec M r1 r2 e1 fun z hz => h.ok M hz
theorem r_onon : PO X none (To c W (evO F c.b .non)) := PO.imp po_none fun σ H Q ⟨hid, env, st, ρ, M, En, h⟩ => by
  simp only [evO] at h
  exact h.ok M rfl
theorem r_osom (ha : PE X a (E c W F x)) : PO X (some a) (To c W (evO F c.b (.som x))) := PO.imp (po_some ha) fun σ H Q ⟨hid, env, st, ρ, M, En, h⟩ => by
  simp only [evO] at h
  refine ⟨hid, env, st, ρ, M, En, (Post.bind h).imp fun v H1 ⟨d, st1, ρ1, N, q, h1⟩ => ?_⟩
  cases d with
  | int i => cases q; exact ⟨i, rfl, h1.ok N.mt rfl⟩
  | _ => exact h1.elim
theorem cut_all {α : Type} {xs : List α} {lo hi : Option Int} (h : HT.sIx xs.length 0 lo = 0 ∧ HT.sIx xs.length xs.length hi = xs.length) : Y.cut xs lo hi = xs := by
  unfold Y.cut
  rw [h.1, h.2]
  simp
theorem r_sl {p2 : Pos} {lo hi : Option Expr} {il ih : IEo} (g : c.K = X.K) (ha : PE X a (E c W F x)) (hl : PO X lo (To c W (evO F c.b il))) (hh : PO X hi (To c W (evO F c.b ih))) :
    PE X (.Subscript a (.Slice lo hi none p2) pos) (E c W F (.sl x il ih)) :=
  PE.imp (pe_slice (SlR.or sl_tupA sl_list) ha hl hh) fun σ H Q ⟨hid, env, st, ρ, M, En, h⟩ => by
    rw [← g]
    simp only [evE] at h
    refine ⟨hid, env, st, ρ, M, En, (Post.bind h).imp fun v H1 ⟨d, st1, ρ1, N, q, h1⟩ => ?_⟩
    refine ⟨hid, env, st1, ρ1, N.mt, En.mono N.gr, (Post.bind h1).imp fun l H2 ⟨l', st2, ρ2, N2, q2, h2⟩ => ?_⟩
    cases q2
    refine ⟨hid, env, st2, ρ2, N2.mt, (En.mono N.gr).mono N2.gr, (Post.bind h2).imp fun u H3 ⟨u', st3, ρ3, N3, q3, h3⟩ => ?_⟩
    cases q3
    have q' := Rel.mono (N2.gr.trans N3.gr) _ _ q
    have lst : ∀ {d : D}, Rel c.K hid H3 ρ3 d v → Post c hid W σ ρ3 H3 (match lstOf st3 d with
        | some xs => .ok (.lst (Y.cut xs l u)) st3
        | none => .no) (rl c hid) Q → rSlL c.K v l u H3 Q := fun {d} r h => by
      cases e : lstOf st3 d with
      | none => simp only [e] at h; exact h.elim
      | some ys =>
        simp only [e] at h
        obtain ⟨p, vs, ea, fa, ra⟩ := lst_of N3.mt e r
        exact ⟨p, vs, ea, .inl fa, newF_post h N3.mt (ra.cut l u)⟩
    cases d with
    | tup ys =>
      obtain ⟨p, vs, e, f, r⟩ := q'
      have h3 : Post c hid W σ ρ3 H3 (.ok (.tup (Y.cut ys l u)) st3) (rl c hid) Q := h3
      refine .inl ⟨p, vs, e, .inl (.inl f), fun hw => ?_, fun _ => newT_post h3 N3.mt (r.cut l u)⟩
      rw [cut_all (by rw [Rels.len r]; exact hw)] at h3
      exact h3.ok N3.mt ⟨p, vs, rfl, f, r⟩
    | rd ys =>
      obtain ⟨p, vs, e, f, r⟩ := q'
      exact .inr ⟨p, vs, e, f.elim (fun f => .inl f.1) .inr, newF_post h3 N3.mt (r.cut l u)⟩
    | lst ys => exact .inr (lst q' h3)
    | ref n => exact .inr (lst q' h3)
    | _ => exact h3.elim

/-! ### tests -/
theorem ct_val (g : c.K = X.K) (ha : PE X a (E c W F x)) (he : ∀ whole, isTrue a X.env whole = (do let v ← whole; standAt a.pos; holding [v] (truthy v))) : PT X a (C c W F (.val x)) :=
  PT.imp (pt_truth ha he) fun σ H Q ⟨hid, env, st, ρ, M, En, h⟩ => by
    rw [← g]
    simp only [evC] at h
    refine ⟨hid, env, st, ρ, M, En, (Post.bind h).imp fun v H1 ⟨d, st1, ρ1, N, q, h1⟩ => ?_⟩
    cases e : truth st1 d with
    | none => simp only [e] at h1; exact h1.elim
    | some t => simp only [e] at h1; exact ⟨t, truth_spec N.mt q e, h1.ok N.mt rfl⟩
/-- a comparison, as a test: its value is a bool -/
theorem ct_test {t : TE} (h : PT X a (tTest t)) (ht : ∀ σ H Q, E c W F x σ H Q → t σ H Q) (hb : ∀ env st d st', evE F c.b x env st = .ok d st' → ∃ k, d = .bl k) : PT X a (C c W F (.val x)) :=
  PT.imp h fun σ H Q ⟨hid, env, st, ρ, M, En, h⟩ => by
    simp only [evC] at h
    refine ht σ H _ ⟨hid, env, st, ρ, M, En, ?_⟩
    cases e : evE F c.b x env st with
    | ok d st' =>
      obtain ⟨k, ed⟩ := hb env st d st' e
      subst ed
      rw [e] at h
      intro v H' ρ' N q
      cases q
      exact ⟨k, rfl, h k H' ρ' N rfl⟩
    | ex e' d st' => rw [e] at h; exact h
    | no => rw [e] at h; exact h
theorem bind_ok {α β : Type} {r : R α} {f : α → Stt → R β} {d : β} {st : Stt} (h : r.bind f = .ok d st) : ∃ x st1, r = .ok x st1 ∧ f x st1 = .ok d st := by
  cases r with
  | ok x s => exact ⟨x, s, rfl, h⟩
  | ex _ _ _ => cases h
  | no => cases h
theorem cmpR_bl {o : COp} {d e r : D} {st st' : Stt} (h : cmpR o d e st = .ok r st') : ∃ k, r = .bl k := by
  unfold cmpR at h
  cases e1 : cmpD o d e st with
  | none => simp only [e1] at h; cases h
  | some t => simp only [e1] at h; cases h; exact ⟨t, rfl⟩
theorem ct_cmp (g : c.K = X.K) (hr : Room k X.A) {o : COp} (ha : PE X a (E c W F x)) (hb : PE X b (E c W F y)) (hm : behindInMarks (copOf o) b = false) : PT X (.Compare a [copOf o] [b] pos) (C c W F (.val (.cmp o x y))) :=
  ct_test (pt_cmpR (op_cmp hr o) ha hb hm) (fun σ H Q h => by
    rw [← g]
    exact T2 (f := cmpR o) (by simpa only [E, evE] using h) fun hid ρ st H d e v w M r1 r2 h => cmpR_spec o M r1 r2 h) fun env st d st' h => by
      simp only [evE] at h
      obtain ⟨p, s1, _, h⟩ := bind_ok h
      obtain ⟨q, s2, _, h⟩ := bind_ok h
      exact cmpR_bl h
theorem c2_bl {o p : COp} {env : Env} {st st' : Stt} {d : D} (h : evE F c.b (.cmp2 o p x y z) env st = .ok d st') : ∃ k, d = .bl k := by
  simp only [evE] at h
  obtain ⟨d1, s1, _, h⟩ := bind_ok h
  obtain ⟨d2, s2, _, h⟩ := bind_ok h
  cases e1 : cmpD o d1 d2 s2 with
  | none => simp only [e1] at h; cases h
  | some t =>
    simp only [e1] at h
    cases t with
    | false => cases h; exact ⟨false, rfl⟩
    | true =>
      obtain ⟨d3, s3, _, h⟩ := bind_ok h
      exact cmpR_bl h
theorem ct_cmp2 (g : c.K = X.K) (hr : Room k X.A) {o p : COp} (ha : PE X a (E c W F x)) (hb : PE X b (E c W F y)) (hd : PE X d (E c W F z)) (hm : lastMarks [copOf o, copOf p] [b, d] = false) : PT X (.Compare a [copOf o, copOf p] [b, d] pos) (C c W F (.val (.cmp2 o p x y z))) :=
  ct_test (pt_chain (op_cmp hr o) (op_cmp hr p) ha hb hd hm) (fun σ H Q ⟨hid, env, st, ρ, M, En, h⟩ => by
    rw [← g]
    simp only [evE] at h
    refine ⟨hid, env, st, ρ, M, En, (Post.bind h).imp fun v H1 ⟨d, st1, ρ1, N, q, h1⟩ => ?_⟩
    refine ⟨hid, env, st1, ρ1, N.mt, En.mono N.gr, (Post.bind h1).imp fun w H2 ⟨e, st2, ρ2, N2, q2, h2⟩ => ?_⟩
    cases e1 : cmpD o d e st2 with
    | none => simp only [e1] at h2; exact h2.elim
    | some t =>
      simp only [e1] at h2
      refine cmp_spec o N2.mt (Rel.mono N2.gr _ _ q) q2 e1 ⟨t, rfl, ?_⟩
      cases t with
      | false => exact h2.ok N2.mt rfl
      | true =>
        refine ⟨hid, env, st2, ρ2, N2.mt, (En.mono N.gr).mono N2.gr, (Post.bind h2).imp fun u H3 ⟨e', st3, ρ3, N3, q3, h3⟩ => ?_⟩
        exact cmpR_spec p N3.mt (Rel.mono N3.gr _ _ q2) q3 h3) fun env st d st' h => c2_bl h
theorem ct_and1 {ia : IC} (ha : PT X a (C c W F ia)) : PW X (.BoolOp .And [a] pos) (C c W F ia) := pw_and1 ha
theorem ct_or1 {ia : IC} (ha : PT X a (C c W F ia)) : PW X (.BoolOp .Or [a] pos) (C c W F ia) := pw_or1 ha
theorem PW.imp {e : Expr} {t t' : TT} (h : PW X e t) (i : ∀ σ H Q, t' σ H Q → t σ H Q) : PW X e t' := ⟨fun w pins s σ H Q I q => h.run w pins s σ H Q I (i σ H Q q)⟩
theorem ct_and {ia ib : IC} {rest : List Expr} (ha : PT X a (C c W F ia)) (hb : PW X (.BoolOp .And (b :: rest) pos) (C c W F ib)) : PW X (.BoolOp .And (a :: b :: rest) pos) (C c W F (.and ia ib)) :=
  PW.imp (pw_and ha hb) fun σ H Q ⟨hid, env, st, ρ, M, En, h⟩ => by
    simp only [evC] at h
    refine ⟨hid, env, st, ρ, M, En, (Post.bind h).imp fun v H1 ⟨d, st1, ρ1, N, q, h1⟩ => ?_⟩
    cases q
    cases v with
    | true => exact ⟨hid, env, st1, ρ1, N.mt, En.mono N.gr, h1⟩
    | false => exact Post.ok (c := c) h1 N.mt rfl
theorem ct_or {ia ib : IC} {rest : List Expr} (ha : PT X a (C c W F ia)) (hb : PW X (.BoolOp .Or (b :: rest) pos) (C c W F ib)) : PW X (.BoolOp .Or (a :: b :: rest) pos) (C c W F (.or ia ib)) :=
  PW.imp (pw_or ha hb) fun σ H Q ⟨hid, env, st, ρ, M, En, h⟩ => by
    simp only [evC] at h
    refine ⟨hid, env, st, ρ, M, En, (Post.bind h).imp fun v H1 ⟨d, st1, ρ1, N, q, h1⟩ => ?_⟩
    cases q
    cases v with
    | false => exact ⟨hid, env, st1, ρ1, N.mt, En.mono N.gr, h1⟩
    | true => exact Post.ok (c := c) h1 N.mt rfl
theorem ct_not {ia : IC} (ha : PT X a (C c W F ia)) : PT X (.UnaryOp .Not a pos) (C c W F (.not ia)) :=
  PT.imp (pt_not ha) fun σ H Q ⟨hid, env, st, ρ, M, En, h⟩ => by
    simp only [evC] at h
    refine ⟨hid, env, st, ρ, M, En, (Post.bind h).imp fun v H1 ⟨d, st1, ρ1, N, q, h1⟩ => ?_⟩
    cases q
    exact Post.ok (c := c) h1 N.mt rfl
end
end Y
/-! Y8: what is walked: lists and tuples alike, enumerate, zip. -/
namespace Y
open PySem PySem.Spec PyProof.Rows L2

/-- a list or a tuple that is walked -/
inductive Src where
  | l (a : Addr)
  | t (a : Addr)
def Src.a : Src → Addr
  | .l a => a
  | .t a => a
def Src.Is (K : PySem.W.Frag) (H : Hp) : Src → List V → Prop
  | .l a, xs => SqL K H a xs
  | .t a, xs => SqT K H a xs
def Src.st (h : Heap) (it : Addr) (i : Nat) : Src → Prop
  | .l a => h.IsListIter it a i
  | .t a => h.IsTupleIter it a i
def Src.ob (h : Heap) (its : Array Value) : Src → Prop
  | .l a => h.IsList a its
  | .t a => h.IsTuple a its
def Src.new : Src → Obj
  | .l a => { cls := .type "list_iterator", data := .fields #[.ref a, .int 0 0] }
  | .t a => { cls := .type "tuple_iterator", data := .fields #[.ref a, .int 0 0] }
section
variable {X : Cx} {pins : List (Addr × Obj)} {σ : L2.St} {H : Hp} {s : Shared}
theorem Src.at (I : Inv X pins σ H s) {src : Src} {xs : List V} (h : src.Is X.K H xs) : ∃ its : List Value, Vals xs its ∧ src.ob s.heap its.toArray ∧ src.a < s.heap.objs.size := by
  cases src with
  | l a =>
    obtain ⟨its, r, p, _⟩ := I.list h
    exact ⟨its, r, p.isList, p.lt⟩
  | t a =>
    obtain ⟨its, r, p, _⟩ := I.tuple h
    exact ⟨its, r, p, p.lt⟩
theorem Src.inj (I : Inv X pins σ H s) {src : Src} {xs ys : List V} (h : src.Is X.K H xs) (h' : src.Is X.K H ys) : xs = ys := by
  cases src with
  | l a => exact I.list_inj h h'
  | t a => exact I.tuple_inj h h'
theorem Src.draws {prog : Program} {w : World} {A : Around} (hh : A.handled = none) (src : Src) (it : Addr) (hne : src.a ≠ it) (items : Array Value) :
    Draws prog w A it [it, src.a] items.size (fun i v => items[i]? = some v) (fun i h => src.st h it i ∧ src.ob h items) := by
  cases src with
  | l a => exact Draws.list hh it a hne items
  | t a => exact Draws.tuple hh it a hne items
theorem Src.begins (src : Src) (items : Array Value) : Begins (.ref src.a) src.new fun h => src.ob h items := by
  cases src with
  | l a => exact begins_list a items
  | t a => exact begins_tuple a items
theorem Src.st_new {h : Heap} {it : Addr} (src : Src) (e : h.get? it = some src.new) : src.st h it 0 := by
  cases src with
  | l a => exact ⟨_, e, rfl, rfl⟩
  | t a => exact ⟨_, e, rfl, rfl⟩
theorem Src.st_obj {h : Heap} {it : Addr} {i : Nat} (src : Src) (st : src.st h it i) : ∃ o, h.get? it = some o ∧ ∀ v, o.data ≠ .cell v := by
  cases src with
  | l a => obtain ⟨o, e, c, d⟩ := st; exact ⟨o, e, fun v z => by rw [d] at z; cases z⟩
  | t a => obtain ⟨o, e, c, d⟩ := st; exact ⟨o, e, fun v z => by rw [d] at z; cases z⟩
theorem Src.st_at {h h' : Heap} {it : Addr} {i : Nat} (src : Src) (st : src.st h it i) (k : ∀ o, h.get? it = some o → h'.get? it = some o) : src.st h' it i := by
  cases src with
  | l a => exact st.at k
  | t a => exact st.at k
end

/-! ### enumerate -/
def ItE (K : PySem.W.Frag) (src : Src) (k : Int) : It :=
  ⟨fun i H => ∃ (xs : List V) (x : V), src.Is K H xs ∧ xs[i]? = some x, fun i H v H' => ∃ T x, v = .ref T ∧ H T = none ∧ H' = upd H T (.tup [.int (k + (i : Nat)), x]) ∧ ∀ xs, src.Is K H xs → xs[i]? = some x, fun i H => ∃ xs : List V, src.Is K H xs ∧ xs.length = i⟩
theorem turn_enumS {P : Program} {w : World} {K : PySem.W.Frag} {elts : List Expr} {kk : Nat} {tpos : Pos} (src : Src) (k : Int) (e it : Addr) :
    Turn P w K (.Tuple elts kk tpos) (ItE K src k) [e, it] e (fun i h => (∃ old, IsEnum h e it (k + (i : Nat)) old) ∧ src.st h it i ∧ e ≠ it ∧ src.a ≠ it ∧ src.a ≠ e) where
  mem := by simp
  obj := fun i h st b hb => by
    obtain ⟨⟨old, he⟩, hs, _⟩ := st
    have e' : b = e ∨ b = it := by simpa using hb
    rcases e' with z | z
    · rw [z]; exact ⟨_, he, fun v q => nomatch q⟩
    · rw [z]; exact src.st_obj hs
  keep := fun i h h' st k => let ⟨⟨old, he⟩, hi, hne⟩ := st; ⟨⟨old, k e (by simp) _ he⟩, src.st_at hi fun o q => k it (by simp) o q, hne⟩
  item := by
    intro X hP hw hK hc i pins s σ H E I hf st hg
    subst hP hw hK
    obtain ⟨⟨old, he⟩, hit, hne, ha1, ha2⟩ := st
    obtain ⟨xs, x, hq, hx⟩ := hg
    obtain ⟨its, rv, p, hz⟩ := Src.at I hq
    obtain ⟨u, hu, ru⟩ := rv.get hx
    have hel : e < s.heap.objs.size := Heap.lt_size he
    have hil : it < s.heap.objs.size := by obtain ⟨_, q, _⟩ := src.st_obj hit; exact Heap.lt_size q
    have hlt : i < its.toArray.size := by
      rw [List.size_toArray]
      exact (List.getElem?_eq_some_iff.mp hu).1
    refine wpAny_pyNext_enum_itemC (src.draws (prog := X.prog) (w := X.w) (A := X.A.in1) (I.ok.hd hc) it ha1 its.toArray) he ⟨hit, p⟩ hlt hne (by simp; exact ⟨hne, Ne.symm ha2⟩) fun x' h' tk hP' ho hst' hT hsz hk => ?_
    have ex : x' = u := Option.some.inj (hP'.symm.trans (by simpa using hu))
    subst ex
    refine ⟨_, rfl, wpAny_letOwnedTupleGo_enum (s := { s with heap := h', toks := tk + 1 }) ho fun h'' he' sb => ?_⟩
    have hT2 : h''.get? s.heap.objs.size = some { cls := .type "tuple", data := .seq #[.int (k + (i : Nat)) tk, x'] } := (sb.2 _ (Nat.ne_of_gt hel)).trans hT
    have new : ObjOk X.prog X.w (upd H s.heap.objs.size (.tup [.int (k + (i : Nat)), x])) h'' s.heap.objs.size (.tup [.int (k + (i : Nat)), x]) :=
      ⟨by show 2 ≤ sizeLine; decide, [.int (k + (i : Nat)) tk, x'], .cons ⟨_, rfl⟩ (.cons ru .nil), ⟨_, hT2, rfl, _, rfl⟩⟩
    have I1 : Inv X pins σ (upd H s.heap.objs.size (.tup [.int (k + (i : Nat)), x])) { s with heap := h'', toks := tk + 1 } :=
      I.turnedNew (ch := [e, it]) (fun b ob hb q => (sb.2 b (fun z => hb (by simp [z]))).trans (hk b ob (fun z => hb (by simp [z])) (fun z => hb (by simp [z])) q)) hf (Nat.le_refl _) new
    refine ⟨.ref s.heap.objs.size, _, I1, rfl, ⟨_, x, rfl, I.hok.fresh (Nat.le_refl _), rfl, fun ys hy => by rw [Src.inj I hy hq]; exact hx⟩, ⟨⟨x', ?_⟩, src.st_at hst'.1 fun o q => (sb.2 it (Ne.symm hne)).trans q, hne, ha1, ha2⟩, fun b hb => ?_⟩
    · have e1 : k + ((i + 1 : Nat) : Int) = k + (i : Nat) + 1 := by omega
      rw [e1]; exact he'
    · have hb' : b < s.heap.objs.size := by
        have e' : b = e ∨ b = it := by simpa using hb
        rcases e' with z | z
        · rw [z]; exact hel
        · rw [z]; exact hil
      rw [upd_ne (Nat.ne_of_lt hb')]
      exact (hf b hb).1
  done := by
    intro X hP hw hK hc i pins s σ H E I hf st hg
    subst hP hw hK
    obtain ⟨⟨old, he⟩, hit, hne, ha1, ha2⟩ := st
    obtain ⟨xs, hq, hx⟩ := hg
    obtain ⟨its, rv, p, hz⟩ := Src.at I hq
    obtain ⟨f0, f1, f2, f3, f4, f5⟩ := hf it (by simp)
    have hl := rv.length
    have ei : its.toArray.size = i := by rw [List.size_toArray, ← hl, hx]
    exact wpAny_pyNext_enum_endD (src.draws (prog := X.prog) (w := X.w) (A := X.A.in1) (I.ok.hd hc) it ha1 its.toArray) he (by rw [ei]; exact ⟨hit, p⟩) fun h' eb => ⟨rfl, I.turned (t' := s.toks) (fun b o hb q => eb b o hb q) f0 f1 f3 f4 f5⟩
  self := fun A i s Q E st h => let ⟨⟨_, he⟩, _⟩ := st; wpAny_pyIter_enum he h

/-! ### zip of two -/
def ItZ (K : PySem.W.Frag) (a b : Src) : It :=
  ⟨fun i H => ∃ (xs ys : List V) (x y : V), a.Is K H xs ∧ b.Is K H ys ∧ xs[i]? = some x ∧ ys[i]? = some y,
    fun i H v H' => ∃ T x y, v = .ref T ∧ H T = none ∧ H' = upd H T (.tup [x, y]) ∧ (∀ xs, a.Is K H xs → xs[i]? = some x) ∧ ∀ ys, b.Is K H ys → ys[i]? = some y,
    fun i H => ∃ xs ys : List V, a.Is K H xs ∧ b.Is K H ys ∧ i ≤ xs.length ∧ i ≤ ys.length ∧ (i = xs.length ∨ i = ys.length)⟩
theorem turn_zipS {P : Program} {w : World} {K : PySem.W.Frag} {elts : List Expr} {kk : Nat} {tpos : Pos} {a b : Src} {z TI TO i1 i2 : Addr} (S : ZipSep2 z TI TO i1 i2 [i1, a.a] [i2, b.a]) (ha : a.a ≠ i1) (hb : b.a ≠ i2) :
    Turn P w K (.Tuple elts kk tpos) (ItZ K a b) [z, TI, TO, i1, i2] z (fun i h => IsZip h z TI TO .none ∧ IsTupOf2 h TI (.ref i1) (.ref i2) ∧ (∃ x y, IsTupOf2 h TO x y) ∧ a.st h i1 i ∧ b.st h i2 i) where
  mem := by simp
  obj := fun i h st c hc => by
    obtain ⟨hz, hTI, ⟨x, y, hTO⟩, h1, h2⟩ := st
    have e' : c = z ∨ c = TI ∨ c = TO ∨ c = i1 ∨ c = i2 := by simpa using hc
    rcases e' with q | q | q | q | q
    · rw [q]; exact ⟨_, hz, fun v q => nomatch q⟩
    · rw [q]; exact ⟨_, hTI, fun v q => nomatch q⟩
    · rw [q]; exact ⟨_, hTO, fun v q => nomatch q⟩
    · rw [q]; exact a.st_obj h1
    · rw [q]; exact b.st_obj h2
  keep := fun i h h' st k => by
    obtain ⟨hz, hTI, ⟨x, y, hTO⟩, h1, h2⟩ := st
    exact ⟨k z (by simp) _ hz, k TI (by simp) _ hTI, ⟨x, y, k TO (by simp) _ hTO⟩, a.st_at h1 fun o q => k i1 (by simp) o q, b.st_at h2 fun o q => k i2 (by simp) o q⟩
  item := by
    intro X hP hw hK hc i pins s σ H E I hf st hg
    subst hP hw hK
    obtain ⟨hz, hTI, ⟨x0, y0, hTO⟩, h1, h2⟩ := st
    obtain ⟨xs, ys, x, y, hqx, hqy, hx, hy⟩ := hg
    obtain ⟨its, rv, p, _⟩ := Src.at I hqx
    obtain ⟨its2, rv2, p2, _⟩ := Src.at I hqy
    obtain ⟨u, hu, ru⟩ := rv.get hx
    obtain ⟨u2, hu2, ru2⟩ := rv2.get hy
    have hzl : z < s.heap.objs.size := Heap.lt_size hz
    have l1 : i < its.toArray.size := by rw [List.size_toArray]; exact (List.getElem?_eq_some_iff.mp hu).1
    have l2 : i < its2.toArray.size := by rw [List.size_toArray]; exact (List.getElem?_eq_some_iff.mp hu2).1
    refine wpAny_pyNext_zipD2_item S (a.draws (prog := X.prog) (w := X.w) (A := X.A.in1) (I.ok.hd hc) i1 ha its.toArray) (b.draws (prog := X.prog) (w := X.w) (A := X.A.in1) (I.ok.hd hc) i2 hb its2.toArray) hz hTI hTO ⟨h1, p⟩ ⟨h2, p2⟩ l1 l2 fun x1 x2 h' tk y1 y2 z' TO' h1' h2' hT hsz hk => ?_
    have e1 : x1 = u := Option.some.inj (y1.symm.trans (by simpa using hu))
    have e2 : x2 = u2 := Option.some.inj (y2.symm.trans (by simpa using hu2))
    subst e1 e2
    refine ⟨_, rfl, wpAny_letOwnedTupleGo_zip (s := { s with heap := h', toks := tk }) z' fun h'' z'' sb => ?_⟩
    have hT2 : h''.get? s.heap.objs.size = some { cls := .type "tuple", data := .seq #[x1, x2] } := (sb.2 _ (Nat.ne_of_gt hzl)).trans hT
    have new : ObjOk X.prog X.w (upd H s.heap.objs.size (.tup [x, y])) h'' s.heap.objs.size (.tup [x, y]) :=
      ⟨by show 2 ≤ sizeLine; decide, [x1, x2], .cons ru (.cons ru2 .nil), ⟨_, hT2, rfl, _, rfl⟩⟩
    have I1 : Inv X pins σ (upd H s.heap.objs.size (.tup [x, y])) { s with heap := h'', toks := tk } :=
      I.turnedNew (t' := tk) (ch := [z, TI, TO, i1, i2]) (fun c o hb q => (sb.2 c (fun q' => hb (by simp [q']))).trans (hk c o (fun q' => hb (by simp [q'])) (fun q' => hb (by simp [q'])) (fun q' => hb (by simp [q'])) (fun q' => hb (by simp [q'])) q)) hf (Nat.le_refl _) new
    refine ⟨.ref s.heap.objs.size, _, I1, rfl, ⟨_, x, y, rfl, I.hok.fresh (Nat.le_refl _), rfl, fun l hl => by rw [Src.inj I hl hqx]; exact hx, fun l hl => by rw [Src.inj I hl hqy]; exact hy⟩, ⟨z'', ?_, ⟨x1, x2, ?_⟩, ?_, ?_⟩, fun c hcm => ?_⟩
    · exact (sb.2 _ S.TIz).trans (hk _ _ S.TIz S.TITO S.TIi1 S.TIi2 hTI)
    · exact (sb.2 _ S.TOz).trans TO'
    · exact a.st_at h1'.1 fun o q => (sb.2 _ S.zi1.symm).trans q
    · exact b.st_at h2'.1 fun o q => (sb.2 _ S.zi2.symm).trans q
    · have hlt : c < s.heap.objs.size := by
        have e' : c = z ∨ c = TI ∨ c = TO ∨ c = i1 ∨ c = i2 := by simpa using hcm
        rcases e' with q | q | q | q | q
        · rw [q]; exact hzl
        · rw [q]; exact Heap.lt_size hTI
        · rw [q]; exact Heap.lt_size hTO
        · rw [q]; obtain ⟨_, e1, _⟩ := a.st_obj h1; exact Heap.lt_size e1
        · rw [q]; obtain ⟨_, e2, _⟩ := b.st_obj h2; exact Heap.lt_size e2
      rw [upd_ne (Nat.ne_of_lt hlt)]
      exact (hf c hcm).1
  done := by
    intro X hP hw hK hc i pins s σ H E I hf st hg
    subst hP hw hK
    obtain ⟨hz, hTI, ⟨x0, y0, hTO⟩, h1, h2⟩ := st
    obtain ⟨xs, ys, hqx, hqy, q1, q2, hend⟩ := hg
    obtain ⟨its, rv, p, _⟩ := Src.at I hqx
    obtain ⟨its2, rv2, p2, _⟩ := Src.at I hqy
    have l1 := rv.length
    have l2 := rv2.length
    exact wpAny_pyNext_zipD2_end S (a.draws (prog := X.prog) (w := X.w) (A := X.A.in1) (I.ok.hd hc) i1 ha its.toArray) (b.draws (prog := X.prog) (w := X.w) (A := X.A.in1) (I.ok.hd hc) i2 hb its2.toArray) hz hTI hTO ⟨h1, p⟩ ⟨h2, p2⟩
      (by rw [List.size_toArray]; omega) (by rw [List.size_toArray]; omega) (by rw [List.size_toArray, List.size_toArray]; omega) fun h' tk hk => ⟨rfl, I.turnedL (t' := tk) (ch := [z, TI, TO, i1, i2]) (fun c o hb q =>
      hk c o (fun q' => hb (by simp [q'])) (fun q' => hb (by simp [q'])) (fun q' => hb (by simp [q'])) (fun q' => hb (by simp [q'])) q) hf⟩
  self := fun A i s Q E st h => wpAny_pyIter_zip st.1 h
end Y
/-! Y9: what is walked, as rules. -/
namespace PySem
open Sem (wp)
open AutoSeq1 (wpAny_loadPart')
set_option maxHeartbeats 1000000 in
theorem y_meets_enum1 {v : Value} {o : Obj} {H : Heap → Prop} (B : Begins v o H) :
    Meets (Builtin.«enumerate.__new__» ⟨[.type "enumerate", v], []⟩) (fun _ R s => H s.heap ∧
      R (.ok (.ret (.ref (s.heap.push o).objs.size))) { s with heap := (s.heap.push o).push { cls := .type "enumerate", data := .fields #[.none, .bool false, .ref s.heap.objs.size, rawInt 0, .none, .none] } }) :=
  .of_wp fun prog w A R s h => by
    obtain ⟨hp, g, d, tk, os⟩ := s; obtain ⟨h1, h⟩ := h
    have hsub := sub_enumerate
    have q1 : ∀ {A' : Around} {E : Value → Shared → Prop} {Q : Value → Shared → Prop}, Q (.ref hp.objs.size) ⟨hp.push o, g, d, tk, os⟩ → wpAny (model prog w) A' (pyIter v) Q E ⟨hp, g, d, tk, os⟩ :=
      fun q => B.iter prog w _ _ ⟨hp, g, d, tk, os⟩ _ h1 q
    wp_walk using q1
    refine wpAny_stack_any fun st => wpAny_pure ?_
    split
    · rename_i c _ _ _ _ _
      cases (c == Value.type "enumerate")
      · wp_walk using q1
        exact ⟨_, rfl, h⟩
      · wp_walk using q1
        exact ⟨_, rfl, h⟩
    · wp_walk using q1
      exact ⟨_, rfl, h⟩
section
variable {prog : Program} {w : World} {A : Around} {E : Value → Shared → Prop} {s : Shared}
theorem y_enum_begins {v : Value} {o : Obj} {H : Heap → Prop} {Q : Value → Shared → Prop} (B : Begins v o H) (h1 : H s.heap)
    (h : ∀ h', IsEnum h' (s.heap.objs.size + 1) s.heap.objs.size 0 .none → h'.get? s.heap.objs.size = some o → h'.objs.size = s.heap.objs.size + 2 →
      (∀ b o, s.heap.get? b = some o → h'.get? b = some o) → Q (.ref (s.heap.objs.size + 1)) { s with heap := h' }) :
    wpAny (model prog w) A (call (.type "enumerate") [v]) Q E s := by
  refine callType_new F.called_enumerate (by decide) (F.typeCall_enumerate_1 _) (F.newCall_enumerate_1 _) (fun obj => F.args_object_init_2 obj _) F.entry_enumerate_new
    (y_meets_enum1 B) ⟨h1, ?_⟩
  have hz : (s.heap.push o).objs.size = s.heap.objs.size + 1 := Heap.size_push ..
  show _ ∧ _
  rw [hz]
  have he : IsEnum ((s.heap.push o).push { cls := .type "enumerate", data := .fields #[.none, .bool false, .ref s.heap.objs.size, rawInt 0, .none, .none] }) (s.heap.objs.size + 1) s.heap.objs.size 0 .none := by
    have := Heap.get?_push_size (s.heap.push o) (o := { cls := .type "enumerate", data := .fields #[.none, .bool false, .ref s.heap.objs.size, rawInt 0, .none, .none] }) rfl
    rw [hz] at this; exact this
  refine ⟨⟨_, he, rfl⟩, h _ he (Heap.get?_push_of_some _ (Heap.get?_push_size _ B.free)) (by rw [Heap.size_push, hz]) fun b o x => Heap.get?_push_of_some _ (Heap.get?_push_of_some _ x)⟩
end
end PySem
namespace Y
open PySem PySem.Spec PyProof.Rows L2

/-! ### equality -/
mutual
theorem eqb_eq : ∀ a b : D, a.eqb b = true → a = b
  | .non, b, h => by cases b <;> first | rfl | cases h
  | .bl x, b, h => by cases b <;> first | (simp only [D.eqb] at h; rw [eq_of_beq h]) | cases h
  | .int x, b, h => by cases b <;> first | (simp only [D.eqb] at h; rw [eq_of_beq h]) | cases h
  | .str x, b, h => by cases b <;> first | (simp only [D.eqb] at h; rw [eq_of_beq h]) | cases h
  | .tup x, b, h => by cases b <;> first | (simp only [D.eqb] at h; rw [eqbL_eq _ _ h]) | cases h
  | .ct x, b, h => by cases b <;> first | (simp only [D.eqb] at h; rw [eqbL_eq _ _ h]) | cases h
  | .rd x, b, h => by cases b <;> first | (simp only [D.eqb] at h; rw [eqbL_eq _ _ h]) | cases h
  | .lst x, b, h => by cases b <;> first | (simp only [D.eqb] at h; rw [eqbL_eq _ _ h]) | cases h
  | .dK k x, b, h => by cases b <;> first | (simp only [D.eqb, Bool.and_eq_true] at h; rw [of_decide_eq_true h.1, eqbL_eq _ _ h.2]) | cases h
  | .dT k x, b, h => by cases b <;> first | (simp only [D.eqb, Bool.and_eq_true] at h; rw [of_decide_eq_true h.1, eqbL_eq _ _ h.2]) | cases h
  | .exn c x, b, h => by cases b <;> first | (simp only [D.eqb, Bool.and_eq_true] at h; rw [eq_of_beq h.1, eqb_eq _ _ h.2]) | cases h
  | .ref n, b, h => by cases b <;> first | (simp only [D.eqb] at h; rw [eq_of_beq h]) | cases h
  | .cdi k x, b, h => by cases b <;> first | (simp only [D.eqb, Bool.and_eq_true] at h; rw [of_decide_eq_true h.1, eqbL_eq _ _ h.2]) | cases h
theorem eqbL_eq : ∀ a b : List D, eqbL a b = true → a = b
  | [], b, h => by cases b <;> first | rfl | cases h
  | x :: xs, b, h => by cases b <;> first | (simp only [eqbL, Bool.and_eq_true] at h; rw [eqb_eq _ _ h.1, eqbL_eq _ _ h.2]) | cases h
end
mutual
theorem eqb_refl : ∀ a : D, a.eqb a = true
  | .non => rfl
  | .bl x => by simp only [D.eqb]; exact beq_self_eq_true x
  | .int x => by simp only [D.eqb]; exact beq_self_eq_true x
  | .str x => by simp only [D.eqb]; exact beq_self_eq_true x
  | .tup x => by simp only [D.eqb]; exact eqbL_refl x
  | .ct x => by simp only [D.eqb]; exact eqbL_refl x
  | .rd x => by simp only [D.eqb]; exact eqbL_refl x
  | .lst x => by simp only [D.eqb]; exact eqbL_refl x
  | .dK k x => by simp only [D.eqb, eqbL_refl x, Bool.and_true]; simp
  | .dT k x => by simp only [D.eqb, eqbL_refl x, Bool.and_true]; simp
  | .exn c x => by simp only [D.eqb, eqb_refl x, Bool.and_true]; exact beq_self_eq_true c
  | .ref n => by simp only [D.eqb]; exact beq_self_eq_true n
  | .cdi k x => by simp only [D.eqb, eqbL_refl x, Bool.and_true]; simp
theorem eqbL_refl : ∀ a : List D, eqbL a a = true
  | [] => rfl
  | x :: xs => by simp only [eqbL, eqb_refl x, eqbL_refl xs]; rfl
end
theorem stills_cons {st : Stt} {d : D} {xs : List D} {r : List (D × List D)} (h : stills st ((d, xs) :: r) = true) : seqOf st d = some xs ∧ stills st r = true := by
  simp only [stills, Bool.and_eq_true] at h
  obtain ⟨h1, h2⟩ := h
  cases e : seqOf st d with
  | none => simp only [e] at h1; cases h1
  | some ys => simp only [e] at h1; rw [eqbL_eq _ _ h1]; exact ⟨rfl, h2⟩

theorem wsrc_seq {st st0 : Stt} {d : D} {xs : List D} (h0 : seqOf st0 d = some xs) (h : stills st (wsrc d xs) = true) : seqOf st d = some xs := by
  cases d <;> first | exact h0 | exact (stills_cons h).1
theorem stills_app {st : Stt} : ∀ {a b : List (D × List D)}, stills st (a ++ b) = true → stills st a = true ∧ stills st b = true
  | [], _, h => ⟨rfl, h⟩
  | p :: a, b, h => by
    simp only [List.cons_append, stills, Bool.and_eq_true] at h ⊢
    exact ⟨⟨h.1, (stills_app h.2).1⟩, (stills_app h.2).2⟩
def srcOf (a : Addr) : D → Src
  | .tup _ => .t a
  | .ct _ => .t a
  | _ => .l a
section
variable {c : Cc} {hid : List Addr} {W : WX} {σ : L2.St} {ρ : List Addr} {st : Stt} {H : Hp}
theorem seq_src (M : Mt c hid ρ st H) {d : D} {ds : List D} {a : Addr} (h : seqOf st d = some ds) (r : Rel c.K hid H ρ d (.ref a)) : ∃ vs, (srcOf a d).Is c.K H vs ∧ Rels c.K hid H ρ ds vs := by
  cases d with
  | tup xs =>
    obtain ⟨b, vs, e, f, q⟩ := r
    cases e
    cases h
    exact ⟨vs, .inl (.inl f), q⟩
  | ct xs =>
    obtain ⟨b, vs, e, f, q⟩ := r
    cases e
    cases h
    exact ⟨vs, .inr f, q⟩
  | rd xs =>
    obtain ⟨b, vs, e, f, q⟩ := r
    cases e
    cases h
    exact ⟨vs, f.elim (fun f => .inl f.1) .inr, q⟩
  | lst xs =>
    obtain ⟨b, vs, e, f, q⟩ := lst_of M (d := .lst xs) (ds := xs) rfl r
    cases e
    cases h
    exact ⟨vs, .inl f, q⟩
  | ref n =>
    obtain ⟨b, vs, e, f, q⟩ := lst_of M (d := .ref n) (ds := ds) h r
    cases e
    exact ⟨vs, .inl f, q⟩
  | _ => cases h
theorem seq_ref (M : Mt c hid ρ st H) {d : D} {ds : List D} {v : V} (h : seqOf st d = some ds) (r : Rel c.K hid H ρ d v) : ∃ a, v = .ref a := by
  obtain ⟨a, vs, e, _⟩ := seq_of M h r
  exact ⟨a, e⟩
theorem srcOf_a (a : Addr) (d : D) : (srcOf a d).a = a := by cases d <;> rfl
end

/-- J walks w from the state on -/
structure WkR (c : Cc) (J : It) (w : Wk) (hid0 ρ0 : List Addr) (H0 : Hp) : Prop where
  go : ∀ hid ρ st H i d, Mt c hid ρ st H → Gr hid0 ρ0 H0 hid ρ H → stills st w.src = true → w.items[i]? = some d → J.go i H ∧ ∀ x H', J.yld i H x H' → Nx c hid ρ H ρ st H' ∧ Rel c.K hid H' ρ d x
  stop : ∀ hid ρ st H, Mt c hid ρ st H → Gr hid0 ρ0 H0 hid ρ H → stills st w.src = true → J.stop w.items.length H
def Ti (c : Cc) (W : WX) (m : Env → Stt → R Wk) : TI := fun σ H R => ∃ hid env st ρ, Mt c hid ρ st H ∧ EnvR c hid H ρ env σ ∧ Post c hid W σ ρ H (m env st) (fun H' ρ' w J => WkR c J w hid ρ' H') R
theorem PI.imp {X : Cx} {tg e : Expr} {t t' : TI} (h : PI X tg e t) (i : ∀ σ H Q, t' σ H Q → t σ H Q) : PI X tg e t' := ⟨fun pins s σ H Q I q => h.run pins s σ H Q I (i σ H Q q)⟩

/-! ### lists, tuples -/
def ItS (K : PySem.W.Frag) : Src → It
  | .l a => Itl K a
  | .t a => Itt K a
def iSrc (K : PySem.W.Frag) (tl : TE) : TI := fun σ H R => tl σ H fun x H1 => ∃ src : Src, x = .ref src.a ∧ (∃ xs, src.Is K H1 xs) ∧ R (ItS K src) H1
theorem pi_src {X : Cx} {tg l : Expr} {tl : TE} (hl : PE X l tl) : PI X tg l (iSrc X.K tl) := by
  refine ⟨fun pins s σ H R I h => ?_⟩
  refine thn (hl.run pins s σ H _ I h) fun v s1 ⟨x, H1, I1, r1, q1⟩ => ?_
  obtain ⟨src, e, ⟨xs, hq⟩, q⟩ := q1
  subst e
  cases src with
  | l a =>
    obtain rfl : v = Value.ref a := r1
    obtain ⟨its, rv, p, hz⟩ := I1.list hq
    refine wpAny_pyIter_list p.isList ?_
    refine ⟨s1.heap.objs.size, [s1.heap.objs.size], _, _, H1, rfl, I1.kept (t' := s1.toks) fun b o e => Heap.get?_push_of_some _ e, turn_list a _, ⟨_, Heap.get?_push_size _ rfl, rfl, rfl⟩, fun b hb => ?_, q⟩
    have e : b = s1.heap.objs.size := by simpa using hb
    subst e
    exact I1.fpOk (Nat.le_refl _) (I1.hok.fresh (Nat.le_refl _))
  | t a =>
    obtain rfl : v = Value.ref a := r1
    obtain ⟨its, rv, p, hz⟩ := I1.tuple hq
    refine wpAny_pyIter_tuple (show s1.heap.IsTuple a its.toArray from p) ?_
    refine ⟨s1.heap.objs.size, [s1.heap.objs.size], _, _, H1, rfl, I1.kept (t' := s1.toks) fun b o e => Heap.get?_push_of_some _ e, turn_tuple a _, ⟨_, Heap.get?_push_size _ rfl, rfl, rfl⟩, fun b hb => ?_, q⟩
    have e : b = s1.heap.objs.size := by simpa using hb
    subst e
    exact I1.fpOk (Nat.le_refl _) (I1.hok.fresh (Nat.le_refl _))
section
variable {X : Cx} {c : Cc} {W : WX} {F : Fs} {pos : Pos} {a b tg : Expr} {x y : IE} {es : List Expr} {xs : IEs}
abbrev Iw (c : Cc) (W : WX) (F : Fs) (x : IT) : TI := Ti c W (evI F c.b x)
theorem wk_seq {hid ρ : List Addr} {H : Hp} {d : D} {ds : List D} {a : Addr} {st0 : Stt} (h0 : seqOf st0 d = some ds) (r : Rel c.K hid H ρ d (.ref a)) : WkR c (ItS c.K (srcOf a d)) ⟨ds, wsrc d ds⟩ hid ρ H where
  go := fun hid' ρ' st' H' i e M g hs hi => by
    have h1 := wsrc_seq h0 hs
    obtain ⟨vs, hv, rs⟩ := seq_src M h1 (Rel.mono g _ _ r)
    obtain ⟨v, hv2, rv⟩ := rs.get hi
    cases hsrc : srcOf a d with
    | l p =>
      rw [hsrc] at hv
      refine ⟨⟨vs, v, hv, hv2⟩, fun x H2 ⟨e1, e2⟩ => ?_⟩
      subst e1
      have e3 := e2 vs hv
      rw [hv2] at e3
      cases e3
      exact ⟨Nx.refl M, rv⟩
    | t p =>
      rw [hsrc] at hv
      refine ⟨⟨vs, v, hv, hv2⟩, fun x H2 ⟨e1, e2⟩ => ?_⟩
      subst e1
      have e3 := e2 vs hv
      rw [hv2] at e3
      cases e3
      exact ⟨Nx.refl M, rv⟩
  stop := fun hid' ρ' st' H' M g hs => by
    have h1 := wsrc_seq h0 hs
    obtain ⟨vs, hv, rs⟩ := seq_src M h1 (Rel.mono g _ _ r)
    cases hsrc : srcOf a d with
    | l p => rw [hsrc] at hv; exact ⟨vs, hv, Nat.le_of_eq rs.len.symm⟩
    | t p => rw [hsrc] at hv; exact ⟨vs, hv, Nat.le_of_eq rs.len.symm⟩
theorem i_seq (g : c.K = X.K) (ha : PE X a (E c W F x)) : PI X tg a (Iw c W F (.seq x)) :=
  PI.imp (pi_src ha) fun σ H Q ⟨hid, env, st, ρ, M, En, h⟩ => by
    rw [← g]
    simp only [evI] at h
    refine ⟨hid, env, st, ρ, M, En, (Post.bind h).imp fun v H1 ⟨d, st1, ρ1, N, q, h1⟩ => ?_⟩
    unfold walkSeq at h1
    cases e : seqOf st1 d with
    | none => simp only [e] at h1; exact h1.elim
    | some ds =>
      simp only [e] at h1
      obtain ⟨p, ev⟩ := seq_ref N.mt e q
      subst ev
      obtain ⟨vs, hv, rs⟩ := seq_src N.mt e q
      exact ⟨srcOf p d, by rw [srcOf_a], ⟨vs, hv⟩, h1.ok N.mt (wk_seq e q)⟩

/-! ### ranges -/
theorem rngL_get : ∀ (n i : Nat) (lo : Int), (rngL lo n)[i]? = if i < n then some (.int (lo + i)) else none
  | 0, i, lo => by simp [rngL]
  | n + 1, 0, lo => by simp [rngL]
  | n + 1, i + 1, lo => by
    show (rngL (lo + 1) n)[i]? = _
    rw [rngL_get n i (lo + 1)]
    by_cases h : i < n
    · rw [if_pos h, if_pos (by omega)]
      congr 2
      omega
    · rw [if_neg h, if_neg (by omega)]
theorem rngL_len : ∀ (n : Nat) (lo : Int), (rngL lo n).length = n
  | 0, lo => rfl
  | n + 1, lo => by
    show (rngL (lo + 1) n).length + 1 = n + 1
    rw [rngL_len n]
theorem wk_rng {hid ρ : List Addr} {H : Hp} {lo : Int} {n : Nat} : WkR c (Itr lo n) ⟨rngL lo n, []⟩ hid ρ H where
  go := fun hid' ρ' st' H' i e M g hs hi => by
    have hi' : (rngL lo n)[i]? = some e := hi
    rw [rngL_get] at hi'
    by_cases h : i < n
    · rw [if_pos h] at hi'
      cases hi'
      refine ⟨h, fun x H2 ⟨e1, e2⟩ => ?_⟩
      subst e1 e2
      exact ⟨Nx.refl M, rfl⟩
    · rw [if_neg h] at hi'
      cases hi'
  stop := fun hid' ρ' st' H' M g hs => Nat.le_of_eq (rngL_len n lo).symm
theorem small_of {i : Int} (h : small i = true) : -(2 ^ 62) ≤ i ∧ i < 2 ^ 62 := by
  unfold small at h
  simpa only [Bool.and_eq_true, decide_eq_true_eq] using h
/-- one argument, two arguments -/
theorem pa1 {t : TE} (ha : PE X a t) (hs : starEach [a] X.env = [(false, eval a X.env)]) : PA X [a] (fun σ H R => t σ H fun v H1 => R [v] H1) := pa_cons ha pa_nil hs
theorem pa2 {t u : TE} (ha : PE X a t) (hb : PE X b u) (hs : starEach [a, b] X.env = [(false, eval a X.env), (false, eval b X.env)]) (hs2 : starEach [b] X.env = [(false, eval b X.env)]) : PA X [a, b] (fun σ H R => t σ H fun v H1 => u σ H1 fun w H2 => R [v, w] H2) :=
  pa_cons ha (pa1 hb hs2) (by rw [hs, hs2])
theorem i_rng1 {p : Pos} (hg : Gl X "range") (hm : X.mg "range" = none) (ha : PE X a (E c W F x)) (hs : starEach [a] X.env = [(false, eval a X.env)]) : PI X tg (.Call (.Name "range" p) [a] [] pos) (Iw c W F (.rng1 x)) :=
  PI.imp (pi_range1 hg hm (pa1 ha hs) hs) fun σ H Q ⟨hid, env, st, ρ, M, En, h⟩ => by
    simp only [evI] at h
    refine ⟨hid, env, st, ρ, M, En, (Post.bind h).imp fun v H1 ⟨d, st1, ρ1, N, q, h1⟩ => ?_⟩
    cases d with
    | int i =>
      cases q
      obtain ⟨hz, h2⟩ := post_if h1
      obtain ⟨z1, z2⟩ := small_of hz
      exact ⟨i, rfl, z1, z2, h2.ok N.mt wk_rng⟩
    | _ => exact h1.elim
theorem i_rng2 {p : Pos} (hg : Gl X "range") (hm : X.mg "range" = none) (ha : PE X a (E c W F x)) (hb : PE X b (E c W F y)) (hs : starEach [a, b] X.env = [(false, eval a X.env), (false, eval b X.env)]) (hs2 : starEach [b] X.env = [(false, eval b X.env)]) :
    PI X tg (.Call (.Name "range" p) [a, b] [] pos) (Iw c W F (.rng2 x y)) :=
  PI.imp (pi_range2 hg hm (pa2 ha hb hs hs2) hs hs2) fun σ H Q ⟨hid, env, st, ρ, M, En, h⟩ => by
    simp only [evI] at h
    refine ⟨hid, env, st, ρ, M, En, (Post.bind h).imp fun v H1 ⟨d, st1, ρ1, N, q, h1⟩ => ?_⟩
    refine ⟨hid, env, st1, ρ1, N.mt, En.mono N.gr, (Post.bind h1).imp fun w H2 ⟨e, st2, ρ2, N2, q2, h2⟩ => ?_⟩
    cases d with
    | int i =>
      cases e with
      | int j =>
        cases q; cases q2
        obtain ⟨hz, h3⟩ := post_if (b := small i && small j) h2
        rw [Bool.and_eq_true] at hz
        obtain ⟨z1, z2⟩ := small_of hz.1
        obtain ⟨z3, z4⟩ := small_of hz.2
        exact ⟨i, j, rfl, ⟨z1, z2, z3, z4⟩, h3.ok N2.mt wk_rng⟩
      | _ => exact h2.elim
    | _ => exact h2.elim

/-! ### enumerate, zip -/
def on1 (f : V → Hp → Prop) : List V → Hp → Prop
  | [v], H => f v H
  | _, _ => False
theorem on1_of {f : V → Hp → Prop} {vs : List V} {H : Hp} (h : on1 f vs H) : ∃ v, vs = [v] ∧ f v H := by
  unfold on1 at h
  split at h
  · exact ⟨_, rfl, h⟩
  · exact h.elim
def on2 (f : V → V → Hp → Prop) : List V → Hp → Prop
  | [v, w], H => f v w H
  | _, _ => False
theorem on2_of {f : V → V → Hp → Prop} {vs : List V} {H : Hp} (h : on2 f vs H) : ∃ v w, vs = [v, w] ∧ f v w H := by
  unfold on2 at h
  split at h
  · exact ⟨_, _, rfl, h⟩
  · exact h.elim
def iEnmS (K : PySem.W.Frag) (ta : TE) : TI := fun σ H R => ta σ H fun v H1 => ∃ (src : Src) (xs : List V), v = .ref src.a ∧ src.Is K H1 xs ∧ R (ItE K src 0) H1
theorem pi_enmS {t : TE} {p tpos : Pos} {elts : List Expr} {kk : Nat} (hg : Gl X "enumerate") (hm : X.mg "enumerate" = none) (ha : PE X a t) (hs : starEach [a] X.env = [(false, eval a X.env)]) :
    PI X (.Tuple elts kk tpos) (.Call (.Name "enumerate" p) [a] [] pos) (iEnmS X.K t) := by
  refine ⟨fun pins s σ H R I h => ?_⟩
  refine Call_ (ld_blt I hg hm boot_enumerate (PyProof.Rows.callWith_type1 (thn ((pa1 ha hs).run pos pins s σ H (on1 fun v H1 => ∃ (src : Src) (xs : List V), v = .ref src.a ∧ src.Is X.K H1 xs ∧ R (ItE X.K src 0) H1) I h) fun us s1 ⟨vs, H1, I1, r1, q1⟩ => ?_) hs rfl))
  obtain ⟨v, e0, src, xs, ex, hq, q⟩ := on1_of q1
  subst e0 ex
  cases r1 with
  | cons r rr =>
    cases rr
    obtain rfl : _ = Value.ref src.a := r
    obtain ⟨its, rv, p', hz⟩ := Src.at I1 hq
    refine y_enum_begins (src.begins its.toArray) p' fun h' he hit hsz hk => wpAny_pyIter_enum he ?_
    have I2 : Inv X pins σ H1 { s1 with heap := h' } := I1.kept (t' := s1.toks) hk
    refine ⟨s1.heap.objs.size + 1, [s1.heap.objs.size + 1, s1.heap.objs.size], _, _, H1, rfl, I2, turn_enumS src 0 (s1.heap.objs.size + 1) s1.heap.objs.size, ⟨⟨.none, he⟩, src.st_new hit, Nat.succ_ne_self _, Nat.ne_of_lt hz, Nat.ne_of_lt (Nat.lt_succ_of_lt hz)⟩, fun b hb => ?_, q⟩
    have e' : b = s1.heap.objs.size + 1 ∨ b = s1.heap.objs.size := by simpa using hb
    have hle : s1.heap.objs.size ≤ b := by
      rcases e' with z | z
      · rw [z]; exact Nat.le_add_right _ _
      · rw [z]; exact Nat.le_refl _
    exact I1.fpOk hle (I1.hok.fresh hle)
def iZipS (K : PySem.W.Frag) (ta tb : TE) : TI := fun σ H R => ta σ H fun v H1 => tb σ H1 fun w H2 => ∃ (src src2 : Src) (xs ys : List V), v = .ref src.a ∧ w = .ref src2.a ∧ src.Is K H2 xs ∧ src2.Is K H2 ys ∧ R (ItZ K src src2) H2
theorem pi_zipS {t u : TE} {p tpos : Pos} {elts : List Expr} {kk : Nat} (hg : Gl X "zip") (hm : X.mg "zip" = none) (ha : PE X a t) (hb : PE X b u) (hs : starEach [a, b] X.env = [(false, eval a X.env), (false, eval b X.env)]) (hs2 : starEach [b] X.env = [(false, eval b X.env)]) :
    PI X (.Tuple elts kk tpos) (.Call (.Name "zip" p) [a, b] [] pos) (iZipS X.K t u) := by
  refine ⟨fun pins s σ H R I h => ?_⟩
  have hrun := (pa2 ha hb hs hs2).run pos pins s σ H (on2 fun v w H2 => ∃ (src src2 : Src) (xs ys : List V), v = .ref src.a ∧ w = .ref src2.a ∧ src.Is X.K H2 xs ∧ src2.Is X.K H2 ys ∧ R (ItZ X.K src src2) H2) I h
  have hs' : starEach [a, b] X.env = (false, eval a X.env) :: starEach [b] X.env := by rw [hs, hs2]
  have hpl : (backTo pos (starEach [b] X.env)).any (·.1) = false := by rw [hs2]; rfl
  refine Call_ (ld_blt I hg hm PyProof.Rows.boot_zip (PyProof.Rows.callWith_type1 (thn hrun fun us s1 ⟨vs, H1, I1, r1, q1⟩ => ?_) hs' hpl))
  obtain ⟨v, w, e0, src, src2, xs, ys, ex, ey, hqx, hqy, q⟩ := on2_of q1
  subst e0 ex ey
  cases r1 with
  | cons r rr =>
    cases rr with
    | cons r' rr =>
      cases rr
      obtain rfl : _ = Value.ref src.a := r
      obtain rfl : _ = Value.ref src2.a := r'
      obtain ⟨its, rv, p1, la⟩ := Src.at I1 hqx
      obtain ⟨its2, rv2, p2, lb⟩ := Src.at I1 hqy
      refine zip_begins2 (src.begins its.toArray) (src2.begins its2.toArray) p1 p2 fun h' hz hTI hTO h1 h2 hsz hk => wpAny_pyIter_zip hz ?_
      have I2 : Inv X pins σ H1 { s1 with heap := h' } := I1.kept (t' := s1.toks) hk
      have S : ZipSep2 (s1.heap.objs.size + 4) (s1.heap.objs.size + 2) (s1.heap.objs.size + 3) s1.heap.objs.size (s1.heap.objs.size + 1) [s1.heap.objs.size, src.a] [s1.heap.objs.size + 1, src2.a] :=
        zip_sep2 (fun b hb => by rw [List.mem_singleton.mp hb]; exact la) (fun b hb => by rw [List.mem_singleton.mp hb]; exact lb)
      refine ⟨s1.heap.objs.size + 4, [s1.heap.objs.size + 4, s1.heap.objs.size + 2, s1.heap.objs.size + 3, s1.heap.objs.size, s1.heap.objs.size + 1], _, _, H1, rfl, I2, turn_zipS S (Nat.ne_of_lt la) (Nat.ne_of_lt (Nat.lt_succ_of_lt lb)), ⟨hz, hTI, ⟨_, _, hTO⟩, src.st_new h1, src2.st_new h2⟩, fun c hcm => ?_, q⟩
      have e' : c = s1.heap.objs.size + 4 ∨ c = s1.heap.objs.size + 2 ∨ c = s1.heap.objs.size + 3 ∨ c = s1.heap.objs.size ∨ c = s1.heap.objs.size + 1 := by simpa using hcm
      have hle : s1.heap.objs.size ≤ c := by
        rcases e' with z | z | z | z | z
        · rw [z]; exact Nat.le_add_right _ _
        · rw [z]; exact Nat.le_add_right _ _
        · rw [z]; exact Nat.le_add_right _ _
        · rw [z]; exact Nat.le_refl _
        · rw [z]; exact Nat.le_add_right _ _
      exact I1.fpOk hle (I1.hok.fresh hle)
theorem enmL_get : ∀ (xs : List D) (i : Nat) (k : Int), (enmL k xs)[i]? = xs[i]?.map fun x => .tup [.int (k + i), x]
  | [], i, k => rfl
  | x :: xs, 0, k => by simp [enmL]
  | x :: xs, i + 1, k => by
    show (enmL (k + 1) xs)[i]? = _
    rw [enmL_get xs i (k + 1)]
    show _ = xs[i]?.map _
    have e : k + 1 + (i : Int) = k + ((i + 1 : Nat) : Int) := by omega
    rw [e]
theorem enmL_len : ∀ (xs : List D) (k : Int), (enmL k xs).length = xs.length
  | [], k => rfl
  | x :: xs, k => by
    show (enmL (k + 1) xs).length + 1 = xs.length + 1
    rw [enmL_len xs]
theorem src_is {hid ρ : List Addr} {st : Stt} {H : Hp} {d : D} {ds : List D} {a : Addr} (M : Mt c hid ρ st H) (h1 : seqOf st d = some ds) (r : Rel c.K hid H ρ d (.ref a)) : ∃ vs, (srcOf a d).Is c.K H vs ∧ Rels c.K hid H ρ ds vs := seq_src M h1 r
/-- a new pair -/
theorem nx_pair {hid ρ : List Addr} {st : Stt} {H : Hp} {T : Addr} {d e : D} {v w : V} (M : Mt c hid ρ st H) (hT : H T = none) (r1 : Rel c.K hid H ρ d v) (r2 : Rel c.K hid H ρ e w) :
    Nx c hid ρ H ρ st (upd H T (.tup [v, w])) ∧ Rel c.K hid (upd H T (.tup [v, w])) ρ (.tup [d, e]) (.ref T) := by
  have N := Nx.new (o := .tup [v, w]) M hT
  exact ⟨N, T, [v, w], rfl, upd_same, v, [w], rfl, Rel.mono N.gr _ _ r1, w, [], rfl, Rel.mono N.gr _ _ r2, rfl⟩
theorem wk_enm {hid ρ : List Addr} {H : Hp} {d : D} {ds : List D} {a : Addr} {st0 : Stt} (h0 : seqOf st0 d = some ds) (r : Rel c.K hid H ρ d (.ref a)) : WkR c (ItE c.K (srcOf a d) 0) ⟨enmL 0 ds, wsrc d ds⟩ hid ρ H where
  go := fun hid' ρ' st' H' i e M g hs hi => by
    have h1 := wsrc_seq h0 hs
    obtain ⟨vs, hv, rs⟩ := seq_src M h1 (Rel.mono g _ _ r)
    have hi' : (enmL 0 ds)[i]? = some e := hi
    rw [enmL_get] at hi'
    cases hd : ds[i]? with
    | none => rw [hd] at hi'; cases hi'
    | some x =>
      rw [hd] at hi'
      cases hi'
      obtain ⟨v, hv2, rv⟩ := rs.get hd
      refine ⟨⟨vs, v, hv, hv2⟩, fun y H2 ⟨T, x', e1, e2, e3, e4⟩ => ?_⟩
      have e5 := e4 vs hv
      rw [hv2] at e5
      cases e5
      subst e1 e3
      exact nx_pair M e2 rfl rv
  stop := fun hid' ρ' st' H' M g hs => by
    have h1 := wsrc_seq h0 hs
    obtain ⟨vs, hv, rs⟩ := seq_src M h1 (Rel.mono g _ _ r)
    exact ⟨vs, hv, by rw [← rs.len]; exact (enmL_len ds 0).symm⟩
theorem i_enm {p tpos : Pos} {elts : List Expr} {kk : Nat} (g : c.K = X.K) (hg : Gl X "enumerate") (hm : X.mg "enumerate" = none) (ha : PE X a (E c W F x)) (hs : starEach [a] X.env = [(false, eval a X.env)]) :
    PI X (.Tuple elts kk tpos) (.Call (.Name "enumerate" p) [a] [] pos) (Iw c W F (.enm x)) :=
  PI.imp (pi_enmS hg hm ha hs) fun σ H Q ⟨hid, env, st, ρ, M, En, h⟩ => by
    rw [← g]
    simp only [evI] at h
    refine ⟨hid, env, st, ρ, M, En, (Post.bind h).imp fun v H1 ⟨d, st1, ρ1, N, q, h1⟩ => ?_⟩
    unfold walkEnm at h1
    cases e : seqOf st1 d with
    | none => simp only [e] at h1; exact h1.elim
    | some ds =>
      simp only [e] at h1
      obtain ⟨p, ev⟩ := seq_ref N.mt e q
      subst ev
      obtain ⟨vs, hv, rs⟩ := seq_src N.mt e q
      exact ⟨srcOf p d, vs, by rw [srcOf_a], hv, h1.ok N.mt (wk_enm e q)⟩
theorem zip_get : ∀ (xs ys : List D) (i : Nat) (e : D), (zip2 xs ys)[i]? = some e → ∃ x y, xs[i]? = some x ∧ ys[i]? = some y ∧ e = .tup [x, y]
  | [], _, _, _, h => by simp [zip2] at h
  | _ :: _, [], _, _, h => by simp [zip2] at h
  | x :: xs, y :: ys, 0, e, h => by
    have h' : some (D.tup [x, y]) = some e := h
    cases h'
    exact ⟨x, y, rfl, rfl, rfl⟩
  | x :: xs, y :: ys, i + 1, e, h => zip_get xs ys i e h
theorem zip_len (xs ys : List D) : (zip2 xs ys).length = min xs.length ys.length := by
  unfold zip2
  rw [List.length_map, List.length_zip]
theorem wk_zip {hid ρ : List Addr} {H : Hp} {d d2 : D} {ds ds2 : List D} {a b : Addr} {st0 : Stt} (h0 : seqOf st0 d = some ds) (h02 : seqOf st0 d2 = some ds2) (r : Rel c.K hid H ρ d (.ref a)) (r2 : Rel c.K hid H ρ d2 (.ref b)) : WkR c (ItZ c.K (srcOf a d) (srcOf b d2)) ⟨zip2 ds ds2, wsrc d ds ++ wsrc d2 ds2⟩ hid ρ H where
  go := fun hid' ρ' st' H' i e M g hs hi => by
    obtain ⟨hs1, hs2⟩ := stills_app hs
    have h1 := wsrc_seq h0 hs1
    have h2 := wsrc_seq h02 hs2
    obtain ⟨vs, hv, rs⟩ := seq_src M h1 (Rel.mono g _ _ r)
    obtain ⟨ws, hw, rw'⟩ := seq_src M h2 (Rel.mono g _ _ r2)
    obtain ⟨x, y, ex, ey, ee⟩ := zip_get ds ds2 i e hi
    subst ee
    obtain ⟨v, hv2, rv⟩ := rs.get ex
    obtain ⟨w, hw2, rw2⟩ := rw'.get ey
    refine ⟨⟨vs, ws, v, w, hv, hw, hv2, hw2⟩, fun z H2 ⟨T, x', y', e1, e2, e3, e4, e5⟩ => ?_⟩
    have e6 := e4 vs hv
    have e7 := e5 ws hw
    rw [hv2] at e6
    rw [hw2] at e7
    cases e6; cases e7
    subst e1 e3
    exact nx_pair M e2 rv rw2
  stop := fun hid' ρ' st' H' M g hs => by
    obtain ⟨hs1, hs2⟩ := stills_app hs
    have h1 := wsrc_seq h0 hs1
    have h2 := wsrc_seq h02 hs2
    obtain ⟨vs, hv, rs⟩ := seq_src M h1 (Rel.mono g _ _ r)
    obtain ⟨ws, hw, rw'⟩ := seq_src M h2 (Rel.mono g _ _ r2)
    have l1 := rs.len
    have l2 := rw'.len
    have l3 : (zip2 ds ds2).length = min ds.length ds2.length := zip_len ds ds2
    exact ⟨vs, ws, hv, hw, by show (zip2 ds ds2).length ≤ _; omega, by show (zip2 ds ds2).length ≤ _; omega, by show (zip2 ds ds2).length = _ ∨ (zip2 ds ds2).length = _; omega⟩
theorem i_zip {p tpos : Pos} {elts : List Expr} {kk : Nat} (g : c.K = X.K) (hg : Gl X "zip") (hm : X.mg "zip" = none) (ha : PE X a (E c W F x)) (hb : PE X b (E c W F y)) (hs : starEach [a, b] X.env = [(false, eval a X.env), (false, eval b X.env)]) (hs2 : starEach [b] X.env = [(false, eval b X.env)]) :
    PI X (.Tuple elts kk tpos) (.Call (.Name "zip" p) [a, b] [] pos) (Iw c W F (.zip x y)) :=
  PI.imp (pi_zipS hg hm ha hb hs hs2) fun σ H Q ⟨hid, env, st, ρ, M, En, h⟩ => by
    rw [← g]
    simp only [evI] at h
    refine ⟨hid, env, st, ρ, M, En, (Post.bind h).imp fun v H1 ⟨d, st1, ρ1, N, q, h1⟩ => ?_⟩
    refine ⟨hid, env, st1, ρ1, N.mt, En.mono N.gr, (Post.bind h1).imp fun w H2 ⟨d2, st2, ρ2, N2, q2, h2⟩ => ?_⟩
    have q' := Rel.mono N2.gr _ _ q
    unfold walkZip at h2
    cases e : seqOf st2 d with
    | none => simp only [e] at h2; exact h2.elim
    | some ds =>
      cases e2 : seqOf st2 d2 with
      | none => simp only [e, e2] at h2; exact h2.elim
      | some ds2 =>
        simp only [e, e2] at h2
        obtain ⟨p, ev⟩ := seq_ref N2.mt e q'
        obtain ⟨p2, ev2⟩ := seq_ref N2.mt e2 q2
        subst ev ev2
        obtain ⟨vs, hv, rs⟩ := seq_src N2.mt e q'
        obtain ⟨ws, hw, rs2⟩ := seq_src N2.mt e2 q2
        exact ⟨srcOf p d, srcOf p2 d2, vs, ws, by rw [srcOf_a], by rw [srcOf_a], hv, hw, h2.ok N2.mt (wk_zip e e2 q' q2)⟩
end
end Y
/-! Y10: calls of built-ins, isinstance, methods. -/
namespace Y
open PySem PySem.Spec PyProof.Rows L2
section
variable {X : Cx} {c : Cc} {W : WX} {F : Fs} {pos : Pos} {a b d : Expr} {x y z : IE} {k : Nat} {es : List Expr} {xs : IEs}

/-- len, sum, .. : what boot holds -/
def bltIs : Blt → Bool
  | .len => true | .sum => true | .any => true | .all => true | .abs => true | .min2 => true | .max2 => true
  | .tuple => true | .list => true | .int => true | .repr => true | .str => true | .max1 => true | .min1 => true
  | _ => false
theorem blt_boot : ∀ f : Blt, bltIs f = true → bootBuiltins (bltOf f).1 = some (bltOf f).2
  | .len, _ => boot_len
  | .sum, _ => boot_sum
  | .any, _ => boot_any
  | .all, _ => boot_all
  | .abs, _ => boot_abs
  | .min2, _ => boot_min
  | .max2, _ => boot_max
  | .max1, _ => boot_max
  | .min1, _ => boot_min
  | .tuple, _ => boot_tuple
  | .list, _ => boot_list
  | .int, _ => boot_int
  | .repr, _ => boot_repr
  | .str, _ => boot_str
theorem blt_nm : ∀ f : Blt, bltIs f = true → (bltOf f).1 ≠ ("__name__" : Str) ∧ ((bltOf f).1 == ("__debug__" : Str)) = false := by
  intro f h
  cases f <;> first | (cases h; done) | exact ⟨by decide, by decide⟩
theorem r_blt {p : Pos} (f : Blt) (hf : bltIs f = true) (hgd : X.A.guards = some []) (hr : Room k X.A) (g : c.K = X.K) (hc : X.calm = true) (hg : Gl X (bltOf f).1) (hm : X.mg (bltOf f).1 = none) (ha : PA X (a :: es) (A c W F xs))
    (he : starEach (a :: es) X.env = (false, eval a X.env) :: starEach es X.env) (hpl : (backTo pos (starEach es X.env)).any (·.1) = false) : PE X (.Call (.Name (bltOf f).1 p) (a :: es) [] pos) (E c W F (.blt f xs)) := by
  have hb := blt_boot f hf
  obtain ⟨n1, n2⟩ := blt_nm f hf
  have h : PE X (.Call (.Name (bltOf f).1 p) (a :: es) [] pos) (tCB (rBlt X.K f) (A c W F xs)) := by
    have cr := cr_blt hgd hr hc f
    cases f with
    | len => exact pe_callB (id := "len") cr hg hm hb ha n1 n2 he hpl
    | sum => exact pe_callB (id := "sum") cr hg hm hb ha n1 n2 he hpl
    | any => exact pe_callB (id := "any") cr hg hm hb ha n1 n2 he hpl
    | all => exact pe_callB (id := "all") cr hg hm hb ha n1 n2 he hpl
    | abs => exact pe_callB (id := "abs") cr hg hm hb ha n1 n2 he hpl
    | min2 => exact pe_callB (id := "min") cr hg hm hb ha n1 n2 he hpl
    | max2 => exact pe_callB (id := "max") cr hg hm hb ha n1 n2 he hpl
    | max1 => exact pe_callB (id := "max") cr hg hm hb ha n1 n2 he hpl
    | min1 => exact pe_callB (id := "min") cr hg hm hb ha n1 n2 he hpl
    | tuple => exact pe_callTy (T := "tuple") cr hg hm hb ha n1 n2 he hpl
    | list => exact pe_callTy (T := "list") cr hg hm hb ha n1 n2 he hpl
    | int => exact pe_callTy (T := "int") cr hg hm hb ha n1 n2 he hpl
    | repr => exact pe_callB (id := "repr") cr hg hm hb ha n1 n2 he hpl
    | str => exact pe_callTy (T := "str") cr hg hm hb ha n1 n2 he hpl
    | _ => cases hf
  refine PE.imp h fun σ H Q ⟨hid, env, st, ρ, M, En, h⟩ => ?_
  rw [← g]
  simp only [evE] at h
  refine ⟨hid, env, st, ρ, M, En, (Post.bind h).imp fun vs H1 ⟨ds, st1, ρ1, N, q, h1⟩ => ?_⟩
  exact blt_spec f N.mt q h1

/-! ### isinstance -/
def tyNm (T : String) : Str := Str.ofString T
theorem is_boot {T : String} (h : T ∈ ["int", "bool", "str", "tuple", "list", "dict"]) : bootBuiltins (tyNm T) = some (.type T) ∧ tyNm T ≠ ("__name__" : Str) ∧ (tyNm T == ("__debug__" : Str)) = false := by
  simp only [List.mem_cons, List.not_mem_nil, or_false] at h
  rcases h with rfl | rfl | rfl | rfl | rfl | rfl
  · exact ⟨boot_int, by decide, by decide⟩
  · exact ⟨boot_bool, by decide, by decide⟩
  · exact ⟨boot_str, by decide, by decide⟩
  · exact ⟨boot_tuple, by decide, by decide⟩
  · exact ⟨boot_list, by decide, by decide⟩
  · exact ⟨boot_dict, by decide, by decide⟩
theorem r_isi {p p2 : Pos} {T : String} (hT : T ∈ ["int", "bool", "str", "tuple", "list", "dict"]) (g : c.K = X.K) (hg : Gl X "isinstance") (hm : X.mg "isinstance" = none) (hg2 : Gl X (tyNm T)) (hm2 : X.mg (tyNm T) = none) (ha : PE X a (E c W F x))
    (hs : starEach [a, .Name (tyNm T) p2] X.env = [(false, eval a X.env), (false, eval (.Name (tyNm T) p2) X.env)]) (hs2 : starEach [.Name (tyNm T) p2] X.env = [(false, eval (.Name (tyNm T) p2) X.env)]) :
    PE X (.Call (.Name "isinstance" p) [a, .Name (tyNm T) p2] [] pos) (E c W F (.isi T x)) := by
  obtain ⟨hb, n1, n2⟩ := is_boot hT
  refine PE.imp (pe_callB call_isi hg hm boot_isinstance (pa2 ha (pe_bltn (v := .ty T) hg2 hm2 hb rfl n1 n2) hs hs2) (by decide) (by decide) (by rw [hs, hs2]) (by rw [hs2]; rfl)) fun σ H Q ⟨hid, env, st, ρ, M, En, h⟩ => ?_
  rw [← g]
  simp only [evE] at h
  refine ⟨hid, env, st, ρ, M, En, (Post.bind h).imp fun v H1 ⟨d, st1, ρ1, N, q, h1⟩ => ?_⟩
  exact is_spec hT N.mt q h1
/-- isinstance(x, (list, tuple)) -/
theorem r_isq {p p2 p3 pt : Pos} {kt : Nat} (g : c.K = X.K) (hg : Gl X "isinstance") (hm : X.mg "isinstance" = none) (hg2 : Gl X "list") (hm2 : X.mg "list" = none) (hg3 : Gl X "tuple") (hm3 : X.mg "tuple" = none) (ha : PE X a (E c W F x))
    (hs : starEach [a, .Tuple [.Name "list" p2, .Name "tuple" p3] kt pt] X.env = [(false, eval a X.env), (false, eval (.Tuple [.Name "list" p2, .Name "tuple" p3] kt pt) X.env)])
    (hs2 : starEach [.Tuple [.Name "list" p2, .Name "tuple" p3] kt pt] X.env = [(false, eval (.Tuple [.Name "list" p2, .Name "tuple" p3] kt pt) X.env)])
    (ht : starEach [.Name "list" p2, .Name "tuple" p3] X.env = [(false, eval (.Name "list" p2) X.env), (false, eval (.Name "tuple" p3) X.env)]) (ht2 : starEach [.Name "tuple" p3] X.env = [(false, eval (.Name "tuple" p3) X.env)]) :
    PE X (.Call (.Name "isinstance" p) [a, .Tuple [.Name "list" p2, .Name "tuple" p3] kt pt] [] pos) (E c W F (.isq x)) := by
  have ht' : PE X (.Tuple [.Name "list" p2, .Name "tuple" p3] kt pt) (tTup (tCons (tC (.ty "list")) (tCons (tC (.ty "tuple")) tNil))) :=
    pe_tup (pa_cons (pe_bltn (v := .ty "list") hg2 hm2 boot_list rfl) (pa_cons (pe_bltn (v := .ty "tuple") hg3 hm3 boot_tuple rfl) pa_nil ht2) (by rw [ht, ht2]))
  refine PE.imp (pe_callB call_isiT hg hm boot_isinstance (pa2 ha ht' hs hs2) (by decide) (by decide) (by rw [hs, hs2]) (by rw [hs2]; rfl)) fun σ H Q ⟨hid, env, st, ρ, M, En, h⟩ => ?_
  rw [← g]
  simp only [evE] at h
  refine ⟨hid, env, st, ρ, M, En, (Post.bind h).imp fun v H1 ⟨d, st1, ρ1, N, q, h1⟩ => ?_⟩
  refine ⟨by show 2 ≤ sizeLine; decide, fun T hT => ?_⟩
  have N2 := Nx.new (o := .tup [.ty "list", .ty "tuple"]) N.mt hT
  have q2 := Rel.mono N2.gr _ _ q
  unfold isD2 at h1
  cases e : tyD st1 d with
  | none => rw [e] at h1; exact h1.elim
  | some t =>
    rw [e] at h1
    obtain ⟨ty, hm⟩ := tyX_of N2.mt q2 e
    refine ⟨v, T, [.ty "list", .ty "tuple"], .type t, [.type "list", .type "tuple"], subTy t "list" || subTy t "tuple", rfl, upd_same, .cons (.ty _) (.cons (.ty _) .nil), ty, ?_, ?_⟩
    · refine kitAny_cons (b := subTy t "list") (kit_ty (kit_sub hm (by decide))) (fun hb => ?_) (fun hb => by rw [hb]; rfl)
      refine kitAny_cons (b := subTy t "tuple") (kit_ty (kit_sub hm (by decide))) (fun hb2 => ?_) (fun hb2 => by rw [hb2, Bool.or_true])
      rw [hb, hb2]
      rfl
    · exact h1 _ _ ρ1 N2 rfl

/-! ### methods -/
theorem tyV_lst {hid ρ : List Addr} {st : Stt} {H : Hp} {K : PySem.W.Frag} {o : D} {v : V} (g : c.K = K) (M : Mt c hid ρ st H) (r : Rel c.K hid H ρ o v) (h : (lstOf st o).isSome = true) : tyV K "list" v H := by
  cases e : lstOf st o with
  | none => rw [e] at h; cases h
  | some ds =>
    obtain ⟨p, vs, ev, f, _⟩ := lst_of M e r
    subst ev
    exact .inl ⟨rfl, vs, .inl f⟩
theorem r_app {apos : Pos} (g : c.K = X.K) (ho : PE X a (E c W F y)) (ha : PE X b (E c W F x)) (hbase : attributeBase a "append" X.env (eval a X.env) = eval a X.env)
    (hfew : ((backTo pos (starEach [b] X.env)).all (fun x => !x.1) && (backToKw pos (keywordEach [] X.env)).all (fun x => x.1.isSome) && decide ([b].length + ([] : List Keyword).length + (if ([] : List Keyword).isEmpty then 0 else 1) < 30)) = true)
    (hline : (apos.endLine == pos.line) = true) (hs : starEach [b] X.env = [(false, eval b X.env)]) :
    PE X (.Call (.Attribute a "append" apos) [b] [] pos) (E c W F (.app y x)) := by
  refine PE.imp (pe_bm (T := "list") PySem.F.plainAttrs_list PySem.F.slot_list_append (by first | exact PySem.F.type_list_append | kernel_rfl) mt_append ho (pa1 ha hs) hbase hfew hline hs rfl) fun σ H Q ⟨hid, env, st, ρ, M, En, h⟩ => ?_
  rw [← g]
  simp only [evE] at h
  refine ⟨hid, env, st, ρ, M, En, (Post.bind h).imp fun v H1 ⟨d, st1, ρ1, N, q, h1⟩ => ?_⟩
  obtain ⟨ht, h2⟩ := post_ifP (p := (lstOf st1 d).isSome = true) h1
  refine ⟨tyV_lst rfl N.mt q ht, hid, env, st1, ρ1, N.mt, En.mono N.gr, (Post.bind h2).imp fun w H2 ⟨e, st2, ρ2, N2, q2, h3⟩ => ?_⟩
  exact (append_spec N2.mt (Rel.mono N2.gr _ _ q) q2 h3).2
theorem r_ext {apos : Pos} (g : c.K = X.K) (ho : PE X a (E c W F y)) (ha : PE X b (E c W F x)) (hbase : attributeBase a "extend" X.env (eval a X.env) = eval a X.env)
    (hfew : ((backTo pos (starEach [b] X.env)).all (fun x => !x.1) && (backToKw pos (keywordEach [] X.env)).all (fun x => x.1.isSome) && decide ([b].length + ([] : List Keyword).length + (if ([] : List Keyword).isEmpty then 0 else 1) < 30)) = true)
    (hline : (apos.endLine == pos.line) = true) (hs : starEach [b] X.env = [(false, eval b X.env)]) :
    PE X (.Call (.Attribute a "extend" apos) [b] [] pos) (E c W F (.ext y x)) := by
  refine PE.imp (pe_bm (T := "list") PySem.F.plainAttrs_list PySem.F.slot_list_extend (by first | exact PySem.F.type_list_extend | kernel_rfl) mt_extend ho (pa1 ha hs) hbase hfew hline hs rfl) fun σ H Q ⟨hid, env, st, ρ, M, En, h⟩ => ?_
  rw [← g]
  simp only [evE] at h
  refine ⟨hid, env, st, ρ, M, En, (Post.bind h).imp fun v H1 ⟨d, st1, ρ1, N, q, h1⟩ => ?_⟩
  obtain ⟨ht, h2⟩ := post_ifP (p := (lstOf st1 d).isSome = true) h1
  refine ⟨tyV_lst rfl N.mt q ht, hid, env, st1, ρ1, N.mt, En.mono N.gr, (Post.bind h2).imp fun w H2 ⟨e, st2, ρ2, N2, q2, h3⟩ => ?_⟩
  exact extend_spec N2.mt (Rel.mono N2.gr _ _ q) q2 h3
theorem r_pop {apos : Pos} (g : c.K = X.K) (ho : PE X a (E c W F y)) (hbase : attributeBase a "pop" X.env (eval a X.env) = eval a X.env)
    (hline : (apos.endLine == pos.line) = true) : PE X (.Call (.Attribute a "pop" apos) [] [] pos) (E c W F (.pop y)) := by
  refine PE.imp (pe_bm0 (T := "list") PySem.F.plainAttrs_list PySem.F.slot_list_pop (by first | exact PySem.F.type_list_pop | kernel_rfl) mt_pop ho hbase hline) fun σ H Q ⟨hid, env, st, ρ, M, En, h⟩ => ?_
  rw [← g]
  simp only [evE] at h
  refine ⟨hid, env, st, ρ, M, En, (Post.bind h).imp fun v H1 ⟨d, st1, ρ1, N, q, h1⟩ => ?_⟩
  exact pop_spec N.mt q h1
theorem isD_of {hid ρ : List Addr} {st : Stt} {H : Hp} {o : D} {v : V} (M : Mt c hid ρ st H) (r : Rel c.K hid H ρ o v) (h : (dicOf st o).isSome = true) : ∃ p, v = .ref p ∧ IsD H p := by
  cases e : dicOf st o with
  | none => rw [e] at h; cases h
  | some dd =>
    cases dd with
    | k ks ds =>
      obtain ⟨p, vs, ev, f, _⟩ := dic_k M e r
      exact ⟨p, ev, .inl ⟨_, f⟩⟩
    | t ks ds =>
      obtain ⟨p, vs, ev, f, _⟩ := dic_t M e r
      exact ⟨p, ev, .inr ⟨_, f⟩⟩
theorem r_get2 {apos : Pos} (g : c.K = X.K) (hr : Room k X.A) (ho : PE X a (E c W F y)) (ha : PE X b (E c W F x)) (hd : PE X d (E c W F z)) (m : M2 X a "get" apos b d pos) :
    PE X (.Call (.Attribute a "get" apos) [b, d] [] pos) (E c W F (.get2 y x z)) := by
  refine PE.imp (pe_dget2 (hu_of hr) ho ha hd m) fun σ H Q ⟨hid, env, st, ρ, M, En, h⟩ => ?_
  simp only [evE] at h
  refine ⟨hid, env, st, ρ, M, En, (Post.bind h).imp fun v H1 ⟨o, st1, ρ1, N, q, h1⟩ => ?_⟩
  obtain ⟨ht, h2⟩ := post_ifP (p := (dicOf st1 o).isSome = true) h1
  obtain ⟨p, ev, ip⟩ := isD_of N.mt q ht
  subst ev
  refine ⟨p, rfl, ip, hid, env, st1, ρ1, N.mt, En.mono N.gr, (Post.bind h2).imp fun w H2 ⟨e, st2, ρ2, N2, q2, h3⟩ => ?_⟩
  refine ⟨hid, env, st2, ρ2, N2.mt, (En.mono N.gr).mono N2.gr, (Post.bind h3).imp fun u H3 ⟨e3, st3, ρ3, N3, q3, h4⟩ => ?_⟩
  unfold get2D at h4
  cases er : dicAt st3 o e with
  | none => simp only [er] at h4; exact h4.elim
  | some r =>
    simp only [er] at h4
    obtain ⟨p', ov, ep, dg, hh⟩ := dget_of N3.mt er (Rel.mono (N2.gr.trans N3.gr) _ _ q) (Rel.mono N3.gr _ _ q2)
    cases ep
    refine ⟨ov, dg, ?_⟩
    rcases hh with ⟨e1, e2⟩ | ⟨d', z', e1, e2, e4⟩
    · rw [e1] at h4; rw [e2]
      exact h4.ok N3.mt q3
    · rw [e1] at h4; rw [e2]
      exact h4.ok N3.mt e4

/-! ### what the module holds -/
theorem r_glo {n : Str} {i : Nat} {dv : D} {v : V} {u : Value} (hg : Gl X n) (hm : X.mg n = some u) (r : RelV v u) (hd : (n == ("__debug__" : Str)) = false) (hF : F.glo i = some dv) (hc : (dv, v) ∈ c.cs) : PE X (.Name n pos) (E c W F (.glo i)) :=
  PE.imp (pe_glob hg hm r hd) fun σ H Q ⟨hid, env, st, ρ, M, En, h⟩ => by
    simp only [evE, hF] at h
    exact h.ok M (M.cs _ hc)

/-! ### {k: v, ..} -/
def tK (k : Key) : TE := fun σ H Q => Q (kV k) H
def keyE : Key → Expr → Prop
  | .inl i, e => ∃ j p, e = .Constant (.int i) j p
  | .inr x, e => ∃ j p, e = .Constant (.str x) j p
theorem pe_key {k : Key} {e : Expr} (h : keyE k e) : PE X e (tK k) := by
  cases k with
  | inl i => obtain ⟨j, p, rfl⟩ := h; exact pe_int
  | inr i => obtain ⟨j, p, rfl⟩ := h; exact pe_str
def trD (c : Cc) (W : WX) (F : Fs) : List Key → IEs → List (TE × TE)
  | k :: ks, .cons x xs => (tK k, E c W F x) :: trD c W F ks xs
  | _, _ => []
def esLen : IEs → Nat
  | .nil => 0
  | .cons _ xs => esLen xs + 1
theorem pairs_spec : ∀ (ks : List Key) (xs : IEs) {hid : List Addr} {env : Env} {st : Stt} {ρ : List Addr} {H : Hp} {σ : L2.St} {Q : List (V × V) → Hp → Prop}, Mt c hid ρ st H → EnvR c hid H ρ env σ →
    Post c hid W σ ρ H (evL F c.b xs env st) (rls c hid) (fun vs H' => Q ((ks.zip vs).map fun kv => (kV kv.1, kv.2)) H') → esLen xs = ks.length → tPairs (trD c W F ks xs) σ H Q
  | [], .nil, hid, env, st, ρ, H, σ, Q, M, En, h, hl => by
    simp only [evL] at h
    exact Post.ok (rel := rls c hid) (v := []) h M rfl
  | k :: ks, .cons x xs, hid, env, st, ρ, H, σ, Q, M, En, h, hl => by
    simp only [evL] at h
    show tK k σ H fun _ _ => _
    show E c W F x σ H _
    refine ⟨hid, env, st, ρ, M, En, (Post.bind h).imp fun v H1 ⟨d, st1, ρ1, N, q, h1⟩ => ?_⟩
    refine pairs_spec ks xs N.mt (En.mono N.gr) ?_ (Nat.succ.inj hl)
    refine (Post.bind h1).imp fun vs H2 ⟨ds, st2, ρ2, N2, q2, h2⟩ => ?_
    exact Post.ok (v := v :: vs) h2 N2.mt ⟨v, vs, rfl, Rel.mono N2.gr _ _ q, q2⟩
  | [], .cons _ _, _, _, _, _, _, _, _, _, _, _, hl => by cases hl
  | _ :: _, .nil, _, _, _, _, _, _, _, _, _, _, hl => by cases hl
theorem put_new {κ : Type} [DecidableEq κ] {k : κ} {v : V} {acc : List (κ × V)} (h : (acc.any fun kv => decide (kv.1 = k)) = false) : putK acc k v = acc ++ [(k, v)] := by
  unfold putK
  rw [if_neg (by rw [h]; exact Bool.false_ne_true)]
theorem merge_id : ∀ (kvs acc : List (Key × V)), nodupB (kvs.map (·.1)) = true → (∀ p ∈ kvs, (acc.any fun kv => decide (kv.1 = p.1)) = false) → mergeK acc kvs = acc ++ kvs
  | [], acc, _, _ => (List.append_nil acc).symm
  | p :: kvs, acc, h, ha => by
    have h' : (!((kvs.map (·.1)).any fun l => decide (l = p.1)) && nodupB (kvs.map (·.1))) = true := h
    rw [Bool.and_eq_true] at h'
    show mergeK (putK acc p.1 p.2) kvs = _
    rw [put_new (ha p (List.mem_cons_self ..))]
    rw [merge_id kvs _ h'.2 fun q hq => ?_]
    · rw [List.append_assoc]; rfl
    · rw [List.any_append, ha q (List.mem_cons_of_mem _ hq)]
      have h1 : ((kvs.map (·.1)).any fun l => decide (l = p.1)) = false := by simpa using h'.1
      rw [List.any_eq_false] at h1
      have h2 := h1 q.1 (List.mem_map_of_mem hq)
      simp only [decide_eq_true_eq] at h2
      simp [Ne.symm h2]
theorem newK_post {hid ρ0 ρ : List Addr} {st st0 : Stt} {H0 H : Hp} {Q : VK} {m : Bool} {p : Addr} {ks : List Key} {ds : List D} {vs : List V} {o : HO} (M0 : Mt c hid ρ0 st0 H0) (hp : H0 p = none) (N : Nx c (p :: hid) ρ0 (upd H0 p o) ρ st H) (hc : Chg o) (r : Rels c.K (p :: hid) H ρ ds vs) (hl : ks.length = vs.length)
    (h : ∀ v H' ρ', Nx c hid ρ0 H0 ρ' (if m then st ++ [.dK ks ds] else st) H' → Rel c.K hid H' ρ' (if m then .ref st.length else .dK ks ds) v → Q v H') : Q (.ref p) (upd H p (.dK (ks.zip vs))) := by
  obtain ⟨M1, g1⟩ := M0.hide hp hc
  have hk := hid_keep M0 hp (o := o) (H2 := H) (fun a ha => N.hk a ha) (ho := .dK (ks.zip vs))
  have pf := (M0.fresh hp).2
  cases m with
  | false =>
    have g := Gr.show (o := .dK (ks.zip vs)) N.mt
    refine h (.ref p) _ ρ ⟨N.mt.show trivial, (g1.trans N.gr).trans g, hk⟩ ⟨p, vs, rfl, ⟨.inl upd_same, fun hm => N.mt.dis p hm (List.mem_cons_self ..), pf⟩, hl, Rels.mono g _ _ r⟩
  | true =>
    have g := Gr.adopt (o := .dK (ks.zip vs)) N.mt
    have M2 := N.mt.adopt (o := .dK ks ds) (ho := .dK (ks.zip vs)) pf trivial ⟨vs, rfl, hl, r⟩
    exact h (.ref p) _ (ρ ++ [p]) ⟨M2, (g1.trans N.gr).trans g, hk⟩ ⟨p, rfl, at_new N.mt.len⟩
theorem r_dic {keys : List (Option Expr)} {vals : List Expr} {m : Bool} {ks : List Key} (h : PPs X pos keys vals (trD c W F ks xs)) (hn : nodupB ks = true) (hx : esLen xs = ks.length) (hall : keys.all (·.isSome) = true) (hl : keys.length = vals.length) (h0 : keys ≠ []) (h15 : keys.length ≤ 15) (hk : keys.length = ks.length) :
    PE X (.Dict keys vals pos) (E c W F (.dic m ks xs)) := by
  refine PE.imp (pe_disp h hall hl h0 h15) fun σ H Q ⟨hid, env, st, ρ, M, En, h⟩ => fun p hp => ?_
  simp only [evE] at h
  obtain ⟨M1, g1⟩ := M.hide (o := .dK []) hp trivial
  refine pairs_spec ks xs M1 (En.mono g1) ?_ hx
  refine (Post.hide (o := .dK []) (rel1 := rls c (p :: hid)) M hp trivial h).imp fun vs H1 ⟨ds, st1, ρ1, _, N, q, h1⟩ => ?_
  obtain ⟨hz, h2⟩ := post_if h1
  simp only [Bool.and_eq_true, decide_eq_true_eq] at hz
  have hl2 : ks.length = vs.length := by rw [hz.1.2, q.len]
  have e1 : H1 p = some (.dK []) := by rw [N.hk p (List.mem_cons_self ..), upd_same]
  have e2 : mergeK [] (ks.zip vs) = ks.zip vs := by
    rw [merge_id (ks.zip vs) [] (by rw [List.map_fst_zip (by omega)]; exact hn) (fun _ _ => rfl), List.nil_append]
  refine ⟨e1, ks.zip vs, rfl, by rw [List.length_zip]; omega, ?_⟩
  rw [e2]
  refine newK_post (o := .dK []) M hp N trivial q hl2 (m := m) fun v H' ρ' N' r' => ?_
  cases m with
  | false => exact h2 v H' ρ' N' r'
  | true => exact h2 v H' ρ' N' r'
theorem r_dic0 {m t : Bool} : PE X (.Dict [] [] pos) (E c W F (.dic0 m t)) := by
  cases t with
  | false =>
    refine PE.imp pe_dnewK fun σ H Q ⟨hid, env, st, ρ, M, En, h⟩ => fun p hp => ?_
    simp only [evE, newK] at h
    cases m with
    | false => exact h _ _ ρ (Nx.new M hp) ⟨p, [], rfl, ⟨.inl upd_same, (M.fresh hp).1, (M.fresh hp).2⟩, rfl, rfl⟩
    | true => exact h _ _ _ (Nx.push (o := .dK [] []) M hp trivial ⟨[], rfl, rfl, rfl⟩) ⟨p, rfl, at_new M.len⟩
  | true =>
    refine PE.imp pe_dnewT fun σ H Q ⟨hid, env, st, ρ, M, En, h⟩ => fun p hp => ?_
    simp only [evE, newT] at h
    cases m with
    | false => exact h _ _ ρ (Nx.new M hp) ⟨p, [], rfl, ⟨.inl upd_same, (M.fresh hp).1, (M.fresh hp).2⟩, rfl, rfl⟩
    | true => exact h _ _ _ (Nx.push (o := .dT [] []) M hp trivial ⟨[], rfl, rfl, rfl⟩) ⟨p, rfl, at_new M.len⟩
/-! ### x[::-1] -/
theorem Rels.rev {K : PySem.W.Frag} {hid ρ : List Addr} {H : Hp} : ∀ {ds : List D} {vs : List V}, Rels K hid H ρ ds vs → Rels K hid H ρ ds.reverse vs.reverse
  | [], _, h => by
    have e : _ = [] := h
    subst e
    exact rfl
  | d :: ds, _, h => by
    obtain ⟨v, r, e, h1, h2⟩ := h
    subst e
    rw [List.reverse_cons, List.reverse_cons]
    exact Rels.app (Rels.rev h2) (Rels.one h1)
theorem r_rev {j : Nat} {p1 p2 p3 : Pos} (g : c.K = X.K) (ha : PE X a (E c W F x)) : PE X (.Subscript a (.Slice none none (some (.UnaryOp .USub (.Constant (.int 1) j p1) p2)) p3) pos) (E c W F (.rev x)) :=
  PE.imp (pe_rev ha) fun σ H Q ⟨hid, env, st, ρ, M, En, h⟩ => by
    rw [← g]
    simp only [evE] at h
    refine ⟨hid, env, st, ρ, M, En, (Post.bind h).imp fun v H1 ⟨d, st1, ρ1, N, q, h1⟩ => ?_⟩
    have lst : ∀ {d : D}, Rel c.K hid H1 ρ1 d v → Post c hid W σ ρ1 H1 (match lstOf st1 d with
        | some xs => .ok (.lst xs.reverse) st1
        | none => .no) (rl c hid) Q → ∃ a xs, v = .ref a ∧ ((SqL c.K H1 a xs ∧ ∀ p, H1 p = none → Q (.ref p) (upd H1 p (.lst xs.reverse))) ∨ (SqT c.K H1 a xs ∧ ∀ p, H1 p = none → Q (.ref p) (upd H1 p (.tup xs.reverse)))) := fun {d} r h => by
      cases e : lstOf st1 d with
      | none => simp only [e] at h; exact h.elim
      | some ys =>
        simp only [e] at h
        obtain ⟨p, vs, ea, fa, ra⟩ := lst_of N.mt e r
        exact ⟨p, vs, ea, .inl ⟨.inl fa, newF_post h N.mt ra.rev⟩⟩
    cases d with
    | tup ys =>
      obtain ⟨p, vs, e, f, r⟩ := q
      have h1 : Post c hid W σ ρ1 H1 (.ok (.tup ys.reverse) st1) (rl c hid) Q := h1
      exact ⟨p, vs, e, .inr ⟨.inl (.inl f), newT_post h1 N.mt r.rev⟩⟩
    | rd ys =>
      obtain ⟨p, vs, e, f, r⟩ := q
      have h1 : Post c hid W σ ρ1 H1 (.ok (.lst ys.reverse) st1) (rl c hid) Q := h1
      exact ⟨p, vs, e, .inl ⟨f.elim (fun f => .inl f.1) .inr, newF_post h1 N.mt r.rev⟩⟩
    | lst ys => exact lst q h1
    | ref n => exact lst q h1
    | _ => exact h1.elim
end
end Y
/-! Y11: targets, comprehensions. -/
namespace Y
open PySem PySem.Spec PyProof.Rows L2

/-! ### targets -/
mutual
/-- the slots that a target sets -/
def gIx : IG → List Nat
  | .nm i => [i]
  | .tp gs => gIxs gs
  | .ix _ _ => []
def gIxs : IGs → List Nat
  | .nil => []
  | .cons g gs => gIx g ++ gIxs gs
end
/-- alike but in the slots is -/
def But (is : List Nat) (σ σ' : L2.St) : Prop := σ'.length = σ.length ∧ ∀ j, j ∉ is → σ'[j]? = σ[j]?
theorem But.refl {is : List Nat} {σ : L2.St} : But is σ σ := ⟨rfl, fun _ _ => rfl⟩
theorem But.trans {is js : List Nat} {σ σ' σ'' : L2.St} (a : But is σ σ') (b : But js σ' σ'') : But (is ++ js) σ σ'' :=
  ⟨b.1.trans a.1, fun j h => (b.2 j fun z => h (List.mem_append_right _ z)).trans (a.2 j fun z => h (List.mem_append_left _ z))⟩
theorem But.set {i : Nat} {σ : L2.St} {o : Option V} : But [i] σ (σ.set i o) := ⟨List.length_set .., fun j h => List.getElem?_set_ne fun z => h (by rw [z]; exact List.mem_singleton.mpr rfl)⟩
def PostG (c : Cc) (hid : List Addr) (σ : L2.St) (is : List Nat) (ρ : List Addr) (H : Hp) (r : R Env) (Q : L2.St → Hp → Prop) : Prop := match r with
  | .ok env st => ∀ σ' H' ρ', Nx c hid ρ H ρ' st H' → EnvR c hid H' ρ' env σ' → But is σ σ' → Q σ' H'
  | .ex _ _ _ => False
  | .no => False
abbrev Tg (c : Cc) (F : Fs) (x : IG) : TG := fun v σ H Q => ∃ hid env st ρ d, Mt c hid ρ st H ∧ EnvR c hid H ρ env σ ∧ Rel c.K hid H ρ d v ∧ PostG c hid σ (gIx x) ρ H (asG F c.b x d env st) Q
abbrev Tgs (c : Cc) (F : Fs) (x : IGs) : TGs := fun vs σ H Q => ∃ hid env st ρ ds, Mt c hid ρ st H ∧ EnvR c hid H ρ env σ ∧ Rels c.K hid H ρ ds vs ∧ PostG c hid σ (gIxs x) ρ H (asGs F c.b x ds env st) Q
theorem PG.imp {X : Cx} {e : Expr} {t t' : TG} (h : PG X e t) (i : ∀ v σ H Q, t' v σ H Q → t v σ H Q) : PG X e t' := ⟨fun pins s σ H v u Q I r q => h.run pins s σ H v u Q I r (i v σ H Q q)⟩
theorem PGs.imp {X : Cx} {e : List Expr} {t t' : TGs} (h : PGs X e t) (i : ∀ v σ H Q, t' v σ H Q → t v σ H Q) : PGs X e t' := ⟨fun pins s σ H v u Q I r q => h.run pins s σ H v u Q I r (i v σ H Q q)⟩
section
variable {X : Cx} {c : Cc} {W : WX} {F : Fs} {pos : Pos} {a b tg : Expr} {x y : IE} {k : Nat}
theorem g_nm {i : Nat} {n : Str} (hN : X.N.Nodup) (hi : X.N[i]? = some n) (hx : Loc X.env.scope n) (hf : X.fn n = true ∨ X.env.scope.names.lookup n = some .local) : PG X (.Name n pos) (Tg c F (.nm i)) :=
  PG.imp (pg_name hN hi hx hf) fun v σ H Q ⟨hid, env, st, ρ, d, M, En, r, h⟩ => by
    simp only [asG] at h
    exact h _ _ ρ (Nx.refl M) (En.set i r) But.set
theorem g_nil : PGs X [] (Tgs c F .nil) :=
  PGs.imp pgs_nil fun v σ H Q ⟨hid, env, st, ρ, ds, M, En, r, h⟩ => by
    cases ds with
    | nil =>
      simp only [asGs] at h
      exact ⟨r, h _ _ ρ (Nx.refl M) En But.refl⟩
    | cons d ds => simp only [asGs] at h; exact h.elim
theorem g_cons {es : List Expr} {g : IG} {gs : IGs} (h1 : PG X a (Tg c F g)) (h2 : PGs X es (Tgs c F gs)) (hs : (assignEach (a :: es) X.env).map (·.2) = assign a X.env :: (assignEach es X.env).map (·.2)) : PGs X (a :: es) (Tgs c F (.cons g gs)) :=
  PGs.imp (pgs_cons h1 h2 hs) fun v σ H Q ⟨hid, env, st, ρ, ds, M, En, r, h⟩ => by
    cases ds with
    | nil => simp only [asGs] at h; exact h.elim
    | cons d ds =>
      simp only [asGs] at h
      obtain ⟨v1, vr, ev, r1, r2⟩ := r
      refine ⟨v1, vr, ev, hid, env, st, ρ, d, M, En, r1, ?_⟩
      cases e : asG F c.b g d env st with
      | no => rw [e] at h; exact h.elim
      | ex e' d' s' => rw [e] at h; exact h.elim
      | ok env1 st1 =>
        rw [e] at h
        intro σ1 H1 ρ1 N E1 B1
        refine ⟨hid, env1, st1, ρ1, ds, N.mt, E1, Rels.mono N.gr _ _ r2, ?_⟩
        have h' : PostG c hid σ (gIxs (.cons g gs)) ρ H (asGs F c.b gs ds env1 st1) Q := h
        cases e2 : asGs F c.b gs ds env1 st1 with
        | no => rw [e2] at h'; exact h'
        | ok env2 st2 =>
          rw [e2] at h'
          exact fun σ2 H2 ρ2 N2 E2 B2 => h' σ2 H2 ρ2 (N.trans N2) E2 (B1.trans B2)
        | ex e' d' s' => rw [e2] at h'; exact h'
theorem g_tup {es : List Expr} {gs : IGs} {j : Nat} {n : Nat} (g : c.K = X.K) (hc : X.calm = true) (h : PGs X es (Tgs c F gs)) (hn : (assignEach es X.env).length = n) (hst : (assignEach es X.env).findIdx? (·.1) = none) (hl : ∀ ds env st env1 st1, asGs F c.b gs ds env st = .ok env1 st1 → ds.length = n) :
    PG X (.Tuple es j pos) (Tg c F (.tp gs)) :=
  PG.imp (pg_tup (n := n) hc h hn hst) fun v σ H Q ⟨hid, env, st, ρ, d, M, En, r, h⟩ => by
    rw [← g]
    simp only [asG] at h
    cases d with
    | tup ds =>
      obtain ⟨p, vs, ev, f, rs⟩ := r
      have h' : PostG c hid σ (gIxs gs) ρ H (asGs F c.b gs ds env st) Q := h
      cases e : asGs F c.b gs ds env st with
      | no => rw [e] at h'; exact h'.elim
      | ex _ _ _ => rw [e] at h'; exact h'.elim
      | ok env1 st1 =>
        exact ⟨p, vs, ev, .inl (.inl f), by rw [← rs.len]; exact hl ds env st env1 st1 e, hid, env, st, ρ, ds, M, En, rs, h'⟩
    | ct ds =>
      obtain ⟨p, vs, ev, f, rs⟩ := r
      have h' : PostG c hid σ (gIxs gs) ρ H (asGs F c.b gs ds env st) Q := h
      cases e : asGs F c.b gs ds env st with
      | no => rw [e] at h'; exact h'.elim
      | ex _ _ _ => rw [e] at h'; exact h'.elim
      | ok env1 st1 =>
        exact ⟨p, vs, ev, .inr f, by rw [← rs.len]; exact hl ds env st env1 st1 e, hid, env, st, ρ, ds, M, En, rs, h'⟩
    | _ => exact h.elim
/-- an outer wish, the value had elsewhere -/
theorem Post.far {α β γ δ : Type} {c' : Cc} {hid hid' : List Addr} {W' : WX} {σ σ' : L2.St} {ρ ρ' : List Addr} {H H' : Hp} {r : R α} {f : α → Stt → R γ} {rel1 : Hp → List Addr → α → β → Prop} {rel2 : Hp → List Addr → γ → δ → Prop} {Q2 : δ → Hp → Prop}
    (h : Post c hid W σ ρ H ((noEx r).bind f) rel2 Q2) : Post c' hid' W' σ' ρ' H' r rel1 (fun v H1 => ∃ d st1 ρ1, r = .ok d st1 ∧ Nx c' hid' ρ' H' ρ1 st1 H1 ∧ rel1 H1 ρ1 d v ∧ Post c hid W σ ρ H (f d st1) rel2 Q2) := by
  cases r with
  | ok d st => exact fun v H1 ρ1 N q => ⟨d, st, ρ1, rfl, N, q, h⟩
  | ex e d st => exact h.elim
  | no => exact h.elim
theorem noEx_ok {α : Type} {r : R α} {a : α} {st : Stt} (h : noEx r = .ok a st) : r = .ok a st := by
  cases r with
  | ok b s => exact h
  | ex _ _ _ => cases h
  | no => cases h
def nW : WX := fun _ _ _ _ => False
theorem g_ix {r : Room k X.A} (g : c.K = X.K) (ha : PE X a (E c nW F x)) (hb : PE X b (E c nW F y))
    (hs : ∀ v, assign (.Subscript a b pos) X.env v = (do
      let ov ← holding [v] (eval a X.env)
      let iv ← holding [v, ov] (eval b X.env)
      standAt pos
      holding [v, ov, iv] (setItem ov iv v)
      release [v, ov, iv] [])) : PG X (.Subscript a b pos) (Tg c F (.ix x y)) :=
  PG.imp (pg_sub ha hb (set_all r) hs) fun v σ H Q ⟨hid, env, st, ρ, d, M, En, r, h⟩ => by
    simp only [asG] at h
    cases e : evE F c.b x env st with
    | no => rw [e] at h; exact h.elim
    | ex _ _ _ => rw [e] at h; exact h.elim
    | ok o st1 =>
      rw [e] at h
      refine ⟨hid, env, st, ρ, M, En, ?_⟩
      rw [e]
      intro ov H1 ρ1 N1 q1
      refine ⟨hid, env, st1, ρ1, N1.mt, En.mono N1.gr, ?_⟩
      have h' : PostG c hid σ [] ρ H ((noEx (evE F c.b y env st1)).bind fun i st => match setD c.b o i d st with
        | some st => .ok env st
        | none => .no) Q := h
      cases e2 : evE F c.b y env st1 with
      | no => rw [e2] at h'; exact h'.elim
      | ex _ _ _ => rw [e2] at h'; exact h'.elim
      | ok i st2 =>
        rw [e2] at h'
        intro iv H2 ρ2 N2 q2
        have h2 : PostG c hid σ [] ρ H (match setD c.b o i d st2 with
          | some st => .ok env st
          | none => .no) Q := h'
        cases e3 : setD c.b o i d st2 with
        | none => rw [e3] at h2; exact h2.elim
        | some st3 =>
          rw [e3] at h2
          refine set_spec N2.mt (Rel.mono N2.gr _ _ q1) q2 (Rel.mono (N1.gr.trans N2.gr) _ _ r) e3 fun H' N3 => ?_
          exact h2 σ H' _ ((N1.trans N2).trans N3) (((En.mono N1.gr).mono N2.gr).mono N3.gr) But.refl
end

/-! ### comprehensions -/
theorem wipe_len (env : Env) : ∀ vs : List Nat, (Y.wipe env vs).length = env.length
  | [] => rfl
  | v :: vs => by unfold Y.wipe; rw [List.length_set, wipe_len env vs]
theorem wipe_out' {env : Env} {i : Nat} {d : D} : ∀ {vs : List Nat}, (Y.wipe env vs)[i]? = some (some d) → env[i]? = some (some d) ∧ i ∉ vs
  | [], h => ⟨h, by simp⟩
  | v :: vs, h => by
    unfold Y.wipe at h
    by_cases e : v = i
    · subst e
      by_cases hl : v < (Y.wipe env vs).length
      · rw [List.getElem?_set_self hl] at h; cases h
      · rw [List.getElem?_eq_none (by rw [List.length_set]; omega)] at h; cases h
    · rw [List.getElem?_set_ne e] at h
      obtain ⟨h1, h2⟩ := wipe_out' h
      exact ⟨h1, by simp [h2, Ne.symm e]⟩
theorem wipe_get {σ : L2.St} {i : Nat} : ∀ {vs : List Nat}, i ∉ vs → (L2.wipe σ vs)[i]? = σ[i]?
  | [], _ => rfl
  | v :: vs, h => by
    unfold L2.wipe
    rw [List.getElem?_set_ne (fun e => h (by rw [e]; exact List.mem_cons_self ..))]
    exact wipe_get fun z => h (List.mem_cons_of_mem _ z)
theorem wipe_in {σ : L2.St} {i : Nat} : ∀ {vs : List Nat}, i ∈ vs → i < σ.length → (L2.wipe σ vs)[i]? = some none
  | v :: vs, h, hl => by
    unfold L2.wipe
    by_cases e : v = i
    · subst e
      exact List.getElem?_set_self (by rw [L2.wipe_length]; exact hl)
    · rw [List.getElem?_set_ne e]
      exact wipe_in ((List.mem_cons.mp h).resolve_left (Ne.symm e)) hl
theorem wipe_but {σ σ' : L2.St} {is vs : List Nat} (B : But is σ σ') (h : ∀ i ∈ is, i ∈ vs) : L2.wipe σ' vs = L2.wipe σ vs := by
  refine List.ext_getElem? fun j => ?_
  by_cases hj : j ∈ vs
  · by_cases hl : j < σ.length
    · rw [wipe_in hj hl, wipe_in hj (by rw [B.1]; exact hl)]
    · rw [List.getElem?_eq_none (by rw [L2.wipe_length, B.1]; omega), List.getElem?_eq_none (by rw [L2.wipe_length]; omega)]
  · rw [wipe_get hj, wipe_get hj]
    exact B.2 j fun z => hj (h j z)
theorem wipe_wipe {σ : L2.St} {vs : List Nat} : L2.wipe (L2.wipe σ vs) vs = L2.wipe σ vs := by
  refine List.ext_getElem? fun j => ?_
  by_cases hj : j ∈ vs
  · by_cases hl : j < σ.length
    · rw [wipe_in hj hl, wipe_in hj (by rw [L2.wipe_length]; exact hl)]
    · rw [List.getElem?_eq_none (by rw [L2.wipe_length, L2.wipe_length]; omega), List.getElem?_eq_none (by rw [L2.wipe_length]; omega)]
  · rw [wipe_get hj]
theorem EnvR.wipe {c : Cc} {hid : List Addr} {H : Hp} {ρ : List Addr} {env : Env} {σ : L2.St} (En : EnvR c hid H ρ env σ) (vs : List Nat) : EnvR c hid H ρ (Y.wipe env vs) (L2.wipe σ vs) :=
  ⟨by rw [wipe_len, L2.wipe_length, En.1], fun i d e => by
    obtain ⟨h1, h2⟩ := wipe_out' e
    obtain ⟨v, h3, h4⟩ := En.2 i d h1
    exact ⟨v, by rw [wipe_get h2]; exact h3, h4⟩⟩
theorem drop_get {α : Type} {xs : List α} {i : Nat} {x : α} (h : xs[i]? = some x) : xs.drop i = x :: xs.drop (i + 1) := by
  obtain ⟨hl, e⟩ := List.getElem?_eq_some_iff.mp h
  rw [← e]
  exact List.drop_eq_getElem_cons hl
theorem bind_assoc {α β γ : Type} (r : R α) (f : α → Stt → R β) (g : β → Stt → R γ) : (r.bind f).bind g = r.bind fun a st => (f a st).bind g := by
  cases r <;> rfl
theorem stills_eq {st : Stt} {src : List (D × List D)} {α : Type} {r : R α} {c : Cc} {hid : List Addr} {W : WX} {σ : L2.St} {ρ : List Addr} {H : Hp} {β γ : Type} {f : α → Stt → R γ} {rel : Hp → List Addr → γ → β → Prop} {Q : β → Hp → Prop}
    (h : Post c hid W σ ρ H ((if stills st src then r else .no).bind f) rel Q) : stills st src = true ∧ Post c hid W σ ρ H (r.bind f) rel Q := by
  cases e : stills st src with
  | true => rw [e] at h; exact ⟨rfl, h⟩
  | false => rw [e] at h; exact h.elim
section
variable {X : Cx} {c : Cc} {W : WX} {F : Fs} {pos : Pos} {a b tg : Expr} {x y : IE} {k : Nat}
abbrev Co (c : Cc) (W : WX) (F : Fs) (x : ICo) : TT := Tt c W (evCo F c.b x)
theorem t_non : PTs X [] (Co c W F .non) := ⟨fun pins s σ H Q I ⟨hid, env, st, ρ, M, En, h⟩ => by
  simp only [evCo] at h
  exact pts_nil.run pins s σ H Q I (Post.ok (rel := rq) (v := true) h M rfl)⟩
theorem t_som {t : IC} (h : PT X a (C c W F t)) : PTs X [a] (Co c W F (.som t)) := ⟨fun pins s σ H Q I ⟨hid, env, st, ρ, M, En, h1⟩ => by
  simp only [evCo] at h1
  exact (pts_one h).run pins s σ H Q I ⟨hid, env, st, ρ, M, En, h1⟩⟩
/-- a new list at D, as it stands at the end -/
theorem newLd_post {hid ρ0 ρ : List Addr} {st st0 : Stt} {H0 H : Hp} {Q : VK} {m : Bool} {p : Addr} {ds : List D} {vs : List V} (M0 : Mt c hid ρ0 st0 H0) (hp : H0 p = none) (M : Mt c (p :: hid) ρ st H) (g1 : Gr hid ρ0 H0 (p :: hid) ρ H) (hk : ∀ a ∈ hid, H a = H0 a)
    (e : H p = some (.lst vs)) (r : Rels c.K (p :: hid) H ρ ds vs) {σ : L2.St} (h : Post c hid W σ ρ0 H0 (newL m ds st) (rl c hid) Q) : Q (.ref p) H := by
  have pf := (M0.fresh hp).2
  have eu : upd H p (.lst vs) = H := upd_id e
  cases m with
  | false =>
    have g := Gr.show (o := .lst vs) M
    have M2 := M.show (o := .lst vs) trivial
    rw [eu] at g M2
    exact h _ _ ρ ⟨M2, g1.trans g, hk⟩ ⟨p, vs, rfl, ⟨.inl e, fun hm => M.dis p hm (List.mem_cons_self ..), pf⟩, Rels.mono g _ _ r⟩
  | true =>
    have g := Gr.adopt (o := .lst vs) M
    have M2 := M.adopt (o := .lst ds) (ho := .lst vs) pf trivial ⟨vs, rfl, r⟩
    rw [eu] at g M2
    exact h _ _ (ρ ++ [p]) ⟨M2, g1.trans g, hk⟩ ⟨p, rfl, at_new M.len⟩
theorem lc_spec {own : List Nat} {m : Bool} {g : IG} {it : IT} {t : ICo} {σ : L2.St} {H : Hp} {Q : VK} (hw : ∀ i ∈ gIx g, i ∈ own) (h : E c W F (.lc m x g it t own) σ H Q) : tLc (Iw c W F it) (Tg c F g) (Co c nW F t) (E c nW F x) own σ H Q := by
  obtain ⟨hid, env, st, ρ, M, En, h⟩ := h
  simp only [evE] at h
  refine ⟨hid, env, st, ρ, M, En, (Post.bind (rel := fun H' ρ' w J => WkR c J w hid ρ' H') h).imp fun J H1 ⟨w, st1, ρ1, N, wk, h1⟩ => ?_⟩
  intro D hD
  obtain ⟨Mh, gh⟩ := N.mt.hide (o := .lst []) hD trivial
  have En1 := En.mono N.gr
  -- the invariant
  generalize hf : (fun d acc st => (noEx (asG F c.b g d (Y.wipe env own) st)).bind fun env2 st => (noEx (evCo F c.b t env2 st)).bind fun t st => if t = true then (noEx (evE F c.b x env2 st)).bind fun y st => push acc y st else R.ok acc st) = f at h1
  refine ⟨fun i mm H' => mm = w.items.length - i ∧ i ≤ w.items.length ∧ ∃ ρ' st' ds vs, Mt c (D :: hid) ρ' st' H' ∧ Gr hid ρ1 H1 (D :: hid) ρ' H' ∧ (∀ a ∈ hid, H' a = H1 a) ∧ H' D = some (.lst vs) ∧ Rels c.K (D :: hid) H' ρ' ds vs ∧
      Post c hid W σ ρ1 H1 ((lcA w.src f (w.items.drop i) ds st').bind fun xs st => newL m xs st) (rl c hid) Q, ⟨_, rfl, Nat.zero_le _, ρ1, st1, [], [], Mh, gh, fun a ha => upd_ne (fun z : a = D => (N.mt.fresh hD).2 (by rw [← z]; exact ha)), upd_same, rfl, h1⟩, ?_⟩
  rintro i mm H2 ⟨rfl, hi2, ρ2, st2, ds, vs, M2, g2, hk, eD, rs, h2⟩
  by_cases hlt : i < w.items.length
  · obtain ⟨d, hd⟩ : ∃ d, w.items[i]? = some d := ⟨_, List.getElem?_eq_getElem hlt⟩
    rw [drop_get hd] at h2
    unfold lcA at h2
    obtain ⟨hst, h3⟩ := stills_eq h2
    obtain ⟨jg, jy⟩ := wk.go _ ρ2 st2 H2 i d M2 g2 hst hd
    refine .inr ⟨jg, fun H3 => ∃ ρ3 st3 ds3 vs3, Mt c (D :: hid) ρ3 st3 H3 ∧ Gr hid ρ1 H1 (D :: hid) ρ3 H3 ∧ (∀ a ∈ hid, H3 a = H1 a) ∧ H3 D = some (.lst vs3) ∧ Rels c.K (D :: hid) H3 ρ3 ds3 vs3 ∧
      Post c hid W σ ρ1 H1 ((lcA w.src f (w.items.drop (i + 1)) ds3 st3).bind fun xs st => newL m xs st) (rl c hid) Q, fun H3 q => ⟨_, by omega, rfl, hlt, q⟩, fun xv H3 hy => ?_⟩
    obtain ⟨N3, rx⟩ := jy xv H3 hy
    have g3 := g2.trans N3.gr
    have hk3 : ∀ a ∈ hid, H3 a = H1 a := fun a ha => (N3.hk a (List.mem_cons_of_mem _ ha)).trans (hk a ha)
    have eD3 : H3 D = some (.lst vs) := (N3.hk D (List.mem_cons_self ..)).trans eD
    have rs3 := Rels.mono N3.gr _ _ rs
    have h4 : Post c hid W σ ρ1 H1 ((noEx (asG F c.b g d (Y.wipe env own) st2)).bind fun env2 st => ((noEx (evCo F c.b t env2 st)).bind fun t st => if t = true then (noEx (evE F c.b x env2 st)).bind fun y st => push ds y st else R.ok ds st).bind fun acc st => (lcA w.src f (w.items.drop (i + 1)) acc st).bind fun xs st => newL m xs st) (rl c hid) Q := by
      rw [bind_assoc, ← hf, bind_assoc] at h3
      rw [← hf]
      exact h3
    refine ⟨D :: hid, Y.wipe env own, st2, ρ2, d, N3.mt, (En1.mono g3).wipe _, rx, ?_⟩
    cases e5 : asG F c.b g d (Y.wipe env own) st2 with
    | no => rw [e5] at h4; exact h4.elim
    | ex _ _ _ => rw [e5] at h4; exact h4.elim
    | ok env2 st4 =>
      rw [e5] at h4
      intro σ4 H4 ρ4 N4 E4 B4
      refine ⟨(wipe_but B4 hw).trans wipe_wipe, D :: hid, env2, st4, ρ4, N4.mt, E4, ?_⟩
      have h5 : Post c hid W σ ρ1 H1 ((noEx (evCo F c.b t env2 st4)).bind fun t st => (if t = true then (noEx (evE F c.b x env2 st)).bind fun y st => push ds y st else R.ok ds st).bind fun acc st => (lcA w.src f (w.items.drop (i + 1)) acc st).bind fun xs st => newL m xs st) (rl c hid) Q := by
        rw [← bind_assoc]
        exact h4
      refine (Post.far (rel1 := rq) h5).imp fun tb H5 ⟨tb', st5, ρ5, _, N5, et, h6⟩ => ?_
      subst et
      cases tb with
      | false =>
        refine ⟨ρ5, st5, ds, vs, N5.mt, (g3.trans N4.gr).trans N5.gr, fun a ha => ?_, ?_, Rels.mono (N4.gr.trans N5.gr) _ _ rs3, h6⟩
        · exact (N5.hk a (List.mem_cons_of_mem _ ha)).trans ((N4.hk a (List.mem_cons_of_mem _ ha)).trans (hk3 a ha))
        · exact (N5.hk D (List.mem_cons_self ..)).trans ((N4.hk D (List.mem_cons_self ..)).trans eD3)
      | true =>
        have h7 : Post c hid W σ ρ1 H1 ((noEx (evE F c.b x env2 st5)).bind fun y st => (push ds y st).bind fun acc st => (lcA w.src f (w.items.drop (i + 1)) acc st).bind fun xs st => newL m xs st) (rl c hid) Q := by
          rw [← bind_assoc]
          exact h6
        refine ⟨D :: hid, env2, st5, ρ5, N5.mt, E4.mono N5.gr, (Post.far (rel1 := rl c (D :: hid)) h7).imp fun yv H6 ⟨yd, st6, ρ6, _, N6, ry, h8⟩ => ?_⟩
        have eD6 : H6 D = some (.lst vs) := (N6.hk D (List.mem_cons_self ..)).trans ((N5.hk D (List.mem_cons_self ..)).trans ((N4.hk D (List.mem_cons_self ..)).trans eD3))
        have rs6 := Rels.mono ((N4.gr.trans N5.gr).trans N6.gr) _ _ rs3
        unfold push at h8
        by_cases hz : ds.length < sz
        · rw [if_pos hz] at h8
          refine ⟨vs, eD6, by rw [← rs6.len, ← sz_eq]; exact hz, ?_⟩
          obtain ⟨M7, g7⟩ := N6.mt.wrote (o := .lst (vs ++ [yv])) (List.mem_cons_self ..) trivial
          refine ⟨ρ6, st6, ds ++ [yd], vs ++ [yv], M7, (((g3.trans N4.gr).trans N5.gr).trans N6.gr).trans g7, fun a ha => ?_, upd_same, Rels.app (Rels.mono g7 _ _ rs6) (Rels.one (Rel.mono g7 _ _ ry)), h8⟩
          rw [upd_ne (fun z : a = D => (N.mt.fresh hD).2 (by rw [← z]; exact ha))]
          exact (N6.hk a (List.mem_cons_of_mem _ ha)).trans ((N5.hk a (List.mem_cons_of_mem _ ha)).trans ((N4.hk a (List.mem_cons_of_mem _ ha)).trans (hk3 a ha)))
        · rw [if_neg hz] at h8
          exact h8.elim
  · have ei : i = w.items.length := by omega
    subst ei
    rw [List.drop_length] at h2
    unfold lcA at h2
    obtain ⟨hst, h3⟩ := stills_eq h2
    exact .inl ⟨wk.stop _ ρ2 st2 H2 M2 g2 hst, newLd_post N.mt hD M2 g2 hk eD rs h3⟩
theorem r_lc {iter : Expr} {ifs : List Expr} {elt : Expr} {scope : Scope} {own : List (Str × Nat)} {m : Bool} {g : IG} {it : IT} {t : ICo} (hc : X.calm = true) (hN : X.N.Nodup) (hi : PI X tg iter (Iw c W F it)) (ok : BlkOk X.N X.env.scope scope own)
    (hg : ∀ (s : Shared) (H : Hp) (C : Addr) (cl : List (Str × Addr)) (fp : List Addr), PG (X.blk s H scope (compEnvC scope cl C X.env) fp) tg (Tg c F g)) (ht : ∀ (s : Shared) (H : Hp) (C : Addr) (cl : List (Str × Addr)) (fp : List Addr), PTs (X.blk s H scope (compEnvC scope cl C X.env) fp) ifs (Co c nW F t))
    (he : ∀ (s : Shared) (H : Hp) (C : Addr) (cl : List (Str × Addr)) (fp : List Addr), PE (X.blk s H scope (compEnvC scope cl C X.env) fp) elt (E c nW F x)) (hs : ∀ x, foldedSetIterable iter X.env x = pure x) (hw : ∀ i ∈ gIx g, i ∈ own.map (·.2)) :
    PE X (.ListComp elt [⟨tg, iter, ifs, 0⟩] scope pos) (E c W F (.lc m x g it t (own.map (·.2)))) := by
  exact PE.imp (pe_lc hc hN hi ok hg ht he hs) fun σ H Q h => lc_spec hw h
theorem lc2_spec {own own1 : List Nat} {m : Bool} {g g1 : IG} {it it1 : IT} {σ : L2.St} {H : Hp} {Q : VK} (hw : ∀ i ∈ gIx g, i ∈ own) (hw1 : ∀ i ∈ gIx g1, i ∈ own1) (h : E c W F (.lc2 m x g it g1 it1 own own1) σ H Q) : tLc2 (Iw c W F it) (Tg c F g) tYes (Iw c nW F it1) (Tg c F g1) tYes (E c nW F x) own own1 σ H Q := by
  obtain ⟨hid, env, st, ρ, M, En, h⟩ := h
  simp only [evE] at h
  refine ⟨hid, env, st, ρ, M, En, (Post.bind (rel := fun H' ρ' w J => WkR c J w hid ρ' H') h).imp fun J H1 ⟨w, st1, ρ1, N, wk, h1⟩ => ?_⟩
  intro D hD
  obtain ⟨Mh, gh⟩ := N.mt.hide (o := .lst []) hD trivial
  have En1 := En.mono N.gr
  have nD : ∀ a ∈ hid, a ≠ D := fun a ha z => (N.mt.fresh hD).2 (by rw [← z]; exact ha)
  generalize hf : (fun d acc st => (noEx (asG F c.b g d (Y.wipe env own) st)).bind fun env2 st => (noEx (evI F c.b it1 env2 st)).bind fun w1 st => lcA w1.src (fun d acc st => (noEx (asG F c.b g1 d (Y.wipe env2 own1) st)).bind fun env3 st => (noEx (evE F c.b x env3 st)).bind fun y st => push acc y st) w1.items acc st) = f at h1
  refine ⟨fun i mm H' => mm = w.items.length - i ∧ i ≤ w.items.length ∧ ∃ ρ' st' ds vs, Mt c (D :: hid) ρ' st' H' ∧ Gr hid ρ1 H1 (D :: hid) ρ' H' ∧ (∀ a ∈ hid, H' a = H1 a) ∧ H' D = some (.lst vs) ∧ Rels c.K (D :: hid) H' ρ' ds vs ∧
      Post c hid W σ ρ1 H1 ((lcA w.src f (w.items.drop i) ds st').bind fun xs st => newL m xs st) (rl c hid) Q, ⟨_, rfl, Nat.zero_le _, ρ1, st1, [], [], Mh, gh, fun a ha => upd_ne (nD a ha), upd_same, rfl, h1⟩, ?_⟩
  rintro i mm H2 ⟨rfl, hi2, ρ2, st2, ds, vs, M2, g2, hk, eD, rs, h2⟩
  by_cases hlt : i < w.items.length
  · obtain ⟨d, hd⟩ : ∃ d, w.items[i]? = some d := ⟨_, List.getElem?_eq_getElem hlt⟩
    rw [drop_get hd] at h2
    unfold lcA at h2
    obtain ⟨hst, h3⟩ := stills_eq h2
    obtain ⟨jg, jy⟩ := wk.go _ ρ2 st2 H2 i d M2 g2 hst hd
    refine .inr ⟨jg, fun H3 => ∃ ρ3 st3 ds3 vs3, Mt c (D :: hid) ρ3 st3 H3 ∧ Gr hid ρ1 H1 (D :: hid) ρ3 H3 ∧ (∀ a ∈ hid, H3 a = H1 a) ∧ H3 D = some (.lst vs3) ∧ Rels c.K (D :: hid) H3 ρ3 ds3 vs3 ∧
      Post c hid W σ ρ1 H1 ((lcA w.src f (w.items.drop (i + 1)) ds3 st3).bind fun xs st => newL m xs st) (rl c hid) Q, fun H3 q => ⟨_, by omega, rfl, hlt, q⟩, fun xv H3 hy => ?_⟩
    obtain ⟨N3, rx⟩ := jy xv H3 hy
    have g3 := g2.trans N3.gr
    have hk3 : ∀ a ∈ hid, H3 a = H1 a := fun a ha => (N3.hk a (List.mem_cons_of_mem _ ha)).trans (hk a ha)
    have eD3 : H3 D = some (.lst vs) := (N3.hk D (List.mem_cons_self ..)).trans eD
    have rs3 := Rels.mono N3.gr _ _ rs
    generalize hk2 : (fun acc st => (lcA w.src f (w.items.drop (i + 1)) acc st).bind fun xs st => newL m xs st) = k2 at h3 ⊢
    have h4 : Post c hid W σ ρ1 H1 ((noEx (asG F c.b g d (Y.wipe env own) st2)).bind fun env2 st => (noEx (evI F c.b it1 env2 st)).bind fun w1 st => (lcA w1.src (fun d acc st => (noEx (asG F c.b g1 d (Y.wipe env2 own1) st)).bind fun env3 st => (noEx (evE F c.b x env3 st)).bind fun y st => push acc y st) w1.items ds st).bind k2) (rl c hid) Q := by
      rw [bind_assoc, ← hf, bind_assoc] at h3
      rw [← hk2]
      try simp only [bind_assoc] at h3
      rw [← hf]
      try simp only [bind_assoc]
      exact h3
    refine ⟨D :: hid, Y.wipe env own, st2, ρ2, d, N3.mt, (En1.mono g3).wipe _, rx, ?_⟩
    cases e5 : asG F c.b g d (Y.wipe env own) st2 with
    | no => rw [e5] at h4; exact h4.elim
    | ex _ _ _ => rw [e5] at h4; exact h4.elim
    | ok env2 st4 =>
      rw [e5] at h4
      intro σ4 H4 ρ4 N4 E4 B4
      refine ⟨(wipe_but B4 hw).trans wipe_wipe, ?_⟩
      show Iw c nW F it1 σ4 H4 _
      have h5 : Post c hid W σ ρ1 H1 ((noEx (evI F c.b it1 env2 st4)).bind fun w1 st => (lcA w1.src (fun d acc st => (noEx (asG F c.b g1 d (Y.wipe env2 own1) st)).bind fun env3 st => (noEx (evE F c.b x env3 st)).bind fun y st => push acc y st) w1.items ds st).bind k2) (rl c hid) Q := h4
      refine ⟨D :: hid, env2, st4, ρ4, N4.mt, E4, (Post.far (rel1 := fun H' ρ' w J => WkR c J w (D :: hid) ρ' H') h5).imp fun J1 H5 ⟨w1, st5, ρ5, _, N5, wk1, h6⟩ => ?_⟩
      have E5 := E4.mono N5.gr
      generalize hf1 : (fun d acc st => (noEx (asG F c.b g1 d (Y.wipe env2 own1) st)).bind fun env3 st => (noEx (evE F c.b x env3 st)).bind fun y st => push acc y st) = f1 at h6
      have g5 := (g3.trans N4.gr).trans N5.gr
      have hk5 : ∀ a ∈ hid, H5 a = H1 a := fun a ha => (N5.hk a (List.mem_cons_of_mem _ ha)).trans ((N4.hk a (List.mem_cons_of_mem _ ha)).trans (hk3 a ha))
      have eD5 : H5 D = some (.lst vs) := (N5.hk D (List.mem_cons_self ..)).trans ((N4.hk D (List.mem_cons_self ..)).trans eD3)
      refine ⟨fun j mm H' => mm = w1.items.length - j ∧ j ≤ w1.items.length ∧ ∃ ρ' st' ds vs, Mt c (D :: hid) ρ' st' H' ∧ Gr (D :: hid) ρ5 H5 (D :: hid) ρ' H' ∧ (∀ a ∈ hid, H' a = H1 a) ∧ H' D = some (.lst vs) ∧ Rels c.K (D :: hid) H' ρ' ds vs ∧
        Post c hid W σ ρ1 H1 ((lcA w1.src f1 (w1.items.drop j) ds st').bind k2) (rl c hid) Q, ⟨_, rfl, Nat.zero_le _, ρ5, st5, ds, vs, N5.mt, Gr.refl N5.mt, hk5, eD5, Rels.mono (N4.gr.trans N5.gr) _ _ rs3, h6⟩, ?_⟩
      rintro j mm H6 ⟨rfl, hj2, ρ6, st6, ds6, vs6, M6, g6, hk6, eD6, rs6, h7⟩
      by_cases hlt1 : j < w1.items.length
      · obtain ⟨d1, hd1⟩ : ∃ d, w1.items[j]? = some d := ⟨_, List.getElem?_eq_getElem hlt1⟩
        rw [drop_get hd1] at h7
        unfold lcA at h7
        obtain ⟨hst1, h8⟩ := stills_eq h7
        obtain ⟨jg1, jy1⟩ := wk1.go _ ρ6 st6 H6 j d1 M6 g6 hst1 hd1
        refine .inr ⟨jg1, fun H' => ∃ ρ' st' ds vs, Mt c (D :: hid) ρ' st' H' ∧ Gr (D :: hid) ρ5 H5 (D :: hid) ρ' H' ∧ (∀ a ∈ hid, H' a = H1 a) ∧ H' D = some (.lst vs) ∧ Rels c.K (D :: hid) H' ρ' ds vs ∧
          Post c hid W σ ρ1 H1 ((lcA w1.src f1 (w1.items.drop (j + 1)) ds st').bind k2) (rl c hid) Q, fun H' q => ⟨_, by omega, rfl, hlt1, q⟩, fun xv1 H7 hy1 => ?_⟩
        obtain ⟨N7, rx1⟩ := jy1 xv1 H7 hy1
        have h9 : Post c hid W σ ρ1 H1 ((noEx (asG F c.b g1 d1 (Y.wipe env2 own1) st6)).bind fun env3 st => (noEx (evE F c.b x env3 st)).bind fun y st => (push ds6 y st).bind fun acc st => (lcA w1.src f1 (w1.items.drop (j + 1)) acc st).bind k2) (rl c hid) Q := by
          rw [bind_assoc, ← hf1] at h8
          try simp only [bind_assoc] at h8
          rw [← hf1]
          try simp only [bind_assoc]
          exact h8
        refine ⟨D :: hid, Y.wipe env2 own1, st6, ρ6, d1, N7.mt, ((E5.mono g6).mono N7.gr).wipe _, rx1, ?_⟩
        cases e10 : asG F c.b g1 d1 (Y.wipe env2 own1) st6 with
        | no => rw [e10] at h9; exact h9.elim
        | ex _ _ _ => rw [e10] at h9; exact h9.elim
        | ok env3 st8 =>
          rw [e10] at h9
          intro σ8 H8 ρ8 N8 E8 B8
          refine ⟨(wipe_but B8 hw1).trans wipe_wipe, ?_⟩
          have h10 : Post c hid W σ ρ1 H1 ((noEx (evE F c.b x env3 st8)).bind fun y st => (push ds6 y st).bind fun acc st => (lcA w1.src f1 (w1.items.drop (j + 1)) acc st).bind k2) (rl c hid) Q := h9
          show E c nW F x σ8 H8 _
          refine ⟨D :: hid, env3, st8, ρ8, N8.mt, E8, (Post.far (rel1 := rl c (D :: hid)) h10).imp fun yv H9 ⟨yd, st9, ρ9, _, N9, ry, h11⟩ => ?_⟩
          have eD9 : H9 D = some (.lst vs6) := (N9.hk D (List.mem_cons_self ..)).trans ((N8.hk D (List.mem_cons_self ..)).trans ((N7.hk D (List.mem_cons_self ..)).trans eD6))
          have rs9 := Rels.mono ((N7.gr.trans N8.gr).trans N9.gr) _ _ rs6
          unfold push at h11
          by_cases hz : ds6.length < sz
          · rw [if_pos hz] at h11
            refine ⟨vs6, eD9, by rw [← rs9.len, ← sz_eq]; exact hz, ?_⟩
            obtain ⟨M10, g10⟩ := N9.mt.wrote (o := .lst (vs6 ++ [yv])) (List.mem_cons_self ..) trivial
            refine ⟨ρ9, st9, ds6 ++ [yd], vs6 ++ [yv], M10, (((g6.trans N7.gr).trans N8.gr).trans N9.gr).trans g10, fun a ha => ?_, upd_same, Rels.app (Rels.mono g10 _ _ rs9) (Rels.one (Rel.mono g10 _ _ ry)), h11⟩
            rw [upd_ne (nD a ha)]
            exact (N9.hk a (List.mem_cons_of_mem _ ha)).trans ((N8.hk a (List.mem_cons_of_mem _ ha)).trans ((N7.hk a (List.mem_cons_of_mem _ ha)).trans (hk6 a ha)))
          · rw [if_neg hz] at h11
            exact h11.elim
      · have ej : j = w1.items.length := by omega
        subst ej
        rw [List.drop_length] at h7
        unfold lcA at h7
        obtain ⟨hst1, h8⟩ := stills_eq h7
        refine .inl ⟨wk1.stop _ ρ6 st6 H6 M6 g6 hst1, ρ6, st6, ds6, vs6, M6, g5.trans g6, hk6, eD6, rs6, ?_⟩
        rw [← hk2] at h8
        exact h8
  · have ei : i = w.items.length := by omega
    subst ei
    rw [List.drop_length] at h2
    unfold lcA at h2
    obtain ⟨hst, h3⟩ := stills_eq h2
    exact .inl ⟨wk.stop _ ρ2 st2 H2 M2 g2 hst, newLd_post N.mt hD M2 g2 hk eD rs h3⟩
theorem r_lc2 {iter iter1 tg1 : Expr} {elt : Expr} {scope : Scope} {own : List (Str × Nat)} {own1 : List Nat} {m : Bool} {g g1 : IG} {it it1 : IT} (hc : X.calm = true) (hN : X.N.Nodup) (hi : PI X tg iter (Iw c W F it)) (ok : BlkOk X.N X.env.scope scope own) (hv : ∀ i ∈ own1, i ∈ own.map (·.2))
    (hg : ∀ (s : Shared) (H : Hp) (C : Addr) (cl : List (Str × Addr)) (fp : List Addr), PG (X.blk s H scope (compEnvC scope cl C X.env) fp) tg (Tg c F g))
    (hi1 : ∀ (s : Shared) (H : Hp) (C : Addr) (cl : List (Str × Addr)) (fp : List Addr), PI (X.blk s H scope (compEnvC scope cl C X.env) fp) tg1 iter1 (Iw c nW F it1))
    (hg1 : ∀ (s : Shared) (H : Hp) (C : Addr) (cl : List (Str × Addr)) (fp : List Addr), PG (X.blk s H scope (compEnvC scope cl C X.env) fp) tg1 (Tg c F g1))
    (he : ∀ (s : Shared) (H : Hp) (C : Addr) (cl : List (Str × Addr)) (fp : List Addr), PE (X.blk s H scope (compEnvC scope cl C X.env) fp) elt (E c nW F x)) (hs : ∀ x, foldedSetIterable iter X.env x = pure x) (hs1 : ∀ env x, foldedSetIterable iter1 env x = pure x)
    (hw : ∀ i ∈ gIx g, i ∈ own.map (·.2)) (hw1 : ∀ i ∈ gIx g1, i ∈ own1) :
    PE X (.ListComp elt [⟨tg, iter, [], 0⟩, ⟨tg1, iter1, [], 0⟩] scope pos) (E c W F (.lc2 m x g it g1 it1 (own.map (·.2)) own1)) := by
  exact PE.imp (pe_lc2 hc hN hi ok hv hg (fun _ _ _ _ _ => pts_nil) hi1 hg1 (fun _ _ _ _ _ => pts_nil) he hs hs1) fun σ H Q h => lc2_spec hw hw1 h
end
end Y
/-! Y12: statements. -/
namespace Y
open PySem PySem.Spec PyProof.Rows L2
abbrev S (c : Cc) (W : WX) (F : Fs) (x : IS) : TS := TS' c W (exS F c.b x)
abbrev Ss (c : Cc) (W : WX) (F : Fs) (x : ISs) : TS := TS' c W (exSs F c.b x)
theorem PS.imp {X : Cx} {e : Stmt} {t t' : TS} (h : PS X e t) (i : ∀ D σ H, t' D σ H → t D σ H) : PS X e t' := ⟨fun pins s σ H D I q => h.run pins s σ H D I (i D σ H q)⟩
theorem PSs.imp {X : Cx} {e : List Stmt} {t t' : TS} (h : PSs X e t) (i : ∀ D σ H, t' D σ H → t D σ H) : PSs X e t' := ⟨fun pins s σ H D I q => h.run pins s σ H D I (i D σ H q)⟩
section
variable {c : Cc} {hid : List Addr} {W : WX} {ρ ρ' : List Addr} {H H' : Hp} {st' : Stt} {D : Ends}
theorem PostS.after {o : O} (N : Nx c hid ρ H ρ' st' H') (h : PostS c hid W ρ H o D) : PostS c hid W ρ' H' o D := by
  cases o with
  | nx env st => exact fun σ2 H2 ρ2 N2 E2 => h σ2 H2 ρ2 (N.trans N2) E2
  | bk env st => exact fun σ2 H2 ρ2 N2 E2 => h σ2 H2 ρ2 (N.trans N2) E2
  | ct env st => exact fun σ2 H2 ρ2 N2 E2 => h σ2 H2 ρ2 (N.trans N2) E2
  | rt d st => exact fun v H2 ρ2 N2 E2 => h v H2 ρ2 (N.trans N2) E2
  | ex e d env st => exact fun σ2 v H2 ρ2 dd N2 E2 => h σ2 v H2 ρ2 dd (N.trans N2) E2
  | no => exact h
/-- a value, then a statement's end -/
theorem PostS.val {α β : Type} {σ : L2.St} {env : Env} {r : R α} {f : α → Stt → O} {rel : Hp → List Addr → α → β → Prop} (En : EnvR c hid H ρ env σ) (h : PostS c hid W ρ H (liftO env r f) D) :
    Post c hid W σ ρ H r rel (fun v H1 => ∃ d st1 ρ1, r = .ok d st1 ∧ Nx c hid ρ H ρ1 st1 H1 ∧ rel H1 ρ1 d v ∧ PostS c hid W ρ1 H1 (f d st1) D) := by
  cases r with
  | ok d st => exact fun v H1 ρ1 N q => ⟨d, st, ρ1, rfl, N, q, PostS.after N h⟩
  | ex e d st => exact fun v H1 ρ1 dd N q1 q2 => h σ v H1 ρ1 dd N (En.mono N.gr) q1 q2
  | no => exact h
end
section
variable {X : Cx} {c : Cc} {W : WX} {F : Fs} {pos : Pos} {a b tg : Expr} {x y : IE} {k : Nat} {st : Stmt} {sts : List Stmt} {s : IS} {ss : ISs}
theorem s_nil : PSs X [] (Ss c W F .nil) := PSs.imp pss_nil fun D σ H ⟨hid, env, st, ρ, M, En, h⟩ => by
  simp only [exSs] at h
  exact h σ H ρ (Nx.refl M) En
theorem s_cons (h1 : PS X st (S c W F s)) (h2 : PSs X sts (Ss c W F ss)) : PSs X (st :: sts) (Ss c W F (.cons s ss)) := PSs.imp (pss_cons h1 h2) fun D σ H ⟨hid, env, st, ρ, M, En, h⟩ => by
  simp only [exSs] at h
  refine ⟨hid, env, st, ρ, M, En, ?_⟩
  cases e : exS F c.b s env st with
  | nx env1 st1 =>
    rw [e] at h
    exact fun σ1 H1 ρ1 N E1 => ⟨hid, env1, st1, ρ1, N.mt, E1, PostS.after N h⟩
  | bk env st => rw [e] at h; exact h
  | ct env st => rw [e] at h; exact h
  | rt d st => rw [e] at h; exact h
  | ex e' d env st => rw [e] at h; exact h
  | no => rw [e] at h; exact h
theorem s_pass : PS X (.Pass pos) (S c W F .pass) := PS.imp ps_pass fun D σ H ⟨hid, env, st, ρ, M, En, h⟩ => by
  simp only [exS] at h
  exact h σ H ρ (Nx.refl M) En
theorem s_brk : PS X (.Break pos) (S c W F .brk) := PS.imp ps_break fun D σ H ⟨hid, env, st, ρ, M, En, h⟩ => by
  simp only [exS] at h
  exact h σ H ρ (Nx.refl M) En
theorem s_cnt : PS X (.Continue pos) (S c W F .cnt) := PS.imp ps_continue fun D σ H ⟨hid, env, st, ρ, M, En, h⟩ => by
  simp only [exS] at h
  exact h σ H ρ (Nx.refl M) En
theorem s_never : PS X st (S c W F .never) := PS.imp ps_never fun D σ H ⟨hid, env, st, ρ, M, En, h⟩ => by
  simp only [exS] at h
  exact h.elim
theorem s_expr (he : PE X a (E c W F x)) (hs : swapsWith a none pos.line X.env = pure false) : PS X (.Expr a pos) (S c W F (.expr x)) := PS.imp (ps_expr he hs) fun D σ H ⟨hid, env, st, ρ, M, En, h⟩ => by
  simp only [exS] at h
  refine ⟨hid, env, st, ρ, M, En, (PostS.val En h).imp fun v H1 ⟨d, st1, ρ1, _, N, q, h1⟩ => ?_⟩
  exact h1 σ H1 ρ1 (Nx.refl N.mt) (En.mono N.gr)
theorem s_ret (he : PE X a (E c W F x)) : PS X (.Return (some a) pos) (S c W F (.ret x)) := PS.imp (ps_ret he) fun D σ H ⟨hid, env, st, ρ, M, En, h⟩ => by
  simp only [exS] at h
  refine ⟨hid, env, st, ρ, M, En, (PostS.val En h).imp fun v H1 ⟨d, st1, ρ1, _, N, q, h1⟩ => ?_⟩
  exact h1 v H1 ρ1 (Nx.refl N.mt) q
theorem s_retN : PS X (.Return none pos) (S c W F .retN) := PS.imp ps_retN fun D σ H ⟨hid, env, st, ρ, M, En, h⟩ => by
  simp only [exS] at h
  exact h .non H ρ (Nx.refl M) rfl
theorem s_ite {ic : IC} {as bs : List Stmt} {ia ib : ISs} (hc : PT X a (C c W F ic)) (ha : PSs X as (Ss c W F ia)) (hb : PSs X bs (Ss c W F ib)) : PS X (.If a as bs pos) (S c W F (.ite ic ia ib)) := PS.imp (ps_if hc ha hb) fun D σ H ⟨hid, env, st, ρ, M, En, h⟩ => by
  simp only [exS] at h
  refine ⟨hid, env, st, ρ, M, En, (PostS.val (rel := rq) En h).imp fun v H1 ⟨d, st1, ρ1, _, N, q, h1⟩ => ?_⟩
  cases q
  cases v with
  | true => exact ⟨hid, env, st1, ρ1, N.mt, En.mono N.gr, h1⟩
  | false => exact ⟨hid, env, st1, ρ1, N.mt, En.mono N.gr, h1⟩
theorem asg_post {hid : List Addr} {ρ : List Addr} {H : Hp} {σ : L2.St} {Dd : Ends} {g : IG} {env : Env} {d : D} {st : Stt} (M : Mt c hid ρ st H)
    (h : PostS c hid W ρ H (match asG F c.b g d env st with
      | .ok env st => .nx env st
      | _ => .no) Dd) : PostG c hid σ (gIx g) ρ H (asG F c.b g d env st) Dd.nx := by
  cases e : asG F c.b g d env st with
  | ok env1 st1 => rw [e] at h; exact fun σ' H' ρ' N E _ => h σ' H' ρ' N E
  | ex _ _ _ => rw [e] at h; exact h
  | no => rw [e] at h; exact h
theorem s_asg {g : IG} (he : PE X a (E c W F x)) (hg : PG X tg (Tg c F g)) (hs : swapsWithSole [tg] a pos.line X.env = pure false) (hw : swappedStores [tg] a X.env = pure none) (h1 : (assignEach [tg] X.env).map (·.2) = [assign tg X.env]) :
    PS X (.Assign [tg] a pos) (S c W F (.asg g x)) := PS.imp (ps_asg he hg hs hw h1) fun D σ H ⟨hid, env, st, ρ, M, En, h⟩ => by
  simp only [exS] at h
  refine ⟨hid, env, st, ρ, M, En, (PostS.val En h).imp fun v H1 ⟨d, st1, ρ1, _, N, q, h1⟩ => ?_⟩
  exact ⟨hid, env, st1, ρ1, d, N.mt, En.mono N.gr, q, asg_post N.mt h1⟩
theorem s_set {i : Nat} {n : Str} {pos' : Pos} (hN : X.N.Nodup) (hi : X.N[i]? = some n) (hx : Loc X.env.scope n) (he : PE X a (E c W F x)) (hs : swapsWith a (some (.Name n pos')) pos.line X.env = pure false) (hf : X.fn n = true ∨ X.env.scope.names.lookup n = some .local) :
    PS X (.Assign [.Name n pos'] a pos) (S c W F (.asg (.nm i) x)) := PS.imp (ps_set hN hi hx he hs hf) fun D σ H ⟨hid, env, st, ρ, M, En, h⟩ => by
  simp only [exS, asG] at h
  refine ⟨hid, env, st, ρ, M, En, (PostS.val En h).imp fun v H1 ⟨d, st1, ρ1, _, N, q, h1⟩ => ?_⟩
  exact h1 _ _ ρ1 (Nx.refl N.mt) ((En.mono N.gr).set i q)
theorem set_spec' {i : Nat} {t : TE} {D : Ends} {σ : L2.St} {H : Hp} (ht : ∀ σ H Q, E c W F x σ H Q → t σ H Q) (h : S c W F (.asg (.nm i) x) D σ H) : tAsg t (gName i) D σ H := by
  obtain ⟨hid, env, st, ρ, M, En, h⟩ := h
  simp only [exS, asG] at h
  refine ht σ H _ ⟨hid, env, st, ρ, M, En, (PostS.val En h).imp fun v H1 ⟨d, st1, ρ1, _, N, q, h1⟩ => ?_⟩
  exact h1 _ _ ρ1 (Nx.refl N.mt) ((En.mono N.gr).set i q)
theorem s_setLc {i : Nat} {n : Str} {py spos : Pos} {iter : Expr} {ifs : List Expr} {elt : Expr} {scope : Scope} {own : List (Str × Nat)} {m : Bool} {g : IG} {it : IT} {t : ICo} (hc : X.calm = true) (hN : X.N.Nodup) (hy : X.N[i]? = some n) (hyl : X.env.scope.names.lookup n = some .local)
    (hsw : swapsWith (.ListComp elt [⟨tg, iter, ifs, 0⟩] scope pos) (some (.Name n py)) spos.line X.env = pure true) (hi : PI X tg iter (Iw c W F it)) (ok : BlkOk X.N X.env.scope scope own)
    (hg : ∀ (s : Shared) (H : Hp) (C : Addr) (cl : List (Str × Addr)) (fp : List Addr), PG (X.blk s H scope (compEnvC scope cl C X.env) fp) tg (Tg c F g)) (ht : ∀ (s : Shared) (H : Hp) (C : Addr) (cl : List (Str × Addr)) (fp : List Addr), PTs (X.blk s H scope (compEnvC scope cl C X.env) fp) ifs (Co c nW F t))
    (he : ∀ (s : Shared) (H : Hp) (C : Addr) (cl : List (Str × Addr)) (fp : List Addr), PE (X.blk s H scope (compEnvC scope cl C X.env) fp) elt (E c nW F x)) (hs : ∀ x, foldedSetIterable iter X.env x = pure x) (hw : ∀ i ∈ gIx g, i ∈ own.map (·.2)) :
    PS X (.Assign [.Name n py] (.ListComp elt [⟨tg, iter, ifs, 0⟩] scope pos) spos) (S c W F (.asg (.nm i) (.lc m x g it t (own.map (·.2))))) :=
  PS.imp (ps_setLc hc hN hy hyl hsw hi ok hg ht he hs) fun D σ H h => set_spec' (fun σ H Q h => lc_spec hw h) h
theorem s_setLc2 {i : Nat} {n : Str} {py spos : Pos} {iter iter1 tg1 : Expr} {elt : Expr} {scope : Scope} {own : List (Str × Nat)} {own1 : List Nat} {m : Bool} {g g1 : IG} {it it1 : IT} (hc : X.calm = true) (hN : X.N.Nodup) (hy : X.N[i]? = some n) (hyl : X.env.scope.names.lookup n = some .local)
    (hsw : swapsWith (.ListComp elt [⟨tg, iter, [], 0⟩, ⟨tg1, iter1, [], 0⟩] scope pos) (some (.Name n py)) spos.line X.env = pure true) (hi : PI X tg iter (Iw c W F it)) (ok : BlkOk X.N X.env.scope scope own) (hv : ∀ i ∈ own1, i ∈ own.map (·.2))
    (hg : ∀ (s : Shared) (H : Hp) (C : Addr) (cl : List (Str × Addr)) (fp : List Addr), PG (X.blk s H scope (compEnvC scope cl C X.env) fp) tg (Tg c F g))
    (hi1 : ∀ (s : Shared) (H : Hp) (C : Addr) (cl : List (Str × Addr)) (fp : List Addr), PI (X.blk s H scope (compEnvC scope cl C X.env) fp) tg1 iter1 (Iw c nW F it1))
    (hg1 : ∀ (s : Shared) (H : Hp) (C : Addr) (cl : List (Str × Addr)) (fp : List Addr), PG (X.blk s H scope (compEnvC scope cl C X.env) fp) tg1 (Tg c F g1))
    (he : ∀ (s : Shared) (H : Hp) (C : Addr) (cl : List (Str × Addr)) (fp : List Addr), PE (X.blk s H scope (compEnvC scope cl C X.env) fp) elt (E c nW F x)) (hs : ∀ x, foldedSetIterable iter X.env x = pure x) (hs1 : ∀ env x, foldedSetIterable iter1 env x = pure x)
    (hw : ∀ i ∈ gIx g, i ∈ own.map (·.2)) (hw1 : ∀ i ∈ gIx g1, i ∈ own1) :
    PS X (.Assign [.Name n py] (.ListComp elt [⟨tg, iter, [], 0⟩, ⟨tg1, iter1, [], 0⟩] scope pos) spos) (S c W F (.asg (.nm i) (.lc2 m x g it g1 it1 (own.map (·.2)) own1))) :=
  PS.imp (ps_setLc2 hc hN hy hyl hsw hi ok hv hg (fun _ _ _ _ _ => pts_nil) hi1 hg1 (fun _ _ _ _ _ => pts_nil) he hs hs1) fun D σ H h => set_spec' (fun σ H Q h => lc2_spec hw hw1 h) h
theorem s_par {i j : Nat} {n m : Str} {px py pt : Pos} {kt : Nat} {k2 : Nat} {pt2 : Pos} (hc : X.calm = true) (hN : X.N.Nodup) (hi : X.N[i]? = some n) (hj : X.N[j]? = some m) (hij : i ≠ j)
    (hx : X.env.scope.names.lookup n = some .local) (hy : X.env.scope.names.lookup m = some .local) (ha : PE X a (E c W F x)) (hb : PE X b (E c W F y)) (h1 : starEach [a, b] X.env = [(false, eval a X.env), (false, eval b X.env)]) (h2 : starEach [b] X.env = [(false, eval b X.env)])
    (hw : swappedStores [.Tuple [.Name n px, .Name m py] kt pt] (.Tuple [a, b] k2 pt2) X.env = pure (some [n, m]))
    (hs : swapsWithSole [.Tuple [.Name n px, .Name m py] kt pt] (.Tuple [a, b] k2 pt2) pos.line X.env = pure false) :
    PS X (.Assign [.Tuple [.Name n px, .Name m py] kt pt] (.Tuple [a, b] k2 pt2) pos) (S c W F (.par i j x y)) := PS.imp (ps_par hc hN hi hj hij hx hy (pa2 ha hb h1 h2) hw hs) fun D σ H ⟨hid, env, st, ρ, M, En, h⟩ => by
  simp only [exS] at h
  refine ⟨hid, env, st, ρ, M, En, (PostS.val En h).imp fun v H1 ⟨d, st1, ρ1, _, N, q, h1⟩ => ?_⟩
  refine ⟨hid, env, st1, ρ1, N.mt, En.mono N.gr, (PostS.val (En.mono N.gr) h1).imp fun w H2 ⟨e, st2, ρ2, _, N2, q2, h2⟩ => ?_⟩
  exact ⟨v, w, rfl, h2 _ _ ρ2 (Nx.refl N2.mt) ((((En.mono N.gr).mono N2.gr).set i (Rel.mono N2.gr _ _ q)).set j q2)⟩

theorem s_par3 {z : IE} {e : Expr} {i j l : Nat} {n m o : Str} {px py pz pt : Pos} {kt : Nat} {k2 : Nat} {pt2 : Pos} (hc : X.calm = true) (hN : X.N.Nodup) (hi : X.N[i]? = some n) (hj : X.N[j]? = some m) (hl : X.N[l]? = some o) (hij : i ≠ j) (hil : i ≠ l) (hjl : j ≠ l)
    (hx : X.env.scope.names.lookup n = some .local) (hy : X.env.scope.names.lookup m = some .local) (hz : X.env.scope.names.lookup o = some .local) (ha : PE X a (E c W F x)) (hb : PE X b (E c W F y)) (hd : PE X e (E c W F z)) (h1 : notStar a = true) (h2 : notStar b = true) (h3 : notStar e = true)
    (hw : swappedStores [.Tuple [.Name n px, .Name m py, .Name o pz] kt pt] (.Tuple [a, b, e] k2 pt2) X.env = pure (some [n, m, o]))
    (hs : swapsWithSole [.Tuple [.Name n px, .Name m py, .Name o pz] kt pt] (.Tuple [a, b, e] k2 pt2) pos.line X.env = pure false) :
    PS X (.Assign [.Tuple [.Name n px, .Name m py, .Name o pz] kt pt] (.Tuple [a, b, e] k2 pt2) pos) (S c W F (.par3 i j l x y z)) := by
  have s1 : ∀ q : Expr, notStar q = true → ∀ es, starEach (q :: es) X.env = (false, eval q X.env) :: starEach es X.env := fun q hq es => by
    cases q <;> first | rfl | cases hq
  refine PS.imp (ps_par3 hc hN hi hj hl hij hil hjl hx hy hz (pa_cons ha (pa2 hb hd (by rw [s1 _ h2, s1 _ h3]; rfl) (by rw [s1 _ h3]; rfl)) (s1 _ h1 _)) hw hs) fun D σ H ⟨hid, env, st, ρ, M, En, h⟩ => ?_
  simp only [exS] at h
  refine ⟨hid, env, st, ρ, M, En, (PostS.val En h).imp fun v H1 ⟨d, st1, ρ1, _, N, q, h1⟩ => ?_⟩
  refine ⟨hid, env, st1, ρ1, N.mt, En.mono N.gr, (PostS.val (En.mono N.gr) h1).imp fun w H2 ⟨e, st2, ρ2, _, N2, q2, h2⟩ => ?_⟩
  have En2 := (En.mono N.gr).mono N2.gr
  refine ⟨hid, env, st2, ρ2, N2.mt, En2, (PostS.val En2 h2).imp fun w3 H3 ⟨e3, st3, ρ3, _, N3, q3, h3⟩ => ?_⟩
  exact ⟨v, w, w3, rfl, h3 _ _ ρ3 (Nx.refl N3.mt) ((((En2.mono N3.gr).set i (Rel.mono N3.gr _ _ (Rel.mono N2.gr _ _ q))).set j (Rel.mono N3.gr _ _ q2)).set l q3)⟩

/-! ### loops -/
theorem s_for {iter : Expr} {body : List Stmt} {g : IG} {it : IT} {ib : ISs} (hp : PassesOwn (model X.prog X.w) X.A X.env X.xe) (hc : X.calm = true) (hi : PI X tg iter (Iw c W F it)) (hg : PG X tg (Tg c F g)) (hb : PSs X body (Ss c W F ib))
    (hs : ∀ x, foldedSetIterable iter X.env x = pure x) : PS X (.For tg iter body [] pos) (S c W F (.for g it ib)) := PS.imp (ps_for hp hc hi hg hb hs) fun D σ H ⟨hid, env, st, ρ, M, En, h⟩ => by
  simp only [exS] at h
  refine ⟨hid, env, st, ρ, M, En, (PostS.val (rel := fun H' ρ' w J => WkR c J w hid ρ' H') En h).imp fun J H1 ⟨w, st1, ρ1, _, N, wk, h1⟩ => ?_⟩
  generalize hf : (fun d env st => match asG F c.b g d env st with
      | .ok env st => exSs F c.b ib env st
      | _ => O.no) = f at h1
  refine ⟨fun i m σ H => m = w.items.length - i ∧ i ≤ w.items.length ∧ ∃ env st ρ, Nx c hid ρ1 H1 ρ st H ∧ EnvR c hid H ρ env σ ∧ PostS c hid W ρ1 H1 (forL w.src f (w.items.drop i) env st) D, ⟨_, rfl, Nat.zero_le _, env, st1, ρ1, Nx.refl N.mt, En.mono N.gr, h1⟩, ?_⟩
  rintro i m σ2 H2 ⟨rfl, hi2, env2, st2, ρ2, N2, E2, h2⟩
  by_cases hlt : i < w.items.length
  · obtain ⟨d, hd⟩ : ∃ d, w.items[i]? = some d := ⟨_, List.getElem?_eq_getElem hlt⟩
    rw [drop_get hd] at h2
    unfold forL at h2
    cases hst : stills st2 w.src with
    | false => rw [hst] at h2; exact h2.elim
    | true =>
      rw [hst, if_pos rfl] at h2
      obtain ⟨jg, jy⟩ := wk.go _ ρ2 st2 H2 i d N2.mt N2.gr hst hd
      refine .inr ⟨jg, fun σ' H' => ∃ env st ρ, Nx c hid ρ1 H1 ρ st H' ∧ EnvR c hid H' ρ env σ' ∧ PostS c hid W ρ1 H1 (forL w.src f (w.items.drop (i + 1)) env st) D, fun σ' H' q => ⟨_, by omega, rfl, hlt, q⟩, fun xv H3 hy => ?_⟩
      obtain ⟨N3, rx⟩ := jy xv H3 hy
      refine ⟨hid, env2, st2, ρ2, d, N3.mt, E2.mono N3.gr, rx, ?_⟩
      cases e : asG F c.b g d env2 st2 with
      | no => rw [← hf] at h2; simp only [e] at h2; exact h2.elim
      | ex _ _ _ => rw [← hf] at h2; simp only [e] at h2; exact h2.elim
      | ok env4 st4 =>
        intro σ4 H4 ρ4 N4 E4 _
        refine ⟨hid, env4, st4, ρ4, N4.mt, E4, ?_⟩
        have ef : f d env2 st2 = exSs F c.b ib env4 st4 := by rw [← hf]; simp only [e]
        rw [ef] at h2
        have N14 := (N2.trans N3).trans N4
        cases e2 : exSs F c.b ib env4 st4 with
        | nx env5 st5 =>
          rw [e2] at h2
          exact fun σ5 H5 ρ5 N5 E5 => ⟨env5, st5, ρ5, N14.trans N5, E5, h2⟩
        | ct env5 st5 =>
          rw [e2] at h2
          exact fun σ5 H5 ρ5 N5 E5 => ⟨env5, st5, ρ5, N14.trans N5, E5, h2⟩
        | bk env5 st5 =>
          rw [e2] at h2
          exact fun σ5 H5 ρ5 N5 E5 => h2 σ5 H5 ρ5 (N14.trans N5) E5
        | rt d5 st5 =>
          rw [e2] at h2
          exact fun v H5 ρ5 N5 E5 => h2 v H5 ρ5 (N14.trans N5) E5
        | ex e5 d5 env5 st5 =>
          rw [e2] at h2
          exact fun σ5 v H5 ρ5 dd N5 E5 => h2 σ5 v H5 ρ5 dd (N14.trans N5) E5
        | no => rw [e2] at h2; exact h2.elim
  · have ei : i = w.items.length := by omega
    subst ei
    rw [List.drop_length] at h2
    unfold forL at h2
    cases hst : stills st2 w.src with
    | false => rw [hst] at h2; exact h2.elim
    | true =>
      rw [hst, if_pos rfl] at h2
      exact .inl ⟨wk.stop _ ρ2 st2 H2 N2.mt N2.gr hst, h2 σ2 H2 ρ2 N2 E2⟩
theorem s_while {body : List Stmt} {ic : IC} {ib : ISs} (hp : PassesOwn (model X.prog X.w) X.A X.env X.xe) (hc : PT X a (C c W F ic)) (hb : PSs X body (Ss c W F ib)) : PS X (.While a body [] pos) (S c W F (.while ic ib)) := PS.imp (ps_while hp hc hb) fun D σ H ⟨hid, env, st, ρ, M, En, h⟩ => by
  simp only [exS] at h
  refine ⟨fun m σ H' => ∃ env st ρ', Nx c hid ρ H ρ' st H' ∧ EnvR c hid H' ρ' env σ ∧ PostS c hid W ρ H (whileL (fun env st => evC F c.b ic env st) (fun env st => exSs F c.b ib env st) m env st) D, ⟨F.wf, env, st, ρ, Nx.refl M, En, h⟩, ?_⟩
  rintro m σ1 H1 ⟨env1, st1, ρ1, N1, E1, h1⟩
  cases m with
  | zero => exact h1.elim
  | succ m =>
    unfold whileL at h1
    refine ⟨hid, env1, st1, ρ1, N1.mt, E1, ?_⟩
    cases e : evC F c.b ic env1 st1 with
    | no => simp only [e] at h1; exact h1.elim
    | ex e' d' s' =>
      simp only [e] at h1
      exact fun v H2 ρ2 dd N2 q1 q2 => h1 σ1 v H2 ρ2 dd (N1.trans N2) (E1.mono N2.gr) q1 q2
    | ok t st2 =>
      intro tv H2 ρ2 N2 et
      subst et
      have E2 := E1.mono N2.gr
      have N12 := N1.trans N2
      cases tv with
      | false =>
        simp only [e] at h1
        rw [if_neg Bool.false_ne_true]
        exact h1 σ1 H2 ρ2 N12 E2
      | true =>
        simp only [e] at h1
        rw [if_pos rfl]
        refine ⟨fun σ' H' => ∃ env st ρ', Nx c hid ρ H ρ' st H' ∧ EnvR c hid H' ρ' env σ' ∧ PostS c hid W ρ H (whileL (fun env st => evC F c.b ic env st) (fun env st => exSs F c.b ib env st) m env st) D, fun σ' H' q => ⟨m, Nat.lt_succ_self _, q⟩, hid, env1, st2, ρ2, N2.mt, E2, ?_⟩
        cases e2 : exSs F c.b ib env1 st2 with
        | nx env5 st5 =>
          rw [e2] at h1
          exact fun σ5 H5 ρ5 N5 E5 => ⟨env5, st5, ρ5, N12.trans N5, E5, h1⟩
        | ct env5 st5 =>
          rw [e2] at h1
          exact fun σ5 H5 ρ5 N5 E5 => ⟨env5, st5, ρ5, N12.trans N5, E5, h1⟩
        | bk env5 st5 =>
          rw [e2] at h1
          exact fun σ5 H5 ρ5 N5 E5 => h1 σ5 H5 ρ5 (N12.trans N5) E5
        | rt d5 st5 =>
          rw [e2] at h1
          exact fun v H5 ρ5 N5 E5 => h1 v H5 ρ5 (N12.trans N5) E5
        | ex e5 d5 env5 st5 =>
          rw [e2] at h1
          exact fun σ5 v H5 ρ5 dd N5 E5 => h1 σ5 v H5 ρ5 dd (N12.trans N5) E5
        | no => rw [e2] at h1; exact h1.elim
end
end Y
/-! Y13: calls, a def's promise. -/
namespace Y
open PySem PySem.Spec PyProof.Rows L2

/-! ### refs -/
section
variable {K : PySem.W.Frag} {hid ρ ρ2 : List Addr} {H : Hp} {st : Stt}
mutual
theorem rel_lt : ∀ (d : D) (v : V), Rel K hid H ρ d v → d.lt ρ.length = true
  | .non, _, _ => rfl
  | .bl _, _, _ => rfl
  | .int _, _, _ => rfl
  | .str _, _, _ => rfl
  | .tup ds, _, ⟨a, vs, e, s, r⟩ => rels_lt ds vs r
  | .ct ds, _, ⟨a, vs, e, s, r⟩ => rels_lt ds vs r
  | .lst ds, _, ⟨a, vs, e, s, r⟩ => rels_lt ds vs r
  | .rd ds, _, ⟨a, vs, e, s, r⟩ => rels_lt ds vs r
  | .dK ks ds, _, ⟨a, vs, e, s, l, r⟩ => rels_lt ds vs r
  | .dT ks ds, _, ⟨a, vs, e, s, l, r⟩ => rels_lt ds vs r
  | .exn _ d, _, ⟨a, C, dd, w, e, h1, h2, x, f, r⟩ => rel_lt d w r
  | .cdi ks ds, _, ⟨a, vs, e, s, r⟩ => rels_lt ds vs r
  | .ref n, _, ⟨a, e, q⟩ => decide_eq_true (List.getElem?_eq_some_iff.mp q).1
theorem rels_lt : ∀ (ds : List D) (vs : List V), Rels K hid H ρ ds vs → ltL ρ.length ds = true
  | [], _, h => rfl
  | d :: ds, _, ⟨v, r, e, h1, h2⟩ => by
    show (d.lt ρ.length && ltL ρ.length ds) = true
    rw [rel_lt d v h1, rels_lt ds r h2]
    rfl
end
theorem ob_lt {o : Ob} {ho : HO} (h : ObR K hid H ρ o ho) : o.lt ρ.length = true := by
  cases o with
  | lst ds => obtain ⟨vs, _, r⟩ := h; exact rels_lt ds vs r
  | dK ks ds => obtain ⟨vs, _, _, r⟩ := h; exact rels_lt ds vs r
  | dT ks ds => obtain ⟨vs, _, _, r⟩ := h; exact rels_lt ds vs r

/-- ρ2: what is kept of ρ -/
structure Kept (ρ ρ2 : List Addr) (b : Nat) : Prop where
  at_ : ∀ (n : Nat) (a : Addr), n < b → ρ[n]? = some a → ρ2[n]? = some a
  sub : ∀ a ∈ ρ2, a ∈ ρ
section
variable {b : Nat} (k : Kept ρ ρ2 b)
include k
theorem Fz.kept {a : Addr} {o : HO} (h : Fz hid ρ H a o) : Fz hid ρ2 H a o := ⟨h.1, fun z => h.2.1 (k.sub a z), h.2.2⟩
mutual
theorem rel_kept : ∀ (d : D) (v : V), Rel K hid H ρ d v → d.lt b = true → Rel K hid H ρ2 d v
  | .non, _, h, _ => h
  | .bl _, _, h, _ => h
  | .int _, _, h, _ => h
  | .str _, _, h, _ => h
  | .tup ds, _, ⟨a, vs, e, s, r⟩, l => ⟨a, vs, e, s, rels_kept ds vs r l⟩
  | .ct ds, _, ⟨a, vs, e, s, r⟩, l => ⟨a, vs, e, s, rels_kept ds vs r l⟩
  | .lst ds, _, ⟨a, vs, e, s, r⟩, l => ⟨a, vs, e, Fz.kept k s, rels_kept ds vs r l⟩
  | .rd ds, _, ⟨a, vs, e, s, r⟩, l => ⟨a, vs, e, s.imp (Fz.kept k) id, rels_kept ds vs r l⟩
  | .dK ks ds, _, ⟨a, vs, e, s, z, r⟩, l => ⟨a, vs, e, Fz.kept k s, z, rels_kept ds vs r l⟩
  | .dT ks ds, _, ⟨a, vs, e, s, z, r⟩, l => ⟨a, vs, e, Fz.kept k s, z, rels_kept ds vs r l⟩
  | .exn _ d, _, ⟨a, C, dd, w, e, h1, h2, x, f, r⟩, l => ⟨a, C, dd, w, e, h1, h2, x, f, rel_kept d w r l⟩
  | .cdi ks ds, _, ⟨a, vs, e, s, r⟩, l => ⟨a, vs, e, s, rels_kept ds vs r l⟩
  | .ref n, _, ⟨a, e, q⟩, l => ⟨a, e, k.at_ n a (of_decide_eq_true l) q⟩
theorem rels_kept : ∀ (ds : List D) (vs : List V), Rels K hid H ρ ds vs → ltL b ds = true → Rels K hid H ρ2 ds vs
  | [], _, h, _ => h
  | d :: ds, _, ⟨v, r, e, h1, h2⟩, l => by
    have l' : (d.lt b && ltL b ds) = true := l
    rw [Bool.and_eq_true] at l'
    exact ⟨v, r, e, rel_kept d v h1 l'.1, rels_kept ds r h2 l'.2⟩
end
theorem ob_kept {o : Ob} {ho : HO} (h : ObR K hid H ρ o ho) (l : o.lt b = true) : ObR K hid H ρ2 o ho := by
  cases o with
  | lst ds => obtain ⟨vs, e, r⟩ := h; exact ⟨vs, e, rels_kept k ds vs r l⟩
  | dK ks ds => obtain ⟨vs, e, z, r⟩ := h; exact ⟨vs, e, z, rels_kept k ds vs r l⟩
  | dT ks ds => obtain ⟨vs, e, z, r⟩ := h; exact ⟨vs, e, z, rels_kept k ds vs r l⟩
mutual
theorem rel_map (f : Nat → Option D) (hf : ∀ n e v, f n = some e → Rel K hid H ρ (.ref n) v → Rel K hid H ρ2 e v) : ∀ (d e : D) (v : V), mapW f d = some e → Rel K hid H ρ d v → Rel K hid H ρ2 e v
  | .non, _, _, h, r => by cases h; exact r
  | .bl _, _, _, h, r => by cases h; exact r
  | .int _, _, _, h, r => by cases h; exact r
  | .str _, _, _, h, r => by cases h; exact r
  | .ref n, e, v, h, r => hf n e v h r
  | .tup ds, e, v, h, ⟨a, vs, ev, s, r⟩ => by
    obtain ⟨es, h1, h2⟩ := Option.map_eq_some_iff.mp (show (mapWL f ds).map D.tup = some e from h)
    subst h2
    exact ⟨a, vs, ev, s, rels_map f hf ds es vs h1 r⟩
  | .ct ds, e, v, h, ⟨a, vs, ev, s, r⟩ => by
    obtain ⟨es, h1, h2⟩ := Option.map_eq_some_iff.mp (show (mapWL f ds).map D.ct = some e from h)
    subst h2
    exact ⟨a, vs, ev, s, rels_map f hf ds es vs h1 r⟩
  | .lst ds, e, v, h, ⟨a, vs, ev, s, r⟩ => by
    obtain ⟨es, h1, h2⟩ := Option.map_eq_some_iff.mp (show (mapWL f ds).map D.lst = some e from h)
    subst h2
    exact ⟨a, vs, ev, Fz.kept k s, rels_map f hf ds es vs h1 r⟩
  | .rd ds, e, v, h, ⟨a, vs, ev, s, r⟩ => by
    obtain ⟨es, h1, h2⟩ := Option.map_eq_some_iff.mp (show (mapWL f ds).map D.rd = some e from h)
    subst h2
    exact ⟨a, vs, ev, s.imp (Fz.kept k) id, rels_map f hf ds es vs h1 r⟩
  | .dK ks ds, e, v, h, ⟨a, vs, ev, s, l, r⟩ => by
    obtain ⟨es, h1, h2⟩ := Option.map_eq_some_iff.mp (show (mapWL f ds).map (D.dK ks) = some e from h)
    subst h2
    exact ⟨a, vs, ev, Fz.kept k s, l, rels_map f hf ds es vs h1 r⟩
  | .dT ks ds, e, v, h, ⟨a, vs, ev, s, l, r⟩ => by
    obtain ⟨es, h1, h2⟩ := Option.map_eq_some_iff.mp (show (mapWL f ds).map (D.dT ks) = some e from h)
    subst h2
    exact ⟨a, vs, ev, Fz.kept k s, l, rels_map f hf ds es vs h1 r⟩
  | .cdi ks ds, e, v, h, ⟨a, vs, ev, s, r⟩ => by
    obtain ⟨es, h1, h2⟩ := Option.map_eq_some_iff.mp (show (mapWL f ds).map (D.cdi ks) = some e from h)
    subst h2
    exact ⟨a, vs, ev, s, rels_map f hf ds es vs h1 r⟩
  | .exn c d, e, v, h, ⟨a, C, dd, w, ev, h1, h2, x, f', r⟩ => by
    obtain ⟨d', q1, q2⟩ := Option.map_eq_some_iff.mp (show (mapW f d).map (D.exn c) = some e from h)
    subst q2
    exact ⟨a, C, dd, w, ev, h1, h2, x, f', rel_map f hf d d' w q1 r⟩
theorem rels_map (f : Nat → Option D) (hf : ∀ n e v, f n = some e → Rel K hid H ρ (.ref n) v → Rel K hid H ρ2 e v) : ∀ (ds es : List D) (vs : List V), mapWL f ds = some es → Rels K hid H ρ ds vs → Rels K hid H ρ2 es vs
  | [], _, _, h, r => by cases h; exact r
  | d :: ds, es, vs, h, ⟨v, r, ev, h1, h2⟩ => by
    unfold mapWL at h
    cases e1 : mapW f d with
    | none => rw [e1] at h; cases h
    | some x =>
      rw [e1] at h
      cases e2 : mapWL f ds with
      | none => rw [e2] at h; cases h
      | some xs =>
        rw [e2] at h
        cases h
        exact ⟨v, r, ev, rel_map f hf d x v e1 h1, rels_map f hf ds xs r e2 h2⟩
end
end
end

/-! ### the end of a call -/
section
variable {c : Cc} {hid ρ ρ2 : List Addr} {H : Hp} {st : Stt} {b z : Nat}
theorem frz_ref (M : Mt c hid ρ st H) (k : Kept ρ ρ2 b) (hz : ∀ (n : Nat) (a : Addr), b ≤ n → n ≠ z → ρ[n]? = some a → a ∉ ρ2) : ∀ (m n : Nat) (e : D) (v : V), frzR st b z m n = some e → Rel c.K hid H ρ (.ref n) v → Rel c.K hid H ρ2 e v
  | 0, n, e, v, h, ⟨a, ev, q⟩ => by
    unfold frzR at h
    by_cases hl : n < b
    · rw [if_pos hl] at h
      cases h
      exact ⟨a, ev, k.at_ n a hl q⟩
    · rw [if_neg hl] at h; cases h
  | m + 1, n, e, v, h, ⟨a, ev, q⟩ => by
    unfold frzR at h
    by_cases hl : n < b
    · rw [if_pos hl] at h
      cases h
      exact ⟨a, ev, k.at_ n a hl q⟩
    · rw [if_neg hl] at h
      by_cases hne : n = z
      · rw [if_pos hne] at h; cases h
      · rw [if_neg hne] at h
        have ha : a ∈ ρ := List.mem_iff_getElem?.mpr ⟨n, q⟩
        have nf : a ∉ ρ2 ∧ a ∉ hid := ⟨hz n a (by omega) hne q, M.dis a ha⟩
        cases e1 : st[n]? with
        | none => rw [e1] at h; cases h
        | some o =>
          rw [e1] at h
          obtain ⟨ho, e2, r⟩ := M.ob n o a e1 q
          cases o with
          | lst xs =>
            obtain ⟨es, h1, h2⟩ := Option.map_eq_some_iff.mp (show (mapWL (frzR st b z m) xs).map D.lst = some e from h)
            obtain ⟨vs, ev2, rs⟩ := r
            subst h2 ev2
            exact ⟨a, vs, ev, ⟨.inl e2, nf⟩, rels_map k _ (frz_ref M k hz m) xs es vs h1 rs⟩
          | dK ks xs =>
            obtain ⟨es, h1, h2⟩ := Option.map_eq_some_iff.mp (show (mapWL (frzR st b z m) xs).map (D.dK ks) = some e from h)
            obtain ⟨vs, ev2, l, rs⟩ := r
            subst h2 ev2
            exact ⟨a, vs, ev, ⟨.inl e2, nf⟩, l, rels_map k _ (frz_ref M k hz m) xs es vs h1 rs⟩
          | dT ks xs =>
            obtain ⟨es, h1, h2⟩ := Option.map_eq_some_iff.mp (show (mapWL (frzR st b z m) xs).map (D.dT ks) = some e from h)
            obtain ⟨vs, ev2, l, rs⟩ := r
            subst h2 ev2
            exact ⟨a, vs, ev, ⟨.inl e2, nf⟩, l, rels_map k _ (frz_ref M k hz m) xs es vs h1 rs⟩
end
/-- a callee's context -/
def Cc.in_ (c : Cc) (n : Nat) : Cc := { c with b := n, bs := n :: c.bs }
section
variable {c : Cc} {hid ρ ρ' : List Addr} {H H' : Hp} {st st1 : Stt}
theorem Mt.in_ (M : Mt c hid ρ st H) : Mt (c.in_ st.length) hid ρ st H := by
  refine ⟨M.len, M.nd, M.dis, M.hs, M.ob, fun x hx => ?_, M.cs⟩
  rcases List.mem_cons.mp (show x ∈ st.length :: c.bs from hx) with e | hx
  · subst e
    refine ⟨Nat.le_refl _, Nat.le_refl _, fun n o hn e => ?_⟩
    obtain ⟨a, ha⟩ : ∃ a, ρ[n]? = some a := ⟨_, List.getElem?_eq_getElem (by rw [M.len]; exact hn)⟩
    obtain ⟨ho, _, r⟩ := M.ob n o a e ha
    rw [← M.len]
    exact ob_lt r
  · obtain ⟨h1, h2, h3⟩ := M.wf x hx
    exact ⟨h2, h2, h3⟩
theorem gr_len {c : Cc} {hid' : List Addr} (M : Mt c hid ρ st H) (g : Gr hid ρ H hid' ρ' H') : st.length ≤ ρ'.length := by
  rw [← M.len]
  cases e : ρ.length with
  | zero => exact Nat.zero_le _
  | succ n =>
    have hl : n < ρ.length := by omega
    have q := g.pre n _ (List.getElem?_eq_getElem hl)
    exact (List.getElem?_eq_some_iff.mp q).1
theorem take_get {α : Type} {xs : List α} {b n : Nat} {a : α} (h : (xs.take b)[n]? = some a) : n < b ∧ xs[n]? = some a := by
  rw [List.getElem?_take] at h
  by_cases hl : n < b
  · rw [if_pos hl] at h; exact ⟨hl, h⟩
  · rw [if_neg hl] at h; cases h
theorem kept_take (b : Nat) : Kept ρ (ρ.take b) b := ⟨fun n a hl q => by rw [List.getElem?_take_of_lt hl]; exact q, fun a h => List.mem_of_mem_take h⟩
theorem not_take {b n : Nat} {a : Addr} (nd : ρ.Nodup) (hn : b ≤ n) (q : ρ[n]? = some a) : a ∉ ρ.take b := fun hm => by
  obtain ⟨m, hm⟩ := List.mem_iff_getElem?.mp hm
  obtain ⟨hl, q2⟩ := take_get hm
  obtain ⟨l1, e1⟩ := List.getElem?_eq_some_iff.mp q
  obtain ⟨l2, e2⟩ := List.getElem?_eq_some_iff.mp q2
  have := (List.getElem_inj nd).mp (e1.trans e2.symm)
  omega
/-- the store behind a call: what the callee made is no longer tracked -/
theorem Nx.leave (M : Mt c hid ρ st H) (N : Nx (c.in_ st.length) hid ρ H ρ' st1 H') : Nx c hid ρ H (ρ'.take st.length) (st1.take st.length) H' := by
  have hl := gr_len M N.gr
  have kp := kept_take (ρ := ρ') st.length
  have hl1 : ρ'.length = st1.length := N.mt.len
  refine ⟨⟨by rw [List.length_take, List.length_take, hl1], N.mt.nd.sublist (List.take_sublist _ _), fun a ha => N.mt.dis a (kp.sub a ha), N.mt.hs, fun n o a h1 h2 => ?_, fun x hx => ?_, fun p hp => ?_⟩, ⟨fun n a q => ?_, N.gr.chg, N.gr.hch, N.gr.ext, fun a ha => N.gr.fre a (kp.sub a ha), N.gr.hfr⟩, N.hk⟩
  · obtain ⟨l1, q1⟩ := take_get h1
    obtain ⟨l2, q2⟩ := take_get h2
    obtain ⟨ho, e, r⟩ := N.mt.ob n o a q1 q2
    exact ⟨ho, e, ob_kept kp r ((N.mt.wf st.length (List.mem_cons_self ..)).2.2 n o l1 q1)⟩
  · obtain ⟨h1, h2, h3⟩ := N.mt.wf x (List.mem_cons_of_mem _ hx)
    obtain ⟨g1, g2, g3⟩ := M.wf x hx
    refine ⟨g1, by rw [List.length_take]; omega, fun n o hn e => ?_⟩
    exact h3 n o hn (take_get e).2
  · have q := M.cs p hp
    have g : Gr hid ρ H hid (ρ'.take st.length) H' := ⟨fun n a q => ?_, N.gr.chg, N.gr.hch, N.gr.ext, fun a ha => N.gr.fre a (kp.sub a ha), N.gr.hfr⟩
    · exact Rel.mono g _ _ q
    · exact kp.at_ n a (by rw [← M.len]; exact (List.getElem?_eq_some_iff.mp q).1) (N.gr.pre n a q)
  · exact kp.at_ n a (by rw [← M.len]; exact (List.getElem?_eq_some_iff.mp q).1) (N.gr.pre n a q)
theorem frz_post (M : Mt c hid ρ st H) (N : Nx (c.in_ st.length) hid ρ H ρ' st1 H') {d e : D} {v : V} (r : Rel c.K hid H' ρ' d v) (h : frz st1 st.length d = some e) : Rel c.K hid H' (ρ'.take st.length) e v := by
  refine rel_map (kept_take (ρ := ρ') st.length) _ (frz_ref N.mt (z := st1.length) (kept_take (ρ := ρ') st.length) (fun n a hn _ q => not_take N.mt.nd hn q) 6) d e v h r
theorem fin0_post (M : Mt c hid ρ st H) (N : Nx (c.in_ st.length) hid ρ H ρ' st1 H') {d : D} {v : V} (r : Rel c.K hid H' ρ' d v) {W : WX} {σ : L2.St} {Q : VK} (h : Post c hid W σ ρ H (fin0 st.length d st1) (rl c hid) Q) : Q v H' := by
  unfold fin0 at h
  cases e : frz st1 st.length d with
  | none => rw [e] at h; exact h.elim
  | some e' =>
    rw [e] at h
    exact h v H' _ (N.leave M) (frz_post M N r e)
theorem finE_post (M : Mt c hid ρ st H) (N : Nx (c.in_ st.length) hid ρ H ρ' st1 H') {cl : Nat} {d : D} {v : V} (r : Rel c.K hid H' ρ' d v) {W : WX} {σ : L2.St} {Q : VK} {dd : Addr} (q : H' dd = some (.xd [("value", v)])) (h : Post c hid W σ ρ H (finE st.length cl d st1) (rl c hid) Q) : W (.ref (c.cls cl)) (some dd) σ H' := by
  unfold finE at h
  cases e : frz st1 st.length d with
  | none => rw [e] at h; exact h.elim
  | some e' =>
    rw [e] at h
    exact h v H' _ dd (N.leave M) q (frz_post M N r e)
theorem fin1_post (M : Mt c hid ρ st H) (N : Nx (c.in_ st.length) hid ρ H ρ' st1 H') {d : D} {v : V} (r : Rel c.K hid H' ρ' d v) {W : WX} {σ : L2.St} {Q : VK} (h : Post c hid W σ ρ H (fin1 st.length d st1) (rl c hid) Q) : Q v H' := by
  cases d with
  | ref n =>
    simp only [fin1] at h
    by_cases hn : st.length ≤ n
    · rw [if_pos hn] at h
      cases e0 : st1[n]? with
      | none => rw [e0] at h; exact h.elim
      | some o =>
        rw [e0] at h
        have h' : Post c hid W σ ρ H (match frzO st1 st.length n o with
          | some o => .ok (.ref st.length) (st1.take st.length ++ [o])
          | none => .no) (rl c hid) Q := h
        cases e1 : frzO st1 st.length n o with
        | none => rw [e1] at h'; exact h'.elim
        | some o' =>
          rw [e1] at h'
          obtain ⟨a, ev, qa⟩ := r
          obtain ⟨ho, e2, ro⟩ := N.mt.ob n o a e0 qa
          have L := N.leave M
          have ha : a ∈ ρ' := List.mem_iff_getElem?.mpr ⟨n, qa⟩
          have hna : a ∉ ρ'.take st.length := not_take N.mt.nd hn qa
          have hl := gr_len M N.gr
          have kp : Kept ρ' (ρ'.take st.length ++ [a]) st.length := ⟨fun m x hm q => by
            rw [List.getElem?_append_left (by rw [List.length_take]; omega)]
            exact (kept_take st.length).at_ m x hm q, fun x hx => (List.mem_append.mp hx).elim (fun z => List.mem_of_mem_take z) fun z => by rw [List.mem_singleton.mp z]; exact ha⟩
          have hz : ∀ (m : Nat) (x : Addr), st.length ≤ m → m ≠ n → ρ'[m]? = some x → x ∉ ρ'.take st.length ++ [a] := fun m x hm hne q hx => by
            rcases List.mem_append.mp hx with z | z
            · exact not_take N.mt.nd hm q z
            · rw [List.mem_singleton.mp z] at q
              obtain ⟨l1, e1⟩ := List.getElem?_eq_some_iff.mp q
              obtain ⟨l2, e2⟩ := List.getElem?_eq_some_iff.mp qa
              exact hne ((List.getElem_inj N.mt.nd).mp (e1.trans e2.symm))
          have ro' : ObR c.K hid H' (ρ'.take st.length ++ [a]) o' ho := by
            cases o with
            | lst xs =>
              obtain ⟨es, h1, h2⟩ := Option.map_eq_some_iff.mp (show (mapWL (frzR st1 st.length n 6) xs).map Ob.lst = some o' from e1)
              obtain ⟨vs, ev2, rs⟩ := ro
              subst h2 ev2
              exact ⟨vs, rfl, rels_map kp _ (frz_ref N.mt kp hz 6) xs es vs h1 rs⟩
            | dK ks xs =>
              obtain ⟨es, h1, h2⟩ := Option.map_eq_some_iff.mp (show (mapWL (frzR st1 st.length n 6) xs).map (Ob.dK ks) = some o' from e1)
              obtain ⟨vs, ev2, l, rs⟩ := ro
              subst h2 ev2
              exact ⟨vs, rfl, l, rels_map kp _ (frz_ref N.mt kp hz 6) xs es vs h1 rs⟩
            | dT ks xs =>
              obtain ⟨es, h1, h2⟩ := Option.map_eq_some_iff.mp (show (mapWL (frzR st1 st.length n 6) xs).map (Ob.dT ks) = some o' from e1)
              obtain ⟨vs, ev2, l, rs⟩ := ro
              subst h2 ev2
              exact ⟨vs, rfl, l, rels_map kp _ (frz_ref N.mt kp hz 6) xs es vs h1 rs⟩
          have tl : (st1.take st.length).length = st.length := by
            rw [List.length_take]
            have := N.mt.len
            omega
          have tr : (ρ'.take st.length).length = st.length := by rw [List.length_take]; omega
          have at1 : (ρ'.take st.length ++ [a])[st.length]? = some a := by
            rw [List.getElem?_append_right (by omega), tr, Nat.sub_self]; rfl
          have g : Gr hid ρ H hid (ρ'.take st.length ++ [a]) H' := ⟨fun m x q => ?_, N.gr.chg, N.gr.hch, N.gr.ext, fun x hx => N.gr.fre x (kp.sub x hx), N.gr.hfr⟩
          · refine h' v H' _ ⟨⟨by rw [List.length_append, List.length_append, tl, tr]; rfl, ?_, fun x hx => N.mt.dis x (kp.sub x hx), N.mt.hs, fun m o2 x h1 h2 => ?_, fun x hx => ?_, fun p hp => ?_⟩, g, N.hk⟩ ⟨a, ev, at1⟩
            · rw [List.nodup_append]
              refine ⟨L.mt.nd, by simp, fun x hx y hy => ?_⟩
              rw [List.mem_singleton.mp hy]
              exact fun e => hna (e ▸ hx)
            · by_cases hm : m < st.length
              · rw [List.getElem?_append_left (by omega)] at h1 h2
                obtain ⟨l1, q1⟩ := take_get h1
                obtain ⟨l2, q2⟩ := take_get h2
                obtain ⟨ho2, e5, r5⟩ := N.mt.ob m o2 x q1 q2
                exact ⟨ho2, e5, ob_kept kp r5 ((N.mt.wf st.length (List.mem_cons_self ..)).2.2 m o2 l1 q1)⟩
              · rw [List.getElem?_append_right (by omega), tl] at h1
                rw [List.getElem?_append_right (by omega), tr] at h2
                by_cases hz0 : m - st.length = 0
                · rw [hz0] at h1 h2
                  cases h1; cases h2
                  exact ⟨ho, e2, ro'⟩
                · rw [List.getElem?_eq_none (by simp; omega)] at h2
                  cases h2
            · obtain ⟨h1, h2, h3⟩ := L.mt.wf x hx
              refine ⟨h1, by rw [List.length_append]; omega, fun m o2 hm e5 => h3 m o2 hm ?_⟩
              rw [List.getElem?_append_left (by omega)] at e5
              exact e5
            · exact Rel.mono g _ _ (M.cs p hp)
          · exact kp.at_ m x (by rw [← M.len]; exact (List.getElem?_eq_some_iff.mp q).1) (N.gr.pre m x q)
    · rw [if_neg hn] at h; exact h.elim
  | _ => exact h.elim
theorem finF_post (M : Mt c hid ρ st H) (N : Nx (c.in_ st.length) hid ρ H ρ' st1 H') {mode : Nat} {d : D} {v : V} (r : Rel c.K hid H' ρ' d v) {W : WX} {σ : L2.St} {Q : VK} (h : Post c hid W σ ρ H (finF mode st.length d st1) (rl c hid) Q) : Q v H' := by
  unfold finF at h
  by_cases hm : mode = 1
  · rw [if_pos hm] at h; exact fin1_post M N r h
  · rw [if_neg hm] at h; exact fin0_post M N r h
/-- the body's end, from the call's -/
theorem finO_post (M : Mt c hid ρ st H) {mode : Nat} {o : O} {E : XK} {Q : VK} (h : Post c hid (fun a d _ h => E a d h) [] ρ H (finO mode st.length o) (rl c hid) Q) :
    PostS (c.in_ st.length) hid (fun a d _ h => E a d h) ρ H o { nx := fun _ H' => Q .non H', rt := Q } := by
  cases o with
  | nx env st1 => exact fun σ' H' ρ' N _ => finF_post M N (v := .non) (d := .non) rfl h
  | rt d st1 => exact fun v H' ρ' N r => finF_post M N r h
  | ex cl d env st1 => exact fun σ' v H' ρ' dd N _ q r => finE_post M N r q h
  | bk env st1 => exact h.elim
  | ct env st1 => exact h.elim
  | no => exact h.elim
end

/-! ### a def's promise -/
/-- what is fixed for a law: the module's part, the table -/
structure Wl where
  K : PySem.W.Frag
  cls : Nat → Addr
  cs : List (D × V)
  tbl : List Fd
  glo : Nat → Option D
  wf : Nat
def Wl.c (w : Wl) (b : Nat) (bs : List Nat) : Cc := ⟨w.K, bs, b, w.cls, w.cs⟩
def Wl.F (w : Wl) (k : Nat) : Fs := ⟨callF w.tbl w.glo w.wf k, w.glo, w.wf⟩
def spF (w : Wl) (k f : Nat) : Sp := fun vs H Q E => ∃ (b : Nat) (bs : List Nat) (hid ρ : List Addr) (st : Stt) (ds : List D), Mt (w.c b bs) hid ρ st H ∧ Rels w.K hid H ρ ds vs ∧
  Post (w.c b bs) hid (fun a d _ h => E a d h) [] ρ H (callF w.tbl w.glo w.wf k f ds b st) (rl (w.c b bs) hid) Q
theorem spF_len {w : Wl} {k f : Nat} {fd : Fd} (e : w.tbl[f]? = some fd) (vs : List V) (H : Hp) (Q : VK) (E : XK) (h : spF w k f vs H Q E) : vs.length = fd.n := by
  obtain ⟨b, bs, hid, ρ, st, ds, M, r, h⟩ := h
  cases k with
  | zero => exact h.elim
  | succ k =>
    unfold callF at h
    rw [e] at h
    by_cases hl : ds.length = fd.n
    · rw [← hl]; exact r.len.symm
    · simp only [if_neg hl] at h; exact h.elim
theorem env_start {c : Cc} {hid : List Addr} {H : Hp} {ρ : List Addr} {N : List Str} {ds : List D} {vs : List V} {m : Nat} (r : Rels c.K hid H ρ ds vs) (hm : m = N.length - vs.length) : EnvR c hid H ρ (ds.map some ++ List.replicate m none) (L2.start N vs) := by
  subst hm
  refine ⟨by unfold L2.start; simp [r.len], fun i d e => ?_⟩
  by_cases hi : i < ds.length
  · rw [List.getElem?_append_left (by simpa using hi), List.getElem?_map] at e
    cases e1 : ds[i]? with
    | none => rw [e1] at e; cases e
    | some d' =>
      rw [e1] at e
      cases e
      obtain ⟨v, h1, h2⟩ := r.get e1
      refine ⟨v, ?_, h2⟩
      unfold L2.start
      rw [List.getElem?_append_left (by rw [List.length_map, ← r.len]; exact hi), List.getElem?_map, h1]
      rfl
  · rw [List.getElem?_append_right (by simpa using hi)] at e
    rw [List.getElem?_replicate] at e
    split at e <;> cases e
/-- what a def keeps where nothing is shown or compared around it (no guard stands) -/
structure FnG (P : Program) (w : World) (K : PySem.W.Frag) (mg : Str → Option Value) (base : Heap) (k : Nat) (f : Addr) (fd : FuncData) (ps : List Str) (sp : Sp) : Prop where
  len : ∀ vs H Q E, sp vs H Q E → vs.length = ps.length
  run : ∀ (A : Around) (outer : List PySem.Env) (s : Shared) (H : Hp) (args : Args) (us : List Value) (vs : List V) (Q : VK) (E : XK), A.guards = some [] → Room k A → Env0 P w K mg base A outer s H → BindsTo s fd args (ps.zip us) → Vals vs us → sp vs H Q E →
    codeAny (model P w) A (.call (.ref f) args) (CR (L2.CX P w) outer P w H s Q E) s
/-- a def keeps its promise: its body is read as the table has it -/
theorem fn_ok {P : Program} {w : World} {mg : Str → Option Value} {base : Heap} {wl : Wl} {k r f : Nat} {fd : Fd} {x qual : Str} {params : Arguments} {body : List Stmt} {scope : Scope} {dvs : List V} {kws : List (Str × V)} {fa : Addr} {fdat : FuncData} {N ps : List Str}
    (F : FunD wl.K x qual params body scope dvs kws fa fdat) (Sc : FnScope N ps scope) (e : wl.tbl[f]? = some fd) (hn : fd.n = ps.length) (hs : fd.slots = N.length)
    (hbody : ∀ (cdv : Value) (A : Around) (outer : List PySem.Env) (s : Shared) (H : Hp) (E : XK) (c : Cc) (W : WX), A.guards = some [] → Room r (A.deeper (envOfC qual scope s.heap.objs.size fa cdv)) → c = wl.c c.b c.bs →
      Takes (cxOf (L2.CX P w) P w wl.K mg base N qual scope fa cdv A outer s H E) W → PSs (cxOf (L2.CX P w) P w wl.K mg base N qual scope fa cdv A outer s H E) body (Ss c W (wl.F k) fd.body)) :
    FnG P w wl.K mg base (r + 1) fa fdat ps (spF wl (k + 1) f) := by
  refine ⟨fun vs H Q E h => by rw [← hn]; exact spF_len e vs H Q E h, fun A outer s H args us vs Q E hgd hr e0 hb rv h => ?_⟩
  have hlen := spF_len e vs H Q E h
  obtain ⟨oc, od, dV, kV, doc, pm, an, cdv, ct, osl, hfd, lk, hcd, _, _⟩ := F.ex
  subst hfd
  have up : ∀ b o, base.get? b = some o → s.heap.get? b = some o := fun b o e => (e0.bs b o e).1
  have kinds : ∀ y ∈ ps.zip us, scope.names.lookup y.1 = some .local ∨ (scope.names.lookup y.1 = some .cell ∧ ((cellsFrom (s.heap.objs.size + 1) scope.names []).lookup y.1).isSome = true) := fun y hy =>
    (Sc.par y.1 (List.of_mem_zip (show (y.1, y.2) ∈ ps.zip us from hy)).1).imp id fun q => ⟨q, PySem.W.cellsFrom_some _ _ _ (.inl q)⟩
  have KX := e0.mod.kin.keeps up
  refine codeAny_call_function hr.depth (KX _ _ lk) rfl Sc.co Sc.gen rfl (PySem.W.codeRec_of KX hcd) (hb _ _ _ _ ?_)
  refine wpAny_newFunctionEnv_cells Sc.kind kinds fun env he s1 x1 => ?_
  subst he
  refine ⟨(e0.mod.nolimit.keeps up).keeps x1.toInCall.keep, codeAny_func ?_⟩
  have tk : Takes (cxOf (L2.CX P w) P w wl.K mg base N qual scope fa cdv A outer s H E) (fun a d _ h => E a d h) := takes_of rfl rfl rfl (E₁ := fun e' s'' => L2.CX P w outer H s E e' s'') rfl
  have I : Inv (cxOf (L2.CX P w) P w wl.K mg base N qual scope fa cdv A outer s H E) [] (L2.start N vs) H s1 := inv_start Sc hr.hd e0 (by rw [hlen, hn]) rv x1
  obtain ⟨b, bs, hid, ρ, st, ds, M, r, h⟩ := h
  have hl : ds.length = fd.n := by rw [r.len, hlen]
  unfold callF at h
  rw [e] at h
  simp only [if_pos hl] at h
  have body := (hbody cdv A outer s H E ((wl.c b bs).in_ st.length) _ hgd (hr.deeper _) rfl tk).run [] s1 (L2.start N vs) H { nx := fun _ H' => Q .non H', rt := Q } I
    ⟨hid, _, st, ρ, M.in_, env_start (m := fd.slots - fd.n) r (by rw [hs, hlen]), finO_post (mode := fd.mode) M h⟩
  refine wpAny_mono body (fun fl s' q => ?_) fun e' s' q => q
  cases fl with
  | ret u => obtain ⟨v, σ', H', J, rv, q⟩ := q; exact ⟨v, H', J.os, J.bare, J.base, J.hok, rv, q⟩
  | next => obtain ⟨σ', H', J, q⟩ := q; exact ⟨.non, H', J.os, J.bare, J.base, J.hok, rfl, q⟩
  | brk => obtain ⟨_, _, _, q⟩ := q; exact False.elim q
  | cont => obtain ⟨_, _, _, q⟩ := q; exact False.elim q
end Y
/-! Y14: calls. -/
namespace Y
open PySem PySem.Spec PyProof.Rows L2
section
variable {X : Cx} {W : WX} {k : Nat} {f : Addr} {fd : FuncData} {ps ks : List Str} {sp : Sp} {dvs : List V} {ds : List Value} {x : Str} {p pos : Pos} {e : Expr} {es : List Expr} {kws : List Keyword} {t tk : TA}
theorem run_W {pins : List (Addr × Obj)} {σ : L2.St} {H : Hp} {s : Shared} {Q : VK} {args : Args} {us : List Value} {vs : List V} (Fn : FnG X.prog X.w X.K X.mg X.base k f fd ps sp) (hgd : X.A.guards = some []) (hr : Room k X.A) (tk : Takes X W)
    (I : Inv X pins σ H s) (hb : BindsTo s fd args (ps.zip us)) (r : Vals vs us) (h : sp vs H Q (fun a d H' => W a d σ H')) : codeAny (model X.prog X.w) X.A (.call (.ref f) args) (fun r s' => match r with
      | .ok (.ret u) => EP X pins σ Q u s'
      | .ok _ => False
      | .error e => X.xe e s') s := by
  refine codeAny_mono (Fn.run X.A X.stack s H args us vs Q _ hgd hr I.env0 hb r h) fun r s' hq => ?_
  cases r with
  | error e => exact tk e s' (XE.of_call I (fun _ _ _ h => h) hq)
  | ok fl =>
    cases fl with
    | ret u => exact I.after hq
    | next => exact False.elim hq
    | brk => exact False.elim hq
    | cont => exact False.elim hq
def tCallW (sp : Sp) (dvs : List V) (W : WX) (t : TA) : TE := fun σ H Q => t σ H fun vs H1 => sp (vs ++ dvs) H1 Q (fun a d H' => W a d σ H')
theorem call_W {pins : List (Addr × Obj)} {σ : L2.St} {H : Hp} {s : Shared} {Q : VK} {args : Args} {us : List Value} {vs : List V} (Fn : FnG X.prog X.w X.K X.mg X.base k f fd ps sp) (hgd : X.A.guards = some []) (hr : Room k X.A) (tk : Takes X W)
    (I : Inv X pins σ H s) (hb : BindsTo s fd args (ps.zip us)) (r : Vals vs us) (h : sp vs H Q (fun a d H' => W a d σ H')) : wpAny (model X.prog X.w) X.A (call (.ref f) args.pos args.kw) (EP X pins σ Q) X.xe s := by
  refine wpAny_call (codeAny_mono (run_W Fn hgd hr tk I hb r h) fun r s' hq => ?_)
  cases r with
  | error e => exact hq
  | ok fl =>
    cases fl with
    | ret u => exact hq
    | next => exact False.elim hq
    | brk => exact False.elim hq
    | cont => exact False.elim hq
end

/-! ### keywords -/
theorem kw_some (pos : Pos) (env : PySem.Env) : ∀ kws : List Keyword, (kws.all fun k => k.arg.isSome) = true → (backToKw pos (keywordEach kws env)).all (·.1.isSome) = true ∧ (backToKw pos (keywordEach kws env)).any (·.1.isNone) = false ∧ (backToKw pos (keywordEach kws env)).filterMap (·.1) = kws.filterMap (·.arg)
  | [], _ => ⟨rfl, rfl, rfl⟩
  | ⟨none, e, p⟩ :: kws, h => by cases h
  | ⟨some n, e, p⟩ :: kws, h => by
    obtain ⟨h1, h2, h3⟩ := kw_some pos env kws (by simpa using h)
    refine ⟨?_, ?_, ?_⟩
    · show (true && (backToKw pos (keywordEach kws env)).all (·.1.isSome)) = true
      rw [h1]; rfl
    · show (false || (backToKw pos (keywordEach kws env)).any (·.1.isNone)) = false
      rw [h2]; rfl
    · show n :: (backToKw pos (keywordEach kws env)).filterMap (·.1) = n :: kws.filterMap (·.arg)
      rw [h3]
theorem PK.imp {X : Cx} {e : List Keyword} {t t' : TA} (h : PK X e t) (i : ∀ σ H Q, t' σ H Q → t σ H Q) : PK X e t' := ⟨fun pos pins s σ H Q I q => h.run pos pins s σ H Q I (i σ H Q q)⟩
section
variable {X : Cx} {c : Cc} {W : WX} {wl : Wl} {F : Fs} {k f : Nat} {fa : Addr} {fd : FuncData} {ps ks : List Str} {n : Str} {p pos kpos : Pos} {a : Expr} {es : List Expr} {kws : List Keyword} {x : IE} {xs ys : IEs} {nm : Option Str}
theorem k_nil : PK X [] (A c W F .nil) := PK.imp pk_nil fun σ H Q ⟨hid, env, st, ρ, M, En, h⟩ => by
  simp only [evL] at h
  exact h.ok M rfl
theorem k_cons (ha : PE X a (E c W F x)) (hr : PK X kws (A c W F xs)) : PK X (⟨nm, a, kpos⟩ :: kws) (A c W F (.cons x xs)) :=
  PK.imp (pk_cons ha hr) fun σ H Q ⟨hid, env, st, ρ, M, En, h⟩ => by
    simp only [evL] at h
    refine ⟨hid, env, st, ρ, M, En, (Post.bind h).imp fun v H1 ⟨d, st1, ρ1, N, q, h1⟩ => ?_⟩
    refine ⟨hid, env, st1, ρ1, N.mt, En.mono N.gr, (Post.bind h1).imp fun vs H2 ⟨ds, st2, ρ2, N2, q2, h2⟩ => ?_⟩
    exact h2.ok N2.mt ⟨v, vs, rfl, Rel.mono N2.gr _ _ q, q2⟩
/-- a def as a body sees it -/
structure FnAt (X : Cx) (wl : Wl) (k : Nat) (n : Str) (f : Nat) (fa : Addr) (fd : FuncData) (ps : List Str) : Prop where
  ok : FnG X.prog X.w X.K X.mg X.base (k + 2) fa fd ps (spF wl k f)
  mg : X.mg n = some (.ref fa)
  kp : PySem.W.keepIn X.K (.ref fa) = true
  hdb : (n == ("__debug__" : Str)) = false
theorem sp_of {hid ρ : List Addr} {st : Stt} {H : Hp} {σ : L2.St} {ds : List D} {vs : List V} {Q : VK} (hc : c = wl.c c.b c.bs) (M : Mt c hid ρ st H) (r : Rels c.K hid H ρ ds vs)
    (h : Post c hid W σ ρ H (callF wl.tbl wl.glo wl.wf k f ds c.b st) (rl c hid) Q) : spF wl k f vs H Q (fun a d H' => W a d σ H') := by
  have e : c.K = wl.K := by rw [hc]; rfl
  refine ⟨c.b, c.bs, hid, ρ, st, ds, hc ▸ M, e ▸ r, ?_⟩
  rw [← hc]
  cases e2 : callF wl.tbl wl.glo wl.wf k f ds c.b st with
  | ok d s => rw [e2] at h; exact h
  | ex cl d s => rw [e2] at h; exact h
  | no => rw [e2] at h; exact h
theorem go_call {ds : List D} {dvs : List V} {dsv : List Value} (hc : c = wl.c c.b c.bs) (Fn : FnAt X wl k n f fa fd ps) (hgd : X.A.guards = some []) (hr : Room (k + 2) X.A) (tk : Takes X W) (hb : Binds X.K fd ps dsv) (hd : Vals dvs dsv) (hrel : ∀ hid H ρ, Rels c.K hid H ρ ds dvs)
    {pins : List (Addr × Obj)} {s : Shared} {σ : L2.St} {H1 : Hp} {Q : VK} {us : List Value} {vs : List V} {hid ρ : List Addr} {st : Stt} {es : List D} (I : Inv X pins σ H1 s) (r : Vals vs us) (M : Mt c hid ρ st H1) (rs : Rels c.K hid H1 ρ es vs)
      (h : Post c hid W σ ρ H1 ((wl.F k).call f (es ++ ds) c.b st) (rl c hid) Q) : wpAny (model X.prog X.w) X.A (call (.ref fa) us) (EP X pins σ Q) X.xe s := by
  have h2 := sp_of (wl := wl) (k := k) (f := f) hc M (rs.app (hrel hid H1 ρ)) h
  have r2 : Vals (vs ++ dvs) (us ++ dsv) := r.append hd
  have hl : (us ++ dsv).length = ps.length := by rw [← r2.length]; exact Fn.ok.len _ _ _ _ h2
  exact call_W (args := ⟨us, []⟩) Fn.ok hgd hr tk I (hb s us I.kIn hl) r2 h2
theorem r_call {ds : List D} {dvs : List V} {dsv : List Value} (hc : c = wl.c c.b c.bs) (Fn : FnAt X wl k n f fa fd ps) (hgd : X.A.guards = some []) (hr : Room (k + 2) X.A) (tk : Takes X W) (hg : Gl X n) (hb : Binds X.K fd ps dsv) (hd : Vals dvs dsv) (hrel : ∀ hid H ρ, Rels c.K hid H ρ ds dvs)
    (ha : PA X (a :: es) (A c W (wl.F k) xs)) (h1 : starEach (a :: es) X.env = (false, eval a X.env) :: starEach es X.env) (h2 : (backTo pos (starEach es X.env)).any (·.1) = false) :
    PE X (.Call (.Name n p) (a :: es) [] pos) (E c W (wl.F k) (.call f xs ds)) := by
  refine ⟨fun pins s σ H Q I ⟨hid, env, st, ρ, M, En, h⟩ => ?_⟩
  simp only [evE] at h
  refine wpAny_Call_Name_kw (ld_glob I hg Fn.mg ?_ Fn.hdb)
  refine PySem.W.callWith_K (h₀ := X.base) I.ok.mod.kin Fn.kp (thn (ha.run pos pins s σ H (fun vs H1 => ∃ es st1 ρ1, Mt c hid ρ1 st1 H1 ∧ Rels c.K hid H1 ρ1 es vs ∧ Post c hid W σ ρ1 H1 ((wl.F k).call f (es ++ ds) c.b st1) (rl c hid) Q) I ⟨hid, env, st, ρ, M, En, (Post.bind h).imp fun vs H1 ⟨es, st1, ρ1, N, q, h1⟩ => ⟨es, st1, ρ1, N.mt, q, h1⟩⟩) fun us s1 ⟨vs, H1, I1, r, es, st1, ρ1, M1, q, h3⟩ => ⟨I1.kIn, ?_⟩) h1 h2
  exact go_call hc Fn hgd hr tk hb hd hrel I1 r M1 q h3
theorem r_call0 {ds : List D} {dvs : List V} {dsv : List Value} (hc : c = wl.c c.b c.bs) (Fn : FnAt X wl k n f fa fd ps) (hgd : X.A.guards = some []) (hr : Room (k + 2) X.A) (tk : Takes X W) (hg : Gl X n) (hb : Binds X.K fd ps dsv) (hd : Vals dvs dsv) (hrel : ∀ hid H ρ, Rels c.K hid H ρ ds dvs) :
    PE X (.Call (.Name n p) [] [] pos) (E c W (wl.F k) (.call f .nil ds)) := by
  refine ⟨fun pins s σ H Q I ⟨hid, env, st, ρ, M, En, h⟩ => ?_⟩
  simp only [evE, evL] at h
  refine wpAny_Call_Name_kw (ld_glob I hg Fn.mg ?_ Fn.hdb)
  exact PySem.W.callWith_K0 I.kIn Fn.kp (go_call (us := []) (vs := []) (es := []) hc Fn hgd hr tk hb hd hrel I .nil M rfl h)
theorem pick_rel {hid ρ : List Addr} {H : Hp} {ds : List D} {vs : List V} {us : List Value} (r : Rels c.K hid H ρ ds vs) (q : Vals vs us) : ∀ {is : List Nat} {ws : List D}, pick is ds = some ws → ∃ zs ys, pick is us = some ys ∧ Rels c.K hid H ρ ws zs ∧ Vals zs ys
  | [], ws, h => by cases h; exact ⟨[], [], rfl, rfl, .nil⟩
  | i :: is, ws, h => by
    unfold pick at h
    cases e1 : ds[i]? with
    | none => rw [e1] at h; cases h
    | some d =>
      rw [e1] at h
      cases e2 : pick is ds with
      | none => simp only [e2] at h; cases h
      | some r2 =>
        simp only [e2] at h
        cases h
        obtain ⟨v, h1, h2⟩ := r.get e1
        obtain ⟨u, h3, h4⟩ := q.get h1
        obtain ⟨zs, ys, h5, h6, h7⟩ := pick_rel r q e2
        exact ⟨v :: zs, u :: ys, by unfold pick; rw [h3, h5], ⟨v, zs, rfl, h2, h6⟩, .cons h4 h7⟩
theorem goK_call {order : List Nat} (hc : c = wl.c c.b c.bs) (Fn : FnAt X wl k n f fa fd ps) (hgd : X.A.guards = some []) (hr : Room (k + 2) X.A) (tk : Takes X W) (hb : ∀ (s : Shared) (us ws rs : List Value), us.length = es.length → ws.length = ks.length → pick order (us ++ ws) = some rs → BindsTo s fd ⟨us, ks.zip ws⟩ (ps.zip rs))
    {pins : List (Addr × Obj)} {s : Shared} {σ : L2.St} {H1 : Hp} {Q : VK} {us ws : List Value} {vs zs : List V} {hid ρ : List Addr} {st : Stt} {d1 d2 : List D} (I : Inv X pins σ H1 s) (r : Vals vs us) (rz : Vals zs ws) (M : Mt c hid ρ st H1) (rs : Rels c.K hid H1 ρ d1 vs) (rs2 : Rels c.K hid H1 ρ d2 zs)
      (l1 : us.length = es.length) (l2 : ws.length = ks.length)
      (h : Post c hid W σ ρ H1 (match pick order (d1 ++ d2) with
        | some ws => (wl.F k).call f ws c.b st
        | none => .no) (rl c hid) Q) : wpAny (model X.prog X.w) X.A (call (.ref fa) us (ks.zip ws)) (EP X pins σ Q) X.xe s := by
  cases e : pick order (d1 ++ d2) with
  | none => rw [e] at h; exact h.elim
  | some d3 =>
    rw [e] at h
    obtain ⟨v3, u3, h3, h4, h5⟩ := pick_rel (rs.app rs2) (r.append rz) e
    exact call_W (args := ⟨us, ks.zip ws⟩) Fn.ok hgd hr tk I (hb s us ws u3 l1 l2 h3) h5 (sp_of (wl := wl) (k := k) (f := f) hc M h4 h)
theorem evL_len {F : Fs} {b : Nat} : ∀ {xs : IEs} {env : Env} {st st1 : Stt} {ds : List D}, evL F b xs env st = .ok ds st1 → ds.length = esLen xs
  | .nil, env, st, st1, ds, h => by
    simp only [evL] at h
    cases h
    rfl
  | .cons x xs, env, st, st1, ds, h => by
    simp only [evL] at h
    obtain ⟨d, s1, _, h⟩ := bind_ok h
    obtain ⟨ds2, s2, h2, h⟩ := bind_ok h
    cases h
    show ds2.length + 1 = esLen xs + 1
    rw [evL_len h2]
/-- values at hand, their count known -/
theorem Post.bindL {σ : L2.St} {ρ : List Addr} {hid : List Addr} {H : Hp} {env : Env} {st : Stt} {γ δ : Type} {f : List D → Stt → R γ} {rel2 : Hp → List Addr → γ → δ → Prop} {Q2 : δ → Hp → Prop} (h : Post c hid W σ ρ H ((evL F c.b xs env st).bind f) rel2 Q2) :
    Post c hid W σ ρ H (evL F c.b xs env st) (rls c hid) (fun v H1 => ∃ d st1 ρ1, Nx c hid ρ H ρ1 st1 H1 ∧ Rels c.K hid H1 ρ1 d v ∧ v.length = esLen xs ∧ Post c hid W σ ρ1 H1 (f d st1) rel2 Q2) := by
  have hb := Post.bind (rel := rls c hid) h
  cases e : evL F c.b xs env st with
  | ok d st1 =>
    rw [e] at hb
    intro v H1 ρ1 N q
    obtain ⟨d', st1', ρ1', N', q', h'⟩ := hb v H1 ρ1 N q
    refine ⟨d', st1', ρ1', N', q', ?_, h'⟩
    have := q.len
    rw [← this, evL_len e]
  | ex e' d s => rw [e] at hb; exact hb
  | no => rw [e] at hb; exact hb
theorem r_callK {order : List Nat} (hc : c = wl.c c.b c.bs) (Fn : FnAt X wl k n f fa fd ps) (hgd : X.A.guards = some []) (hr : Room (k + 2) X.A) (tk : Takes X W) (hg : Gl X n)
    (hb : ∀ (s : Shared) (us ws rs : List Value), us.length = (a :: es).length → ws.length = ks.length → pick order (us ++ ws) = some rs → BindsTo s fd ⟨us, ks.zip ws⟩ (ps.zip rs))
    (ha : PA X (a :: es) (A c W (wl.F k) xs)) (hkw : PK X kws (A c W (wl.F k) ys)) (hs : (kws.all fun k => k.arg.isSome) = true) (hks : kws.filterMap (·.arg) = ks) (l1 : esLen xs = (a :: es).length) (l2 : esLen ys = ks.length)
    (h1 : starEach (a :: es) X.env = (false, eval a X.env) :: starEach es X.env) (h2 : (backTo pos (starEach (a :: es) X.env)).any (·.1) = false) :
    PE X (.Call (.Name n p) (a :: es) kws pos) (E c W (wl.F k) (.callK f xs ys order)) := by
  obtain ⟨k1, k2, k3⟩ := kw_some pos X.env kws hs
  refine ⟨fun pins s σ H Q I ⟨hid, env, st, ρ, M, En, h⟩ => ?_⟩
  simp only [evE] at h
  refine wpAny_Call_Name_kw (ld_glob I hg Fn.mg ?_ Fn.hdb)
  refine PySem.W.callWith_KW (h₀ := X.base) I.ok.mod.kin Fn.kp k1 (thn (ha.run pos pins s σ H _ I ⟨hid, env, st, ρ, M, En, Post.bindL h⟩) fun us s1 ⟨vs, H1, I1, r, d1, st1, ρ1, N1, q1, lv, h3⟩ => ?_) (by rw [h2, k2]; rfl) h1
  refine thn (hkw.run pos pins s1 σ H1 _ I1 ⟨hid, env, st1, ρ1, N1.mt, En.mono N1.gr, Post.bindL h3⟩) fun ws s2 ⟨zs, H2, I2, rz, d2, st2, ρ2, N2, q2, lz, h4⟩ => ⟨I2.kIn, ?_⟩
  rw [k3, hks]
  exact goK_call hc Fn hgd hr tk hb I2 r rz N2.mt (Rels.mono N2.gr _ _ q1) q2 (by rw [List.nil_append, ← r.length, lv, l1]) (by rw [← rz.length, lz, l2]) h4
theorem r_callK0 {order : List Nat} (hc : c = wl.c c.b c.bs) (Fn : FnAt X wl k n f fa fd ps) (hgd : X.A.guards = some []) (hr : Room (k + 2) X.A) (tk : Takes X W) (hg : Gl X n)
    (hb : ∀ (s : Shared) (us ws rs : List Value), us.length = ([] : List Expr).length → ws.length = ks.length → pick order (us ++ ws) = some rs → BindsTo s fd ⟨us, ks.zip ws⟩ (ps.zip rs))
    (hkw : PK X kws (A c W (wl.F k) ys)) (hs : (kws.all fun k => k.arg.isSome) = true) (hks : kws.filterMap (·.arg) = ks) (l2 : esLen ys = ks.length) :
    PE X (.Call (.Name n p) [] kws pos) (E c W (wl.F k) (.callK f .nil ys order)) := by
  obtain ⟨k1, k2, k3⟩ := kw_some pos X.env kws hs
  refine ⟨fun pins s σ H Q I ⟨hid, env, st, ρ, M, En, h⟩ => ?_⟩
  simp only [evE, evL] at h
  refine wpAny_Call_Name_kw (ld_glob I hg Fn.mg ?_ Fn.hdb)
  refine PySem.W.callWith_KW0 (h₀ := X.base) I.ok.mod.kin Fn.kp k1 ?_ (by rw [k2]; rfl)
  refine thn (hkw.run pos pins s σ H _ I ⟨hid, env, st, ρ, M, En, Post.bindL h⟩) fun ws s2 ⟨zs, H2, I2, rz, d2, st2, ρ2, N2, q2, lz, h4⟩ => ⟨I2.kIn, ?_⟩
  rw [k3, hks]
  exact goK_call (us := []) (vs := []) (d1 := []) hc Fn hgd hr tk hb I2 .nil rz N2.mt rfl q2 rfl (by rw [← rz.length, lz, l2]) h4
end
end Y
set_option maxHeartbeats 4000000
/-! the promise of an own exception's __init__: super().__init__(value); self.value = value -/
namespace Y
open PySem PySem.Spec PyProof.Rows PySem.Calls L2
section
variable {prog : Program} {w : World} {A : Around} {E : Value → Shared → Prop} {h : Heap} {g : Array GenState} {d : Drawn} {t : Nat} {os : OsState}
variable {nm q : Str} {C N : Addr} {bs bm : List Value} {hdct : Bool} {sn : List Str} {sub : List Value} {ab : Bool} {col : Option Bool} {dd : Option Addr} {k0 k1 k2 k3 k5 : Option Value}
/-- the bound ValueError.__init__ called -/
theorem call_bwV {u e t0 : Addr} {rest : List Value} {Q : Value → Shared → Prop}
    (hC : h.get? C = some (excClassObj nm q C N bs bm hdct sn sub ab col dd k0 k1 k2 k3 k5 "ValueError.__new__")) (he : h.get? e = some (HandSPX.excO C t0)) (hu : h.get? u = some (PySem.W.kxs_mw "ValueError.__init__" e)) (hrest : rest.length ≤ sizeLine)
    (hq : ∀ h' t1, (∀ b o, b ≠ e → h.get? b = some o → h'.get? b = some o) → h'.get? e = some (HandSPX.excO C t1) → Q .none ⟨h', g, d, t, os⟩) :
    wpAny (model prog w) A (call (.ref u) rest) Q E ⟨h, g, d, t, os⟩ := by
  refine wpAny_call (codeAny_of_tree ?_)
  show wpAny _ A.in1 (callAny (.ref u) ⟨rest, []⟩) _ _ _
  simp only [callAny]
  refine wpAny_bind (wpAny_load hu ?_)
  simp only [PySem.W.kxs_mw, show (Value.type "method-wrapper" == Value.type "method" || Value.type "method-wrapper" == Value.type "builtin_function_or_method" || Value.type "method-wrapper" == Value.type "method-wrapper") = true by decide, if_true]
  refine PySem.W.KFB.if_so (by decide) ?_
  refine wpAny_bind (PySem.W.check_bound_init F.excBase_ValueError.toExcCallFacts hC he rfl ?_)
  refine wpAny_bind (wpAny_pure (wpAny_pure ?_))
  refine ⟨Code.quiet_builtin _ (by decide +kernel), codeAny_builtin F.excBase_ValueError.initEntry ?_⟩
  rw [Around.under_plainId F.excBase_ValueError.init.plain _]
  wp_walk
  refine hq _ h.objs.size (fun b o hb ho => ?_) ?_
  · rw [Heap.get?_update_other _ _ (Ne.symm hb)]
    exact Heap.get?_push_of_some _ ho
  · rw [Heap.get?_update_self _ (Heap.get?_push_of_some _ he) rfl]
    rfl
end
end Y
namespace Y
open PySem PySem.Spec PyProof.Rows PySem.Calls L2
/-- such an __init__, its def in the row n -/
abbrev iBody (n : Nat) : List Stmt :=
  [.Expr (.Call (.Attribute (.Call (.Name "super" ⟨n + 1, 8, n + 1, 13⟩) [] [] ⟨n + 1, 8, n + 1, 15⟩) "__init__" ⟨n + 1, 8, n + 1, 24⟩) [.Name "value" ⟨n + 1, 25, n + 1, 30⟩] [] ⟨n + 1, 8, n + 1, 31⟩) ⟨n + 1, 8, n + 1, 31⟩,
    .Assign [.Attribute (.Name "self" ⟨n + 2, 8, n + 2, 12⟩) "value" ⟨n + 2, 8, n + 2, 18⟩] (.Name "value" ⟨n + 2, 21, n + 2, 26⟩) ⟨n + 2, 8, n + 2, 26⟩]
abbrev iScope : Scope := { kind := .function, names := [("self", .local), ("value", .local), ("__class__", .free), ("super", .globalImplicit)], isGenerator := false, isCoroutine := false, more := [] }
abbrev iParams (n : Nat) : Arguments := { posonlyargs := [], args := [{ arg := "self", annotation := none, pos := ⟨n, 17, n, 21⟩ }, { arg := "value", annotation := none, pos := ⟨n, 23, n, 28⟩ }], vararg := none, kwonlyargs := [], kw_defaults := [], kwarg := none, defaults := [] }
abbrev iFd (n : Nat) (qual : Str) (dV kV doc pm : Value) (an : Option Addr) (cdv ct : Value) (cc : Addr) : FuncData :=
  { PySem.W.fnOf "__init__" qual (iParams n) (iBody n) iScope dV kV doc pm an cdv ct with closure := [("__class__", cc)] }
theorem methodRow (n : Nat) (env : PySem.Env) : eval (.Call (.Attribute (.Call (.Name "super" ⟨n + 1, 8, n + 1, 13⟩) [] [] ⟨n + 1, 8, n + 1, 15⟩) "__init__" ⟨n + 1, 8, n + 1, 24⟩) [.Name "value" ⟨n + 1, 25, n + 1, 30⟩] [] ⟨n + 1, 8, n + 1, 31⟩) env = (do
      let ov ← attributeBase (.Call (.Name "super" ⟨n + 1, 8, n + 1, 13⟩) [] [] ⟨n + 1, 8, n + 1, 15⟩) "__init__" env (eval (.Call (.Name "super" ⟨n + 1, 8, n + 1, 13⟩) [] [] ⟨n + 1, 8, n + 1, 15⟩) env)
      standAt (Pos.atName ⟨n + 1, 8, n + 1, 24⟩)
      let (f, first) ← holding [ov] (getMethod ov "__init__" (do return (← importBound (.Call (.Name "super" ⟨n + 1, 8, n + 1, 13⟩) [] [] ⟨n + 1, 8, n + 1, 15⟩) env).getD true))
      callWith ⟨n + 1, 8, n + 1, 31⟩ f first (backTo ⟨n + 1, 8, n + 1, 31⟩ (starEach [.Name "value" ⟨n + 1, 25, n + 1, 30⟩] env)) []) := by
  rw [arm_eval_Call]
  have e : methodCallPos true (.Call (.Name "super" ⟨n + 1, 8, n + 1, 13⟩) [] [] ⟨n + 1, 8, n + 1, 15⟩) env ⟨n + 1, 8, n + 1, 24⟩ ⟨n + 1, 8, n + 1, 31⟩ = pure ⟨n + 1, 8, n + 1, 31⟩ := by
    unfold methodCallPos
    simp
  have f : ∀ ov, methodCall (.Call (.Name "super" ⟨n + 1, 8, n + 1, 13⟩) [] [] ⟨n + 1, 8, n + 1, 15⟩) "__init__" ⟨n + 1, 8, n + 1, 24⟩ ⟨n + 1, 8, n + 1, 31⟩ env ov 1 (backTo ⟨n + 1, 8, n + 1, 31⟩ (starEach [.Name "value" ⟨n + 1, 25, n + 1, 30⟩] env)) [] = (do
      let (f, first) ← holding [ov] (getMethod ov "__init__" (do return (← importBound (.Call (.Name "super" ⟨n + 1, 8, n + 1, 13⟩) [] [] ⟨n + 1, 8, n + 1, 15⟩) env).getD true))
      callWith ⟨n + 1, 8, n + 1, 31⟩ f first (backTo ⟨n + 1, 8, n + 1, 31⟩ (starEach [.Name "value" ⟨n + 1, 25, n + 1, 30⟩] env)) []) := fun ov => by
    unfold methodCall
    show (do let (f, first) ← holding [ov] _; let callPos ← methodCallPos true _ env _ _; callWith callPos f first _ _) = _
    rw [e]
    rfl
  exact congrArg _ (funext fun ov => congrArg _ (funext fun _ => f ov))
/-- what the written part says of it: fI the def, D the class whose body it stands in, cc the cell, cda the code -/
structure InitW (P : Program) (K : PySem.W.Frag) (mg : Str → Option Value) (base : Heap) (fI D : Addr) (fd : FuncData) : Prop where
  fn : ∃ oc od osl, K.lookup fI = some ⟨oc, od, .func fd, osl⟩
  fdE : ∃ n qual dV kV doc pm an cda ct cc, fd = iFd n qual dV kV doc pm an (.ref cda) ct cc ∧ PySem.W.codeIn K (.ref cda) qual = true ∧
    (∃ ccl cdd vs ccs file tf, K.lookup cda = some ⟨ccl, cdd, .fields vs, ccs⟩ ∧ vs[2]? = some (.str file tf) ∧ ((P.main.file : Str) == file) = true) ∧
    (∃ cl cld csl, base.get? cc = some ⟨cl, cld, .cell (some (.ref D)), csl⟩)
  top : (P.main.scope.names.lookup ("super" : Str)).isSome = false
  mS : mg "super" = none
  clD : ∃ cd, PySem.W.clsIn K D = some cd
  tp : PySem.W.nsIn K cStatics "thirdparty.any" = some none

section
variable {P : Program} {w : World} {K : PySem.W.Frag} {mg : Str → Option Value} {base : Heap} {fI D : Addr} {fd : FuncData} {A : Around} {s : Shared} {args : Args} {a C t0 : Addr} {u : Value} {R : Result → Shared → Prop}
theorem init_run (M : Mod K mg base) (hbs : ∀ b o, base.get? b = some o → s.heap.get? b = some o) (W : InitW P K mg base fI D fd) (T : OexC K C)
    (hsup : PySem.W.ks_superIn K C D "__init__" = some (some (.builtin "ValueError.__init__"))) (hsub : PySem.W.mroIn K C (.ref D) = some true) (hVE : PySem.W.subIn K (.ref C) (.type "ValueError") = some true)
    (hno : PySem.W.findIn K (.ref C) "value" = some none) (hroom : A.depth < recursionLimit) (hb : BindsTo s fd args [("self", .ref a), ("value", u)]) (ha : s.heap.get? a = some (HandSPX.excO C t0)) (hna : base.get? a = none)
    (hq : ∀ s' dx t1, s'.os = s.os → s'.gens = s.gens → (∀ b o, b ≠ a → s.heap.get? b = some o → s'.heap.get? b = some o) → s.heap.objs.size ≤ dx → dx ≠ a →
      s'.heap.get? a = some ({ cls := .ref C, dict := some dx, data := .fields #[.ref t1, .none, .none, .none, .bool false, .none] } : Obj) → s'.heap.Ns1 dx (fun y => if y = "value" then some u else none) → R (.ok (.ret .none)) s') :
    codeAny (model P w) A (.call (.ref fI) args) R s := by
  obtain ⟨oc, od, osl, hf⟩ := W.fn
  obtain ⟨n, qual, dV, kV, doc, pm, an, cda, ct, cc, rfl, hcd, ⟨ccl, cdd, vs, ccs, file, tf, hcode, hvs, hfile⟩, cl, cld, csl, hcell⟩ := W.fdE
  obtain ⟨cdD, hD⟩ := W.clD
  obtain ⟨nm, q, N, bs, bm, sn, sub, ab, col, dd, k0, k1, k2, k3, k5, hC, hbm⟩ := T.cls
  have hcl : PySem.W.clsIn K C = some { name := nm, bases := bs, mro := .ref C :: bm, ns := N, qualname := q, hasDict := true, slotNames := sn, subclasses := sub, abstract := ab, collection := col, hasDel := false } := by unfold PySem.W.clsIn; rw [hC] <;> rfl
  have X : K.In s.heap := M.kin.keeps hbs
  obtain ⟨mb, hmb, hboot⟩ := M.blt
  refine ks_codeAny_call_defAt hroom (X _ _ hf) rfl (M.nolimit.keeps hbs) (PySem.W.codeRec_of X hcd) rfl hb (show ∀ x ∈ iScope.names, x.2 ≠ .cell by decide) ?_ ?_ rfl rfl rfl
  · intro x hx
    rcases List.mem_cons.mp hx with rfl | hx
    · rfl
    · rcases List.mem_cons.mp hx with rfl | hx
      · rfl
      · cases hx
  intro h₀ hns k0'
  have kg : h₀.Ns mainGlobals mg := (M.glob.keeps hbs).keeps k0'
  have kb : h₀.Ns builtinsNs mb := (hmb.keeps hbs).keeps k0'
  have X0 : K.In h₀ := X.keeps k0'
  have ha0 := k0' _ _ ha
  have hLa : s.heap.objs.size ≠ a := fun z => Nat.lt_irrefl _ (z ▸ Heap.lt_size ha)
  obtain ⟨oD, hD1, hD2⟩ : ∃ oD, h₀.get? D = some oD ∧ oD.data = .cls cdD := by
    unfold PySem.W.clsIn at hD
    split at hD
    · rename_i c d cd' sl ho
      cases hD
      exact ⟨_, X0 _ _ ho, rfl⟩
    · cases hD
  refine ks_wpAt_execs_cons (ks_wpAt_Expr_any (ks_wpAt_MethodCall ?_ (methodRow n _)))
  refine ks_wpAt_super_base rfl rfl (by decide) rfl (X0 _ _ hf) rfl rfl rfl (X0 _ _ hcode) rfl hvs hfile W.top ?_
  refine PySem.W.ks_loadName_global rfl rfl (loadGlobal_builtin kg W.mS kb ((hboot _ (by decide)).trans (by first | rfl | kernel_rfl | decide +kernel)) ⟨rfl, ?_⟩)
  refine wpAny_loadName_free rfl rfl rfl ⟨_, k0' _ _ (hbs _ _ hcell), rfl⟩ ?_
  refine wpAny_loadName_local rfl rfl hns (v := .ref a) (by rfl) ?_
  refine ks_wpAny_isType_cls hD1 hD2 ⟨rfl, ?_⟩
  refine ks_wpAny_call_super hD1 hD2 ha0 rfl (fun c e => by cases e) (PySem.W.looks_mroIn X0 hsub) (fun h1 e1 k1 => ?_)
  have X1 : K.In h1 := X0.keeps k1
  have ha1 := k1 _ _ ha0
  have I1 : PySem.W.InstAt h1 a (HandSPX.excO C t0) C none := ⟨ha1, rfl, rfl, trivial⟩
  have hI : PySem.W.Looks (model P w) h1 (isInstance (.ref a) (.type "ValueError")) true := I1.type.andThen (PySem.W.looks_subIn X1 hVE)
  have hsup' := hsup
  unfold PySem.W.ks_superIn at hsup'
  rw [hcl] at hsup'
  refine PySem.W.kxs_getMethod PySem.W.kxs_ValueError e1 (PySem.W.looks_opaque X1 W.tp) (l₀ := .ref C :: bm) ?_ rfl X1 hsup' hI (PySem.W.ks_ne X1 I1 hcl) (by decide) ?_
  · exact fun A Q E s k q => wpAny_bind ((PySem.W.looks_clsIn X1 hcl) A _ E s k (wpAny_pure q))
  have up : ∀ y o, h1.get? y = some o → (h1.push (PySem.W.kxs_mw "ValueError.__init__" a)).get? y = some o := fun y o e => Heap.get?_push_of_some _ e
  have hns2 : (h1.push (PySem.W.kxs_mw "ValueError.__init__" a)).Ns s.heap.objs.size _ := (hns.keeps k1).keeps up
  have hu : (h1.push (PySem.W.kxs_mw "ValueError.__init__" a)).get? h1.objs.size = some (PySem.W.kxs_mw "ValueError.__init__" a) := Heap.get?_push_at rfl rfl
  refine PySem.W.kxs_callWith (i := "ValueError.__init__") (x := a) rfl (evalArgs_plain (spliced_cons (wpAny_Name (wpAny_loadName_local rfl rfl hns2 (v := u) (by rfl) (spliced_nil ⟨hu, ?_⟩)))))
  refine call_bwV (up _ _ (k1 _ _ (k0' _ _ (X _ _ hC)))) (up _ _ ha1) hu (show 1 ≤ sizeLine by rw [sizeLine_eq]; decide) fun h3 t1 k3 e3 => ?_
  have k02 : ∀ b o, b ≠ a → s.heap.get? b = some o → h3.get? b = some o := fun b o hb z => k3 b o hb (up _ _ (k1 _ _ (k0' _ _ z)))
  have hns3 : h3.Ns s.heap.objs.size _ := hns2.at (fun o y => k3 _ o hLa y)
  have X3 : K.In h3 := M.kin.keeps fun b o z => k02 b o (fun e => by rw [e, hna] at z; cases z) (hbs b o z)
  refine ks_wpAt_execs_cons (ks_wpAt_Assign_Attr (wpAt_of_wpAny (wpAny_Name (wpAny_loadName_local rfl rfl hns3 (v := u) (by rfl) (wpAny_Name (wpAny_loadName_local rfl rfl hns3 (v := .ref a) (by rfl) ?_))))))
  refine PySem.W.set_plain X3 (ox := HandSPX.excO C t1) (od := none) ⟨e3, rfl, rfl, trivial⟩ T.sa ?_
  refine PySem.HandSPX.exc_osa X3 e3 hcl (show PySem.HandSPX.refsVE (.ref C :: bm) = true from hbm) rfl hno (fun h4 tk4 dx k4 kd ne hx hn => ?_)
  obtain ⟨oL, _, _, hL, _⟩ := hns3
  exact wpAt_of_wpAny (wpAny_execs_nil (hq _ dx t1 rfl rfl (fun b o hb z => k4 b o hb (k02 b o hb z)) (Nat.le_trans (Nat.le_of_lt (Heap.lt_size hL)) kd) ne hx hn))
end
end Y
namespace Y
open PySem PySem.Spec PyProof.Rows PySem.Calls L2
/-- what the written part says of a class C that is made so; D: the class of the __init__ -/
structure InitC (K : PySem.W.Frag) (D C : Addr) : Prop where
  sup : PySem.W.ks_superIn K C D "__init__" = some (some (.builtin "ValueError.__init__"))
  sub : PySem.W.mroIn K C (.ref D) = some true
  ve : PySem.W.subIn K (.ref C) (.type "ValueError") = some true
  no : PySem.W.findIn K (.ref C) "value" = some none
/-- what it does -/
def spI (K : PySem.W.Frag) (D : Addr) : Sp := fun vs H Q _ => ∃ (a C : Addr) (v : V), vs = [.ref a, v] ∧ OexC K C ∧ InitC K D C ∧ H a = some (exo a C none) ∧ ∀ dx, H dx = none → dx ≠ a → Q .non (upd (upd H dx (exd dx [("value", v)])) a (exo a C (some dx)))
theorem init_fn {P : Program} {w : World} {K : PySem.W.Frag} {mg : Str → Option Value} {base : Heap} {fI D : Addr} {fd : FuncData} {CX : CXT} (W : InitW P K mg base fI D fd) : FnOk P w K mg base CX 1 fI fd ["self", "value"] (spI K D) := by
  refine ⟨fun vs H Q E ⟨a, C, v, e, _⟩ => by rw [e]; rfl, fun A outer s H args us vs Q E hr e0 hb r hsp => ?_⟩
  obtain ⟨a, C, y, rfl, T, IC, e, q⟩ := hsp
  cases r with
  | @cons _ u0 _ ur ra rr =>
  cases rr with
  | @cons _ u _ ur2 ry rr2 =>
  cases rr2
  obtain rfl : u0 = Value.ref a := ra
  obtain ⟨t1, ho⟩ := exo_at e0.hok e
  have hna : base.get? a = none := by
    cases z : base.get? a with
    | none => rfl
    | some o =>
      have := (e0.bs a o z).2
      rw [e] at this
      cases this
  refine init_run e0.mod (fun b o z => (e0.bs b o z).1) W T IC.sup IC.sub IC.ve IC.no hr.depth hb ho hna fun s' dx t2 os gens k dn dne hx hn => ?_
  have hnd : H dx = none := e0.hok.fresh dn
  have nd : ∀ {b : Addr} {o : Obj}, s.heap.get? b = some o → b ≠ dx := fun {b o} q => Nat.ne_of_lt (Nat.lt_of_lt_of_le (Heap.lt_size q) dn)
  have na : ∀ {b : Addr}, H b = none → b ≠ a := fun {b} n z => by
    rw [z, e] at n
    cases n
  have Un1 : Un (frs outer) [] H (upd (upd H dx (exd dx [("value", y)])) a (exo a C (some dx))) s.heap s'.heap := {
    keep := fun b o q n _ _ => k b o (na n) q
    slot := fun b o q n _ _ => ⟨o.slots, k b o (na n) q⟩
    free := fun b o q n _ => by rw [upd_ne (na n), upd_ne (nd q)]; exact n
    there := fun b o q _ => by
      by_cases hb : b = a
      · exact ⟨_, by rw [hb]; exact hx⟩
      · exact ⟨o, k b o hb q⟩
    tups := fun b xs q => by rw [upd_ne (at_ne e q exo_tup), upd_ne (ne_of_none q hnd)]; exact q
    frzs := fun b o v q => by rw [upd_ne (at_ne e q exo_frz), upd_ne (ne_of_none q hnd)]; exact q
    tbls := fun b ps q => ⟨#[], by rw [upd_ne (at_ne e q exo_tbl), upd_ne (ne_of_none q hnd), q]; simp⟩ }
  refine ⟨.non, _, os, by rw [gens]; exact e0.bare, Un1, fun b o q => ?_, rfl, q dx hnd dne⟩
  by_cases hb : b = a
  · subst hb
    rw [upd_same] at q
    cases q
    exact exo_ok hx
  · rw [upd_ne hb] at q
    by_cases hd : b = dx
    · subst hd
      rw [upd_same] at q
      cases q
      exact exd_ok hn (relO_put (fs := []) ry fun g => True.intro)
    · rw [upd_ne hd] at q
      exact (e0.hok b o q).stay (fun c v hc z => k c v (by
          rcases hc with hc | hc
          · rw [hc]
            exact hb
          · exact at_ne e hc exo_own) z)
        (fun c hc => by rw [upd_ne (at_ne e hc exo_own), upd_ne (ne_of_none hc hnd)]; exact hc) (fun c xs hc => by rw [upd_ne (at_ne e hc exo_tup), upd_ne (ne_of_none hc hnd)]; exact hc)
end Y
/-! Y142: raise C(e), C an own class with such an __init__ -/
namespace Y
open PySem PySem.Spec PyProof.Rows L2
section
variable {X : Cx} {c : Cc} {W : WX} {F : Fs} {x : IE} {arg : Expr} {n : Str} {p pos pos' : Pos} {fI C D : Addr} {fd : FuncData} {k : Nat} {ex : Nat}
/-- what the written part says of a class that is raised -/
structure RaiseC (X : Cx) (k : Nat) (n : Str) (C : Addr) : Prop where
  ex : ∃ fI D fd, FnOk X.prog X.w X.K X.mg X.base (fun _ _ _ _ _ _ => False) k fI fd ["self", "value"] (spI X.K D) ∧ InitC X.K D C ∧ PySem.W.findIn X.K (.ref C) "__init__" = some (some (.ref fI)) ∧ PySem.W.typeIn X.K (.ref fI) = some (.type "function") ∧ Binds X.K fd ["self", "value"] []
  T : OexC X.K C
  mg : X.mg n = some (.ref C)
theorem s_raise (RC : RaiseC X k n C) (hc : X.calm = true) (tk : Takes X W) (hr : Room (k + 1) X.A) (hg : Gl X n) (hcls : c.cls ex = C) (ha : PE X arg (E c W F x)) (hs : starEach [arg] X.env = [(false, eval arg X.env)])
    (hdb : (n == ("__debug__" : Str)) = false) : PS X (.Raise (some (.Call (.Name n p) [arg] [] pos)) none pos') (S c W F (.raise ex x)) := by
  obtain ⟨fI, D, fd, FI, IC, iC, tI, hb⟩ := RC.ex
  have hx : Passes (fun _ _ _ _ _ _ => False) X (fun _ _ _ => False) := fun _ _ _ _ _ _ _ h => False.elim h
  refine PS.imp (ps_raise hc tk (pmk_oex RC.T iC tI FI hr hb .nil hx hg RC.mg (pa1 ha hs) hdb hs (by rfl))) fun Dd σ H ⟨hid, env, st, ρ, M, En, h⟩ => ?_
  simp only [exS] at h
  refine ⟨hid, env, st, ρ, M, En, (PostS.val En h).imp fun v H1 ⟨d, st1, ρ1, _, N, q, h1⟩ => ?_⟩
  refine ⟨by simp, fun a hn => ⟨a, C, v, rfl, RC.T, IC, upd_same, fun dx hdx hne => ⟨rfl, dx, [("value", v)], upd_same, ?_, ?_, ?_⟩⟩⟩
  · rw [upd_ne hne, upd_same]
  · rw [upd_ne hne] at hdx
    exact hdx
  · have hdx1 : H1 dx = none := by
      rw [upd_ne hne] at hdx
      exact hdx
    have e : upd (del (upd (upd (upd H1 a (exo a C none)) dx (exd dx [("value", v)])) a (exo a C (some dx))) a) dx (.xd [("value", v)]) = upd H1 dx (.xd [("value", v)]) := by
      funext b
      by_cases hbd : b = dx
      · subst hbd
        rw [upd_same, upd_same]
      · rw [upd_ne hbd, upd_ne hbd]
        by_cases hba : b = a
        · subst hba
          rw [del_same, hn]
        · rw [del_ne hba, upd_ne hba, upd_ne hbd, upd_ne hba]
    rw [e, ← hcls]
    have N2 : Nx c hid ρ1 H1 ρ1 st1 (upd H1 dx (.xd [("value", v)])) := Nx.new N.mt hdx1
    exact h1 σ v _ ρ1 dx N2 ((En.mono N.gr).mono N2.gr) upd_same (Rel.mono N2.gr _ _ q)
end
end Y
/-! Y143: several except clauses with a name; the caught exception stays known behind the try -/
namespace Y
open PySem PySem.Spec PyProof.Rows L2
/-- the ends of a suite: the name goes, the exception is known from then on -/
def endsA (i : Nat) (a : Addr) (cls : Value) (d : Option Addr) (D : Ends) : Ends where
  nx := fun τ G => G a = none → D.nx (τ.set i none) (upd G a (exh a cls d))
  rt := D.rt
  bk := fun τ G => G a = none → D.bk (τ.set i none) (upd G a (exh a cls d))
  ct := fun τ G => G a = none → D.ct (τ.set i none) (upd G a (exh a cls d))
abbrev Sut : Type := Addr → Value → Option Addr → TS
/-- what clauses 'except C as n' wish, one after the other; slot i is n's -/
def wAsM (K : PySem.W.Frag) (i : Nat) (Wo : WX) (D : Ends) : List (Value × Sut) → WX
  | [] => Wo
  | q :: r => fun cls d τ G => ∃ b, PySem.W.exmOne K cls q.1 = some b ∧ (b = true → ∀ a, G a = none → q.2 a cls d (endsA i a cls d D) (τ.set i (some (.ref a))) G) ∧
      (b = false → wAsM K i Wo D r cls d τ G)
/-- a suite that is read so in every context of a caught exception -/
def SutOk (X : Cx) (b₀ : Stmt) (bs : List Stmt) (ts : Sut) : Prop :=
  ∀ (a : Addr) (oe : Obj) (cls : Value) (d : Option Addr) (pn : List (Addr × Obj)), Zc cls d oe → (∃ vs, oe.data = .fields vs) → PSs (X.suite a ((a, oe) :: pn)) (b₀ :: bs) (ts a cls d)
inductive HdsA (X : Cx) (n : Str) : List ExceptHandler → List (Value × Sut) → Prop
  | nil : HdsA X n [] []
  | cons {x : Str} {C : Value} {ts : Sut} {b₀ : Stmt} {bs : List Stmt} {np hp : Pos} {hds : List ExceptHandler} {l : List (Value × Sut)} (hc : Names X x C) (hsu : SutOk X b₀ bs ts) (r : HdsA X n hds l) :
      HdsA X n (.ExceptHandler (some (.Name x np)) (some n) (b₀ :: bs) hp :: hds) ((C, ts) :: l)
section
variable {X : Cx} {pins : List (Addr × Obj)} {σ : L2.St} {H : Hp} {s : Shared}
/-- a pinned object is tracked from now on -/
theorem Inv.adopt {a : Addr} {oe : Obj} {o : HO} (I : Inv X ((a, oe) :: pins) σ H s) (h0 : X.s_0.heap.get? a = none) (hp : ∀ p ∈ X.pn ++ pins, p.1 ≠ a) (new : ObjOk X.prog X.w (upd H a o) s.heap a o) : Inv X pins σ (upd H a o) s := by
  obtain ⟨ha, na, nL, nF, nc⟩ := I.pin (a, oe) (List.mem_append_right _ (List.mem_cons_self ..))
  have ne0 : ∀ {b : Addr} {u : Obj}, X.s_0.heap.get? b = some u → b ≠ a := fun {b u} e z => by rw [z, h0] at e; cases e
  have ne1 : ∀ {b : Addr} {u : HO}, H b = some u → b ≠ a := fun {b u} e z => by rw [z, na] at e; cases e
  refine ⟨I.ok, I.os, I.bare, ⟨I.base.keep, I.base.slot, fun b u e n hx => ?_, I.base.there, fun b xs e => ?_, fun b u v e => ?_, fun b ps e => ?_⟩, I.loc, I.cell, ?_, fun x c e => ?_, fun p hm => ?_, fun b u e => ?_, I.len⟩
  · rw [upd_ne (ne0 e)]; exact I.base.free b u e n hx
  · have q := I.base.tups b xs e
    rw [upd_ne (ne1 q)]; exact q
  · have q := I.base.frzs b u v e
    rw [upd_ne (ne1 q)]; exact q
  · obtain ⟨more, q⟩ := I.base.tbls b ps e
    exact ⟨more, by rw [upd_ne (ne1 q)]; exact q⟩
  · rw [upd_ne (Ne.symm nL)]; exact I.free
  · have nca : c ≠ a := fun z => by
      obtain ⟨v, u, e1, e2⟩ := I.cell x c e
      rw [z] at e1
      have e3 : s.heap.get? a = some oe := ha
      rw [e3] at e1
      cases e1
      exact nc v e2
    rw [upd_ne nca]; exact I.freeC x c e
  · obtain ⟨p1, p2, p3⟩ := I.pin p ((List.mem_append.mp hm).elim (fun z => List.mem_append_left _ z) fun z => List.mem_append_right _ (List.mem_cons_of_mem _ z))
    exact ⟨p1, by rw [upd_ne (hp p hm)]; exact p2, p3⟩
  · by_cases hb : b = a
    · subst hb
      rw [upd_same] at e
      cases e
      exact new
    · rw [upd_ne hb] at e
      exact (I.hok b u e).stay (fun _ _ _ z => z) (fun c z => by rw [upd_ne (ne1 z)]; exact z) fun c xs z => by rw [upd_ne (ne1 z)]; exact z
theorem Inv.keepPin {a : Addr} {oe : Obj} (I : Inv (X.suite a ((a, oe) :: (X.pn ++ pins))) [] σ H s) (ok : X.Ok) : Inv X ((a, oe) :: pins) σ H s := by
  refine ⟨ok, I.os, I.bare, I.base, I.loc, I.cell, I.free, I.freeC, fun p hm => I.pin p ?_, I.hok, I.len⟩
  rw [List.append_nil]
  rcases List.mem_append.mp hm with z | z
  · exact List.mem_cons_of_mem _ (List.mem_append_left _ z)
  · rcases List.mem_cons.mp z with z | z
    · rw [z]; exact List.mem_cons_self ..
    · exact List.mem_cons_of_mem _ (List.mem_append_right _ z)
theorem exh_ok {a : Addr} {oe : Obj} {cls : Value} {d : Option Addr} {P : Program} {w : World} {h : Heap} (e : h.get? a = some oe) (z : Zc cls d oe) (f : ∃ vs, oe.data = .fields vs) : ObjOk P w H h a (exh a cls d) :=
  ⟨⟨oe, e, z.1, z.2, f⟩, ⟨oe, e⟩, fun _ _ ⟨o, e1, e2⟩ k => ⟨o, k o e1, e2⟩⟩
end
/-- what is caught here is none of the objects that were there -/
structure Caught (X : Cx) (pins : List (Addr × Obj)) (B : Heap) (a : Addr) (cls : Value) (d : Option Addr) (τ : L2.St) (G : Hp) : Prop where
  fl : ∃ h, HandSPX.FlyingZ B (X.env :: X.outer) a (Zc cls d) h
  na : G a = none
  h0 : X.s_0.heap.get? a = none
  ap : ∀ p ∈ X.pn ++ pins, p.1 ≠ a
  nL : a ≠ X.env.locals
  nF : a ∉ X.fs
section
variable {X : Cx} {pins : List (Addr × Obj)} {D : Ends} {i : Nat} {n : Str}
theorem caught_name (hN : X.N.Nodup) (hi : X.N[i]? = some n) (hl : X.env.kindOf n = some .local) (ok : X.Ok) {a : Addr} {oe : Obj} {cls : Value} {d : Option Addr} (h0 : X.s_0.heap.get? a = none) (ap : ∀ p ∈ X.pn ++ pins, p.1 ≠ a)
    (z : Zc cls d oe) (f : ∃ vs, oe.data = .fields vs) {τ : L2.St} {G : Hp} {s : Shared} {hp : Pos} {Q : Shared → Prop} (I : Inv (X.suite a ((a, oe) :: (X.pn ++ pins))) [] τ G s)
    (q : ∀ s7, Inv X pins (τ.set i none) (upd G a (exh a cls d)) s7 → Q s7) : wpAny (model X.prog X.w) X.A (do bindName X.env n .none; unbindBehindTheSuite X.env n hp) (fun _ s7 => Q s7) X.xe s := by
  refine gone_ok (Inv.keepPin I ok) hN hi hl fun s7 J => q s7 ?_
  obtain ⟨ha, _⟩ := J.pin (a, oe) (List.mem_append_right _ (List.mem_cons_self ..))
  exact Inv.adopt J h0 ap (exh_ok ha z f)
theorem caught_name' (hN : X.N.Nodup) (hi : X.N[i]? = some n) (hl : X.env.kindOf n = some .local) (ok : X.Ok) {a : Addr} {oe : Obj} {τ : L2.St} {G : Hp} {s : Shared} {hp : Pos} {Q : Shared → Prop} (I : Inv (X.suite a ((a, oe) :: (X.pn ++ pins))) [] τ G s)
    (q : ∀ s7, Inv X pins (τ.set i none) G s7 → Q s7) : wpAny (model X.prog X.w) X.A (do bindName X.env n .none; unbindBehindTheSuite X.env n hp) (fun _ s7 => Q s7) X.xe s := gone_ok (I.unsuite ok) hN hi hl q
/-- the clauses, one after the other, over an exception that flies -/
theorem hds_run {Wo : WX} (hN : X.N.Nodup) (hi : X.N[i]? = some n) (hl : X.env.kindOf n = some .local) (ok : X.Ok) (hst : X.stack = X.env :: X.outer) (hf : X.env.frame = some X.env.locals) (tk : Takes X Wo)
    {a : Addr} {B : Heap} {cls : Value} {d : Option Addr} {τ : L2.St} {G : Hp} {sI s' : Shared} {h3 : Heap} (C : Caught X pins B a cls d τ G) (J : Inv X pins τ G sI) (J3 : Inv X pins τ G { s' with heap := h3 })
    (nb : ∀ b o, sI.heap.get? b = some o → b ∉ frs X.stack → B.get? b = some o) (up : sI.heap.UpToSlots h3) (fl : HandSPX.FlyingZ B (X.env :: X.outer) a (Zc cls d) h3) (os : s'.os = sI.os) (ag : AllBare s'.gens) {hds : List ExceptHandler} {l : List (Value × Sut)} (hh : HdsA X n hds l) :
    wAsM X.K i Wo D l cls d τ G → wpAny (model X.prog X.w) X.A (handleBy (.ref a) X.env hds) (SP X pins D) X.xe { s' with heap := h3 } := by
  obtain ⟨o3, v3, he3, hz3, hd3⟩ := fl.there
  induction hh with
  | nil =>
    intro w
    obtain ⟨k1, k2, k3, o, vs, T, oT, tv, he, hz, hd, h1, hr⟩ := id fl
    have last : wpAny (model X.prog X.w) X.A (setFlight (.ref a) X.env.frame) (fun _ s4 => wpAny (model X.prog X.w) X.A (throw (.ref a) : Sem Flow) (SP X pins D) X.xe s4) X.xe { s' with heap := h3 } := by
      rw [hf]
      exact HandSPX.setFlight_upZ fl fun h4 f4 u4 => wpAny_throw (tk _ _ ⟨a, B, sI, pins, τ, G, cls, d, rfl, J, nb, up.trans u4, .inr (.inr (by rw [hst]; exact f4)), C.na, os, ag, w⟩)
    refine wpAny_handleBy_nil ?_
    unfold PySem.passOn
    refine wpAny_bind (wpAny_field he hd h1 ?_)
    rw [if_neg (show ¬ ((Value.ref T == Value.none) = true) by simp)]
    first
      | exact wpAny_bind last
      | exact wpAny_bind (wpAny_pure (wpAny_bind last))
  | @cons x c ts b₀ bs np hp hds2 l2 hc hsu r ih =>
    intro w
    obtain ⟨b, hb, hyes, hno⟩ := w
    have seen : PySem.W.Looks (model X.prog X.w) h3 (typeOf (.ref a)) cls := fun _ _ _ _ k q => wpAny_typeOf_ref (k _ _ he3) (by rw [hz3.1]; exact q)
    have fits := PySem.W.exm_one (M := model X.prog X.w) J3.kIn seen hb
    have S3 := J3.suite he3 hd3 C.na C.nL C.nF
    have name : ∀ {Q E : Value → Shared → Prop}, Q c { s' with heap := h3 } → wpAny (model X.prog X.w) (X.A.mark (some (.ref a))) (eval (.Name x np) X.env) Q E { s' with heap := h3 } := by
      intro Q E q
      rcases hc with ⟨g, nd, m | ⟨m, bt, nn⟩⟩
      · exact ld_glob (X := X.suite a ((a, o3) :: (X.pn ++ pins))) S3 g m q nd
      · exact ld_blt (X := X.suite a ((a, o3) :: (X.pn ++ pins))) S3 g m bt q nn nd
    refine wpAny_handleBy_cons (codeAny_handlers_test (name (fits.here ?_))) (fun z => nomatch z)
    cases b with
    | false => exact ih (hno rfl)
    | true =>
      refine codeAny_handlers_suite_as (HandSPX.lands_againZ fl fun h4 f4 u4 => ?_)
      have J4 : Inv X pins τ G { s' with heap := h4 } := J.landed nb f4.1 (up.trans u4) os ag
      obtain ⟨o4, v4, he4, hz4, hd4⟩ := f4.there
      have S4 := J4.suite he4 hd4 C.na C.nL C.nF
      refine store_ok (X := X.suite a ((a, o4) :: (X.pn ++ pins))) (v := .ref a) S4 hN hi (.inl hl) rfl (fun s5 S5 => ?_) (.inr hl)
      refine wpAny_mono ((hsu a o4 cls d (X.pn ++ pins) hz4 ⟨_, hd4⟩).run [] s5 _ G _ S5 (hyes rfl a C.na)) (fun f s6 p => ?_) (fun _ _ z => False.elim z)
      have pin6 : ∀ {τ6 : L2.St} {G6 : Hp}, Inv (X.suite a ((a, o4) :: (X.pn ++ pins))) [] τ6 G6 s6 → G6 a = none := fun S => (S.pin (a, o4) (by simp)).2.1
      cases f with
      | next =>
        obtain ⟨τ6, G6, S6, q6⟩ := p
        exact caught_name hN hi hl ok C.h0 C.ap hz4 ⟨_, hd4⟩ S6 fun s7 J7 => ⟨_, _, J7, q6 (pin6 S6)⟩
      | brk =>
        obtain ⟨τ6, G6, S6, q6⟩ := p
        exact caught_name hN hi hl ok C.h0 C.ap hz4 ⟨_, hd4⟩ S6 fun s7 J7 => ⟨_, _, J7, q6 (pin6 S6)⟩
      | cont =>
        obtain ⟨τ6, G6, S6, q6⟩ := p
        exact caught_name hN hi hl ok C.h0 C.ap hz4 ⟨_, hd4⟩ S6 fun s7 J7 => ⟨_, _, J7, q6 (pin6 S6)⟩
      | ret u =>
        obtain ⟨v6, τ6, G6, S6, r6, q6⟩ := p
        exact caught_name' hN hi hl ok S6 fun s7 J7 => ⟨_, _, _, J7, r6, q6⟩
/-- a try's normal ends -/
theorem try_back {xe : Value → Shared → Prop} {f : Flow} {s1 : Shared} (ok : X.Ok) (h : SP (X.tr (X.pn ++ pins) xe) [] D f s1) : SP X pins D f s1 := by
  cases f with
  | next => obtain ⟨τ, G, J, q⟩ := h; exact ⟨τ, G, J.ofTry ok, q⟩
  | brk => obtain ⟨τ, G, J, q⟩ := h; exact ⟨τ, G, J.ofTry ok, q⟩
  | cont => obtain ⟨τ, G, J, q⟩ := h; exact ⟨τ, G, J.ofTry ok, q⟩
  | ret u => obtain ⟨v, τ, G, J, r, q⟩ := h; exact ⟨v, τ, G, J.ofTry ok, r, q⟩
theorem ps_try_asM {body : List Stmt} {h₀ : ExceptHandler} {hds : List ExceptHandler} {l : List (Value × Sut)} {pos : Pos} {tb : WX → TS} {Wo : WX} (hN : X.N.Nodup) (hi : X.N[i]? = some n) (hl : X.env.kindOf n = some .local) (hst : X.stack = X.env :: X.outer) (hf : X.env.frame = some X.env.locals) (hex : X.ex = []) (tk : Takes X Wo)
    (hb : ∀ (W : WX) (pn : List (Addr × Obj)) (xe : Value → Shared → Prop), Takes (X.tr pn xe) W → PassesOwn (model X.prog X.w) X.A X.env xe → PSs (X.tr pn xe) body (tb W)) (hh : HdsA X n (h₀ :: hds) l) :
    PS X (.Try body (h₀ :: hds) [] [] pos) (fun D σ H => tb (wAsM X.K i Wo D l) D σ H) := by
  refine ⟨fun pins s σ H D I h => ?_⟩
  have ok := I.ok
  have hfr : X.A.frames = some (X.env :: X.outer) := by rw [ok.frames, hst]
  let xe : Value → Shared → Prop := fun e s₁ => wpAny (model X.prog X.w) X.A (noteFrame e X.env) (fun _ s₂ => wpAny (model X.prog X.w) X.A (setFlight e none) (fun _ s₃ => wpAny (model X.prog X.w) X.A (handleBy e X.env (h₀ :: hds)) (SP X pins D) X.xe s₃) X.xe s₂) X.xe s₁
  have T : Takes (X.tr (X.pn ++ pins) xe) (wAsM X.K i Wo D l) := by
    intro u s' xx
    obtain ⟨a, B, sI, pins', τ, G, cls, d, rfl, J', nb, up, sky, na, os, ag, w⟩ := xx
    have J : Inv X pins τ G sI := J'.ofTry ok
    have sky' : Sky B (X.env :: X.outer) a (Zc cls d) X.env.locals s'.heap := by rw [← hst]; exact sky
    show wpAny (model X.prog X.w) X.A (noteFrame (.ref a) X.env) _ _ _
    refine Sky.land Zc.steady hfr hf sky' fun h3 f3 u3 => ?_
    obtain ⟨o3, v3, e3, z3, d3⟩ := f3.there
    have out : a ∉ frs (X.env :: X.outer) := fun hm => by
      obtain ⟨_, o', e', no⟩ := f3.2.2.1.mem hm
      rw [e3] at e'
      cases e'
      exact no _ d3
    have fresh : ∀ b u, sI.heap.get? b = some u → b ≠ a := fun b u e z => by
      subst z
      have q := nb b u e (by show b ∉ frs X.stack; rw [hst]; exact out)
      rw [f3.2.1] at q
      cases q
    have h0 : X.s_0.heap.get? a = none := by
      cases e : X.s_0.heap.get? a with
      | none => rfl
      | some u =>
        obtain ⟨u', e'⟩ := J.base.there a u e (by rw [hex]; simp)
        exact absurd rfl (fresh a u' e')
    refine hds_run hN hi hl ok hst hf tk ⟨⟨h3, f3⟩, na, h0, fun p hp => fresh p.1 p.2 (J.pin p hp).1, fun z => out ?_, fun z => out ?_⟩ J (J.landed nb f3.1 (up.trans u3) os ag) nb (up.trans u3) f3 os ag hh w
    · exact List.mem_filterMap.mpr ⟨X.env, List.mem_cons_self, by rw [hf, z]⟩
    · obtain ⟨e, he, q⟩ := List.mem_filterMap.mp z
      exact List.mem_filterMap.mpr ⟨e, List.mem_cons_of_mem _ he, q⟩
  refine wpAny_Try_except (wpAny_mono ((hb _ _ xe T PassesOwn.looking).run [] s σ H D (I.toTry xe) h) (fun f s1 p => ?_) fun e s1 he => he)
  have r := try_back ok p
  cases f with
  | next => exact wpAny_execs_nil r
  | brk => exact r
  | cont => exact r
  | ret u => exact r
end
end Y
/-! Y144: try: .. except C as error: found = ('tag', error.value) / error.value / error; x.value of a kept error -/
namespace Y
open PySem PySem.Spec PyProof.Rows L2
/-- the readings of such suites -/
def hkT (i j : Nat) (C : Addr) : Hk → Sut
  | .tag t => fun a cls d => tAsg (tTup fun σ H R => tC (.str t) σ H fun v H1 => tXf a cls d C "value" (tVar i) σ H1 fun w H2 => R [v, w] H2) (gName j)
  | .val => fun a cls d => tAsg (tXf a cls d C "value" (tVar i)) (gName j)
  | .err => fun _ _ _ => tAsg (tVar i) (gName j)
/-- .. their texts -/
def hkB (err found : Str) : Hk → Stmt → Bool
  | .tag t, .Assign [.Name f _] (.Tuple [.Constant (.str u) _ _, .Attribute (.Name e _) m _] _ _) _ => decide (f = found) && decide (u = t) && decide (e = err) && decide (m = ("value" : Str))
  | .val, .Assign [.Name f _] (.Attribute (.Name e _) m _) _ => decide (f = found) && decide (e = err) && decide (m = ("value" : Str))
  | .err, .Assign [.Name f _] (.Name e _) _ => decide (f = found) && decide (e = err)
  | _, _ => false
section
variable {X : Cx} {c : Cc} {W : WX} {F : Fs}
theorem EnvR.out {hid : List Addr} {H : Hp} {ρ : List Addr} {env : Env} {σ : L2.St} (E : EnvR c hid H ρ env σ) (i : Nat) (x : Option V) : EnvR c hid H ρ (env.set i none) (σ.set i x) := by
  obtain ⟨hl, h⟩ := E
  refine ⟨by simp [hl], fun k d hk => ?_⟩
  by_cases e : k = i
  · subst e
    by_cases hlt : k < env.length
    · rw [List.getElem?_set_self hlt] at hk; cases hk
    · rw [List.getElem?_eq_none (by simpa using hlt)] at hk; cases hk
  · rw [List.getElem?_set_ne (Ne.symm e)] at hk
    rw [List.getElem?_set_ne (Ne.symm e)]
    exact h k d hk
theorem suite_ok {i j : Nat} {err found : Str} {C : Addr} {q : Hk} {b : Stmt} (T : XfC X.K C) (hno : PySem.W.findIn X.K (.ref C) "value" = some none) (hN : X.N.Nodup) (hi : X.N[i]? = some err) (hj : X.N[j]? = some found)
    (hv : Vis X.env.scope err) (hlj : X.env.scope.names.lookup found = some .local) (hd : (err == ("__debug__" : Str)) = false) (hcd : (err == ("__classdict__" : Str)) = false) (hb : hkB err found q b = true) : SutOk X b [] (hkT i j C q) := by
  intro a oe cls d pn hz hf
  unfold hkB at hb
  split at hb
  · simp only [Bool.and_eq_true, decide_eq_true_eq] at hb
    obtain ⟨⟨⟨rfl, rfl⟩, rfl⟩, rfl⟩ := hb
    exact pss_one (ps_set (X := X.suite a ((a, oe) :: pn)) hN hj (.inl hlj) (pe_tup (pa2 pe_str (pe_xf T hno hz hf (pe_var (X := X.suite a ((a, oe) :: pn)) hi hv hd hcd)) rfl rfl)) rfl (.inr hlj))
  · simp only [Bool.and_eq_true, decide_eq_true_eq] at hb
    obtain ⟨⟨rfl, rfl⟩, rfl⟩ := hb
    exact pss_one (ps_set (X := X.suite a ((a, oe) :: pn)) hN hj (.inl hlj) (pe_xf T hno hz hf (pe_var (X := X.suite a ((a, oe) :: pn)) hi hv hd hcd)) rfl (.inr hlj))
  · simp only [Bool.and_eq_true, decide_eq_true_eq] at hb
    obtain ⟨rfl, rfl⟩ := hb
    exact pss_one (ps_set (X := X.suite a ((a, oe) :: pn)) hN hj (.inl hlj) (pe_var (X := X.suite a ((a, oe) :: pn)) hi hv hd hcd) rfl (.inr hlj))
  · cases hb
/-- what the written part says of a class that is caught -/
structure CatchC (K : PySem.W.Frag) (C : Addr) : Prop where
  xf : XfC K C
  no : PySem.W.findIn K (.ref C) "value" = some none
theorem tag_ok {i j e : Nat} {hs : List (Nat × Hk)} {hid ρ ρ' : List Addr} {H H' : Hp} {env' : Env} {st' : Stt} {σ' : L2.St} {d : D} {v : V} {dd : Addr} {Dd : Ends} (hij : i ≠ j) (hli : i < σ'.length)
    (hm : ∀ q ∈ hs, PySem.W.exmOne X.K (.ref (c.cls e)) (.ref (c.cls q.1)) = some (decide (e = q.1))) (hC : ∀ q ∈ hs, CatchC c.K (c.cls q.1))
    (h : PostS c hid W ρ H (match hs.find? (fun q => decide (e = q.1)) with | some q => .nx ((env'.set i none).set j (some (hkD q.2 e d))) st' | none => .ex e d env' st') Dd)
    (N : Nx c hid ρ H ρ' st' H') (En : EnvR c hid H' ρ' env' σ') (hd : H' dd = some (.xd [("value", v)])) (r : Rel c.K hid H' ρ' d v) :
    wAsM X.K i W Dd (hs.map fun q => (Value.ref (c.cls q.1), hkT i j (c.cls q.1) q.2)) (.ref (c.cls e)) (some dd) σ' H' := by
  induction hs with
  | nil => exact h σ' v H' ρ' dd N En hd r
  | cons q hs ih =>
    refine ⟨_, hm q (List.mem_cons_self ..), fun hb a ha => ?_, fun hb => ?_⟩
    · have e1 : e = q.1 := of_decide_eq_true hb
      simp only [List.find?_cons, hb] at h
      have cc := hC q (List.mem_cons_self ..)
      have back : ∀ x : Option V, ((σ'.set i (some (.ref a))).set j x).set i none = (σ'.set i none).set j x := fun x => by
        rw [List.set_comm _ _ (Ne.symm hij), List.set_set]
      obtain ⟨n, k⟩ := q
      subst e1
      cases k with
      | tag t =>
        refine ⟨.ref a, List.getElem?_set_self hli, rfl, rfl, dd, [("value", v)], v, rfl, hd, rfl, by simp [sizeLine_eq], fun p hp na => ?_⟩
        have N2 : Nx c hid ρ' H' ρ' st' (upd H' p (.tup [.str t, v])) := Nx.new N.mt hp
        have N3 := N2.trans (Nx.new (o := exh a (.ref (c.cls e)) (some dd)) N2.mt na)
        have E3 : EnvR c hid _ ρ' ((env'.set i none).set j (some (.tup [.str t, d]))) ((σ'.set i none).set j (some (.ref p))) :=
          EnvR.set ((En.mono N3.gr).out i none) j ⟨p, _, rfl, by rw [upd_ne (fun z : p = a => by rw [← z, upd_same] at na; cases na)]; exact upd_same, .str t, [v], rfl, rfl, v, [], rfl, Rel.mono N3.gr _ _ r, rfl⟩
        refine h _ _ ρ' (N.trans N3) ?_
        show EnvR c hid _ ρ' _ (((σ'.set i (some (.ref a))).set j (some (.ref p))).set i none)
        rw [back]
        exact E3
      | val =>
        refine ⟨.ref a, List.getElem?_set_self hli, rfl, rfl, dd, [("value", v)], v, rfl, hd, rfl, fun na => ?_⟩
        have N3 := Nx.new (o := exh a (.ref (c.cls e)) (some dd)) N.mt na
        refine h _ _ ρ' (N.trans N3) ?_
        show EnvR c hid _ ρ' _ (((σ'.set i (some (.ref a))).set j (some v)).set i none)
        rw [back]
        exact EnvR.set ((En.mono N3.gr).out i none) j (Rel.mono N3.gr _ _ r)
      | err =>
        refine ⟨.ref a, List.getElem?_set_self hli, fun na => ?_⟩
        have N3 := Nx.new (o := exh a (.ref (c.cls e)) (some dd)) N.mt na
        refine h _ _ ρ' (N.trans N3) ?_
        show EnvR c hid _ ρ' _ (((σ'.set i (some (.ref a))).set j (some (.ref a))).set i none)
        rw [back]
        exact EnvR.set ((En.mono N3.gr).out i none) j ⟨a, c.cls e, dd, v, rfl, upd_same, by rw [upd_ne (fun z : dd = a => by rw [z, na] at hd; cases hd)]; exact hd, cc.xf, cc.no, Rel.mono N3.gr _ _ r⟩
    · simp only [List.find?_cons, hb] at h
      exact ih (fun p hp => hm p (List.mem_cons_of_mem _ hp)) (fun p hp => hC p (List.mem_cons_of_mem _ hp)) h
theorem s_tryv {i j m : Nat} {err : Str} {hs : List (Nat × Hk)} {body : List Stmt} {h₀ : ExceptHandler} {hds : List ExceptHandler} {ib : ISs} {pos : Pos} (hst : X.stack = X.env :: X.outer) (hf : X.env.frame = some X.env.locals) (hex : X.ex = []) (tk : Takes X W)
    (hN : X.N.Nodup) (hi : X.N[i]? = some err) (hln : X.env.kindOf err = some .local) (hij : i ≠ j)
    (hm : ∀ e : Nat, e < m → ∀ q ∈ hs, PySem.W.exmOne X.K (.ref (c.cls e)) (.ref (c.cls q.1)) = some (decide (e = q.1))) (hC : ∀ q ∈ hs, CatchC c.K (c.cls q.1))
    (hb : ∀ (W : WX) (pn : List (Addr × Obj)) (xe : Value → Shared → Prop), Takes (X.tr pn xe) W → PassesOwn (model X.prog X.w) X.A X.env xe → PSs (X.tr pn xe) body (Ss c W F ib))
    (hh : HdsA X err (h₀ :: hds) (hs.map fun q => (Value.ref (c.cls q.1), hkT i j (c.cls q.1) q.2))) :
    PS X (.Try body (h₀ :: hds) [] [] pos) (S c W F (.tryv i j m hs ib)) :=
  PS.imp (ps_try_asM hN hi hln hst hf hex tk hb hh) fun D σ H ⟨hid, env, st, ρ, M, En, h⟩ => by
    refine ⟨hid, env, st, ρ, M, En, ?_⟩
    simp only [exS] at h
    cases hx : exSs F c.b ib env st with
    | nx env' st' => rw [hx] at h; exact h
    | rt d st' => rw [hx] at h; exact h
    | bk env' st' => rw [hx] at h; exact h
    | ct env' st' => rw [hx] at h; exact h
    | no => rw [hx] at h; exact h
    | ex e d env' st' =>
      rw [hx] at h
      simp only [tryV] at h
      intro σ' v H' ρ' dd N En' hd r
      by_cases hl : i < env'.length ∧ e < m
      · rw [if_pos hl] at h
        exact tag_ok hij (by rw [← En'.1]; exact hl.1) (hm e hl.2) hC h N En' hd r
      · rw [if_neg hl] at h
        exact False.elim h
/-- x.value of a kept error -/
def tXh (K : PySem.W.Frag) (te : TE) : TE := fun σ H Q => te σ H fun x H1 => ∃ a C dd v, x = .ref a ∧ H1 a = some (exh a (.ref C) (some dd)) ∧ H1 dd = some (.xd [("value", v)]) ∧ XfC K C ∧ PySem.W.findIn K (.ref C) "value" = some none ∧ Q v H1
theorem pe_xh {e : Expr} {te : TE} {pos : Pos} (he : PE X e te) (hb : attributeBase e "value" X.env (eval e X.env) = eval e X.env) : PE X (.Attribute e "value" pos) (tXh X.K te) := by
  refine ⟨fun pins s σ H Q I h => attr_of hb (thn (he.run pins s σ H _ I h) fun u s1 ⟨x, H1, I1, rx, a, C, dd, v, ex, ha, hdd, T, hno, q⟩ => ?_)⟩
  subst ex
  obtain rfl : u = Value.ref a := rx
  obtain ⟨⟨oe, e1, e2, e3, vs, e4⟩, _⟩ := I1.hok a _ ha
  obtain ⟨mA, hns, hr⟩ := I1.hok dd _ hdd
  obtain ⟨od, ho, hl⟩ := lookIn_ns hns
  obtain ⟨u, hu, ru⟩ := RelO.some_of (v := v) (o := mA "value") (hr "value")
  have J : PySem.W.InstAt s1.heap a oe C (some od) := ⟨e1, e2, by unfold PySem.W.notCls; rw [e4] <;> rfl, by rw [e3]; exact ho⟩
  exact HandSPX.exc_get I1.kIn J T.ga T.gg T.exC (PySem.W.findObj_own T.hdC hno rfl (by rw [hl, hu])) (handed_of ru) ⟨v, H1, I1.tok _, ru, q⟩
theorem r_fld {a : Expr} {x : IE} {pos : Pos} (hK : c.K = X.K) (he : PE X a (E c W F x)) (hb : attributeBase a "value" X.env (eval a X.env) = eval a X.env) : PE X (.Attribute a "value" pos) (E c W F (.fld x)) := PE.imp (pe_xh he hb) fun σ H Q ⟨hid, env, st, ρ, M, En, h⟩ => by
  simp only [evE] at h
  refine ⟨hid, env, st, ρ, M, En, (Post.bind h).imp fun v H1 ⟨d, st1, ρ1, N, q, h1⟩ => ?_⟩
  unfold fldD at h1
  split at h1
  · obtain ⟨a, C, dd, w, e, g1, g2, g3, g4, r⟩ := q
    exact ⟨a, C, dd, w, e, g1, g2, hK ▸ g3, hK ▸ g4, h1.ok N.mt r⟩
  · exact h1.elim
end
end Y
/-! Y145: the facts of an own exception class, seen in the written part -/
namespace Y
open PySem PySem.Spec PyProof.Rows L2
def clsB (K : PySem.W.Frag) (C : Addr) : Bool := match K.lookup C with
  | some ⟨.type "type", _, .cls cd, sl⟩ => (match cd.mro, sl.toList with
    | .ref C' :: bm, [_, _, _, _, some (.builtin n), _] => C' == C && n == "ValueError.__new__" && !cd.hasDel && cd.hasDict && PySem.HandSPX.refsVE bm
    | _, _ => false)
  | _ => false
def oexB (K : PySem.W.Frag) (C : Addr) : Bool := clsB K C && (decide (PySem.W.findIn K (.ref C) "__setattr__" = some (some (.builtin "object.__setattr__"))) && (decide (PySem.W.subIn K (.ref C) (.type "BaseException") = some true) &&
  (decide (PySem.W.typeIn K (.ref C) = some (.type "type")) && PySem.W.keepIn K (.ref C))))
theorem oexB_ok {K : PySem.W.Frag} {C : Addr} (h : oexB K C = true) : OexC K C := by
  unfold oexB at h
  simp only [Bool.and_eq_true, decide_eq_true_eq] at h
  obtain ⟨h0, h1, h2, h3, h4⟩ := h
  refine ⟨?_, h1, h2, h3, h4⟩
  unfold clsB at h0
  split at h0
  · rename_i dd cd sl e
    split at h0
    · rename_i C' bm k0 k1 k2 k3 n k5 em es
      simp only [Bool.and_eq_true, beq_iff_eq, Bool.not_eq_true'] at h0
      obtain ⟨⟨⟨⟨rfl, rfl⟩, hd⟩, hh⟩, hm⟩ := h0
      obtain ⟨nm, bs, mro, ns, qn, hdct, sn, sb, ab, col, del⟩ := cd
      dsimp only at em hd hh
      subst em hd hh
      have e2 : sl = #[k0, k1, k2, k3, some (.builtin "ValueError.__new__"), k5] := by rw [← Array.toList_inj, es]
      subst e2
      exact ⟨nm, qn, ns, bs, bm, sn, sb, ab, col, dd, k0, k1, k2, k3, k5, e, hm⟩
    · cases h0
  · cases h0
def initB (K : PySem.W.Frag) (D C : Addr) : Bool := decide (PySem.W.ks_superIn K C D "__init__" = some (some (.builtin "ValueError.__init__"))) && (decide (PySem.W.mroIn K C (.ref D) = some true) && (decide (PySem.W.subIn K (.ref C) (.type "ValueError") = some true) &&
  decide (PySem.W.findIn K (.ref C) "value" = some none)))
theorem initB_ok {K : PySem.W.Frag} {D C : Addr} (h : initB K D C = true) : InitC K D C := by
  unfold initB at h
  simp only [Bool.and_eq_true, decide_eq_true_eq] at h
  exact ⟨h.1, h.2.1, h.2.2.1, h.2.2.2⟩
end Y
/-! Y146: the head observed with LayerError.__init__ and its cell -/
namespace Y
open PySem PySem.Spec PyProof.Rows L2
/-- what is seen of the __init__ of the class x: its text; whether its one cell holds the class -/
abbrev IV : Type := He.FnV × List Str × Bool
def initObs (g : Addr → Option Obj) (K : PySem.W.Frag) (x : Str) : IV := match K.lookup (He.fAd K (x, some "__init__")) with
  | some ⟨_, _, .func fd, _⟩ => (some (fd.name, fd.qualname, fd.params, fd.body, fd.scope, fd.globals, [], fd.defaults, fd.builtins), fd.closure.map (·.1), match fd.closure with
    | [(_, cc)] => (match g cc with
      | some ⟨_, _, .cell (some (.ref D)), _⟩ => decide (D = He.ga K x)
      | _ => false)
    | _ => false)
  | _ => (none, [], false)
def initVal (n : Nat) (q : Str) : IV := (some ("__init__", q, iParams n, .stmts (iBody n), iScope, mainGlobals, [], .none, builtinsNs), ["__class__"], true)
theorem init_of {g : Addr → Option Obj} {K : PySem.W.Frag} {x q : Str} {n : Nat} (h : initObs g K x = initVal n q) :
    ∃ oc od osl kV doc pm an cdv ct cc, K.lookup (He.fAd K (x, some "__init__")) = some ⟨oc, od, .func (iFd n q .none kV doc pm an cdv ct cc), osl⟩ ∧ ∃ cl cld csl, g cc = some ⟨cl, cld, .cell (some (.ref (He.ga K x))), csl⟩ := by
  unfold initObs at h
  split at h
  · rename_i oc od fd osl e
    have e1 := congrArg (fun z : IV => z.1) h
    have e2 := congrArg (fun z : IV => z.2.1) h
    have e3 := congrArg (fun z : IV => z.2.2) h
    obtain ⟨nm, qn, ps, bd, sc, gl, cl, dv, kV, doc, pm, an, cdv, ct, bi⟩ := fd
    simp only [initVal, Option.some.injEq, Prod.mk.injEq, true_and] at e1 e2 e3
    obtain ⟨rfl, rfl, rfl, rfl, rfl, rfl, rfl, rfl⟩ := e1
    match cl, e2, e3 with
    | [(y, cc)], e2, e3 =>
      simp only [List.map_cons, List.map_nil, List.cons.injEq, and_true] at e2
      subst e2
      dsimp only at e3
      split at e3
      · rename_i c1 c2 D c3 ec
        have := of_decide_eq_true e3
        subst this
        exact ⟨oc, od, osl, kV, doc, pm, an, cdv, ct, cc, e, _, _, _, ec⟩
      · cases e3
    | [], e2, _ => cases e2
    | _ :: _ :: _, e2, _ => simp at e2
  · cases h
def InitAt (K : PySem.W.Frag) (x q : Str) (n : Nat) (h : Heap) : Prop :=
  ∃ oc od osl kV doc pm an cdv ct cc, K.lookup (He.fAd K (x, some "__init__")) = some ⟨oc, od, .func (iFd n q .none kV doc pm an cdv ct cc), osl⟩ ∧ ∃ cl cld csl, h.get? cc = some ⟨cl, cld, .cell (some (.ref (He.ga K x))), csl⟩
/-- the head's part, with the statics' table -/
abbrev frE (m : Nat) (g : Addr → Option Obj) : PySem.W.Frag := He.frT g (cStatics :: He.asD g m)
abbrev AlE : Type := He.AlT × Bool × IV
def obsE (m : Nat) (fa : List He.Fa) (fn : List He.DefD) (ex : PySem.W.Frag → Bool) (x : Str) (g : Addr → Option Obj) : AlE := (He.obsT fa fn [] (frE m g), ex (frE m g), initObs g (frE m g) x)
/-- the head's hook, with the __init__ of the class x -/
def hookE (m : Nat) (fa : List He.Fa) (fn : List He.DefD) (ex : PySem.W.Frag → Bool) (x q : Str) (n : Nat) : PySem.W.Hook where
  α := AlE
  obs := fun s => obsE m fa fn ex x s.heap.get?
  val := fun w => (He.valT fn [] w, true, initVal n q)
  says := fun w h => ∃ K : PySem.W.Frag, K.In h ∧ He.SaysX fa fn [] [] ex w h K ∧ InitAt K x q n h
  of := fun _ _ e => ⟨_, He.frT_in, ⟨congrArg (fun z : AlE => z.1) e, congrArg (fun z : AlE => z.2.1) e, fun p hp => absurd hp (by simp), fun p hp => absurd hp (by simp), fun p hp => absurd hp (by simp)⟩, init_of (congrArg (fun z : AlE => z.2.2) e)⟩
  keeps := fun _ _ _ ⟨K, hK, c, i⟩ k => ⟨K, PySem.W.Frag.In.keeps hK k, ⟨c.t, c.more, c.hd, c.out, fun p hp => k _ _ (c.empty p hp)⟩, by
    obtain ⟨oc, od, osl, kV, doc, pm, an, cdv, ct, cc, e, cl, cld, csl, ec⟩ := i
    exact ⟨oc, od, osl, kV, doc, pm, an, cdv, ct, cc, e, cl, cld, csl, k _ _ ec⟩⟩
end Y
/-! Y15: the checker: a term read against the program's form. -/
namespace Y
open PySem PySem.Spec PyProof.Rows L2

/-- what is known of the place -/
structure CT where
  N : List Str
  sc : Scope
  top : Bool
  /-- a block's own names -/
  raw : List (Str × NameKind)
  /-- calls by position: name, count, def, defaults behind -/
  pc : List (Str × Nat × Nat × List D)
  /-- calls with keywords: name, count by position, keywords, def, order -/
  kc : List (Str × Nat × List Str × Nat × List Nat)
  /-- the module's constants -/
  cn : List (Str × Nat)
  /-- names that are built-ins -/
  bl : List Str
  /-- exception classes, by number -/
  xc : List (Str × Nat)
def CT.inn (ct : CT) (scope : Scope) : CT := { ct with sc := relS scope ct.sc, top := false, raw := scope.names }
def visB (sc : Scope) (n : Str) : Bool := match sc.names.lookup n with
  | some .local => true
  | some .cell => true
  | some .free => true
  | _ => false
def locB (ct : CT) (n : Str) : Bool := match ct.sc.names.lookup n with
  | some .local => true
  | some .cell => ct.top || (ct.raw.lookup n == some .cell)
  | _ => false
def lclB (ct : CT) (n : Str) : Bool := decide (ct.sc.names.lookup n = some .local)
def okNm (n : Str) : Bool := !(n == ("__debug__" : Str)) && !(n == ("__classdict__" : Str))
def glB (ct : CT) (n : Str) : Bool := decide (ct.sc.names.lookup n = some .globalImplicit) && okNm n
/-- what may stand as a plain subscript -/
def plainI : Expr → Bool
  | .Name _ _ => true
  | .Constant _ _ _ => true
  | .BinOp _ _ _ _ => true
  | .UnaryOp _ _ _ => true
  | .Call _ _ _ _ => true
  | .Subscript _ _ _ => true
  | .Tuple _ _ _ => true
  | .IfExp _ _ _ _ => true
  | _ => false
def noCall : Expr → Bool
  | .Call _ _ _ _ => false
  | _ => true
def noSet : Expr → Bool
  | .Set _ _ _ => false
  | _ => true
def noComp : Expr → Bool
  | .ListComp _ _ _ _ => false
  | .SetComp _ _ _ _ => false
  | .DictComp _ _ _ _ _ => false
  | _ => true
def plainT : Expr → Bool
  | .Name _ _ => true
  | .Call _ _ _ _ => true
  | .Subscript _ _ _ => true
  | .BinOp _ _ _ _ => true
  | _ => false

/-! ### by forms -/
abbrev CkE := CT → Expr → Bool
def ckVar (i : Nat) : CkE := fun ct e => match e with
  | .Name n _ => decide (ct.N[i]? = some n) && visB ct.sc n && okNm n
  | _ => false
def ckCst (d : D) : CkE := fun _ e => match e with
  | .Constant c _ _ => (match d, c with
    | .non, .none => true
    | .bl a, .bool b => decide (a = b)
    | .int a, .int b => decide (a = b)
    | .str a, .str b => decide (a = b)
    | _, _ => false)
  | _ => false
def ckGlo (i : Nat) : CkE := fun ct e => match e with
  | .Name n _ => glB ct n && decide ((n, i) ∈ ct.cn)
  | _ => false
def ckBin (o : BOp) (f g : CkE) : CkE := fun ct e => match e with
  | .BinOp a op b _ => decide (op = opOf o) && f ct a && g ct b
  | _ => false
def ckNeg (f : CkE) : CkE := fun ct e => match e with
  | .UnaryOp .USub a _ => f ct a
  | _ => false
def ckCmp (o : COp) (f g : CkE) : CkE := fun ct e => match e with
  | .Compare a [op] [b] _ => decide (op = copOf o) && noSet b && f ct a && g ct b
  | _ => false
def ckCmp2 (o p : COp) (f g h : CkE) : CkE := fun ct e => match e with
  | .Compare a [op, op2] [b, d] _ => decide (op = copOf o) && decide (op2 = copOf p) && noSet b && noSet d && f ct a && g ct b && h ct d
  | _ => false
def ckAnd (op : BoolOp) (f g : CkE) : CkE := fun ct e => match e with
  | .BoolOp op' (a :: b :: rest) pos => decide (op' = op) && f ct a && (match rest with
    | [] => g ct b
    | _ => g ct (.BoolOp op' (b :: rest) pos))
  | _ => false
def ckNot (f : CkE) : CkE := fun ct e => match e with
  | .UnaryOp .Not a _ => f ct a
  | _ => false
def ckIfe (t f g : CkE) : CkE := fun ct e => match e with
  | .IfExp c a b _ => t ct c && f ct a && g ct b
  | _ => false
def ckTup (fs : CT → List Expr → Bool) : CkE := fun ct e => match e with
  | .Tuple es _ _ => fs ct es
  | _ => false
def ckLst (fs : CT → List Expr → Bool) : CkE := fun ct e => match e with
  | .List es _ => fs ct es
  | _ => false
def ckIx (f g : CkE) : CkE := fun ct e => match e with
  | .Subscript a b _ => plainI b && f ct a && g ct b
  | _ => false
def ckSl (f : CkE) (l h : CT → Option Expr → Bool) : CkE := fun ct e => match e with
  | .Subscript a (.Slice lo hi none _) _ => f ct a && l ct lo && h ct hi
  | _ => false
def ckRev (f : CkE) : CkE := fun ct e => match e with
  | .Subscript a (.Slice none none (some (.UnaryOp .USub (.Constant (.int i) _ _) _)) _) _ => decide (i = 1) && f ct a
  | _ => false
def ckCall (fn : Nat) (ds : List D) (fs : CT → List Expr → Bool) : CkE := fun ct e => match e with
  | .Call (.Name n _) es [] _ => glB ct n && fs ct es && ct.pc.any fun q => decide (q.1 = n) && decide (q.2.1 = es.length) && decide (q.2.2.1 = fn) && eqbL q.2.2.2 ds
  | _ => false
def kwNs (kws : List Keyword) : List Str := kws.filterMap fun k => k.arg
def ckCallK (fn : Nat) (order : List Nat) (fs : CT → List Expr → Bool) (ks : CT → List Keyword → Bool) : CkE := fun ct e => match e with
  | .Call (.Name n _) es kws _ => glB ct n && fs ct es && ks ct kws && decide ((n, es.length, kwNs kws, fn, order) ∈ ct.kc)
  | _ => false
def blB (ct : CT) (n : Str) : Bool := glB ct n && decide (n ∈ ct.bl)
def ckBlt (f : Blt) (fs : CT → List Expr → Bool) : CkE := fun ct e => match e with
  | .Call (.Name n _) (a :: es) [] _ => bltIs f && decide (n = (bltOf f).1) && blB ct n && fs ct (a :: es)
  | _ => false
def isTys6 : List String := ["int", "bool", "str", "tuple", "list", "dict"]
def ckIsi (T : String) (f : CkE) : CkE := fun ct e => match e with
  | .Call (.Name n _) [a, .Name t _] [] _ => decide (T ∈ isTys6) && decide (n = ("isinstance" : Str)) && decide (t = tyNm T) && blB ct n && blB ct t && notStar a && f ct a
  | _ => false
def ckIsq (f : CkE) : CkE := fun ct e => match e with
  | .Call (.Name n _) [a, .Tuple [.Name t _, .Name u _] _ _] [] _ => decide (n = ("isinstance" : Str)) && decide (t = ("list" : Str)) && decide (u = ("tuple" : Str)) && blB ct n && blB ct t && blB ct u && notStar a && f ct a
  | _ => false
def ckApp (f g : CkE) : CkE := fun ct e => match e with
  | .Call (.Attribute a m apos) [b] [] pos => decide (m = ("append" : Str)) && noCall a && notStar b && (apos.endLine == pos.line) && f ct a && g ct b
  | _ => false
def ckExt (f g : CkE) : CkE := fun ct e => match e with
  | .Call (.Attribute a m apos) [b] [] pos => decide (m = ("extend" : Str)) && noCall a && notStar b && (apos.endLine == pos.line) && f ct a && g ct b
  | _ => false
def ckPop (f : CkE) : CkE := fun ct e => match e with
  | .Call (.Attribute a m apos) [] [] pos => decide (m = ("pop" : Str)) && noCall a && (apos.endLine == pos.line) && f ct a
  | _ => false
def ckGet2 (f g h : CkE) : CkE := fun ct e => match e with
  | .Call (.Attribute a m apos) [b, d] [] pos => decide (m = ("get" : Str)) && noCall a && notStar b && notStar d && (apos.endLine == pos.line) && f ct a && g ct b && h ct d
  | _ => false
def ckFld (f : CkE) : CkE := fun ct e => match e with
  | .Attribute a m _ => decide (m = ("value" : Str)) && noCall a && f ct a
  | _ => false
def ownP (N : List Str) : List Nat → List (Str × Nat)
  | [] => []
  | i :: is => (N[i]?.getD Str.empty, i) :: ownP N is
def ckLc (is : List Nat) (own : List Nat) (f : CkE) (g : CkE) (it : CT → Expr → Expr → Bool) (t : CT → List Expr → Bool) : CkE := fun ct e => match e with
  | .ListComp elt [⟨tg, iter, ifs, as⟩] scope _ => decide (as = 0) && noSet iter && blkC ct.N ct.sc scope (ownP ct.N own) && it ct tg iter && g (ct.inn scope) tg && t (ct.inn scope) ifs && f (ct.inn scope) elt && is.all fun i => decide (i ∈ own)
  | _ => false
def ckLc2 (is is1 own own1 : List Nat) (f : CkE) (g g1 : CkE) (it it1 : CT → Expr → Expr → Bool) : CkE := fun ct e => match e with
  | .ListComp elt [⟨tg, iter, ifs, as⟩, ⟨tg1, iter1, ifs1, as1⟩] scope _ => decide (as = 0) && decide (as1 = 0) && ifs.isEmpty && ifs1.isEmpty && noSet iter && noSet iter1 && blkC ct.N ct.sc scope (ownP ct.N own) && it ct tg iter && g (ct.inn scope) tg && it1 (ct.inn scope) tg1 iter1 && g1 (ct.inn scope) tg1 && f (ct.inn scope) elt &&
      (own1.all fun i => decide (i ∈ own)) && (is.all fun i => decide (i ∈ own)) && is1.all fun i => decide (i ∈ own1)
  | _ => false
def keyB : Key → Expr → Bool
  | .inl i, .Constant (.int j) _ _ => decide (i = j)
  | .inr x, .Constant (.str y) _ _ => decide (x = y)
  | _, _ => false
def ckDic (ks : List Key) (ps : CT → List Key → List (Option Expr) → List Expr → Bool) : CkE := fun ct e => match e with
  | .Dict keys vals _ => !keys.isEmpty && decide (keys.length ≤ 15) && decide (keys.length = vals.length) && decide (keys.length = ks.length) && nodupB ks && keys.all (·.isSome) && ps ct ks keys vals
  | _ => false
def ckDic0 : CkE := fun _ e => match e with
  | .Dict [] [] _ => true
  | _ => false
-- tests
def ckVal (f : CkE) : CkE := fun ct e => plainT e && f ct e
-- what is walked
abbrev CkI := CT → Expr → Expr → Bool
def ckRng1 (f : CkE) : CkI := fun ct _ e => match e with
  | .Call (.Name n _) [a] [] _ => decide (n = ("range" : Str)) && blB ct n && notStar a && f ct a
  | _ => false
def ckRng2 (f g : CkE) : CkI := fun ct _ e => match e with
  | .Call (.Name n _) [a, b] [] _ => decide (n = ("range" : Str)) && blB ct n && notStar a && notStar b && f ct a && g ct b
  | _ => false
def ckEnm (f : CkE) : CkI := fun ct tg e => match tg, e with
  | .Tuple _ _ _, .Call (.Name n _) [a] [] _ => decide (n = ("enumerate" : Str)) && blB ct n && notStar a && f ct a
  | _, _ => false
def ckZip (f g : CkE) : CkI := fun ct tg e => match tg, e with
  | .Tuple _ _ _, .Call (.Name n _) [a, b] [] _ => decide (n = ("zip" : Str)) && blB ct n && notStar a && notStar b && f ct a && g ct b
  | _, _ => false
-- targets
def ckNm (i : Nat) : CkE := fun ct e => match e with
  | .Name n _ => decide (ct.N[i]? = some n) && locB ct n
  | _ => false
def ckTp (gs : CT → List Expr → Bool) : CkE := fun ct e => match e with
  | .Tuple es _ _ => gs ct es
  | _ => false
def ckSub (f g : CkE) : CkE := fun ct e => match e with
  | .Subscript a b _ => plainI b && f ct a && g ct b
  | _ => false
mutual
def ckE : IE → CkE
  | .var i => ckVar i
  | .cst d => ckCst d
  | .glo g => ckGlo g
  | .bin o _ x y => ckBin o (ckE x) (ckE y)
  | .neg x => ckNeg (ckE x)
  | .cmp o x y => ckCmp o (ckE x) (ckE y)
  | .cmp2 o p x y z => ckCmp2 o p (ckE x) (ckE y) (ckE z)
  | .and x y => ckAnd .And (ckE x) (ckE y)
  | .or x y => ckAnd .Or (ckE x) (ckE y)
  | .not x => ckNot (ckE x)
  | .ife c x y => ckIfe (ckC c) (ckE x) (ckE y)
  | .tup xs => ckTup (ckL xs)
  | .lst _ xs => ckLst (ckL xs)
  | .dic _ ks xs => ckDic ks (ckD xs)
  | .dic0 _ _ => ckDic0
  | .ix x y => ckIx (ckE x) (ckE y)
  | .sl x l h => ckSl (ckE x) (ckO l) (ckO h)
  | .rev x => ckRev (ckE x)
  | .call f xs ds => ckCall f ds (ckL xs)
  | .callK f xs ys order => ckCallK f order (ckL xs) (ckK ys)
  | .blt f xs => ckBlt f (ckL xs)
  | .isi T x => ckIsi T (ckE x)
  | .isq x => ckIsq (ckE x)
  | .app x y => ckApp (ckE x) (ckE y)
  | .ext x y => ckExt (ckE x) (ckE y)
  | .pop x => ckPop (ckE x)
  | .get2 x y z => ckGet2 (ckE x) (ckE y) (ckE z)
  | .fld x => ckFld (ckE x)
  | .lc _ x g it t own => ckLc (gIx g) own (ckE x) (ckG g) (ckI it) (ckCo t)
  | .lc2 _ x g it g1 it1 own own1 => ckLc2 (gIx g) (gIx g1) own own1 (ckE x) (ckG g) (ckG g1) (ckI it) (ckI it1)
def ckL : IEs → CT → List Expr → Bool
  | .nil, _, es => es.isEmpty
  | .cons x xs, ct, es => match es with
    | e :: es => notStar e && ckE x ct e && ckL xs ct es
    | [] => false
def ckK : IEs → CT → List Keyword → Bool
  | .nil, _, es => es.isEmpty
  | .cons x xs, ct, es => match es with
    | ⟨some _, e, _⟩ :: es => ckE x ct e && ckK xs ct es
    | _ => false
def ckD : IEs → CT → List Key → List (Option Expr) → List Expr → Bool
  | .nil, _, ks, keys, vals => ks.isEmpty && keys.isEmpty && vals.isEmpty
  | .cons x xs, ct, ks, keys, vals => match ks, keys, vals with
    | k :: ks, some ke :: keys, v :: vals => keyB k ke && ckE x ct v && ckD xs ct ks keys vals
    | _, _, _ => false
def ckO : IEo → CT → Option Expr → Bool
  | .non, _, e => e.isNone
  | .som x, ct, e => match e with
    | some e => ckE x ct e
    | none => false
def ckC : IC → CkE
  | .val x => ckVal (ckE x)
  | .cp o a b => ckCmp o (ckE a) (ckE b)
  | .cp2 o p a b d => ckCmp2 o p (ckE a) (ckE b) (ckE d)
  | .and a b => ckAnd .And (ckC a) (ckC b)
  | .or a b => ckAnd .Or (ckC a) (ckC b)
  | .not a => ckNot (ckC a)
def ckCo : ICo → CT → List Expr → Bool
  | .non, _, es => es.isEmpty
  | .som t, ct, es => match es with
    | [e] => ckC t ct e
    | _ => false
def ckI : IT → CkI
  | .seq x => fun ct _ e => ckE x ct e
  | .rng1 x => ckRng1 (ckE x)
  | .rng2 x y => ckRng2 (ckE x) (ckE y)
  | .enm x => ckEnm (ckE x)
  | .zip x y => ckZip (ckE x) (ckE y)
def ckG : IG → CkE
  | .nm i => ckNm i
  | .tp gs => ckTp (ckGs gs)
  | .ix x y => ckSub (ckE x) (ckE y)
def ckGs : IGs → CT → List Expr → Bool
  | .nil, _, es => es.isEmpty
  | .cons g gs, ct, es => match es with
    | e :: es => notStar e && ckG g ct e && ckGs gs ct es
    | [] => false
end
end Y
/-! Y16: what the checker passes is read so. -/
namespace Y
open PySem PySem.Spec PyProof.Rows L2

/-- what is known of an exception class that is raised or caught -/
structure XcF (wl : Wl) (P : Program) (w : World) (mg : Str → Option Value) (base : Heap) (n : Str) (e : Nat) : Prop where
  ex : ∃ fI D fd, FnOk P w wl.K mg base (fun _ _ _ _ _ _ => False) 1 fI fd ["self", "value"] (spI wl.K D) ∧ InitC wl.K D (wl.cls e) ∧ PySem.W.findIn wl.K (.ref (wl.cls e)) "__init__" = some (some (.ref fI)) ∧ PySem.W.typeIn wl.K (.ref fI) = some (.type "function") ∧ Binds wl.K fd ["self", "value"] []
  T : OexC wl.K (wl.cls e)
  cc : CatchC wl.K (wl.cls e)
  mg : mg n = some (.ref (wl.cls e))
structure Fcts (wl : Wl) (k : Nat) (ct : CT) (P : Program) (w : World) (mg : Str → Option Value) (base : Heap) : Prop where
  pc : ∀ q ∈ ct.pc, ∃ fa fd ps dvs dsv, FnG P w wl.K mg base (k + 2) fa fd ps (spF wl k q.2.2.1) ∧ mg q.1 = some (.ref fa) ∧ PySem.W.keepIn wl.K (.ref fa) = true ∧ Binds wl.K fd ps dsv ∧ Vals dvs dsv ∧ ∀ hid H ρ, Rels wl.K hid H ρ q.2.2.2 dvs
  kc : ∀ q ∈ ct.kc, ∃ fa fd ps, FnG P w wl.K mg base (k + 2) fa fd ps (spF wl k q.2.2.2.1) ∧ mg q.1 = some (.ref fa) ∧ PySem.W.keepIn wl.K (.ref fa) = true ∧
    ∀ (s : Shared) (us ws rs : List Value), us.length = q.2.1 → ws.length = q.2.2.1.length → pick q.2.2.2.2 (us ++ ws) = some rs → BindsTo s fd ⟨us, q.2.2.1.zip ws⟩ (ps.zip rs)
  cn : ∀ q ∈ ct.cn, ∃ dv v u, mg q.1 = some u ∧ RelV v u ∧ wl.glo q.2 = some dv ∧ (dv, v) ∈ wl.cs
  bl : ∀ n ∈ ct.bl, mg n = none
  xc : ∀ q ∈ ct.xc, XcF wl P w mg base q.1 q.2
  xm : ∀ e e' : Nat, e < ct.xc.length → e' < ct.xc.length → PySem.W.exmOne wl.K (.ref (wl.cls e)) (.ref (wl.cls e')) = some (decide (e = e'))
structure Cxo (wl : Wl) (k : Nat) (c : Cc) (ct : CT) (X : Cx) (W : WX) : Prop where
  N : X.N = ct.N
  nd : ct.N.Nodup
  sc : X.env.scope = ct.sc
  kind : ct.sc.kind = .function
  hc : c = wl.c c.b c.bs
  K : wl.K = X.K
  calm : X.calm = true
  gd : X.A.guards = some []
  room2 : Room (k + 2) X.A
  tk : Takes X W
  top : ∀ n, (ct.top || (ct.raw.lookup n == some .cell)) = true → X.fn n = true
  fs : Fcts wl k ct X.prog X.w X.mg X.base

theorem star_cons {a : Expr} (h : notStar a = true) (es : List Expr) (env : PySem.Env) : starEach (a :: es) env = (false, eval a env) :: starEach es env := by
  cases a <;> first | rfl | cases h
theorem star_any {fs : List Expr} (pos : Pos) (env : PySem.Env) (h : ∀ a ∈ fs, notStar a = true) : (backTo pos (starEach fs env)).any (·.1) = false := by
  induction fs with
  | nil => rfl
  | cons a es ih =>
    rw [star_cons (h a (List.mem_cons_self ..))]
    show (false || (backTo pos (starEach es env)).any (·.1)) = false
    rw [ih fun b hb => h b (List.mem_cons_of_mem _ hb)]
    rfl
theorem asn_cons {a : Expr} (h : notStar a = true) (es : List Expr) (env : PySem.Env) : assignEach (a :: es) env = (false, assign a env) :: assignEach es env := by
  cases a <;> first | rfl | cases h
theorem base_ok {a : Expr} (h : noCall a = true) (m : Str) (env : PySem.Env) (t : Sem Value) : attributeBase a m env t = t := by
  cases a <;> first | rfl | cases h
theorem fold_ok {a : Expr} (h : noSet a = true) (env : PySem.Env) (x : Value) : foldedSetIterable a env x = pure x := by
  cases a <;> first | rfl | cases h
theorem marks_ok {a : Expr} (h : noSet a = true) (op : CmpOp) : behindInMarks op a = false := by
  cases a <;> first | rfl | cases h
theorem plain_ok {b : Expr} (h : plainI b = true) : PlainIx b := by
  intro o i
  cases b <;> first | rfl | cases h
theorem set_ok {a b : Expr} (h : plainI b = true) (pos : Pos) (env : PySem.Env) : ∀ v, assign (.Subscript a b pos) env v = (do
      let ov ← holding [v] (eval a env)
      let iv ← holding [v, ov] (eval b env)
      standAt pos
      holding [v, ov, iv] (setItem ov iv v)
      release [v, ov, iv] []) := by
  intro v
  cases b <;> first | rfl | cases h
theorem true_ok {a : Expr} (h : plainT a = true) (env : PySem.Env) : ∀ whole, isTrue a env whole = (do let v ← whole; standAt a.pos; holding [v] (truthy v)) := by
  intro v
  cases a <;> first | rfl | cases h
theorem sw_none {a : Expr} (h : noComp a = true) (o : Option Expr) (l : Nat) (env : PySem.Env) : swapsWith a o l env = pure false := by
  cases a <;> first | rfl | cases h
section
variable {wl : Wl} {k : Nat} {c : Cc} {ct : CT} {X : Cx} {W : WX}
theorem Cxo.room (O : Cxo wl k c ct X W) : Room k X.A := O.room2.mono (by omega)
theorem Cxo.cK (O : Cxo wl k c ct X W) : c.K = X.K := by
  rw [O.hc]
  exact O.K
theorem Cxo.gl (O : Cxo wl k c ct X W) {n : Str} (h : glB ct n = true) : Gl X n ∧ (n == ("__debug__" : Str)) = false := by
  unfold glB okNm at h
  simp only [Bool.and_eq_true, decide_eq_true_eq, Bool.not_eq_true'] at h
  refine ⟨?_, h.2.1⟩
  show X.env.scope.names.lookup n = _
  rw [O.sc]
  exact h.1
theorem Cxo.blt (O : Cxo wl k c ct X W) {n : Str} (h : blB ct n = true) : Gl X n ∧ X.mg n = none := by
  unfold blB at h
  rw [Bool.and_eq_true, decide_eq_true_eq] at h
  exact ⟨(O.gl h.1).1, O.fs.bl n h.2⟩
theorem Cxo.vis (O : Cxo wl k c ct X W) {n : Str} (h : visB ct.sc n = true) : Vis X.env.scope n := by
  rw [O.sc]
  unfold visB at h
  unfold Vis
  split at h
  · exact .inl (by assumption)
  · exact .inr (.inl (by assumption))
  · exact .inr (.inr (by assumption))
  · cases h
theorem Cxo.loc (O : Cxo wl k c ct X W) {n : Str} (h : locB ct n = true) : L2.Loc X.env.scope n ∧ (X.fn n = true ∨ X.env.scope.names.lookup n = some .local) := by
  rw [O.sc]
  unfold locB at h
  unfold L2.Loc
  split at h
  · rename_i e
    exact ⟨.inl e, .inr e⟩
  · rename_i e
    exact ⟨.inr e, .inl (O.top n h)⟩
  · cases h
theorem Cxo.inn (O : Cxo wl k c ct X W) {scope : Scope} (hk : scope.kind = .function) (s : Shared) (H : Hp) (C : Addr) (cl : List (Str × Addr)) (fp : List Addr) : Cxo wl k c (ct.inn scope) (X.blk s H scope (compEnvC scope cl C X.env) fp) nW := by
  refine ⟨O.N, O.nd, ?_, hk, O.hc, O.K, O.calm, O.gd, O.room2, takes0, fun n h => h, ⟨O.fs.pc, O.fs.kc, O.fs.cn, O.fs.bl, O.fs.xc, O.fs.xm⟩⟩
  show relabel scope X.env = relS scope ct.sc
  rw [← O.sc]
  rfl

/-- how many targets -/
def gsLen : IGs → Nat
  | .nil => 0
  | .cons _ gs => gsLen gs + 1
/-- read so at every place of this kind -/
abbrev PEs (X : Cx) (c : Cc) (W : WX) (Fx : Fs) (ct : CT) (f : CkE) (x : IE) : Prop := ∀ e, f ct e = true → PE X e (E c W Fx x)
abbrev PLs (X : Cx) (c : Cc) (W : WX) (Fx : Fs) (ct : CT) (f : CT → List Expr → Bool) (xs : IEs) : Prop := ∀ es, f ct es = true → PA X es (A c W Fx xs) ∧ (∀ a ∈ es, notStar a = true) ∧ esLen xs = es.length
section
variable {f g h : CkE} {fs : CT → List Expr → Bool} {x y z : IE} {xs ys : IEs} {e : Expr}
theorem e_var (O : Cxo wl k c ct X W) {i : Nat} (q : ckVar i ct e = true) : PE X e (E c W (wl.F k) (.var i)) := by
  cases e <;> first | (cases q; done) | skip
  simp only [ckVar, Bool.and_eq_true, decide_eq_true_eq, okNm, Bool.not_eq_true'] at q
  exact r_var (by rw [O.N]; exact q.1.1) (O.vis q.1.2) q.2.1 q.2.2
theorem e_cst {d : D} (q : ckCst d ct e = true) : PE X e (E c W (wl.F k) (.cst d)) := by
  cases e <;> first | (cases q; done) | skip
  rename_i cc _ _
  cases d <;> cases cc <;> first | (cases q; done) | skip
  · exact r_non
  · rw [of_decide_eq_true q]; exact r_bl
  · rw [of_decide_eq_true q]; exact r_int
  · rw [of_decide_eq_true q]; exact r_str
theorem e_glo (O : Cxo wl k c ct X W) {i : Nat} (q : ckGlo i ct e = true) : PE X e (E c W (wl.F k) (.glo i)) := by
  cases e <;> first | (cases q; done) | skip
  simp only [ckGlo, Bool.and_eq_true, decide_eq_true_eq] at q
  obtain ⟨h1, h2⟩ := O.gl q.1
  obtain ⟨dv, v, u, h3, h4, h5, h6⟩ := O.fs.cn _ q.2
  exact r_glo (dv := dv) (v := v) h1 h3 h4 h2 h5 (by rw [O.hc]; exact h6)
theorem e_bin (O : Cxo wl k c ct X W) {o : BOp} {m : Bool} (hf : PEs X c W (wl.F k) ct f x) (hg : PEs X c W (wl.F k) ct g y) (q : ckBin o f g ct e = true) : PE X e (E c W (wl.F k) (.bin o m x y)) := by
  cases e <;> first | (cases q; done) | skip
  simp only [ckBin, Bool.and_eq_true, decide_eq_true_eq] at q
  obtain ⟨⟨rfl, h1⟩, h2⟩ := q
  exact r_bin O.cK (hf _ h1) (hg _ h2)
theorem e_neg (hf : PEs X c W (wl.F k) ct f x) (q : ckNeg f ct e = true) : PE X e (E c W (wl.F k) (.neg x)) := by
  cases e <;> first | (cases q; done) | skip
  rename_i op a p
  cases op <;> first | (cases q; done) | skip
  exact r_neg (hf _ q)
theorem e_cmp (O : Cxo wl k c ct X W) {o : COp} (hf : PEs X c W (wl.F k) ct f x) (hg : PEs X c W (wl.F k) ct g y) (q : ckCmp o f g ct e = true) : PE X e (E c W (wl.F k) (.cmp o x y)) ∧ PT X e (C c W (wl.F k) (.val (.cmp o x y))) := by
  unfold ckCmp at q
  split at q
  · simp only [Bool.and_eq_true, decide_eq_true_eq] at q
    obtain ⟨⟨⟨rfl, h1⟩, h2⟩, h3⟩ := q
    exact ⟨r_cmp O.cK O.room (hf _ h2) (hg _ h3) (marks_ok h1 _), ct_cmp O.cK O.room (hf _ h2) (hg _ h3) (marks_ok h1 _)⟩
  · cases q
theorem e_cmp2 (O : Cxo wl k c ct X W) {o p : COp} (hf : PEs X c W (wl.F k) ct f x) (hg : PEs X c W (wl.F k) ct g y) (hh : PEs X c W (wl.F k) ct h z) (q : ckCmp2 o p f g h ct e = true) : PE X e (E c W (wl.F k) (.cmp2 o p x y z)) ∧ PT X e (C c W (wl.F k) (.val (.cmp2 o p x y z))) := by
  unfold ckCmp2 at q
  split at q
  · simp only [Bool.and_eq_true, decide_eq_true_eq] at q
    obtain ⟨⟨⟨⟨⟨⟨rfl, rfl⟩, h1⟩, h2⟩, h3⟩, h4⟩, h5⟩ := q
    have hm : ∀ op op' : CmpOp, ∀ b d : Expr, noSet d = true → lastMarks [op, op'] [b, d] = false := fun op op' b d hd => marks_ok hd op'
    exact ⟨r_cmp2 O.cK O.room (hf _ h3) (hg _ h4) (hh _ h5) (hm _ _ _ _ h2), ct_cmp2 O.cK O.room (hf _ h3) (hg _ h4) (hh _ h5) (hm _ _ _ _ h2)⟩
  · cases q
theorem e_and (hf : PEs X c W (wl.F k) ct f x) (hg : PEs X c W (wl.F k) ct g y) (q : ckAnd .And f g ct e = true) : PE X e (E c W (wl.F k) (.and x y)) := by
  unfold ckAnd at q
  split at q
  · simp only [Bool.and_eq_true, decide_eq_true_eq] at q
    obtain ⟨⟨rfl, h1⟩, h2⟩ := q
    split at h2
    · exact r_and (hf _ h1) (pe_one (hg _ h2))
    · exact r_and (hf _ h1) (hg _ h2)
  · cases q
theorem e_or (hf : PEs X c W (wl.F k) ct f x) (hg : PEs X c W (wl.F k) ct g y) (q : ckAnd .Or f g ct e = true) : PE X e (E c W (wl.F k) (.or x y)) := by
  unfold ckAnd at q
  split at q
  · simp only [Bool.and_eq_true, decide_eq_true_eq] at q
    obtain ⟨⟨rfl, h1⟩, h2⟩ := q
    split at h2
    · exact r_or (hf _ h1) (pe_one (hg _ h2))
    · exact r_or (hf _ h1) (hg _ h2)
  · cases q
theorem e_not (hf : PEs X c W (wl.F k) ct f x) (q : ckNot f ct e = true) : PE X e (E c W (wl.F k) (.not x)) := by
  cases e <;> first | (cases q; done) | skip
  rename_i op a p
  cases op <;> first | (cases q; done) | skip
  exact r_not (hf _ q)
/-- tests -/
abbrev PCs (X : Cx) (c : Cc) (W : WX) (Fx : Fs) (ct : CT) (f : CkE) (x : IC) : Prop := ∀ e, f ct e = true → PT X e (C c W Fx x) ∧ ∀ op l p, e = .BoolOp op l p → PW X e (C c W Fx x)
theorem e_ife {t : CkE} {ic : IC} (ht : PCs X c W (wl.F k) ct t ic) (hf : PEs X c W (wl.F k) ct f x) (hg : PEs X c W (wl.F k) ct g y) (q : ckIfe t f g ct e = true) : PE X e (E c W (wl.F k) (.ife ic x y)) := by
  cases e <;> first | (cases q; done) | skip
  simp only [ckIfe, Bool.and_eq_true] at q
  exact r_ife (ht _ q.1.1).1 (hf _ q.1.2) (hg _ q.2)
theorem e_tup (hf : PLs X c W (wl.F k) ct fs xs) (q : ckTup fs ct e = true) : PE X e (E c W (wl.F k) (.tup xs)) := by
  cases e <;> first | (cases q; done) | skip
  exact r_tup (hf _ q).1
theorem e_lst {m : Bool} (hf : PLs X c W (wl.F k) ct fs xs) (q : ckLst fs ct e = true) : PE X e (E c W (wl.F k) (.lst m xs)) := by
  cases e <;> first | (cases q; done) | skip
  exact r_lst (hf _ q).1
theorem e_ix (O : Cxo wl k c ct X W) (hf : PEs X c W (wl.F k) ct f x) (hg : PEs X c W (wl.F k) ct g y) (q : ckIx f g ct e = true) : PE X e (E c W (wl.F k) (.ix x y)) := by
  cases e <;> first | (cases q; done) | skip
  simp only [ckIx, Bool.and_eq_true] at q
  exact r_ix O.cK O.room (hf _ q.1.2) (hg _ q.2) (plain_ok q.1.1)
abbrev POs (X : Cx) (c : Cc) (W : WX) (Fx : Fs) (ct : CT) (f : CT → Option Expr → Bool) (x : IEo) : Prop := ∀ e, f ct e = true → PO X e (To c W (evO Fx c.b x))
theorem e_sl (O : Cxo wl k c ct X W) {lo hi : CT → Option Expr → Bool} {il ih : IEo} (hf : PEs X c W (wl.F k) ct f x) (hl : POs X c W (wl.F k) ct lo il) (hh : POs X c W (wl.F k) ct hi ih) (q : ckSl f lo hi ct e = true) : PE X e (E c W (wl.F k) (.sl x il ih)) := by
  unfold ckSl at q
  split at q
  · simp only [Bool.and_eq_true] at q
    exact r_sl O.cK (hf _ q.1.1) (hl _ q.1.2) (hh _ q.2)
  · cases q
theorem e_rev (O : Cxo wl k c ct X W) (hf : PEs X c W (wl.F k) ct f x) (q : ckRev f ct e = true) : PE X e (E c W (wl.F k) (.rev x)) := by
  unfold ckRev at q
  split at q
  · simp only [Bool.and_eq_true, decide_eq_true_eq] at q
    obtain ⟨rfl, h⟩ := q
    exact r_rev O.cK (hf _ h)
  · cases q
theorem e_call (O : Cxo wl k c ct X W) {fn : Nat} {ds : List D} (hf : PLs X c W (wl.F k) ct fs xs) (q : ckCall fn ds fs ct e = true) : PE X e (E c W (wl.F k) (.call fn xs ds)) := by
  unfold ckCall at q
  split at q
  · rename_i n p es pos
    simp only [Bool.and_eq_true, List.any_eq_true, decide_eq_true_eq] at q
    obtain ⟨⟨h1, h2⟩, ⟨n', m', f', ds'⟩, hm, ⟨⟨e1, e2⟩, e3⟩, e4⟩ := q
    have e5 := eqbL_eq _ _ e4
    subst e1 e3 e5
    obtain ⟨g1, g2⟩ := O.gl h1
    obtain ⟨fa, fd, ps, dvs, dsv, h3, h4, h5, h6, h7, h8⟩ := O.fs.pc _ hm
    obtain ⟨l1, l2, l3⟩ := hf _ h2
    have eK := O.K
    have eC : c.K = wl.K := O.cK.trans eK.symm
    have Fn : FnAt X wl k n' f' fa fd ps := ⟨eK ▸ h3, h4, eK ▸ h5, g2⟩
    cases es with
    | nil =>
      cases xs with
      | nil => exact r_call0 O.hc Fn O.gd O.room2 O.tk g1 (eK ▸ h6) h7 (fun hid H ρ => eC ▸ h8 hid H ρ)
      | cons _ _ => cases l3
    | cons a es => exact r_call O.hc Fn O.gd O.room2 O.tk g1 (eK ▸ h6) h7 (fun hid H ρ => eC ▸ h8 hid H ρ) l1 (star_cons (l2 a (List.mem_cons_self ..)) _ _) (star_any _ _ fun b hb => l2 b (List.mem_cons_of_mem _ hb))
  · cases q
abbrev PKs (X : Cx) (c : Cc) (W : WX) (Fx : Fs) (ct : CT) (f : CT → List Keyword → Bool) (xs : IEs) : Prop := ∀ es, f ct es = true → PK X es (A c W Fx xs) ∧ (es.all fun k => k.arg.isSome) = true ∧ esLen xs = (kwNs es).length
theorem e_callK (O : Cxo wl k c ct X W) {fn : Nat} {order : List Nat} {ks : CT → List Keyword → Bool} (hf : PLs X c W (wl.F k) ct fs xs) (hk : PKs X c W (wl.F k) ct ks ys) (q : ckCallK fn order fs ks ct e = true) : PE X e (E c W (wl.F k) (.callK fn xs ys order)) := by
  unfold ckCallK at q
  split at q
  · rename_i n p es kws pos
    simp only [Bool.and_eq_true, decide_eq_true_eq] at q
    obtain ⟨⟨⟨h1, h2⟩, h3⟩, hm⟩ := q
    obtain ⟨g1, g2⟩ := O.gl h1
    obtain ⟨fa, fd, ps, h4, h5, h6, h7⟩ := O.fs.kc _ hm
    obtain ⟨l1, l2, l3⟩ := hf _ h2
    obtain ⟨k1, k2, k3⟩ := hk _ h3
    have eK := O.K
    have Fn : FnAt X wl k n fn fa fd ps := ⟨eK ▸ h4, h5, eK ▸ h6, g2⟩
    cases es with
    | nil =>
      cases xs with
      | nil => exact r_callK0 O.hc Fn O.gd O.room2 O.tk g1 h7 k1 k2 rfl k3
      | cons _ _ => cases l3
    | cons a es => exact r_callK O.hc Fn O.gd O.room2 O.tk g1 h7 l1 k1 k2 rfl l3 k3 (star_cons (l2 a (List.mem_cons_self ..)) _ _) (star_any _ _ l2)
  · cases q
theorem e_blt (O : Cxo wl k c ct X W) {b : Blt} (hf : PLs X c W (wl.F k) ct fs xs) (q : ckBlt b fs ct e = true) : PE X e (E c W (wl.F k) (.blt b xs)) := by
  unfold ckBlt at q
  split at q
  · simp only [Bool.and_eq_true, decide_eq_true_eq] at q
    obtain ⟨⟨⟨h1, rfl⟩, h2⟩, h3⟩ := q
    obtain ⟨g1, g2⟩ := O.blt h2
    obtain ⟨l1, l2, l3⟩ := hf _ h3
    exact r_blt b h1 O.gd O.room O.cK O.calm g1 g2 l1 (star_cons (l2 _ (List.mem_cons_self ..)) _ _) (star_any _ _ fun b hb => l2 b (List.mem_cons_of_mem _ hb))
  · cases q
theorem star1 {a : Expr} (h : notStar a = true) (env : PySem.Env) : starEach [a] env = [(false, eval a env)] := star_cons h [] env
theorem star2 {a b : Expr} (h : notStar a = true) (h2 : notStar b = true) (env : PySem.Env) : starEach [a, b] env = [(false, eval a env), (false, eval b env)] := by rw [star_cons h, star1 h2]
theorem e_isi (O : Cxo wl k c ct X W) {T : String} (hf : PEs X c W (wl.F k) ct f x) (q : ckIsi T f ct e = true) : PE X e (E c W (wl.F k) (.isi T x)) := by
  unfold ckIsi at q
  split at q
  · simp only [Bool.and_eq_true, decide_eq_true_eq] at q
    obtain ⟨⟨⟨⟨⟨⟨hT, rfl⟩, rfl⟩, h1⟩, h2⟩, h3⟩, h4⟩ := q
    obtain ⟨g1, g2⟩ := O.blt h1
    obtain ⟨g3, g4⟩ := O.blt h2
    exact r_isi hT O.cK g1 g2 g3 g4 (hf _ h4) (star2 h3 rfl _) (star1 rfl _)
  · cases q
theorem e_isq (O : Cxo wl k c ct X W) (hf : PEs X c W (wl.F k) ct f x) (q : ckIsq f ct e = true) : PE X e (E c W (wl.F k) (.isq x)) := by
  unfold ckIsq at q
  split at q
  · simp only [Bool.and_eq_true, decide_eq_true_eq] at q
    obtain ⟨⟨⟨⟨⟨⟨⟨rfl, rfl⟩, rfl⟩, h1⟩, h2⟩, h3⟩, h4⟩, h5⟩ := q
    obtain ⟨g1, g2⟩ := O.blt h1
    obtain ⟨g3, g4⟩ := O.blt h2
    obtain ⟨g5, g6⟩ := O.blt h3
    exact r_isq O.cK g1 g2 g3 g4 g5 g6 (hf _ h5) (star2 h4 rfl _) (star1 rfl _) (star2 rfl rfl _) (star1 rfl _)
  · cases q
theorem few1 (b : Expr) (hb : notStar b = true) (pos : Pos) (env : PySem.Env) : ((backTo pos (starEach [b] env)).all (fun x => !x.1) && (backToKw pos (keywordEach [] env)).all (fun x => x.1.isSome) && decide ([b].length + ([] : List Keyword).length + (if ([] : List Keyword).isEmpty then 0 else 1) < 30)) = true := by
  rw [star1 hb]
  rfl
theorem few2 (b d : Expr) (hb : notStar b = true) (hd : notStar d = true) (pos : Pos) (env : PySem.Env) : ((backTo pos (starEach [b, d] env)).all (fun x => !x.1) && (backToKw pos (keywordEach [] env)).all (fun x => x.1.isSome) && decide ([b, d].length + ([] : List Keyword).length + (if ([] : List Keyword).isEmpty then 0 else 1) < 30)) = true := by
  rw [star2 hb hd]
  rfl
theorem e_app (O : Cxo wl k c ct X W) (hf : PEs X c W (wl.F k) ct f x) (hg : PEs X c W (wl.F k) ct g y) (q : ckApp f g ct e = true) : PE X e (E c W (wl.F k) (.app x y)) := by
  unfold ckApp at q
  split at q
  · simp only [Bool.and_eq_true, decide_eq_true_eq] at q
    obtain ⟨⟨⟨⟨⟨rfl, h1⟩, h2⟩, h3⟩, h4⟩, h5⟩ := q
    exact r_app O.cK (hf _ h4) (hg _ h5) (base_ok h1 _ _ _) (few1 _ h2 _ _) h3 (star1 h2 _)
  · cases q
theorem e_ext (O : Cxo wl k c ct X W) (hf : PEs X c W (wl.F k) ct f x) (hg : PEs X c W (wl.F k) ct g y) (q : ckExt f g ct e = true) : PE X e (E c W (wl.F k) (.ext x y)) := by
  unfold ckExt at q
  split at q
  · simp only [Bool.and_eq_true, decide_eq_true_eq] at q
    obtain ⟨⟨⟨⟨⟨rfl, h1⟩, h2⟩, h3⟩, h4⟩, h5⟩ := q
    exact r_ext O.cK (hf _ h4) (hg _ h5) (base_ok h1 _ _ _) (few1 _ h2 _ _) h3 (star1 h2 _)
  · cases q
theorem e_pop (O : Cxo wl k c ct X W) (hf : PEs X c W (wl.F k) ct f x) (q : ckPop f ct e = true) : PE X e (E c W (wl.F k) (.pop x)) := by
  unfold ckPop at q
  split at q
  · simp only [Bool.and_eq_true, decide_eq_true_eq] at q
    obtain ⟨⟨⟨rfl, h1⟩, h2⟩, h3⟩ := q
    exact r_pop O.cK (hf _ h3) (base_ok h1 _ _ _) h2
  · cases q
theorem e_get2 (O : Cxo wl k c ct X W) (hf : PEs X c W (wl.F k) ct f x) (hg : PEs X c W (wl.F k) ct g y) (hh : PEs X c W (wl.F k) ct h z) (q : ckGet2 f g h ct e = true) : PE X e (E c W (wl.F k) (.get2 x y z)) := by
  unfold ckGet2 at q
  split at q
  · simp only [Bool.and_eq_true, decide_eq_true_eq] at q
    obtain ⟨⟨⟨⟨⟨⟨⟨rfl, h1⟩, h2⟩, h3⟩, h4⟩, h5⟩, h6⟩, h7⟩ := q
    refine r_get2 O.cK O.room (hf _ h5) (hg _ h6) (hh _ h7) ⟨base_ok h1 _ _ _, few2 _ _ h2 h3 _ _, h4, ?_⟩
    rw [star2 h2 h3]
    rfl
  · cases q
theorem e_fld (O : Cxo wl k c ct X W) (hf : PEs X c W (wl.F k) ct f x) (q : ckFld f ct e = true) : PE X e (E c W (wl.F k) (.fld x)) := by
  unfold ckFld at q
  split at q
  · simp only [Bool.and_eq_true, decide_eq_true_eq] at q
    obtain ⟨⟨rfl, h1⟩, h2⟩ := q
    exact r_fld O.cK (hf _ h2) (base_ok h1 _ _ _)
  · cases q
theorem key_ok {kk : Key} {e : Expr} (h : keyB kk e = true) : keyE kk e := by
  cases kk with
  | inl i =>
    cases e <;> first | (cases h; done) | skip
    rename_i cc _ _
    cases cc <;> first | (cases h; done) | skip
    have e1 := of_decide_eq_true h
    subst e1
    exact ⟨_, _, rfl⟩
  | inr i =>
    cases e <;> first | (cases h; done) | skip
    rename_i cc _ _
    cases cc <;> first | (cases h; done) | skip
    have e1 := of_decide_eq_true h
    subst e1
    exact ⟨_, _, rfl⟩
abbrev PDs (X : Cx) (c : Cc) (W : WX) (Fx : Fs) (ct : CT) (f : CT → List Key → List (Option Expr) → List Expr → Bool) (xs : IEs) : Prop := ∀ ks keys vals, f ct ks keys vals = true → (∀ pos, PPs X pos keys vals (trD c W Fx ks xs)) ∧ esLen xs = ks.length
theorem e_dic {m : Bool} {ks : List Key} {ps : CT → List Key → List (Option Expr) → List Expr → Bool} (hf : PDs X c W (wl.F k) ct ps xs) (q : ckDic ks ps ct e = true) : PE X e (E c W (wl.F k) (.dic m ks xs)) := by
  unfold ckDic at q
  split at q
  · simp only [Bool.and_eq_true, decide_eq_true_eq, Bool.not_eq_true'] at q
    obtain ⟨⟨⟨⟨⟨⟨h1, h2⟩, h3⟩, h4⟩, h5⟩, h6⟩, h7⟩ := q
    obtain ⟨l1, l2⟩ := hf _ _ _ h7
    refine r_dic (l1 _) h5 l2 h6 h3 (fun z => ?_) h2 h4
    rw [z] at h1
    cases h1
  · cases q
theorem e_dic0 {m t : Bool} (q : ckDic0 ct e = true) : PE X e (E c W (wl.F k) (.dic0 m t)) := by
  unfold ckDic0 at q
  split at q
  · exact r_dic0
  · cases q
theorem own_ix (N : List Str) : ∀ is : List Nat, (ownP N is).map (·.2) = is
  | [] => rfl
  | i :: is => by
    show i :: (ownP N is).map (·.2) = i :: is
    rw [own_ix N is]
abbrev PGz (X : Cx) (c : Cc) (Fx : Fs) (ct : CT) (f : CkE) (x : IG) : Prop := ∀ e, f ct e = true → PG X e (Tg c Fx x)
abbrev PIz (X : Cx) (c : Cc) (W : WX) (Fx : Fs) (ct : CT) (f : CkI) (x : IT) : Prop := ∀ tg e, f ct tg e = true → PI X tg e (Iw c W Fx x)
abbrev PTz (X : Cx) (c : Cc) (W : WX) (Fx : Fs) (ct : CT) (f : CT → List Expr → Bool) (x : ICo) : Prop := ∀ es, f ct es = true → PTs X es (Co c W Fx x)
/-- at every block within -/
abbrev Inn (wl : Wl) (k : Nat) (c : Cc) (P : Cx → CT → WX → Prop) : Prop := ∀ (ct : CT) (X : Cx) (W : WX), Cxo wl k c ct X W → P X ct W
theorem e_lc (O : Cxo wl k c ct X W) {m : Bool} {gg : CkE} {g' : IG} {ii : CkI} {it : IT} {tt : CT → List Expr → Bool} {t : ICo} {own : List Nat} (hf : Inn wl k c fun X ct W => PEs X c W (wl.F k) ct f x) (hg : Inn wl k c fun X ct W => PGz X c (wl.F k) ct gg g') (hi : Inn wl k c fun X ct W => PIz X c W (wl.F k) ct ii it)
    (ht : Inn wl k c fun X ct W => PTz X c W (wl.F k) ct tt t) (q : ckLc (gIx g') own f gg ii tt ct e = true) : PE X e (E c W (wl.F k) (.lc m x g' it t own)) := by
  unfold ckLc at q
  split at q
  · rename_i elt tg iter ifs as scope pos
    simp only [Bool.and_eq_true, decide_eq_true_eq, List.all_eq_true] at q
    obtain ⟨⟨⟨⟨⟨⟨⟨rfl, h1⟩, h2⟩, h3⟩, h4⟩, h5⟩, h6⟩, h7⟩ := q
    have ok := blkOk_by h2
    have e1 := own_ix ct.N own
    have r := r_lc (pos := pos) (W := W) (m := m) (own := ownP ct.N own) O.calm (by rw [O.N]; exact O.nd) (hi _ _ _ O _ _ h3) (by rw [O.N, O.sc]; exact ok) (fun s H C cl fp => hg _ _ _ (O.inn ok.kind s H C cl fp) _ h4) (fun s H C cl fp => ht _ _ _ (O.inn ok.kind s H C cl fp) _ h5)
      (fun s H C cl fp => hf _ _ _ (O.inn ok.kind s H C cl fp) _ h6) (fun x => fold_ok h1 _ x) (by rw [e1]; exact h7)
    rw [e1] at r
    exact r
  · cases q
theorem e_lc2 (O : Cxo wl k c ct X W) {m : Bool} {gg gg1 : CkE} {g' g1' : IG} {ii ii1 : CkI} {it it1 : IT} {own own1 : List Nat} (hf : Inn wl k c fun X ct W => PEs X c W (wl.F k) ct f x) (hg : Inn wl k c fun X ct W => PGz X c (wl.F k) ct gg g') (hg1 : Inn wl k c fun X ct W => PGz X c (wl.F k) ct gg1 g1')
    (hi : Inn wl k c fun X ct W => PIz X c W (wl.F k) ct ii it) (hi1 : Inn wl k c fun X ct W => PIz X c W (wl.F k) ct ii1 it1) (q : ckLc2 (gIx g') (gIx g1') own own1 f gg gg1 ii ii1 ct e = true) : PE X e (E c W (wl.F k) (.lc2 m x g' it g1' it1 own own1)) := by
  unfold ckLc2 at q
  split at q
  · rename_i elt tg iter ifs as tg1 iter1 ifs1 as1 scope pos
    simp only [Bool.and_eq_true, decide_eq_true_eq, List.all_eq_true, List.isEmpty_iff] at q
    obtain ⟨⟨⟨⟨⟨⟨⟨⟨⟨⟨⟨⟨⟨⟨rfl, rfl⟩, rfl⟩, rfl⟩, h1⟩, h1'⟩, h2⟩, h3⟩, h4⟩, h5⟩, h6⟩, h7⟩, h8⟩, h9⟩, h10⟩ := q
    have ok := blkOk_by h2
    have e1 := own_ix ct.N own
    have r := r_lc2 (pos := pos) (W := W) (m := m) (own := ownP ct.N own) (own1 := own1) O.calm (by rw [O.N]; exact O.nd) (hi _ _ _ O _ _ h3) (by rw [O.N, O.sc]; exact ok) (by rw [e1]; exact h8) (fun s H C cl fp => hg _ _ _ (O.inn ok.kind s H C cl fp) _ h4) (fun s H C cl fp => hi1 _ _ _ (O.inn ok.kind s H C cl fp) _ _ h5)
      (fun s H C cl fp => hg1 _ _ _ (O.inn ok.kind s H C cl fp) _ h6) (fun s H C cl fp => hf _ _ _ (O.inn ok.kind s H C cl fp) _ h7) (fun x => fold_ok h1 _ x) (fun env x => fold_ok h1' env x) (by rw [e1]; exact h9) h10
    rw [e1] at r
    exact r
  · cases q
/-! tests -/
theorem c_val (O : Cxo wl k c ct X W) (hf : PEs X c W (wl.F k) ct f x) (q : ckVal f ct e = true) : PT X e (C c W (wl.F k) (.val x)) ∧ ∀ op l p, e = .BoolOp op l p → PW X e (C c W (wl.F k) (.val x)) := by
  unfold ckVal at q
  rw [Bool.and_eq_true] at q
  refine ⟨ct_val O.cK (hf _ q.2) (true_ok q.1 _), fun op l p z => ?_⟩
  subst z
  exact absurd q.1 Bool.false_ne_true
theorem cmp_nb {o : COp} (q : ckCmp o f g ct e = true) (op : BoolOp) (l : List Expr) (p : Pos) : e ≠ .BoolOp op l p := by
  intro z
  subst z
  cases q
theorem cmp2_nb {o o2 : COp} (q : ckCmp2 o o2 f g h ct e = true) (op : BoolOp) (l : List Expr) (p : Pos) : e ≠ .BoolOp op l p := by
  intro z
  subst z
  cases q
theorem c_and {a b : IC} (hf : PCs X c W (wl.F k) ct f a) (hg : PCs X c W (wl.F k) ct g b) (q : ckAnd .And f g ct e = true) : PT X e (C c W (wl.F k) (.and a b)) ∧ ∀ op l p, e = .BoolOp op l p → PW X e (C c W (wl.F k) (.and a b)) := by
  unfold ckAnd at q
  split at q
  · rename_i op' a0 b0 rest pos
    simp only [Bool.and_eq_true, decide_eq_true_eq] at q
    obtain ⟨⟨rfl, h1⟩, h2⟩ := q
    split at h2
    · have w := ct_and (pos := pos) (hf _ h1).1 (ct_and1 (hg _ h2).1)
      exact ⟨w.pt, fun _ _ _ _ => w⟩
    · have w := ct_and (pos := pos) (hf _ h1).1 ((hg _ h2).2 _ _ _ rfl)
      exact ⟨w.pt, fun _ _ _ _ => w⟩
  · cases q
theorem c_or {a b : IC} (hf : PCs X c W (wl.F k) ct f a) (hg : PCs X c W (wl.F k) ct g b) (q : ckAnd .Or f g ct e = true) : PT X e (C c W (wl.F k) (.or a b)) ∧ ∀ op l p, e = .BoolOp op l p → PW X e (C c W (wl.F k) (.or a b)) := by
  unfold ckAnd at q
  split at q
  · rename_i op' a0 b0 rest pos
    simp only [Bool.and_eq_true, decide_eq_true_eq] at q
    obtain ⟨⟨rfl, h1⟩, h2⟩ := q
    split at h2
    · have w := ct_or (pos := pos) (hf _ h1).1 (ct_or1 (hg _ h2).1)
      exact ⟨w.pt, fun _ _ _ _ => w⟩
    · have w := ct_or (pos := pos) (hf _ h1).1 ((hg _ h2).2 _ _ _ rfl)
      exact ⟨w.pt, fun _ _ _ _ => w⟩
  · cases q
theorem c_not {a : IC} (hf : PCs X c W (wl.F k) ct f a) (q : ckNot f ct e = true) : PT X e (C c W (wl.F k) (.not a)) ∧ ∀ op l p, e = .BoolOp op l p → PW X e (C c W (wl.F k) (.not a)) := by
  cases e <;> first | (cases q; done) | skip
  rename_i op a p
  cases op <;> first | (cases q; done) | skip
  exact ⟨ct_not (hf _ q).1, fun _ _ _ z => by cases z⟩
/-! what is walked -/
theorem i_rng1' (O : Cxo wl k c ct X W) {tg : Expr} (hf : PEs X c W (wl.F k) ct f x) (q : ckRng1 f ct tg e = true) : PI X tg e (Iw c W (wl.F k) (.rng1 x)) := by
  unfold ckRng1 at q
  split at q
  · simp only [Bool.and_eq_true, decide_eq_true_eq] at q
    obtain ⟨⟨⟨rfl, h1⟩, h2⟩, h3⟩ := q
    obtain ⟨g1, g2⟩ := O.blt h1
    exact i_rng1 g1 g2 (hf _ h3) (star1 h2 _)
  · cases q
theorem i_rng2' (O : Cxo wl k c ct X W) {tg : Expr} (hf : PEs X c W (wl.F k) ct f x) (hg : PEs X c W (wl.F k) ct g y) (q : ckRng2 f g ct tg e = true) : PI X tg e (Iw c W (wl.F k) (.rng2 x y)) := by
  unfold ckRng2 at q
  split at q
  · simp only [Bool.and_eq_true, decide_eq_true_eq] at q
    obtain ⟨⟨⟨⟨⟨rfl, h1⟩, h2⟩, h3⟩, h4⟩, h5⟩ := q
    obtain ⟨g1, g2⟩ := O.blt h1
    exact i_rng2 g1 g2 (hf _ h4) (hg _ h5) (star2 h2 h3 _) (star1 h3 _)
  · cases q
theorem i_enm' (O : Cxo wl k c ct X W) {tg : Expr} (hf : PEs X c W (wl.F k) ct f x) (q : ckEnm f ct tg e = true) : PI X tg e (Iw c W (wl.F k) (.enm x)) := by
  unfold ckEnm at q
  split at q
  · simp only [Bool.and_eq_true, decide_eq_true_eq] at q
    obtain ⟨⟨⟨rfl, h1⟩, h2⟩, h3⟩ := q
    obtain ⟨g1, g2⟩ := O.blt h1
    exact i_enm O.cK g1 g2 (hf _ h3) (star1 h2 _)
  · cases q
theorem i_zip' (O : Cxo wl k c ct X W) {tg : Expr} (hf : PEs X c W (wl.F k) ct f x) (hg : PEs X c W (wl.F k) ct g y) (q : ckZip f g ct tg e = true) : PI X tg e (Iw c W (wl.F k) (.zip x y)) := by
  unfold ckZip at q
  split at q
  · simp only [Bool.and_eq_true, decide_eq_true_eq] at q
    obtain ⟨⟨⟨⟨⟨rfl, h1⟩, h2⟩, h3⟩, h4⟩, h5⟩ := q
    obtain ⟨g1, g2⟩ := O.blt h1
    exact i_zip O.cK g1 g2 (hf _ h4) (hg _ h5) (star2 h2 h3 _) (star1 h3 _)
  · cases q
/-! targets -/
theorem t_nm (O : Cxo wl k c ct X W) {i : Nat} (q : ckNm i ct e = true) : PG X e (Tg c (wl.F k) (.nm i)) := by
  cases e <;> first | (cases q; done) | skip
  simp only [ckNm, Bool.and_eq_true, decide_eq_true_eq] at q
  obtain ⟨h1, h2⟩ := O.loc q.2
  exact g_nm (by rw [O.N]; exact O.nd) (by rw [O.N]; exact q.1) h1 h2
abbrev PGsz (X : Cx) (c : Cc) (Fx : Fs) (ct : CT) (f : CT → List Expr → Bool) (x : IGs) : Prop := ∀ es, f ct es = true → PGs X es (Tgs c Fx x) ∧ (assignEach es X.env).findIdx? (·.1) = none ∧ (assignEach es X.env).length = gsLen x
end
end
end Y
/-! Y17: the checker's word, by recursion. -/
namespace Y
open PySem PySem.Spec PyProof.Rows L2
theorem cp_eq {F : Fs} {b : Nat} {o : COp} {x y : IE} : evC F b (.val (.cmp o x y)) = evC F b (.cp o x y) := by
  funext env st
  simp only [evC, evE, bind_assoc]
  cases evE F b x env st with
  | no => rfl
  | ex _ _ _ => rfl
  | ok a st1 =>
    show ((evE F b y env st1).bind fun c st => (cmpR o a c st).bind _) = (evE F b y env st1).bind fun c st => cmpT o a c st
    cases evE F b y env st1 with
    | no => rfl
    | ex _ _ _ => rfl
    | ok c st2 =>
      show (cmpR o a c st2).bind _ = cmpT o a c st2
      unfold cmpR cmpT
      cases cmpD o a c st2 <;> rfl
theorem cp2_eq {F : Fs} {b : Nat} {o p : COp} {x y z : IE} : evC F b (.val (.cmp2 o p x y z)) = evC F b (.cp2 o p x y z) := by
  funext env st
  simp only [evC, evE, bind_assoc]
  cases evE F b x env st with
  | no => rfl
  | ex _ _ _ => rfl
  | ok a st1 =>
    show ((evE F b y env st1).bind fun c st => R.bind _ _) = (evE F b y env st1).bind fun c st => _
    cases evE F b y env st1 with
    | no => rfl
    | ex _ _ _ => rfl
    | ok c st2 =>
      simp only [R.bind]
      cases cmpD o a c st2 with
      | none => rfl
      | some t =>
        cases t with
        | false => rfl
        | true =>
          simp only
          cases evE F b z env st2 with
          | no => rfl
          | ex _ _ _ => rfl
          | ok e st3 =>
            simp only [cmpR, cmpT]
            cases cmpD p c e st3 <;> rfl
section
variable {wl : Wl} {k : Nat} {c : Cc}
theorem c_cp {ct : CT} {X : Cx} {W : WX} {f g : CkE} {x y : IE} {e : Expr} (O : Cxo wl k c ct X W) {o : COp} (hf : PEs X c W (wl.F k) ct f x) (hg : PEs X c W (wl.F k) ct g y) (q : ckCmp o f g ct e = true) : PT X e (C c W (wl.F k) (.cp o x y)) ∧ ∀ op l p, e = .BoolOp op l p → PW X e (C c W (wl.F k) (.cp o x y)) := by
  have h := (e_cmp O hf hg q).2
  refine ⟨?_, fun op l p z => absurd z (cmp_nb q op l p)⟩
  unfold C at h ⊢
  rw [cp_eq] at h
  exact h
theorem c_cp2 {ct : CT} {X : Cx} {W : WX} {f g h : CkE} {x y z : IE} {e : Expr} (O : Cxo wl k c ct X W) {o p : COp} (hf : PEs X c W (wl.F k) ct f x) (hg : PEs X c W (wl.F k) ct g y) (hh : PEs X c W (wl.F k) ct h z) (q : ckCmp2 o p f g h ct e = true) : PT X e (C c W (wl.F k) (.cp2 o p x y z)) ∧ ∀ op l p', e = .BoolOp op l p' → PW X e (C c W (wl.F k) (.cp2 o p x y z)) := by
  have h := (e_cmp2 O hf hg hh q).2
  refine ⟨?_, fun op l p' z => absurd z (cmp2_nb q op l p')⟩
  unfold C at h ⊢
  rw [cp2_eq] at h
  exact h
theorem Cxo.no {ct : CT} {X : Cx} {W : WX} (O : Cxo wl k c ct X W) : Cxo wl k c ct X nW := { O with tk := takes0 }
theorem asgs_len {F : Fs} {b : Nat} : ∀ {gs : IGs} {ds : List D} {env env1 : Env} {st st1 : Stt}, asGs F b gs ds env st = .ok env1 st1 → ds.length = gsLen gs
  | .nil, [], _, _, _, _, _ => rfl
  | .nil, _ :: _, _, _, _, _, h => by simp only [asGs] at h; cases h
  | .cons _ _, [], _, _, _, _, h => by simp only [asGs] at h; cases h
  | .cons g gs, d :: ds, env, env1, st, st1, h => by
    simp only [asGs] at h
    obtain ⟨e2, s2, _, h⟩ := bind_ok h
    show ds.length + 1 = gsLen gs + 1
    rw [asgs_len h]
mutual
theorem okE : ∀ x : IE, Inn wl k c fun X ct W => PEs X c W (wl.F k) ct (ckE x) x
  | .var i, ct, X, W, O, e, q => by rw [ckE] at q; exact e_var O q
  | .cst d, ct, X, W, O, e, q => by rw [ckE] at q; exact e_cst q
  | .glo g, ct, X, W, O, e, q => by rw [ckE] at q; exact e_glo O q
  | .bin o m x y, ct, X, W, O, e, q => by rw [ckE] at q; exact e_bin O (okE x ct X W O) (okE y ct X W O) q
  | .neg x, ct, X, W, O, e, q => by rw [ckE] at q; exact e_neg (okE x ct X W O) q
  | .cmp o x y, ct, X, W, O, e, q => by rw [ckE] at q; exact (e_cmp O (okE x ct X W O) (okE y ct X W O) q).1
  | .cmp2 o p x y z, ct, X, W, O, e, q => by rw [ckE] at q; exact (e_cmp2 O (okE x ct X W O) (okE y ct X W O) (okE z ct X W O) q).1
  | .and x y, ct, X, W, O, e, q => by rw [ckE] at q; exact e_and (okE x ct X W O) (okE y ct X W O) q
  | .or x y, ct, X, W, O, e, q => by rw [ckE] at q; exact e_or (okE x ct X W O) (okE y ct X W O) q
  | .not x, ct, X, W, O, e, q => by rw [ckE] at q; exact e_not (okE x ct X W O) q
  | .ife t x y, ct, X, W, O, e, q => by rw [ckE] at q; exact e_ife (okC t ct X W O) (okE x ct X W O) (okE y ct X W O) q
  | .tup xs, ct, X, W, O, e, q => by rw [ckE] at q; exact e_tup (okL xs ct X W O) q
  | .lst m xs, ct, X, W, O, e, q => by rw [ckE] at q; exact e_lst (okL xs ct X W O) q
  | .dic m ks xs, ct, X, W, O, e, q => by rw [ckE] at q; exact e_dic (okD xs ct X W O) q
  | .dic0 m t, ct, X, W, O, e, q => by rw [ckE] at q; exact e_dic0 q
  | .ix x y, ct, X, W, O, e, q => by rw [ckE] at q; exact e_ix O (okE x ct X W O) (okE y ct X W O) q
  | .sl x l h, ct, X, W, O, e, q => by rw [ckE] at q; exact e_sl O (okE x ct X W O) (okO l ct X W O) (okO h ct X W O) q
  | .rev x, ct, X, W, O, e, q => by rw [ckE] at q; exact e_rev O (okE x ct X W O) q
  | .call f xs ds, ct, X, W, O, e, q => by rw [ckE] at q; exact e_call O (okL xs ct X W O) q
  | .callK f xs ys order, ct, X, W, O, e, q => by rw [ckE] at q; exact e_callK O (okL xs ct X W O) (okK ys ct X W O) q
  | .blt f xs, ct, X, W, O, e, q => by rw [ckE] at q; exact e_blt O (okL xs ct X W O) q
  | .isi T x, ct, X, W, O, e, q => by rw [ckE] at q; exact e_isi O (okE x ct X W O) q
  | .isq x, ct, X, W, O, e, q => by rw [ckE] at q; exact e_isq O (okE x ct X W O) q
  | .app x y, ct, X, W, O, e, q => by rw [ckE] at q; exact e_app O (okE x ct X W O) (okE y ct X W O) q
  | .ext x y, ct, X, W, O, e, q => by rw [ckE] at q; exact e_ext O (okE x ct X W O) (okE y ct X W O) q
  | .pop x, ct, X, W, O, e, q => by rw [ckE] at q; exact e_pop O (okE x ct X W O) q
  | .get2 x y z, ct, X, W, O, e, q => by rw [ckE] at q; exact e_get2 O (okE x ct X W O) (okE y ct X W O) (okE z ct X W O) q
  | .fld x, ct, X, W, O, e, q => by rw [ckE] at q; exact e_fld O (okE x ct X W O) q
  | .lc m x g it t own, ct, X, W, O, e, q => by rw [ckE] at q; exact e_lc O (okE x) (okG g) (okI it) (okCo t) q
  | .lc2 m x g it g1 it1 own own1, ct, X, W, O, e, q => by rw [ckE] at q; exact e_lc2 O (okE x) (okG g) (okG g1) (okI it) (okI it1) q
theorem okL : ∀ xs : IEs, Inn wl k c fun X ct W => PLs X c W (wl.F k) ct (ckL xs) xs
  | .nil, ct, X, W, O, es, q => by
    rw [ckL] at q
    have e := List.isEmpty_iff.mp q
    subst e
    exact ⟨r_nil, fun a h => absurd h (by simp), rfl⟩
  | .cons x xs, ct, X, W, O, es, q => by
    cases es with
    | nil => rw [ckL] at q; cases q
    | cons e es =>
      simp only [ckL, Bool.and_eq_true] at q
      obtain ⟨⟨h1, h2⟩, h3⟩ := q
      obtain ⟨l1, l2, l3⟩ := okL xs ct X W O es h3
      refine ⟨r_cons (okE x ct X W O e h2) l1 (star_cons h1 _ _), fun a h => ?_, congrArg Nat.succ l3⟩
      rcases List.mem_cons.mp h with z | h
      · rw [z]; exact h1
      · exact l2 a h
theorem okK : ∀ xs : IEs, Inn wl k c fun X ct W => PKs X c W (wl.F k) ct (ckK xs) xs
  | .nil, ct, X, W, O, es, q => by
    rw [ckK] at q
    have e := List.isEmpty_iff.mp q
    subst e
    exact ⟨k_nil, rfl, rfl⟩
  | .cons x xs, ct, X, W, O, es, q => by
    cases es with
    | nil => simp only [ckK] at q; cases q
    | cons kw es =>
      obtain ⟨n, e, p⟩ := kw
      cases n with
      | none => simp only [ckK] at q; cases q
      | some n =>
        simp only [ckK, Bool.and_eq_true] at q
        obtain ⟨l1, l2, l3⟩ := okK xs ct X W O _ q.2
        refine ⟨k_cons (okE x ct X W O _ q.1) l1, ?_, congrArg Nat.succ l3⟩
        rw [List.all_cons, l2]
        rfl
theorem okD : ∀ xs : IEs, Inn wl k c fun X ct W => PDs X c W (wl.F k) ct (ckD xs) xs
  | .nil, ct, X, W, O, ks, keys, vals, q => by
    rw [ckD] at q
    simp only [Bool.and_eq_true, List.isEmpty_iff] at q
    obtain ⟨⟨rfl, rfl⟩, rfl⟩ := q
    exact ⟨fun pos => pps_nil, rfl⟩
  | .cons x xs, ct, X, W, O, [], keys, vals, q => by simp only [ckD] at q; cases q
  | .cons x xs, ct, X, W, O, kk :: ks, [], vals, q => by simp only [ckD] at q; cases q
  | .cons x xs, ct, X, W, O, kk :: ks, none :: keys, vals, q => by simp only [ckD] at q; cases q
  | .cons x xs, ct, X, W, O, kk :: ks, some ke :: keys, [], q => by simp only [ckD] at q; cases q
  | .cons x xs, ct, X, W, O, kk :: ks, some ke :: keys, v :: vals, q => by
    simp only [ckD, Bool.and_eq_true] at q
    obtain ⟨⟨h1, h2⟩, h3⟩ := q
    obtain ⟨l1, l2⟩ := okD xs ct X W O _ _ _ h3
    exact ⟨fun pos => pps_cons (pe_key (key_ok h1)) (okE x ct X W O _ h2) (l1 pos), congrArg Nat.succ l2⟩
theorem okO : ∀ x : IEo, Inn wl k c fun X ct W => POs X c W (wl.F k) ct (ckO x) x
  | .non, ct, X, W, O, e, q => by
    rw [ckO] at q
    cases e with
    | none => exact r_onon
    | some e => cases q
  | .som x, ct, X, W, O, e, q => by
    cases e with
    | none => simp only [ckO] at q; cases q
    | some e => simp only [ckO] at q; exact r_osom (okE x ct X W O e q)
theorem okC : ∀ x : IC, Inn wl k c fun X ct W => PCs X c W (wl.F k) ct (ckC x) x
  | .val x, ct, X, W, O, e, q => by rw [ckC] at q; exact c_val O (okE x ct X W O) q
  | .cp o x y, ct, X, W, O, e, q => by rw [ckC] at q; exact c_cp O (okE x ct X W O) (okE y ct X W O) q
  | .cp2 o p x y z, ct, X, W, O, e, q => by rw [ckC] at q; exact c_cp2 O (okE x ct X W O) (okE y ct X W O) (okE z ct X W O) q
  | .and a b, ct, X, W, O, e, q => by rw [ckC] at q; exact c_and (okC a ct X W O) (okC b ct X W O) q
  | .or a b, ct, X, W, O, e, q => by rw [ckC] at q; exact c_or (okC a ct X W O) (okC b ct X W O) q
  | .not a, ct, X, W, O, e, q => by rw [ckC] at q; exact c_not (okC a ct X W O) q
theorem okCo : ∀ x : ICo, Inn wl k c fun X ct W => PTz X c W (wl.F k) ct (ckCo x) x
  | .non, ct, X, W, O, es, q => by
    rw [ckCo] at q
    have e := List.isEmpty_iff.mp q
    subst e
    exact t_non
  | .som t, ct, X, W, O, [], q => by simp only [ckCo] at q; cases q
  | .som t, ct, X, W, O, [e], q => by simp only [ckCo] at q; exact t_som (okC t ct X W O _ q).1
  | .som t, ct, X, W, O, _ :: _ :: _, q => by simp only [ckCo] at q; cases q
theorem okI : ∀ x : IT, Inn wl k c fun X ct W => PIz X c W (wl.F k) ct (ckI x) x
  | .seq x, ct, X, W, O, tg, e, q => by rw [ckI] at q; exact i_seq O.cK (okE x ct X W O e q)
  | .rng1 x, ct, X, W, O, tg, e, q => by rw [ckI] at q; exact i_rng1' O (okE x ct X W O) q
  | .rng2 x y, ct, X, W, O, tg, e, q => by rw [ckI] at q; exact i_rng2' O (okE x ct X W O) (okE y ct X W O) q
  | .enm x, ct, X, W, O, tg, e, q => by rw [ckI] at q; exact i_enm' O (okE x ct X W O) q
  | .zip x y, ct, X, W, O, tg, e, q => by rw [ckI] at q; exact i_zip' O (okE x ct X W O) (okE y ct X W O) q
theorem okG : ∀ x : IG, Inn wl k c fun X ct W => PGz X c (wl.F k) ct (ckG x) x
  | .nm i, ct, X, W, O, e, q => by rw [ckG] at q; exact t_nm O q
  | .tp gs, ct, X, W, O, e, q => by
    rw [ckG] at q
    cases e <;> first | (cases q; done) | skip
    obtain ⟨h1, h2, h3⟩ := okGs gs ct X W O _ q
    exact g_tup O.cK O.calm h1 h3 h2 fun ds env st env1 st1 h => asgs_len h
  | .ix x y, ct, X, W, O, e, q => by
    rw [ckG] at q
    cases e <;> first | (cases q; done) | skip
    simp only [ckSub, Bool.and_eq_true] at q
    have On := O.no
    exact g_ix (r := O.room) O.cK (okE x ct X nW On _ q.1.2) (okE y ct X nW On _ q.2) (set_ok q.1.1 _ _)
theorem okGs : ∀ x : IGs, Inn wl k c fun X ct W => PGsz X c (wl.F k) ct (ckGs x) x
  | .nil, ct, X, W, O, es, q => by
    rw [ckGs] at q
    have e := List.isEmpty_iff.mp q
    subst e
    exact ⟨g_nil, rfl, rfl⟩
  | .cons g gs, ct, X, W, O, es, q => by
    cases es with
    | nil => simp only [ckGs] at q; cases q
    | cons e es =>
      simp only [ckGs, Bool.and_eq_true] at q
      obtain ⟨⟨h1, h2⟩, h3⟩ := q
      obtain ⟨l1, l2, l3⟩ := okGs gs ct X W O es h3
      refine ⟨g_cons (okG g ct X W O e h2) l1 (by rw [asn_cons h1]; rfl), ?_, ?_⟩
      · rw [asn_cons h1, List.findIdx?_cons]
        simp [l2]
      · rw [asn_cons h1]
        exact congrArg Nat.succ l3
end
end
end Y
/-! Y18: statements checked. -/
namespace Y
open PySem PySem.Spec PyProof.Rows L2

/-! ### a, b = x, y -/
def swNames (sc : Scope) (ts : List Expr) : List Str := ts.filterMap fun
  | .Name id pos => if sc.names.lookup id == some .local && pos.line == (ts.head?.map (·.pos.line)).getD 0 then some id else none
  | _ => none
/-- none: not known -/
def swTT (sc : Scope) (ts vs : List Expr) : Option (Option (List Str)) :=
  if (!(ts.length == 2 || ts.length == 3) || vs.length != ts.length) = true then some none
  else if (vs.any fun | .Starred .. => true | _ => false) = true then some none
  else if ((swNames sc ts).length != ts.length || (swNames sc ts).eraseDups.length != (swNames sc ts).length) = true then some none
  else if vs.all (foldedForSure 8) = true then some none
  else if vs.all (constantsAlone 8) = true then none
  else some (some (swNames sc ts))
theorem swTT_ok {env : PySem.Env} {sc : Scope} {ts vs : List Expr} {r : Option (List Str)} (hk : env.scope.kind = .function) (hs : env.scope = sc) (h : swTT sc ts vs = some r) (k k2 : Nat) (p p2 : Pos) : swappedStores [.Tuple ts k p] (.Tuple vs k2 p2) env = pure r := by
  have hb : (env.blockKind != .function) = false := by unfold Env.blockKind; rw [hk]; rfl
  subst hs
  unfold swTT at h
  unfold swappedStores
  simp only [hb, Bool.or_false]
  split at h
  · rename_i c1
    cases h
    exact if_pos c1
  · rename_i c1
    refine (if_neg c1).trans ?_
    split at h
    · rename_i c2
      cases h
      exact if_pos c2
    · rename_i c2
      refine (if_neg c2).trans ?_
      split at h
      · rename_i c3
        cases h
        exact if_pos c3
      · rename_i c3
        refine (if_neg c3).trans ?_
        split at h
        · rename_i c4
          cases h
          exact if_pos c4
        · rename_i c4
          refine (if_neg c4).trans ?_
          split at h
          · cases h
          · rename_i c5
            cases h
            exact if_neg c5

/-! ### x = [.. for ..] -/
def swB (sc : Scope) (tg e : Expr) : Bool := match e with
  | .ListComp _ _ s p => (match tg with
    | .Name t pos => sc.names.lookup t == some .local && pos.line == p.line && !(s.names.any fun (n, k) => n == t && (k == .local || k == .cell))
    | _ => false)
  | _ => false
def noComp2 : Expr → Bool
  | .SetComp _ _ _ _ => false
  | .DictComp _ _ _ _ _ => false
  | _ => true
theorem swB_ok {env : PySem.Env} {sc : Scope} {tg e : Expr} (hk : env.scope.kind = .function) (hs : env.scope = sc) (hn : noComp2 e = true) (l : Nat) : swapsWith e (some tg) l env = pure (swB sc tg e) := by
  have hb : (env.blockKind == .function) = true := by unfold Env.blockKind; rw [hk]; rfl
  subst hs
  cases e <;> first | (cases hn; done) | rfl | skip
  cases tg <;> first | rfl | skip
  unfold swapsWith
  simp only [hb, Bool.true_and]
  rfl

/-! ### the checker of statements -/
abbrev CkS := CT → Stmt → Bool
/-- stores of no exchanged kind -/
def noEx' (sc : Scope) (tg a : Expr) : Bool := match tg with
  | .Tuple ts _ _ => (match a with
    | .Tuple vs _ _ => decide (swTT sc ts vs = some none)
    | _ => true)
  | .Name _ _ => true
  | .Subscript _ _ _ => true
  | _ => false
theorem noSw_ok {env : PySem.Env} {sc : Scope} {tg e : Expr} (hk : env.scope.kind = .function) (hs : env.scope = sc) (h : noEx' sc tg e = true) : swappedStores [tg] e env = pure none := by
  cases tg <;> first | (cases h; done) | skip
  · cases e <;> rfl
  · cases e <;> rfl
  · cases e <;> first | rfl | skip
    exact swTT_ok hk hs (of_decide_eq_true h) _ _ _ _
def ckAsg (g f : CkE) : CkS := fun ct s => match s with
  | .Assign [tg] a _ => notStar tg && noComp2 a && !swB ct.sc tg a && noEx' ct.sc tg a && f ct a && g ct tg
  | _ => false
/-- x = [.. for ..], the list stored first -/
def ckSetLc (i : Nat) (f : CkE) : CkS := fun ct s => match s with
  | .Assign [.Name n py] (.ListComp elt gs sc p) _ => decide (ct.N[i]? = some n) && lclB ct n && swB ct.sc (.Name n py) (.ListComp elt gs sc p) && f ct (.ListComp elt gs sc p)
  | _ => false
def isLc : IE → Bool
  | .lc _ _ _ _ _ _ => true
  | .lc2 _ _ _ _ _ _ _ _ => true
  | _ => false
def ckSet (g : IG) (gk : CkE) (x : IE) (f : CkE) : CkS := fun ct s => ckAsg gk f ct s || (match g with
  | .nm i => isLc x && ckSetLc i f ct s
  | _ => false)
def ckPar (i j : Nat) (f g : CkE) : CkS := fun ct s => match s with
  | .Assign [.Tuple [.Name n px, .Name m py] kt pt] (.Tuple [a, b] k2 pt2) _ => decide (i ≠ j) && decide (ct.N[i]? = some n) && decide (ct.N[j]? = some m) && lclB ct n && lclB ct m && notStar a && notStar b &&
      decide (swTT ct.sc [.Name n px, .Name m py] [a, b] = some (some [n, m])) && f ct a && g ct b
  | _ => false
def ckPar3 (i j l : Nat) (f g h : CkE) : CkS := fun ct s => match s with
  | .Assign [.Tuple [.Name n px, .Name m py, .Name o pz] kt pt] (.Tuple [a, b, e] k2 pt2) _ => decide (i ≠ j) && decide (i ≠ l) && decide (j ≠ l) && decide (ct.N[i]? = some n) && decide (ct.N[j]? = some m) && decide (ct.N[l]? = some o) && lclB ct n && lclB ct m && lclB ct o && notStar a && notStar b && notStar e &&
      decide (swTT ct.sc [.Name n px, .Name m py, .Name o pz] [a, b, e] = some (some [n, m, o])) && f ct a && g ct b && h ct e
  | _ => false
def ckExpr (f : CkE) : CkS := fun ct s => match s with
  | .Expr a _ => noComp a && f ct a
  | _ => false
def ckRet (f : CkE) : CkS := fun ct s => match s with
  | .Return (some a) _ => f ct a
  | _ => false
def ckRetN : CkS := fun _ s => match s with
  | .Return none _ => true
  | _ => false
def ckIte (t : CkE) (f g : CT → List Stmt → Bool) : CkS := fun ct s => match s with
  | .If c a b _ => t ct c && f ct a && g ct b
  | _ => false
def ckFor (g : CkE) (it : CkI) (f : CT → List Stmt → Bool) : CkS := fun ct s => match s with
  | .For tg iter body [] _ => noSet iter && it ct tg iter && g ct tg && f ct body
  | _ => false
def ckWhile (t : CkE) (f : CT → List Stmt → Bool) : CkS := fun ct s => match s with
  | .While c body [] _ => t ct c && f ct body
  | _ => false
def ckBrk : CkS := fun _ s => match s with
  | .Break _ => true
  | _ => false
def ckCnt : CkS := fun _ s => match s with
  | .Continue _ => true
  | _ => false
def ckPass : CkS := fun _ s => match s with
  | .Pass _ => true
  | _ => false
def ckRaise (e : Nat) (f : CkE) : CkS := fun ct s => match s with
  | .Raise (some (.Call (.Name n _) [a] [] _)) none _ => glB ct n && decide ((n, e) ∈ ct.xc) && notStar a && f ct a
  | _ => false
def ckHd (err found : Str) (q : Nat × Hk) (ct : CT) (h : ExceptHandler) : Bool := match h with
  | .ExceptHandler (some (.Name x _)) (some n) [b] _ => decide (n = err) && glB ct x && decide ((x, q.1) ∈ ct.xc) && decide (q.1 < ct.xc.length) && hkB err found q.2 b
  | _ => false
def ckHds (err found : Str) : List (Nat × Hk) → CT → List ExceptHandler → Bool
  | [], _, hs => hs.isEmpty
  | q :: qs, ct, hs => match hs with
    | h :: hs => ckHd err found q ct h && ckHds err found qs ct hs
    | [] => false
def ckTryv (i j m : Nat) (hs : List (Nat × Hk)) (f : CT → List Stmt → Bool) : CkS := fun ct s => match s with
  | .Try body (h :: hds) [] [] _ => (match ct.N[i]?, ct.N[j]? with
    | some err, some found => decide (i ≠ j) && lclB ct err && lclB ct found && okNm err && decide (m ≤ ct.xc.length) && ckHds err found hs ct (h :: hds) && f ct body
    | _, _ => false)
  | _ => false
mutual
def ckS : IS → CkS
  | .asg g x => ckSet g (ckG g) x (ckE x)
  | .par i j x y => ckPar i j (ckE x) (ckE y)
  | .par3 i j l x y z => ckPar3 i j l (ckE x) (ckE y) (ckE z)
  | .aug _ _ _ => fun _ _ => false
  | .expr x => ckExpr (ckE x)
  | .ret x => ckRet (ckE x)
  | .retN => ckRetN
  | .ite t a b => ckIte (ckC t) (ckSs a) (ckSs b)
  | .for g it b => ckFor (ckG g) (ckI it) (ckSs b)
  | .while t b => ckWhile (ckC t) (ckSs b)
  | .brk => ckBrk
  | .cnt => ckCnt
  | .pass => ckPass
  | .never => fun _ _ => true
  | .raise e x => ckRaise e (ckE x)
  | .tryv i j m hs b => ckTryv i j m hs (ckSs b)
def ckSs : ISs → CT → List Stmt → Bool
  | .nil, _, ss => ss.isEmpty
  | .cons s ss, ct, st => match st with
    | t :: st => ckS s ct t && ckSs ss ct st
    | [] => false
end

section
variable {wl : Wl} {k : Nat} {c : Cc} {ct : CT} {X : Cx} {W : WX} {s : Stmt} {f g : CkE}
theorem s_asg' (O : Cxo wl k c ct X W) {gi : IG} {x : IE} (hg : PGz X c (wl.F k) ct g gi) (hf : PEs X c W (wl.F k) ct f x) (q : ckAsg g f ct s = true) : PS X s (S c W (wl.F k) (.asg gi x)) := by
  unfold ckAsg at q
  split at q
  · simp only [Bool.and_eq_true, Bool.not_eq_true'] at q
    obtain ⟨⟨⟨⟨⟨h1, h2⟩, h3⟩, h4⟩, h5⟩, h6⟩ := q
    have hk : X.env.scope.kind = .function := by rw [O.sc]; exact O.kind
    refine s_asg (hf _ h5) (hg _ h6) ?_ (noSw_ok hk O.sc h4) (by rw [asn_cons h1]; rfl)
    show swapsWith _ (some _) _ _ = _
    rw [swB_ok hk O.sc h2, h3]
  · cases q
theorem s_par' (O : Cxo wl k c ct X W) {i j : Nat} {x y : IE} (hf : PEs X c W (wl.F k) ct f x) (hg : PEs X c W (wl.F k) ct g y) (q : ckPar i j f g ct s = true) : PS X s (S c W (wl.F k) (.par i j x y)) := by
  unfold ckPar at q
  split at q
  · simp only [Bool.and_eq_true, decide_eq_true_eq, lclB] at q
    obtain ⟨⟨⟨⟨⟨⟨⟨⟨⟨h1, h2⟩, h3⟩, h4⟩, h5⟩, h6⟩, h7⟩, h8⟩, h9⟩, h10⟩ := q
    have hk : X.env.scope.kind = .function := by rw [O.sc]; exact O.kind
    exact s_par O.calm (by rw [O.N]; exact O.nd) (by rw [O.N]; exact h2) (by rw [O.N]; exact h3) h1 (by rw [O.sc]; exact h4) (by rw [O.sc]; exact h5) (hf _ h9) (hg _ h10) (star2 h6 h7 _) (star1 h7 _) (swTT_ok hk O.sc h8 _ _ _ _) rfl
  · cases q
theorem s_par3' (O : Cxo wl k c ct X W) {h : CkE} {i j l : Nat} {x y z : IE} (hf : PEs X c W (wl.F k) ct f x) (hg : PEs X c W (wl.F k) ct g y) (hh : PEs X c W (wl.F k) ct h z) (q : ckPar3 i j l f g h ct s = true) : PS X s (S c W (wl.F k) (.par3 i j l x y z)) := by
  unfold ckPar3 at q
  split at q
  · simp only [Bool.and_eq_true, decide_eq_true_eq, lclB] at q
    obtain ⟨⟨⟨⟨⟨⟨⟨⟨⟨⟨⟨⟨⟨⟨⟨a1, a2⟩, a3⟩, b1⟩, b2⟩, b3⟩, c1⟩, c2⟩, c3⟩, n1⟩, n2⟩, n3⟩, w1⟩, e1⟩, e2⟩, e3⟩ := q
    have hk : X.env.scope.kind = .function := by rw [O.sc]; exact O.kind
    exact s_par3 O.calm (by rw [O.N]; exact O.nd) (by rw [O.N]; exact b1) (by rw [O.N]; exact b2) (by rw [O.N]; exact b3) a1 a2 a3 (by rw [O.sc]; exact c1) (by rw [O.sc]; exact c2) (by rw [O.sc]; exact c3) (hf _ e1) (hg _ e2) (hh _ e3) n1 n2 n3 (swTT_ok hk O.sc w1 _ _ _ _) rfl
  · cases q
theorem s_expr' (O : Cxo wl k c ct X W) {x : IE} (hf : PEs X c W (wl.F k) ct f x) (q : ckExpr f ct s = true) : PS X s (S c W (wl.F k) (.expr x)) := by
  cases s <;> first | (cases q; done) | skip
  simp only [ckExpr, Bool.and_eq_true] at q
  exact s_expr (hf _ q.2) (sw_none q.1 _ _ _)
theorem s_ret' {x : IE} (hf : PEs X c W (wl.F k) ct f x) (q : ckRet f ct s = true) : PS X s (S c W (wl.F k) (.ret x)) := by
  unfold ckRet at q
  split at q
  · exact s_ret (hf _ q)
  · cases q
theorem s_retN' (q : ckRetN ct s = true) : PS X s (S c W (wl.F k) .retN) := by
  unfold ckRetN at q
  split at q
  · exact s_retN
  · cases q
abbrev PSz (X : Cx) (c : Cc) (W : WX) (Fx : Fs) (ct : CT) (f : CT → List Stmt → Bool) (x : ISs) : Prop := ∀ es, f ct es = true → PSs X es (Ss c W Fx x)
theorem s_ite' {t : CkE} {ic : IC} {fa fb : CT → List Stmt → Bool} {ia ib : ISs} (ht : PCs X c W (wl.F k) ct t ic) (ha : PSz X c W (wl.F k) ct fa ia) (hb : PSz X c W (wl.F k) ct fb ib) (q : ckIte t fa fb ct s = true) : PS X s (S c W (wl.F k) (.ite ic ia ib)) := by
  cases s <;> first | (cases q; done) | skip
  simp only [ckIte, Bool.and_eq_true] at q
  exact s_ite (ht _ q.1.1).1 (ha _ q.1.2) (hb _ q.2)
theorem s_for' (O : Cxo wl k c ct X W) (hp : PassesOwn (model X.prog X.w) X.A X.env X.xe) {it : CkI} {gi : IG} {ii : IT} {fb : CT → List Stmt → Bool} {ib : ISs} (hg : PGz X c (wl.F k) ct g gi) (hi : PIz X c W (wl.F k) ct it ii) (hb : PSz X c W (wl.F k) ct fb ib) (q : ckFor g it fb ct s = true) :
    PS X s (S c W (wl.F k) (.for gi ii ib)) := by
  unfold ckFor at q
  split at q
  · simp only [Bool.and_eq_true] at q
    obtain ⟨⟨⟨h1, h2⟩, h3⟩, h4⟩ := q
    exact s_for hp O.calm (hi _ _ h2) (hg _ h3) (hb _ h4) fun x => fold_ok h1 _ x
  · cases q
theorem s_while' (hp : PassesOwn (model X.prog X.w) X.A X.env X.xe) {t : CkE} {ic : IC} {fb : CT → List Stmt → Bool} {ib : ISs} (ht : PCs X c W (wl.F k) ct t ic) (hb : PSz X c W (wl.F k) ct fb ib) (q : ckWhile t fb ct s = true) : PS X s (S c W (wl.F k) (.while ic ib)) := by
  unfold ckWhile at q
  split at q
  · simp only [Bool.and_eq_true] at q
    exact s_while hp (ht _ q.1).1 (hb _ q.2)
  · cases q
theorem s_setLc' (O : Cxo wl k c ct X W) {i : Nat} {m : Bool} {x : IE} {g : IG} {it : IT} {t : ICo} {own : List Nat} (q : ckSetLc i (ckE (.lc m x g it t own)) ct s = true) : PS X s (S c W (wl.F k) (.asg (.nm i) (.lc m x g it t own))) := by
  unfold ckSetLc at q
  split at q
  · rename_i n py elt gs sc p sp
    simp only [Bool.and_eq_true, decide_eq_true_eq, lclB] at q
    obtain ⟨⟨⟨h1, h2⟩, h3⟩, h4⟩ := q
    have hk : X.env.scope.kind = .function := by rw [O.sc]; exact O.kind
    rw [ckE] at h4
    unfold ckLc at h4
    split at h4
    · rename_i elt' tg iter ifs as scope pos heq
      cases heq
      simp only [Bool.and_eq_true, decide_eq_true_eq, List.all_eq_true] at h4
      obtain ⟨⟨⟨⟨⟨⟨⟨rfl, l1⟩, l2⟩, l3⟩, l4⟩, l5⟩, l6⟩, l7⟩ := h4
      have ok := blkOk_by l2
      have e1 := own_ix ct.N own
      have r := s_setLc (pos := p) (spos := sp) (py := py) (n := n) (i := i) (W := W) (m := m) (own := ownP ct.N own) O.calm (by rw [O.N]; exact O.nd) (by rw [O.N]; exact h1) (by rw [O.sc]; exact h2) (by rw [swB_ok hk O.sc rfl, h3]) (okI it _ _ _ O _ _ l3) (by rw [O.N, O.sc]; exact ok)
        (fun s H C cl fp => okG g _ _ _ (O.inn ok.kind s H C cl fp) _ l4) (fun s H C cl fp => okCo t _ _ _ (O.inn ok.kind s H C cl fp) _ l5) (fun s H C cl fp => okE x _ _ _ (O.inn ok.kind s H C cl fp) _ l6) (fun x => fold_ok l1 _ x) (by rw [e1]; exact l7)
      rw [e1] at r
      exact r
    · cases h4
  · cases q
theorem s_setLc2' (O : Cxo wl k c ct X W) {i : Nat} {m : Bool} {x : IE} {g g1 : IG} {it it1 : IT} {own own1 : List Nat} (q : ckSetLc i (ckE (.lc2 m x g it g1 it1 own own1)) ct s = true) : PS X s (S c W (wl.F k) (.asg (.nm i) (.lc2 m x g it g1 it1 own own1))) := by
  unfold ckSetLc at q
  split at q
  · rename_i n py elt gs sc p sp
    simp only [Bool.and_eq_true, decide_eq_true_eq, lclB] at q
    obtain ⟨⟨⟨h1, h2⟩, h3⟩, h4⟩ := q
    have hk : X.env.scope.kind = .function := by rw [O.sc]; exact O.kind
    rw [ckE] at h4
    unfold ckLc2 at h4
    split at h4
    · rename_i elt' tg iter ifs as tg1 iter1 ifs1 as1 scope pos heq
      cases heq
      simp only [Bool.and_eq_true, decide_eq_true_eq, List.all_eq_true, List.isEmpty_iff] at h4
      obtain ⟨⟨⟨⟨⟨⟨⟨⟨⟨⟨⟨⟨⟨⟨rfl, rfl⟩, rfl⟩, rfl⟩, l1⟩, l1'⟩, l2⟩, l3⟩, l4⟩, l5⟩, l6⟩, l7⟩, l8⟩, l9⟩, l10⟩ := h4
      have ok := blkOk_by l2
      have e1 := own_ix ct.N own
      have r := s_setLc2 (pos := p) (spos := sp) (py := py) (n := n) (i := i) (W := W) (m := m) (own := ownP ct.N own) (own1 := own1) O.calm (by rw [O.N]; exact O.nd) (by rw [O.N]; exact h1) (by rw [O.sc]; exact h2) (by rw [swB_ok hk O.sc rfl, h3]) (okI it _ _ _ O _ _ l3) (by rw [O.N, O.sc]; exact ok) (by rw [e1]; exact l8)
        (fun s H C cl fp => okG g _ _ _ (O.inn ok.kind s H C cl fp) _ l4) (fun s H C cl fp => okI it1 _ _ _ (O.inn ok.kind s H C cl fp) _ _ l5) (fun s H C cl fp => okG g1 _ _ _ (O.inn ok.kind s H C cl fp) _ l6) (fun s H C cl fp => okE x _ _ _ (O.inn ok.kind s H C cl fp) _ l7)
        (fun x => fold_ok l1 _ x) (fun env x => fold_ok l1' env x) (by rw [e1]; exact l9) l10
      rw [e1] at r
      exact r
    · cases h4
  · cases q
theorem s_set' (O : Cxo wl k c ct X W) {gi : IG} {x : IE} (q : ckSet gi (ckG gi) x (ckE x) ct s = true) : PS X s (S c W (wl.F k) (.asg gi x)) := by
  unfold ckSet at q
  rw [Bool.or_eq_true] at q
  rcases q with q | q
  · exact s_asg' O (okG gi _ _ _ O) (okE x _ _ _ O) q
  · cases gi <;> first | (cases q; done) | skip
    simp only [Bool.and_eq_true] at q
    obtain ⟨q1, q2⟩ := q
    cases x <;> first | (cases q1; done) | skip
    · exact s_setLc' O q2
    · exact s_setLc2' O q2
theorem s_raise' (O : Cxo wl k c ct X W) {e : Nat} {x : IE} (hf : PEs X c W (wl.F k) ct f x) (q : ckRaise e f ct s = true) : PS X s (S c W (wl.F k) (.raise e x)) := by
  unfold ckRaise at q
  split at q
  · rename_i n p a pos pos'
    simp only [Bool.and_eq_true, decide_eq_true_eq] at q
    obtain ⟨⟨⟨h1, h2⟩, h3⟩, h4⟩ := q
    obtain ⟨g1, g2⟩ := O.gl h1
    have F := O.fs.xc _ h2
    have ek : c.cls = wl.cls := by rw [O.hc]; rfl
    have eK := O.K
    have RC : RaiseC X 1 n (wl.cls e) := by
      obtain ⟨fI, D, fd, a1, a2, a3, a4, a5⟩ := F.ex
      exact ⟨⟨fI, D, fd, eK ▸ a1, eK ▸ a2, eK ▸ a3, eK ▸ a4, eK ▸ a5⟩, eK ▸ F.T, F.mg⟩
    exact s_raise RC O.calm O.tk (O.room2.mono (by omega)) g1 (by rw [ek]) (hf _ h4) (star1 h3 _) g2
  · cases q
abbrev PSz' (wl : Wl) (k : Nat) (c : Cc) (f : CT → List Stmt → Bool) (x : ISs) : Prop := ∀ (ct : CT) (X : Cx) (W : WX), Cxo wl k c ct X W → PassesOwn (model X.prog X.w) X.A X.env X.xe → (X.stack = X.env :: X.outer ∧ X.env.frame = some X.env.locals ∧ X.ex = []) → PSz X c W (wl.F k) ct f x
theorem hds_ok (O : Cxo wl k c ct X W) {i j : Nat} {err found : Str} (hi : X.N[i]? = some err) (hj : X.N[j]? = some found) (hle : lclB ct err = true) (hlf : lclB ct found = true) (ho : okNm err = true) : ∀ (hs : List (Nat × Hk)) (hds : List ExceptHandler), ckHds err found hs ct hds = true →
    HdsA X err hds (hs.map fun q => (Value.ref (c.cls q.1), hkT i j (c.cls q.1) q.2)) ∧ ∀ q ∈ hs, q.1 < ct.xc.length ∧ CatchC c.K (c.cls q.1)
  | [], hds, h => by
    have e := List.isEmpty_iff.mp (show hds.isEmpty = true from h)
    subst e
    exact ⟨.nil, fun q hq => absurd hq (by simp)⟩
  | q :: qs, [], h => by cases h
  | q :: qs, hd :: hds, h => by
    simp only [ckHds, Bool.and_eq_true] at h
    obtain ⟨h1, h2⟩ := h
    obtain ⟨r1, r2⟩ := hds_ok O hi hj hle hlf ho qs hds h2
    unfold ckHd at h1
    split at h1
    · simp only [Bool.and_eq_true, decide_eq_true_eq] at h1
      obtain ⟨⟨⟨⟨rfl, a1⟩, a2⟩, a3⟩, a4⟩ := h1
      have F := O.fs.xc _ a2
      have ek : c.cls = wl.cls := by rw [O.hc]; rfl
      have cc : CatchC c.K (c.cls q.1) := by
        rw [ek, O.cK, ← O.K]
        exact F.cc
      have ccX : CatchC X.K (c.cls q.1) := O.cK ▸ cc
      simp only [lclB, decide_eq_true_eq] at hle hlf
      simp only [okNm, Bool.and_eq_true, Bool.not_eq_true'] at ho
      obtain ⟨g1, g2⟩ := O.gl a1
      refine ⟨.cons ⟨g1, g2, .inl (by rw [ek]; exact F.mg)⟩ (suite_ok ccX.xf ccX.no (by rw [O.N]; exact O.nd) hi hj (.inl (by rw [O.sc]; exact hle)) (by rw [O.sc]; exact hlf) ho.1 ho.2 a4) r1, fun p hp => ?_⟩
      rcases List.mem_cons.mp hp with z | z
      · rw [z]; exact ⟨a3, cc⟩
      · exact r2 p z
    · cases h1
theorem s_tryv' (O : Cxo wl k c ct X W) (hst : X.stack = X.env :: X.outer ∧ X.env.frame = some X.env.locals ∧ X.ex = []) {i j m : Nat} {hs : List (Nat × Hk)} {fb : CT → List Stmt → Bool} {ib : ISs} (hb : PSz' wl k c fb ib) (q : ckTryv i j m hs fb ct s = true) :
    PS X s (S c W (wl.F k) (.tryv i j m hs ib)) := by
  unfold ckTryv at q
  split at q
  · split at q
    · rename_i err found ei ej
      simp only [Bool.and_eq_true, decide_eq_true_eq] at q
      obtain ⟨⟨⟨⟨⟨⟨h1, h2⟩, h3⟩, h4⟩, h5⟩, h6⟩, h7⟩ := q
      have hi : X.N[i]? = some err := by rw [O.N]; exact ei
      have hj : X.N[j]? = some found := by rw [O.N]; exact ej
      obtain ⟨r1, r2⟩ := hds_ok O hi hj h2 h3 h4 hs _ h6
      have ek : c.cls = wl.cls := by rw [O.hc]; rfl
      refine s_tryv hst.1 hst.2.1 hst.2.2 O.tk (by rw [O.N]; exact O.nd) hi (by simp only [lclB, decide_eq_true_eq] at h2; show X.env.scope.names.lookup err = _; rw [O.sc]; exact h2) h1 (fun e he p hp => ?_) (fun p hp => (r2 p hp).2) (fun W' pn xe tk' hp' => ?_) r1
      · rw [ek, ← O.K]
        exact O.fs.xm e p.1 (Nat.lt_of_lt_of_le he h5) (r2 p hp).1
      · exact hb ct (X.tr pn xe) W' ⟨O.N, O.nd, O.sc, O.kind, O.hc, O.K, O.calm, O.gd, O.room2, tk', O.top, O.fs⟩ hp' hst _ h7
    · cases q
  · cases q
mutual
theorem okS : ∀ (x : IS) (ct : CT) (X : Cx) (W : WX), Cxo wl k c ct X W → PassesOwn (model X.prog X.w) X.A X.env X.xe → (X.stack = X.env :: X.outer ∧ X.env.frame = some X.env.locals ∧ X.ex = []) → ∀ (s : Stmt), ckS x ct s = true → PS X s (S c W (wl.F k) x)
  | .asg g x, ct, X, W, O, hp, hst, s, q => by rw [ckS] at q; exact s_set' O q
  | .par i j x y, ct, X, W, O, hp, hst, s, q => by rw [ckS] at q; exact s_par' O (okE x _ _ _ O) (okE y _ _ _ O) q
  | .par3 i j l x y z, ct, X, W, O, hp, hst, s, q => by rw [ckS] at q; exact s_par3' O (okE x _ _ _ O) (okE y _ _ _ O) (okE z _ _ _ O) q
  | .aug _ _ _, ct, X, W, O, hp, hst, s, q => by rw [ckS] at q; cases q
  | .expr x, ct, X, W, O, hp, hst, s, q => by rw [ckS] at q; exact s_expr' O (okE x _ _ _ O) q
  | .ret x, ct, X, W, O, hp, hst, s, q => by rw [ckS] at q; exact s_ret' (okE x _ _ _ O) q
  | .retN, ct, X, W, O, hp, hst, s, q => by rw [ckS] at q; exact s_retN' q
  | .ite t a b, ct, X, W, O, hp, hst, s, q => by rw [ckS] at q; exact s_ite' (okC t _ _ _ O) (okSs a ct X W O hp hst) (okSs b ct X W O hp hst) q
  | .for g it b, ct, X, W, O, hp, hst, s, q => by rw [ckS] at q; exact s_for' O hp (okG g _ _ _ O) (okI it _ _ _ O) (okSs b ct X W O hp hst) q
  | .while t b, ct, X, W, O, hp, hst, s, q => by rw [ckS] at q; exact s_while' hp (okC t _ _ _ O) (okSs b ct X W O hp hst) q
  | .brk, ct, X, W, O, hp, hst, s, q => by
    rw [ckS] at q
    cases s <;> first | (cases q; done) | skip
    exact s_brk
  | .cnt, ct, X, W, O, hp, hst, s, q => by
    rw [ckS] at q
    cases s <;> first | (cases q; done) | skip
    exact s_cnt
  | .pass, ct, X, W, O, hp, hst, s, q => by
    rw [ckS] at q
    cases s <;> first | (cases q; done) | skip
    exact s_pass
  | .never, ct, X, W, O, hp, hst, s, q => s_never
  | .raise e x, ct, X, W, O, hp, hst, s, q => by rw [ckS] at q; exact s_raise' O (okE x _ _ _ O) q
  | .tryv i j m hs b, ct, X, W, O, hp, hst, s, q => by rw [ckS] at q; exact s_tryv' O hst (okSs b) q
theorem okSs : ∀ (x : ISs), PSz' wl k c (ckSs x) x
  | .nil, ct, X, W, O, hp, hst, ss, q => by
    rw [ckSs] at q
    have e := List.isEmpty_iff.mp q
    subst e
    exact s_nil
  | .cons x xs, ct, X, W, O, hp, hst, [], q => by simp only [ckSs] at q; cases q
  | .cons x xs, ct, X, W, O, hp, hst, s :: ss, q => by
    simp only [ckSs, Bool.and_eq_true] at q
    exact s_cons (okS x ct X W O hp hst s q.1) (okSs xs ct X W O hp hst ss q.2)
end
end
end Y
/-! Y19: all defs keep their promises; the law's end. -/
namespace Y
open PySem PySem.Spec PyProof.Rows L2

/-- a def, as text and as a term -/
structure FnI where
  name : Str
  args : Arguments
  body : List Stmt
  scope : Scope
  ps : List Str
  N : List Str
  fd : Fd
  dfl : List He.Dv := []
def FnI.ct (f : FnI) (pc : List (Str × Nat × Nat × List D)) (kc : List (Str × Nat × List Str × Nat × List Nat)) (cn : List (Str × Nat)) (bl : List Str) (xc : List (Str × Nat)) : CT := ⟨f.N, f.scope, true, [], pc, kc, cn, bl, xc⟩
/-- the text is read as the term -/
def FnI.ok (f : FnI) (pc : List (Str × Nat × Nat × List D)) (kc : List (Str × Nat × List Str × Nat × List Nat)) (cn : List (Str × Nat)) (bl : List Str) (xc : List (Str × Nat)) : Bool :=
  decide (f.fd.n = f.ps.length) && decide (f.fd.slots = f.N.length) && decide (f.scope.kind = .function) && !f.scope.isCoroutine && !f.scope.isGenerator && decide f.N.Nodup && decide (f.N.take f.ps.length = f.ps) &&
    (f.ps.all fun x => decide (f.scope.names.lookup x = some .local) || decide (f.scope.names.lookup x = some .cell)) && (f.scope.names.all fun y => decide (y.2 ≠ .free)) && ckSs f.fd.body (f.ct pc kc cn bl xc) f.body
/-- what the module's part says of a def -/
structure FnM (K : PySem.W.Frag) (mg : Str → Option Value) (f : FnI) (fa : Addr) (fdat : FuncData) : Prop where
  def_ : FunD K f.name f.name f.args f.body f.scope (f.dfl.map (He.Dv.v K)) [] fa fdat
  glo : mg f.name = some (.ref fa)
/-- what it says of all -/
structure ModM (wl : Wl) (fns : List FnI) (pc : List (Str × Nat × Nat × List D)) (kc : List (Str × Nat × List Str × Nat × List Nat)) (cn : List (Str × Nat)) (bl : List Str) (xc : List (Str × Nat)) (mg : Str → Option Value) : Prop where
  tbl : wl.tbl = fns.map (·.fd)
  ok : ∀ f ∈ fns, f.ok pc kc cn bl xc = true
  fn : ∀ f ∈ fns, ∃ fa fdat, FnM wl.K mg f fa fdat
  pc : ∀ q ∈ pc, ∃ f, fns[q.2.2.1]? = some f ∧ f.name = q.1 ∧ ∀ fa fdat, FnM wl.K mg f fa fdat → ∃ dvs dsv, Binds wl.K fdat f.ps dsv ∧ Vals dvs dsv ∧ ∀ hid H ρ, Rels wl.K hid H ρ q.2.2.2 dvs
  kc : ∀ q ∈ kc, ∃ f, fns[q.2.2.2.1]? = some f ∧ f.name = q.1 ∧ ∀ fa fdat, FnM wl.K mg f fa fdat → ∀ (s : Shared) (us ws rs : List Value), us.length = q.2.1 → ws.length = q.2.2.1.length → pick q.2.2.2.2 (us ++ ws) = some rs → BindsTo s fdat ⟨us, q.2.2.1.zip ws⟩ (f.ps.zip rs)
  cn : ∀ q ∈ cn, ∃ dv v u, mg q.1 = some u ∧ RelV v u ∧ wl.glo q.2 = some dv ∧ (dv, v) ∈ wl.cs
  bl : ∀ n ∈ bl, mg n = none
theorem fn_all {P : Program} {w : World} {mg : Str → Option Value} {base : Heap} {wl : Wl} {fns : List FnI} {pc : List (Str × Nat × Nat × List D)} {kc : List (Str × Nat × List Str × Nat × List Nat)} {cn : List (Str × Nat)} {bl : List Str} {xc : List (Str × Nat)} (M : ModM wl fns pc kc cn bl xc mg) (hx : ∀ q ∈ xc, XcF wl P w mg base q.1 q.2)
    (hm : ∀ e e' : Nat, e < xc.length → e' < xc.length → PySem.W.exmOne wl.K (.ref (wl.cls e)) (.ref (wl.cls e')) = some (decide (e = e'))) :
    ∀ (k i : Nat) (f : FnI) (fa : Addr) (fdat : FuncData), fns[i]? = some f → FnM wl.K mg f fa fdat → FnG P w wl.K mg base (k + 2) fa fdat f.ps (spF wl k i)
  | 0, i, f, fa, fdat, hi, hf => ⟨fun vs H Q E ⟨_, _, _, _, _, _, _, _, h⟩ => h.elim, fun A outer s H args us vs Q E _ _ _ _ _ ⟨_, _, _, _, _, _, _, _, h⟩ => h.elim⟩
  | k + 1, i, f, fa, fdat, hi, hf => by
    have ok := M.ok f (List.mem_of_getElem? hi)
    unfold FnI.ok at ok
    simp only [Bool.and_eq_true, decide_eq_true_eq, Bool.not_eq_true', List.all_eq_true, Bool.or_eq_true] at ok
    obtain ⟨⟨⟨⟨⟨⟨⟨⟨⟨h1, h2⟩, h3⟩, h4⟩, h5⟩, h6⟩, h7⟩, h8⟩, h9⟩, h10⟩ := ok
    have F := hf.def_
    have Sc : FnScope f.N f.ps f.scope := ⟨h3, h4, h5, h6, h7, h8, h9⟩
    have et : wl.tbl[i]? = some f.fd := by rw [M.tbl, List.getElem?_map, hi]; rfl
    refine fn_ok F Sc et h1 h2 fun cdv A outer s H E c W hgd hr hc tk => ?_
    have O : Cxo wl k c (f.ct pc kc cn bl xc) (cxOf (L2.CX P w) P w wl.K mg base f.N f.name f.scope fa cdv A outer s H E) W := by
      refine ⟨rfl, h6, rfl, h3, hc, rfl, rfl, hgd, hr, tk, fun _ _ => rfl, fun q hq => ?_, fun q hq => ?_, M.cn, M.bl, hx, hm⟩
      · obtain ⟨g, e1, e2, hb⟩ := M.pc q hq
        obtain ⟨ga, gdat, hg⟩ := M.fn g (List.mem_of_getElem? e1)
        obtain ⟨dvs, dsv, b1, b2, b3⟩ := hb ga gdat hg
        have G := hg.def_
        exact ⟨ga, gdat, g.ps, dvs, dsv, fn_all M hx hm k _ g ga gdat e1 hg, by rw [← e2]; exact hg.glo, G.kp, b1, b2, b3⟩
      · obtain ⟨g, e1, e2, hb⟩ := M.kc q hq
        obtain ⟨ga, gdat, hg⟩ := M.fn g (List.mem_of_getElem? e1)
        have G := hg.def_
        exact ⟨ga, gdat, g.ps, fn_all M hx hm k _ g ga gdat e1 hg, by rw [← e2]; exact hg.glo, G.kp, hb ga gdat hg⟩
    exact okSs f.fd.body _ _ _ O (passes_of (K := fun e s'' => L2.CX P w outer H s E e s'') (E₁ := fun e s'' => L2.CX P w outer H s E e s'') rfl) ⟨rfl, rfl, rfl⟩ f.body h10

/-! ### the law's end -/
/-- the script alone is tracked, as it stands (or not at all, where it is the module's) -/
def scrH (K : PySem.W.Frag) (a : Addr) (o : Obj) (xs : List V) : Hp := fun b => if b = a ∧ K.lookup a = none then some (.frz o (.lst xs)) else none
section
variable {K : PySem.W.Frag} {a b : Addr} {o : Obj} {xs : List V}
theorem scr_ne (h : b ≠ a) : scrH K a o xs b = none := if_neg fun z => h z.1
theorem scr_in {u : Obj} (h : K.lookup b = some u) : scrH K a o xs b = none := if_neg fun z => by
  obtain ⟨e, n⟩ := z
  rw [e, n] at h
  cases h
theorem scr_some {u : HO} (h : scrH K a o xs b = some u) : b = a ∧ u = .frz o (.lst xs) := by
  unfold scrH at h
  split at h
  · rename_i z
    exact ⟨z.1, (Option.some.inj h).symm⟩
  · cases h
end
theorem law_end {P : Program} {w : World} {K : PySem.W.Frag} {mg mb : Str → Option Value} {k : Nat} {fa a : Addr} {fd : FuncData} {x : Str} {sp : Sp} {s : Shared} {vs : List Value} {ns : List Int}
    (KX : K.In s.heap) (hg1 : s.heap.Ns mainGlobals mg) (hg2 : s.heap.Ns builtinsNs mb) (hbb : ∀ x : Str, x ≠ "__name__" → mb x = bootBuiltins x) (hlim : s.heap.NoLimit) (hgen : s.gens = #[])
    (ha : s.heap.get? a = some { cls := .type "list", data := .seq vs.toArray }) (hi : IntsAre vs ns) (hl : ns.length ≤ sizeLine) (hr : Room k callerA)
    (F : ∀ base : Heap, (∀ b o, s.heap.get? b = some o → (∀ its m, o.data ≠ .seq its m) → base.get? b = some o) → FnG P w K mg base k fa fd [x] sp) (hb : ∀ (s : Shared) (u : Value), BindsTo s fd ⟨[u], []⟩ [(x, u)])
    (hsp : ∀ H : Hp, SqL K H a (ns.map V.int) → sp [.ref a] H (fun v _ => v = .bl true) fun _ _ _ => False) :
    codeAny (model P w) callerA (.call (.ref fa) ⟨[.ref a], []⟩) (fun r s' => r = .ok (.ret (.bool true)) ∧ OldK s.heap s'.heap ∧ s'.os = s.os ∧ AllBare s'.gens) s := by
  have rv := vals_ints hi
  have lv := hi.length
  generalize hH : scrH K a { cls := .type "list", data := .seq vs.toArray } (ns.map V.int) = H
  have hS : SqL K H a (ns.map V.int) := by
    cases e : K.lookup a with
    | none => exact .inl (.inr ⟨_, by rw [← hH]; exact if_pos ⟨rfl, e⟩⟩)
    | some u =>
      have q := KX a u e
      rw [ha] at q
      cases q
      exact .inr ⟨_, vs.toArray, _, e, rfl, rfl, rfl, by rw [List.size_toArray, lv]; exact hl, by simpa using rv⟩
  have hok : HOk P w H s.heap := fun b u z => by
    rw [← hH] at z
    obtain ⟨rfl, rfl⟩ := scr_some z
    exact ⟨ha, by rw [List.length_map]; exact hl, vs, _, rv, ha⟩
  have keep : ∀ {b : Addr} {u : Obj}, s.heap.get? b = some u → H b = none → (hidT s.heap H).get? b = some u := fun e n => hidT_get e n
  have ns2 : ∀ {b : Addr} {m : Str → Option Value}, s.heap.Ns b m → (hidT s.heap H).Ns b m := fun {b m} ⟨u, es, ep, e, d, r⟩ => ⟨u, es, ep, keep e (by
    rw [← hH]
    refine scr_ne fun z => ?_
    rw [z, ha] at e
    cases e
    exact nomatch (show Data.seq vs.toArray _ = Data.dict es ep from d)), d, r⟩
  have hKb : K.In (hidT s.heap H) := fun b u e => keep (KX b u e) (by rw [← hH]; exact scr_in e)
  have e0 : Env0 P w K mg (hidT s.heap H) callerA [] s H :=
    ⟨rfl, ⟨hKb, ns2 hg1, ⟨mb, ns2 hg2, hbb⟩, let ⟨mc, h1, h2⟩ := hlim; ⟨mc, ns2 h1, h2⟩⟩, fun b u e => of_hidT e, Nat.le_of_eq (hidT_size _ _), trivial, fun b hb => absurd (show b ∈ ([] : List Addr) from hb) (by simp), hok, .of_eq hgen⟩
  have hbase : ∀ b o, s.heap.get? b = some o → (∀ its m, o.data ≠ .seq its m) → (hidT s.heap H).get? b = some o := fun b o e nd => keep e (by
    rw [← hH]
    refine scr_ne fun z => ?_
    rw [z, ha] at e
    cases e
    exact nd _ _ rfl)
  refine codeAny_mono ((F _ hbase).run callerA [] s H ⟨[.ref a], []⟩ [.ref a] [.ref a] _ _ rfl hr e0 (hb s (.ref a)) (.cons rfl .nil) (hsp H hS)) fun r s' h => ?_
  cases r with
  | error e =>
    obtain ⟨_, _, _, _, _, _, _, _, _, _, _, _, z⟩ := (show L2.CX P w [] H s (fun _ _ _ => False) e s' from h)
    exact z.elim
  | ok fl =>
    cases fl with
    | next => exact False.elim h
    | brk => exact False.elim h
    | cont => exact False.elim h
    | ret u =>
      obtain ⟨v, H', os, bare, un, hok', r', q⟩ := h
      obtain rfl : v = .bl true := q
      obtain rfl : u = Value.bool true := r'
      refine ⟨rfl, OldK.of_keep fun b u e => ?_, os, bare⟩
      cases q : H b with
      | none => exact un.keep b u e q (by simp [frs]) (by simp)
      | some t =>
        have q0 := q
        rw [← hH] at q
        obtain ⟨rfl, rfl⟩ := scr_some q
        obtain ⟨e1, _⟩ := hok _ _ q0
        obtain ⟨e2, _⟩ := hok' _ _ (un.frzs _ _ _ q0)
        rw [e] at e1
        cases e1
        exact e2
/-- a law, its def's promise by the table -/
theorem walk_end {l : PySem.W.OpenLaw} {n k : Nat} {q : Program} {loose : List Str} {XP : (Str → Option Value) → Heap → Prop} {YP : World → Heap → Prop} {d : DefRec} {x : Str}
    (hn : l.most = some n) (hn2 : n ≤ sizeLine) (hdf : d.params.defaults = []) (hr : Room (k + 2) callerA)
    (F : ∀ (w : World) (mg : Str → Option Value) (fa : Addr) (h : Heap), YP w h → h.Ns mainGlobals mg → mg d.name = some (.ref fa) →
      ∃ (wl : Wl) (fd : FuncData) (i : Nat), wl.K.In h ∧ (∀ (s : Shared) (u : Value), BindsTo s fd ⟨[u], []⟩ [(x, u)]) ∧ (∀ p ∈ wl.cs, ∀ hid H ρ, Rel wl.K hid H ρ p.1 p.2) ∧
        (∀ ns : List Int, ns.length ≤ n → (∀ k ∈ ns, Builtin.Int.intBits k ≤ 1048576) → ∃ st, callF wl.tbl wl.glo wl.wf k i [.rd (ns.map .int)] 0 [] = .ok (.bl true) st) ∧
        ∀ base : Heap, (∀ b o, h.get? b = some o → (∀ its m, o.data ≠ .seq its m) → base.get? b = some o) → FnG l.prog w wl.K mg base (k + 2) fa fd [x] (spF wl k i)) :
    PySem.W.WalkO q loose XP YP l.row.toRowW d [] (fun f vs => PySem.call f vs) := by
  refine Att.attach_callB hn hdf fun w s₀ s₁ mg mb fa o pm cd doc a vs ns G Y ho hd hcd hmg hobj hints hlen hbits hg => ?_
  obtain ⟨wl, fd, i, KX, hb, hcs, hsem, hF⟩ := F w mg fa _ Y G.T.g hmg
  refine law_end KX G.T.g G.T.b G.T.builtins G.T.nolimit hg hobj hints (Nat.le_trans hlen hn2) hr hF hb fun H hS => ?_
  obtain ⟨st, e⟩ := hsem ns hlen hbits
  have rs : ∀ ms : List Int, Rels wl.K [] H [] (ms.map .int) (ms.map V.int) := fun ms => by
    induction ms with
    | nil => exact rfl
    | cons m ms ih => exact ⟨_, _, rfl, rfl, ih⟩
  refine ⟨0, [], [], [], [], [.rd (ns.map .int)], ⟨rfl, List.nodup_nil, fun a ha => absurd ha (by simp), fun a ha => absurd ha (by simp), fun n o a h1 _ => by simp at h1, fun x hx => absurd (show x ∈ ([] : List Nat) from hx) (by simp), fun p hp => hcs p hp _ _ _⟩,
    ⟨.ref a, [], rfl, ⟨a, ns.map V.int, rfl, ?_, rs ns⟩, rfl⟩, ?_⟩
  · rcases hS with h | h
    · exact .inl ⟨h, by simp, by simp⟩
    · exact .inr h
  · rw [e]
    intro v H' ρ' N r
    exact r
end Y
/-! Y20: what the head tells. -/
namespace Y
open PySem PySem.Spec PyProof.Rows L2

/-! ### constants of the module -/
mutual
def relKB (K : PySem.W.Frag) : D → Value → Bool
  | .non, u => (match u with | .none => true | _ => false)
  | .bl b, u => (match u with | .bool c => decide (b = c) | _ => false)
  | .int i, u => (match u with | .int j _ => decide (i = j) | _ => false)
  | .str x, u => (match u with | .str y _ => decide (x = y) | _ => false)
  | .ct ds, u => (match u with
    | .ref a => (match K.lookup a with
      | some ⟨.type c, _, .seq its _, _⟩ => decide (c = "tuple") && decide (its.size ≤ 1000) && relKBs K ds its.toList
      | _ => false)
    | _ => false)
  | .cdi ks ds, u => (match u with
    | .ref a => (match K.lookup a with
      | some ⟨.type c, none, .dict es _, sl⟩ => decide (c = "dict") && sl.isEmpty && decide (es.toList.map (fun e => e.hash) = ks.map hashInt) && relKBi ks (es.toList.map (fun e => e.key)) && relKBs K ds (es.toList.map (fun e => e.val))
      | _ => false)
    | _ => false)
  | _, _ => false
def relKBs (K : PySem.W.Frag) : List D → List Value → Bool
  | [], us => us.isEmpty
  | d :: ds, us => (match us with
    | u :: us => relKB K d u && relKBs K ds us
    | [] => false)
def relKBi : List Int → List Value → Bool
  | [], us => us.isEmpty
  | k :: ks, us => (match us with
    | .int i _ :: us => decide (k = i) && relKBi ks us
    | _ => false)
end
theorem ent_of : ∀ {es : List DictEntry} {ks : List Int} {vs : List V}, es.map (fun e => e.hash) = ks.map hashInt → relKBi ks (es.map (fun e => e.key)) = true → Vals vs (es.map (fun e => e.val)) → EntI es ks vs
  | [], ks, vs, h1, h2, h3 => by
    cases ks with
    | nil => cases h3; exact ⟨rfl, rfl⟩
    | cons k ks => cases h1
  | e :: es, ks, vs, h1, h2, h3 => by
    cases ks with
    | nil => cases h1
    | cons k ks =>
      cases h3 with
      | cons r rr =>
        simp only [List.map_cons] at h1 h2
        injection h1 with h1 h1'
        unfold relKBi at h2
        split at h2
        · rename_i i t us heq
          injection heq with e1 e2
          rw [Bool.and_eq_true, decide_eq_true_eq] at h2
          obtain ⟨h2, h4⟩ := h2
          subst h2
          rw [← e2] at h4
          exact ⟨k, ks, _, _, t, rfl, rfl, e1, h1, r, ent_of h1' h4 rr⟩
        · cases h2
mutual
theorem relKB_ok {K : PySem.W.Frag} : ∀ (d : D) (u : Value), relKB K d u = true → ∃ v, RelV v u ∧ ∀ hid H ρ, Rel K hid H ρ d v
  | .non, u, h => by
    unfold relKB at h
    split at h
    · exact ⟨.non, rfl, fun _ _ _ => rfl⟩
    · cases h
  | .bl b, u, h => by
    unfold relKB at h
    split at h
    · have e := of_decide_eq_true h
      subst e
      exact ⟨.bl b, rfl, fun _ _ _ => rfl⟩
    · cases h
  | .int b, u, h => by
    unfold relKB at h
    split at h
    · have e := of_decide_eq_true h
      subst e
      exact ⟨.int b, ⟨_, rfl⟩, fun _ _ _ => rfl⟩
    · cases h
  | .str b, u, h => by
    unfold relKB at h
    split at h
    · have e := of_decide_eq_true h
      subst e
      exact ⟨.str b, ⟨_, rfl⟩, fun _ _ _ => rfl⟩
    · cases h
  | .ct ds, u, h => by
    unfold relKB at h
    split at h
    · rename_i a
      split at h
      · rename_i c od its n sl e
        simp only [Bool.and_eq_true, decide_eq_true_eq] at h
        obtain ⟨⟨rfl, h1⟩, h2⟩ := h
        obtain ⟨vs, rv, rs⟩ := relKBs_ok ds _ h2
        exact ⟨.ref a, rfl, fun hid H ρ => ⟨a, vs, rfl, ⟨_, its, n, e, rfl, rfl, by rw [sizeLine_eq]; omega, rv⟩, rs hid H ρ⟩⟩
      · cases h
    · cases h
  | .cdi ks ds, u, h => by
    unfold relKB at h
    split at h
    · rename_i a
      split at h
      · rename_i c es n sl e
        simp only [Bool.and_eq_true, decide_eq_true_eq] at h
        obtain ⟨⟨⟨⟨rfl, h0⟩, h1⟩, h2⟩, h3⟩ := h
        obtain ⟨vs, rv, rs⟩ := relKBs_ok ds _ h3
        exact ⟨.ref a, rfl, fun hid H ρ => ⟨a, vs, rfl, ⟨_, es, n, e, ⟨rfl, rfl, Array.isEmpty_iff.mp h0⟩, rfl, ent_of h1 h2 rv⟩, rs hid H ρ⟩⟩
      · cases h
    · cases h
  | .tup _, u, h => by cases h
  | .lst _, u, h => by cases h
  | .rd _, u, h => by cases h
  | .dK _ _, u, h => by cases h
  | .dT _ _, u, h => by cases h
  | .exn _ _, u, h => by cases h
  | .ref _, u, h => by cases h
theorem relKBs_ok {K : PySem.W.Frag} : ∀ (ds : List D) (us : List Value), relKBs K ds us = true → ∃ vs, Vals vs us ∧ ∀ hid H ρ, Rels K hid H ρ ds vs
  | [], us, h => by
    have e := List.isEmpty_iff.mp (show us.isEmpty = true from h)
    subst e
    exact ⟨[], .nil, fun _ _ _ => rfl⟩
  | d :: ds, us, h => by
    cases us with
    | nil => cases h
    | cons u us =>
      have h' : (relKB K d u && relKBs K ds us) = true := h
      rw [Bool.and_eq_true] at h'
      obtain ⟨v, r1, r2⟩ := relKB_ok d u h'.1
      obtain ⟨vs, r3, r4⟩ := relKBs_ok ds us h'.2
      exact ⟨v :: vs, .cons r1 r3, fun hid H ρ => ⟨v, vs, rfl, r2 hid H ρ, r4 hid H ρ⟩⟩
end
/-- the constants stand as told -/
def exK (cvs : List (Str × D)) (K : PySem.W.Frag) : Bool := cvs.all fun q => match PySem.W.nsIn K mainGlobals q.1 with
  | some (some u) => relKB K q.2 u
  | _ => false
def cvV (K : PySem.W.Frag) (x : Str) : V := match PySem.W.nsIn K mainGlobals x with
  | some (some u) => (absV u).getD .non
  | _ => .non
theorem exK_ok {cvs : List (Str × D)} {K : PySem.W.Frag} {h : Heap} {mg : Str → Option Value} (X : K.In h) (G : h.Ns mainGlobals mg) (e : exK cvs K = true) {x : Str} {d : D} (hm : (x, d) ∈ cvs) : ∃ u, mg x = some u ∧ RelV (cvV K x) u ∧ ∀ hid H ρ, Rel K hid H ρ d (cvV K x) := by
  have q := List.all_eq_true.mp e _ hm
  simp only at q
  split at q
  · rename_i u e1
    obtain ⟨v, r1, r2⟩ := relKB_ok d u q
    have ev : cvV K x = v := by
      unfold cvV
      rw [e1]
      show (absV u).getD .non = v
      rw [r1.abs]
      rfl
    rw [ev]
    exact ⟨u, PySem.W.mg_of X G e1, r1, r2⟩
  · cases q
/-! ### the defs -/
def FnI.d (f : FnI) : He.DefD := ⟨(f.name, none), f.name, f.name, f.args, f.body, f.scope, f.dfl, []⟩
def faOf (fns : List FnI) (bl : List Str) : List He.Fa := fns.map (fun f => .glo f.name) ++ bl.map .free
def wlOf (K : PySem.W.Frag) (fns : List FnI) (cvs : List (Str × D)) (glo : Nat → Option D) (wf : Nat) (xs : List Str := []) : Wl := ⟨K, fun e => He.ga K (xs.getD e Str.empty), cvs.map (fun q => (q.2, cvV K q.1)), fns.map (·.fd), glo, wf⟩
/-- how calls bind, by the text alone -/
structure BindsT (fns : List FnI) (pc : List (Str × Nat × Nat × List D)) (kc : List (Str × Nat × List Str × Nat × List Nat)) : Prop where
  pc : ∀ q ∈ pc, ∃ f, fns[q.2.2.1]? = some f ∧ f.name = q.1 ∧ ∀ (K : PySem.W.Frag) fa fdat, FunD K f.name f.name f.args f.body f.scope (f.dfl.map (He.Dv.v K)) [] fa fdat → ∃ dvs dsv, Binds K fdat f.ps dsv ∧ Vals dvs dsv ∧ ∀ hid H ρ, Rels K hid H ρ q.2.2.2 dvs
  kc : ∀ q ∈ kc, ∃ f, fns[q.2.2.2.1]? = some f ∧ f.name = q.1 ∧ ∀ (K : PySem.W.Frag) fa fdat, FunD K f.name f.name f.args f.body f.scope (f.dfl.map (He.Dv.v K)) [] fa fdat → ∀ (s : Shared) (us ws rs : List Value), us.length = q.2.1 → ws.length = q.2.2.1.length → pick q.2.2.2.2 (us ++ ws) = some rs → BindsTo s fdat ⟨us, q.2.2.1.zip ws⟩ (f.ps.zip rs)
theorem mod_of {fns : List FnI} {pc : List (Str × Nat × Nat × List D)} {kc : List (Str × Nat × List Str × Nat × List Nat)} {cn : List (Str × Nat)} {bl : List Str} {cvs : List (Str × D)} {xc : List (Str × Nat)} {glo : Nat → Option D} {wf : Nat} {xs : List Str} {K : PySem.W.Frag} {h : Heap} {mg : Str → Option Value} {w : World}
    {fa : List He.Fa} {ex : PySem.W.Frag → Bool} (hfa : ∀ f ∈ faOf fns bl, f ∈ fa) (c : He.SaysX fa (fns.map FnI.d) [] [] ex w h K) (hex : exK cvs K = true) (X : K.In h) (G : h.Ns mainGlobals mg) (ok : ∀ f ∈ fns, f.ok pc kc cn bl xc = true) (B : BindsT fns pc kc) (hcn : ∀ q ∈ cn, ∃ d, (q.1, d) ∈ cvs ∧ glo q.2 = some d) :
    ModM (wlOf K fns cvs glo wf xs) fns pc kc cn bl xc mg := by
  have cd := c.t.d
  refine ⟨rfl, ok, fun f hf => ?_, fun q hq => ?_, fun q hq => ?_, fun q hq => ?_, fun n hn => ?_⟩
  · obtain ⟨fd, F⟩ := cd.defs (List.mem_map_of_mem (f := FnI.d) hf)
    have g := He.glo_ok X G (cd.facts (f := .glo f.name) (hfa _ (List.mem_append_left _ (List.mem_map_of_mem (f := fun f => He.Fa.glo f.name) hf))))
    exact ⟨_, fd, F, g⟩
  · obtain ⟨f, e1, e2, hb⟩ := B.pc q hq
    exact ⟨f, e1, e2, fun fa fdat m => hb K fa fdat m.def_⟩
  · obtain ⟨f, e1, e2, hb⟩ := B.kc q hq
    exact ⟨f, e1, e2, fun fa fdat m => hb K fa fdat m.def_⟩
  · obtain ⟨d, hm, e⟩ := hcn q hq
    obtain ⟨u, h1, h2, h3⟩ := exK_ok X G hex hm
    exact ⟨d, cvV K q.1, u, h1, h2, e, List.mem_map_of_mem (f := fun q : Str × D => (q.2, cvV K q.1)) hm⟩
  · exact He.free_ok X G (cd.facts (f := .free n) (hfa _ (List.mem_append_right _ (List.mem_map_of_mem (f := He.Fa.free) hn))))
theorem cs_of {cvs : List (Str × D)} {fns : List FnI} {glo : Nat → Option D} {wf : Nat} {xs : List Str} {K : PySem.W.Frag} {h : Heap} {mg : Str → Option Value} (X : K.In h) (G : h.Ns mainGlobals mg) (e : exK cvs K = true) : ∀ p ∈ (wlOf K fns cvs glo wf xs).cs, ∀ hid H ρ, Rel K hid H ρ p.1 p.2 := fun p hp hid H ρ => by
  obtain ⟨q, hq, e1⟩ := List.mem_map.mp hp
  obtain ⟨u, h1, h2, h3⟩ := exK_ok X G e hq
  rw [← e1]
  exact h3 hid H ρ
/-! ### exception classes -/
def codeFB (K : PySem.W.Frag) (cda : Value) (qual file : Str) : Bool := PySem.W.codeIn K cda qual && (match cda with
  | .ref c => (match K.lookup c with
    | some ⟨_, _, .fields vs, _⟩ => (match (vs[2]? : Option Value) with
      | some (.str f _) => file == f
      | _ => false)
    | _ => false)
  | _ => false)
def initKB (K : PySem.W.Frag) (root qual file : Str) : Bool := match K.lookup (He.fAd K (root, some "__init__")) with
  | some ⟨_, _, .func fd, _⟩ => codeFB K fd.code qual file
  | _ => false
def xcB1 (K : PySem.W.Frag) (root x : Str) : Bool := oexB K (He.ga K x) && (initB K (He.ga K root) (He.ga K x) && (xfB K (He.ga K x) && decide (PySem.W.findIn K (.ref (He.ga K x)) "__init__" = some (some (.ref (He.fAd K (root, some "__init__")))))))
/-- the classes xs, all over root, whose __init__ is theirs -/
def xcB (root qual file : Str) (xs : List Str) (K : PySem.W.Frag) : Bool := initKB K root qual file && ((PySem.W.clsIn K (He.ga K root)).isSome && (decide (PySem.W.nsIn K cStatics "thirdparty.any" = some none) &&
  (decide (PySem.W.typeIn K (.ref (He.fAd K (root, some "__init__"))) = some (.type "function")) && ((xs.all fun x => xcB1 K root x) &&
  (List.range xs.length).all fun i => (List.range xs.length).all fun j => decide (PySem.W.exmOne K (.ref (He.ga K (xs.getD i Str.empty))) (.ref (He.ga K (xs.getD j Str.empty))) = some (decide (i = j)))))))
section
variable {K : PySem.W.Frag} {root qual file : Str} {xs : List Str} {fns : List FnI} {cvs : List (Str × D)} {glo : Nat → Option D} {wf : Nat}
theorem xm_of (h : xcB root qual file xs K = true) : ∀ e e' : Nat, e < xs.zipIdx.length → e' < xs.zipIdx.length → PySem.W.exmOne (wlOf K fns cvs glo wf xs).K (.ref ((wlOf K fns cvs glo wf xs).cls e)) (.ref ((wlOf K fns cvs glo wf xs).cls e')) = some (decide (e = e')) := by
  intro e e' he he'
  unfold xcB at h
  simp only [Bool.and_eq_true, List.all_eq_true, decide_eq_true_eq] at h
  rw [List.length_zipIdx] at he he'
  exact h.2.2.2.2.2 e (List.mem_range.mpr he) e' (List.mem_range.mpr he')
theorem xc_of {P : Program} {w : World} {mg : Str → Option Value} {h base : Heap} {n : Nat} (b : xcB root qual file xs K = true) (iat : InitAt K root qual n h) (G : ∀ x ∈ xs, mg x = some (.ref (He.ga K x))) (sup : mg "super" = none)
    (top : (P.main.scope.names.lookup ("super" : Str)).isSome = false) (hf : (P.main.file : Str) = file) (hb : ∀ b o, h.get? b = some o → (∀ its m, o.data ≠ .seq its m) → base.get? b = some o) : ∀ q ∈ xs.zipIdx, XcF (wlOf K fns cvs glo wf xs) P w mg base q.1 q.2 := by
  intro q hq
  obtain ⟨x, e⟩ := q
  have hx : xs[e]? = some x := by simpa using List.mem_zipIdx_iff_getElem?.mp hq
  have mx : x ∈ xs := List.mem_of_getElem? hx
  have ec : (wlOf K fns cvs glo wf xs).cls e = He.ga K x := by
    show He.ga K (xs.getD e Str.empty) = _
    rw [List.getD_eq_getElem?_getD, hx]; rfl
  unfold xcB at b
  simp only [Bool.and_eq_true, List.all_eq_true, decide_eq_true_eq] at b
  obtain ⟨b1, b2, b3, b4, b5, _⟩ := b
  have c := b5 x mx
  unfold xcB1 at c
  simp only [Bool.and_eq_true, decide_eq_true_eq] at c
  obtain ⟨c1, c2, c3, c4⟩ := c
  have ic := initB_ok c2
  obtain ⟨oc, od, osl, kV, doc, pm, an, cdv, ct, cc, lk, cl, cld, csl, ecell⟩ := iat
  unfold initKB at b1
  rw [lk] at b1
  have b1' : codeFB K cdv qual file = true := b1
  unfold codeFB at b1'
  rw [Bool.and_eq_true] at b1'
  obtain ⟨d1, d2⟩ := b1'
  split at d2
  · rename_i cda
    split at d2
    · rename_i u1 u2 vs u3 lc
      split at d2
      · rename_i f tf ef
        have W : InitW P K mg base (He.fAd K (root, some "__init__")) (He.ga K root) (iFd n qual .none kV doc pm an (.ref cda) ct cc) :=
          ⟨⟨oc, od, osl, lk⟩, ⟨n, qual, .none, kV, doc, pm, an, cda, ct, cc, rfl, d1, ⟨u1, u2, vs, u3, f, tf, lc, ef, by rw [hf]; exact d2⟩, cl, cld, csl, hb _ _ ecell (fun _ _ z => nomatch z)⟩, top, sup, Option.isSome_iff_exists.mp b2, b3⟩
        refine ⟨⟨He.fAd K (root, some "__init__"), He.ga K root, _, init_fn W, by rw [ec]; exact ic, by rw [ec]; exact c4, b4, .all fun us hl => ?_⟩, by rw [ec]; exact oexB_ok c1, by rw [ec]; exact ⟨xfB_ok c3, ic.no⟩, by rw [ec]; exact G x mx⟩
        match us, hl with
        | [_, _], _ => rfl
      · cases d2
    · cases d2
  · cases d2
end
/-! ### how a call binds -/
section
variable {K : PySem.W.Frag} {x qual : Str} {params : Arguments} {body : List Stmt} {scope : Scope} {kws : List (Str × V)} {fa : Addr} {fdat : FuncData} {ps : List Str}
theorem posB (F : FunD K x qual params body scope [] kws fa fdat) (h : ∀ (kV doc pm : Value) (an : Option Addr) (cdv ct : Value) (us : List Value), us.length = ps.length → bindArgs (PySem.W.fnOf x qual params body scope .none kV doc pm an cdv ct) ⟨us, []⟩ = pure (ps.zip us)) :
    ∃ dvs dsv, Binds K fdat ps dsv ∧ Vals dvs dsv ∧ ∀ hid H ρ, Rels K hid H ρ [] dvs := ⟨[], [], F.bindsN h, .nil, fun _ _ _ => rfl⟩
/-- all are given, though there are defaults -/
theorem posD {dvs : List V} (F : FunD K x qual params body scope dvs kws fa fdat) (hd : dvs ≠ [])
    (h : ∀ (T : Addr) (kV doc pm : Value) (an : Option Addr) (cdv ct : Value) (us its : List Value), us.length = ps.length → its.length = dvs.length →
      ∃ k, bindArgs (PySem.W.fnOf x qual params body scope (.ref T) kV doc pm an cdv ct) ⟨us, []⟩ = seqItems? (.ref T) >>= k ∧ k (some its.toArray) = pure (ps.zip us)) :
    ∃ dvs dsv, Binds K fdat ps dsv ∧ Vals dvs dsv ∧ ∀ hid H ρ, Rels K hid H ρ [] dvs := by
  obtain ⟨ds, r, b⟩ := F.binds1 (ps := ps) ps.length dvs.length hd (by omega) fun T kV doc pm an cdv ct us its h1 h2 => by
    obtain ⟨k, e1, e2⟩ := h T kV doc pm an cdv ct us its h1 h2
    refine ⟨k, e1, ?_⟩
    rw [List.drop_of_length_le (by omega), List.append_nil]
    exact e2
  rw [List.drop_of_length_le (Nat.le_refl _)] at r
  exact ⟨[], ds, b, r, fun _ _ _ => rfl⟩
theorem kwB {us ws rs : List Value} {ks : List Str} {s : Shared} (F : FunD K x qual params body scope [] kws fa fdat) (h : ∀ (kV doc pm : Value) (an : Option Addr) (cdv ct : Value), bindArgs (PySem.W.fnOf x qual params body scope .none kV doc pm an cdv ct) ⟨us, ks.zip ws⟩ = pure (ps.zip rs)) :
    BindsTo s fdat ⟨us, ks.zip ws⟩ (ps.zip rs) := by
  obtain ⟨oc, od, dV, kV, doc, pm, an, cdv, ct, osl, rfl, lk, hcd, hD, hK⟩ := F.ex
  rcases hD with ⟨_, rfl⟩ | ⟨e, _⟩
  · exact .of_eq (h kV doc pm an cdv ct)
  · exact absurd rfl e
end
theorem all_nil {α : Type} {P : α → Prop} : ∀ q ∈ ([] : List α), P q := fun _ h => absurd h (by simp)
theorem all_cons {α : Type} {P : α → Prop} {x : α} {xs : List α} (h : P x) (r : ∀ q ∈ xs, P q) : ∀ q ∈ x :: xs, P q := fun q hq => (List.mem_cons.mp hq).elim (fun e => e ▸ h) fun hq => r q hq
end Y
set_option maxHeartbeats 0
namespace LW
open PySem Y

def top (i : Nat) : Stmt := PySem.Challenge.pw_wholelayers_k79_refusals_of_words.main.body.getD i (.Pass ⟨0, 0, 0, 0⟩)
def fi_is_integer : FnI := ⟨"is_integer", L2.defArgs (top 7), L2.defBody (top 7), L2.defScope (top 7), ["value"], ["value"], fd_is_integer, []⟩
def fi_is_natural : FnI := ⟨"is_natural", L2.defArgs (top 8), L2.defBody (top 8), L2.defScope (top 8), ["value", "least"], ["value", "least"], fd_is_natural, [.int 0]⟩
def fi_are_integers : FnI := ⟨"are_integers", L2.defArgs (top 9), L2.defBody (top 9), L2.defScope (top 9), ["value", "size"], ["value", "size", "part"], fd_are_integers, []⟩
def fi_are_parts : FnI := ⟨"are_parts", L2.defArgs (top 10), L2.defBody (top 10), L2.defScope (top 10), ["value", "least", "most"], ["value", "least", "most"], fd_are_parts, []⟩
def fi_check_between : FnI := ⟨"check_between", L2.defArgs (top 11), L2.defBody (top 11), L2.defScope (top 11), ["value", "least", "most"], ["value", "least", "most"], fd_check_between, []⟩
def fi_is_space : FnI := ⟨"is_space", L2.defArgs (top 14), L2.defBody (top 14), L2.defScope (top 14), ["value"], ["value", "size"], fd_is_space, []⟩
def fi_check_space : FnI := ⟨"check_space", L2.defArgs (top 15), L2.defBody (top 15), L2.defScope (top 15), ["space"], ["space"], fd_check_space, []⟩
def fi_width_in : FnI := ⟨"width_in", L2.defArgs (top 16), L2.defBody (top 16), L2.defScope (top 16), ["space"], ["space", "size"], fd_width_in, []⟩
def fi_is_element_in : FnI := ⟨"is_element_in", L2.defArgs (top 17), L2.defBody (top 17), L2.defScope (top 17), ["space", "value"], ["space", "value"], fd_is_element_in, []⟩
def fi_identity_in : FnI := ⟨"identity_in", L2.defArgs (top 18), L2.defBody (top 18), L2.defScope (top 18), ["space"], ["space"], fd_identity_in, []⟩
def fi_product_in : FnI := ⟨"product_in", L2.defArgs (top 19), L2.defBody (top 19), L2.defScope (top 19), ["space", "x", "y"], ["space", "x", "y", "entries", "start", "size", "place", "pairs", "total", "i", "j"], fd_product_in, []⟩
def fi_inverse_in : FnI := ⟨"inverse_in", L2.defArgs (top 20), L2.defBody (top 20), L2.defScope (top 20), ["space", "x"], ["space", "x", "entries", "start", "size", "place", "pairs", "total", "i", "j"], fd_inverse_in, []⟩
def fi_check_word : FnI := ⟨"check_word", L2.defArgs (top 22), L2.defBody (top 22), L2.defScope (top 22), ["word"], ["word", "letter"], fd_check_word, []⟩
def fi_word_in : FnI := ⟨"word_in", L2.defArgs (top 23), L2.defBody (top 23), L2.defScope (top 23), ["space", "xs", "word"], ["space", "xs", "word", "found", "letter", "step"], fd_word_in, []⟩
def fi_word_at : FnI := ⟨"word_at", L2.defArgs (top 24), L2.defBody (top 24), L2.defScope (top 24), ["space", "xs", "word"], ["space", "xs", "word", "x"], fd_word_at, []⟩
def fi_left_out : FnI := ⟨"left_out", L2.defArgs (top 25), L2.defBody (top 25), L2.defScope (top 25), ["word"], ["word", "kept", "letter"], fd_left_out, []⟩
def fi_leaving_out : FnI := ⟨"leaving_out", L2.defArgs (top 26), L2.defBody (top 26), L2.defScope (top 26), ["word"], ["word"], fd_leaving_out, []⟩
def fi_expansion_in : FnI := ⟨"expansion_in", L2.defArgs (top 27), L2.defBody (top 27), L2.defScope (top 27), ["word", "most"], ["word", "most", "numbers", "letter", "found", "pattern", "number", "longest", "many", "longer", "sign"], fd_expansion_in, []⟩
def fi_expansion : FnI := ⟨"expansion", L2.defArgs (top 28), L2.defBody (top 28), L2.defScope (top 28), ["word", "most"], ["word", "most", "pattern", "number"], fd_expansion, []⟩
def fi_depth_of : FnI := ⟨"depth_of", L2.defArgs (top 29), L2.defBody (top 29), L2.defScope (top 29), ["word"], ["word", "length", "pattern"], fd_depth_of, []⟩
def fi_breaking_in : FnI := ⟨"breaking_in", L2.defArgs (top 30), L2.defBody (top 30), L2.defScope (top 30), ["pattern", "size"], ["pattern", "size", "letter", "place"], fd_breaking_in, []⟩
def fi_identity_for : FnI := ⟨"identity_for", L2.defArgs (top 31), L2.defBody (top 31), L2.defScope (top 31), ["word", "size"], ["word", "size", "patterns", "pattern"], fd_identity_for, []⟩
def fi__law_begin : FnI := ⟨"_law_begin", L2.defArgs (top 33), L2.defBody (top 33), L2.defScope (top 33), ["script"], ["script", "cells", "cell"], fd__law_begin, []⟩
def fi__law_draw : FnI := ⟨"_law_draw", L2.defArgs (top 34), L2.defBody (top 34), L2.defScope (top 34), ["state", "many"], ["state", "many", "number", "cell", "mixed"], fd__law_draw, []⟩
def fi__law_width : FnI := ⟨"_law_width", L2.defArgs (top 35), L2.defBody (top 35), L2.defScope (top 35), ["space"], ["space", "size"], fd__law_width, []⟩
def fi__law_space : FnI := ⟨"_law_space", L2.defArgs (top 36), L2.defBody (top 36), L2.defScope (top 36), ["state"], ["state", "found"], fd__law_space, []⟩
def fi__law_entry : FnI := ⟨"_law_entry", L2.defArgs (top 37), L2.defBody (top 37), L2.defScope (top 37), ["state", "most"], ["state", "most", "limit"], fd__law_entry, []⟩
def fi__law_element : FnI := ⟨"_law_element", L2.defArgs (top 38), L2.defBody (top 38), L2.defScope (top 38), ["state", "space"], ["state", "space", "most", "at"], fd__law_element, []⟩
def fi__law_word : FnI := ⟨"_law_word", L2.defArgs (top 39), L2.defBody (top 39), L2.defScope (top 39), ["state", "most"], ["state", "most", "letters", "at"], fd__law_word, []⟩
def fi__law_bad_space : FnI := ⟨"_law_bad_space", L2.defArgs (top 40), L2.defBody (top 40), L2.defScope (top 40), ["state"], ["state", "things"], fd__law_bad_space, []⟩
def fi__law_bad_element : FnI := ⟨"_law_bad_element", L2.defArgs (top 41), L2.defBody (top 41), L2.defScope (top 41), ["state", "x"], ["state", "x", "at", "other", "things"], fd__law_bad_element, []⟩
def fi__law_bad_word : FnI := ⟨"_law_bad_word", L2.defArgs (top 42), L2.defBody (top 42), L2.defScope (top 42), ["state", "word"], ["state", "word", "at", "other", "things"], fd__law_bad_word, []⟩
def fi__law_told : FnI := ⟨"_law_told", L2.defArgs (top 43), L2.defBody (top 43), L2.defScope (top 43), ["number", "space", "xs", "word", "bad"], ["number", "space", "xs", "word", "bad", "found", "error"], fd__law_told, []⟩
def fi__law_bad : FnI := ⟨"_law_bad", L2.defArgs (top 44), L2.defBody (top 44), L2.defScope (top 44), ["state", "kind", "space", "xs", "word", "number"], ["state", "kind", "space", "xs", "word", "number", "at", "bent", "outside"], fd__law_bad, []⟩
def fi_law : FnI := ⟨"law", L2.defArgs (top 45), L2.defBody (top 45), L2.defScope (top 45), ["script"], ["script", "state", "kinds", "turn", "space", "xs", "word", "number", "kind", "bad"], fd_law, []⟩
def fns : List FnI := fi_is_integer :: fi_is_natural :: fi_are_integers :: fi_are_parts :: fi_check_between :: fi_is_space :: fi_check_space :: fi_width_in :: fi_is_element_in :: fi_identity_in :: fi_product_in :: fi_inverse_in :: fi_check_word :: fi_word_in :: fi_word_at :: fi_left_out :: fi_leaving_out :: fi_expansion_in :: fi_expansion :: fi_depth_of :: fi_breaking_in :: fi_identity_for :: fi__law_begin :: fi__law_draw :: fi__law_width :: fi__law_space :: fi__law_entry :: fi__law_element :: fi__law_word :: fi__law_bad_space :: fi__law_bad_element :: fi__law_bad_word :: fi__law_told :: fi__law_bad :: fi_law :: []
def pc : List (Str × Nat × Nat × List D) := ("is_integer", 1, 0, []) :: ("is_natural", 2, 1, []) :: ("are_parts", 3, 3, []) :: ("is_space", 1, 5, []) :: ("are_integers", 2, 2, []) :: ("width_in", 1, 7, []) :: ("product_in", 3, 10, []) :: ("inverse_in", 2, 11, []) :: ("identity_in", 1, 9, []) :: ("word_in", 3, 13, []) :: ("check_word", 1, 12, []) :: ("is_element_in", 2, 8, []) :: ("check_space", 1, 6, []) :: ("left_out", 1, 15, []) :: ("check_between", 3, 4, []) :: ("expansion_in", 2, 17, []) :: ("breaking_in", 2, 20, []) :: ("_law_draw", 2, 23, []) :: ("_law_entry", 2, 26, []) :: ("_law_width", 1, 24, []) :: ("word_at", 3, 14, []) :: ("leaving_out", 1, 16, []) :: ("expansion", 2, 18, []) :: ("depth_of", 1, 19, []) :: ("identity_for", 2, 21, []) :: ("_law_bad_word", 2, 31, []) :: ("_law_bad_element", 2, 30, []) :: ("_law_bad_space", 1, 29, []) :: ("_law_told", 5, 32, []) :: ("_law_bad", 6, 33, []) :: ("_law_word", 2, 28, []) :: ("_law_element", 2, 27, []) :: ("_law_space", 1, 25, []) :: ("_law_begin", 1, 22, []) :: []
def kc : List (Str × Nat × List Str × Nat × List Nat) := []
def cn : List (Str × Nat) := [("SUMMANDS", 0)]
def bl : List Str := ["abs", "all", "any", "bool", "enumerate", "int", "isinstance", "len", "list", "min", "range", "repr", "sorted", "str", "sum", "super", "tuple"]
theorem pc_ok : ∀ q ∈ pc, ∃ f, fns[q.2.2.1]? = some f ∧ f.name = q.1 ∧ ∀ (K : PySem.W.Frag) fa fdat, L2.FunD K f.name f.name f.args f.body f.scope (f.dfl.map (He.Dv.v K)) [] fa fdat → ∃ dvs dsv, L2.Binds K fdat f.ps dsv ∧ L2.Vals dvs dsv ∧ ∀ hid H ρ, Rels K hid H ρ q.2.2.2 dvs :=
  (all_cons ⟨fi_is_integer, rfl, rfl, fun K fa fdat F => posB F fun _ _ _ _ _ _ us hl => match us, hl with | [_], _ => rfl⟩
  (all_cons ⟨fi_is_natural, rfl, rfl, fun K fa fdat F => posD F (by simp [FnI.dfl, fi_is_natural]) fun _ _ _ _ _ _ _ us its hl hm => match us, its, hl, hm with | [_, _], [_], _, _ => ⟨_, rfl, rfl⟩⟩
  (all_cons ⟨fi_are_parts, rfl, rfl, fun K fa fdat F => posB F fun _ _ _ _ _ _ us hl => match us, hl with | [_, _, _], _ => rfl⟩
  (all_cons ⟨fi_is_space, rfl, rfl, fun K fa fdat F => posB F fun _ _ _ _ _ _ us hl => match us, hl with | [_], _ => rfl⟩
  (all_cons ⟨fi_are_integers, rfl, rfl, fun K fa fdat F => posB F fun _ _ _ _ _ _ us hl => match us, hl with | [_, _], _ => rfl⟩
  (all_cons ⟨fi_width_in, rfl, rfl, fun K fa fdat F => posB F fun _ _ _ _ _ _ us hl => match us, hl with | [_], _ => rfl⟩
  (all_cons ⟨fi_product_in, rfl, rfl, fun K fa fdat F => posB F fun _ _ _ _ _ _ us hl => match us, hl with | [_, _, _], _ => rfl⟩
  (all_cons ⟨fi_inverse_in, rfl, rfl, fun K fa fdat F => posB F fun _ _ _ _ _ _ us hl => match us, hl with | [_, _], _ => rfl⟩
  (all_cons ⟨fi_identity_in, rfl, rfl, fun K fa fdat F => posB F fun _ _ _ _ _ _ us hl => match us, hl with | [_], _ => rfl⟩
  (all_cons ⟨fi_word_in, rfl, rfl, fun K fa fdat F => posB F fun _ _ _ _ _ _ us hl => match us, hl with | [_, _, _], _ => rfl⟩
  (all_cons ⟨fi_check_word, rfl, rfl, fun K fa fdat F => posB F fun _ _ _ _ _ _ us hl => match us, hl with | [_], _ => rfl⟩
  (all_cons ⟨fi_is_element_in, rfl, rfl, fun K fa fdat F => posB F fun _ _ _ _ _ _ us hl => match us, hl with | [_, _], _ => rfl⟩
  (all_cons ⟨fi_check_space, rfl, rfl, fun K fa fdat F => posB F fun _ _ _ _ _ _ us hl => match us, hl with | [_], _ => rfl⟩
  (all_cons ⟨fi_left_out, rfl, rfl, fun K fa fdat F => posB F fun _ _ _ _ _ _ us hl => match us, hl with | [_], _ => rfl⟩
  (all_cons ⟨fi_check_between, rfl, rfl, fun K fa fdat F => posB F fun _ _ _ _ _ _ us hl => match us, hl with | [_, _, _], _ => rfl⟩
  (all_cons ⟨fi_expansion_in, rfl, rfl, fun K fa fdat F => posB F fun _ _ _ _ _ _ us hl => match us, hl with | [_, _], _ => rfl⟩
  (all_cons ⟨fi_breaking_in, rfl, rfl, fun K fa fdat F => posB F fun _ _ _ _ _ _ us hl => match us, hl with | [_, _], _ => rfl⟩
  (all_cons ⟨fi__law_draw, rfl, rfl, fun K fa fdat F => posB F fun _ _ _ _ _ _ us hl => match us, hl with | [_, _], _ => rfl⟩
  (all_cons ⟨fi__law_entry, rfl, rfl, fun K fa fdat F => posB F fun _ _ _ _ _ _ us hl => match us, hl with | [_, _], _ => rfl⟩
  (all_cons ⟨fi__law_width, rfl, rfl, fun K fa fdat F => posB F fun _ _ _ _ _ _ us hl => match us, hl with | [_], _ => rfl⟩
  (all_cons ⟨fi_word_at, rfl, rfl, fun K fa fdat F => posB F fun _ _ _ _ _ _ us hl => match us, hl with | [_, _, _], _ => rfl⟩
  (all_cons ⟨fi_leaving_out, rfl, rfl, fun K fa fdat F => posB F fun _ _ _ _ _ _ us hl => match us, hl with | [_], _ => rfl⟩
  (all_cons ⟨fi_expansion, rfl, rfl, fun K fa fdat F => posB F fun _ _ _ _ _ _ us hl => match us, hl with | [_, _], _ => rfl⟩
  (all_cons ⟨fi_depth_of, rfl, rfl, fun K fa fdat F => posB F fun _ _ _ _ _ _ us hl => match us, hl with | [_], _ => rfl⟩
  (all_cons ⟨fi_identity_for, rfl, rfl, fun K fa fdat F => posB F fun _ _ _ _ _ _ us hl => match us, hl with | [_, _], _ => rfl⟩
  (all_cons ⟨fi__law_bad_word, rfl, rfl, fun K fa fdat F => posB F fun _ _ _ _ _ _ us hl => match us, hl with | [_, _], _ => rfl⟩
  (all_cons ⟨fi__law_bad_element, rfl, rfl, fun K fa fdat F => posB F fun _ _ _ _ _ _ us hl => match us, hl with | [_, _], _ => rfl⟩
  (all_cons ⟨fi__law_bad_space, rfl, rfl, fun K fa fdat F => posB F fun _ _ _ _ _ _ us hl => match us, hl with | [_], _ => rfl⟩
  (all_cons ⟨fi__law_told, rfl, rfl, fun K fa fdat F => posB F fun _ _ _ _ _ _ us hl => match us, hl with | [_, _, _, _, _], _ => rfl⟩
  (all_cons ⟨fi__law_bad, rfl, rfl, fun K fa fdat F => posB F fun _ _ _ _ _ _ us hl => match us, hl with | [_, _, _, _, _, _], _ => rfl⟩
  (all_cons ⟨fi__law_word, rfl, rfl, fun K fa fdat F => posB F fun _ _ _ _ _ _ us hl => match us, hl with | [_, _], _ => rfl⟩
  (all_cons ⟨fi__law_element, rfl, rfl, fun K fa fdat F => posB F fun _ _ _ _ _ _ us hl => match us, hl with | [_, _], _ => rfl⟩
  (all_cons ⟨fi__law_space, rfl, rfl, fun K fa fdat F => posB F fun _ _ _ _ _ _ us hl => match us, hl with | [_], _ => rfl⟩
  (all_cons ⟨fi__law_begin, rfl, rfl, fun K fa fdat F => posB F fun _ _ _ _ _ _ us hl => match us, hl with | [_], _ => rfl⟩
  all_nil))))))))))))))))))))))))))))))))))
theorem kc_ok : ∀ q ∈ kc, ∃ f, fns[q.2.2.2.1]? = some f ∧ f.name = q.1 ∧ ∀ (K : PySem.W.Frag) fa fdat, L2.FunD K f.name f.name f.args f.body f.scope (f.dfl.map (He.Dv.v K)) [] fa fdat → ∀ (s : Shared) (us ws rs : List Value), us.length = q.2.1 → ws.length = q.2.2.1.length → pick q.2.2.2.2 (us ++ ws) = some rs → BindsTo s fdat ⟨us, q.2.2.1.zip ws⟩ (f.ps.zip rs) :=
  all_nil
def cvs : List (Str × D) := [("SUMMANDS", cv_SUMMANDS)]
theorem cn_ok : ∀ q ∈ cn, ∃ d, (q.1, d) ∈ cvs ∧ glo q.2 = some d := (all_cons ⟨_, by simp [cvs], rfl⟩ all_nil)
def xs : List Str := ["InvalidSpace", "InvalidElements", "InvalidNumber", "InvalidWord"]
theorem ok_all : (fns.all fun f => f.ok pc kc cn bl xs.zipIdx) = true := by decide +kernel
theorem binds : BindsT fns pc kc := ⟨pc_ok, kc_ok⟩
end LW
namespace LW
open PySem PySem.Spec PyProof.Rows L2 Y
abbrev R : PySem.W.OpenRow := PySem.W.OpenLaw.row PySem.Challenge.rw_wholelayers_k79_refusals_of_words
def exx (K : PySem.W.Frag) : Bool := exK cvs K && xcB "LayerError" "LayerError.__init__" "/claim/cut.py" xs K
abbrev fas : List He.Fa := faOf fns bl ++ xs.map He.Fa.glo
abbrev hk : PySem.W.Hook := Y.hookE 6 fas (fns.map FnI.d) exx "LayerError" "LayerError.__init__" 4
def ob (s : PySem.W.SharedT) : Y.AlE := Y.obsE 6 fas (fns.map FnI.d) exx "LayerError" (HandSHeadRun.getT s)
theorem ob_eq (s : PySem.W.SharedT) : ob s = hk.obs s.abs := by
  have e : HandSHeadRun.getT s = s.abs.heap.get? := funext (HandSHeadRun.getT_eq s)
  unfold ob
  rw [e]
  rfl
def loose : List PySem.Str := (["LayerError", "InvalidSpace", "InvalidElements", "InvalidNumber", "InvalidWord", "is_integer", "is_natural", "are_integers", "are_parts", "check_between", "SUMMANDS", "is_space", "check_space", "width_in", "is_element_in", "identity_in", "product_in", "inverse_in", "check_word", "word_in"] : List PySem.Str) ++ (["word_at", "left_out", "leaving_out", "expansion_in", "expansion", "depth_of", "breaking_in", "identity_for", "_law_begin", "_law_draw", "_law_width", "_law_space", "_law_entry", "_law_element", "_law_word", "_law_bad_space", "_law_bad_element", "_law_bad_word", "_law_told", "_law_bad"] : List PySem.Str)
theorem run0 (w : World) : HandSHeadRun.RunEq R (PySem.W.view R.prog [45]) hk ob 8000 loose (w.withFollow "special-get-raises" false) := by
  intro os
  kernel_rfl
theorem run1 (w : World) : HandSHeadRun.RunEq R (PySem.W.view R.prog [45]) hk ob 8000 loose (w.withFollow "special-get-raises" true) := by
  intro os
  kernel_rfl
theorem run (w : World) : HandSHeadRun.RunEq R (PySem.W.view R.prog [45]) hk ob 8000 loose w := PySem.W.byRow2 "special-get-raises" (P := fun w => HandSHeadRun.RunEq R (PySem.W.view R.prog [45]) hk ob 8000 loose w) run0 run1 w

end LW
open PySem PySem.W PySem.Calls PyProof.Rows
theorem PySem.Challenge.cw_wholelayers_k79_refusals_of_words_holds : PySem.Challenge.rw_wholelayers_k79_refusals_of_words.Holds := by
  w_on; o_law
  refine HandSHeadRun.head_any (r := OpenLaw.row PySem.Challenge.rw_wholelayers_k79_refusals_of_words) (q := view (OpenLaw.row PySem.Challenge.rw_wholelayers_k79_refusals_of_words).prog [45]) (H := LW.hk) (ob := LW.ob) (M := 8000) (loose := LW.loose) (d := HandSHeadRun.topDef (OpenLaw.row PySem.Challenge.rw_wholelayers_k79_refusals_of_words).prog 45) (kwd := []) LW.ob_eq
    (by kernel_rfl) (fun s => by kernel_rfl) LW.run (by kernel_rfl) (by kernel_rfl) (by kernel_rfl) (by rfl) (by first | assumption | decide +kernel) (by decide +kernel) ⟨rfl, rfl, rfl, rfl, rfl, by decide +kernel⟩ ?hw ?hc
  case hw => w_witness2
  case hc =>
    refine Y.walk_end (l := PySem.Challenge.rw_wholelayers_k79_refusals_of_words) (n := 63) (k := 40) (x := "script") rfl (by decide) (by kernel_rfl) ⟨rfl, by decide, by decide⟩ ?F
    intro w mg fa h Y hG hmg0
    obtain ⟨K, KX, c, iat⟩ := Y
    have hexx : (Y.exK LW.cvs K && Y.xcB "LayerError" "LayerError.__init__" "/claim/cut.py" LW.xs K) = true := c.more
    obtain ⟨hexK, hxc⟩ := Bool.and_eq_true_iff.mp hexx
    have M := Y.mod_of (wf := 100000) (xs := LW.xs) (mg := mg) (fun _ h => List.mem_append_left _ h) c hexK KX hG (List.all_eq_true.mp LW.ok_all) LW.binds LW.cn_ok
    obtain ⟨fa', fdat, m⟩ := M.fn LW.fi_law (List.mem_of_getElem? (i := 34) rfl)
    have e : fa = fa' := by
      have e1 : (HandSHeadRun.topDef (OpenLaw.row PySem.Challenge.rw_wholelayers_k79_refusals_of_words).prog 45).name = ("law" : PySem.Str) := by kernel_rfl
      rw [e1] at hmg0
      have e2 := hmg0.symm.trans m.glo
      cases e2
      rfl
    subst e
    have b := L2.FunD.bindsA (ps := ["script"]) m.def_ fun _ _ _ _ _ _ us hl => match us, hl with | [_], _ => rfl
    exact ⟨Y.wlOf K LW.fns LW.cvs LW.glo 100000 LW.xs, fdat, 34, KX, fun s v => b s [v] rfl, Y.cs_of KX hG hexK, fun ns h1 h2 => LW.sem ns h1 h2, fun base hbase => Y.fn_all (base := base) M (Y.xc_of (n := 4) hxc iat (fun x hx => He.glo_ok KX hG (c.t.d.facts (f := .glo x) (List.mem_append_right _ (List.mem_map_of_mem (f := He.Fa.glo) hx)))) (M.bl "super" (by decide)) (by kernel_rfl) (by kernel_rfl) hbase) (Y.xm_of hxc) 40 34 LW.fi_law fa fdat rfl m⟩

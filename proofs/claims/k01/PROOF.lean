import PyProof.Rows.All
import Wide.All
import OpenK.AllK
import Wide.FinOn
import HandS.ForMost
import HandS.ForExc
import HandS.Text
import HandS.TupMul
import HandS.TupAny
import HandS.Style
import HandS.More
import PyProof.ListStr
import PyProof.StrOps2
import HandS.IsInst
import HandS.Deep
import HandS.RaiseMore
import HandS.WordsDict
import HandS.ExcOwn
import HandS.SetFor
import HandS.Small
import HandS.Spec
import HandS.WordsExc
import HandS.Property
import HandS.ExcInit
import HandS.TryMany
import HandS.ExcField
import KE.GoesMore
import HandS.Zip
import HandS.Iter
import HandS.DictComp
import KE.KCallOwn
import HandS.ListItems
import PyProof.InstNe
import OpenK.KWalk
import HandS.ExcIs
import PyProof.StrLaws
import PyProof.StrLawsRepr
import KE.RegKIsAll
import PySem.Challenge.RW_shutbyrings_k01_what_are_signs
set_option Elab.async false
set_option linter.all false
set_option maxRecDepth 100000
set_option maxHeartbeats 1000000
set_option maxHeartbeats 4000000
/-! What the library does not say: t * k for all k, list * k as it stands, t[::-1], list(text). -/
namespace HT
open PySem PySem.Spec PyProof.Rows
section
variable {prog : Program} {w : World} {A : Around} {E : Value → Shared → Prop} {s : Shared}
theorem places_rev (n : Nat) : Builtin.Slice.slicePlaces ((n : Int) - 1) (-1) (-1) = n := by
  unfold Builtin.Slice.slicePlaces
  split <;> (try split) <;> simp_all <;> omega
theorem adjust_rev (n : Nat) : Builtin.Slice.sliceAdjust none none (-1) (n : Int) = ((n : Int) - 1, -1) := by
  unfold Builtin.Slice.sliceAdjust
  simp
theorem sliceApplied_rev {sl : Addr} {vl vu vs : Value} {n : Nat} {Q : Int × Int × Nat → Shared → Prop} (hs : s.heap.IsSliceOf sl vl vu vs) (pl : IsPart vl none) (pu : IsPart vu none) (ps : IsPart vs (some (-1)))
    (h : Q ((n : Int) - 1, -1, n) s) : wpAny (model prog w) A (Builtin.Slice.sliceApplied (.ref sl) (pure (n : Int))) Q E s := by
  obtain ⟨os, hos, hcs, hds⟩ := id hs
  unfold Builtin.Slice.sliceApplied Builtin.Slice.sliceFields
  refine wpAny_bind (wpAny_bind (wpAny_field hos hds (x := vl) rfl (wpAny_bind (wpAny_field hos hds (x := vu) rfl (wpAny_bind (wpAny_field hos hds (x := vs) rfl (wpAny_pure ?_)))))))
  refine wpAny_bind (slicePart_ ps ?_)
  show wpAny _ _ (if ((-1 : Int) == 0) = true then _ else _) _ _ s
  rw [if_neg (by decide)]
  refine wpAny_bind (slicePart_ pl (wpAny_bind (slicePart_ pu (wpAny_bind (wpAny_pure ?_)))))
  show wpAny _ _ (match Builtin.Slice.sliceAdjust none none (-1) (n : Int) with | (lo, hi) => pure (lo, (-1 : Int), Builtin.Slice.slicePlaces lo hi (-1))) _ _ s
  rw [adjust_rev n]
  show wpAny _ _ (pure ((n : Int) - 1, (-1 : Int), Builtin.Slice.slicePlaces ((n : Int) - 1) (-1) (-1))) _ _ s
  rw [places_rev]
  exact wpAny_pure h
theorem fm_congr {α β : Type} {f g : α → Option β} : ∀ {l : List α}, (∀ x ∈ l, f x = g x) → l.filterMap f = l.filterMap g
  | [], _ => rfl
  | a :: l, h => by rw [List.filterMap_cons, List.filterMap_cons, h a List.mem_cons_self, fm_congr fun x m => h x (List.mem_cons_of_mem _ m)]
theorem pick_rev (xs : Array Value) : ((List.range xs.size).filterMap fun (m : Nat) => xs[((xs.size : Int) - 1 + (m : Int) * -1).toNat]?).toArray = xs.toList.reverse.toArray := by
  have e1 : (List.range xs.size).filterMap (fun (m : Nat) => xs[((xs.size : Int) - 1 + (m : Int) * -1).toNat]?) = ((List.range xs.size).map fun k => xs.size - 1 - k).filterMap (xs[·]?) := by
    rw [List.filterMap_map]
    refine fm_congr fun m hm => ?_
    have := List.mem_range.mp hm
    have : ((xs.size : Int) - 1 + (m : Int) * -1).toNat = xs.size - 1 - m := by omega
    rw [this]; rfl
  rw [e1, PySem.W.krv_range, List.filterMap_reverse, PySem.W.krv_all]
theorem getItem_tuple_rev {t sl : Addr} {items : Array Value} {vl vu vs : Value} {Q : Value → Shared → Prop} (ht : IsTup s.heap t items) (hs : s.heap.IsSliceOf sl vl vu vs) (pl : IsPart vl none) (pu : IsPart vu none) (ps : IsPart vs (some (-1)))
    (h : Q (.ref s.heap.objs.size) { s with heap := s.heap.push { cls := .type "tuple", data := .seq items.toList.reverse.toArray } })
    (hsz : items.size ≤ sizeLine) : wpAny (model prog w) A (getItem (.ref t) (.ref sl)) Q E s := by
  have htake : sizeOk (.seq items.toList.reverse.toArray) := by
    show (items.toList.reverse.toArray).size ≤ sizeLine
    rw [List.size_toArray, List.length_reverse, Array.length_toList]
    omega
  obtain ⟨os, hos, hcs, hds⟩ := id hs
  have hTs : s.TypeIs (.ref sl) "slice" := ⟨os, hos, hcs⟩
  unfold getItem
  try with_reducible refine wpAny_holding ?_
  first | refine wpAny_bind (wpAny_pure ?_) | skip
  refine wpAny_bind (wpAny_sequenceKey ht.typeIs (by decide) ?_)
  refine wpAny_bind (wpAny_callSpecial?_slot (name := Str.ofString "__getitem__") ht.typeIs PyProof.Rows.slot_tuple_getitem
    (wpAny_call_entry PyProof.Rows.slot_tuple_getitem ht.typeIs entry_tuple_getitem ?_ (args_tuple_getitem _ _)))
  show wpAny _ _ (Builtin.Tuple.tupleItemsOf (.ref t) >>= _) _ _ s
  refine wpAny_bind (tupleItemsOf_ ht ?_)
  refine wpAny_bind (wpAny_typeOf hTs ?_)
  rw [if_pos (by decide)]
  refine wpAny_bind (sliceApplied_rev hs pl pu ps ?_)
  show wpAny _ _ (if ((items.size : Int) - 1 == 0 && (-1 : Int) == 1 && items.size == items.size) = true then _ else _) _ _ s
  rw [if_neg (by simp), pick_rev]
  first
    | exact wpAny_bind (m := Builtin.Tuple.tupleExact _) (wpAny_newObj_type (wpAny_pure ⟨_, rfl, wpAny_pure h⟩) htake)
    | exact wpAny_bind (m := Builtin.Tuple.tupleExact _) (wpAny_newObj_type (wpAny_bind (wpAny_pure (wpAny_pure ⟨_, rfl, wpAny_pure h⟩))) htake)
    | exact wpAny_bind (wpAny_bind (m := Builtin.Tuple.tupleExact _) (wpAny_newObj_type (wpAny_pure (wpAny_pure ⟨_, rfl, wpAny_pure h⟩)) htake))
    | exact wpAny_bind (wpAny_bind (m := Builtin.Tuple.tupleExact _) (wpAny_newObj_type (wpAny_pure ⟨_, rfl, wpAny_pure h⟩) htake))
end
end HT
namespace L2
open PySem PySem.Spec PyProof.Rows
/-! ### xs[::-1] of a list or a tuple -/
def tRevA (K : PySem.W.Frag) (te : TE) : TE := fun σ H Q => te σ H fun x H1 => ∃ a xs, x = .ref a ∧ ((SqL K H1 a xs ∧ ∀ p, H1 p = none → Q (.ref p) (upd H1 p (.lst xs.reverse))) ∨ (SqT K H1 a xs ∧ ∀ p, H1 p = none → Q (.ref p) (upd H1 p (.tup xs.reverse))))
section
variable {X : Cx}
theorem pe_revA {e : Expr} {te : TE} {k : Nat} {p1 p2 p3 pos : Pos} (he : PE X e te) : PE X (.Subscript e (.Slice none none (some (.UnaryOp .USub (.Constant (.int 1) k p1) p2)) p3) pos) (tRevA X.K te) := by
  refine ⟨fun pins s σ H Q I h => ?_⟩
  refine Subscript_ (thn (he.run pins s σ H _ I h) fun v s1 ⟨x, H1, I1, r1, q1⟩ => ?_)
  obtain ⟨a, xs, ex, q⟩ := q1
  subst ex
  cases r1
  have hst : PO X (some (.UnaryOp .USub (.Constant (.int 1) k p1) p2)) (tPart (tUn (rU fun i => .int (-i)) (tC (.int 1)))) := po_some (pe_un un_neg pe_int)
  refine wpAny_Slice (thn (po_none.run pins s1 σ H1 (fun o H2 => o = none ∧ H2 = H1) I1 ⟨rfl, rfl⟩) fun vl s2 ⟨l, H2, I2, pl, el, e2⟩ => ?_)
  subst el e2
  refine thn (po_none.run pins s2 σ H2 (fun o H3 => o = none ∧ H3 = H2) I2 ⟨rfl, rfl⟩) fun vu s3 ⟨u, H3, I3, pu, eu, e3⟩ => ?_
  subst eu e3
  refine thn (hst.run pins s3 σ H3 (fun o H4 => o = some (-1) ∧ H4 = H3) I3 ⟨1, rfl, -1, rfl, rfl, rfl⟩) fun vs s4 ⟨o, H4, I4, ps, eo, e4⟩ => ?_
  subst eo e4
  have I5 : Inv X pins σ H4 { s4 with heap := s4.heap.push { cls := .type "slice", data := .fields #[vl, vu, vs] } } := I4.kept (t' := s4.toks) fun b ob q => Heap.get?_push_of_some _ q
  show wpAny (model X.prog X.w) X.A (subscriptTail e (.Slice none none (some (.UnaryOp .USub (.Constant (.int 1) k p1) p2)) p3) (.ref a) (.ref s4.heap.objs.size)) (EP X pins σ Q) X.xe { s4 with heap := s4.heap.push { cls := .type "slice", data := .fields #[vl, vu, vs] } }
  rcases q with ⟨hx, q⟩ | ⟨hx, q⟩
  · obtain ⟨its, r, ht, hz⟩ := I5.list hx
    have hlen := r.length
    refine tail_any (ops := [.ref a, .ref s4.heap.objs.size]) ht.isList.typeIs (PySem.slot_list_getitem.lookup) ?_ (by with_unfolding_all rfl)
    refine wpAny_getItem_list_slice ht.isList (Heap.IsSliceOf.new _ vl vu vs) pl pu ps (by decide) ?_ (by rw [List.size_toArray]; omega)
    rw [PySem.W.krv_pick]
    refine ⟨.ref _, _, I5.laid (t' := s4.toks) (o := .lst xs.reverse) (fun b ob q => Heap.get?_push_of_some _ q) (Nat.le_refl _) ?_, rfl, q _ (I5.hok.fresh (Nat.le_refl _))⟩
    exact ⟨by rw [List.length_reverse]; exact hz, _, 0, r.reverse, Heap.get?_push_size _ rfl⟩
  · obtain ⟨its, r, ht, hz⟩ := I5.tuple hx
    have hlen := r.length
    refine tail_any (ops := [.ref a, .ref s4.heap.objs.size]) ht.typeIs PyProof.Rows.slot_tuple_getitem.lookup ?_ (by with_unfolding_all rfl)
    refine HT.getItem_tuple_rev ht (Heap.IsSliceOf.new _ vl vu vs) pl pu ps ?_ (by rw [List.size_toArray]; omega)
    refine ⟨.ref _, _, I5.laid (t' := s4.toks) (o := .tup xs.reverse) (fun b ob q => Heap.get?_push_of_some _ q) (Nat.le_refl _) ?_, rfl, q _ (I5.hok.fresh (Nat.le_refl _))⟩
    exact ⟨by rw [List.length_reverse]; exact hz, _, r.reverse, IsTup.new _ _⟩

/-! ### list * k, as the list stands -/
theorem op_repR : OpR X (binaryOp .Mult) (fun x y H Q => ∃ l k xs, x = .ref l ∧ y = .int k ∧ Rd H l (.lst xs) ∧ 0 ≤ k ∧ k ≤ 1000 ∧ xs.length ≤ 1000 ∧ ∀ p, H p = none → Q (.ref p) (upd H p (.lst (List.replicate k.toNat xs).flatten))) := by
  intro pins s σ H x y v u Q I rx ry h
  obtain ⟨l, k, xs, ex, ey, hH, h1, h2, hz, q⟩ := h
  subst ex; subst ey
  cases rx
  obtain ⟨t, rfl⟩ := ry
  obtain ⟨_, its, n, r, e⟩ := hH.ok I.hok
  have hl := r.length
  have hz' : xs.length * k.toNat ≤ sizeLine := by
    rw [sizeLine_eq]
    have : xs.length * k.toNat ≤ 1000 * 1000 := Nat.mul_le_mul hz (by omega)
    omega
  have hlen : its.toArray.size * k.toNat ≤ sizeLine := by rw [List.size_toArray, ← hl]; exact hz'
  have hcap : ¬ its.toArray.size * k.toNat > (2 ^ 63 - 1) / 8 := by
    have : (sizeLine : Nat) ≤ (2 ^ 63 - 1) / 8 := by decide
    omega
  have hfit : ¬ (!Builtin.List.listFitsIndex k) = true := by
    rw [fitsIndex_both (by omega) (by omega)]
    exact Bool.false_ne_true
  have hlong : ¬ Builtin.List.listTooLong (its.toArray.size * k.toNat) = true := by
    rw [notLongL hlen]
    exact Bool.false_ne_true
  have hnew : List.foldl (fun x1 x2 => x1 ++ x2) #[] (List.replicate (if its.toArray.isEmpty = true then 0 else k.toNat) its.toArray) = (List.replicate k.toNat its).flatten.toArray := by
    have f0 : ∀ m : Nat, List.foldl (fun x1 x2 => x1 ++ x2) #[] (List.replicate m its.toArray) = (List.replicate m its).flatten.toArray := fun m => by
      have := foldl_rep its m []
      rw [List.nil_append] at this
      exact this
    rw [f0]
    cases its with
    | nil => simp
    | cons a r' => rw [if_neg (by simp)]
  refine wpAny_binaryOp_repeat_ref (T := "list") (U := "int") (by decide) ⟨_, e, rfl⟩ (fun s' => typeIs_int s' k t) noFill_list_mul F.fills_int_mul F.slot_int_rmul repeat_list F.slot_int_index.lookup
    (call_meets F.slot_int_rmul (typeIs_int s k t) F.entry_int_rmul (F.args_int_rmul_2 _ _) (int___rmul___int_list k t l its.toArray n)
      ⟨e, rfl, ⟨_, e, rfl⟩, call_meets F.slot_list_mul ⟨_, e, rfl⟩ F.entry_list_mul (F.args_list_mul_2 _ _) (AutoListH.list___mul___list_int_3 l its.toArray n k t hfit hcap hlong) ⟨e, ?_⟩⟩)
  rw [hnew]
  exact ⟨.ref _, _, I.lnew (t' := s.toks) (r.rep k.toNat) (by rw [PyProof.Rows.lm_len_rep_flat, Nat.mul_comm]; exact hz'), rfl, q _ I.fresh⟩

/-! ### t * k -/
theorem tuple_mulS (l : Addr) (items : Array Value) (n : Nat) (sl : Array (Option Value)) (dd : Option Addr) (x : Int) (u : Tok) (c0 : (decide (x < -(2 ^ 63)) || decide (x ≥ 2 ^ 63)) = false) (c1 : (items.isEmpty || x == 1) = true) :
    Meets (Builtin.«tuple.__mul__» ⟨[.ref l, .int x u], []⟩) (fun _ R s => s.heap.get? l = some { cls := .type "tuple", dict := dd, data := .seq items n, slots := sl } ∧ R (.ok (.ret (Value.ref l))) s) :=
  .of_wp fun prog w A R s h => by
    obtain ⟨hp, g, d, tk, os⟩ := s
    obtain ⟨hl, h⟩ := h
    have f1 := AutoSeq1.idx_int
    wp_walk using wpAny_loadPart' hl
    repeat (first
      | (refine wpAny_ite_false (decide_eq_false (by rw [c0]; exact Bool.false_ne_true)) ?_; wp_walk using wpAny_loadPart' hl)
      | (refine wpAny_ite_true (decide_eq_true (by rw [c1])) ?_; wp_walk using wpAny_loadPart' hl))
    all_goals first
      | exact ⟨_, rfl, h⟩
      | skip
theorem tuple_mul0 (l : Addr) (items : Array Value) (n : Nat) (sl : Array (Option Value)) (dd : Option Addr) (x : Int) (u : Tok) (c0 : (decide (x < -(2 ^ 63)) || decide (x ≥ 2 ^ 63)) = false) (c1 : (items.isEmpty || x == 1) = false) (c2 : (decide (x ≤ 0) || items.isEmpty) = true) :
    Meets (Builtin.«tuple.__mul__» ⟨[.ref l, .int x u], []⟩) (fun _ R s => s.heap.get? l = some { cls := .type "tuple", dict := dd, data := .seq items n, slots := sl } ∧
      R (.ok (.ret (Value.ref s.heap.objs.size))) { s with heap := s.heap.push { cls := Value.type "tuple", data := Data.seq #[] }, toks := s.toks }) :=
  .of_wp fun prog w A R s h => by
    obtain ⟨hp, g, d, tk, os⟩ := s
    obtain ⟨hl, h⟩ := h
    have f1 := AutoSeq1.idx_int
    wp_walk using wpAny_loadPart' hl
    repeat (first
      | (refine wpAny_ite_false (decide_eq_false (by rw [c0]; exact Bool.false_ne_true)) ?_; wp_walk using wpAny_loadPart' hl)
      | (refine wpAny_ite_false (decide_eq_false (by rw [c1]; exact Bool.false_ne_true)) ?_; wp_walk using wpAny_loadPart' hl)
      | (refine wpAny_ite_true (decide_eq_true (by rw [c2])) ?_; wp_walk using wpAny_loadPart' hl))
    all_goals first
      | exact ⟨_, rfl, h⟩
      | skip
theorem op_repTA : OpR X (binaryOp .Mult) (fun x y H Q => ∃ l k xs, x = .ref l ∧ y = .int k ∧ SqT X.K H l xs ∧ 0 ≤ k ∧ k ≤ 1000 ∧ xs.length ≤ 1000 ∧ ((xs = [] ∨ k = 1) → Q (.ref l) H) ∧ (¬ (xs = [] ∨ k = 1) → ∀ p, H p = none → Q (.ref p) (upd H p (.tup (List.replicate k.toNat xs).flatten)))) := by
  intro pins s σ H x y v u Q I rx ry h
  obtain ⟨l, k, xs, ex, ey, hT, h1, h2, hz, q1, q2⟩ := h
  subst ex; subst ey
  by_cases c : xs = [] ∨ k = 1
  · cases rx
    obtain ⟨t, rfl⟩ := ry
    obtain ⟨its, r, ⟨⟨cls, dd, data, sl⟩, ho, hc, n, hd⟩, hs⟩ := I.tuple hT
    simp only at hc hd
    subst hc hd
    have c0 : (decide (k < -(2 ^ 63)) || decide (k ≥ 2 ^ 63)) = false := by
      rw [decide_eq_false (by omega), decide_eq_false (by omega)] <;> rfl
    have c1 : (its.toArray.isEmpty || k == 1) = true := by
      rcases c with c | c
      · subst c
        cases r
        rfl
      · subst c; simp
    exact wpAny_binaryOp_repeat_ref (T := "tuple") (U := "int") (by decide) ⟨_, ho, rfl⟩ (fun s' => typeIs_int s' k t) noFill_tuple_mul F.fills_int_mul F.slot_int_rmul repeat_tuple F.slot_int_index.lookup
      (call_meets F.slot_int_rmul (typeIs_int s k t) F.entry_int_rmul (F.args_int_rmul_2 _ _) (int_rmul_tuple k t l its.toArray n dd sl)
        ⟨ho, rfl, ⟨_, ho, rfl⟩, call_meets F.slot_tuple_mul ⟨_, ho, rfl⟩ F.entry_tuple_mul (F.args_tuple_mul_2 _ _) (tuple_mulS l its.toArray n sl dd k t c0 c1) ⟨ho, .ref l, H, I, rfl, q1 c⟩⟩)
  · have cn : xs ≠ [] ∧ k ≠ 1 := ⟨fun z => c (.inl z), fun z => c (.inr z)⟩
    by_cases c2 : 2 ≤ k
    · exact op_repT pins s σ H _ _ v u Q I rx ry ⟨l, k, xs, rfl, rfl, hT, cn.1, c2, h2, hz, q2 c⟩
    · have k0 : k = 0 := by omega
      subst k0
      cases rx
      obtain ⟨t, rfl⟩ := ry
      obtain ⟨its, r, ⟨⟨cls, dd, data, sl⟩, ho, hc, n, hd⟩, hs⟩ := I.tuple hT
      simp only at hc hd
      subst hc hd
      have c0 : (decide ((0 : Int) < -(2 ^ 63)) || decide ((0 : Int) ≥ 2 ^ 63)) = false := by decide
      have hi : its.toArray.isEmpty = false := by
        cases its with
        | nil => cases r; exact absurd rfl cn.1
        | cons a b => rfl
      have c1 : (its.toArray.isEmpty || (0 : Int) == 1) = false := by rw [hi]; rfl
      have c2 : (decide ((0 : Int) ≤ 0) || its.toArray.isEmpty) = true := by simp
      refine wpAny_binaryOp_repeat_ref (T := "tuple") (U := "int") (by decide) ⟨_, ho, rfl⟩ (fun s' => typeIs_int s' 0 t) noFill_tuple_mul F.fills_int_mul F.slot_int_rmul repeat_tuple F.slot_int_index.lookup
        (call_meets F.slot_int_rmul (typeIs_int s 0 t) F.entry_int_rmul (F.args_int_rmul_2 _ _) (int_rmul_tuple 0 t l its.toArray n dd sl)
          ⟨ho, rfl, ⟨_, ho, rfl⟩, call_meets F.slot_tuple_mul ⟨_, ho, rfl⟩ F.entry_tuple_mul (F.args_tuple_mul_2 _ _) (tuple_mul0 l its.toArray n sl dd 0 t c0 c1 c2) ⟨ho, ?_⟩⟩)
      refine ⟨.ref s.heap.objs.size, _, I.laid (t' := s.toks) (o := .tup []) (fun b ob q => Heap.get?_push_of_some _ q) (Nat.le_refl _) ?_, rfl, ?_⟩
      · exact ⟨Nat.zero_le _, _, .nil, IsTup.new _ _⟩
      · have := q2 c s.heap.objs.size (I.hok.fresh (Nat.le_refl _))
        simpa using this

/-! ### text * k -/
theorem foldl_len (x : Array Nat) : ∀ (k : Nat) (acc : Array Nat), ((List.replicate k x).foldl (· ++ ·) acc).size = acc.size + k * x.size
  | 0, acc => by simp
  | k + 1, acc => by
    rw [List.replicate_succ, List.foldl_cons, foldl_len x k, Array.size_append, Nat.succ_mul]; omega
theorem op_strMul : OpR X (binaryOp .Mult) (fun x y H Q => ∃ (z : Str) (k : Int), x = .str z ∧ y = .int k ∧ 2 ≤ k ∧ k ≤ 1000 ∧ 1 ≤ z.length ∧ z.length ≤ 1000 ∧ Q (.str ⟨(List.replicate k.toNat z.cps).foldl (· ++ ·) #[]⟩) H) := by
  intro pins s σ H x y v u Q I rx ry h
  obtain ⟨z, k, ex, ey, h1, h2, h3, h4, q⟩ := h
  subst ex; subst ey
  obtain ⟨t, rfl⟩ := rx
  obtain ⟨t', rfl⟩ := ry
  have n1 : ¬ k < 1 := by omega
  have n2 : (k == 1 || z.length == 0) = false := by
    rw [Bool.or_eq_false_iff]
    exact ⟨beq_eq_false_iff_ne.mpr (by omega), beq_eq_false_iff_ne.mpr (by omega)⟩
  have pr : z.length * k.toNat ≤ 1000 * 1000 := Nat.mul_le_mul h4 (by omega)
  refine PySem.P.mul_str ?_ (fun _ _ => ?_) (fun _ _ => ?_) ?_
  · rw [decide_eq_false (by omega), decide_eq_false (by omega)]; rfl
  · intro c
    have : (2 ^ 63 - 1) / k ≥ (2 ^ 63 - 1) / 1000 := by
      apply Int.le_ediv_of_mul_le (by omega)
      have : ((2 ^ 63 - 1) / 1000 : Int) * k ≤ ((2 ^ 63 - 1) / 1000 : Int) * 1000 := Int.mul_le_mul_of_nonneg_left h2 (by decide)
      omega
    omega
  · unfold Builtin.Str.tooLong
    simp
    have := sizeLine_eq
    omega
  · rw [if_neg n1, n2, if_neg Bool.false_ne_true]
    refine ⟨?_, .str _, H, I.tok _, ⟨_, rfl⟩, q⟩
    show ((List.replicate k.toNat z.cps).foldl (· ++ ·) #[]).size ≤ sizeLine
    rw [foldl_len, sizeLine_eq]
    have : k.toNat * z.cps.size = z.length * k.toNat := Nat.mul_comm _ _
    simp only [List.size_toArray, List.length_nil, Nat.zero_add]
    omega

/-! ### list(text) -/
theorem call_list_text (hc : X.calm = true) : CallR X (.type "list") (fun xs H Q => ∃ x, xs = [.str x] ∧ x.length ≤ sizeLine ∧ ∀ p, H p = none → Q (.ref p) (upd H p (.lst (x.cps.toList.map fun c => V.str ⟨#[c]⟩)))) := by
  intro pins s σ H xs us Q I r h
  obtain ⟨x, ex, hl, q⟩ := h
  subst ex
  obtain ⟨u, eu, ru⟩ := vals1 r
  subst eu
  obtain ⟨t, rfl⟩ := ru
  refine call_list_str (I.ok.hd hc) x t (fun h' tk acc c' kp hl' it => ?_) hl
  have len : acc.size = x.cps.size := it.1
  have hv : Vals (x.cps.toList.map fun c => V.str ⟨#[c]⟩) acc.toList := by
    refine vals_of_idx _ _ (by simp [len]) fun j v hj => ?_
    obtain ⟨c, w, e1, e2⟩ := it.2 j v (by simpa using hj)
    refine ⟨.str ⟨#[c]⟩, ?_, w, e2⟩
    rw [List.getElem?_map]
    have : x.cps.toList[j]? = some c := by simpa using e1
    rw [this]; rfl
  refine ⟨.ref s.heap.objs.size, _, I.laid (t' := tk) (o := .lst (x.cps.toList.map fun c => V.str ⟨#[c]⟩)) kp (Nat.le_refl _) ?_, rfl, q _ (I.hok.fresh (Nat.le_refl _))⟩
  exact ⟨by rw [List.length_map, Array.length_toList]; exact hl, _, _, hv, hl'⟩
end
end L2

/-! MiniPy: a small language over trees and a small heap of what may still change; its evaluator. -/
namespace My
open PySem (Str PyData)

/-- a closed value -/
inductive T where
  | non | bl (b : Bool) | int (i : Int) | str (x : Str)
  | tup (xs : List T) | lst (xs : List T) | dct (ks vs : List T)
  | obj (c : Nat) (ns : List Str) (vs : List T)
  deriving Inhabited
/-- a value, or a thing that may change -/
inductive S where
  | t (v : T) | r (n : Nat)
  deriving Inhabited
/-- what may change -/
inductive MO where
  | lst (xs : List T) | dct (ks vs : List T) | obj (c : Nat) (ns : List Str) (vs : List T) | dead
  deriving Inhabited
abbrev Hm := List MO
abbrev En := List (Option S)
inductive R (α : Type) where
  | ok (a : α) (h : Hm) | ex (c : Nat) (fs : List T) (h : Hm) | bad

def R.bind {α β : Type} (x : R α) (f : α → Hm → R β) : R β :=
  match x with
  | .ok a h => f a h
  | .ex c fs h => .ex c fs h
  | .bad => .bad
@[simp] theorem R.bind_ok {α β : Type} (a : α) (h : Hm) (f : α → Hm → R β) : (R.ok a h).bind f = f a h := rfl
@[simp] theorem R.bind_ex {α β : Type} (c : Nat) (fs : List T) (h : Hm) (f : α → Hm → R β) : (R.ex c fs h).bind f = .ex c fs h := rfl
@[simp] theorem R.bind_bad {α β : Type} (f : α → Hm → R β) : (R.bad : R α).bind f = .bad := rfl
def liftO {α : Type} (o : Option α) (h : Hm) : R α := match o with | some a => .ok a h | none => .bad
@[simp] theorem liftO_some {α : Type} (a : α) (h : Hm) : liftO (some a) h = .ok a h := rfl
@[simp] theorem liftO_none {α : Type} (h : Hm) : liftO (none : Option α) h = .bad := rfl

/-! ### trees -/
mutual
def T.beq : T → T → Bool
  | .non, .non => true
  | .bl a, .bl b => a == b
  | .int a, .int b => a == b
  | .str a, .str b => a == b
  | .tup a, .tup b => beqs a b
  | .lst a, .lst b => beqs a b
  | .dct a b, .dct c d => beqs a c && beqs b d
  | .obj a b c, .obj d e f => a == d && b == e && beqs c f
  | _, _ => false
def beqs : List T → List T → Bool
  | [], [] => true
  | x :: xs, y :: ys => x.beq y && beqs xs ys
  | _, _ => false
end
mutual
theorem T.beq_eq : ∀ a b : T, a.beq b = true → a = b
  | .non, .non, _ => rfl
  | .bl a, .bl b, h => by simp [T.beq] at h; rw [h]
  | .int a, .int b, h => by simp [T.beq] at h; rw [h]
  | .str a, .str b, h => by simp [T.beq] at h; rw [h]
  | .tup a, .tup b, h => by simp only [T.beq] at h; rw [beqs_eq a b h]
  | .lst a, .lst b, h => by simp only [T.beq] at h; rw [beqs_eq a b h]
  | .dct a b, .dct c d, h => by simp only [T.beq, Bool.and_eq_true] at h; rw [beqs_eq a c h.1, beqs_eq b d h.2]
  | .obj a b c, .obj d e f, h => by simp only [T.beq, Bool.and_eq_true, beq_iff_eq] at h; rw [h.1.1, h.1.2, beqs_eq c f h.2]
  | .non, .bl _, h | .non, .int _, h | .non, .str _, h | .non, .tup _, h | .non, .lst _, h | .non, .dct _ _, h | .non, .obj _ _ _, h
  | .bl _, .non, h | .bl _, .int _, h | .bl _, .str _, h | .bl _, .tup _, h | .bl _, .lst _, h | .bl _, .dct _ _, h | .bl _, .obj _ _ _, h
  | .int _, .non, h | .int _, .bl _, h | .int _, .str _, h | .int _, .tup _, h | .int _, .lst _, h | .int _, .dct _ _, h | .int _, .obj _ _ _, h
  | .str _, .non, h | .str _, .bl _, h | .str _, .int _, h | .str _, .tup _, h | .str _, .lst _, h | .str _, .dct _ _, h | .str _, .obj _ _ _, h
  | .tup _, .non, h | .tup _, .bl _, h | .tup _, .int _, h | .tup _, .str _, h | .tup _, .lst _, h | .tup _, .dct _ _, h | .tup _, .obj _ _ _, h
  | .lst _, .non, h | .lst _, .bl _, h | .lst _, .int _, h | .lst _, .str _, h | .lst _, .tup _, h | .lst _, .dct _ _, h | .lst _, .obj _ _ _, h
  | .dct _ _, .non, h | .dct _ _, .bl _, h | .dct _ _, .int _, h | .dct _ _, .str _, h | .dct _ _, .tup _, h | .dct _ _, .lst _, h | .dct _ _, .obj _ _ _, h
  | .obj _ _ _, .non, h | .obj _ _ _, .bl _, h | .obj _ _ _, .int _, h | .obj _ _ _, .str _, h | .obj _ _ _, .tup _, h | .obj _ _ _, .lst _, h | .obj _ _ _, .dct _ _, h => by simp [T.beq] at h
theorem beqs_eq : ∀ a b : List T, beqs a b = true → a = b
  | [], [], _ => rfl
  | x :: xs, y :: ys, h => by simp only [beqs, Bool.and_eq_true] at h; rw [T.beq_eq x y h.1, beqs_eq xs ys h.2]
  | [], _ :: _, h => by simp [beqs] at h
  | _ :: _, [], h => by simp [beqs] at h
end
mutual
theorem T.beq_refl : ∀ a : T, a.beq a = true
  | .non => rfl
  | .bl a => by simp [T.beq]
  | .int a => by simp [T.beq]
  | .str a => by simp [T.beq]
  | .tup a => by simp only [T.beq]; exact beqs_refl a
  | .lst a => by simp only [T.beq]; exact beqs_refl a
  | .dct a b => by simp only [T.beq, beqs_refl a, beqs_refl b, Bool.and_self]
  | .obj a b c => by simp only [T.beq, beqs_refl c, beq_self_eq_true, Bool.and_self]
theorem beqs_refl : ∀ a : List T, beqs a a = true
  | [] => rfl
  | x :: xs => by simp only [beqs, T.beq_refl x, beqs_refl xs, Bool.and_self]
end
def MO.beq : MO → MO → Bool
  | .lst a, .lst b => beqs a b
  | .dct a b, .dct c d => beqs a c && beqs b d
  | .obj a b c, .obj d e f => a == d && b == e && beqs c f
  | _, _ => false
theorem MO.beq_eq : ∀ {a b : MO}, a.beq b = true → a = b
  | .lst a, .lst b, h => by simp only [MO.beq] at h; rw [beqs_eq a b h]
  | .dct a b, .dct c d, h => by simp only [MO.beq, Bool.and_eq_true] at h; rw [beqs_eq a c h.1, beqs_eq b d h.2]
  | .obj a b c, .obj d e f, h => by simp only [MO.beq, Bool.and_eq_true, beq_iff_eq] at h; rw [h.1.1, h.1.2, beqs_eq c f h.2]
  | .lst _, .dct _ _, h | .lst _, .obj _ _ _, h | .lst _, .dead, h | .dct _ _, .lst _, h | .dct _ _, .obj _ _ _, h | .dct _ _, .dead, h
  | .obj _ _ _, .lst _, h | .obj _ _ _, .dct _ _, h | .obj _ _ _, .dead, h | .dead, _, h => by simp [MO.beq] at h
@[simp] theorem MO.beq_lst (a : List T) : (MO.lst a).beq (.lst a) = true := by simp only [MO.beq]; exact beqs_refl a
@[simp] theorem MO.beq_dct (a b : List T) : (MO.dct a b).beq (.dct a b) = true := by simp only [MO.beq, beqs_refl, Bool.and_self]

/- as data of the library -/
mutual
def T.py : T → PyData
  | .non => .none
  | .bl b => .bool b
  | .int i => .int i
  | .str x => .str x
  | .tup xs => .tuple (pys xs)
  | .lst xs => .list (pys xs)
  | .dct ks vs => .dict (List.zip (pys ks) (pys vs))
  | .obj _ _ _ => .none
def pys : List T → List PyData
  | [] => []
  | x :: xs => x.py :: pys xs
end
/- no dict, no object within -/
mutual
def T.data : T → Bool
  | .non | .bl _ | .int _ | .str _ => true
  | .tup xs | .lst xs => datas xs
  | .dct _ _ | .obj _ _ _ => false
def datas : List T → Bool
  | [] => true
  | x :: xs => x.data && datas xs
end
mutual
def T.nolst : T → Bool
  | .non | .bl _ | .int _ | .str _ => true
  | .tup xs => nolsts xs
  | .lst _ | .dct _ _ | .obj _ _ _ => false
def nolsts : List T → Bool
  | [] => true
  | x :: xs => x.nolst && nolsts xs
end
def T.shp (t : T) : Bool := t.data && PySem.SeqAt.shaped t.py
def eqT (a b : T) : Bool := PyData.eqv a.py b.py

/-! ### operators -/
inductive Ty where
  | tint | tbool | tstr | tlist | ttuple | tdict | cls (c : Nat)
  deriving DecidableEq
inductive U where
  | neg | len | list | tuple | sorted | sum | int | abs | repr | str | all | any | rev | isi (tys : List Ty) | items | dict
inductive Bo where
  | add | sub | mul | fdiv | mod | pow | eq | ne | lt | le | gt | ge | inn | notin | is | isnot | idx | max | min | index | rep
  deriving DecidableEq

def keyOf : T → Option L2.Key
  | .str x => some (.inr x)
  | .int i => some (.inl i)
  | _ => none
def keyT : L2.Key → T
  | .inl i => .int i
  | .inr x => .str x
/-- a dict's value at a key -/
def getD (k : L2.Key) : List T → List T → Option T
  | a :: ks, v :: vs => if keyOf a = some k then some v else getD k ks vs
  | _, _ => none
/-- the values behind a store -/
def setD (k : L2.Key) (v : T) : List T → List T → List T
  | a :: ks, u :: vs => (if keyOf a = some k then v else u) :: setD k v ks vs
  | _, vs => vs
def putD (k : L2.Key) (v : T) (ks vs : List T) : List T × List T :=
  if (getD k ks vs).isSome then (ks, setD k v ks vs) else (ks ++ [keyT k], vs ++ [v])

def ltS (x y : Str) : Bool := decide (x.cps.toList < y.cps.toList)
def insS (x : Str) : List Str → List Str
  | [] => [x]
  | y :: ys => if ltS y x then y :: insS x ys else x :: y :: ys
def sortS : List Str → List Str
  | [] => []
  | x :: xs => insS x (sortS xs)
def strsOf : List T → Option (List Str)
  | [] => some []
  | .str x :: r => (strsOf r).map (x :: ·)
  | _ :: _ => none
def intsOf : List T → Option (List Int)
  | [] => some []
  | .int x :: r => (intsOf r).map (x :: ·)
  | _ :: _ => none
def blsOf : List T → Option (List Bool)
  | [] => some []
  | .bl x :: r => (blsOf r).map (x :: ·)
  | _ :: _ => none
def isTy (sub : Nat → Nat → Bool) : T → Ty → Bool
  | .int _, .tint => true
  | .bl _, .tint => true
  | .bl _, .tbool => true
  | .str _, .tstr => true
  | .lst _, .tlist => true
  | .tup _, .ttuple => true
  | .dct _ _, .tdict => true
  | .obj c _ _, .cls d => sub c d
  | _, _ => false
def chrs (x : Str) : List T := x.cps.toList.map fun c => .str ⟨#[c]⟩

def lim (n : Nat) : Bool := decide (n ≤ PySem.sizeLine)

def sem1 (sub : Nat → Nat → Bool) : U → T → Option T
  | .neg, .int i => some (.int (-i))
  | .len, .str x => if lim x.length then some (.int x.length) else none
  | .len, .tup xs => some (.int xs.length)
  | .len, .lst xs => some (.int xs.length)
  | .len, .dct ks _ => some (.int ks.length)
  | .list, .lst xs => some (.lst xs)
  | .list, .tup xs => some (.lst xs)
  | .list, .dct ks _ => some (.lst ks)
  | .list, .str x => if lim x.length then some (.lst (chrs x)) else none
  | .tuple, .lst xs => some (.tup xs)
  | .tuple, .tup xs => some (.tup xs)
  | .sorted, .lst xs => match strsOf xs with
    | some ss => if ss.length < 64 then some (.lst ((sortS ss).map .str)) else none
    | none => none
  | .sum, .lst xs => (intsOf xs).map fun ns => .int ns.sum
  | .int, .int i => some (.int i)
  | .int, .bl b => some (.int (if b then 1 else 0))
  | .abs, .int i => some (.int (if i < 0 then -i else i))
  | .repr, .dct ks vs => if nolsts ks && nolsts vs && (T.dct ks vs).py.showable && lim (T.dct ks vs).py.shown.length && decide ((T.dct ks vs).py.depth ≤ 64) then some (.str (T.dct ks vs).py.shown) else none
  | .repr, t => if t.data && t.py.showable && lim t.py.shown.length && decide (t.py.depth ≤ 64) then some (.str t.py.shown) else none
  | .str, .int i => if i.natAbs.log2 < 1920 then some (.str (toString i)) else none
  | .str, .str x => some (.str x)
  | .all, .lst xs => (blsOf xs).map fun bs => .bl (bs.all id)
  | .any, .lst xs => (blsOf xs).map fun bs => .bl (bs.any id)
  | .rev, .lst xs => some (.lst xs.reverse)
  | .rev, .tup xs => some (.tup xs.reverse)
  | .items, .dct ks vs => some (.lst (List.zipWith (fun k v => .tup [k, v]) ks vs))
  | .dict, .dct ks vs => some (.dct ks vs)
  | .isi tys, t => some (.bl (tys.any (isTy sub t)))
  | _, _ => none

def cutL {α : Type} (xs : List α) (lo hi : Option Int) : List α :=
  (xs.drop (HT.sIx xs.length 0 lo)).take (HT.sIx xs.length xs.length hi - HT.sIx xs.length 0 lo)
def inT (x : T) : List T → Bool := fun ys => ys.any fun y => eqT y x

def cmpI : Bo → Int → Int → Option Bool
  | .lt, i, j => some (decide (i < j))
  | .le, i, j => some (decide (i ≤ j))
  | .gt, i, j => some (decide (j < i))
  | .ge, i, j => some (decide (j ≤ i))
  | _, _, _ => none
def cmpS : Bo → Str → Str → Option Bool
  | .lt, i, j => some (ltS i j)
  | .le, i, j => some (!ltS j i)
  | .gt, i, j => some (ltS j i)
  | .ge, i, j => some (!ltS i j)
  | _, _, _ => none
def small64 (i : Int) : Bool := decide (-(2 ^ 64) < i) && decide (i < 2 ^ 64)

def arith : Bo → Int → Int → Option T
  | .add, i, j => some (.int (i + j))
  | .sub, i, j => some (.int (i - j))
  | .mul, i, j => if small64 i || small64 j then some (.int (i * j)) else none
  | .fdiv, i, j => if decide (0 < j) && decide (j < 1073741824) then some (.int (i / j)) else none
  | .mod, i, j => if decide (0 < j) then some (.int (i % j)) else none
  | .pow, i, j => if decide (0 ≤ j) && decide (j ≤ 1000000) && decide (i.natAbs < 2 ^ 64) then some (.int (i ^ j.toNat)) else none
  | .max, i, j => some (.int (if j > i then j else i))
  | .min, i, j => some (.int (if j < i then j else i))
  | o, i, j => (cmpI o i j).map .bl
def membT (x : T) : T → Option Bool
  | .lst ys => if x.shp && (T.lst ys).shp then some (inT x ys) else none
  | .tup ys => if x.shp && (T.tup ys).shp then some (inT x ys) else none
  | .dct ks vs => (keyOf x).map fun k => (getD k ks vs).isSome
  | .str z => match x with
    | .str y => some (!(PySem.Builtin.Str.occurrences z y 0 z.length 1).isEmpty)
    | _ => none
  | _ => none
/-- is it equal -/
def eq2 : T → T → Option Bool
  | .str x, .str y => some (decide (x = y))
  | a, b => if a.shp && b.shp then some (eqT a b) else none
/-- the place of the first equal one -/
def idxT (x : T) : List T → Nat → Option Nat
  | [], _ => none
  | y :: ys, n => if eqT y x then some n else idxT x ys (n + 1)
def sem2 : Bo → T → T → Option T
  | .eq, a, b => (eq2 a b).map .bl
  | .ne, a, b => (eq2 a b).map fun k => .bl (!k)
  | .is, .bl a, .bl b => some (.bl (decide (a = b)))
  | .isnot, .bl a, .bl b => some (.bl (!decide (a = b)))
  | .is, a, .non => some (.bl (match a with | .non => true | _ => false))
  | .isnot, a, .non => some (.bl (match a with | .non => false | _ => true))
  | .inn, x, y => (membT x y).map .bl
  | .notin, x, y => (membT x y).map fun b => .bl (!b)
  | .idx, .lst xs, .int i => L2.atI xs i
  | .idx, .tup xs, .int i => L2.atI xs i
  | .idx, .str z, .int i => if lim z.length then (L2.atI z.cps.toList i).map fun c => .str ⟨#[c]⟩ else none
  | .idx, .dct ks vs, k => (keyOf k).bind fun k => getD k ks vs
  | .add, .str x, .str y => if lim (x.length + y.length) then some (.str (x ++ y)) else none
  | .add, .lst xs, .lst ys => if lim (xs.length + ys.length) then some (.lst (xs ++ ys)) else none
  | .add, .tup xs, .tup ys => if lim (xs.length + ys.length) then some (.tup (xs ++ ys)) else none
  | .mul, .str x, .int k => if decide (2 ≤ k) && decide (k ≤ 1000) && decide (1 ≤ x.length) && decide (x.length ≤ 1000) then some (.str ⟨(List.replicate k.toNat x.cps).foldl (· ++ ·) #[]⟩) else none
  | .mul, .tup xs, .int k => if decide (0 ≤ k) && decide (k ≤ 1000) && decide (xs.length ≤ 1000) then some (.tup (List.replicate k.toNat xs).flatten) else none
  | .mul, .lst xs, .int k => if decide (0 ≤ k) && decide (k ≤ 1000) && decide (xs.length ≤ 1000) then some (.lst (List.replicate k.toNat xs).flatten) else none
  | .lt, .str x, .str y => (cmpS .lt x y).map .bl
  | .le, .str x, .str y => (cmpS .le x y).map .bl
  | .gt, .str x, .str y => (cmpS .gt x y).map .bl
  | .ge, .str x, .str y => (cmpS .ge x y).map .bl
  | .index, .lst xs, x => if x.shp && (T.lst xs).shp then (idxT x xs 0).map fun n => .int (n : Nat) else none
  | o, .int i, .int j => arith o i j
  | _, _, _ => none

/-! ### the language -/
inductive Tg where
  | name (i : Nat) | tup (is : List Nat)
mutual
inductive E where
  | var (i : Nat) | non | bl (b : Bool) | int (i : Int) | str (x : Str) | con (g : Nat)
  | tup (es : List E) | lst (es : List E) | newl (es : List E) | newd | dct0
  | un (o : U) (e : E) | bin (o : Bo) (a b : E)
  | not (e : E) | and (a b : E) | or (a b : E) | ch (o p : Bo) (a b c : E) | ite (c a b : E)
  | slf (e lo : E) | slt (e hi : E) | slb (e lo hi : E)
  | get (d k x : E)
  | call (f : Nat) (es : List E)
  | app (o e : E) | popat (o e : E)
  | comp (own : List Nat) (tg : Tg) (it : It) (cs : List E) (e : E)
  | fz (e : E) | catn (a b : E)
  | fld (c : Nat) (o : E) (f : Str) | make (c f : Nat) (es : List E) | meth (c f : Nat) (m : Str) (o : E) (es : List E) | prop (c f : Nat) (o : E)
  | clr (o : E) | join (a b : E) | own2 (neg : Bool) (c f : Nat) (a b : E) | ownl (c f : Nat) (o : E) | owne (c f : Nat) (a b : E) | ownq (neg : Bool) (c f : Nat) (a b : E) | nw (o : U) (e : E)
  | compF (own : List Nat) (tg : Tg) (i c : Nat) (f : Str) (cs : List E) (e : E) | dcomp (own : List Nat) (tg : Tg) (it : It) (k e : E) | rem (o e : E) | callo (c f : Nat) (o : E) (es : List E) | idxof (o e : E)
inductive It where
  | of (e : E) | rng1 (e : E) | rng2 (a b : E) | enum (e : E) | zip (a b : E) | enumzip (a b : E)
end
inductive St where
  | asg (tg : Tg) (e : E) | par (is : List Nat) (es : List E) | aug (i : Nat) (o : Bo) (e : E) | seti (o i v : E) | setf (c : Nat) (o : E) (f : Str) (v : E) | rais (c : Nat) (es : List E)
  | tryx (body : List St) (cs : List (Nat × Option Nat)) (suites : List (List St)) | retx (w : Option Str) (rp : Bool)
  | ex (e : E) | ret (e : E) | retN | ife (c : E) (a b : List St) | for (tg : Tg) (it : It) (body : List St) | whl (fuel : Nat) (c : E) (body : List St)
  | brk | cont | pass

structure Fd where
  np : Nat
  ns : Nat
  body : List St
structure Ctx where
  fs : Nat → Option Fd
  con : Nat → T
  sub : Nat → Nat → Bool

/-! ### the evaluator -/
def dref (h : Hm) : S → Option T
  | .t v => some v
  | .r n => match h[n]? with
    | some (.lst xs) => some (.lst xs)
    | some (.dct ks vs) => some (.dct ks vs)
    | some (.obj c ns vs) => some (.obj c ns vs)
    | _ => none
def setTg (tg : Tg) (s : S) (ρ : En) : Option En := match tg with
  | .name i => some (ρ.set i (some s))
  | .tup is => match s with
    | .t (.tup xs) => if xs.length = is.length then some ((List.zip is xs).foldl (fun ρ p => ρ.set p.1 (some (.t p.2))) ρ) else none
    | _ => none
def wipeE (ρ : En) : List Nat → En
  | [] => ρ
  | v :: vs => (wipeE ρ vs).set v none
/-- what a walk asks at each turn -/
def gOk (g : Option (Nat × MO)) (h : Hm) : Bool := match g with
  | none => true
  | some (n, o) => match h[n]? with | some o' => o.beq o' | none => false
def compL (g : Option (Nat × MO)) (f : T → Hm → R (Option T)) : List T → Hm → R (List T)
  | [], h => if gOk g h then .ok [] h else .bad
  | x :: xs, h => if gOk g h then (f x h).bind fun o h1 => (compL g f xs h1).bind fun ys h2 => .ok (match o with | some y => y :: ys | none => ys) h2 else .bad
def asT (s : S) (h : Hm) : R T := match s with | .t v => .ok v h | .r _ => .bad
def asB (s : S) (h : Hm) : R Bool := match s with | .t (.bl b) => .ok b h | _ => .bad
def asI (s : S) (h : Hm) : R Int := match s with | .t (.int i) => .ok i h | _ => .bad
def cutE (s : S) (l u : Option Int) (h : Hm) : R S := (liftO (dref h s) h).bind fun v h => match v with
  | .lst xs => .ok (.t (.lst (cutL xs l u))) h
  | .tup xs => .ok (.t (.tup (cutL xs l u))) h
  | .str z => if lim z.length then .ok (.t (.str (L2.cutS z l u))) h else .bad
  | _ => .bad
/-- what a method is looked up on -/
def isD (s : S) (h : Hm) : R Unit := match dref h s with | some (.dct _ _) => .ok () h | _ => .bad
def isL (s : S) (h : Hm) : R Unit := match dref h s with | some (.lst _) => .ok () h | _ => .bad
def getF (dv kv xv : T) (h : Hm) : R S := match dv with
  | .dct ks vs => match keyOf kv with
    | some k => .ok (.t ((getD k ks vs).getD xv)) h
    | none => .bad
  | _ => .bad
def appF (s : S) (v : T) (h : Hm) : R S := match s with
  | .r n => match h[n]? with
    | some (.lst xs) => if lim (xs.length + 1) then .ok (.t .non) (h.set n (.lst (xs ++ [v]))) else .bad
    | _ => .bad
  | _ => .bad
def popF (s : S) (i : Int) (h : Hm) : R S := match s with
  | .r n => match h[n]? with
    | some (.lst xs) => match PySem.seqIndex? i xs.length with
      | some k => match xs[k]? with
        | some y => if decide (-(2 ^ 63) ≤ i) && decide (i < 2 ^ 63) then .ok (.t y) (h.set n (.lst (xs.eraseIdx k))) else .bad
        | none => .bad
      | none => .bad
    | _ => .bad
  | _ => .bad
/-- a thing that may change is no longer changed; the newest one is taken off -/
def fzF (e : Nat) (s : S) (h : Hm) : R S := match s with
  | .t v => .ok (.t v) h
  | .r n => (liftO (dref h (.r n)) h).bind fun v h => if n = e ∧ h.length = n + 1 then .ok (.t v) (h.take n) else .ok (.t v) (h.set n .dead)
/-- two lists' items -/
def catL : T → T → Option (List T)
  | .lst xs, .lst ys => if lim (xs.length + ys.length) then some (xs ++ ys) else none
  | _, _ => none
/-- texts joined -/
def joinT (y : Str) : T → Option Str
  | .lst xs => (strsOf xs).bind fun ys => if (ys.map (·.length)).sum + ys.length * y.length ≤ 16777216 then some (PySem.Str.join y ys) else none
  | _ => none
/-- an attribute -/
def lookN (f : Str) : List Str → List T → Option T
  | n :: ns, v :: vs => if n = f then some v else lookN f ns vs
  | _, _ => none
def putN (f : Str) (v : T) : List Str → List T → List Str × List T
  | n :: ns, u :: us => if n = f then (n :: ns, v :: us) else (n :: (putN f v ns us).1, u :: (putN f v ns us).2)
  | _, _ => ([f], [v])
def isO (c : Nat) (s : S) (h : Hm) : Option (List Str × List T) := match dref h s with
  | some (.obj d ns vs) => if c = d then some (ns, vs) else none
  | _ => none
/-- what an own == is asked about: one of its class, a list, a tuple -/
def othQ (c : Nat) (u : S) (h : Hm) : Option Unit := match dref h u with
  | some (.obj d _ _) => if c = d then some () else none
  | some (.lst _) => some ()
  | some (.tup _) => some ()
  | _ => none
/-- a list made anew -/
def newQ (sub : Nat → Nat → Bool) (o : U) (v : T) : Option (List T) := match o, sem1 sub o v with
  | .list, some (.lst xs) => some xs
  | .sorted, some (.lst xs) => some xs
  | _, _ => none
def noEx {α : Type} (x : R α) : R α := match x with | .ex .. => .bad | y => y
abbrev Orc := Nat → List S → Hm → R S
/-- what a walked value gives -/
def itemsOf (s : S) (h : Hm) : Option (List T × Option (Nat × MO)) := match s with
  | .t (.lst xs) => some (xs, none)
  | .t (.tup xs) => some (xs, none)
  | .t (.str x) => if lim x.length then some (chrs x, none) else none
  | .r n => match h[n]? with
    | some (.lst xs) => some (xs, some (n, .lst xs))
    | _ => none
  | _ => none
def rngT (lo : Int) (n : Nat) : List T := (List.range n).map fun i => .int (lo + (i : Nat))
def rngO (lo hi : Int) : Option (List T × Option (Nat × MO)) :=
  if decide (-(2 ^ 62) ≤ lo) && decide (lo < 2 ^ 62) && decide (-(2 ^ 62) ≤ hi) && decide (hi < 2 ^ 62) && lim (hi - lo).toNat then some (rngT lo (hi - lo).toNat, none) else none
def enumT (xs : List T) : List T := xs.zipIdx.map fun p => .tup [.int (p.2 : Nat), p.1]
/-- a list's items with their numbers -/
def enumOf (s : S) (h : Hm) : Option (List T × Option (Nat × MO)) := match s with
  | .t (.lst xs) => if lim xs.length then some (enumT xs, none) else none
  | .t (.tup xs) => if lim xs.length then some (enumT xs, none) else none
  | .r n => match h[n]? with
    | some (.lst xs) => if lim xs.length then some (enumT xs, some (n, .lst xs)) else none
    | _ => none
  | _ => none
/-- what stands in an attribute: a dict's keys -/
def fldKeys (c : Nat) (f : Str) (s : S) (h : Hm) : Option (List T) := (isO c s h).bind fun p => match lookN f p.1 p.2 with
  | some (.dct ks _) => if lim ks.length then some ks else none
  | _ => none
/-- a list or tuple that stands still -/
def stillOf : S → Option (List T)
  | .t (.lst xs) => if lim xs.length then some xs else none
  | .t (.tup xs) => if lim xs.length then some xs else none
  | _ => none
/-- an item taken out of a list of ints -/
def remF (s : S) (v : T) (h : Hm) : R S := match s, v with
  | .r n, .int k => match h[n]? with
    | some (.lst xs) => match intsOf xs with
      | some ns => (match ns.findIdx? (fun j => j == k) with
        | some j => .ok (.t .non) (h.set n (.lst (xs.eraseIdx j)))
        | none => .bad)
      | none => .bad
    | _ => .bad
  | _, _ => .bad
/-- a dict filled by a comprehension -/
def fillD : List (Str × T) → List T → List T → List T × List T
  | [], ks, vs => (ks, vs)
  | (k, v) :: r, ks, vs => fillD r (putD (.inr k) v ks vs).1 (putD (.inr k) v ks vs).2
def pairsOf : List T → List (Str × T)
  | .tup [.str x, v] :: r => (x, v) :: pairsOf r
  | _ :: r => pairsOf r
  | [] => []
def zipT (xs ys : List T) : List T := List.zipWith (fun x y => .tup [x, y]) xs ys

mutual
def evE (G : Ctx) (C : Orc) (ρ : En) (h : Hm) : E → R S
  | .var i => liftO (ρ[i]?.join) h
  | .non => .ok (.t .non) h
  | .bl b => .ok (.t (.bl b)) h
  | .int i => .ok (.t (.int i)) h
  | .str x => .ok (.t (.str x)) h
  | .con g => .ok (.t (G.con g)) h
  | .tup es => (evTs G C ρ h es).bind fun vs h1 => .ok (.t (.tup vs)) h1
  | .lst es => (evTs G C ρ h es).bind fun vs h1 => .ok (.t (.lst vs)) h1
  | .newl es => (evTs G C ρ h es).bind fun vs h1 => .ok (.r h1.length) (h1 ++ [.lst vs])
  | .newd => .ok (.r h.length) (h ++ [.dct [] []])
  | .dct0 => .ok (.t (.dct [] [])) h
  | .un o e => (evE G C ρ h e).bind fun s h1 => (liftO (dref h1 s) h1).bind fun v h1 => (liftO (sem1 G.sub o v) h1).bind fun w h1 => .ok (.t w) h1
  | .bin o a b => (evE G C ρ h a).bind fun s h1 => (evE G C ρ h1 b).bind fun u h2 => (liftO (dref h2 s) h2).bind fun v h2 => (liftO (dref h2 u) h2).bind fun w h2 => (liftO (sem2 o v w) h2).bind fun z h2 => .ok (.t z) h2
  | .not e => (evE G C ρ h e).bind fun s h1 => (asB s h1).bind fun b h1 => .ok (.t (.bl (!b))) h1
  | .and a b => (evE G C ρ h a).bind fun s h1 => (asB s h1).bind fun c h1 => if c then evE G C ρ h1 b else .ok (.t (.bl false)) h1
  | .or a b => (evE G C ρ h a).bind fun s h1 => (asB s h1).bind fun c h1 => if c then .ok (.t (.bl true)) h1 else evE G C ρ h1 b
  | .ch o p a b c => (evE G C ρ h a).bind fun s h1 => (evE G C ρ h1 b).bind fun u h2 => (liftO (dref h2 s) h2).bind fun v h2 => (liftO (dref h2 u) h2).bind fun w h2 => (liftO (sem2 o v w) h2).bind fun z h2 =>
      (asB (.t z) h2).bind fun k h2 => if k then (evE G C ρ h2 c).bind fun x h3 => (liftO (dref h3 u) h3).bind fun w h3 => (liftO (dref h3 x) h3).bind fun y h3 => (liftO (sem2 p w y) h3).bind fun z h3 => .ok (.t z) h3 else .ok (.t (.bl false)) h2
  | .ite c a b => (evE G C ρ h c).bind fun s h1 => (asB s h1).bind fun k h1 => if k then evE G C ρ h1 a else evE G C ρ h1 b
  | .slf e lo => (evE G C ρ h e).bind fun s h1 => (evE G C ρ h1 lo).bind fun l h2 => (asI l h2).bind fun i h2 => cutE s (some i) none h2
  | .slt e hi => (evE G C ρ h e).bind fun s h1 => (evE G C ρ h1 hi).bind fun u h2 => (asI u h2).bind fun i h2 => cutE s none (some i) h2
  | .slb e lo hi => (evE G C ρ h e).bind fun s h1 => (evE G C ρ h1 lo).bind fun l h2 => (asI l h2).bind fun i h2 => (evE G C ρ h2 hi).bind fun u h3 => (asI u h3).bind fun j h3 => cutE s (some i) (some j) h3
  | .get d k x => (evE G C ρ h d).bind fun s h1 => (isD s h1).bind fun _ h1 => (evE G C ρ h1 k).bind fun u h2 => (evE G C ρ h2 x).bind fun w h3 => (liftO (dref h3 s) h3).bind fun dv h3 => (asT u h3).bind fun kv h3 => (asT w h3).bind fun xv h3 => getF dv kv xv h3
  | .call f es => (evS G C ρ h es).bind fun ss h1 => C f ss h1
  | .app o e => (evE G C ρ h o).bind fun s h1 => (isL s h1).bind fun _ h1 => (evE G C ρ h1 e).bind fun u h2 => (asT u h2).bind fun v h2 => appF s v h2
  | .popat o e => (evE G C ρ h o).bind fun s h1 => (isL s h1).bind fun _ h1 => (evE G C ρ h1 e).bind fun u h2 => (asI u h2).bind fun i h2 => popF s i h2
  | .comp own tg it cs e => (evIt G C ρ h it).bind fun p h1 =>
      (noEx (compL p.2 (fun x h => (liftO (setTg tg (.t x) (wipeE ρ own)) h).bind fun ρ1 h =>
        (evCs G C ρ1 h cs).bind fun k h1 => if k then (evE G C ρ1 h1 e).bind fun s h2 => (asT s h2).bind fun v h2 => .ok (some v) h2 else .ok none h1) p.1 h1)).bind fun ys h2 => .ok (.t (.lst ys)) h2
  | .fz e => (evE G C ρ h e).bind fun s h1 => fzF h.length s h1
  | .catn a b => (evE G C ρ h a).bind fun s h1 => (evE G C ρ h1 b).bind fun u h2 => (liftO (dref h2 s) h2).bind fun v h2 => (liftO (dref h2 u) h2).bind fun w h2 => (liftO (catL v w) h2).bind fun xs h2 => .ok (.r h2.length) (h2 ++ [.lst xs])
  | .fld c o f => (evE G C ρ h o).bind fun s h1 => (liftO (isO c s h1) h1).bind fun p h1 => (liftO (lookN f p.1 p.2) h1).bind fun v h1 => .ok (.t v) h1
  | .make c f es => (evS G C ρ h es).bind fun ss h1 => (C f (.r h1.length :: ss) (h1 ++ [.obj c [] []])).bind fun u h2 => match u with
      | .t .non => if h1.length < h2.length then .ok (.r h1.length) h2 else .bad
      | _ => .bad
  | .meth c f m o es => (evE G C ρ h o).bind fun s h1 => (liftO (isO c s h1) h1).bind fun p h1 => if p.1.contains m then .bad else (evS G C ρ h1 es).bind fun ss h2 => C f (s :: ss) h2
  | .prop c f o => (evE G C ρ h o).bind fun s h1 => (liftO (isO c s h1) h1).bind fun _ h1 => noEx (C f [s] h1)
  | .clr o => (evE G C ρ h o).bind fun s h1 => match s with
      | .r n => (match h1[n]? with | some (.lst _) => .ok (.t .non) (h1.set n (.lst [])) | _ => .bad)
      | _ => .bad
  | .join a b => (evE G C ρ h a).bind fun s h1 => match s with
      | .t (.str y) => (evE G C ρ h1 b).bind fun u h2 => (liftO (dref h2 u) h2).bind fun v h2 => (liftO (joinT y v) h2).bind fun z h2 => .ok (.t (.str z)) h2
      | _ => .bad
  | .own2 neg c f a b => (evE G C ρ h a).bind fun s h1 => (evE G C ρ h1 b).bind fun u h2 => (liftO (isO c u h2) h2).bind fun _ h2 => (noEx (C f [u, s] h2)).bind fun r h3 => (asB r h3).bind fun k h3 => .ok (.t (.bl (k != neg))) h3
  | .ownl c f o => (evE G C ρ h o).bind fun s h1 => (liftO (isO c s h1) h1).bind fun _ h1 => (noEx (C f [s] h1)).bind fun r h2 => (asI r h2).bind fun i h2 => if 0 ≤ i ∧ i < 2 ^ 63 then .ok (.t (.int i)) h2 else .bad
  | .owne c f a b => (evE G C ρ h a).bind fun s h1 => (evE G C ρ h1 b).bind fun u h2 => (liftO (isO c s h2) h2).bind fun _ h2 => (liftO (isO c u h2) h2).bind fun _ h2 => (noEx (C f [s, u] h2)).bind fun r h3 => (asB r h3).bind fun k h3 => .ok (.t (.bl k)) h3
  | .ownq neg c f a b => (evE G C ρ h a).bind fun s h1 => (evE G C ρ h1 b).bind fun u h2 => (liftO (isO c s h2) h2).bind fun _ h2 => (liftO (othQ c u h2) h2).bind fun _ h2 => (noEx (C f [s, u] h2)).bind fun r h3 => (asB r h3).bind fun k h3 => .ok (.t (.bl (k != neg))) h3
  | .nw o e => (evE G C ρ h e).bind fun s h1 => (liftO (dref h1 s) h1).bind fun v h1 => (liftO (newQ G.sub o v) h1).bind fun xs h1 => .ok (.r h1.length) (h1 ++ [.lst xs])
  | .compF own tg i c f cs e => (liftO (ρ[i]?.join) h).bind fun s h => (liftO (fldKeys c f s h) h).bind fun ks h1 =>
      (noEx (compL none (fun x h => (liftO (setTg tg (.t x) (wipeE ρ own)) h).bind fun ρ1 h =>
        (evCs G C ρ1 h cs).bind fun k h1 => if k then (evE G C ρ1 h1 e).bind fun s h2 => (asT s h2).bind fun v h2 => .ok (some v) h2 else .ok none h1) ks h1)).bind fun ys h2 => .ok (.t (.lst ys)) h2
  | .dcomp own tg it k e => (evIt G C ρ h it).bind fun p h1 =>
      (noEx (compL p.2 (fun x h => (liftO (setTg tg (.t x) (wipeE ρ own)) h).bind fun ρ1 h =>
        (evE G C ρ1 h k).bind fun u h1 => (evE G C ρ1 h1 e).bind fun s h2 => match u, s with
          | .t (.str x), .t v => .ok (some (.tup [.str x, v])) h2
          | _, _ => .bad) p.1 h1)).bind fun ys h2 => .ok (.t (.dct (fillD (pairsOf ys) [] []).1 (fillD (pairsOf ys) [] []).2)) h2
  | .callo c f o es => (evE G C ρ h o).bind fun s h1 => match s with
      | .t (.obj d ns us) => if c = d then (evS G C ρ h1 es).bind fun ss h2 => C f (.t (.obj d ns us) :: ss) h2 else .bad
      | _ => .bad
  | .idxof o e => (evE G C ρ h o).bind fun s h1 => (isL s h1).bind fun _ h1 => (evE G C ρ h1 e).bind fun u h2 => (liftO (dref h2 s) h2).bind fun v h2 => (liftO (dref h2 u) h2).bind fun w h2 => (liftO (sem2 .index v w) h2).bind fun z h2 => .ok (.t z) h2
  | .rem o e => (evE G C ρ h o).bind fun s h1 => (isL s h1).bind fun _ h1 => (evE G C ρ h1 e).bind fun u h2 => (asT u h2).bind fun v h2 => remF s v h2
def evS (G : Ctx) (C : Orc) (ρ : En) (h : Hm) : List E → R (List S)
  | [] => .ok [] h
  | e :: es => (evE G C ρ h e).bind fun s h1 => (evS G C ρ h1 es).bind fun ss h2 => .ok (s :: ss) h2
def evTs (G : Ctx) (C : Orc) (ρ : En) (h : Hm) : List E → R (List T)
  | [] => .ok [] h
  | e :: es => (evE G C ρ h e).bind fun s h1 => (asT s h1).bind fun v h1 => (evTs G C ρ h1 es).bind fun ss h2 => .ok (v :: ss) h2
def evCs (G : Ctx) (C : Orc) (ρ : En) (h : Hm) : List E → R Bool
  | [] => .ok true h
  | e :: es => (evE G C ρ h e).bind fun s h1 => (asB s h1).bind fun b h1 => if b then evCs G C ρ h1 es else .ok false h1
def evIt (G : Ctx) (C : Orc) (ρ : En) (h : Hm) : It → R (List T × Option (Nat × MO))
  | .of e => (evE G C ρ h e).bind fun s h1 => liftO (itemsOf s h1) h1
  | .rng1 e => (evE G C ρ h e).bind fun s h1 => match s with | .t (.int i) => liftO (rngO 0 i) h1 | _ => .bad
  | .rng2 a b => (evE G C ρ h a).bind fun s h1 => (evE G C ρ h1 b).bind fun u h2 => match s, u with | .t (.int i), .t (.int j) => liftO (rngO i j) h2 | _, _ => .bad
  | .enum e => (evE G C ρ h e).bind fun s h1 => liftO (enumOf s h1) h1
  | .zip a b => (evE G C ρ h a).bind fun s h1 => (evE G C ρ h1 b).bind fun u h2 => (liftO (stillOf s) h2).bind fun xs h2 => (liftO (stillOf u) h2).bind fun ys h2 => .ok (zipT xs ys, none) h2
  | .enumzip a b => (evE G C ρ h a).bind fun s h1 => (evE G C ρ h1 b).bind fun u h2 => (liftO (stillOf s) h2).bind fun xs h2 => (liftO (stillOf u) h2).bind fun ys h2 => .ok (enumT (zipT xs ys), none) h2
end

inductive Out where
  | nx (ρ : En) (h : Hm) | rt (s : S) (h : Hm) | bk (ρ : En) (h : Hm) | ct (ρ : En) (h : Hm) | ex (c : Nat) (fs : List T) (ρ : En) (h : Hm) | bad
def R.out {α : Type} (x : R α) (ρ : En) (f : α → Hm → Out) : Out := match x with
  | .ok a h => f a h
  | .ex c fs h => .ex c fs ρ h
  | .bad => .bad
@[simp] theorem R.out_ok {α : Type} (a : α) (h : Hm) (ρ : En) (f : α → Hm → Out) : (R.ok a h).out ρ f = f a h := rfl
@[simp] theorem R.out_ex {α : Type} (c : Nat) (fs : List T) (h : Hm) (ρ : En) (f : α → Hm → Out) : (R.ex c fs h).out ρ f = .ex c fs ρ h := rfl
@[simp] theorem R.out_bad {α : Type} (ρ : En) (f : α → Hm → Out) : (R.bad : R α).out ρ f = .bad := rfl
def forL (g : Option (Nat × MO)) (f : T → En → Hm → Out) : List T → En → Hm → Out
  | [], ρ, h => if gOk g h then .nx ρ h else .bad
  | x :: xs, ρ, h => if gOk g h then match f x ρ h with
      | .nx ρ1 h1 => forL g f xs ρ1 h1
      | .ct ρ1 h1 => forL g f xs ρ1 h1
      | .bk ρ1 h1 => .nx ρ1 h1
      | o => o
    else .bad
def whlL (c : En → Hm → R Bool) (f : En → Hm → Out) : Nat → En → Hm → Out
  | 0, _, _ => .bad
  | n + 1, ρ, h => (c ρ h).out ρ fun b h1 => if b then match f ρ h1 with
      | .nx ρ1 h2 => whlL c f n ρ1 h2
      | .ct ρ1 h2 => whlL c f n ρ1 h2
      | .bk ρ1 h2 => .nx ρ1 h2
      | o => o
    else .nx ρ h1
def setAll (ρ : En) : List Nat → List S → Option En
  | [], [] => some ρ
  | i :: is, s :: ss => setAll (ρ.set i (some s)) is ss
  | _, _ => none
/-- what a clause hands back of the exception's one attribute -/
def retX (sub : Nat → Nat → Bool) (w : Option Str) (rp : Bool) (t : T) (h : Hm) : Out := match (if rp then sem1 sub .repr t else some t) with
  | some u => (match w with
    | some x => .rt (.t (.tup [.str x, u])) h
    | none => .rt (.t u) h)
  | none => .bad
def offE (i : Option Nat) (ρ : En) : En := match i with | some i => ρ.set i none | none => ρ
def offO (i : Option Nat) : Out → Out
  | .nx ρ h => .nx (offE i ρ) h
  | .bk ρ h => .bk (offE i ρ) h
  | .ct ρ h => .ct (offE i ρ) h
  | .ex _ _ _ _ => .bad
  | o => o
mutual
def exS (G : Ctx) (C : Orc) (ρ : En) (h : Hm) : St → Out
  | .asg tg e => (evE G C ρ h e).out ρ fun s h1 => match setTg tg s ρ with | some ρ1 => .nx ρ1 h1 | none => .bad
  | .par is es => (evS G C ρ h es).out ρ fun ss h1 => match setAll ρ is ss with | some ρ1 => .nx ρ1 h1 | none => .bad
  | .aug i o e => match ρ[i]?.join with
      | some (.t (.int x)) => (evE G C ρ h e).out ρ fun s h1 => match s with
        | .t (.int y) => (match o with
          | .add => .nx (ρ.set i (some (.t (.int (x + y))))) h1
          | .sub => .nx (ρ.set i (some (.t (.int (x - y))))) h1
          | _ => .bad)
        | _ => .bad
      | _ => .bad
  | .seti o i v => (evE G C ρ h v).out ρ fun s h1 => (evE G C ρ h1 o).out ρ fun so h2 => (evE G C ρ h2 i).out ρ fun si h3 =>
      match s, so, si with
      | .t v, .r n, .t k => (match h3[n]? with
        | some (.lst xs) => (match k with
          | .int j => (match L2.ixN xs.length j with | some m => .nx ρ (h3.set n (.lst (xs.set m v))) | none => .bad)
          | _ => .bad)
        | some (.dct ks vs) => (match keyOf k with
          | some k => if lim (ks.length + 1) then .nx ρ (h3.set n (.dct (putD k v ks vs).1 (putD k v ks vs).2)) else .bad
          | none => .bad)
        | _ => .bad)
      | _, _, _ => .bad
  | .setf c o f v => (evE G C ρ h v).out ρ fun s h1 => (evE G C ρ h1 o).out ρ fun so h2 => match s, so with
      | .t v, .r n => (match h2[n]? with
        | some (.obj d ns vs) => if c = d ∧ ns.length < 1000 then .nx ρ (h2.set n (.obj d (putN f v ns vs).1 (putN f v ns vs).2)) else .bad
        | _ => .bad)
      | _, _ => .bad
  | .tryx body cs suites => match exSs G C ρ h body with
      | .ex c fs ρ1 h1 => exHs G C c fs ρ1 h1 cs suites
      | o => o
  | .retx _ _ => .bad
  | .rais c es => (evTs G C ρ h es).out ρ fun vs h1 => .ex c vs ρ h1
  | .ex e => (evE G C ρ h e).out ρ fun _ h1 => .nx ρ h1
  | .ret e => (evE G C ρ h e).out ρ fun s h1 => .rt s h1
  | .retN => .rt (.t .non) h
  | .ife c a b => (evE G C ρ h c).out ρ fun s h1 => (asB s h1).out ρ fun k h1 => if k then exSs G C ρ h1 a else exSs G C ρ h1 b
  | .for tg it body => (evIt G C ρ h it).out ρ fun p h1 => forL p.2 (fun x ρ h => match setTg tg (.t x) ρ with | some ρ1 => exSs G C ρ1 h body | none => .bad) p.1 ρ h1
  | .whl n c body => whlL (fun ρ h => (evE G C ρ h c).bind asB) (fun ρ h => exSs G C ρ h body) n ρ h
  | .brk => .bk ρ h
  | .cont => .ct ρ h
  | .pass => .nx ρ h
def exSs (G : Ctx) (C : Orc) (ρ : En) (h : Hm) : List St → Out
  | [] => .nx ρ h
  | s :: ss => match exS G C ρ h s with
    | .nx ρ1 h1 => exSs G C ρ1 h1 ss
    | o => o
/-- the first clause that names the exception's class -/
def exHs (G : Ctx) (C : Orc) (c : Nat) (fs : List T) (ρ : En) (h : Hm) (cs : List (Nat × Option Nat)) : List (List St) → Out
  | [] => if cs.isEmpty then .ex c fs ρ h else .bad
  | suite :: rest => match cs with
    | [] => .bad
    | k :: cs => if G.sub c k.1 then (match suite, fs with
        | [.retx w rp], [t] => retX G.sub w rp t h
        | _, _ => offO k.2 (exSs G C (offE k.2 ρ) h suite)) else exHs G C c fs ρ h cs rest
end
/-- what a def hands back: the heap as it was (but for old things that it changed), a new thing on top if it is handed back -/
def retS (e : Nat) (s : S) (h : Hm) : R S := match s with
  | .t v => .ok (.t v) (h.take e)
  | .r n => if n < e then .ok (.r n) (h.take e) else match h[n]? with
    | some (.lst xs) => .ok (.r e) (h.take e ++ [.lst xs])
    | some (.dct ks vs) => .ok (.r e) (h.take e ++ [.dct ks vs])
    | some (.obj c ns vs) => .ok (.r e) (h.take e ++ [.obj c ns vs])
    | _ => .bad
def runF (e : Nat) : Out → R S
  | .nx _ h => .ok (.t .non) (h.take e)
  | .rt s h => retS e s h
  | .ex c fs _ h => .ex c fs (h.take e)
  | _ => .bad
def startE (n : Nat) (ss : List S) : En := ss.map some ++ List.replicate (n - ss.length) none
def callF (G : Ctx) : Nat → Orc
  | 0 => fun _ _ _ => .bad
  | d + 1 => fun f ss h => match G.fs f with
    | some fd => if ss.length = fd.np then runF h.length (exSs G (callF G d) (startE fd.ns ss) h fd.body) else .bad
    | none => .bad
end My

/-! MiniPy: how its values and its heap stand in the model's. -/
namespace My
open PySem L2

/-- where an address may lie -/
abbrev Al := Addr → Prop
/-- the classes' addresses -/
abbrev Cl := Nat → Option Addr
/-- read as u: it is u, or a list or dict that is u and is locked -/
def isLk : HO → Bool
  | .lst _ | .dK _ => true
  | _ => false
def Rx (H : Hp) (a : Addr) (u : HO) : Prop := H a = some u ∨ (isLk u = true ∧ ∃ o, H a = some (.frz o u))
theorem Rx.rd {H : Hp} {a : Addr} {u : HO} (h : Rx H a u) : Rd H a u := h.elim .inl fun q => .inr q.2
theorem Rx.tup {H : Hp} {a : Addr} {xs : List V} (h : Rx H a (.tup xs)) : H a = some (.tup xs) := h.elim id fun q => by cases q.1
theorem Rx.ins {H : Hp} {a C dx : Addr} {fs : List (Str × V)} (h : Rx H a (.ins C dx fs)) : H a = some (.ins C dx fs) := h.elim id fun q => by cases q.1
mutual
def Rp (cl : Cl) (ok : Al) (H : Hp) : T → V → Prop
  | .non, v => v = .non
  | .bl b, v => v = .bl b
  | .int i, v => v = .int i
  | .str x, v => v = .str x
  | .tup xs, v => ∃ a vs, v = .ref a ∧ ok a ∧ Rx H a (.tup vs) ∧ Rps cl ok H xs vs
  | .lst xs, v => ∃ a vs, v = .ref a ∧ ok a ∧ Rx H a (.lst vs) ∧ Rps cl ok H xs vs
  | .dct ks us, v => ∃ a kvs, v = .ref a ∧ ok a ∧ Rx H a (.dK kvs) ∧ kvs.map (fun p => keyT p.1) = ks ∧ Rps cl ok H us (kvs.map (·.2))
  | .obj c ns us, v => ∃ a C dx fs, v = .ref a ∧ ok a ∧ cl c = some C ∧ Rx H a (.ins C dx fs) ∧ fs.map (·.1) = ns ∧ Rps cl ok H us (fs.map (·.2))
def Rps (cl : Cl) (ok : Al) (H : Hp) : List T → List V → Prop
  | [], vs => vs = []
  | x :: xs, vs => ∃ v r, vs = v :: r ∧ Rp cl ok H x v ∧ Rps cl ok H xs r
end
theorem Rps.length {cl : Cl} {ok : Al} {H : Hp} : ∀ {xs : List T} {vs : List V}, Rps cl ok H xs vs → xs.length = vs.length
  | [], _, h => by rw [Rps] at h; rw [h]; rfl
  | x :: xs, _, h => by
    rw [Rps] at h
    obtain ⟨v, r, rfl, _, h⟩ := h
    rw [List.length_cons, List.length_cons, Rps.length h]
theorem Rps.nil {cl : Cl} {ok : Al} {H : Hp} : Rps cl ok H [] [] := by rw [Rps]
theorem Rps.cons {cl : Cl} {ok : Al} {H : Hp} {x : T} {v : V} {xs : List T} {vs : List V} (a : Rp cl ok H x v) (b : Rps cl ok H xs vs) : Rps cl ok H (x :: xs) (v :: vs) := by
  rw [Rps]; exact ⟨v, vs, rfl, a, b⟩
theorem Rps.inv {cl : Cl} {ok : Al} {H : Hp} {x : T} {xs : List T} {vs : List V} (h : Rps cl ok H (x :: xs) vs) : ∃ v r, vs = v :: r ∧ Rp cl ok H x v ∧ Rps cl ok H xs r := by
  rw [Rps] at h; exact h
theorem Rps.inv0 {cl : Cl} {ok : Al} {H : Hp} {vs : List V} (h : Rps cl ok H [] vs) : vs = [] := by rw [Rps] at h; exact h
/- carried to another heap -/
def plainO : HO → Bool
  | .lst _ | .tup _ | .dK _ | .ins _ _ _ => true
  | _ => false
mutual
theorem Rp.moveP {cl : Cl} {ok ok' : Al} {H H' : Hp} (k : ∀ a u, plainO u = true → ok a → Rx H a u → ok' a ∧ Rx H' a u) : ∀ {t : T} {v : V}, Rp cl ok H t v → Rp cl ok' H' t v
  | .non, _, h => by rw [Rp] at h ⊢; exact h
  | .bl _, _, h => by rw [Rp] at h ⊢; exact h
  | .int _, _, h => by rw [Rp] at h ⊢; exact h
  | .str _, _, h => by rw [Rp] at h ⊢; exact h
  | .tup xs, _, h => by
    rw [Rp] at h ⊢
    obtain ⟨a, vs, e, o, r, q⟩ := h
    exact ⟨a, vs, e, (k a _ rfl o r).1, (k a _ rfl o r).2, Rps.moveP k q⟩
  | .lst xs, _, h => by
    rw [Rp] at h ⊢
    obtain ⟨a, vs, e, o, r, q⟩ := h
    exact ⟨a, vs, e, (k a _ rfl o r).1, (k a _ rfl o r).2, Rps.moveP k q⟩
  | .dct ks us, _, h => by
    rw [Rp] at h ⊢
    obtain ⟨a, kvs, e, o, r, f, q⟩ := h
    exact ⟨a, kvs, e, (k a _ rfl o r).1, (k a _ rfl o r).2, f, Rps.moveP k q⟩
  | .obj c ns us, _, h => by
    rw [Rp] at h ⊢
    obtain ⟨a, C, dx, fs, e, o, ec, r, f, q⟩ := h
    exact ⟨a, C, dx, fs, e, (k a _ rfl o r).1, ec, (k a _ rfl o r).2, f, Rps.moveP k q⟩
theorem Rps.moveP {cl : Cl} {ok ok' : Al} {H H' : Hp} (k : ∀ a u, plainO u = true → ok a → Rx H a u → ok' a ∧ Rx H' a u) : ∀ {xs : List T} {vs : List V}, Rps cl ok H xs vs → Rps cl ok' H' xs vs
  | [], _, h => by rw [Rps] at h ⊢; exact h
  | x :: xs, _, h => by
    rw [Rps] at h ⊢
    obtain ⟨v, r, e, a, b⟩ := h
    exact ⟨v, r, e, Rp.moveP k a, Rps.moveP k b⟩
end

theorem Rp.move {cl : Cl} {ok ok' : Al} {H H' : Hp} (k : ∀ a u, ok a → Rx H a u → ok' a ∧ Rx H' a u) {t : T} {v : V} (h : Rp cl ok H t v) : Rp cl ok' H' t v := Rp.moveP (fun a u _ => k a u) h
theorem Rps.move {cl : Cl} {ok ok' : Al} {H H' : Hp} (k : ∀ a u, ok a → Rx H a u → ok' a ∧ Rx H' a u) {xs : List T} {vs : List V} (h : Rps cl ok H xs vs) : Rps cl ok' H' xs vs := Rps.moveP (fun a u _ => k a u) h

/-- where the things that may change stand; what else is kept apart -/
structure Phi where
  m : List (Option Addr)
  r : List Addr
def Off (φ : Phi) : Al := fun a => some a ∉ φ.m ∧ a ∉ φ.r
abbrev RpF (cl : Cl) (φ : Phi) (H : Hp) : T → V → Prop := Rp cl (Off φ) H
abbrev RpD (cl : Cl) (H : Hp) : T → V → Prop := Rp cl (fun _ => True) H
theorem RpF.d {cl : Cl} {φ : Phi} {H : Hp} {t : T} {v : V} (h : RpF cl φ H t v) : RpD cl H t v := Rp.move (fun _ _ _ r => ⟨trivial, r⟩) h

/-- a thing that may change -/
def RpO (cl : Cl) (φ : Phi) (H : Hp) : MO → Addr → Prop
  | .lst xs, a => ∃ vs, H a = some (.lst vs) ∧ Rps cl (Off φ) H xs vs
  | .dct ks us, a => ∃ kvs, H a = some (.dK kvs) ∧ kvs.map (fun p => keyT p.1) = ks ∧ Rps cl (Off φ) H us (kvs.map (·.2))
  | .obj c ns us, a => ∃ C dx fs, cl c = some C ∧ H a = some (.ins C dx fs) ∧ fs.map (·.1) = ns ∧ Rps cl (Off φ) H us (fs.map (·.2))
  | .dead, _ => False
structure Hs (cl : Cl) (φ : Phi) (h : Hm) (H : Hp) : Prop where
  len : φ.m.length = h.length
  get : ∀ (n : Nat) (o : MO), h[n]? = some o → (o = .dead ∧ φ.m[n]? = some none) ∨ ∃ a, φ.m[n]? = some (some a) ∧ RpO cl φ H o a
  inj : ∀ (m n : Nat) (a : Addr), φ.m[m]? = some (some a) → φ.m[n]? = some (some a) → m = n
  res : ∀ a ∈ φ.r, H a ≠ none ∧ some a ∉ φ.m
def RpS (cl : Cl) (φ : Phi) (H : Hp) : S → V → Prop
  | .t t, v => RpF cl φ H t v
  | .r n, v => n < φ.m.length ∧ ∀ a, φ.m[n]? = some (some a) → v = .ref a
def RpSs (cl : Cl) (φ : Phi) (H : Hp) : List S → List V → Prop
  | [], vs => vs = []
  | x :: xs, vs => ∃ v r, vs = v :: r ∧ RpS cl φ H x v ∧ RpSs cl φ H xs r
/-- the slots -/
structure RpE (cl : Cl) (φ : Phi) (H : Hp) (ρ : En) (σ : L2.St) : Prop where
  len : ρ.length = σ.length
  get : ∀ (i : Nat) (s : S), ρ[i]? = some (some s) → ∃ v, σ[i]? = some (some v) ∧ RpS cl φ H s v

/-- what later states keep -/
structure Grow (φ : Phi) (H : Hp) (φ' : Phi) (H' : Hp) : Prop where
  len : φ.m.length ≤ φ'.m.length
  old : ∀ (n : Nat) (a : Addr), n < φ.m.length → φ'.m[n]? = some (some a) → φ.m[n]? = some (some a)
  new : ∀ a : Addr, some a ∈ φ'.m → some a ∈ φ.m ∨ H a = none
  keep : ∀ (a : Addr) (u : HO), some a ∉ φ.m → H a = some u → H' a = some u
  res : φ'.r = φ.r
theorem rd_some {H : Hp} {a : Addr} {u : HO} (r : Rx H a u) : H a ≠ none := by
  rcases r with r | ⟨_, o, r⟩ <;> rw [r] <;> simp
theorem Grow.refl (φ : Phi) (H : Hp) : Grow φ H φ H := ⟨Nat.le_refl _, fun _ _ _ h => h, fun _ h => .inl h, fun _ _ _ h => h, rfl⟩
theorem Grow.rx {φ φ' : Phi} {H H' : Hp} (g : Grow φ H φ' H') {a : Addr} {u : HO} (h : some a ∉ φ.m) (r : Rx H a u) : Rx H' a u := by
  rcases r with r | ⟨l, o, r⟩
  · exact .inl (g.keep a u h r)
  · exact .inr ⟨l, o, g.keep a _ h r⟩
theorem Grow.out {φ φ' : Phi} {H H' : Hp} (g : Grow φ H φ' H') {a : Addr} (h : some a ∉ φ.m) (r : H a ≠ none) : some a ∉ φ'.m := fun m => (g.new a m).elim h r
theorem Grow.off {φ φ' : Phi} {H H' : Hp} (g : Grow φ H φ' H') {a : Addr} {u : HO} (h : Off φ a) (r : Rx H a u) : Off φ' a ∧ Rx H' a u :=
  ⟨⟨g.out h.1 (rd_some r), by rw [g.res]; exact h.2⟩, g.rx h.1 r⟩
theorem Grow.trans {φ φ1 φ2 : Phi} {H H1 H2 : Hp} (a : Grow φ H φ1 H1) (b : Grow φ1 H1 φ2 H2) : Grow φ H φ2 H2 where
  len := Nat.le_trans a.len b.len
  old := fun n x hn h => a.old n x hn (b.old n x (Nat.lt_of_lt_of_le hn a.len) h)
  new := fun x h => by
    rcases b.new x h with h | h
    · exact a.new x h
    · cases q : H x with
      | none => exact .inr rfl
      | some u =>
        by_cases m : some x ∈ φ.m
        · exact .inl m
        · have := a.keep x u m q
          rw [h] at this; cases this
  keep := fun x u m r => b.keep x u (a.out m (by rw [r]; simp)) (a.keep x u m r)
  res := b.res.trans a.res
theorem Grow.rp {cl : Cl} {φ φ' : Phi} {H H' : Hp} (g : Grow φ H φ' H') {t : T} {v : V} (h : RpF cl φ H t v) : RpF cl φ' H' t v := Rp.move (fun _ _ o r => g.off o r) h
theorem Grow.rps {cl : Cl} {φ φ' : Phi} {H H' : Hp} (g : Grow φ H φ' H') {t : List T} {v : List V} (h : Rps cl (Off φ) H t v) : Rps cl (Off φ') H' t v := Rps.move (fun _ _ o r => g.off o r) h
theorem Grow.s {cl : Cl} {φ φ' : Phi} {H H' : Hp} (g : Grow φ H φ' H') {s : S} {v : V} (h : RpS cl φ H s v) : RpS cl φ' H' s v := by
  cases s with
  | t t => exact g.rp h
  | r n => exact ⟨Nat.lt_of_lt_of_le h.1 g.len, fun a e => h.2 a (g.old n a h.1 e)⟩
theorem Grow.ss {cl : Cl} {φ φ' : Phi} {H H' : Hp} (g : Grow φ H φ' H') : ∀ {s : List S} {v : List V}, RpSs cl φ H s v → RpSs cl φ' H' s v
  | [], _, h => h
  | s :: ss, _, ⟨v, r, e, a, b⟩ => ⟨v, r, e, g.s a, g.ss b⟩
theorem Grow.e {cl : Cl} {φ φ' : Phi} {H H' : Hp} (g : Grow φ H φ' H') {ρ : En} {σ : L2.St} (h : RpE cl φ H ρ σ) : RpE cl φ' H' ρ σ :=
  ⟨h.len, fun i s e => let ⟨v, e', r⟩ := h.get i s e; ⟨v, e', g.s r⟩⟩

/-! ### a new thing that will not change -/
theorem rd_upd {H : Hp} {p a : Addr} {u o : HO} (n : H p = none) (r : Rx H a u) : Rx (upd H p o) a u := by
  have ne : a ≠ p := fun e => rd_some r (e ▸ n)
  unfold Rx
  rw [upd_ne ne]
  exact r
theorem keep_new {H : Hp} {p a : Addr} {u o : HO} (n : H p = none) (r : H a = some u) : upd H p o a = some u := by
  rw [upd_ne fun e => by rw [e, n] at r; cases r]; exact r
theorem Grow.lay {φ : Phi} {H : Hp} {p : Addr} {o : HO} (n : H p = none) : Grow φ H φ (upd H p o) :=
  ⟨Nat.le_refl _, fun _ _ _ h => h, fun _ h => .inl h, fun _ _ _ r => keep_new n r, rfl⟩
theorem RpO.moveP {cl : Cl} {φ φ' : Phi} {H H' : Hp} {a : Addr} (k : ∀ a u, plainO u = true → Off φ a → Rx H a u → Off φ' a ∧ Rx H' a u) (e : H' a = H a) : ∀ {o : MO}, RpO cl φ H o a → RpO cl φ' H' o a
  | .lst xs, ⟨vs, h, r⟩ => ⟨vs, e.trans h, Rps.moveP k r⟩
  | .dct ks us, ⟨kvs, h, f, r⟩ => ⟨kvs, e.trans h, f, Rps.moveP k r⟩
  | .obj c ns us, ⟨C, dx, fs, ec, h, f, r⟩ => ⟨C, dx, fs, ec, e.trans h, f, Rps.moveP k r⟩
theorem RpO.move {cl : Cl} {φ φ' : Phi} {H H' : Hp} {a : Addr} (k : ∀ a u, Off φ a → Rx H a u → Off φ' a ∧ Rx H' a u) (e : H' a = H a) {o : MO} (h : RpO cl φ H o a) : RpO cl φ' H' o a := RpO.moveP (fun a u _ => k a u) e h
theorem RpO.some {cl : Cl} {φ : Phi} {H : Hp} {a : Addr} : ∀ {o : MO}, RpO cl φ H o a → H a ≠ none
  | .lst xs, ⟨vs, h, r⟩ => by rw [h]; simp
  | .dct ks us, ⟨kvs, h, f, r⟩ => by rw [h]; simp
  | .obj c ns us, ⟨C, dx, fs, ec, h, f, r⟩ => by rw [h]; simp
theorem Hs.live {cl : Cl} {φ : Phi} {h : Hm} {H : Hp} (x : Hs cl φ h H) {a : Addr} (m : some a ∈ φ.m) : H a ≠ none := by
  obtain ⟨n, hn, e⟩ := List.mem_iff_getElem.mp m
  have e2 : φ.m[n]? = some (some a) := by rw [List.getElem?_eq_getElem hn, e]
  have hn' : n < h.length := by rw [← x.len]; exact hn
  rcases x.get n h[n] (List.getElem?_eq_getElem hn') with ⟨_, q⟩ | ⟨b, q, r⟩
  · rw [e2] at q; cases q
  · rw [e2] at q; cases q; exact r.some
theorem upd_some {H : Hp} {p a : Addr} {o : HO} (r : H a ≠ none) : upd H p o a ≠ none := by
  unfold upd; split
  · simp
  · exact r
theorem Hs.lay {cl : Cl} {φ : Phi} {h : Hm} {H : Hp} {p : Addr} {o : HO} (x : Hs cl φ h H) (n : H p = none) : Hs cl φ h (upd H p o) where
  len := x.len
  get := fun m u e => by
    rcases x.get m u e with q | ⟨a, q, r⟩
    · exact .inl q
    · refine .inr ⟨a, q, RpO.move (fun b w ob r => ⟨ob, rd_upd n r⟩) ?_ r⟩
      exact upd_ne fun z => r.some (z ▸ n)
  inj := x.inj
  res := fun a h => ⟨upd_some (x.res a h).1, (x.res a h).2⟩
theorem Hs.offNone {cl : Cl} {φ : Phi} {h : Hm} {H : Hp} {p : Addr} (x : Hs cl φ h H) (n : H p = none) : Off φ p := ⟨fun m => x.live m n, fun m => (x.res p m).1 n⟩
/-- a new thing that may change, on top -/
theorem getElem?_snoc {α : Type} {xs : List α} {y z : α} {n : Nat} (h : (xs ++ [y])[n]? = some z) : xs[n]? = some z ∨ (n = xs.length ∧ z = y) := by
  rw [List.getElem?_append] at h
  split at h
  · exact .inl h
  · rename_i q
    have : n - xs.length = 0 := by
      cases e : n - xs.length with
      | zero => rfl
      | succ k => rw [e] at h; simp at h
    rw [this] at h
    simp at h
    exact .inr ⟨by omega, h.symm⟩
abbrev Phi.push (φ : Phi) (p : Addr) : Phi := ⟨φ.m ++ [some p], φ.r⟩
theorem off_push {φ : Phi} {H : Hp} {p : Addr} (n : H p = none) {b : Addr} {w : HO} (ob : Off φ b) (r : Rx H b w) : Off (φ.push p) b := ⟨fun z => by
  rcases List.mem_append.mp z with z | z
  · exact ob.1 z
  · simp at z; rw [z] at r; exact rd_some r n, ob.2⟩
theorem Grow.push {φ : Phi} {H : Hp} {p : Addr} {o : HO} (n : H p = none) : Grow φ H (φ.push p) (upd H p o) :=
  ⟨by simp, fun m a hm h => by rw [List.getElem?_append_left hm] at h; exact h, fun a h => by
    rcases List.mem_append.mp h with h | h
    · exact .inl h
    · simp at h; rw [h]; exact .inr n, fun _ _ _ r => keep_new n r, rfl⟩
theorem Hs.push {cl : Cl} {φ : Phi} {h : Hm} {H : Hp} {p : Addr} {o : HO} {m : MO} (x : Hs cl φ h H) (n : H p = none) (new : RpO cl (φ.push p) (upd H p o) m p) : Hs cl (φ.push p) (h ++ [m]) (upd H p o) where
  len := by simp [x.len]
  get := fun k u e => by
    rcases getElem?_snoc e with e | ⟨rfl, rfl⟩
    · have hk : k < φ.m.length := by rw [x.len]; exact (List.getElem?_eq_some_iff.mp e).1
      rw [List.getElem?_append_left hk]
      rcases x.get k u e with q | ⟨a, q, r⟩
      · exact .inl q
      · exact .inr ⟨a, q, RpO.move (fun b w ob r => ⟨off_push n ob r, rd_upd n r⟩) (upd_ne fun z => RpO.some r (by rw [z]; exact n)) r⟩
    · exact .inr ⟨p, by rw [← x.len]; simp, new⟩
  inj := fun i j a h1 h2 => by
    have np : ∀ k, φ.m[k]? = some (some p) → False := fun k e => x.live (List.mem_of_getElem? e) n
    rcases getElem?_snoc h1 with h1 | ⟨rfl, e1⟩
    · rcases getElem?_snoc h2 with h2 | ⟨rfl, e2⟩
      · exact x.inj i j a h1 h2
      · cases e2; exact (np _ h1).elim
    · rcases getElem?_snoc h2 with h2 | ⟨rfl, e2⟩
      · cases e1; exact (np _ h2).elim
      · rfl
  res := fun a h => ⟨upd_some (x.res a h).1, fun z => by
    rcases List.mem_append.mp z with z | z
    · exact (x.res a h).2 z
    · simp at z; subst z; exact (x.res a h).1 n⟩
/-- what may change is written -/
theorem rd_write {H : Hp} {p a : Addr} {u o : HO} (ne : a ≠ p) (r : Rx H a u) : Rx (upd H p o) a u := by
  unfold Rx
  rw [upd_ne ne]
  exact r
theorem Grow.write {φ : Phi} {H : Hp} {p : Addr} {o : HO} (m : some p ∈ φ.m) : Grow φ H φ (upd H p o) :=
  ⟨Nat.le_refl _, fun _ _ _ h => h, fun _ h => .inl h, fun a u h r => by
    have ne : a ≠ p := fun e => h (e ▸ m)
    rw [upd_ne ne]; exact r, rfl⟩
theorem Hs.write {cl : Cl} {φ : Phi} {h : Hm} {H : Hp} {p : Addr} {o : HO} {n : Nat} {m : MO} (x : Hs cl φ h H) (e : φ.m[n]? = some (some p)) (new : RpO cl φ (upd H p o) m p) : Hs cl φ (h.set n m) (upd H p o) where
  len := by rw [List.length_set]; exact x.len
  get := fun k u q => by
    by_cases hk : n = k
    · subst hk
      have hn : n < h.length := by rw [← x.len]; exact (List.getElem?_eq_some_iff.mp e).1
      rw [List.getElem?_set_self hn] at q
      cases q
      exact .inr ⟨p, e, new⟩
    · rw [List.getElem?_set_ne hk] at q
      rcases x.get k u q with z | ⟨a, z, r⟩
      · exact .inl z
      · have ne : a ≠ p := fun ea => hk (x.inj n k p e (ea ▸ z))
        exact .inr ⟨a, z, RpO.move (fun b w ob r => ⟨ob, rd_write (r := r) fun eb => ob.1 (eb ▸ List.mem_of_getElem? e)⟩) (upd_ne ne) r⟩
  inj := x.inj
  res := fun a h => ⟨upd_some (x.res a h).1, (x.res a h).2⟩
/-- what may change is no longer changed -/
abbrev Phi.kill (φ : Phi) (n : Nat) : Phi := ⟨φ.m.set n none, φ.r⟩
theorem off_set {φ : Phi} {n : Nat} {a : Addr} (h : Off φ a) : Off (φ.kill n) a := ⟨fun m => by
  rcases List.mem_or_eq_of_mem_set m with m | m
  · exact h.1 m
  · exact absurd m (by simp), h.2⟩
theorem Grow.kill {φ : Phi} {H : Hp} {n : Nat} : Grow φ H (φ.kill n) H :=
  ⟨by simp, fun k a hk h => by
    by_cases e : n = k
    · subst e; rw [List.getElem?_set_self hk] at h; cases h
    · rw [List.getElem?_set_ne e] at h; exact h, fun a h => by
    rcases List.mem_or_eq_of_mem_set h with m | m
    · exact .inl m
    · exact absurd m (by simp), fun _ _ _ r => r, rfl⟩
theorem Hs.kill {cl : Cl} {φ : Phi} {h : Hm} {H : Hp} {n : Nat} (x : Hs cl φ h H) : Hs cl (φ.kill n) (h.set n .dead) H where
  len := by rw [List.length_set, List.length_set]; exact x.len
  get := fun k u q => by
    by_cases hk : n = k
    · subst hk
      by_cases hn : n < h.length
      · rw [List.getElem?_set_self hn] at q
        cases q
        exact .inl ⟨rfl, List.getElem?_set_self (by rw [x.len]; exact hn)⟩
      · rw [List.getElem?_eq_none (by simp; omega)] at q; cases q
    · rw [List.getElem?_set_ne hk] at q
      rw [List.getElem?_set_ne hk]
      rcases x.get k u q with z | ⟨a, z, r⟩
      · exact .inl z
      · exact .inr ⟨a, z, RpO.move (fun b w ob r => ⟨off_set ob, r⟩) rfl r⟩
  inj := fun i j a h1 h2 => by
    have k : ∀ m, (φ.m.set n none)[m]? = some (some a) → φ.m[m]? = some (some a) := fun m h => by
      by_cases e : n = m
      · subst e
        by_cases hn : n < φ.m.length
        · rw [List.getElem?_set_self hn] at h; cases h
        · rw [List.getElem?_eq_none (by simp; omega)] at h; cases h
      · rw [List.getElem?_set_ne e] at h; exact h
    exact x.inj i j a (k i h1) (k j h2)
  res := fun a h => ⟨(x.res a h).1, fun z => by
    rcases List.mem_or_eq_of_mem_set z with m | m
    · exact (x.res a h).2 m
    · exact absurd m (by simp)⟩
/-- the top is dropped -/
abbrev Phi.take (φ : Phi) (n : Nat) : Phi := ⟨φ.m.take n, φ.r⟩
theorem off_take {φ : Phi} {n : Nat} {a : Addr} (h : Off φ a) : Off (φ.take n) a := ⟨fun m => h.1 (List.mem_of_mem_take m), h.2⟩
theorem Hs.take {cl : Cl} {φ : Phi} {h : Hm} {H : Hp} (n : Nat) (x : Hs cl φ h H) : Hs cl (φ.take n) (h.take n) H where
  len := by simp [x.len]
  get := fun k u q => by
    rw [List.getElem?_take] at q
    split at q
    · rename_i hk
      rw [List.getElem?_take_of_lt hk]
      rcases x.get k u q with z | ⟨a, z, r⟩
      · exact .inl z
      · exact .inr ⟨a, z, RpO.move (fun b w ob r => ⟨off_take ob, r⟩) rfl r⟩
    · cases q
  inj := fun i j a h1 h2 => by
    have k : ∀ m, (φ.m.take n)[m]? = some (some a) → φ.m[m]? = some (some a) := fun m h => by
      rw [List.getElem?_take] at h
      split at h
      · exact h
      · cases h
    exact x.inj i j a (k i h1) (k j h2)
  res := fun a h => ⟨(x.res a h).1, fun z => (x.res a h).2 (List.mem_of_mem_take z)⟩
theorem Grow.take {φ φ' : Phi} {H H' : Hp} {n : Nat} (g : Grow φ H φ' H') (hn : φ.m.length ≤ n) : Grow φ H (φ'.take n) H' :=
  ⟨by rw [List.length_take]; exact Nat.le_min.mpr ⟨hn, g.len⟩, fun k a hk h => by
    rw [List.getElem?_take_of_lt (by omega)] at h
    exact g.old k a hk h, fun a h => g.new a (List.mem_of_mem_take h), g.keep, g.res⟩
/-- one thing stays on top -/
abbrev Phi.top (φ : Phi) (e : Nat) (a : Addr) : Phi := ⟨φ.m.take e ++ [some a], φ.r⟩
theorem Hs.takeTop {cl : Cl} {φ : Phi} {h : Hm} {H : Hp} {e n : Nat} {a : Addr} {o : MO} (x : Hs cl φ h H) (he : e ≤ n) (q : φ.m[n]? = some (some a)) (r : h[n]? = some o) : Hs cl (φ.top e a) (h.take e ++ [o]) H := by
  have hn : n < φ.m.length := (List.getElem?_eq_some_iff.mp q).1
  have hl : (φ.m.take e).length = e := by rw [List.length_take]; omega
  have hl' : (h.take e).length = e := by rw [List.length_take, ← x.len]; omega
  have off : ∀ {b : Addr}, Off φ b → Off (φ.top e a) b := fun {b} h => ⟨fun m => by
    rcases List.mem_append.mp m with m | m
    · exact h.1 (List.mem_of_mem_take m)
    · simp at m; rw [m] at h; exact h.1 (List.mem_of_getElem? q), h.2⟩
  refine ⟨by simp [hl, hl'], fun k u z => ?_, fun i j b h1 h2 => ?_, fun b h => ⟨(x.res b h).1, fun z => by
    rcases List.mem_append.mp z with z | z
    · exact (x.res b h).2 (List.mem_of_mem_take z)
    · simp at z; subst z; exact (x.res b h).2 (List.mem_of_getElem? q)⟩⟩
  · rcases getElem?_snoc z with z | ⟨rfl, rfl⟩
    · rw [List.getElem?_take] at z
      split at z
      · rename_i hk
        rw [List.getElem?_append_left (by omega), List.getElem?_take_of_lt hk]
        rcases x.get k u z with y | ⟨b, y, w⟩
        · exact .inl y
        · exact .inr ⟨b, y, RpO.move (fun b w ob r => ⟨off ob, r⟩) rfl w⟩
      · cases z
    · rw [hl']
      rcases x.get n u r with ⟨_, y⟩ | ⟨b, y, w⟩
      · rw [q] at y; cases y
      · rw [q] at y; cases y
        refine .inr ⟨a, ?_, RpO.move (fun b w ob r => ⟨off ob, r⟩) rfl w⟩
        rw [List.getElem?_append_right (by omega), hl]
        simp
  · have k : ∀ m, (φ.m.take e ++ [some a])[m]? = some (some b) → (m < e ∧ φ.m[m]? = some (some b)) ∨ (m = e ∧ b = a) := fun m h => by
      rcases getElem?_snoc h with h | ⟨em, h⟩
      · rw [List.getElem?_take] at h
        split at h
        · exact .inl ⟨by assumption, h⟩
        · cases h
      · exact .inr ⟨em.trans hl, Option.some.inj h⟩
    rcases k i h1 with ⟨a1, a2⟩ | ⟨a1, a2⟩ <;> rcases k j h2 with ⟨b1, b2⟩ | ⟨b1, b2⟩
    · exact x.inj i j b a2 b2
    · subst b2; have := x.inj i n _ a2 q; omega
    · subst a2; have := x.inj j n _ b2 q; omega
    · omega
theorem Grow.takeTop {φ φ' : Phi} {H H' : Hp} {n e : Nat} {a : Addr} (g : Grow φ H φ' H') (he : φ.m.length = e) (hn : e ≤ n) (q : φ'.m[n]? = some (some a)) : Grow φ H (φ'.top e a) H' := by
  have hl : (φ'.m.take e).length = e := by
    have := (List.getElem?_eq_some_iff.mp q).1
    rw [List.length_take]; omega
  refine ⟨by simp [hl, he], fun k b hk h => ?_, fun b h => ?_, g.keep, g.res⟩
  · rw [List.getElem?_append_left (by omega), List.getElem?_take_of_lt (by omega)] at h
    exact g.old k b hk h
  · rcases List.mem_append.mp h with h | h
    · exact g.new b (List.mem_of_mem_take h)
    · simp at h; rw [h]; exact g.new a (List.mem_of_getElem? q)
/-- an address is kept apart for a while -/
abbrev Phi.hold (φ : Phi) (D : Addr) : Phi := ⟨φ.m, D :: φ.r⟩
abbrev Phi.drop (φ : Phi) : Phi := ⟨φ.m, φ.r.tail⟩
theorem off_hold {φ : Phi} {D b : Addr} (ob : Off φ b) (ne : b ≠ D) : Off (φ.hold D) b := ⟨ob.1, fun m => (List.mem_cons.mp m).elim ne ob.2⟩
theorem off_drop {φ : Phi} {b : Addr} (ob : Off φ b) : Off φ.drop b := ⟨ob.1, fun m => ob.2 (List.mem_of_mem_tail m)⟩
/-- a new thing is laid and kept apart -/
theorem Hs.hold {cl : Cl} {φ : Phi} {h : Hm} {H : Hp} {D : Addr} {o : HO} (x : Hs cl φ h H) (n : H D = none) : Hs cl (φ.hold D) h (upd H D o) where
  len := x.len
  get := fun k u z => by
    rcases x.get k u z with y | ⟨b, y, w⟩
    · exact .inl y
    · refine .inr ⟨b, y, RpO.move (fun c w ob r => ⟨off_hold ob fun e => rd_some r (e ▸ n), rd_upd n r⟩) (upd_ne fun e => RpO.some w (by rw [e]; exact n)) w⟩
  inj := x.inj
  res := fun a m => by
    rcases List.mem_cons.mp m with m | m
    · subst m; exact ⟨by rw [upd_same]; simp, fun z => x.live z n⟩
    · exact ⟨upd_some (x.res a m).1, (x.res a m).2⟩
theorem Hs.drop {cl : Cl} {φ : Phi} {h : Hm} {H : Hp} (x : Hs cl φ h H) : Hs cl φ.drop h H where
  len := x.len
  get := fun k u z => by
    rcases x.get k u z with y | ⟨b, y, w⟩
    · exact .inl y
    · exact .inr ⟨b, y, RpO.move (fun c w ob r => ⟨off_drop ob, r⟩) rfl w⟩
  inj := x.inj
  res := fun a m => x.res a (List.mem_of_mem_tail m)
/-- what is kept apart is written -/
theorem Hs.writeR {cl : Cl} {φ : Phi} {h : Hm} {H : Hp} {D : Addr} {o : HO} (x : Hs cl φ h H) (hD : D ∈ φ.r) : Hs cl φ h (upd H D o) where
  len := x.len
  get := fun k u z => by
    rcases x.get k u z with y | ⟨b, y, w⟩
    · exact .inl y
    · refine .inr ⟨b, y, RpO.move (fun c w ob r => ⟨ob, rd_write (r := r) fun e => ob.2 (e ▸ hD)⟩) (upd_ne fun e => (x.res D hD).2 (by rw [← e]; exact List.mem_of_getElem? y)) w⟩
  inj := x.inj
  res := fun a m => ⟨upd_some (x.res a m).1, (x.res a m).2⟩

/-- a value in hand: its own thing may change, what is within may not -/
def RpI (cl : Cl) (φ : Phi) (H : Hp) : T → V → Prop
  | .tup xs, v => ∃ a vs, v = .ref a ∧ Off φ a ∧ Rx H a (.tup vs) ∧ Rps cl (Off φ) H xs vs
  | .lst xs, v => ∃ a vs, v = .ref a ∧ Rx H a (.lst vs) ∧ Rps cl (Off φ) H xs vs
  | .dct ks us, v => ∃ a kvs, v = .ref a ∧ Rx H a (.dK kvs) ∧ kvs.map (fun p => keyT p.1) = ks ∧ Rps cl (Off φ) H us (kvs.map (·.2))
  | .obj c ns us, v => ∃ a C dx fs, v = .ref a ∧ cl c = some C ∧ Rx H a (.ins C dx fs) ∧ fs.map (·.1) = ns ∧ Rps cl (Off φ) H us (fs.map (·.2))
  | .non, v => v = .non
  | .bl b, v => v = .bl b
  | .int i, v => v = .int i
  | .str x, v => v = .str x
theorem RpF.i {cl : Cl} {φ : Phi} {H : Hp} {t : T} {v : V} (h : RpF cl φ H t v) : RpI cl φ H t v := by
  cases t <;> rw [RpF, Rp] at h
  · exact h
  · exact h
  · exact h
  · exact h
  · obtain ⟨a, vs, e, o, r, q⟩ := h; exact ⟨a, vs, e, o, r, q⟩
  · obtain ⟨a, vs, e, _, r, q⟩ := h; exact ⟨a, vs, e, r, q⟩
  · obtain ⟨a, vs, e, _, r, q⟩ := h; exact ⟨a, vs, e, r, q⟩
  · obtain ⟨a, C, dx, vs, e, _, ec, r, q⟩ := h; exact ⟨a, C, dx, vs, e, ec, r, q⟩
theorem RpI.d {cl : Cl} {φ : Phi} {H : Hp} {t : T} {v : V} (h : RpI cl φ H t v) : RpD cl H t v := by
  have mv : ∀ {xs : List T} {vs : List V}, Rps cl (Off φ) H xs vs → Rps cl (fun _ => True) H xs vs := fun h => Rps.move (fun _ _ _ r => ⟨trivial, r⟩) h
  cases t <;> rw [RpD, Rp]
  · exact h
  · exact h
  · exact h
  · exact h
  · obtain ⟨a, vs, e, _, r, q⟩ := h; exact ⟨a, vs, e, trivial, r, mv q⟩
  · obtain ⟨a, vs, e, r, q⟩ := h; exact ⟨a, vs, e, trivial, r, mv q⟩
  · obtain ⟨a, vs, e, r, f, q⟩ := h; exact ⟨a, vs, e, trivial, r, f, mv q⟩
  · obtain ⟨a, C, dx, vs, e, ec, r, f, q⟩ := h; exact ⟨a, C, dx, vs, e, trivial, ec, r, f, mv q⟩
/-- reading a value: a thing that may change is read as it stands -/
theorem RpS.dref {cl : Cl} {φ : Phi} {h : Hm} {H : Hp} (x : Hs cl φ h H) {s : S} {v : V} {t : T} (r : RpS cl φ H s v) (e : dref h s = some t) : RpI cl φ H t v := by
  cases s with
  | t u => cases e; exact RpF.i r
  | r n =>
    cases q : h[n]? with
    | none => simp [My.dref, q] at e
    | some o =>
      rcases x.get n o q with ⟨rfl, _⟩ | ⟨a, z, w⟩
      · simp [My.dref, q] at e
      · have hv := r.2 a z
        cases o with
        | lst xs => simp [My.dref, q] at e; subst e; obtain ⟨vs, h1, h2⟩ := w; exact ⟨a, vs, hv, .inl h1, h2⟩
        | dct ks us => simp [My.dref, q] at e; subst e; obtain ⟨kvs, h1, h2, h3⟩ := w; exact ⟨a, kvs, hv, .inl h1, h2, h3⟩
        | obj c ns us => simp [My.dref, q] at e; subst e; obtain ⟨C, dx, fs, ec, h1, h2, h3⟩ := w; exact ⟨a, C, dx, fs, hv, ec, .inl h1, h2, h3⟩
        | dead => exact w.elim

/-! ### what an evaluation owes -/
/-- how an exception stands: its class, its own dict -/
abbrev XRel := Phi → Hp → Nat → List T → Value → Option Addr → Prop
section
variable (cl : Cl) (xr : XRel)
def MW {α β : Type} (rel : Phi → Hp → α → β → Prop) (W : WX) (σ : L2.St) (φ : Phi) (H : Hp) (r : R α) (Q : β → Hp → Prop) : Prop := match r with
  | .ok a h' => ∀ φ' H' v, Grow φ H φ' H' → Hs cl φ' h' H' → rel φ' H' a v → Q v H'
  | .ex c fs h' => ∀ φ' H' k d, Grow φ H φ' H' → Hs cl φ' h' H' → xr φ' H' c fs k d → W k d σ H'
  | .bad => False
end
theorem MW.grow {cl : Cl} {xr : XRel} {α β : Type} {rel : Phi → Hp → α → β → Prop} {W : WX} {σ : L2.St} {φ φ1 : Phi} {H H1 : Hp} {r : R α} {Q : β → Hp → Prop}
    (h : MW cl xr rel W σ φ H r Q) (g : Grow φ H φ1 H1) : MW cl xr rel W σ φ1 H1 r Q := by
  cases r with
  | ok a h' => exact fun φ' H' v g' => h φ' H' v (g.trans g')
  | ex c fs h' => exact fun φ' H' k d g' => h φ' H' k d (g.trans g')
  | bad => exact h
theorem MW.bind {cl : Cl} {xr : XRel} {α β γ δ : Type} {rel : Phi → Hp → α → β → Prop} {rel' : Phi → Hp → γ → δ → Prop} {W : WX} {σ : L2.St} {φ : Phi} {H : Hp} {x : R γ} {f : γ → Hm → R α} {Q : β → Hp → Prop} {Q' : δ → Hp → Prop}
    (h : MW cl xr rel W σ φ H (x.bind f) Q) (k : ∀ a h1 φ1 H1 v, x = .ok a h1 → Grow φ H φ1 H1 → Hs cl φ1 h1 H1 → rel' φ1 H1 a v → MW cl xr rel W σ φ1 H1 (f a h1) Q → Q' v H1) :
    MW cl xr rel' W σ φ H x Q' := by
  cases x with
  | ok a h1 => exact fun φ1 H1 v g hs r => k a h1 φ1 H1 v rfl g hs r (h.grow g)
  | ex c fs h' => exact h
  | bad => exact h
theorem MW.bind0 {cl : Cl} {xr : XRel} {α β γ δ : Type} {rel : Phi → Hp → α → β → Prop} {rel' : Phi → Hp → γ → δ → Prop} {W : WX} {σ : L2.St} {φ : Phi} {H : Hp} {x : R γ} {f : γ → Hm → R α} {Q : β → Hp → Prop} {Q' : δ → Hp → Prop}
    (h : MW cl xr rel W σ φ H (x.bind f) Q) (k : ∀ a h1 φ1 H1 v, x = .ok a h1 → Grow φ H φ1 H1 → Hs cl φ1 h1 H1 → rel' φ1 H1 a v → MW cl xr rel W σ φ H (f a h1) Q → Q' v H1) :
    MW cl xr rel' W σ φ H x Q' := by
  cases x with
  | ok a h1 => exact fun φ1 H1 v g hs r => k a h1 φ1 H1 v rfl g hs r h
  | ex c fs h' => exact h
  | bad => exact h
theorem MW.lift {cl : Cl} {xr : XRel} {α β γ : Type} {rel : Phi → Hp → α → β → Prop} {W : WX} {σ : L2.St} {φ : Phi} {H : Hp} {o : Option γ} {h : Hm} {f : γ → Hm → R α} {Q : β → Hp → Prop}
    (m : MW cl xr rel W σ φ H ((liftO o h).bind f) Q) : ∃ a, o = some a ∧ MW cl xr rel W σ φ H (f a h) Q := by
  cases o with
  | none => exact m.elim
  | some a => exact ⟨a, rfl, m⟩
theorem MW.asT {cl : Cl} {xr : XRel} {α β : Type} {rel : Phi → Hp → α → β → Prop} {W : WX} {σ : L2.St} {φ : Phi} {H : Hp} {s : S} {h : Hm} {f : T → Hm → R α} {Q : β → Hp → Prop}
    (m : MW cl xr rel W σ φ H ((asT s h).bind f) Q) : ∃ t, s = .t t ∧ MW cl xr rel W σ φ H (f t h) Q := by
  cases s with
  | r n => exact m.elim
  | t a => exact ⟨a, rfl, m⟩
theorem MW.asI {cl : Cl} {xr : XRel} {α β : Type} {rel : Phi → Hp → α → β → Prop} {W : WX} {σ : L2.St} {φ : Phi} {H : Hp} {s : S} {h : Hm} {f : Int → Hm → R α} {Q : β → Hp → Prop}
    (m : MW cl xr rel W σ φ H ((asI s h).bind f) Q) : ∃ b, s = .t (.int b) ∧ MW cl xr rel W σ φ H (f b h) Q := by
  cases s with
  | r n => exact m.elim
  | t a => cases a <;> first | exact m.elim | exact ⟨_, rfl, m⟩
theorem MW.isD {cl : Cl} {xr : XRel} {α β : Type} {rel : Phi → Hp → α → β → Prop} {W : WX} {σ : L2.St} {φ : Phi} {H : Hp} {s : S} {h : Hm} {f : Unit → Hm → R α} {Q : β → Hp → Prop}
    (m : MW cl xr rel W σ φ H ((isD s h).bind f) Q) : ∃ ks us, dref h s = some (.dct ks us) ∧ MW cl xr rel W σ φ H (f () h) Q := by
  unfold My.isD at m
  cases e : dref h s with
  | none => rw [e] at m; exact m.elim
  | some t => rw [e] at m; cases t <;> first | exact m.elim | exact ⟨_, _, rfl, m⟩
theorem MW.isL {cl : Cl} {xr : XRel} {α β : Type} {rel : Phi → Hp → α → β → Prop} {W : WX} {σ : L2.St} {φ : Phi} {H : Hp} {s : S} {h : Hm} {f : Unit → Hm → R α} {Q : β → Hp → Prop}
    (m : MW cl xr rel W σ φ H ((isL s h).bind f) Q) : ∃ ks, dref h s = some (.lst ks) ∧ MW cl xr rel W σ φ H (f () h) Q := by
  unfold My.isL at m
  cases e : dref h s with
  | none => rw [e] at m; exact m.elim
  | some t => rw [e] at m; cases t <;> first | exact m.elim | exact ⟨_, rfl, m⟩
theorem MW.asB {cl : Cl} {xr : XRel} {α β : Type} {rel : Phi → Hp → α → β → Prop} {W : WX} {σ : L2.St} {φ : Phi} {H : Hp} {s : S} {h : Hm} {f : Bool → Hm → R α} {Q : β → Hp → Prop}
    (m : MW cl xr rel W σ φ H ((asB s h).bind f) Q) : ∃ b, s = .t (.bl b) ∧ MW cl xr rel W σ φ H (f b h) Q := by
  cases s with
  | r n => exact m.elim
  | t a => cases a <;> first | exact m.elim | exact ⟨_, rfl, m⟩
end My

/-! MiniPy: the operators are right. -/
namespace My
open PySem L2 PyProof.Rows

section
variable {X : Cx} {cl : Cl} {xr : XRel} {W : WX} {σ0 : L2.St} {φ : Phi} {h : Hm} {H : Hp} {Q : VK}
theorem now {t : T} {v : V} (m : MW cl xr (RpS cl) W σ0 φ H (.ok (.t t) h) Q) (hs : Hs cl φ h H) (r : RpF cl φ H t v) : Q v H := m φ H v (Grow.refl _ _) hs r
theorem newLst {xs : List T} {vs : List V} (m : MW cl xr (RpS cl) W σ0 φ H (.ok (.t (.lst xs)) h) Q) (hs : Hs cl φ h H) (r : Rps cl (Off φ) H xs vs) : ∀ p, H p = none → Q (.ref p) (upd H p (.lst vs)) := fun p n => by
  refine m φ _ _ (Grow.lay n) (hs.lay n) ?_
  show RpF cl φ _ _ _
  rw [RpF, Rp]
  exact ⟨p, vs, rfl, hs.offNone n, .inl upd_same, (Grow.lay n).rps r⟩
theorem newTup {xs : List T} {vs : List V} (m : MW cl xr (RpS cl) W σ0 φ H (.ok (.t (.tup xs)) h) Q) (hs : Hs cl φ h H) (r : Rps cl (Off φ) H xs vs) : ∀ p, H p = none → Q (.ref p) (upd H p (.tup vs)) := fun p n => by
  refine m φ _ _ (Grow.lay n) (hs.lay n) ?_
  show RpF cl φ _ _ _
  rw [RpF, Rp]
  exact ⟨p, vs, rfl, hs.offNone n, .inl upd_same, (Grow.lay n).rps r⟩
theorem nowInt {i : Int} (m : MW cl xr (RpS cl) W σ0 φ H (.ok (.t (.int i)) h) Q) (hs : Hs cl φ h H) : Q (.int i) H := now m hs (by rw [RpF, Rp])
theorem nowBl {i : Bool} (m : MW cl xr (RpS cl) W σ0 φ H (.ok (.t (.bl i)) h) Q) (hs : Hs cl φ h H) : Q (.bl i) H := now m hs (by rw [RpF, Rp])
theorem nowStr {i : Str} (m : MW cl xr (RpS cl) W σ0 φ H (.ok (.t (.str i)) h) Q) (hs : Hs cl φ h H) : Q (.str i) H := now m hs (by rw [RpF, Rp])
theorem nowNon (m : MW cl xr (RpS cl) W σ0 φ H (.ok (.t .non) h) Q) (hs : Hs cl φ h H) : Q .non H := now m hs (by rw [RpF, Rp])
end

/-- what is asked of two values in hand -/
structure Two (X : Cx) (cl : Cl) (o : Bo) (x y : V) (H : Hp) (Q : VK) : Prop where
  ex : ∃ (xr : XRel) (W : WX) (σ0 : L2.St) (φ : Phi) (h : Hm) (t u z : T), Hs cl φ h H ∧ RpI cl φ H t x ∧ RpI cl φ H u y ∧ sem2 o t u = some z ∧ MW cl xr (RpS cl) W σ0 φ H (.ok (.t z) h) Q
structure One (X : Cx) (cl : Cl) (sub : Nat → Nat → Bool) (o : U) (x : V) (H : Hp) (Q : VK) : Prop where
  ex : ∃ (xr : XRel) (W : WX) (σ0 : L2.St) (φ : Phi) (h : Hm) (t z : T), Hs cl φ h H ∧ RpI cl φ H t x ∧ sem1 sub o t = some z ∧ MW cl xr (RpS cl) W σ0 φ H (.ok (.t z) h) Q

/-! ### data -/
mutual
theorem Rp.dp {cl : Cl} {ok : Al} {H : Hp} {K : PySem.W.Frag} : ∀ {t : T} {v : V}, t.data = true → Rp cl ok H t v → Dp K H v t.py
  | .non, _, _, h => by rw [Rp] at h; subst h; exact .non
  | .bl b, _, _, h => by rw [Rp] at h; subst h; exact .bl b
  | .int i, _, _, h => by rw [Rp] at h; subst h; exact .int i
  | .str x, _, _, h => by rw [Rp] at h; subst h; exact .str x
  | .tup xs, _, d, h => by
    rw [Rp] at h
    obtain ⟨a, vs, e, _, r, q⟩ := h
    subst e
    exact .tup (.inl r.rd) (Rps.dp (by simpa [T.data] using d) q)
  | .lst xs, _, d, h => by
    rw [Rp] at h
    obtain ⟨a, vs, e, _, r, q⟩ := h
    subst e
    exact .lst (.inl r.rd) (Rps.dp (by simpa [T.data] using d) q)
  | .dct _ _, _, d, _ => by simp [T.data] at d
  | .obj _ _ _, _, d, _ => by simp [T.data] at d
theorem Rps.dp {cl : Cl} {ok : Al} {H : Hp} {K : PySem.W.Frag} : ∀ {xs : List T} {vs : List V}, datas xs = true → Rps cl ok H xs vs → DpAll K H vs (pys xs)
  | [], _, _, h => by rw [Rps] at h; subst h; exact .nil
  | x :: xs, _, d, h => by
    rw [Rps] at h
    obtain ⟨v, r, e, a, b⟩ := h
    subst e
    simp only [datas, Bool.and_eq_true] at d
    exact .cons (Rp.dp d.1 a) (Rps.dp d.2 b)
end
theorem shp_data {t : T} (h : t.shp = true) : t.data = true ∧ SeqAt.shaped t.py = true := by
  simp only [T.shp, Bool.and_eq_true] at h; exact h

/-! ### two values -/
section
variable {X : Cx} {cl : Cl} {K : PySem.W.Frag}
theorem lim_le {n : Nat} (h : lim n = true) : n ≤ sizeLine := of_decide_eq_true h
/-- lists joined, read as they stand -/
theorem op_catR : OpR X (binaryOp .Add) (fun x y H Q => ∃ l b xs zs, x = .ref l ∧ y = .ref b ∧ Rd H l (.lst xs) ∧ Rd H b (.lst zs) ∧ xs.length + zs.length ≤ sizeLine ∧ ∀ p, H p = none → Q (.ref p) (upd H p (.lst (xs ++ zs)))) := by
  intro pins s σ H x y v u Q I rx ry hh
  obtain ⟨l, b, xs, zs, ex, ey, hl, hb, hz, q⟩ := hh
  subst ex; subst ey
  cases rx
  cases ry
  obtain ⟨_, its, n, r1, e1⟩ := hl.ok I.hok
  obtain ⟨_, its2, n2, r2, e2⟩ := hb.ok I.hok
  have z1 := r1.length
  have z2 := r2.length
  refine PySem.P.add_list e1 e2 ?_ (by rw [List.size_toArray, List.size_toArray, ← z1, ← z2]; exact hz)
  rw [show its.toArray ++ its2.toArray = (its ++ its2).toArray by simp]
  exact ⟨.ref _, _, I.lnew (t' := s.toks) (r1.append r2) (by rw [List.length_append]; exact hz), rfl, q _ I.fresh⟩
theorem Rps.append {cl : Cl} {ok : Al} {H : Hp} : ∀ {xs ys : List T} {vs ws : List V}, Rps cl ok H xs vs → Rps cl ok H ys ws → Rps cl ok H (xs ++ ys) (vs ++ ws)
  | [], _, _, _, a, b => by rw [Rps] at a; subst a; exact b
  | x :: xs, _, _, _, a, b => by
    obtain ⟨v, r, rfl, p, q⟩ := a.inv
    exact .cons p (Rps.append q b)
theorem Rps.take {cl : Cl} {ok : Al} {H : Hp} : ∀ {xs : List T} {vs : List V} (n : Nat), Rps cl ok H xs vs → Rps cl ok H (xs.take n) (vs.take n)
  | [], _, n, a => by rw [Rps] at a; subst a; simp; exact .nil
  | x :: xs, _, 0, a => by simp; exact .nil
  | x :: xs, _, n + 1, a => by
    obtain ⟨v, r, rfl, p, q⟩ := a.inv
    exact .cons p (Rps.take n q)
theorem Rps.drop {cl : Cl} {ok : Al} {H : Hp} : ∀ {xs : List T} {vs : List V} (n : Nat), Rps cl ok H xs vs → Rps cl ok H (xs.drop n) (vs.drop n)
  | [], _, n, a => by rw [Rps] at a; subst a; simp; exact .nil
  | x :: xs, _, 0, a => a
  | x :: xs, _, n + 1, a => by
    obtain ⟨v, r, rfl, p, q⟩ := a.inv
    exact Rps.drop n q
theorem Rps.getE {cl : Cl} {ok : Al} {H : Hp} : ∀ {xs : List T} {vs : List V} {i : Nat} {t : T}, Rps cl ok H xs vs → xs[i]? = some t → ∃ v, vs[i]? = some v ∧ Rp cl ok H t v
  | [], _, _, _, _, e => by simp at e
  | x :: xs, _, 0, t, a, e => by
    obtain ⟨v, r, rfl, p, q⟩ := a.inv
    simp at e; subst e
    exact ⟨v, rfl, p⟩
  | x :: xs, _, i + 1, t, a, e => by
    obtain ⟨v, r, rfl, p, q⟩ := a.inv
    obtain ⟨w, e', p'⟩ := Rps.getE (i := i) q (by simpa using e)
    exact ⟨w, by simpa using e', p'⟩
theorem Rps.atI {cl : Cl} {ok : Al} {H : Hp} {xs : List T} {vs : List V} {i : Int} {t : T} (a : Rps cl ok H xs vs) (e : L2.atI xs i = some t) : ∃ v, L2.atI vs i = some v ∧ Rp cl ok H t v := by
  unfold L2.atI at e ⊢
  rw [← a.length]
  cases q : ixN xs.length i with
  | none => rw [q] at e; simp at e
  | some j => rw [q] at e; simp at e; simpa using a.getE e
theorem Rps.cut {cl : Cl} {ok : Al} {H : Hp} {xs : List T} {vs : List V} (a : Rps cl ok H xs vs) (lo hi : Option Int) : Rps cl ok H (cutL xs lo hi) (cutV vs lo hi) := by
  unfold cutL cutV
  rw [← a.length]
  exact (a.drop _).take _

theorem two_add : OpR X (binaryOp .Add) (Two X cl .add) := by
  intro pins s σ H x y v u Q I rx ry ⟨xr, W, σ0, φ, h, t, t', z, hs, r1, r2, e, m⟩
  cases t <;> cases t' <;> first
    | (cases e; done)
    | skip
  · cases e; cases r1; cases r2
    exact op_add pins s σ H _ _ v u Q I rx ry ⟨_, _, rfl, rfl, nowInt m hs⟩
  · simp only [sem2] at e
    split at e
    · rename_i hl
      cases e; cases r1; cases r2
      exact op_add_str pins s σ H _ _ v u Q I rx ry ⟨_, _, rfl, rfl, lim_le hl, nowStr m hs⟩
    · cases e
  · simp only [sem2] at e
    split at e
    · rename_i hl
      cases e
      obtain ⟨a, vs, e1, o1, q1, p1⟩ := r1
      obtain ⟨b, ws, e2, o2, q2, p2⟩ := r2
      subst e1; subst e2
      refine op_catA pins s σ H _ _ v u Q I rx ry ⟨a, b, vs, ws, rfl, rfl, .inl q1.rd, .inl q2.rd, by rw [← p1.length, ← p2.length]; exact lim_le hl, fun e0 => ?_, fun _ e0 => ?_, fun _ _ => newTup m hs (p1.append p2)⟩
      · subst e0
        have hx := List.eq_nil_of_length_eq_zero p1.length
        subst hx
        exact now m hs (by rw [RpF, Rp]; exact ⟨b, ws, rfl, o2, q2, p2⟩)
      · subst e0
        have hx := List.eq_nil_of_length_eq_zero p2.length
        subst hx
        exact now m hs (by rw [RpF, Rp]; rw [List.append_nil]; exact ⟨a, vs, rfl, o1, q1, p1⟩)
    · cases e
  · simp only [sem2] at e
    split at e
    · rename_i hl
      cases e
      obtain ⟨a, vs, e1, q1, p1⟩ := r1
      obtain ⟨b, ws, e2, q2, p2⟩ := r2
      subst e1; subst e2
      exact op_catR pins s σ H _ _ v u Q I rx ry ⟨a, b, vs, ws, rfl, rfl, q1.rd, q2.rd, by rw [← p1.length, ← p2.length]; exact lim_le hl, newLst m hs (p1.append p2)⟩
    · cases e

/-- ints -/
theorem two_int {o : Bo} {f : Value → Value → Sem Value} {C : Int → Int → Prop} {g : Int → Int → V} {γ : Int → Int → T}
    (hr : OpR X f (rI C g)) (only : ∀ t u z, sem2 o t u = some z → ∃ i j, t = .int i ∧ u = .int j ∧ C i j ∧ z = γ i j)
    (hv : ∀ i j, (∃ k, γ i j = .int k ∧ g i j = .int k) ∨ ∃ k, γ i j = .bl k ∧ g i j = .bl k) : OpR X f (Two X cl o) := by
  intro pins s σ H x y v u Q I rx ry ⟨xr, W, σ0, φ, h, t, t', z, hs, r1, r2, e, m⟩
  obtain ⟨i, j, e1, e2, hc, e3⟩ := only _ _ _ e
  subst e1; subst e2; subst e3
  cases r1; cases r2
  refine hr pins s σ H _ _ v u Q I rx ry ⟨i, j, rfl, rfl, hc, ?_⟩
  rcases hv i j with ⟨k, a, b⟩ | ⟨k, a, b⟩
  · rw [b]; rw [a] at m; exact nowInt m hs
  · rw [b]; rw [a] at m; exact nowBl m hs
theorem OpR.i0 {f : Value → Value → Sem Value} {g : Int → Int → V} (h : OpR X f (rI0 g)) : OpR X f (rI (fun _ _ => True) g) := fun pins s σ H x y v u Q I rx ry ⟨i, j, a, b, _, q⟩ => h pins s σ H x y v u Q I rx ry ⟨i, j, a, b, q⟩
theorem small64_or {i j : Int} (h : (small64 i || small64 j) = true) : CMul i j := by
  simp only [small64, Bool.or_eq_true, Bool.and_eq_true, decide_eq_true_eq] at h
  exact h
theorem two_sub : OpR X (binaryOp .Sub) (Two X cl .sub) := two_int (C := fun _ _ => True) (γ := fun i j => .int (i - j)) (OpR.i0 op_sub) (fun t u z e => by
  cases t <;> cases u <;> first | (cases e; done) | (cases e; exact ⟨_, _, rfl, rfl, True.intro, rfl⟩)) fun i j => .inl ⟨_, rfl, rfl⟩
theorem Rps.rep {cl : Cl} {ok : Al} {H : Hp} {xs : List T} {vs : List V} (a : Rps cl ok H xs vs) : ∀ n : Nat, Rps cl ok H (List.replicate n xs).flatten (List.replicate n vs).flatten
  | 0 => by simp; exact .nil
  | n + 1 => by rw [List.replicate_succ, List.replicate_succ, List.flatten_cons, List.flatten_cons]; exact Rps.append a (Rps.rep a n)
theorem two_mul : OpR X (binaryOp .Mult) (Two X cl .mul) := by
  intro pins s σ H x y v u Q I rx ry ⟨xr, W, σ0, φ, h, t, t', z, hs, r1, r2, e, m⟩
  cases t <;> cases t' <;> first
    | (cases e; done)
    | skip
  · simp only [sem2, arith] at e
    split at e
    · rename_i hc
      cases e; cases r1; cases r2
      exact op_mul pins s σ H _ _ v u Q I rx ry ⟨_, _, rfl, rfl, small64_or hc, nowInt m hs⟩
    · cases e
  · simp only [sem2] at e
    split at e
    · rename_i hc
      simp only [Bool.and_eq_true, decide_eq_true_eq] at hc
      cases e; cases r1; cases r2
      exact op_strMul pins s σ H _ _ v u Q I rx ry ⟨_, _, rfl, rfl, hc.1.1.1, hc.1.1.2, hc.1.2, hc.2, nowStr m hs⟩
    · cases e
  · simp only [sem2] at e
    split at e
    · rename_i hc
      simp only [Bool.and_eq_true, decide_eq_true_eq] at hc
      cases e; cases r2
      obtain ⟨a, vs, e1, o1, q1, p1⟩ := r1
      subst e1
      refine op_repTA pins s σ H _ _ v u Q I rx ry ⟨a, _, vs, rfl, rfl, .inl q1.rd, hc.1.1, hc.1.2, by rw [← p1.length]; exact hc.2, fun c => ?_, fun _ => newTup m hs (Rps.rep p1 _)⟩
      rcases c with c | c
      · subst c
        have hx := List.eq_nil_of_length_eq_zero p1.length
        subst hx
        have e0 : ∀ n : Nat, (List.replicate n ([] : List T)).flatten = [] := fun n => by induction n with | zero => rfl | succ n ih => rw [List.replicate_succ, List.flatten_cons, ih]; rfl
        exact now m hs (by rw [RpF, Rp]; exact ⟨a, _, rfl, o1, q1, by rw [e0]; exact .nil⟩)
      · subst c
        exact now m hs (by rw [RpF, Rp]; exact ⟨a, vs, rfl, o1, q1, by simpa using p1⟩)
    · cases e
  · simp only [sem2] at e
    split at e
    · rename_i hc
      simp only [Bool.and_eq_true, decide_eq_true_eq] at hc
      cases e; cases r2
      obtain ⟨a, vs, e1, q1, p1⟩ := r1
      subst e1
      exact op_repR pins s σ H _ _ v u Q I rx ry ⟨a, _, vs, rfl, rfl, q1.rd, hc.1.1, hc.1.2, by rw [← p1.length]; exact hc.2, newLst m hs (Rps.rep p1 _)⟩
    · cases e
theorem two_fdiv : OpR X (binaryOp .FloorDiv) (Two X cl .fdiv) := two_int (C := CDiv) (γ := fun i j => .int (i / j)) op_fdiv (fun t u z e => by
  cases t <;> cases u <;> first | (cases e; done) | skip
  simp only [sem2, arith] at e
  split at e
  · rename_i hc; simp only [Bool.and_eq_true, decide_eq_true_eq] at hc; cases e; exact ⟨_, _, rfl, rfl, hc, rfl⟩
  · cases e) fun i j => .inl ⟨_, rfl, rfl⟩
theorem two_mod : OpR X (binaryOp .Mod) (Two X cl .mod) := two_int (C := fun _ j => 0 < j) (γ := fun i j => .int (i % j)) op_mod (fun t u z e => by
  cases t <;> cases u <;> first | (cases e; done) | skip
  simp only [sem2, arith] at e
  split at e
  · rename_i hc; simp only [decide_eq_true_eq] at hc; cases e; exact ⟨_, _, rfl, rfl, hc, rfl⟩
  · cases e) fun i j => .inl ⟨_, rfl, rfl⟩
theorem two_pow : OpR X (binaryOp .Pow) (Two X cl .pow) := two_int (C := CPow) (γ := fun i j => .int (i ^ j.toNat)) op_pow (fun t u z e => by
  cases t <;> cases u <;> first | (cases e; done) | skip
  simp only [sem2, arith] at e
  split at e
  · rename_i hc; simp only [Bool.and_eq_true, decide_eq_true_eq] at hc; cases e; exact ⟨_, _, rfl, rfl, ⟨hc.1.1, hc.1.2, hc.2⟩, rfl⟩
  · cases e) fun i j => .inl ⟨_, rfl, rfl⟩
/-- an order -/
theorem two_ord {o : Bo} {f : Value → Value → Sem Value} {p : Int → Int → Bool} {q : Str → Str → Bool} (hi : OpR X f (rI0 fun i j => .bl (p i j)))
    (hq : OpR X f (fun x y H Q => ∃ i j, x = .str i ∧ y = .str j ∧ Q (.bl (q i j)) H))
    (only : ∀ t u z, sem2 o t u = some z → (∃ i j, t = .int i ∧ u = .int j ∧ z = .bl (p i j)) ∨ ∃ i j, t = .str i ∧ u = .str j ∧ z = .bl (q i j)) : OpR X f (Two X cl o) := by
  intro pins s σ H x y v u Q I rx ry ⟨xr, W, σ0, φ, h, t, t', z, hs, r1, r2, e, m⟩
  rcases only _ _ _ e with ⟨i, j, e1, e2, e3⟩ | ⟨i, j, e1, e2, e3⟩
  · subst e1; subst e2; subst e3
    cases r1; cases r2
    exact hi pins s σ H _ _ v u Q I rx ry ⟨i, j, rfl, rfl, nowBl m hs⟩
  · subst e1; subst e2; subst e3
    cases r1; cases r2
    exact hq pins s σ H _ _ v u Q I rx ry ⟨i, j, rfl, rfl, nowBl m hs⟩
theorem two_lt : OpR X (compareOp .Lt) (Two X cl .lt) := two_ord op_lt op_lt_str fun t u z e => by
  cases t <;> cases u <;> first | (cases e; done) | (cases e; exact .inl ⟨_, _, rfl, rfl, rfl⟩) | (cases e; exact .inr ⟨_, _, rfl, rfl, rfl⟩)
theorem two_le : OpR X (compareOp .LtE) (Two X cl .le) := two_ord op_le op_le_str fun t u z e => by
  cases t <;> cases u <;> first | (cases e; done) | (cases e; exact .inl ⟨_, _, rfl, rfl, rfl⟩) | (cases e; exact .inr ⟨_, _, rfl, rfl, rfl⟩)
theorem two_gt : OpR X (compareOp .Gt) (Two X cl .gt) := two_ord op_gt op_gt_str fun t u z e => by
  cases t <;> cases u <;> first | (cases e; done) | (cases e; exact .inl ⟨_, _, rfl, rfl, rfl⟩) | (cases e; exact .inr ⟨_, _, rfl, rfl, rfl⟩)
theorem two_ge : OpR X (compareOp .GtE) (Two X cl .ge) := two_ord op_ge op_ge_str fun t u z e => by
  cases t <;> cases u <;> first | (cases e; done) | (cases e; exact .inl ⟨_, _, rfl, rfl, rfl⟩) | (cases e; exact .inr ⟨_, _, rfl, rfl, rfl⟩)
/-- equality of data -/
theorem two_eq (hu : X.A.units + 64 < cLine) : OpR X (compareOp .Eq) (Two X cl .eq) := by
  intro pins s σ H x y v u Q I rx ry ⟨xr, W, σ0, φ, h, t, t', z, hs, r1, r2, e, m⟩
  simp only [sem2, Option.map_eq_some_iff] at e
  obtain ⟨k, e, ez⟩ := e
  subst ez
  unfold eq2 at e
  split at e
  · rename_i a b
    cases e
    have ex : x = .str a := r1
    have ey : y = .str b := r2
    subst ex; subst ey
    have q := nowBl m hs
    refine op_eq pins s σ H _ _ v u Q I rx ry ⟨rfl, ?_⟩
    have e2 : decide (V.str a = V.str b) = decide (a = b) := by simp
    rw [e2]; exact q
  · split at e
    · rename_i hc
      simp only [Bool.and_eq_true] at hc
      obtain ⟨d1, s1⟩ := shp_data hc.1
      obtain ⟨d2, s2⟩ := shp_data hc.2
      cases e
      exact op_eqD hu pins s σ H _ _ v u Q I rx ry ⟨_, _, Rp.dp d1 r1.d, Rp.dp d2 r2.d, s1, s2, nowBl m hs⟩
    · cases e
theorem two_ne (hu : X.A.units + 64 < cLine) : OpR X (compareOp .NotEq) (Two X cl .ne) := by
  intro pins s σ H x y v u Q I rx ry ⟨xr, W, σ0, φ, h, t, t', z, hs, r1, r2, e, m⟩
  simp only [sem2, Option.map_eq_some_iff] at e
  obtain ⟨k, e, ez⟩ := e
  subst ez
  unfold eq2 at e
  split at e
  · rename_i a b
    cases e
    have ex : x = .str a := r1
    have ey : y = .str b := r2
    subst ex; subst ey
    have q := nowBl m hs
    refine op_ne pins s σ H _ _ v u Q I rx ry ⟨rfl, ?_⟩
    have e2 : decide (V.str a = V.str b) = decide (a = b) := by simp
    simpa using q
  · split at e
    · rename_i hc
      simp only [Bool.and_eq_true] at hc
      obtain ⟨d1, s1⟩ := shp_data hc.1
      obtain ⟨d2, s2⟩ := shp_data hc.2
      cases e
      exact op_neD hu pins s σ H _ _ v u Q I rx ry ⟨_, _, Rp.dp d1 r1.d, Rp.dp d2 r2.d, s1, s2, nowBl m hs⟩
    · cases e
/-- is None -/
def isNon : T → Bool | .non => true | _ => false
theorem rp_non {φ : Phi} {H : Hp} {t : T} {v : V} (r : RpI cl φ H t v) : decide (v = .non) = isNon t := by
  cases t with
  | non => cases r; rfl
  | bl _ => cases r; rfl
  | int _ => cases r; rfl
  | str _ => cases r; rfl
  | tup _ => obtain ⟨a, _, e, _⟩ := r; subst e; rfl
  | lst _ => obtain ⟨a, _, e, _⟩ := r; subst e; rfl
  | dct _ _ => obtain ⟨a, _, e, _⟩ := r; subst e; rfl
  | obj _ _ _ => obtain ⟨a, _, _, _, e, _⟩ := r; subst e; rfl
theorem two_is : OpR X (compareOp .Is) (Two X cl .is) := by
  intro pins s σ H x y v u Q I rx ry ⟨xr, W, σ0, φ, h, t, t', z, hs, r1, r2, e, m⟩
  have e2 : t' = .non ∨ ∃ a b, t = .bl a ∧ t' = .bl b := by cases t' <;> cases t <;> first | exact .inl rfl | exact .inr ⟨_, _, rfl, rfl⟩ | (cases e; done)
  rcases e2 with e2 | ⟨a, b, e2, e3⟩
  · subst e2
    cases r2
    refine op_isN pins s σ H _ _ v u Q I rx ry ⟨rfl, ?_⟩
    rw [rp_non r1]
    have ez : z = .bl (isNon t) := by cases t <;> cases e <;> rfl
    rw [ez] at m
    exact nowBl m hs
  · subst e2; subst e3
    cases r1; cases r2; cases e
    exact op_isBl pins s σ H _ _ v u Q I rx ry ⟨a, b, rfl, rfl, nowBl m hs⟩
theorem two_isnot : OpR X (compareOp .IsNot) (Two X cl .isnot) := by
  intro pins s σ H x y v u Q I rx ry ⟨xr, W, σ0, φ, h, t, t', z, hs, r1, r2, e, m⟩
  have e2 : t' = .non ∨ ∃ a b, t = .bl a ∧ t' = .bl b := by cases t' <;> cases t <;> first | exact .inl rfl | exact .inr ⟨_, _, rfl, rfl⟩ | (cases e; done)
  rcases e2 with e2 | ⟨a, b, e2, e3⟩
  · subst e2
    cases r2
    refine op_notN pins s σ H _ _ v u Q I rx ry ⟨rfl, ?_⟩
    rw [rp_non r1]
    have ez : z = .bl (!isNon t) := by cases t <;> cases e <;> rfl
    rw [ez] at m
    exact nowBl m hs
  · subst e2; subst e3
    cases r1; cases r2; cases e
    exact op_notBl pins s σ H _ _ v u Q I rx ry ⟨a, b, rfl, rfl, nowBl m hs⟩
/-! ### in -/
theorem any_py (d : PyData) : ∀ ys : List T, ((pys ys).any fun z => PyData.eqv z d) = ys.any fun y => PyData.eqv y.py d
  | [] => rfl
  | y :: ys => by simp only [pys, List.any_cons, any_py d ys]
theorem key_of {t : T} {k : Key} (h : keyOf t = some k) : t = keyT k := by
  cases t <;> first | (cases h; done) | (cases h; rfl)
theorem keyOf_keyT (k : Key) : keyOf (keyT k) = some k := by cases k <;> rfl
theorem getD_val {φ : Phi} {H : Hp} {ok : Al} (k : Key) : ∀ {kvs : List (Key × V)} {us : List T}, Rps cl ok H us (kvs.map (·.2)) →
    (∀ t, getD k (kvs.map fun p => keyT p.1) us = some t → ∃ v, valV kvs k = some v ∧ Rp cl ok H t v) ∧ (getD k (kvs.map fun p => keyT p.1) us = none → valV kvs k = none)
  | [], us, h => by
    have := h.length
    simp at this
    subst this
    exact ⟨fun t e => by simp [getD] at e, fun _ => rfl⟩
  | (a, v) :: kvs, us, h => by
    cases us with
    | nil => have := h.length; simp at this
    | cons t us =>
      obtain ⟨v', r, e, p, q⟩ := h.inv
      simp only [List.map_cons, List.cons.injEq] at e
      obtain ⟨e1, e2⟩ := e
      subst e1; subst e2
      have ih := getD_val (φ := φ) k q
      simp only [List.map_cons, getD, keyOf_keyT, Option.some.injEq]
      unfold valV at ih ⊢
      by_cases ha : a = k
      · simp only [ha, if_true, List.find?_cons, decide_true, Option.map_some]
        exact ⟨fun t' e => by cases e; exact ⟨_, rfl, p⟩, fun e => by cases e⟩
      · simp only [ha, if_false, List.find?_cons, decide_false]
        exact ih
theorem getD_some {φ : Phi} {H : Hp} {ok : Al} {k : Key} {kvs : List (Key × V)} {us : List T} (h : Rps cl ok H us (kvs.map (·.2))) : (valV kvs k).isSome = (getD k (kvs.map fun p => keyT p.1) us).isSome := by
  obtain ⟨a, b⟩ := getD_val (φ := φ) k h
  cases e : getD k (kvs.map fun p => keyT p.1) us with
  | none => rw [b e]; rfl
  | some t => obtain ⟨v, e', _⟩ := a t e; rw [e']; rfl
theorem key_v {φ : Phi} {H : Hp} {t : T} {v : V} {k : Key} (r : RpI cl φ H t v) (h : keyOf t = some k) : v = kV k := by
  cases t <;> first | (cases h; done) | (cases h; exact r)
theorem two_in (hu : X.A.units + 65 < cLine) : OpR X (compareOp .In) (Two X cl .inn) := by
  intro pins s σ H x y v u Q I rx ry ⟨xr, W, σ0, φ, h, t, t', z, hs, r1, r2, e, m⟩
  simp only [sem2] at e
  cases t' with
  | non | bl _ | int _ | obj _ _ _ => cases e
  | str z' =>
    cases t <;> first | (cases e; done) | skip
    cases e; cases r1; cases r2
    exact op_in_str pins s σ H _ _ v u Q I rx ry ⟨_, _, rfl, rfl, nowBl m hs⟩
  | lst ys =>
    simp only [membT] at e
    split at e
    · rename_i hc
      simp only [Bool.and_eq_true] at hc
      obtain ⟨d1, s1⟩ := shp_data hc.1
      obtain ⟨d2, s2⟩ := shp_data hc.2
      cases e
      refine op_inD hu pins s σ H _ _ v u Q I rx ry ⟨_, pys ys, Rp.dp d1 r1.d, Rp.dp d2 r2.d, s1, s2, ?_⟩
      rw [any_py]
      exact nowBl m hs
    · cases e
  | tup ys =>
    simp only [membT] at e
    split at e
    · rename_i hc
      simp only [Bool.and_eq_true] at hc
      obtain ⟨d1, s1⟩ := shp_data hc.1
      obtain ⟨d2, s2⟩ := shp_data hc.2
      cases e
      obtain ⟨as, q1⟩ := Dp.reads I _ x v (Rp.dp d1 r1.d) rx
      obtain ⟨bs, q2⟩ := Dp.reads I _ y u (Rp.dp d2 r2.d) ry
      refine SeqAt.in_tuple_reads q2 q1 (SeqAt.canLay_of_shaped s2) (SeqAt.canLay_of_shaped s1) (room_in_shaped s1 hu) ⟨.bl _, H, I, rfl, ?_⟩
      rw [any_py]
      exact nowBl m hs
    · cases e
  | dct ks us =>
    simp only [membT] at e
    cases ek : keyOf t with
    | none => rw [ek] at e; cases e
    | some k =>
      rw [ek] at e
      cases e
      have ev := key_v r1 ek
      subst ev
      obtain ⟨a, kvs, e2, rd, ek2, q⟩ := r2
      subst e2; subst ek2
      cases ry
      refine d_in (by omega) I (a := a) (o := valV kvs k) (.inl ⟨kvs, k, rd.rd, rfl, rfl⟩) rx fun s3 I3 => ⟨.bl _, H, I3, rfl, ?_⟩
      rw [getD_some (φ := φ) q]
      exact nowBl m hs
theorem two_notin (hu : X.A.units + 65 < cLine) : OpR X (compareOp .NotIn) (Two X cl .notin) := by
  intro pins s σ H x y v u Q I rx ry ⟨xr, W, σ0, φ, h, t, t', z, hs, r1, r2, e, m⟩
  simp only [sem2] at e
  cases t' with
  | non | bl _ | int _ | obj _ _ _ => cases e
  | str z' =>
    cases t <;> first | (cases e; done) | skip
    cases e; cases r1; cases r2
    exact op_notin_str pins s σ H _ _ v u Q I rx ry ⟨_, _, rfl, rfl, nowBl m hs⟩
  | lst ys =>
    simp only [membT] at e
    split at e
    · rename_i hc
      simp only [Bool.and_eq_true] at hc
      obtain ⟨d1, s1⟩ := shp_data hc.1
      obtain ⟨d2, s2⟩ := shp_data hc.2
      cases e
      refine op_notInD hu pins s σ H _ _ v u Q I rx ry ⟨_, pys ys, Rp.dp d1 r1.d, Rp.dp d2 r2.d, s1, s2, ?_⟩
      rw [any_py]
      exact nowBl m hs
    · cases e
  | tup ys =>
    simp only [membT] at e
    split at e
    · rename_i hc
      simp only [Bool.and_eq_true] at hc
      obtain ⟨d1, s1⟩ := shp_data hc.1
      obtain ⟨d2, s2⟩ := shp_data hc.2
      cases e
      obtain ⟨as, q1⟩ := Dp.reads I _ x v (Rp.dp d1 r1.d) rx
      obtain ⟨bs, q2⟩ := Dp.reads I _ y u (Rp.dp d2 r2.d) ry
      refine SeqAt.notIn_tuple_reads q2 q1 (SeqAt.canLay_of_shaped s2) (SeqAt.canLay_of_shaped s1) (room_in_shaped s1 hu) ⟨.bl _, H, I, rfl, ?_⟩
      rw [any_py]
      exact nowBl m hs
    · cases e
  | dct ks us =>
    simp only [membT] at e
    cases ek : keyOf t with
    | none => rw [ek] at e; cases e
    | some k =>
      rw [ek] at e
      cases e
      have ev := key_v r1 ek
      subst ev
      obtain ⟨a, kvs, e2, rd, ek2, q⟩ := r2
      subst e2; subst ek2
      cases ry
      refine d_notIn (by omega) I (a := a) (o := valV kvs k) (.inl ⟨kvs, k, rd.rd, rfl, rfl⟩) rx fun s3 I3 => ⟨.bl _, H, I3, rfl, ?_⟩
      rw [getD_some (φ := φ) q]
      exact nowBl m hs
/-! ### subscripts -/
theorem two_idx (hu : X.A.units + 65 < cLine) : IxR X (Two X cl .idx) := by
  intro value slice pins s σ H x y v u Q I rx ry ⟨xr, W, σ0, φ, h, t, t', z, hs, r1, r2, e, m⟩ hsub
  cases t with
  | non | bl _ | int _ | obj _ _ _ => cases t' <;> cases e
  | lst xs =>
    cases t' <;> first | (cases e; done) | skip
    obtain ⟨a, vs, e1, rd, q⟩ := r1
    subst e1
    cases r2
    simp only [sem2] at e
    obtain ⟨w, e', p⟩ := q.atI e
    exact ix_list value slice pins s σ H _ _ v u Q I rx ry ⟨a, vs, _, w, rfl, rfl, .inl rd.rd, e', now m hs p⟩ hsub
  | tup xs =>
    cases t' <;> first | (cases e; done) | skip
    obtain ⟨a, vs, e1, _, rd, q⟩ := r1
    subst e1
    cases r2
    simp only [sem2] at e
    obtain ⟨w, e', p⟩ := q.atI e
    exact ix_tup value slice pins s σ H _ _ v u Q I rx ry ⟨a, vs, _, w, rfl, rfl, .inl rd.rd, e', now m hs p⟩ hsub
  | str z' =>
    cases t' <;> first | (cases e; done) | skip
    cases r1; cases r2
    simp only [sem2] at e
    split at e
    · rename_i hl
      cases e2 : L2.atI z'.cps.toList _ with
      | none => rw [e2] at e; cases e
      | some c =>
        rw [e2] at e
        cases e
        exact ix_str value slice pins s σ H _ _ v u Q I rx ry ⟨_, _, c, rfl, rfl, lim_le hl, e2, nowStr m hs⟩ hsub
    · cases e
  | dct ks us =>
    have e : ((keyOf t').bind fun k => getD k ks us) = some z := by cases t' <;> exact e
    cases ek : keyOf t' with
    | none => rw [ek] at e; cases e
    | some k =>
      rw [ek] at e
      have ev := key_v r2 ek
      subst ev
      obtain ⟨a, kvs, e2, rd, ek2, q⟩ := r1
      subst e2; subst ek2
      cases rx
      obtain ⟨w, e', p⟩ := (getD_val (φ := φ) k q).1 _ e
      have g : DGet H a (kV k) (some w) := .inl ⟨kvs, k, rd.rd, rfl, e'.symm⟩
      exact tail_any (dict_typeIs I g) PySem.F.slot_dict_getitem.lookup (d_getItem (by omega) I g ry fun w' s3 I3 rw' => ⟨w, H, I3, rw', now m hs p⟩) hsub
end
end My

/-! MiniPy: built-ins of one argument are right. -/
namespace My
open PySem L2 PyProof.Rows
/-- one argument's rule -/
abbrev rOne (X : Cx) (cl : Cl) (sub : Nat → Nat → Bool) (o : U) : List V → Hp → VK → Prop := fun vs H Q => ∃ x, vs = [x] ∧ One X cl sub o x H Q
theorem Rps.strs {cl : Cl} {ok : Al} {H : Hp} : ∀ {xs : List T} {vs : List V} {ss : List Str}, Rps cl ok H xs vs → strsOf xs = some ss → vs = ss.map V.str
  | [], _, _, h, e => by
    have h := h.inv0
    subst h
    simp [strsOf] at e
    subst e
    rfl
  | x :: xs, _, ss, h, e => by
    obtain ⟨v, r, rfl, p, q⟩ := h.inv
    cases x <;> first | (simp [strsOf] at e; done) | skip
    rename_i y
    simp only [strsOf] at e
    cases e2 : strsOf xs with
    | none => rw [e2] at e; simp at e
    | some ss' =>
      rw [e2] at e
      simp at e
      subst e
      rw [Rp] at p
      subst p
      rw [Rps.strs q e2]
      rfl
theorem Rps.ofStrs {cl : Cl} {ok : Al} {H : Hp} : ∀ (ss : List Str), Rps cl ok H (ss.map T.str) (ss.map V.str)
  | [] => .nil
  | s :: ss => .cons (by rw [Rp]) (Rps.ofStrs ss)
theorem Rps.ints {cl : Cl} {ok : Al} {H : Hp} : ∀ {xs : List T} {vs : List V} {ss : List Int}, Rps cl ok H xs vs → intsOf xs = some ss → vs = ss.map V.int
  | [], _, _, h, e => by
    have h := h.inv0
    subst h
    simp [intsOf] at e
    subst e
    rfl
  | x :: xs, _, ss, h, e => by
    obtain ⟨v, r, rfl, p, q⟩ := h.inv
    cases x <;> first | (simp [intsOf] at e; done) | skip
    rename_i y
    simp only [intsOf] at e
    cases e2 : intsOf xs with
    | none => rw [e2] at e; simp at e
    | some ss' =>
      rw [e2] at e
      simp at e
      subst e
      rw [Rp] at p
      subst p
      rw [Rps.ints q e2]
      rfl
theorem Rps.bls {cl : Cl} {ok : Al} {H : Hp} : ∀ {xs : List T} {vs : List V} {ss : List Bool}, Rps cl ok H xs vs → blsOf xs = some ss → vs = ss.map V.bl
  | [], _, _, h, e => by
    have h := h.inv0
    subst h
    simp [blsOf] at e
    subst e
    rfl
  | x :: xs, _, ss, h, e => by
    obtain ⟨v, r, rfl, p, q⟩ := h.inv
    cases x <;> first | (simp [blsOf] at e; done) | skip
    rename_i y
    simp only [blsOf] at e
    cases e2 : blsOf xs with
    | none => rw [e2] at e; simp at e
    | some ss' =>
      rw [e2] at e
      simp at e
      subst e
      rw [Rp] at p
      subst p
      rw [Rps.bls q e2]
      rfl
/-! ### sorting of texts -/
theorem str_ext {x y : Str} (h : x.cps.toList = y.cps.toList) : x = y := by
  cases x; cases y
  simp only [Str.mk.injEq]
  exact Array.ext' h
def leS (x y : Str) : Prop := ¬ y.cps.toList < x.cps.toList
theorem leS_trans {x y z : Str} (a : leS x y) (b : leS y z) : leS x z := List.not_lt.mpr (List.le_trans (List.not_lt.mp a) (List.not_lt.mp b))
theorem leS_anti {x y : Str} (a : leS x y) (b : leS y x) : x = y := str_ext (List.le_antisymm (List.not_lt.mp a) (List.not_lt.mp b))
theorem rising_pw : ∀ (l : List Str) (p : Str), risingS p l = true → (p :: l).Pairwise leS
  | [], p, _ => by simp
  | x :: r, p, h => by
    simp only [risingS, Bool.and_eq_true, Bool.not_eq_true', ltCps_eq, decide_eq_false_iff_not] at h
    have ih := rising_pw r x h.2
    refine List.pairwise_cons.mpr ⟨fun y hy => ?_, ih⟩
    rcases List.mem_cons.mp hy with e | hy
    · subst e; exact h.1
    · exact leS_trans h.1 ((List.pairwise_cons.mp ih).1 y hy)
theorem sorted_pw : ∀ (l : List Str), sortedS l = true → l.Pairwise leS
  | [], _ => by simp
  | x :: r, h => rising_pw r x h
theorem insS_mem {x z : Str} : ∀ {ys : List Str}, z ∈ insS x ys → z = x ∨ z ∈ ys
  | [], h => by simp [insS] at h; exact .inl h
  | y :: ys, h => by
    unfold insS at h
    split at h
    · rcases List.mem_cons.mp h with h | h
      · exact .inr (h ▸ List.mem_cons_self)
      · exact (insS_mem h).imp id fun q => List.mem_cons_of_mem _ q
    · rcases List.mem_cons.mp h with h | h
      · exact .inl h
      · exact .inr h
theorem insS_pw {x : Str} : ∀ {ys : List Str}, ys.Pairwise leS → (insS x ys).Pairwise leS
  | [], _ => by simp [insS]
  | y :: ys, h => by
    obtain ⟨h1, h2⟩ := List.pairwise_cons.mp h
    unfold insS
    split
    · rename_i c
      have c' : y.cps.toList < x.cps.toList := of_decide_eq_true c
      refine List.pairwise_cons.mpr ⟨fun z hz => ?_, insS_pw h2⟩
      rcases insS_mem hz with e | hz
      · subst e; exact List.lt_asymm c'
      · exact h1 z hz
    · rename_i c
      have c' : leS x y := fun q => c (decide_eq_true q)
      refine List.pairwise_cons.mpr ⟨fun z hz => ?_, h⟩
      rcases List.mem_cons.mp hz with e | hz
      · subst e; exact c'
      · exact leS_trans c' (h1 z hz)
theorem insS_perm {x : Str} : ∀ {ys : List Str}, (insS x ys).Perm (x :: ys)
  | [] => .refl _
  | y :: ys => by
    unfold insS
    split
    · exact (insS_perm.cons y).trans (.swap x y ys)
    · exact .refl _
theorem sortS_pw : ∀ xs : List Str, (sortS xs).Pairwise leS
  | [] => by simp [sortS]
  | x :: xs => insS_pw (sortS_pw xs)
theorem sortS_perm : ∀ xs : List Str, (sortS xs).Perm xs
  | [] => .refl _
  | x :: xs => insS_perm.trans ((sortS_perm xs).cons x)
theorem sortS_eq {xs ys : List Str} (p : ys.Perm xs) (h : sortedS ys = true) : ys = sortS xs :=
  List.Perm.eq_of_pairwise (fun _ _ _ _ a b => leS_anti a b) (sorted_pw ys h) (sortS_pw xs) (p.trans (sortS_perm xs).symm)

/-! ### texts of data -/
section
variable {X : Cx} {cl : Cl} {pins : List (Addr × Obj)} {σ : L2.St} {H : Hp} {s : Shared}
mutual
theorem reads0 {ok : Al} (I : Inv X pins σ H s) : ∀ {t : T} {v : V} {u : Value}, t.nolst = true → Rp cl ok H t v → RelV v u → Reads s.heap u t.py []
  | .non, _, _, _, h, r => by rw [Rp] at h; subst h; cases r; exact .none
  | .bl b, _, _, _, h, r => by rw [Rp] at h; subst h; cases r; exact .bool b
  | .int i, _, _, _, h, r => by rw [Rp] at h; subst h; obtain ⟨t, rfl⟩ := r; exact .int i t
  | .str x, _, _, _, h, r => by rw [Rp] at h; subst h; obtain ⟨t, rfl⟩ := r; exact .str x t
  | .tup xs, _, _, d, h, r => by
    rw [Rp] at h
    obtain ⟨a, vs, e, _, rd, q⟩ := h
    subst e
    cases r
    obtain ⟨its, rv, ⟨o, ho, hc, n, hd⟩, _⟩ := I.tuple (.inl rd.rd)
    exact .tuple ho hc hd (reads0s I (by simpa [T.nolst] using d) q rv)
  | .lst _, _, _, d, _, _ | .dct _ _, _, _, d, _, _ | .obj _ _ _, _, _, d, _, _ => by simp [T.nolst] at d
theorem reads0s {ok : Al} (I : Inv X pins σ H s) : ∀ {xs : List T} {vs : List V} {us : List Value}, nolsts xs = true → Rps cl ok H xs vs → Vals vs us → ReadsAll s.heap us (pys xs) []
  | [], _, _, _, h, r => by have h := h.inv0; subst h; cases r; exact .nil
  | x :: xs, _, _, d, h, r => by
    obtain ⟨v, vr, e, p, q⟩ := h.inv
    subst e
    cases r with
    | cons r1 r2 =>
      simp only [nolsts, Bool.and_eq_true] at d
      exact ReadsAll.cons (as := []) (bs := []) (reads0 I d.1 p r1) (reads0s I d.2 q r2)
end
theorem pys_length : ∀ xs : List T, (pys xs).length = xs.length
  | [] => rfl
  | x :: xs => by simp [pys, pys_length xs]
theorem reads_dct {φ : Phi} {ks us : List T} {v : V} {u : Value} (I : Inv X pins σ H s) (d : nolsts us = true) (h : RpI cl φ H (.dct ks us) v) (r : RelV v u) :
    ∃ a, u = .ref a ∧ Reads s.heap u (T.dct ks us).py [a] ∧ (a == sysModules) = false := by
  obtain ⟨a, kvs, e, rd, ek, q⟩ := h
  subst e
  cases r
  obtain ⟨_, hsys, vs, hkv, o, es, ep, ho, hx, hdat, _, hp, _⟩ := L2.dk_rd I.hok rd.rd
  refine ⟨a, rfl, ?_, hsys⟩
  have go : ∀ (us : List T) (kvs : List (Key × V)) (vs : List (Key × Value)) (es : List DictEntry), nolsts us = true → Rps cl (Off φ) H us (kvs.map (·.2)) → KV kvs vs → Pairs (mixKind X.prog X.w) es vs →
      ReadsAll s.heap (es.map (·.key)) ((List.zip (pys (kvs.map fun p => keyT p.1)) (pys us)).map (·.1)) [] ∧ ReadsAll s.heap (es.map (·.val)) ((List.zip (pys (kvs.map fun p => keyT p.1)) (pys us)).map (·.2)) [] := by
    intro us kvs
    induction kvs generalizing us with
    | nil =>
      intro vs es _ q k p
      have := q.length
      simp at this
      subst this
      cases k; cases p
      exact ⟨.nil, .nil⟩
    | cons kv kvs ih =>
      intro vs es d q k p
      cases us with
      | nil => have := q.length; simp at this
      | cons t us =>
        obtain ⟨v', r', e', p1, q1⟩ := q.inv
        simp only [List.map_cons, List.cons.injEq] at e'
        obtain ⟨e1, e2⟩ := e'
        subst e1; subst e2
        simp only [nolsts, Bool.and_eq_true] at d
        cases k with
        | cons k1 k2 =>
          cases p with
          | cons p1' p2' p3 =>
            obtain ⟨i1, i2⟩ := ih us _ _ d.2 q1 k2 p3
            simp only [List.map_cons, pys, List.zip_cons_cons]
            refine ⟨ReadsAll.cons (as := []) (bs := []) ?_ i1, ReadsAll.cons (as := []) (bs := []) ?_ i2⟩
            · obtain ⟨k1a, _⟩ := k1
              rw [k1a]
              rcases keyIs_shape p1' with ⟨i, t', e3, e4⟩ | ⟨x, t', e3, e4⟩
              · rw [e3, e4]; exact .int _ _
              · rw [e3, e4]; exact .str _ _
            · rw [p2']
              exact reads0 I d.1 p1 k1.2
  obtain ⟨g1, g2⟩ := go us kvs vs es.toList d q hkv hp
  subst ek
  exact Reads.dict (as := []) (bs := []) ho hx.1 hdat g1 g2
end

theorem rp_key {cl : Cl} {ok : Al} {H : Hp} (k : Key) : Rp cl ok H (keyT k) (kV k) := by
  cases k with
  | inl i => show Rp cl ok H (.int i) _; rw [Rp]; rfl
  | inr x => show Rp cl ok H (.str x) _; rw [Rp]; rfl
mutual
theorem hasDict_py : ∀ {t : T}, t.data = true → t.py.hasDict = false
  | .non, _ | .bl _, _ | .int _, _ | .str _, _ => rfl
  | .tup xs, d => by simp only [T.py, PyData.hasDict]; exact hasDict_pys (by simpa [T.data] using d)
  | .lst xs, d => by simp only [T.py, PyData.hasDict]; exact hasDict_pys (by simpa [T.data] using d)
  | .dct _ _, d | .obj _ _ _, d => by simp [T.data] at d
theorem hasDict_pys : ∀ {xs : List T}, datas xs = true → PyData.hasDictAll (pys xs) = false
  | [], _ => rfl
  | x :: xs, d => by
    simp only [datas, Bool.and_eq_true] at d
    simp only [pys, PyData.hasDictAll, hasDict_py d.1, hasDict_pys d.2, Bool.or_self]
end
section
variable {X : Cx} {cl : Cl} {sub : Nat → Nat → Bool}
theorem one_neg : UnR X (unaryOp .USub) (One X cl sub .neg) := by
  intro pins s σ H x v Q I rx ⟨xr, W, σ0, φ, h, t, z, hs, r, e, m⟩
  cases t <;> first | (cases e; done) | skip
  cases e; cases r
  exact un_neg pins s σ H _ v Q I rx ⟨_, rfl, nowInt m hs⟩
theorem one_len : CallR X (.builtin "len") (rOne X cl sub .len) := by
  intro pins s σ H xs us Q I r ⟨x, ex, xr, W, σ0, φ, h, t, z, hs, rt, e, m⟩
  subst ex
  cases t with
  | non | bl _ | int _ | obj _ _ _ => cases e
  | str y =>
    simp only [sem1] at e
    split at e
    · rename_i hl
      cases e; cases rt
      exact call_len pins s σ H _ us Q I r ⟨_, y.length, rfl, ⟨lim_le hl, rfl⟩, nowInt m hs⟩
    · cases e
  | tup ys =>
    cases e
    obtain ⟨a, vs, e1, _, rd, q⟩ := rt
    subst e1
    refine call_len pins s σ H _ us Q I r ⟨_, vs.length, rfl, .inr ⟨vs, .inl rd.rd, rfl⟩, ?_⟩
    rw [← q.length]
    exact nowInt m hs
  | lst ys =>
    cases e
    obtain ⟨a, vs, e1, rd, q⟩ := rt
    subst e1
    refine call_len pins s σ H _ us Q I r ⟨_, vs.length, rfl, .inl ⟨vs, .inl rd.rd, rfl⟩, ?_⟩
    rw [← q.length]
    exact nowInt m hs
  | dct ks ys =>
    cases e
    obtain ⟨a, kvs, e1, rd, ek, q⟩ := rt
    subst e1; subst ek
    obtain ⟨u, eu, ru⟩ := vals1 r
    subst eu
    cases ru
    refine d_len I rd.rd fun t s' I' => ⟨.int kvs.length, H, I', ⟨t, rfl⟩, ?_⟩
    have q' := nowInt m hs
    simpa using q'
theorem one_list (hc : X.calm = true) : CallR X (.type "list") (rOne X cl sub .list) := by
  intro pins s σ H xs us Q I r ⟨x, ex, xr, W, σ0, φ, h, t, z, hs, rt, e, m⟩
  subst ex
  cases t with
  | non | bl _ | int _ | obj _ _ _ => cases e
  | str y =>
    simp only [sem1] at e
    split at e
    · rename_i hl
      cases e; cases rt
      refine call_list_text hc pins s σ H _ us Q I r ⟨y, rfl, lim_le hl, newLst m hs ?_⟩
      have go : ∀ l : List Nat, Rps cl (Off φ) H (l.map fun c => T.str ⟨#[c]⟩) (l.map fun c => V.str ⟨#[c]⟩) := fun l => by
        induction l with
        | nil => exact .nil
        | cons c l ih => exact .cons rfl ih
      exact go _
    · cases e
  | tup ys =>
    cases e
    obtain ⟨a, vs, e1, _, rd, q⟩ := rt
    subst e1
    exact call_list_of pins s σ H _ us Q I r ⟨a, vs, rfl, .inr (.inl rd.rd), newLst m hs q⟩
  | lst ys =>
    cases e
    obtain ⟨a, vs, e1, rd, q⟩ := rt
    subst e1
    exact call_list_of pins s σ H _ us Q I r ⟨a, vs, rfl, .inl (.inl rd.rd), newLst m hs q⟩
  | dct ks ys =>
    cases e
    obtain ⟨a, kvs, e1, rd, ek, q⟩ := rt
    subst e1; subst ek
    refine call_listD hc pins s σ H _ us Q I r ⟨a, kvs, rfl, rd.rd, newLst m hs ?_⟩
    have go : ∀ l : List (Key × V), Rps cl (Off φ) H (l.map fun p => keyT p.1) (l.map fun kv => kV kv.1) := fun l => by
      induction l with
      | nil => exact .nil
      | cons p l ih => exact .cons (by obtain ⟨k, v⟩ := p; cases k <;> exact rp_key _) ih
    exact go kvs
theorem one_tuple : CallR X (.type "tuple") (rOne X cl sub .tuple) := by
  intro pins s σ H xs us Q I r ⟨x, ex, xr, W, σ0, φ, h, t, z, hs, rt, e, m⟩
  subst ex
  cases t with
  | non | bl _ | int _ | obj _ _ _ | str _ | dct _ _ => cases e
  | tup ys =>
    cases e
    obtain ⟨a, vs, e1, o1, rd, q⟩ := rt
    subst e1
    exact call_tuple_of pins s σ H _ us Q I r ⟨a, vs, rfl, .inr ⟨.inl rd.rd, now m hs (by rw [RpF, Rp]; exact ⟨a, vs, rfl, o1, rd, q⟩)⟩⟩
  | lst ys =>
    cases e
    obtain ⟨a, vs, e1, rd, q⟩ := rt
    subst e1
    exact call_tuple_of pins s σ H _ us Q I r ⟨a, vs, rfl, .inl ⟨.inl rd.rd, newTup m hs q⟩⟩
theorem one_sorted : CallR X (.builtin "sorted") (rOne X cl sub .sorted) := by
  intro pins s σ H xs us Q I r ⟨x, ex, xr, W, σ0, φ, h, t, z, hs, rt, e, m⟩
  subst ex
  cases t <;> first | (cases e; done) | skip
  rename_i ys
  simp only [sem1] at e
  cases e2 : strsOf ys with
  | none => rw [e2] at e; cases e
  | some ss =>
    rw [e2] at e
    dsimp only at e
    split at e
    · rename_i hl
      cases e
      obtain ⟨a, vs, e1, rd, q⟩ := rt
      subst e1
      have hv := q.strs e2
      subst hv
      refine cr_sortedS pins s σ H _ us Q I r ⟨a, ss, rfl, .inl rd.rd, hl, fun ys p pm so n => ?_⟩
      rw [sortS_eq pm so]
      exact newLst m hs (Rps.ofStrs _) p n
    · cases e
theorem one_sum (hc : X.calm = true) : CallR X (.builtin "sum") (rOne X cl sub .sum) := by
  intro pins s σ H xs us Q I r ⟨x, ex, xr, W, σ0, φ, h, t, z, hs, rt, e, m⟩
  subst ex
  cases t <;> first | (cases e; done) | skip
  rename_i ys
  simp only [sem1] at e
  cases e2 : intsOf ys with
  | none => rw [e2] at e; cases e
  | some ss =>
    rw [e2] at e
    cases e
    obtain ⟨a, vs, e1, rd, q⟩ := rt
    subst e1
    have hv := q.ints e2
    subst hv
    exact cr_sum hc pins s σ H _ us Q I r ⟨a, ss, rfl, .inl rd.rd, nowInt m hs⟩
theorem one_all (hc : X.calm = true) : CallR X (.builtin "all") (rOne X cl sub .all) := by
  intro pins s σ H xs us Q I r ⟨x, ex, xr, W, σ0, φ, h, t, z, hs, rt, e, m⟩
  subst ex
  cases t <;> first | (cases e; done) | skip
  rename_i ys
  simp only [sem1] at e
  cases e2 : blsOf ys with
  | none => rw [e2] at e; cases e
  | some ss =>
    rw [e2] at e
    cases e
    obtain ⟨a, vs, e1, rd, q⟩ := rt
    subst e1
    have hv := q.bls e2
    subst hv
    exact cr_all hc pins s σ H _ us Q I r ⟨a, ss, rfl, .inl rd.rd, nowBl m hs⟩
theorem one_any (hc : X.calm = true) : CallR X (.builtin "any") (rOne X cl sub .any) := by
  intro pins s σ H xs us Q I r ⟨x, ex, xr, W, σ0, φ, h, t, z, hs, rt, e, m⟩
  subst ex
  cases t <;> first | (cases e; done) | skip
  rename_i ys
  simp only [sem1] at e
  cases e2 : blsOf ys with
  | none => rw [e2] at e; cases e
  | some ss =>
    rw [e2] at e
    cases e
    obtain ⟨a, vs, e1, rd, q⟩ := rt
    subst e1
    have hv := q.bls e2
    subst hv
    exact cr_any hc pins s σ H _ us Q I r ⟨a, ss, rfl, .inl rd.rd, nowBl m hs⟩
theorem one_int : CallR X (.type "int") (rOne X cl sub .int) := by
  intro pins s σ H xs us Q I r ⟨x, ex, xr, W, σ0, φ, h, t, z, hs, rt, e, m⟩
  subst ex
  cases t <;> first | (cases e; done) | skip
  · cases e; cases rt
    exact call_int1 pins s σ H _ us Q I r (.inr ⟨_, rfl, nowInt m hs⟩)
  · cases e; cases rt
    exact call_int1 pins s σ H _ us Q I r (.inl ⟨_, rfl, nowInt m hs⟩)
theorem one_abs : CallR X (.builtin "abs") (rOne X cl sub .abs) := by
  intro pins s σ H xs us Q I r ⟨x, ex, xr, W, σ0, φ, h, t, z, hs, rt, e, m⟩
  subst ex
  cases t <;> first | (cases e; done) | skip
  cases e; cases rt
  exact call_abs pins s σ H _ us Q I r ⟨_, rfl, nowInt m hs⟩
theorem one_str : CallR X (.type "str") (rOne X cl sub .str) := by
  intro pins s σ H xs us Q I r ⟨x, ex, xr, W, σ0, φ, h, t, z, hs, rt, e, m⟩
  subst ex
  cases t <;> first | (cases e; done) | skip
  · simp only [sem1] at e
    split at e
    · rename_i hl
      cases e; cases rt
      exact call_str_int pins s σ H _ us Q I r ⟨_, rfl, hl, nowStr m hs⟩
    · cases e
  · cases e; cases rt
    exact SkE.call_str_str pins s σ H _ us Q I r ⟨_, rfl, nowStr m hs⟩

/-! ### repr -/
theorem one_repr (hg : X.A.guards = some []) (hu : X.A.units + 70 < cLine) : CallR X (.builtin "repr") (rOne X cl sub .repr) := by
  intro pins s σ H xs us Q I r ⟨x, ex, xr, W, σ0, φ, h, t, z, hs, rt, e, m⟩
  subst ex
  obtain ⟨u, eu, ru⟩ := vals1 r
  subst eu
  have fin : ∀ (str : Str) (h' : Heap) (tk tok : Nat), (∀ b o, s.heap.get? b = some o → h'.get? b = some o) → Q (.str str) H → EP X pins σ Q (.str str tk) { s with heap := h', toks := tok } := fun str h' tk tok k q =>
    ⟨.str str, H, I.kept (t' := tok) k, ⟨tk, rfl⟩, q⟩
  have atom : ∀ {t : T}, sem1 sub .repr t = some z → (∀ ks vs, t ≠ .dct ks vs) → t.data = true ∧ t.py.showable = true ∧ t.py.shown.length ≤ sizeLine ∧ t.py.depth ≤ 64 ∧ z = .str t.py.shown := fun {t} e hn => by
    have e' : (if t.data && t.py.showable && lim t.py.shown.length && decide (t.py.depth ≤ 64) then some (T.str t.py.shown) else none) = some z := by
      cases t <;> first | exact e | exact absurd rfl (hn _ _)
    split at e'
    · rename_i hc
      simp only [Bool.and_eq_true, decide_eq_true_eq] at hc
      cases e'
      exact ⟨hc.1.1.1, hc.1.1.2, lim_le hc.1.2, hc.2, rfl⟩
    · cases e'
  cases t with
  | non =>
    obtain ⟨_, _, hz, _, ez⟩ := atom e fun _ _ q => nomatch q
    subst ez; cases rt; cases ru
    exact PySem.P.repr_of_none (fin _ _ _ _ (fun _ _ q => q) (nowStr m hs))
  | bl b =>
    obtain ⟨_, _, hz, _, ez⟩ := atom e fun _ _ q => nomatch q
    subst ez; cases rt; cases ru
    exact PySem.P.repr_of_bool (fin _ _ _ _ (fun _ _ q => q) (nowStr m hs))
  | int i =>
    obtain ⟨_, hsh, hz, _, ez⟩ := atom e fun _ _ q => nomatch q
    subst ez; cases rt; obtain ⟨tk, rfl⟩ := ru
    exact PySem.P.repr_of_int (by simpa [T.py, PyData.showable] using hsh) (fin _ _ _ _ (fun _ _ q => q) (nowStr m hs))
  | str y =>
    obtain ⟨_, _, hz, _, ez⟩ := atom e fun _ _ q => nomatch q
    subst ez; cases rt; obtain ⟨tk, rfl⟩ := ru
    exact PySem.P.repr_of_str (fin _ _ _ _ (fun _ _ q => q) (nowStr m hs)) hz
  | obj _ _ _ =>
    obtain ⟨d, _⟩ := atom e fun _ _ q => nomatch q
    simp [T.data] at d
  | tup ys =>
    obtain ⟨d, hsh, hz, hd, ez⟩ := atom e fun _ _ q => nomatch q
    subst ez
    obtain ⟨as, q1⟩ := Dp.reads I _ x u (Rp.dp d rt.d) ru
    have hl : (T.tup ys).py.hasDict = false := hasDict_py d
    obtain ⟨a, _, e1, _⟩ := rt
    subst e1; cases ru
    exact PySem.repr_of_reads' q1 hsh (fun z => by rw [hl] at z; cases z) hg (by omega) (fun _ _ q => q) (fun h' u tk k => fin _ _ _ _ k (nowStr m hs)) hz
  | lst ys =>
    obtain ⟨d, hsh, hz, hd, ez⟩ := atom e fun _ _ q => nomatch q
    subst ez
    obtain ⟨as, q1⟩ := Dp.reads I _ x u (Rp.dp d rt.d) ru
    have hl : (T.lst ys).py.hasDict = false := hasDict_py d
    obtain ⟨a, _, e1, _⟩ := rt
    subst e1; cases ru
    exact PySem.repr_of_reads' q1 hsh (fun z => by rw [hl] at z; cases z) hg (by omega) (fun _ _ q => q) (fun h' u tk k => fin _ _ _ _ k (nowStr m hs)) hz
  | dct ks ys =>
    simp only [sem1] at e
    split at e
    · rename_i hc
      simp only [Bool.and_eq_true, decide_eq_true_eq] at hc
      cases e
      obtain ⟨a, e1, q1, hsys⟩ := reads_dct I hc.1.1.1.2 rt ru
      subst e1
      refine PySem.repr_of_reads' q1 hc.1.1.2 (fun _ => ?_) hg (by omega) (fun _ _ q => q) (fun h' u tk k => fin _ _ _ _ k (nowStr m hs)) (lim_le hc.1.2)
      simp only [List.mem_singleton]
      intro z
      rw [z] at hsys
      simp at hsys
    · cases e
/-! ### isinstance -/
def Ty.name : Ty → String
  | .tint => "int" | .tbool => "bool" | .tstr => "str" | .tlist => "list" | .ttuple => "tuple" | .tdict => "dict" | .cls _ => ""
/-- a class as a value of the model's -/
def Ty.val (cl : Cl) : Ty → Option Value
  | .cls c => (cl c).map .ref
  | t => some (.type t.name)
/-- what the head says of the classes -/
structure ClsOk (K : PySem.W.Frag) (cl : Cl) (sub : Nat → Nat → Bool) : Prop where
  ins : ∀ c C, cl c = some C → Cls K C ∧ PySem.W.findIn K (.ref C) "__class__" = some (some (.builtin "object.__class__")) ∧ PySem.W.specialIn K (.builtin "object.__class__") "__get__" = some (some (.builtin "getset_descriptor.__get__")) ∧
    PySem.W.takesIn K (.builtin "object.__class__") = some true ∧ PySem.W.mroIn K C (.type "object") = some true
  k1 : ∀ c C n, cl c = some C → n ∈ ["int", "bool", "str", "list", "tuple", "dict"] → PySem.W.kitOne K (.ref C) (.type n) = some false
  k2 : ∀ c C n, cl c = some C → n ∈ ["NoneType", "int", "bool", "str", "list", "tuple", "dict"] → PySem.W.kitOne K (.type n) (.ref C) = some false
  k3 : ∀ c d C D, cl c = some C → cl d = some D → PySem.W.kitOne K (.ref C) (.ref D) = some (sub c d)
def T.tyn : T → String
  | .non => "NoneType" | .bl _ => "bool" | .int _ => "int" | .str _ => "str" | .tup _ => "tuple" | .lst _ => "list" | .dct _ _ => "dict" | .obj _ _ _ => ""
theorem tyx_of {K : PySem.W.Frag} {φ : Phi} {H : Hp} {t : T} {v : V} (co : ClsOk K cl sub) (r : RpI cl φ H t v) : ∃ tv, TyX K H v tv ∧ ((∃ c ns us C, t = .obj c ns us ∧ cl c = some C ∧ tv = .ref C) ∨ ((∀ c ns us, t ≠ .obj c ns us) ∧ tv = .type t.tyn)) := by
  cases t with
  | non => cases r; exact ⟨_, .base .non, .inr ⟨(by intro _ _ _ q; cases q), rfl⟩⟩
  | bl b => cases r; exact ⟨_, .base (.bl b), .inr ⟨(by intro _ _ _ q; cases q), rfl⟩⟩
  | int i => cases r; exact ⟨_, .base (.int i), .inr ⟨(by intro _ _ _ q; cases q), rfl⟩⟩
  | str x => cases r; exact ⟨_, .base (.str x), .inr ⟨(by intro _ _ _ q; cases q), rfl⟩⟩
  | tup xs =>
    obtain ⟨a, vs, e, _, rd, q⟩ := r
    subst e
    exact ⟨_, .base (.tup rd.tup), .inr ⟨(by intro _ _ _ q; cases q), rfl⟩⟩
  | lst xs =>
    obtain ⟨a, vs, e, rd, q⟩ := r
    subst e
    rcases rd with rd | ⟨_, o, rd⟩
    · exact ⟨_, .base (.lst rd), .inr ⟨(by intro _ _ _ q; cases q), rfl⟩⟩
    · exact ⟨_, .base (.frz rd), .inr ⟨(by intro _ _ _ q; cases q), rfl⟩⟩
  | dct ks us =>
    obtain ⟨a, vs, e, rd, q⟩ := r
    subst e
    rcases rd with rd | ⟨_, o, rd⟩
    · exact ⟨_, .base (.dK rd), .inr ⟨(by intro _ _ _ q; cases q), rfl⟩⟩
    · exact ⟨_, .fDict rd, .inr ⟨(by intro _ _ _ q; cases q), rfl⟩⟩
  | obj c ns us =>
    obtain ⟨a, C, dx, fs, e, ec, rd, f, q⟩ := r
    subst e
    obtain ⟨h1, h2, h3, h4, h5⟩ := co.ins c C ec
    exact ⟨_, .base (.ins rd.ins h1 h2 h3 h4 h5), .inl ⟨c, ns, us, C, rfl, ec, rfl⟩⟩
theorem kit_b : ∀ n ∈ (["NoneType", "int", "bool", "str", "list", "tuple", "dict"] : List String), ∀ m ∈ (["int", "bool", "str", "list", "tuple", "dict"] : List String),
    kitB n m = some (n == m || (n == "bool" && m == "int")) := by decide +kernel
theorem tyn_mem (t : T) (h : ∀ c ns us, t ≠ .obj c ns us) : t.tyn ∈ (["NoneType", "int", "bool", "str", "list", "tuple", "dict"] : List String) := by
  cases t <;> first | exact absurd rfl (h _ _ _) | simp [T.tyn]
theorem kit_one {K : PySem.W.Frag} {φ : Phi} {H : Hp} {t : T} {v : V} {tv cv : Value} {ty : Ty} (co : ClsOk K cl sub) (tt : (∃ c ns us C, t = .obj c ns us ∧ cl c = some C ∧ tv = .ref C) ∨ ((∀ c ns us, t ≠ .obj c ns us) ∧ tv = .type t.tyn))
    (ev : ty.val cl = some cv) : PySem.W.kitOne K tv cv = some (isTy sub t ty) := by
  rcases tt with ⟨c, ns, us, C, rfl, ec, rfl⟩ | ⟨no, rfl⟩
  · cases ty with
    | cls d =>
      simp only [Ty.val] at ev
      cases ed : cl d with
      | none => rw [ed] at ev; cases ev
      | some D =>
        rw [ed] at ev
        cases ev
        exact co.k3 c d C D ec ed
    | _ => cases ev; exact co.k1 c C _ ec (by decide)
  · have hm := tyn_mem t no
    cases ty with
    | cls d =>
      simp only [Ty.val] at ev
      cases ed : cl d with
      | none => rw [ed] at ev; cases ev
      | some D =>
        rw [ed] at ev
        cases ev
        rw [co.k2 d D _ ed hm]
        cases t <;> first | rfl | exact absurd rfl (no _ _ _)
    | _ =>
      cases ev
      refine kit_ty ((kit_b _ hm _ (by decide)).trans ?_)
      cases t <;> first | rfl | exact absurd rfl (no _ _ _)
/-- isinstance(x, T) -/
theorem one_isi {ty : Ty} {c : V} {cv : Value} (co : ClsOk X.K cl sub) (ev : ty.val cl = some cv) (hc : ClsV c cv) :
    CallR X (.builtin "isinstance") (fun vs H Q => ∃ x, vs = [x, c] ∧ One X cl sub (.isi [ty]) x H Q) := by
  intro pins s σ H xs us Q I r ⟨x, ex, xr, W, σ0, φ, h, t, z, hs, rt, e, m⟩
  subst ex
  cases e
  obtain ⟨tv, ht, hk⟩ := tyx_of co rt
  refine call_isi pins s σ H _ us Q I r ⟨x, c, tv, cv, isTy sub t ty, rfl, hc, ht, kit_one (φ := φ) (H := H) (v := x) co hk ev, ?_⟩
  have q := nowBl m hs
  simpa using q
/-- isinstance(x, (T, U, ..)) -/
theorem kit_any {K : PySem.W.Frag} {φ : Phi} {H : Hp} {t : T} {v : V} {tv : Value} (co : ClsOk K cl sub) (tt : (∃ c ns us C, t = .obj c ns us ∧ cl c = some C ∧ tv = .ref C) ∨ ((∀ c ns us, t ≠ .obj c ns us) ∧ tv = .type t.tyn)) :
    ∀ {tys : List Ty} {cvs : List Value}, tys.map (Ty.val cl) = cvs.map some → PySem.W.kitAny K tv cvs = some (tys.any (isTy sub t))
  | [], cvs, e => by
    have : cvs = [] := by cases cvs with | nil => rfl | cons _ _ => cases e
    subst this; rfl
  | ty :: tys, cvs, e => by
    cases cvs with
    | nil => cases e
    | cons cv cvs =>
      simp only [List.map_cons, List.cons.injEq] at e
      refine kitAny_cons (kit_one (φ := φ) (H := H) (v := v) co tt e.1) (fun hb => ?_) fun hb => ?_
      · rw [kit_any (φ := φ) (H := H) (v := v) co tt e.2, List.any_cons, hb, Bool.false_or]
      · rw [List.any_cons, hb, Bool.true_or]
end
end My

/-! MiniPy: expressions are right, one construct at a time. -/
namespace My
open PySem L2 PyProof.Rows

/-- what stays the same while a def runs -/
structure Zs where
  cl : Cl
  xr : XRel
  G : Ctx
  C : Orc
abbrev tG {α β : Type} (Z : Zs) (W : WX) (rel : Phi → Hp → α → β → Prop) (ev : En → Hm → R α) : L2.St → Hp → (β → Hp → Prop) → Prop := fun σ H Q =>
  ∃ φ h ρ, RpE Z.cl φ H ρ σ ∧ Hs Z.cl φ h H ∧ MW Z.cl Z.xr rel W σ φ H (ev ρ h) Q
abbrev tE (Z : Zs) (W : WX) (m : E) : TE := tG Z W (RpS Z.cl) fun ρ h => evE Z.G Z.C ρ h m
abbrev tL (Z : Zs) (W : WX) (ms : List E) : TA := tG Z W (RpSs Z.cl) fun ρ h => evS Z.G Z.C ρ h ms
def evB (G : Ctx) (C : Orc) (ρ : En) (h : Hm) (m : E) : R Bool := (evE G C ρ h m).bind asB
abbrev eqB : Phi → Hp → Bool → Bool → Prop := fun _ _ a b => a = b
abbrev tB' (Z : Zs) (W : WX) (m : E) : TT := tG Z W eqB fun ρ h => evB Z.G Z.C ρ h m

theorem pe_weak {X : Cx} {e : Expr} {t t' : TE} (h : PE X e t) (k : ∀ σ H Q, t' σ H Q → t σ H Q) : PE X e t' := ⟨fun pins s σ H Q I q => h.run pins s σ H Q I (k σ H Q q)⟩
theorem pt_weak {X : Cx} {e : Expr} {t t' : TT} (h : PT X e t) (k : ∀ σ H Q, t' σ H Q → t σ H Q) : PT X e t' := ⟨fun pins s σ H Q I q => h.run pins s σ H Q I (k σ H Q q)⟩
theorem pw_weak {X : Cx} {e : Expr} {t t' : TT} (h : PW X e t) (k : ∀ σ H Q, t' σ H Q → t σ H Q) : PW X e t' := ⟨fun wh pins s σ H Q I q => h.run wh pins s σ H Q I (k σ H Q q)⟩
theorem pa_weak {X : Cx} {e : List Expr} {t t' : TA} (h : PA X e t) (k : ∀ σ H Q, t' σ H Q → t σ H Q) : PA X e t' := ⟨fun p pins s σ H Q I q => h.run p pins s σ H Q I (k σ H Q q)⟩

section
variable {X : Cx} {Z : Zs} {W : WX}
/-- two evaluations in a row: the second from what the first leaves -/
theorem tG.seq {α β γ δ : Type} {rel : Phi → Hp → α → β → Prop} {rel' : Phi → Hp → γ → δ → Prop} {ev : En → Hm → R α} {ev' : En → Hm → R γ} {f : γ → En → Hm → R α} {σ : L2.St} {H : Hp} {Q : β → Hp → Prop} {Q' : δ → Hp → Prop}
    (t : tG Z W rel ev σ H Q) (e : ∀ ρ h, ev ρ h = (ev' ρ h).bind fun a h1 => f a ρ h1)
    (k : ∀ a h1 φ1 H1 v ρ, RpE Z.cl φ1 H1 ρ σ → Hs Z.cl φ1 h1 H1 → rel' φ1 H1 a v → MW Z.cl Z.xr rel W σ φ1 H1 (f a ρ h1) Q → Q' v H1) : tG Z W rel' ev' σ H Q' := by
  obtain ⟨φ, h, ρ, re, hs, m⟩ := t
  refine ⟨φ, h, ρ, re, hs, ?_⟩
  rw [e] at m
  exact m.bind fun a h1 φ1 H1 v _ g hs1 r m1 => k a h1 φ1 H1 v ρ (g.e re) hs1 r m1

/-! ### names and constants -/
theorem s_var {i : Nat} {x : Str} {pos : Pos} (hN : X.N[i]? = some x) (hv : Vis X.env.scope x) (hd : (x == ("__debug__" : Str)) = false) (hc : (x == ("__classdict__" : Str)) = false) : PE X (.Name x pos) (tE Z W (.var i)) :=
  pe_weak (pe_var hN hv hd hc) fun σ H Q ⟨φ, h, ρ, re, hs, m⟩ => by
    simp only [evE] at m
    cases e : ρ[i]? with
    | none => rw [e] at m; exact m.elim
    | some o =>
      cases o with
      | none => rw [e] at m; exact m.elim
      | some s =>
        rw [e] at m
        obtain ⟨v, ev, r⟩ := re.get i s e
        exact ⟨v, ev, m φ H v (Grow.refl _ _) hs r⟩
theorem s_int {i : Int} {j : Nat} {pos : Pos} : PE X (.Constant (.int i) j pos) (tE Z W (.int i)) := pe_weak pe_int fun σ H Q ⟨φ, h, ρ, re, hs, m⟩ => nowInt m hs
theorem s_bl {i : Bool} {j : Nat} {pos : Pos} : PE X (.Constant (.bool i) j pos) (tE Z W (.bl i)) := pe_weak pe_bl fun σ H Q ⟨φ, h, ρ, re, hs, m⟩ => nowBl m hs
theorem s_str {i : Str} {j : Nat} {pos : Pos} : PE X (.Constant (.str i) j pos) (tE Z W (.str i)) := pe_weak pe_str fun σ H Q ⟨φ, h, ρ, re, hs, m⟩ => nowStr m hs
theorem s_non {j : Nat} {pos : Pos} : PE X (.Constant .none j pos) (tE Z W .non) := pe_weak pe_non fun σ H Q ⟨φ, h, ρ, re, hs, m⟩ => nowNon m hs
/-- a constant of the module: a number, a text -/
def conV : T → Option V
  | .non => some .non | .bl b => some (.bl b) | .int i => some (.int i) | .str x => some (.str x)
  | _ => none
theorem conV_rp {cl : Cl} {φ : Phi} {H : Hp} {t : T} {v : V} (e : conV t = some v) : RpF cl φ H t v := by
  cases t <;> first | (cases e; done) | (cases e; rw [RpF, Rp])
theorem s_con {g : Nat} {x : Str} {pos : Pos} {v : V} {u : Value} (hg : Gl X x) (hm : X.mg x = some u) (r : RelV v u) (ev : conV (Z.G.con g) = some v) (hd : (x == ("__debug__" : Str)) = false) : PE X (.Name x pos) (tE Z W (.con g)) :=
  pe_weak (pe_glob hg hm r hd) fun σ H Q ⟨φ, h, ρ, re, hs, m⟩ => now m hs (conV_rp ev)

/-! ### operators -/
theorem ev2 {o : Bo} {a b : E} {σ : L2.St} {H : Hp} {Q : VK} (t : tE Z W (.bin o a b) σ H Q) : tE Z W a σ H fun x H1 => tE Z W b σ H1 fun y H2 => Two X Z.cl o x y H2 Q := by
  refine t.seq (rel' := RpS Z.cl) (f := fun s ρ h1 => (evE Z.G Z.C ρ h1 b).bind fun u h2 => (liftO (dref h2 s) h2).bind fun v h2 => (liftO (dref h2 u) h2).bind fun w h2 => (liftO (sem2 o v w) h2).bind fun z h2 => .ok (.t z) h2) (fun ρ h => by simp only [evE]) fun s h1 φ1 H1 x ρ re hs r m => ?_
  refine ⟨φ1, h1, ρ, re, hs, m.bind fun u h2 φ2 H2 y _ g hs2 r2 m2 => ?_⟩
  obtain ⟨v, e1, m2⟩ := m2.lift
  obtain ⟨w, e2, m2⟩ := m2.lift
  obtain ⟨z, e3, m2⟩ := m2.lift
  exact ⟨_, _, _, _, _, _, _, _, hs2, RpS.dref hs2 (g.s r) e1, RpS.dref hs2 r2 e2, e3, m2⟩
theorem ev1 {o : U} {a : E} {σ : L2.St} {H : Hp} {Q : VK} (t : tE Z W (.un o a) σ H Q) : tE Z W a σ H fun x H1 => One X Z.cl Z.G.sub o x H1 Q := by
  refine t.seq (rel' := RpS Z.cl) (f := fun s ρ h1 => (liftO (dref h1 s) h1).bind fun v h1 => (liftO (sem1 Z.G.sub o v) h1).bind fun w h1 => .ok (.t w) h1) (fun ρ h => by simp only [evE]) fun s h1 φ1 H1 x ρ re hs r m => ?_
  obtain ⟨v, e1, m⟩ := m.lift
  obtain ⟨w, e2, m⟩ := m.lift
  exact ⟨_, _, _, _, _, _, _, hs, RpS.dref hs r e1, e2, m⟩
variable {a b c : Expr} {ma mb mc : E} {pos : Pos}
theorem s_bin {o : Bo} {po : Operator} (ho : OpR X (binaryOp po) (Two X Z.cl o)) (ha : PE X a (tE Z W ma)) (hb : PE X b (tE Z W mb)) : PE X (.BinOp a po b pos) (tE Z W (.bin o ma mb)) :=
  pe_weak (pe_op ho ha hb) fun _ _ _ t => ev2 t
theorem s_cmp {o : Bo} {po : CmpOp} (ho : OpR X (compareOp po) (Two X Z.cl o)) (ha : PE X a (tE Z W ma)) (hb : PE X b (tE Z W mb)) (hm : behindInMarks po b = false) : PE X (.Compare a [po] [b] pos) (tE Z W (.bin o ma mb)) :=
  pe_weak (pe_cmpR ho ha hb hm) fun _ _ _ t => ev2 t
/-- from a value to a test -/
theorem toB {m : E} {σ : L2.St} {H : Hp} {Q : Bool → Hp → Prop} (t : tB' Z W m σ H Q) : tE Z W m σ H fun x H1 => ∃ k, x = .bl k ∧ Q k H1 := by
  refine t.seq (rel' := RpS Z.cl) (f := fun s ρ h1 => asB s h1) (fun ρ h => rfl) fun s h1 φ1 H1 x ρ re hs r m => ?_
  cases s with
  | r n => exact m.elim
  | t v =>
    cases v <;> first | exact m.elim | skip
    rename_i k
    have hx : x = .bl k := by
      have q : RpF Z.cl φ1 H1 (.bl k) x := r
      rw [RpF, Rp] at q
      exact q
    exact ⟨k, hx, m φ1 H1 k (Grow.refl _ _) hs rfl⟩
theorem st_cmp {o : Bo} {po : CmpOp} (ho : OpR X (compareOp po) (Two X Z.cl o)) (ha : PE X a (tE Z W ma)) (hb : PE X b (tE Z W mb)) (hm : behindInMarks po b = false) : PT X (.Compare a [po] [b] pos) (tB' Z W (.bin o ma mb)) :=
  pt_weak (pt_cmpR ho ha hb hm) fun _ _ _ t => ev2 (toB t)
theorem st_val {m : E} (h : PE X a (tE Z W m)) (he : ∀ whole, isTrue a X.env whole = (do let v ← whole; standAt a.pos; holding [v] (truthy v))) : PT X a (tB' Z W m) := pt_weak (pt_val h he) fun _ _ _ t => toB t
theorem s_un {o : U} {po : UnaryOp} (ho : UnR X (unaryOp po) (One X Z.cl Z.G.sub o)) (ha : PE X a (tE Z W ma)) : PE X (.UnaryOp po a pos) (tE Z W (.un o ma)) := pe_weak (pe_un ho ha) fun _ _ _ t => ev1 t

/-! ### and, or, not -/
theorem evNot {σ : L2.St} {H : Hp} {Q : VK} (t : tE Z W (.not ma) σ H Q) : tE Z W ma σ H fun x H1 => ∃ c, x = .bl c ∧ Q (.bl (!c)) H1 := by
  refine toB (t.seq (rel' := eqB) (f := fun b ρ h1 => .ok (.t (.bl (!b))) h1) (fun ρ h => ?_) fun k h1 φ1 H1 x ρ re hs r m => ?_)
  · simp only [evE, evB]
    cases evE Z.G Z.C ρ h ma <;> rfl
  · cases r
    exact nowBl m hs
theorem s_not (ha : PE X a (tE Z W ma)) : PE X (.UnaryOp .Not a pos) (tE Z W (.not ma)) := pe_weak (pe_not ha) fun _ _ _ t => evNot t
theorem st_not (ha : PT X a (tB' Z W ma)) : PT X (.UnaryOp .Not a pos) (tB' Z W (.not ma)) :=
  pt_weak (pt_not ha) fun σ H Q t => by
    refine t.seq (rel' := eqB) (f := fun b ρ h1 => .ok (!b) h1) (fun ρ h => ?_) fun k h1 φ1 H1 x ρ re hs r m => ?_
    · simp only [evE, evB]
      cases evE Z.G Z.C ρ h ma with
      | ok s h1 =>
        cases s with
        | r n => rfl
        | t v => cases v <;> rfl
      | ex _ _ _ => rfl
      | bad => rfl
    · cases r
      exact m φ1 H1 _ (Grow.refl _ _) hs rfl
theorem evAnd {σ : L2.St} {H : Hp} {Q : VK} (t : tE Z W (.and ma mb) σ H Q) : tE Z W ma σ H fun x H1 => ∃ c, x = .bl c ∧ if c = true then tE Z W mb σ H1 Q else Q (.bl false) H1 := by
  refine toB (t.seq (rel' := eqB) (f := fun b ρ h1 => if b then evE Z.G Z.C ρ h1 mb else .ok (.t (.bl false)) h1) (fun ρ h => ?_) fun k h1 φ1 H1 x ρ re hs r m => ?_)
  · simp only [evE, evB]
    cases evE Z.G Z.C ρ h ma <;> rfl
  · cases r
    cases k with
    | true => exact ⟨φ1, h1, ρ, re, hs, m⟩
    | false => exact nowBl m hs
theorem evOr {σ : L2.St} {H : Hp} {Q : VK} (t : tE Z W (.or ma mb) σ H Q) : tE Z W ma σ H fun x H1 => ∃ c, x = .bl c ∧ if c = true then Q (.bl true) H1 else tE Z W mb σ H1 Q := by
  refine toB (t.seq (rel' := eqB) (f := fun b ρ h1 => if b then .ok (.t (.bl true)) h1 else evE Z.G Z.C ρ h1 mb) (fun ρ h => ?_) fun k h1 φ1 H1 x ρ re hs r m => ?_)
  · simp only [evE, evB]
    cases evE Z.G Z.C ρ h ma <;> rfl
  · cases r
    cases k with
    | false => exact ⟨φ1, h1, ρ, re, hs, m⟩
    | true => exact nowBl m hs
theorem evAndT {σ : L2.St} {H : Hp} {Q : Bool → Hp → Prop} (t : tB' Z W (.and ma mb) σ H Q) : tB' Z W ma σ H fun c H1 => if c = true then tB' Z W mb σ H1 Q else Q false H1 := by
  refine t.seq (rel' := eqB) (f := fun b ρ h1 => if b then evB Z.G Z.C ρ h1 mb else .ok false h1) (fun ρ h => ?_) fun k h1 φ1 H1 x ρ re hs r m => ?_
  · simp only [evE, evB]
    cases evE Z.G Z.C ρ h ma with
    | ok s h1 =>
      cases s with
      | r n => rfl
      | t v =>
        cases v <;> try rfl
        rename_i k
        cases k <;> rfl
    | ex _ _ _ => rfl
    | bad => rfl
  · cases r
    cases k with
    | true => exact ⟨φ1, h1, ρ, re, hs, m⟩
    | false => exact m φ1 H1 _ (Grow.refl _ _) hs rfl
theorem evOrT {σ : L2.St} {H : Hp} {Q : Bool → Hp → Prop} (t : tB' Z W (.or ma mb) σ H Q) : tB' Z W ma σ H fun c H1 => if c = true then Q true H1 else tB' Z W mb σ H1 Q := by
  refine t.seq (rel' := eqB) (f := fun b ρ h1 => if b then .ok true h1 else evB Z.G Z.C ρ h1 mb) (fun ρ h => ?_) fun k h1 φ1 H1 x ρ re hs r m => ?_
  · simp only [evE, evB]
    cases evE Z.G Z.C ρ h ma with
    | ok s h1 =>
      cases s with
      | r n => rfl
      | t v =>
        cases v <;> try rfl
        rename_i k
        cases k <;> rfl
    | ex _ _ _ => rfl
    | bad => rfl
  · cases r
    cases k with
    | false => exact ⟨φ1, h1, ρ, re, hs, m⟩
    | true => exact m φ1 H1 _ (Grow.refl _ _) hs rfl
variable {rest : List Expr}
theorem s_and2 (ha : PE X a (tE Z W ma)) (hb : PE X b (tE Z W mb)) : PE X (.BoolOp .And [a, b] pos) (tE Z W (.and ma mb)) := pe_weak (pe_and ha (pe_one hb)) fun _ _ _ t => evAnd t
theorem s_and (ha : PE X a (tE Z W ma)) (hb : PE X (.BoolOp .And (b :: rest) pos) (tE Z W mb)) : PE X (.BoolOp .And (a :: b :: rest) pos) (tE Z W (.and ma mb)) := pe_weak (pe_and ha hb) fun _ _ _ t => evAnd t
theorem s_or2 (ha : PE X a (tE Z W ma)) (hb : PE X b (tE Z W mb)) : PE X (.BoolOp .Or [a, b] pos) (tE Z W (.or ma mb)) := pe_weak (pe_or ha (pe_one hb)) fun _ _ _ t => evOr t
theorem s_or (ha : PE X a (tE Z W ma)) (hb : PE X (.BoolOp .Or (b :: rest) pos) (tE Z W mb)) : PE X (.BoolOp .Or (a :: b :: rest) pos) (tE Z W (.or ma mb)) := pe_weak (pe_or ha hb) fun _ _ _ t => evOr t
theorem sw_and2 (ha : PT X a (tB' Z W ma)) (hb : PT X b (tB' Z W mb)) : PW X (.BoolOp .And [a, b] pos) (tB' Z W (.and ma mb)) := pw_weak (pw_and ha (pw_and1 hb)) fun _ _ _ t => evAndT t
theorem sw_and (ha : PT X a (tB' Z W ma)) (hb : PW X (.BoolOp .And (b :: rest) pos) (tB' Z W mb)) : PW X (.BoolOp .And (a :: b :: rest) pos) (tB' Z W (.and ma mb)) := pw_weak (pw_and ha hb) fun _ _ _ t => evAndT t
theorem sw_or2 (ha : PT X a (tB' Z W ma)) (hb : PT X b (tB' Z W mb)) : PW X (.BoolOp .Or [a, b] pos) (tB' Z W (.or ma mb)) := pw_weak (pw_or ha (pw_or1 hb)) fun _ _ _ t => evOrT t
theorem sw_or (ha : PT X a (tB' Z W ma)) (hb : PW X (.BoolOp .Or (b :: rest) pos) (tB' Z W mb)) : PW X (.BoolOp .Or (a :: b :: rest) pos) (tB' Z W (.or ma mb)) := pw_weak (pw_or ha hb) fun _ _ _ t => evOrT t
theorem s_ite (hc : PT X c (tB' Z W mc)) (ha : PE X a (tE Z W ma)) (hb : PE X b (tE Z W mb)) : PE X (.IfExp c a b pos) (tE Z W (.ite mc ma mb)) :=
  pe_weak (pe_ifExp hc ha hb) fun σ H Q t => by
    refine t.seq (rel' := eqB) (f := fun k ρ h1 => if k then evE Z.G Z.C ρ h1 ma else evE Z.G Z.C ρ h1 mb) (fun ρ h => ?_) fun k h1 φ1 H1 x ρ re hs r m => ?_
    · simp only [evE, evB]
      cases evE Z.G Z.C ρ h mc <;> rfl
    · cases r
      cases k with
      | true => exact ⟨φ1, h1, ρ, re, hs, m⟩
      | false => exact ⟨φ1, h1, ρ, re, hs, m⟩

/-! ### a < b < c -/
theorem evCh {o p : Bo} {σ : L2.St} {H : Hp} {Q : VK} (t : tE Z W (.ch o p ma mb mc) σ H Q) : tE Z W ma σ H fun x H1 => tE Z W mb σ H1 fun y H2 => Two X Z.cl o x y H2 fun z H3 => ∃ k, z = .bl k ∧ (if k = true then tE Z W mc σ H3 fun w' H4 => Two X Z.cl p y w' H4 Q else Q (.bl false) H3) := by
  refine t.seq (rel' := RpS Z.cl) (f := fun s ρ h1 => (evE Z.G Z.C ρ h1 mb).bind fun u h2 => (liftO (dref h2 s) h2).bind fun v h2 => (liftO (dref h2 u) h2).bind fun w h2 => (liftO (sem2 o v w) h2).bind fun z h2 =>
      (asB (.t z) h2).bind fun k h2 => if k then (evE Z.G Z.C ρ h2 mc).bind fun x h3 => (liftO (dref h3 u) h3).bind fun w h3 => (liftO (dref h3 x) h3).bind fun y h3 => (liftO (sem2 p w y) h3).bind fun z h3 => .ok (.t z) h3 else .ok (.t (.bl false)) h2) (fun ρ h => by simp only [evE]) fun s h1 φ1 H1 x ρ re hs r m => ?_
  refine ⟨φ1, h1, ρ, re, hs, m.bind fun u h2 φ2 H2 y _ g hs2 r2 m2 => ?_⟩
  obtain ⟨v, e1, m2⟩ := m2.lift
  obtain ⟨w, e2, m2⟩ := m2.lift
  obtain ⟨z, e3, m2⟩ := m2.lift
  refine ⟨Z.xr, W, σ, _, _, _, _, _, hs2, RpS.dref hs2 (g.s r) e1, RpS.dref hs2 r2 e2, e3, ?_⟩
  obtain ⟨k, ek, m2⟩ := m2.asB
  cases ek
  intro φ3 H3 zv g3 hs3 rz
  have hz : zv = .bl k := by
    have q : RpF Z.cl φ3 H3 (.bl k) zv := rz
    rw [RpF, Rp] at q
    exact q
  refine ⟨k, hz, ?_⟩
  have m3 := m2.grow g3
  cases k with
  | false => exact nowBl m3 hs3
  | true =>
    refine ⟨φ3, h2, ρ, (g.trans g3).e re, hs3, MW.bind m3 fun x' h4 φ4 H4 y4 _ g4 hs4 r4 m4 => ?_⟩
    obtain ⟨w', e4, m4⟩ := m4.lift
    obtain ⟨y', e5, m4⟩ := m4.lift
    obtain ⟨z', e6, m4⟩ := m4.lift
    exact ⟨_, _, _, _, _, _, _, _, hs4, RpS.dref hs4 (g4.s (g3.s r2)) e4, RpS.dref hs4 r4 e5, e6, m4⟩
theorem s_ch {o p : Bo} {po pp : CmpOp} (ho : OpR X (compareOp po) (Two X Z.cl o)) (hp : OpR X (compareOp pp) (Two X Z.cl p)) (ha : PE X a (tE Z W ma)) (hb : PE X b (tE Z W mb)) (hc : PE X c (tE Z W mc)) (hm : lastMarks [po, pp] [b, c] = false) :
    PE X (.Compare a [po, pp] [b, c] pos) (tE Z W (.ch o p ma mb mc)) := pe_weak (pe_chain ho hp ha hb hc hm) fun _ _ _ t => evCh t
theorem st_ch {o p : Bo} {po pp : CmpOp} (ho : OpR X (compareOp po) (Two X Z.cl o)) (hp : OpR X (compareOp pp) (Two X Z.cl p)) (ha : PE X a (tE Z W ma)) (hb : PE X b (tE Z W mb)) (hc : PE X c (tE Z W mc)) (hm : lastMarks [po, pp] [b, c] = false) :
    PT X (.Compare a [po, pp] [b, c] pos) (tB' Z W (.ch o p ma mb mc)) := pt_weak (pt_chain ho hp ha hb hc hm) fun _ _ _ t => evCh (toB t)

/-! ### displays -/
theorem sl_nil : PA X [] (tL Z W []) := pa_weak pa_nil fun σ H Q ⟨φ, h, ρ, re, hs, m⟩ => m φ H [] (Grow.refl _ _) hs rfl
theorem sl_cons {es : List Expr} {ms : List E} (ha : PE X a (tE Z W ma)) (hr : PA X es (tL Z W ms)) (he : starEach (a :: es) X.env = (false, eval a X.env) :: starEach es X.env) : PA X (a :: es) (tL Z W (ma :: ms)) :=
  pa_weak (pa_cons ha hr he) fun σ H Q t => by
    refine t.seq (rel' := RpS Z.cl) (f := fun s ρ h1 => (evS Z.G Z.C ρ h1 ms).bind fun ss h2 => .ok (s :: ss) h2) (fun ρ h => by simp only [evS]) fun s h1 φ1 H1 x ρ re hs r m => ?_
    exact ⟨φ1, h1, ρ, re, hs, m.bind fun ss h2 φ2 H2 xs _ g hs2 r2 m2 => m2 φ2 H2 _ (Grow.refl _ _) hs2 ⟨_, _, rfl, g.s r, r2⟩⟩
/-- values that will not change -/
abbrev RpL (cl : Cl) : Phi → Hp → List T → List V → Prop := fun φ H ts vs => Rps cl (Off φ) H ts vs
abbrev tLT (Z : Zs) (W : WX) (ms : List E) : TA := tG Z W (RpL Z.cl) fun ρ h => evTs Z.G Z.C ρ h ms
theorem slT_nil : PA X [] (tLT Z W []) := pa_weak pa_nil fun σ H Q ⟨φ, h, ρ, re, hs, m⟩ => m φ H [] (Grow.refl _ _) hs .nil
theorem slT_cons {es : List Expr} {ms : List E} (ha : PE X a (tE Z W ma)) (hr : PA X es (tLT Z W ms)) (he : starEach (a :: es) X.env = (false, eval a X.env) :: starEach es X.env) : PA X (a :: es) (tLT Z W (ma :: ms)) :=
  pa_weak (pa_cons ha hr he) fun σ H Q t => by
    refine t.seq (rel' := RpS Z.cl) (f := fun s ρ h1 => (asT s h1).bind fun v h1 => (evTs Z.G Z.C ρ h1 ms).bind fun ss h2 => .ok (v :: ss) h2) (fun ρ h => by simp only [evTs]) fun s h1 φ1 H1 x ρ re hs r m => ?_
    obtain ⟨v, ev, m⟩ := m.asT
    subst ev
    refine ⟨φ1, h1, ρ, re, hs, MW.bind (rel' := RpL Z.cl) m fun ss h2 φ2 H2 xs _ g hs2 r2 m2 => m2 φ2 H2 _ (Grow.refl _ _) hs2 (.cons (g.rp r) r2)⟩
theorem evTs_len {G : Ctx} {C : Orc} {ρ : En} : ∀ {ms : List E} {h h' : Hm} {vs : List T}, evTs G C ρ h ms = .ok vs h' → vs.length = ms.length
  | [], h, h', vs, e => by simp only [evTs] at e; cases e; rfl
  | m :: ms, h, h', vs, e => by
    simp only [evTs] at e
    cases e1 : evE G C ρ h m with
    | ok s h1 =>
      rw [e1] at e
      cases s with
      | r n => cases e
      | t v =>
        simp only [R.bind_ok, asT] at e
        cases e2 : evTs G C ρ h1 ms with
        | ok ss h2 => rw [e2] at e; cases e; rw [List.length_cons, List.length_cons, evTs_len e2]
        | ex _ _ _ => rw [e2] at e; cases e
        | bad => rw [e2] at e; cases e
    | ex _ _ _ => rw [e1] at e; cases e
    | bad => rw [e1] at e; cases e
theorem lim_of_len {ms : List E} {n : Nat} (h : n = ms.length) (hl : ms.length ≤ 1000) : n ≤ sizeLine := by
  rw [h]; exact Nat.le_of_lt (L2.small1000 hl)
/-- how many items -/
theorem tG.with {α β γ δ : Type} {rel' : Phi → Hp → γ → δ → Prop} {rel : Phi → Hp → α → β → Prop} {ev : En → Hm → R α} {ev' : En → Hm → R γ} {f : γ → En → Hm → R α} {σ : L2.St} {H : Hp} {Q : β → Hp → Prop} {Q' : δ → Hp → Prop}
    (t : tG Z W rel ev σ H Q) (e : ∀ ρ h, ev ρ h = (ev' ρ h).bind fun a h1 => f a ρ h1)
    (k : ∀ a h0 h1 φ1 H1 v ρ, ev' ρ h0 = .ok a h1 → RpE Z.cl φ1 H1 ρ σ → Hs Z.cl φ1 h1 H1 → rel' φ1 H1 a v → MW Z.cl Z.xr rel W σ φ1 H1 (f a ρ h1) Q → Q' v H1) : tG Z W rel' ev' σ H Q' := by
  obtain ⟨φ, h, ρ, re, hs, m⟩ := t
  refine ⟨φ, h, ρ, re, hs, ?_⟩
  rw [e] at m
  exact m.bind fun a h1 φ1 H1 v ee g hs1 r m1 => k a h h1 φ1 H1 v ρ ee (g.e re) hs1 r m1
variable {es : List Expr} {ms : List E}
theorem s_tup {k : Nat} (hl : ms.length ≤ 1000) (h : PA X es (tLT Z W ms)) : PE X (.Tuple es k pos) (tE Z W (.tup ms)) :=
  pe_weak (pe_tup h) fun σ H Q t => by
    refine t.with (rel' := RpL Z.cl) (f := fun vs ρ h1 => .ok (.t (.tup vs)) h1) (fun ρ h => by simp only [evE]) fun vs h0 h1 φ1 H1 x ρ ee re hs r m => ?_
    exact ⟨by rw [← r.length]; exact lim_of_len (evTs_len ee) hl, newTup m hs r⟩
theorem s_lst (hl : ms.length ≤ 1000) (h : PA X es (tLT Z W ms)) : PE X (.List es pos) (tE Z W (.lst ms)) :=
  pe_weak (pe_lst h) fun σ H Q t => by
    refine t.with (rel' := RpL Z.cl) (f := fun vs ρ h1 => .ok (.t (.lst vs)) h1) (fun ρ h => by simp only [evE]) fun vs h0 h1 φ1 H1 x ρ ee re hs r m => ?_
    exact ⟨by rw [← r.length]; exact lim_of_len (evTs_len ee) hl, newLst m hs r⟩
theorem s_newl (hl : ms.length ≤ 1000) (h : PA X es (tLT Z W ms)) : PE X (.List es pos) (tE Z W (.newl ms)) :=
  pe_weak (pe_lst h) fun σ H Q t => by
    refine t.with (rel' := RpL Z.cl) (f := fun vs ρ h1 => .ok (.r h1.length) (h1 ++ [.lst vs])) (fun ρ h => by simp only [evE]) fun vs h0 h1 φ1 H1 x ρ ee re hs r m => ?_
    refine ⟨by rw [← r.length]; exact lim_of_len (evTs_len ee) hl, fun p n => ?_⟩
    refine m (φ1.push p) _ _ (Grow.push n) (hs.push n ⟨x, upd_same, Rps.move (fun b w ob r => ⟨off_push n ob r, rd_upd n r⟩) r⟩) ⟨by simp [hs.len], fun a e => ?_⟩
    rw [← hs.len] at e
    simp at e
    rw [e]
theorem s_newd : PE X (.Dict [] [] pos) (tE Z W .newd) :=
  pe_weak pe_dnewK fun σ H Q ⟨φ, h, ρ, re, hs, m⟩ => by
    simp only [evE] at m
    intro p n
    refine m (φ.push p) _ _ (Grow.push n) (hs.push n ⟨[], upd_same, rfl, .nil⟩) ⟨by simp [hs.len], fun a e => ?_⟩
    rw [← hs.len] at e
    simp at e
    rw [e]
theorem s_dct0 : PE X (.Dict [] [] pos) (tE Z W .dct0) :=
  pe_weak pe_dnewK fun σ H Q ⟨φ, h, ρ, re, hs, m⟩ => by
    simp only [evE] at m
    intro p n
    refine m φ _ _ (Grow.lay n) (hs.lay n) ?_
    show RpF Z.cl φ _ _ _
    rw [RpF, Rp]
    exact ⟨p, [], rfl, hs.offNone n, .inl upd_same, rfl, .nil⟩

/-! ### slices -/
theorem cut_ok {σ0 : L2.St} {φ : Phi} {h : Hm} {H : Hp} {Q : VK} {s : S} {x : V} {l u : Option Int} (hs : Hs Z.cl φ h H) (r : RpS Z.cl φ H s x) (m : MW Z.cl Z.xr (RpS Z.cl) W σ0 φ H (cutE s l u h) Q) :
    (rSlL X.K x l u H Q ∨ rSlA X.K x l u H Q) ∨ rSlS x l u H Q := by
  unfold cutE at m
  obtain ⟨v, e1, m⟩ := m.lift
  have ri := RpS.dref hs r e1
  cases v with
  | non | bl _ | int _ | dct _ _ | obj _ _ _ => exact m.elim
  | lst xs =>
    obtain ⟨a, vs, e, rd, q⟩ := ri
    exact .inl (.inl ⟨a, vs, e, .inl rd.rd, newLst m hs (q.cut _ _)⟩)
  | tup xs =>
    obtain ⟨a, vs, e, o, rd, q⟩ := ri
    refine .inl (.inr ⟨a, vs, e, .inl rd.rd, fun hw => ?_, fun _ => newTup m hs (q.cut _ _)⟩)
    have ec : cutL xs l u = xs := by
      unfold cutL
      rw [q.length, hw.1, hw.2, List.drop_zero, Nat.sub_zero, ← q.length, List.take_length]
    dsimp only at m
    rw [ec] at m
    exact now m hs (by rw [RpF, Rp]; exact ⟨a, vs, rfl, o, rd, q⟩)
  | str z =>
    dsimp only at m
    split at m
    · exact .inr ⟨z, ri, lim_le (by assumption), nowStr m hs⟩
    · exact m.elim
theorem slR_all : SlR X fun x lo hi H Q => (rSlL X.K x lo hi H Q ∨ rSlA X.K x lo hi H Q) ∨ rSlS x lo hi H Q := SlR.or (SlR.or sl_list sl_tupA) sl_str
theorem int_v {φ : Phi} {H : Hp} {cl : Cl} {i : Int} {x : V} (r : RpS cl φ H (.t (.int i)) x) : x = .int i := by
  have q : RpF cl φ H (.int i) x := r
  rw [RpF, Rp] at q
  exact q
variable {p2 : Pos}
theorem s_slf (ha : PE X a (tE Z W ma)) (hb : PE X b (tE Z W mb)) : PE X (.Subscript a (.Slice (some b) none none p2) pos) (tE Z W (.slf ma mb)) :=
  pe_weak (pe_slice slR_all ha (po_some hb) po_none) fun σ H Q t => by
    refine t.seq (rel' := RpS Z.cl) (f := fun s ρ h1 => (evE Z.G Z.C ρ h1 mb).bind fun l h2 => (asI l h2).bind fun i h2 => cutE s (some i) none h2) (fun ρ h => by simp only [evE]) fun s h1 φ1 H1 x ρ re hs r m => ?_
    refine ⟨φ1, h1, ρ, re, hs, m.bind fun l h2 φ2 H2 y _ g hs2 r2 m2 => ?_⟩
    obtain ⟨i, el, m2⟩ := m2.asI
    subst el
    exact ⟨i, int_v r2, cut_ok hs2 (g.s r) m2⟩
theorem s_slt (ha : PE X a (tE Z W ma)) (hb : PE X b (tE Z W mb)) : PE X (.Subscript a (.Slice none (some b) none p2) pos) (tE Z W (.slt ma mb)) :=
  pe_weak (pe_slice slR_all ha po_none (po_some hb)) fun σ H Q t => by
    refine t.seq (rel' := RpS Z.cl) (f := fun s ρ h1 => (evE Z.G Z.C ρ h1 mb).bind fun l h2 => (asI l h2).bind fun i h2 => cutE s none (some i) h2) (fun ρ h => by simp only [evE]) fun s h1 φ1 H1 x ρ re hs r m => ?_
    refine ⟨φ1, h1, ρ, re, hs, m.bind fun l h2 φ2 H2 y _ g hs2 r2 m2 => ?_⟩
    obtain ⟨i, el, m2⟩ := m2.asI
    subst el
    exact ⟨i, int_v r2, cut_ok hs2 (g.s r) m2⟩
theorem s_slb (ha : PE X a (tE Z W ma)) (hb : PE X b (tE Z W mb)) (hc : PE X c (tE Z W mc)) : PE X (.Subscript a (.Slice (some b) (some c) none p2) pos) (tE Z W (.slb ma mb mc)) :=
  pe_weak (pe_slice slR_all ha (po_some hb) (po_some hc)) fun σ H Q t => by
    refine t.seq (rel' := RpS Z.cl) (f := fun s ρ h1 => (evE Z.G Z.C ρ h1 mb).bind fun l h2 => (asI l h2).bind fun i h2 => (evE Z.G Z.C ρ h2 mc).bind fun u h3 => (asI u h3).bind fun j h3 => cutE s (some i) (some j) h3) (fun ρ h => by simp only [evE]) fun s h1 φ1 H1 x ρ re hs r m => ?_
    refine ⟨φ1, h1, ρ, re, hs, m.bind fun l h2 φ2 H2 y _ g hs2 r2 m2 => ?_⟩
    obtain ⟨i, el, m2⟩ := m2.asI
    subst el
    refine ⟨i, int_v r2, φ2, h2, ρ, g.e re, hs2, MW.bind m2 fun u h3 φ3 H3 z _ g3 hs3 r3 m3 => ?_⟩
    obtain ⟨j, eu, m3⟩ := m3.asI
    subst eu
    exact ⟨j, int_v r3, cut_ok hs3 (g3.s (g.s r)) m3⟩

/-! ### methods -/
theorem s_get {d k x : Expr} {md mk mx : E} {apos cpos : Pos} (hu : X.A.units + 1 < cLine) (hd : PE X d (tE Z W md)) (hk : PE X k (tE Z W mk)) (hx : PE X x (tE Z W mx)) (m2 : M2 X d "get" apos k x cpos) :
    PE X (.Call (.Attribute d "get" apos) [k, x] [] cpos) (tE Z W (.get md mk mx)) :=
  pe_weak (pe_dget2 hu hd hk hx m2) fun σ H Q t => by
    refine t.seq (rel' := RpS Z.cl) (f := fun s ρ h1 => (isD s h1).bind fun _ h1 => (evE Z.G Z.C ρ h1 mk).bind fun u h2 => (evE Z.G Z.C ρ h2 mx).bind fun w h3 => (liftO (dref h3 s) h3).bind fun dv h3 => (asT u h3).bind fun kv h3 => (asT w h3).bind fun xv h3 => getF dv kv xv h3) (fun ρ h => by simp only [evE]) fun s h1 φ1 H1 x ρ re hs r m => ?_
    obtain ⟨ks0, us0, e0, m⟩ := m.isD
    obtain ⟨a, kvs0, ex, rd0, _⟩ := RpS.dref hs r e0
    refine ⟨a, ex, .inl ⟨kvs0, rd0.rd⟩, φ1, h1, ρ, re, hs, m.bind fun u h2 φ2 H2 y _ g hs2 r2 m2 => ?_⟩
    refine ⟨φ2, h2, ρ, g.e re, hs2, m2.bind fun w h3 φ3 H3 z _ g3 hs3 r3 m3 => ?_⟩
    obtain ⟨dv, e1, m3a⟩ := m3.lift
    obtain ⟨kv, e2, m3b⟩ := m3a.asT
    obtain ⟨xv, e3, m3c⟩ := m3b.asT
    subst e2; subst e3
    clear m3 m3a m3b
    have r1' := RpS.dref hs3 (g3.s (g.s r)) e1
    have m3 := m3c
    clear m3c
    unfold getF at m3
    cases dv <;> first | exact m3.elim | skip
    rename_i ks us
    dsimp only at m3
    cases ek : keyOf kv with
    | none => rw [ek] at m3; exact m3.elim
    | some k =>
      rw [ek] at m3
      obtain ⟨b, kvs, ex', rd, ekv, q⟩ := r1'
      rw [ex] at ex'
      cases ex'
      subst ekv
      have hy := key_v (RpF.i r2) ek
      refine ⟨valV kvs k, .inl ⟨kvs, k, rd.rd, hy, rfl⟩, ?_⟩
      obtain ⟨g1, g2⟩ := getD_val (φ := φ3) k q
      dsimp only at m3
      cases eg : getD k (kvs.map fun p => keyT p.1) us with
      | none =>
        rw [g2 eg]
        rw [eg] at m3
        exact now m3 hs3 r3
      | some t =>
        obtain ⟨v, ev, rv⟩ := g1 t eg
        rw [ev]
        rw [eg] at m3
        exact now m3 hs3 rv
theorem sql_of {φ : Phi} {h : Hm} {H : Hp} {s : S} {x : V} {ks : List T} (hs : Hs Z.cl φ h H) (r : RpS Z.cl φ H s x) (e : dref h s = some (.lst ks)) : tyV X.K "list" x H := by
  obtain ⟨a, vs, ex, rd, _⟩ := RpS.dref hs r e
  subst ex
  exact .inl ⟨rfl, vs, .inl rd.rd⟩
/-- what may change, in hand -/
theorem at_ref {φ : Phi} {h : Hm} {H : Hp} {n : Nat} {x : V} {o : MO} (hs : Hs Z.cl φ h H) (r : RpS Z.cl φ H (.r n) x) (e : h[n]? = some o) (ho : o ≠ .dead) : ∃ a, x = .ref a ∧ φ.m[n]? = some (some a) ∧ RpO Z.cl φ H o a := by
  rcases hs.get n o e with ⟨q, _⟩ | ⟨a, q, w⟩
  · exact absurd q ho
  · exact ⟨a, r.2 a q, q, w⟩
theorem off_self {φ : Phi} {H : Hp} {n : Nat} {a : Addr} {u : HO} (e : φ.m[n]? = some (some a)) : ∀ b w, Off φ b → Rx H b w → Off φ b ∧ Rx (upd H a u) b w := fun b w ob r => ⟨ob, rd_write (r := r) fun z => ob.1 (z ▸ List.mem_of_getElem? e)⟩
theorem evApp {o e : E} {σ : L2.St} {H : Hp} {Q : VK} (t : tE Z W (.app o e) σ H Q) : tBM X.K "list" rAppend (tE Z W o) (tL Z W [e]) σ H Q := by
  refine t.seq (rel' := RpS Z.cl) (f := fun s ρ h1 => (isL s h1).bind fun _ h1 => (evE Z.G Z.C ρ h1 e).bind fun u h2 => (asT u h2).bind fun v h2 => appF s v h2) (fun ρ h => by simp only [evE]) fun s h1 φ1 H1 x ρ re hs r m => ?_
  obtain ⟨ks, e0, m⟩ := m.isL
  refine ⟨sql_of hs r e0, φ1, h1, ρ, re, hs, ?_⟩
  simp only [evS]
  have m' : MW Z.cl Z.xr (RpS Z.cl) W σ φ1 H1 ((evE Z.G Z.C ρ h1 e).bind fun u h2 => (asT u h2).bind fun v h2 => appF s v h2) Q := m
  cases ee : evE Z.G Z.C ρ h1 e with
  | bad => rw [ee] at m'; exact m'.elim
  | ex c fs h' => rw [ee] at m'; exact m'
  | ok u h2 =>
    rw [ee] at m'
    simp only [R.bind_ok] at m' ⊢
    intro φ2 H2 vs g hs2 r2
    obtain ⟨y, _, ev, r2, e2⟩ := r2
    cases e2
    subst ev
    have m2a := m'.grow g
    obtain ⟨v, eu, m2⟩ := m2a.asT
    subst eu
    clear m2a m'
    unfold appF at m2
    cases s with
    | t _ => exact m2.elim
    | r n =>
      dsimp only at m2
      cases eh : h2[n]? with
      | none => rw [eh] at m2; exact m2.elim
      | some ob =>
        rw [eh] at m2
        cases ob <;> first | exact m2.elim | skip
        rename_i xs
        dsimp only at m2
        split at m2
        · rename_i hl
          obtain ⟨a, ex, ea, w, hw, q⟩ := at_ref hs2 (g.s r) eh (by intro z; cases z)
          refine ⟨a, w, y, ex, rfl, hw, by rw [← q.length]; exact lim_le hl, ?_⟩
          refine m2 φ2 _ _ (Grow.write (List.mem_of_getElem? ea)) (hs2.write ea ⟨w ++ [y], upd_same, Rps.append (Rps.move (off_self ea) q) (.cons (Rp.move (off_self ea) r2) .nil)⟩) ?_
          show RpF Z.cl φ2 _ _ _
          rw [RpF, Rp]
        · exact m2.elim
end
end My

/-! MiniPy: pop, freezing, what is walked, comprehensions, calls. -/
namespace My
open PySem L2 PyProof.Rows
section
variable {X : Cx} {Z : Zs} {W : WX}
theorem evPop {o e : E} {σ : L2.St} {H : Hp} {Q : VK} (t : tE Z W (.popat o e) σ H Q) : tBM X.K "list" rPopAt (tE Z W o) (tL Z W [e]) σ H Q := by
  refine t.seq (rel' := RpS Z.cl) (f := fun s ρ h1 => (isL s h1).bind fun _ h1 => (evE Z.G Z.C ρ h1 e).bind fun u h2 => (asI u h2).bind fun i h2 => popF s i h2) (fun ρ h => by simp only [evE]) fun s h1 φ1 H1 x ρ re hs r m => ?_
  obtain ⟨ks, e0, m'⟩ := m.isL
  clear m
  refine ⟨sql_of hs r e0, φ1, h1, ρ, re, hs, ?_⟩
  simp only [evS]
  cases ee : evE Z.G Z.C ρ h1 e with
  | bad => rw [ee] at m'; exact m'.elim
  | ex c fs h' => rw [ee] at m'; exact m'
  | ok u h2 =>
    rw [ee] at m'
    simp only [R.bind_ok] at m' ⊢
    intro φ2 H2 vs g hs2 r2
    obtain ⟨y, _, ev, r2, e2⟩ := r2
    cases e2
    subst ev
    have m2a := m'.grow g
    obtain ⟨i, eu, m2⟩ := m2a.asI
    subst eu
    clear m2a m'
    unfold popF at m2
    cases s with
    | t _ => exact m2.elim
    | r n =>
      dsimp only at m2
      cases eh : h2[n]? with
      | none => rw [eh] at m2; exact m2.elim
      | some ob =>
        rw [eh] at m2
        cases ob <;> first | exact m2.elim | skip
        rename_i xs
        dsimp only at m2
        cases ek : seqIndex? i xs.length with
        | none => rw [ek] at m2; exact m2.elim
        | some k =>
          rw [ek] at m2
          dsimp only at m2
          cases ex' : xs[k]? with
          | none => rw [ex'] at m2; exact m2.elim
          | some y' =>
            rw [ex'] at m2
            dsimp only at m2
            split at m2
            · rename_i hl
              simp only [Bool.and_eq_true, decide_eq_true_eq] at hl
              obtain ⟨a, ex, ea, w, hw, q⟩ := at_ref hs2 (g.s r) eh (by intro z; cases z)
              obtain ⟨yv, ey, ry⟩ := q.getE ex'
              have hy := int_v r2
              subst hy
              refine ⟨a, w, i, k, yv, ex, rfl, hw, hl.1, hl.2, by rw [← q.length]; exact ek, ey, ?_⟩
              have er : ∀ {xs : List T} {vs : List V} (k : Nat), Rps Z.cl (Off φ2) H2 xs vs → Rps Z.cl (Off φ2) H2 (xs.eraseIdx k) (vs.eraseIdx k) := by
                intro xs vs k h
                rw [List.eraseIdx_eq_take_drop_succ, List.eraseIdx_eq_take_drop_succ]
                exact Rps.append (h.take k) (h.drop (k + 1))
              exact m2 φ2 _ _ (Grow.write (List.mem_of_getElem? ea)) (hs2.write ea ⟨w.eraseIdx k, upd_same, Rps.move (off_self ea) (er k q)⟩) (Rp.move (off_self ea) ry)
            · exact m2.elim
/-- freezing says nothing to the model -/
theorem evFz {m : E} {σ : L2.St} {H : Hp} {Q : VK} (t : tE Z W (.fz m) σ H Q) : tE Z W m σ H Q := by
  obtain ⟨φ, h, ρ, re, hs, t⟩ := t
  refine ⟨φ, h, ρ, re, hs, ?_⟩
  simp only [evE] at t
  refine t.bind0 fun s h1 φ1 H1 v _ g hs1 r m1 => ?_
  unfold fzF at m1
  cases s with
  | t u => exact m1 φ1 H1 v g hs1 r
  | r n =>
    dsimp only at m1
    obtain ⟨u, e1, m2⟩ := m1.lift
    clear m1
    have hn : ∃ o, h1[n]? = some o ∧ o ≠ .dead := by
      cases q : h1[n]? with
      | none => simp only [dref, q] at e1; cases e1
      | some o =>
        refine ⟨o, rfl, ?_⟩
        intro z
        subst z
        simp only [dref, q] at e1
        cases e1
    obtain ⟨o, eo, ho⟩ := hn
    obtain ⟨a, ex, ea, w⟩ := at_ref hs1 r eo ho
    have ri := RpS.dref hs1 r e1
    have fin : ∀ φ', (∀ b u, Off φ1 b → Rx H1 b u → Off φ' b ∧ Rx H1 b u) → Off φ' a → RpF Z.cl φ' H1 u v := fun φ' k oa => by
      subst ex
      cases u with
      | non => cases ri
      | bl _ => cases ri
      | int _ => cases ri
      | str _ => cases ri
      | tup xs => rw [RpF, Rp]; obtain ⟨b, vs, eb, ob, rd, q⟩ := ri; exact ⟨b, vs, eb, (k b _ ob rd).1, rd, Rps.move k q⟩
      | lst xs => rw [RpF, Rp]; obtain ⟨b, vs, eb, rd, q⟩ := ri; cases eb; exact ⟨a, vs, rfl, oa, rd, Rps.move k q⟩
      | dct xs us => rw [RpF, Rp]; obtain ⟨b, vs, eb, rd, ek, q⟩ := ri; cases eb; exact ⟨a, vs, rfl, oa, rd, ek, Rps.move k q⟩
      | obj c ns us => rw [RpF, Rp]; obtain ⟨b, C, dx, vs, eb, ec, rd, ek, q⟩ := ri; cases eb; exact ⟨a, C, dx, vs, rfl, oa, ec, rd, ek, Rps.move k q⟩
    have hr : a ∉ φ1.r := fun z => (hs1.res a z).2 (List.mem_of_getElem? ea)
    split at m2
    · rename_i hc
      refine m2 (φ1.take n) H1 v (g.take (by rw [hs.len]; exact Nat.le_of_eq hc.1.symm)) (hs1.take n) (fin _ (fun b u ob rd => ⟨off_take ob, rd⟩) ⟨fun z => ?_, hr⟩)
      obtain ⟨k, hk, ez⟩ := List.mem_iff_getElem.mp z
      have hk' : k < n := by rw [List.length_take] at hk; omega
      have ez' : φ1.m[k]? = some (some a) := by
        rw [← List.getElem?_take_of_lt hk', List.getElem?_eq_getElem hk, ez]
      have := hs1.inj k n a ez' ea
      omega
    · refine m2 (φ1.kill n) H1 v (g.trans Grow.kill) hs1.kill (fin _ (fun b u ob rd => ⟨off_set ob, rd⟩) ⟨fun z => ?_, hr⟩)
      obtain ⟨k, hk, ez⟩ := List.mem_iff_getElem.mp z
      have hk' : k < φ1.m.length := by rw [List.length_set] at hk; exact hk
      by_cases e : n = k
      · subst e
        rw [List.getElem_set_self] at ez
        cases ez
      · rw [List.getElem_set_ne e] at ez
        have ez' : φ1.m[k]? = some (some a) := by rw [List.getElem?_eq_getElem hk', ez]
        exact e (hs1.inj n k a ea ez')

/-! ### what is walked -/
/-- how a later state may differ -/
structure Mv (φ : Phi) (H : Hp) (φ' : Phi) (H' : Hp) : Prop where
  mv : ∀ a u, Off φ a → Rx H a u → Off φ' a ∧ Rx H' a u
  old : ∀ (n : Nat) (a : Addr), n < φ.m.length → φ'.m[n]? = some (some a) → φ.m[n]? = some (some a)
  len : φ.m.length ≤ φ'.m.length
theorem Grow.mv {φ φ' : Phi} {H H' : Hp} (g : Grow φ H φ' H') : Mv φ H φ' H' := ⟨fun _ _ o r => g.off o r, g.old, g.len⟩
theorem Mv.trans {φ φ1 φ2 : Phi} {H H1 H2 : Hp} (a : Mv φ H φ1 H1) (b : Mv φ1 H1 φ2 H2) : Mv φ H φ2 H2 :=
  ⟨fun x u o r => let z := a.mv x u o r; b.mv x u z.1 z.2, fun n x hn h => a.old n x hn (b.old n x (Nat.lt_of_lt_of_le hn a.len) h), Nat.le_trans a.len b.len⟩
theorem Mv.s {cl : Cl} {φ φ' : Phi} {H H' : Hp} (g : Mv φ H φ' H') {s : S} {v : V} (h : RpS cl φ H s v) : RpS cl φ' H' s v := by
  cases s with
  | t t => exact Rp.move g.mv h
  | r n => exact ⟨Nat.lt_of_lt_of_le h.1 g.len, fun a e => h.2 a (g.old n a h.1 e)⟩
theorem Mv.e {cl : Cl} {φ φ' : Phi} {H H' : Hp} (g : Mv φ H φ' H') {ρ : En} {σ : L2.St} (h : RpE cl φ H ρ σ) : RpE cl φ' H' ρ σ :=
  ⟨h.len, fun i s e => let ⟨v, e', r⟩ := h.get i s e; ⟨v, e', g.s r⟩⟩
theorem Mv.hold {φ : Phi} {H : Hp} {D : Addr} {o : HO} (n : H D = none) : Mv φ H (φ.hold D) (upd H D o) :=
  ⟨fun a u ob r => ⟨off_hold ob fun e => rd_some r (e ▸ n), rd_upd n r⟩, fun _ _ _ h => h, Nat.le_refl _⟩
/-- the model's iterator gives these items -/
structure Wk (cl : Cl) (φ : Phi) (H : Hp) (p : List T × Option (Nat × MO)) (J : L2.It) : Prop where
  len : p.1.length ≤ sizeLine
  go : ∀ φ' h' H' i t, Mv φ H φ' H' → (∀ a u, some a ∉ φ.m → H a = some u → H' a = some u) → Hs cl φ' h' H' → gOk p.2 h' = true → p.1[i]? = some t → J.go i H' ∧ ∀ x H'', J.yld i H' x H'' → Grow φ' H' φ' H'' ∧ Hs cl φ' h' H'' ∧ RpF cl φ' H'' t x
  stop : ∀ φ' h' H', Mv φ H φ' H' → (∀ a u, some a ∉ φ.m → H a = some u → H' a = some u) → Hs cl φ' h' H' → gOk p.2 h' = true → J.stop p.1.length H'
section
variable {cl : Cl} {φ : Phi} {H : Hp} {h : Hm} {K : PySem.W.Frag}
theorem wk_lst {xs : List T} {a : Addr} {vs : List V} (o : Off φ a) (rd : Rx H a (.lst vs)) (q : Rps cl (Off φ) H xs vs) (hz : vs.length ≤ sizeLine) : Wk cl φ H (xs, none) (Itl K a) where
  len := by rw [q.length]; exact hz
  go := fun φ' h' H' i t g _ hs _ e => by
    have rd' := (g.mv a _ o rd).2
    have q' := Rps.move g.mv q
    obtain ⟨v, ev, r⟩ := q'.getE e
    refine ⟨⟨vs, v, .inl rd'.rd, ev⟩, fun x H'' y => ?_⟩
    obtain ⟨e1, e2⟩ := y
    subst e1
    have := e2 vs (.inl rd'.rd)
    rw [ev] at this
    cases this
    exact ⟨Grow.refl _ _, hs, r⟩
  stop := fun φ' h' H' g _ hs _ => ⟨vs, .inl (g.mv a _ o rd).2.rd, by rw [q.length]; exact Nat.le_refl _⟩
theorem wk_tup {xs : List T} {a : Addr} {vs : List V} (o : Off φ a) (rd : Rx H a (.tup vs)) (q : Rps cl (Off φ) H xs vs) (hz : vs.length ≤ sizeLine) : Wk cl φ H (xs, none) (Itt K a) where
  len := by rw [q.length]; exact hz
  go := fun φ' h' H' i t g _ hs _ e => by
    have rd' := (g.mv a _ o rd).2
    have q' := Rps.move g.mv q
    obtain ⟨v, ev, r⟩ := q'.getE e
    refine ⟨⟨vs, v, .inl rd'.rd, ev⟩, fun x H'' y => ?_⟩
    obtain ⟨e1, e2⟩ := y
    subst e1
    have := e2 vs (.inl rd'.rd)
    rw [ev] at this
    cases this
    exact ⟨Grow.refl _ _, hs, r⟩
  stop := fun φ' h' H' g _ hs _ => ⟨vs, .inl (g.mv a _ o rd).2.rd, by rw [q.length]; exact Nat.le_refl _⟩
theorem wk_ref {xs : List T} {a : Addr} {n : Nat} (hs0 : Hs cl φ h H) (e0 : h[n]? = some (.lst xs)) (ea : φ.m[n]? = some (some a)) (hz : xs.length ≤ sizeLine) : Wk cl φ H (xs, some (n, .lst xs)) (Itl K a) where
  len := hz
  go := fun φ' h' H' i t g _ hs gd e => by
    have hn : n < φ.m.length := (List.getElem?_eq_some_iff.mp ea).1
    simp only [gOk] at gd
    cases eh : h'[n]? with
    | none => rw [eh] at gd; cases gd
    | some o' =>
      rw [eh] at gd
      have := MO.beq_eq gd
      subst this
      rcases hs.get n _ eh with ⟨z, _⟩ | ⟨b, eb, w, hw, q⟩
      · cases z
      · have := g.old n b hn eb
        rw [ea] at this
        cases this
        obtain ⟨v, ev, r⟩ := q.getE e
        refine ⟨⟨w, v, .inl (.inl hw), ev⟩, fun x H'' y => ?_⟩
        obtain ⟨e1, e2⟩ := y
        subst e1
        have := e2 w (.inl (.inl hw))
        rw [ev] at this
        cases this
        exact ⟨Grow.refl _ _, hs, r⟩
  stop := fun φ' h' H' g _ hs gd => by
    have hn : n < φ.m.length := (List.getElem?_eq_some_iff.mp ea).1
    simp only [gOk] at gd
    cases eh : h'[n]? with
    | none => rw [eh] at gd; cases gd
    | some o' =>
      rw [eh] at gd
      have := MO.beq_eq gd
      subst this
      rcases hs.get n _ eh with ⟨z, _⟩ | ⟨b, eb, w, hw, q⟩
      · cases z
      · have := g.old n b hn eb
        rw [ea] at this
        cases this
        exact ⟨w, .inl (.inl hw), by rw [q.length]; exact Nat.le_refl _⟩
theorem wk_str {x : Str} (hz : x.length ≤ sizeLine) : Wk cl φ H (chrs x, none) (Its x) where
  len := by simp only [chrs, List.length_map, Array.length_toList]; exact hz
  go := fun φ' h' H' i t g _ hs _ e => by
    simp only [chrs, List.getElem?_map, Array.getElem?_toList, Option.map_eq_some_iff] at e
    obtain ⟨c, ec, et⟩ := e
    subst et
    refine ⟨(Array.getElem?_eq_some_iff.mp ec).1, fun y H'' z => ?_⟩
    obtain ⟨e1, c', e2, e3⟩ := z
    subst e1
    rw [ec] at e2
    cases e2
    exact ⟨Grow.refl _ _, hs, by rw [RpF, Rp]; exact e3⟩
  stop := fun φ' h' H' g _ hs _ => by
    show x.cps.size ≤ (chrs x).length
    simp only [chrs, List.length_map, Array.length_toList]
    exact Nat.le_refl _
theorem wk_rng {lo hi : Int} (hz : (hi - lo).toNat ≤ sizeLine) : Wk cl φ H (rngT lo (hi - lo).toNat, none) (Itr lo (hi - lo).toNat) where
  len := by simp only [rngT, List.length_map, List.length_range]; exact hz
  go := fun φ' h' H' i t g _ hs _ e => by
    simp only [rngT, List.getElem?_map, Option.map_eq_some_iff] at e
    obtain ⟨c, ec, et⟩ := e
    subst et
    have hi' := (List.getElem?_eq_some_iff.mp ec).1
    rw [List.getElem?_eq_getElem hi'] at ec
    simp only [List.getElem_range, Option.some.injEq] at ec
    subst ec
    rw [List.length_range] at hi'
    refine ⟨hi', fun y H'' z => ?_⟩
    obtain ⟨e1, e2⟩ := z
    subst e1
    exact ⟨Grow.refl _ _, hs, by rw [RpF, Rp]; exact e2⟩
  stop := fun φ' h' H' g _ hs _ => by
    show _ ≤ (rngT lo (hi - lo).toNat).length
    simp only [rngT, List.length_map, List.length_range]
    exact Nat.le_refl _
end
abbrev tI (Z : Zs) (W : WX) (it : It) : TI := tG Z W (Wk Z.cl) fun ρ h => evIt Z.G Z.C ρ h it
theorem pi_weak {tg e : Expr} {t t' : TI} (h : PI X tg e t) (k : ∀ σ H R, t' σ H R → t σ H R) : PI X tg e t' := ⟨fun pins s σ H R I q => h.run pins s σ H R I (k σ H R q)⟩
/-- a list, a tuple or a text -/
theorem pi_seq {tg l : Expr} {tl : TE} (hl : PE X l tl) : PI X tg l (fun σ H R => tl σ H fun x H1 => (∃ a xs, x = .ref a ∧ xs.length = xs.length ∧ SqL X.K H1 a xs ∧ (xs.length ≤ sizeLine → R (Itl X.K a) H1)) ∨ (∃ a xs, x = .ref a ∧ SqT X.K H1 a xs ∧ (xs.length ≤ sizeLine → R (Itt X.K a) H1)) ∨ ∃ y, x = .str y ∧ R (Its y) H1) := by
  refine ⟨fun pins s σ H R I h => thn (hl.run pins s σ H _ I h) fun v s1 ⟨x, H1, I1, r1, q1⟩ => ?_⟩
  have new : ∀ b ∈ [s1.heap.objs.size], FpOk X pins H1 b := fun b hb => by
    rw [List.mem_singleton.mp hb]
    exact I1.fpOk (Nat.le_refl _) (I1.hok.fresh (Nat.le_refl _))
  have kept : ∀ ob : Obj, Inv X pins σ H1 { s1 with heap := s1.heap.push ob } := fun ob => I1.kept (t' := s1.toks) fun b o e => Heap.get?_push_of_some _ e
  rcases q1 with ⟨a, xs, ex, _, hq, q⟩ | ⟨a, xs, ex, hq, q⟩ | ⟨y, ex, q⟩
  · subst ex
    cases r1
    obtain ⟨its, rv, pl, hz⟩ := I1.list hq
    exact wpAny_pyIter_list pl.isList ⟨_, _, _, _, H1, rfl, kept _, turn_list a _, ⟨_, Heap.get?_push_size _ rfl, rfl, rfl⟩, new, q hz⟩
  · subst ex
    cases r1
    obtain ⟨its, rv, pl, hz⟩ := I1.tuple hq
    exact wpAny_pyIter_tuple (show s1.heap.IsTuple a its.toArray from pl) ⟨_, _, _, _, H1, rfl, kept _, turn_tuple a _, ⟨_, Heap.get?_push_size _ rfl, rfl, rfl⟩, new, q hz⟩
  · subst ex
    obtain ⟨tk, rfl⟩ := r1
    by_cases ha : y.cps.all (· < 128) = true
    · exact wpAny_pyIter_ascii ha (pi_one (tk := s1.toks) I1 _ (turn_str _ y tk "str_ascii_iterator" (.inl rfl)) ⟨_, Heap.get?_push_size _ rfl, rfl, rfl⟩ q)
    · exact wpAny_pyIter_wide (by simpa using ha) (pi_one (tk := s1.toks) I1 _ (turn_str _ y tk "str_iterator" (.inr rfl)) ⟨_, Heap.get?_push_size _ rfl, rfl, rfl⟩ q)
theorem si_of {tg e : Expr} {m : E} (he : PE X e (tE Z W m)) : PI X tg e (tI Z W (.of m)) :=
  pi_weak (pi_seq he) fun σ H R t => by
    refine t.seq (rel' := RpS Z.cl) (f := fun s ρ h1 => liftO (itemsOf s h1) h1) (fun ρ h => by simp only [evIt]) fun s h1 φ1 H1 x ρ re hs r m => ?_
    cases s with
    | t v =>
      cases v with
      | non | bl _ | int _ | dct _ _ | obj _ _ _ => exact m.elim
      | lst xs =>
        have r' : RpF Z.cl φ1 H1 (.lst xs) x := r
        rw [RpF, Rp] at r'
        obtain ⟨a, vs, ex, o, rd, q⟩ := r'
        exact .inl ⟨a, vs, ex, rfl, .inl rd.rd, fun hz => m φ1 H1 _ (Grow.refl _ _) hs (wk_lst o rd q hz)⟩
      | tup xs =>
        have r' : RpF Z.cl φ1 H1 (.tup xs) x := r
        rw [RpF, Rp] at r'
        obtain ⟨a, vs, ex, o, rd, q⟩ := r'
        exact .inr (.inl ⟨a, vs, ex, .inl rd.rd, fun hz => m φ1 H1 _ (Grow.refl _ _) hs (wk_tup o rd q hz)⟩)
      | str y =>
        have r' : RpF Z.cl φ1 H1 (.str y) x := r
        rw [RpF, Rp] at r'
        simp only [itemsOf] at m
        split at m
        · exact .inr (.inr ⟨y, r', m φ1 H1 _ (Grow.refl _ _) hs (wk_str (lim_le (by assumption)))⟩)
        · exact m.elim
    | r n =>
      simp only [itemsOf] at m
      cases eh : h1[n]? with
      | none => rw [eh] at m; exact m.elim
      | some o =>
        rw [eh] at m
        cases o <;> first | exact m.elim | skip
        rename_i xs
        obtain ⟨a, ex, ea, w, hw, q⟩ := at_ref hs r eh (by intro z; cases z)
        exact .inl ⟨a, w, ex, rfl, .inl (.inl hw), fun hz => m φ1 H1 _ (Grow.refl _ _) hs (wk_ref hs eh ea (by rw [q.length]; exact hz))⟩
theorem rng_ok {lo hi : Int} {p : List T × Option (Nat × MO)} (e : rngO lo hi = some p) : -(2 ^ 62) ≤ lo ∧ lo < 2 ^ 62 ∧ -(2 ^ 62) ≤ hi ∧ hi < 2 ^ 62 ∧ (hi - lo).toNat ≤ sizeLine ∧ p = (rngT lo (hi - lo).toNat, none) := by
  unfold rngO at e
  split at e
  · rename_i hc
    simp only [Bool.and_eq_true, decide_eq_true_eq] at hc
    cases e
    exact ⟨hc.1.1.1.1, hc.1.1.1.2, hc.1.1.2, hc.1.2, lim_le hc.2, rfl⟩
  · cases e
variable {a b : Expr} {ma mb : E} {p pos : Pos} {tg : Expr}
theorem si_rng1 (hg : Gl X "range") (hm : X.mg "range" = none) (ha : PA X [a] (tL Z W [ma])) (hs : starEach [a] X.env = [(false, eval a X.env)]) : PI X tg (.Call (.Name "range" p) [a] [] pos) (tI Z W (.rng1 ma)) :=
  pi_weak (pi_range1 hg hm ha hs) fun σ H R t => by
    refine t.seq (rel' := RpSs Z.cl) (f := fun ss ρ h1 => match ss with | [.t (.int i)] => liftO (rngO 0 i) h1 | _ => .bad) (fun ρ h => ?_) fun ss h1 φ1 H1 vs ρ re hs r m => ?_
    · simp only [evIt, evS]
      cases evE Z.G Z.C ρ h ma with
      | ok s h1 =>
        cases s with
        | r n => rfl
        | t v => cases v <;> rfl
      | ex _ _ _ => rfl
      | bad => rfl
    · rcases ss with _ | ⟨s, _ | ⟨_, _⟩⟩
      · exact m.elim
      · cases s with
        | r n => exact m.elim
        | t v =>
          cases v <;> first | exact m.elim | skip
          rename_i i
          obtain ⟨v, r', ev, r1, e2⟩ := r
          cases e2
          subst ev
          have hv := int_v r1
          subst hv
          dsimp only at m
          cases e : rngO 0 i with
          | none => rw [e] at m; exact m.elim
          | some p =>
            rw [e] at m
            obtain ⟨h1', h2', h3', h4', h5', ep⟩ := rng_ok e
            subst ep
            have k := m φ1 H1 _ (Grow.refl _ _) hs (wk_rng h5')
            rw [Int.sub_zero] at k
            exact ⟨i, rfl, h3', h4', k⟩
      · cases s with
        | r n => exact m.elim
        | t v => cases v <;> exact m.elim
theorem si_rng2 (hg : Gl X "range") (hm : X.mg "range" = none) (ha : PA X [a, b] (tL Z W [ma, mb])) (hs : starEach [a, b] X.env = [(false, eval a X.env), (false, eval b X.env)]) (hs2 : starEach [b] X.env = [(false, eval b X.env)]) : PI X tg (.Call (.Name "range" p) [a, b] [] pos) (tI Z W (.rng2 ma mb)) :=
  pi_weak (pi_range2 hg hm ha hs hs2) fun σ H R t => by
    refine t.seq (rel' := RpSs Z.cl) (f := fun ss ρ h1 => match ss with | [.t (.int i), .t (.int j)] => liftO (rngO i j) h1 | _ => .bad) (fun ρ h => ?_) fun ss h1 φ1 H1 vs ρ re hs r m => ?_
    · simp only [evIt, evS]
      cases evE Z.G Z.C ρ h ma with
      | ok s h1 =>
        simp only [My.R.bind_ok]
        cases evE Z.G Z.C ρ h1 mb with
        | ok u h2 =>
          simp only [My.R.bind_ok]
          cases s with
          | r n => rfl
          | t v => cases v <;> first | rfl | (cases u with | r n => rfl | t w => cases w <;> rfl)
        | ex _ _ _ => rfl
        | bad => rfl
      | ex _ _ _ => rfl
      | bad => rfl
    · have key : ∃ i j, ss = [.t (.int i), .t (.int j)] := by
        revert m
        split
        · intro _; exact ⟨_, _, rfl⟩
        · intro m; exact m.elim
      obtain ⟨i, j, es⟩ := key
      subst es
      obtain ⟨v, r', ev, r1, v2, r2', e2, r2, e3⟩ := r
      cases e3
      subst e2
      subst ev
      have hv := int_v r1
      have hv2 := int_v r2
      subst hv
      subst hv2
      dsimp only at m
      cases e : rngO i j with
      | none => rw [e] at m; exact m.elim
      | some p =>
        rw [e] at m
        obtain ⟨h1', h2', h3', h4', h5', ep⟩ := rng_ok e
        subst ep
        exact ⟨i, j, rfl, ⟨h1', h2', h3', h4'⟩, m φ1 H1 _ (Grow.refl _ _) hs (wk_rng h5')⟩

/-! ### targets -/
def Tg.slots : Tg → List Nat
  | .name i => [i]
  | .tup is => is
theorem wipe_set (σ : L2.St) (i : Nat) (x : Option V) : ∀ vs : List Nat, L2.wipe (σ.set i x) vs = if i ∈ vs then L2.wipe σ vs else (L2.wipe σ vs).set i x
  | [] => by simp [L2.wipe]
  | v :: vs => by
    have ih := wipe_set σ i x vs
    unfold L2.wipe
    rw [ih]
    by_cases h : i ∈ vs
    · rw [if_pos h, if_pos (List.mem_cons_of_mem _ h)]
    · rw [if_neg h]
      by_cases e : i = v
      · subst e
        rw [if_pos List.mem_cons_self, List.set_set]
      · rw [if_neg (by simp [e, h]), List.set_comm _ _ e]
abbrev Same' (is : List Nat) (σ σ' : L2.St) : Prop := ∀ vs, (∀ i ∈ is, i ∈ vs) → L2.wipe σ' vs = L2.wipe σ vs
abbrev tTg (Z : Zs) (W : WX) (tg : Tg) : TG := fun v σ H Q => ∃ φ h ρ s ρ', RpE Z.cl φ H ρ σ ∧ Hs Z.cl φ h H ∧ RpS Z.cl φ H s v ∧ setTg tg s ρ = some ρ' ∧
  ∀ φ' H' σ', Grow φ H φ' H' → Hs Z.cl φ' h H' → RpE Z.cl φ' H' ρ' σ' → Same' tg.slots σ σ' → Q σ' H'
theorem pg_weak {tg : Expr} {t t' : TG} (h : PG X tg t) (k : ∀ v σ H Q, t' v σ H Q → t v σ H Q) : PG X tg t' := ⟨fun pins s σ H v u Q I r q => h.run pins s σ H v u Q I r (k v σ H Q q)⟩
theorem RpE.set {cl : Cl} {φ : Phi} {H : Hp} {ρ : En} {σ : L2.St} {i : Nat} {s : S} {v : V} (r : RpE cl φ H ρ σ) (q : RpS cl φ H s v) : RpE cl φ H (ρ.set i (some s)) (σ.set i (some v)) where
  len := by simp [r.len]
  get := fun j u e => by
    by_cases h : i = j
    · subst h
      by_cases hi : i < ρ.length
      · rw [List.getElem?_set_self hi] at e
        cases e
        exact ⟨v, List.getElem?_set_self (by rw [← r.len]; exact hi), q⟩
      · rw [List.getElem?_eq_none (by simp; omega)] at e; cases e
    · rw [List.getElem?_set_ne h] at e
      rw [List.getElem?_set_ne h]
      exact r.get j u e
theorem sg_name {i : Nat} {x : Str} {px : Pos} (hN : X.N.Nodup) (hi : X.N[i]? = some x) (hx : Loc X.env.scope x) (hf : X.fn x = true ∨ X.env.scope.names.lookup x = some .local) : PG X (.Name x px) (tTg Z W (.name i)) :=
  pg_weak (pg_name hN hi hx hf) fun v σ H Q ⟨φ, h, ρ, s, ρ', re, hs, r, e, k⟩ => by
    cases e
    exact k φ H _ (Grow.refl _ _) hs (re.set r) fun vs hv => by rw [wipe_set, if_pos (hv i (by simp [Tg.slots]))]
/-- several names -/
def setTs : List Nat → List T → En → En
  | i :: is, t :: ts, ρ => setTs is ts (ρ.set i (some (.t t)))
  | _, _, ρ => ρ
theorem setTs_eq : ∀ (is : List Nat) (ts : List T) (ρ : En), (List.zip is ts).foldl (fun ρ p => ρ.set p.1 (some (.t p.2))) ρ = setTs is ts ρ
  | [], _, _ => by simp [setTs]
  | _ :: _, [], _ => by simp [setTs]
  | i :: is, t :: ts, ρ => by simp only [List.zip_cons_cons, List.foldl_cons, setTs]; exact setTs_eq is ts _
abbrev tTgs (Z : Zs) (is : List Nat) : TGs := fun vs σ H Q => ∃ φ h ρ ts, RpE Z.cl φ H ρ σ ∧ Hs Z.cl φ h H ∧ Rps Z.cl (Off φ) H ts vs ∧ ts.length = is.length ∧
  ∀ σ', RpE Z.cl φ H (setTs is ts ρ) σ' → Same' is σ σ' → Q σ' H
theorem pgs_weak {tg : List Expr} {t t' : TGs} (h : PGs X tg t) (k : ∀ v σ H Q, t' v σ H Q → t v σ H Q) : PGs X tg t' := ⟨fun pins s σ H v u Q I r q => h.run pins s σ H v u Q I r (k v σ H Q q)⟩
theorem sgs_nil : PGs X [] (tTgs Z []) := pgs_weak pgs_nil fun v σ H Q ⟨φ, h, ρ, ts, re, hs, r, e, k⟩ => by
  cases ts with
  | cons _ _ => cases e
  | nil => exact ⟨r.inv0, k σ re fun _ _ => rfl⟩
theorem sgs_cons {i : Nat} {x : Str} {px : Pos} {es : List Expr} {is : List Nat} (hN : X.N.Nodup) (hi : X.N[i]? = some x) (hx : Loc X.env.scope x) (hf : X.fn x = true ∨ X.env.scope.names.lookup x = some .local) (h : PGs X es (tTgs Z is)) :
    PGs X (.Name x px :: es) (tTgs Z (i :: is)) := pgs_weak (pgs_cons (pg_name hN hi hx hf) h) fun v σ H Q ⟨φ, h, ρ, ts, re, hs, r, e, k⟩ => by
  cases ts with
  | nil => cases e
  | cons t ts =>
    obtain ⟨v', r', ev, p, q⟩ := r.inv
    exact ⟨v', r', ev, φ, h, _, ts, re.set (s := .t t) p, hs, q, by simpa using e, fun σ' re' sm => k σ' re' fun vs hv => by
      rw [sm vs fun j hj => hv j (List.mem_cons_of_mem _ hj), wipe_set, if_pos (hv i List.mem_cons_self)]⟩
theorem sg_tup {es : List Expr} {is : List Nat} {kk : Nat} {px : Pos} (hc : X.calm = true) (h : PGs X es (tTgs Z is)) (hn : (assignEach es X.env).length = is.length) (hst : (assignEach es X.env).findIdx? (·.1) = none) :
    PG X (.Tuple es kk px) (tTg Z W (.tup is)) := pg_weak (pg_tup (n := is.length) hc h hn hst) fun v σ H Q ⟨φ, h, ρ, s, ρ', re, hs, r, e, k⟩ => by
  simp only [setTg] at e
  cases s with
  | r n => cases e
  | t u =>
    cases u <;> first | (cases e; done) | skip
    rename_i xs
    dsimp only at e
    split at e
    · rename_i hl
      cases e
      have r' : RpF Z.cl φ H (.tup xs) v := r
      rw [RpF, Rp] at r'
      obtain ⟨a, vs, ev, o, rd, q⟩ := r'
      refine ⟨a, vs, ev, .inl rd.rd, by rw [← q.length]; exact hl, φ, h, ρ, xs, re, hs, q, hl, fun σ' re' sm => ?_⟩
      rw [← setTs_eq] at re'
      exact k φ H σ' (Grow.refl _ _) hs re' sm
    · cases e

/-! ### comprehensions -/
theorem RpE.wipe {cl : Cl} {φ : Phi} {H : Hp} {ρ : En} {σ : L2.St} (r : RpE cl φ H ρ σ) : ∀ vs : List Nat, RpE cl φ H (wipeE ρ vs) (L2.wipe σ vs)
  | [] => r
  | v :: vs => by
    have ih := RpE.wipe r vs
    unfold wipeE L2.wipe
    refine ⟨by simp [ih.len], fun i s e => ?_⟩
    by_cases h : v = i
    · subst h
      by_cases hi : v < (wipeE ρ vs).length
      · rw [List.getElem?_set_self hi] at e; cases e
      · rw [List.getElem?_eq_none (by simp; omega)] at e; cases e
    · rw [List.getElem?_set_ne h] at e
      rw [List.getElem?_set_ne h]
      exact ih.get i s e
abbrev tCs (Z : Zs) (W : WX) (cs : List E) : TT := tG Z W eqB fun ρ h => evCs Z.G Z.C ρ h cs
/-- what a turn of a comprehension does -/
def turnE (G : Ctx) (C : Orc) (ρ : En) (own : List Nat) (tg : Tg) (cs : List E) (e : E) (x : T) (h : Hm) : R (Option T) :=
  (liftO (setTg tg (.t x) (wipeE ρ own)) h).bind fun ρ1 h => (evCs G C ρ1 h cs).bind fun k h1 => if k then (evE G C ρ1 h1 e).bind fun s h2 => (asT s h2).bind fun v h2 => .ok (some v) h2 else .ok none h1
theorem Grow.dropD {φ φ' : Phi} {H H' : Hp} (g : Grow φ H φ' H') : Grow φ.drop H φ'.drop H' := ⟨g.len, g.old, g.new, g.keep, by show φ'.r.tail = φ.r.tail; rw [g.res]⟩
theorem Grow.writeD {φ φ' : Phi} {H H' : Hp} {D : Addr} {o : HO} (g : Grow φ H φ' H') (n : H D = none) : Grow φ H φ' (upd H' D o) :=
  ⟨g.len, g.old, g.new, fun a u h r => by
    have ne : a ≠ D := fun e => by rw [e, n] at r; cases r
    rw [upd_ne ne]; exact g.keep a u h r, g.res⟩
theorem Mv.writeD {φ : Phi} {H : Hp} {D : Addr} {o : HO} (m : D ∈ φ.r) : Mv φ H φ (upd H D o) := ⟨fun a u ob r => ⟨ob, rd_write (r := r) fun e => ob.2 (e ▸ m)⟩, fun _ _ _ h => h, Nat.le_refl _⟩
abbrev W0 : WX := fun _ _ _ _ => False
/-- where a comprehension stands between two turns -/
structure CompI (Z : Zs) (W : WX) (σ : L2.St) (g : Option (Nat × MO)) (f : T → Hm → R (Option T)) (its : List T) (φ1 : Phi) (H1 : Hp) (D : Addr) (Q : VK) (i m : Nat) (H : Hp) : Prop where
  le : i ≤ its.length
  me : m = its.length - i
  ex : ∃ (φ' : Phi) (h' : Hm) (acc : List V) (accT : List T), Mv φ1 H1 φ' H ∧ Hs Z.cl φ' h' H ∧ φ'.r = D :: φ1.r ∧ H D = some (.lst acc) ∧ Rps Z.cl (Off φ') H accT acc ∧ acc.length ≤ i ∧ Grow φ1 H1 φ'.drop H ∧
    MW Z.cl Z.xr (RpS Z.cl) W σ φ1 H1 ((noEx (compL g f (its.drop i) h')).bind fun ys h2 => .ok (.t (.lst (accT ++ ys))) h2) Q
/-- a comprehension's turns -/
theorem compGo {own : List Nat} {tg : Tg} {cs : List E} {e : E} (hsl : ∀ i ∈ tg.slots, i ∈ own) {σ : L2.St} {Q : VK} {p : List T × Option (Nat × MO)} {h1 : Hm} {φ1 : Phi} {H1 : Hp} {J : L2.It} {ρ : En} (re : RpE Z.cl φ1 H1 ρ σ) (hs : Hs Z.cl φ1 h1 H1) (wk : Wk Z.cl φ1 H1 p J)
    (m : MW Z.cl Z.xr (RpS Z.cl) W σ φ1 H1 ((noEx (compL p.2 (turnE Z.G Z.C ρ own tg cs e) p.1 h1)).bind fun ys h2 => .ok (.t (.lst ys)) h2) Q) :
    ∀ D, H1 D = none → ∃ W : Nat → Nat → Hp → Prop, (∃ m, W 0 m (upd H1 D (.lst []))) ∧ ∀ i m H, W i m H →
  (J.stop i H ∧ Q (.ref D) H) ∨ (J.go i H ∧ ∃ Nx : Hp → Prop, (∀ H', Nx H' → ∃ m', m' < m ∧ W (i + 1) m' H') ∧ ∀ x H', J.yld i H x H' → (tTg Z W0 tg) x (L2.wipe σ own) H' fun σ2 H2 => L2.wipe σ2 own = L2.wipe σ own ∧ (tCs Z W0 cs) σ2 H2 fun b H3 =>
    if b = true then (tE Z W0 e) σ2 H3 fun y H4 => ∃ acc, H4 D = some (.lst acc) ∧ acc.length < sizeLine ∧ Nx (upd H4 D (.lst (acc ++ [y]))) else Nx H3) := by
  intro D nD
  have nDr : D ∉ φ1.r := fun z => (hs.res D z).1 nD
  refine ⟨CompI Z W σ p.2 (turnE Z.G Z.C ρ own tg cs e) p.1 φ1 H1 D Q, ⟨p.1.length, Nat.zero_le _, rfl, φ1.hold D, h1, [], [], Mv.hold nD, hs.hold nD, rfl, upd_same, .nil, Nat.le_refl _, ?_, by simpa using m⟩, ?_⟩
  · exact Grow.writeD (Grow.refl φ1 H1) nD
  rintro i k H2 ⟨hle, hk, φ', h', acc, accT, mv, hs', er, eD, rA, hacc, gr, m'⟩
  have hDm : some D ∉ φ'.m := (hs'.res D (by rw [er]; exact List.mem_cons_self)).2
  by_cases hlt : i < p.1.length
  · have ed : p.1.drop i = p.1[i] :: p.1.drop (i + 1) := List.drop_eq_getElem_cons hlt
    rw [ed] at m'
    simp only [compL] at m'
    by_cases gd : gOk p.2 h' = true
    · rw [if_pos gd] at m'
      obtain ⟨go, yl⟩ := wk.go φ' h' H2 i _ mv gr.keep hs' gd (List.getElem?_eq_getElem hlt)
      refine .inr ⟨go, CompI Z W σ p.2 (turnE Z.G Z.C ρ own tg cs e) p.1 φ1 H1 D Q (i + 1) (p.1.length - (i + 1)), fun H' w => ⟨_, by omega, w⟩, fun x H3 hy => ?_⟩
      obtain ⟨g3, hs3, rx⟩ := yl x H3 hy
      generalize p.1[i] = t at m' rx
      simp only [turnE] at m'
      cases es : setTg tg (.t t) (wipeE ρ own) with
      | none => rw [es] at m'; exact m'.elim
      | some ρ1 =>
        rw [es] at m'
        simp only [liftO_some, R.bind_ok] at m'
        refine ⟨φ', h', wipeE ρ own, .t t, ρ1, (g3.mv.e (mv.e re)).wipe own, hs3, rx, es, fun φ4 H4 σ4 g4 hs4 re4 sm => ⟨?_, φ4, h', ρ1, re4, hs4, ?_⟩⟩
        · rw [sm own hsl]
          have : ∀ vs : List Nat, L2.wipe (L2.wipe σ vs) vs = L2.wipe σ vs := fun vs => by
            refine List.ext_getElem? fun j => ?_
            have key : ∀ (τ : L2.St) (us : List Nat), (L2.wipe τ us)[j]? = if j ∈ us then (τ[j]?).map (fun _ => none) else τ[j]? := fun τ us => by
              induction us with
              | nil => simp [L2.wipe]
              | cons u us ih =>
                unfold L2.wipe
                by_cases hj : u = j
                · subst hj
                  rw [if_pos List.mem_cons_self]
                  by_cases hl : u < τ.length
                  · rw [List.getElem?_set_self (by rw [L2.wipe_length]; exact hl), List.getElem?_eq_getElem hl]; rfl
                  · rw [List.getElem?_eq_none (by rw [List.length_set, L2.wipe_length]; omega), List.getElem?_eq_none (by omega)]; rfl
                · rw [List.getElem?_set_ne hj, ih]
                  by_cases h2 : j ∈ us
                  · rw [if_pos h2, if_pos (List.mem_cons_of_mem _ h2)]
                  · rw [if_neg h2, if_neg (by simp [h2]; exact fun z => hj z.symm)]
            rw [key, key]
            split
            · rename_i hh; cases σ[j]? <;> rfl
            · rfl
          exact this own
        · cases ec : evCs Z.G Z.C ρ1 h' cs with
          | ex c fs hh => rw [ec] at m'; exact m'.elim
          | bad => rw [ec] at m'; exact m'.elim
          | ok kb h5 =>
            rw [ec] at m'
            simp only [R.bind_ok] at m'
            show MW Z.cl Z.xr eqB W0 σ4 φ4 H4 (evCs Z.G Z.C ρ1 h' cs) _
            rw [ec]
            intro φ5 H5 b g5 hs5 eb
            cases eb
            have gA : Grow φ' H2 φ5 H5 := (g3.trans g4).trans g5
            cases kb with
            | false =>
              simp only [Bool.false_eq_true, if_false, R.bind_ok] at m' ⊢
              refine ⟨hlt, rfl, φ5, h5, acc, accT, mv.trans gA.mv, hs5, gA.res.trans er, gA.keep D _ hDm eD, gA.rps rA, Nat.le_succ_of_le hacc, gr.trans gA.dropD, ?_⟩
              revert m'
              cases compL p.2 (turnE Z.G Z.C ρ own tg cs e) (p.1.drop (i + 1)) h5 <;> exact id
            | true =>
              simp only [if_true] at m' ⊢
              refine ⟨φ5, h5, ρ1, g5.e re4, hs5, ?_⟩
              show MW Z.cl Z.xr (RpS Z.cl) W0 σ4 φ5 H5 (evE Z.G Z.C ρ1 h5 e) _
              cases ee : evE Z.G Z.C ρ1 h5 e with
              | ex c fs hh => rw [ee] at m'; exact m'.elim
              | bad => rw [ee] at m'; exact m'.elim
              | ok s h6 =>
                rw [ee] at m'
                simp only [R.bind_ok] at m'
                intro φ6 H6 y g6 hs6 ry
                cases s with
                | r n => exact m'.elim
                | t v =>
                  simp only [asT, R.bind_ok] at m'
                  have gB : Grow φ' H2 φ6 H6 := gA.trans g6
                  have er6 : φ6.r = D :: φ1.r := gB.res.trans er
                  have hD6 : D ∈ φ6.r := by rw [er6]; exact List.mem_cons_self
                  have hlen : p.1.length ≤ sizeLine := wk.len
                  refine ⟨acc, gB.keep D _ hDm eD, by omega, hlt, rfl, φ6, h6, acc ++ [y], accT ++ [v], (mv.trans gB.mv).trans (Mv.writeD hD6), hs6.writeR hD6, er6, upd_same, ?_, by simp; omega, Grow.writeD (gr.trans gB.dropD) nD, ?_⟩
                  · exact Rps.move (Mv.writeD hD6).mv (Rps.append (gB.rps rA) (.cons ry .nil))
                  · revert m'
                    cases compL p.2 (turnE Z.G Z.C ρ own tg cs e) (p.1.drop (i + 1)) h6 with
                    | ok ys h7 =>
                      intro m'
                      have m2 : MW Z.cl Z.xr (RpS Z.cl) W σ φ1 H1 (.ok (.t (.lst (accT ++ (v :: ys)))) h7) Q := m'
                      show MW Z.cl Z.xr (RpS Z.cl) W σ φ1 H1 (.ok (.t (.lst ((accT ++ [v]) ++ ys))) h7) Q
                      rw [List.append_assoc]
                      exact m2
                    | ex c fs hh => exact id
                    | bad => exact id
    · rw [if_neg gd] at m'; exact m'.elim
  · have hi : i = p.1.length := by omega
    subst hi
    rw [List.drop_length] at m'
    simp only [compL] at m'
    by_cases gd : gOk p.2 h' = true
    · rw [if_pos gd] at m'
      refine .inl ⟨wk.stop φ' h' H2 mv gr.keep hs' gd, ?_⟩
      have m2 : MW Z.cl Z.xr (RpS Z.cl) W σ φ1 H1 (.ok (.t (.lst (accT ++ []))) h') Q := m'
      rw [List.append_nil] at m2
      refine m2 φ'.drop H2 _ gr hs'.drop ?_
      show RpF Z.cl φ'.drop H2 (.lst accT) (.ref D)
      rw [RpF, Rp]
      exact ⟨D, acc, rfl, ⟨hDm, by show D ∉ φ'.r.tail; rw [er]; exact nDr⟩, .inl eD, Rps.move (fun b u ob r => ⟨off_drop ob, r⟩) rA⟩
    · rw [if_neg gd] at m'; exact m'.elim
end
theorem evComp {own : List Nat} {tg : Tg} {it : It} {cs : List E} {e : E} (hsl : ∀ i ∈ tg.slots, i ∈ own) {σ : L2.St} {H : Hp} {Q : VK} (t : tE Z W (.comp own tg it cs e) σ H Q) :
    tLc (tI Z W it) (tTg Z W0 tg) (tCs Z W0 cs) (tE Z W0 e) own σ H Q := by
  refine t.seq (rel' := Wk Z.cl) (f := fun p ρ h1 => (noEx (compL p.2 (turnE Z.G Z.C ρ own tg cs e) p.1 h1)).bind fun ys h2 => .ok (.t (.lst ys)) h2) (fun ρ h => by simp only [evE]; rfl) fun p h1 φ1 H1 J ρ re hs wk m => ?_
  exact compGo hsl re hs wk m
end My

/-! MiniPy: statements are right, one construct at a time. -/
namespace My
open PySem L2 PyProof.Rows
section
variable {X : Cx} {Z : Zs} {W : WX}
/-! ### comprehensions as values -/
theorem s_comp {own : List (Str × Nat)} {tg : Tg} {it : It} {cs : List E} {e : E} {elt tgE iter : Expr} {ifs : List Expr} {scope : Scope} {pos : Pos} (hc : X.calm = true) (hN : X.N.Nodup) (hi : PI X tgE iter (tI Z W it)) (ok : BlkOk X.N X.env.scope scope own)
    (hg : ∀ (s : Shared) (H : Hp) (C : Addr) (cl : List (Str × Addr)) (fp : List Addr), PG (X.blk s H scope (compEnvC scope cl C X.env) fp) tgE (tTg Z W0 tg))
    (ht : ∀ (s : Shared) (H : Hp) (C : Addr) (cl : List (Str × Addr)) (fp : List Addr), PTs (X.blk s H scope (compEnvC scope cl C X.env) fp) ifs (tCs Z W0 cs))
    (he : ∀ (s : Shared) (H : Hp) (C : Addr) (cl : List (Str × Addr)) (fp : List Addr), PE (X.blk s H scope (compEnvC scope cl C X.env) fp) elt (tE Z W0 e))
    (hsl : ∀ i ∈ tg.slots, i ∈ own.map (·.2)) (hf : ∀ x, foldedSetIterable iter X.env x = pure x) :
    PE X (.ListComp elt [⟨tgE, iter, ifs, 0⟩] scope pos) (tE Z W (.comp (own.map (·.2)) tg it cs e)) := pe_weak (pe_lc hc hN hi ok hg ht he hf) fun _ _ _ t => evComp hsl t
theorem spt_nil : PTs X [] (tCs Z W []) := ⟨fun pins s σ H Q I ⟨φ, h, ρ, re, hs, m⟩ => pts_nil.run pins s σ H Q I (m φ H true (Grow.refl _ _) hs rfl)⟩
theorem spt_one {c : Expr} {mc : E} (h : PT X c (tB' Z W mc)) : PTs X [c] (tCs Z W [mc]) := ⟨fun pins s σ H Q I t => (pts_one h).run pins s σ H Q I (by
  refine t.seq (rel' := eqB) (f := fun b ρ h1 => if b then evCs Z.G Z.C ρ h1 [] else .ok false h1) (fun ρ h => ?_) fun k h1 φ1 H1 x ρ re hs r m => ?_
  · simp only [evCs, evB]
    cases evE Z.G Z.C ρ h mc with
    | ok s h1 => cases s with
      | r n => rfl
      | t v => cases v <;> rfl
    | ex _ _ _ => rfl
    | bad => rfl
  · cases r
    cases k with
    | true => exact m φ1 H1 true (Grow.refl _ _) hs rfl
    | false => exact m φ1 H1 false (Grow.refl _ _) hs rfl)⟩

/-! ### what is owed by a statement -/
def DW (Z : Zs) (W : WX) (D : Ends) (φ : Phi) (H : Hp) : Out → Prop
  | .nx ρ h => ∀ φ' H' σ', Grow φ H φ' H' → Hs Z.cl φ' h H' → RpE Z.cl φ' H' ρ σ' → D.nx σ' H'
  | .rt s h => ∀ φ' H' v, Grow φ H φ' H' → Hs Z.cl φ' h H' → RpS Z.cl φ' H' s v → D.rt v H'
  | .bk ρ h => ∀ φ' H' σ', Grow φ H φ' H' → Hs Z.cl φ' h H' → RpE Z.cl φ' H' ρ σ' → D.bk σ' H'
  | .ct ρ h => ∀ φ' H' σ', Grow φ H φ' H' → Hs Z.cl φ' h H' → RpE Z.cl φ' H' ρ σ' → D.ct σ' H'
  | .ex c fs ρ h => ∀ φ' H' k d σ', Grow φ H φ' H' → Hs Z.cl φ' h H' → RpE Z.cl φ' H' ρ σ' → Z.xr φ' H' c fs k d → W k d σ' H'
  | .bad => False
theorem DW.grow {D : Ends} {φ φ1 : Phi} {H H1 : Hp} {o : Out} (m : DW Z W D φ H o) (g : Grow φ H φ1 H1) : DW Z W D φ1 H1 o := by
  cases o with
  | nx ρ h => exact fun φ' H' σ' g' => m φ' H' σ' (g.trans g')
  | rt s h => exact fun φ' H' v g' => m φ' H' v (g.trans g')
  | bk ρ h => exact fun φ' H' σ' g' => m φ' H' σ' (g.trans g')
  | ct ρ h => exact fun φ' H' σ' g' => m φ' H' σ' (g.trans g')
  | ex c fs ρ h => exact fun φ' H' k d σ' g' => m φ' H' k d σ' (g.trans g')
  | bad => exact m
abbrev tO (Z : Zs) (W : WX) (ev : En → Hm → Out) : TS := fun D σ H => ∃ φ h ρ, RpE Z.cl φ H ρ σ ∧ Hs Z.cl φ h H ∧ DW Z W D φ H (ev ρ h)
abbrev tS (Z : Zs) (W : WX) (m : St) : TS := tO Z W fun ρ h => exS Z.G Z.C ρ h m
abbrev tSs (Z : Zs) (W : WX) (ms : List St) : TS := tO Z W fun ρ h => exSs Z.G Z.C ρ h ms
theorem ps_weak {e : Stmt} {t t' : TS} (h : PS X e t) (k : ∀ D σ H, t' D σ H → t D σ H) : PS X e t' := ⟨fun pins s σ H D I q => h.run pins s σ H D I (k D σ H q)⟩
theorem pss_weak {e : List Stmt} {t t' : TS} (h : PSs X e t) (k : ∀ D σ H, t' D σ H → t D σ H) : PSs X e t' := ⟨fun pins s σ H D I q => h.run pins s σ H D I (k D σ H q)⟩
/-- first an evaluation -/
theorem tO.seq {γ δ : Type} {rel' : Phi → Hp → γ → δ → Prop} {ev : En → Hm → Out} {ev' : En → Hm → R γ} {f : γ → En → Hm → Out} {D : Ends} {σ : L2.St} {H : Hp} {Q' : δ → Hp → Prop} (t : tO Z W ev D σ H)
    (e : ∀ ρ h, ev ρ h = (ev' ρ h).out ρ fun a h1 => f a ρ h1) (k : ∀ a h1 φ1 H1 v ρ, RpE Z.cl φ1 H1 ρ σ → Hs Z.cl φ1 h1 H1 → rel' φ1 H1 a v → DW Z W D φ1 H1 (f a ρ h1) → Q' v H1) : tG Z W rel' ev' σ H Q' := by
  obtain ⟨φ, h, ρ, re, hs, m⟩ := t
  refine ⟨φ, h, ρ, re, hs, ?_⟩
  rw [e] at m
  cases x : ev' ρ h with
  | ok a h1 =>
    rw [x] at m
    exact fun φ' H' v g hs' r => k a h1 φ' H' v ρ (g.e re) hs' r (DW.grow m g)
  | ex c fs h1 =>
    rw [x] at m
    exact fun φ' H' k d g hs' r => m φ' H' k d σ g hs' (g.e re) r
  | bad => rw [x] at m; exact m
theorem ss_nil : PSs X [] (tSs Z W []) := pss_weak pss_nil fun D σ H ⟨φ, h, ρ, re, hs, m⟩ => m φ H σ (Grow.refl _ _) hs re
theorem ss_cons {s : Stmt} {ss : List Stmt} {m : St} {ms : List St} (h1 : PS X s (tS Z W m)) (h2 : PSs X ss (tSs Z W ms)) : PSs X (s :: ss) (tSs Z W (m :: ms)) := pss_weak (pss_cons h1 h2) fun D σ H ⟨φ, h, ρ, re, hs, w⟩ => by
  refine ⟨φ, h, ρ, re, hs, ?_⟩
  simp only [exSs] at w
  show DW Z W _ φ H (exS Z.G Z.C ρ h m)
  revert w
  cases exS Z.G Z.C ρ h m with
  | nx ρ1 h1 => exact fun w φ' H' σ' g hs' re' => ⟨φ', h1, ρ1, re', hs', w.grow g⟩
  | rt _ _ => exact id
  | bk _ _ => exact id
  | ct _ _ => exact id
  | ex _ _ _ _ => exact id
  | bad => exact id
/-! ### assignments -/
theorem to_tg {tg : Tg} {s : S} {x : V} {φ : Phi} {h : Hm} {ρ : En} {D : Ends} {σ : L2.St} {H : Hp} (re : RpE Z.cl φ H ρ σ) (hs : Hs Z.cl φ h H) (r : RpS Z.cl φ H s x)
    (m : DW Z W D φ H (match setTg tg s ρ with | some ρ1 => .nx ρ1 h | none => .bad)) : tTg Z W tg x σ H D.nx := by
  cases e : setTg tg s ρ with
  | none => rw [e] at m; exact m.elim
  | some ρ' =>
    rw [e] at m
    exact ⟨φ, h, ρ, s, ρ', re, hs, r, e, fun φ' H' σ' g hs' re' _ => m φ' H' σ' g hs' re'⟩
theorem s_asg {tg : Tg} {m : E} {tgE e : Expr} {pos : Pos} (he : PE X e (tE Z W m)) (hg : PG X tgE (tTg Z W tg)) (hs : swapsWithSole [tgE] e pos.line X.env = pure false) (hw : swappedStores [tgE] e X.env = pure none)
    (h1 : (assignEach [tgE] X.env).map (·.2) = [assign tgE X.env]) : PS X (.Assign [tgE] e pos) (tS Z W (.asg tg m)) :=
  ps_weak (ps_asg he hg hs hw h1) fun D σ H t => t.seq (rel' := RpS Z.cl) (f := fun s ρ h1 => match setTg tg s ρ with | some ρ1 => .nx ρ1 h1 | none => .bad) (fun ρ h => by simp only [exS] <;> rfl) fun s h1 φ1 H1 x ρ re hs r m => to_tg re hs r m
theorem s_asgC {i : Nat} {y : Str} {py : Pos} {spos : Pos} {own : List (Str × Nat)} {tg : Tg} {it : It} {cs : List E} {e : E} {elt tgE iter : Expr} {ifs : List Expr} {scope : Scope} {pos : Pos} (hc : X.calm = true) (hN : X.N.Nodup) (hy : X.N[i]? = some y) (hyl : X.env.scope.names.lookup y = some .local)
    (hsw : swapsWith (.ListComp elt [⟨tgE, iter, ifs, 0⟩] scope pos) (some (.Name y py)) spos.line X.env = pure true) (hi : PI X tgE iter (tI Z W it)) (ok : BlkOk X.N X.env.scope scope own)
    (hg : ∀ (s : Shared) (H : Hp) (C : Addr) (cl : List (Str × Addr)) (fp : List Addr), PG (X.blk s H scope (compEnvC scope cl C X.env) fp) tgE (tTg Z W0 tg))
    (ht : ∀ (s : Shared) (H : Hp) (C : Addr) (cl : List (Str × Addr)) (fp : List Addr), PTs (X.blk s H scope (compEnvC scope cl C X.env) fp) ifs (tCs Z W0 cs))
    (he : ∀ (s : Shared) (H : Hp) (C : Addr) (cl : List (Str × Addr)) (fp : List Addr), PE (X.blk s H scope (compEnvC scope cl C X.env) fp) elt (tE Z W0 e))
    (hsl : ∀ i ∈ tg.slots, i ∈ own.map (·.2)) (hf : ∀ x, foldedSetIterable iter X.env x = pure x) :
    PS X (.Assign [.Name y py] (.ListComp elt [⟨tgE, iter, ifs, 0⟩] scope pos) spos) (tS Z W (.asg (.name i) (.comp (own.map (·.2)) tg it cs e))) :=
  ps_weak (ps_setLc hc hN hy hyl hsw hi ok hg ht he hf) fun D σ H t => by
    refine evComp (Q := fun x H1 => gName i x σ H1 D.nx) hsl ?_
    refine t.seq (rel' := RpS Z.cl) (f := fun s ρ h1 => match setTg (.name i) s ρ with | some ρ1 => .nx ρ1 h1 | none => .bad) (fun ρ h => by simp only [exS] <;> rfl) fun s h1 φ1 H1 x ρ re hs r m => ?_
    exact m φ1 H1 _ (Grow.refl _ _) hs (re.set r)
theorem s_par2 {i j : Nat} {x y : Str} {a b : Expr} {ma mb : E} {px py pt pos : Pos} {kt k2 pt2} (hc : X.calm = true) (hN : X.N.Nodup) (hi : X.N[i]? = some x) (hj : X.N[j]? = some y) (hij : i ≠ j)
    (hx : X.env.scope.names.lookup x = some .local) (hy : X.env.scope.names.lookup y = some .local) (ha : PA X [a, b] (tL Z W [ma, mb]))
    (hw : swappedStores [.Tuple [.Name x px, .Name y py] kt pt] (.Tuple [a, b] k2 pt2) X.env = pure (some [x, y]))
    (hs : swapsWithSole [.Tuple [.Name x px, .Name y py] kt pt] (.Tuple [a, b] k2 pt2) pos.line X.env = pure false) :
    PS X (.Assign [.Tuple [.Name x px, .Name y py] kt pt] (.Tuple [a, b] k2 pt2) pos) (tS Z W (.par [i, j] [ma, mb])) :=
  ps_weak (ps_par hc hN hi hj hij hx hy ha hw hs) fun D σ H t => t.seq (rel' := RpSs Z.cl) (f := fun ss ρ h1 => match setAll ρ [i, j] ss with | some ρ1 => .nx ρ1 h1 | none => .bad) (fun ρ h => by simp only [exS] <;> rfl) fun ss h1 φ1 H1 vs ρ re hs r m => by
    match ss, vs, r, m with
    | [s, u], _, ⟨v, _, rfl, r1, ⟨w, _, rfl, r2, rfl⟩⟩, m => exact ⟨v, w, rfl, m φ1 H1 _ (Grow.refl _ _) hs ((re.set r1).set r2)⟩
    | [], _, r, m => exact m.elim
    | [s], _, r, m => exact m.elim
    | s :: u :: z :: rest, _, r, m => exact m.elim
theorem s_par3 {i j l : Nat} {x y z : Str} {a b c : Expr} {ma mb mc : E} {px py pz pt pos : Pos} {kt k2 pt2} (hc : X.calm = true) (hN : X.N.Nodup) (hi : X.N[i]? = some x) (hj : X.N[j]? = some y) (hl : X.N[l]? = some z) (hij : i ≠ j) (hil : i ≠ l) (hjl : j ≠ l)
    (hx : X.env.scope.names.lookup x = some .local) (hy : X.env.scope.names.lookup y = some .local) (hz : X.env.scope.names.lookup z = some .local) (ha : PA X [a, b, c] (tL Z W [ma, mb, mc]))
    (hw : swappedStores [.Tuple [.Name x px, .Name y py, .Name z pz] kt pt] (.Tuple [a, b, c] k2 pt2) X.env = pure (some [x, y, z]))
    (hs : swapsWithSole [.Tuple [.Name x px, .Name y py, .Name z pz] kt pt] (.Tuple [a, b, c] k2 pt2) pos.line X.env = pure false) :
    PS X (.Assign [.Tuple [.Name x px, .Name y py, .Name z pz] kt pt] (.Tuple [a, b, c] k2 pt2) pos) (tS Z W (.par [i, j, l] [ma, mb, mc])) :=
  ps_weak (ps_par3 hc hN hi hj hl hij hil hjl hx hy hz ha hw hs) fun D σ H t => t.seq (rel' := RpSs Z.cl) (f := fun ss ρ h1 => match setAll ρ [i, j, l] ss with | some ρ1 => .nx ρ1 h1 | none => .bad) (fun ρ h => by simp only [exS] <;> rfl) fun ss h1 φ1 H1 vs ρ re hs r m => by
    match ss, vs, r, m with
    | [s, u, q], _, ⟨v, _, rfl, r1, ⟨w, _, rfl, r2, ⟨o, _, rfl, r3, rfl⟩⟩⟩, m => exact ⟨v, w, o, rfl, m φ1 H1 _ (Grow.refl _ _) hs (((re.set r1).set r2).set r3)⟩
    | [], _, r, m => exact m.elim
    | [s], _, r, m => exact m.elim
    | [s, u], _, r, m => exact m.elim
    | s :: u :: z :: q :: rest, _, r, m => exact m.elim
/-! ### small statements -/
theorem s_ex {m : E} {e : Expr} {pos : Pos} (he : PE X e (tE Z W m)) (hs : swapsWith e none pos.line X.env = pure false) : PS X (.Expr e pos) (tS Z W (.ex m)) :=
  ps_weak (ps_expr he hs) fun D σ H t => t.seq (rel' := RpS Z.cl) (f := fun _ ρ h1 => .nx ρ h1) (fun ρ h => by simp only [exS]) fun s h1 φ1 H1 x ρ re hs r m => m φ1 H1 σ (Grow.refl _ _) hs re
theorem s_ret {m : E} {e : Expr} {pos : Pos} (he : PE X e (tE Z W m)) : PS X (.Return (some e) pos) (tS Z W (.ret m)) :=
  ps_weak (ps_ret he) fun D σ H t => t.seq (rel' := RpS Z.cl) (f := fun s _ h1 => .rt s h1) (fun ρ h => by simp only [exS]) fun s h1 φ1 H1 x ρ re hs r m => m φ1 H1 x (Grow.refl _ _) hs r
theorem rs_non {cl : Cl} {φ : Phi} {H : Hp} : RpS cl φ H (.t .non) .non := by
  show RpF cl φ H .non .non
  rw [RpF, Rp]
theorem s_retN {pos : Pos} : PS X (.Return none pos) (tS Z W .retN) := ps_weak ps_retN fun D σ H ⟨φ, h, ρ, re, hs, m⟩ => by
  simp only [exS] at m
  exact m φ H .non (Grow.refl _ _) hs rs_non
theorem s_pass {pos : Pos} : PS X (.Pass pos) (tS Z W .pass) := ps_weak ps_pass fun D σ H ⟨φ, h, ρ, re, hs, m⟩ => by
  simp only [exS] at m
  exact m φ H σ (Grow.refl _ _) hs re
theorem s_cont {pos : Pos} : PS X (.Continue pos) (tS Z W .cont) := ps_weak ps_continue fun D σ H ⟨φ, h, ρ, re, hs, m⟩ => by
  simp only [exS] at m
  exact m φ H σ (Grow.refl _ _) hs re
theorem s_brk {pos : Pos} : PS X (.Break pos) (tS Z W .brk) := ps_weak ps_break fun D σ H ⟨φ, h, ρ, re, hs, m⟩ => by
  simp only [exS] at m
  exact m φ H σ (Grow.refl _ _) hs re
theorem s_if {c : Expr} {a b : List Stmt} {mc : E} {ma mb : List St} {pos : Pos} (hc : PT X c (tB' Z W mc)) (ha : PSs X a (tSs Z W ma)) (hb : PSs X b (tSs Z W mb)) : PS X (.If c a b pos) (tS Z W (.ife mc ma mb)) :=
  ps_weak (ps_if hc ha hb) fun D σ H t => by
    refine t.seq (rel' := eqB) (f := fun k ρ h1 => if k then exSs Z.G Z.C ρ h1 ma else exSs Z.G Z.C ρ h1 mb) (fun ρ h => ?_) fun k h1 φ1 H1 x ρ re hs r m => ?_
    · simp only [exS, evB]
      cases evE Z.G Z.C ρ h mc <;> rfl
    · cases r
      cases k with
      | true => exact ⟨φ1, h1, ρ, re, hs, m⟩
      | false => exact ⟨φ1, h1, ρ, re, hs, m⟩
theorem s_aug {i : Nat} {x : Str} {e : Expr} {m : E} {o : Bo} {po : Operator} {pos pos' : Pos} {f : Int → Int → Int} (hN : X.N.Nodup) (hi : X.N[i]? = some x) (hx : Loc X.env.scope x) (he : PE X e (tE Z W m)) (ho : PIp X po (ipI f))
    (hf : X.fn x = true ∨ X.env.scope.names.lookup x = some .local) (hof : (o = .add ∧ f = fun i j => i + j) ∨ (o = .sub ∧ f = fun i j => i - j)) : PS X (.AugAssign (.Name x pos') po e pos) (tS Z W (.aug i o m)) :=
  ps_weak (ps_aug hN hi hx he ho hf) fun D σ H t => by
    obtain ⟨φ, h, ρ, re, hs, w⟩ := t
    have hv : ∃ z, ρ[i]? = some (some (.t (.int z))) := by
      simp only [exS] at w
      cases e1 : ρ[i]? with
      | none => simp only [e1, Option.join_none] at w; exact w.elim
      | some u =>
        cases u with
        | none => simp only [e1, Option.join_some] at w; exact w.elim
        | some s =>
          cases s with
          | r n => simp only [e1, Option.join_some] at w; exact w.elim
          | t q => cases q <;> first | exact ⟨_, rfl⟩ | (simp only [e1, Option.join_some] at w; exact w.elim)
    obtain ⟨z, e1⟩ := hv
    obtain ⟨v, ev, rv⟩ := re.get i _ e1
    have ez := int_v rv
    subst ez
    refine ⟨_, ev, ?_⟩
    simp only [exS, e1, Option.join_some] at w
    refine ⟨φ, h, ρ, re, hs, ?_⟩
    show MW Z.cl Z.xr (RpS Z.cl) W σ φ H (evE Z.G Z.C ρ h m) _
    cases ee : evE Z.G Z.C ρ h m with
    | bad => rw [ee] at w; exact w
    | ex c fs h1 => rw [ee] at w; exact fun φ' H' k d g hs' r => w φ' H' k d σ g hs' (g.e re) r
    | ok s h1 =>
      rw [ee] at w
      simp only [R.out_ok] at w
      cases s with
      | r n => exact w.elim
      | t q =>
        cases q <;> first | exact w.elim | skip
        rename_i y
        intro φ' H' v g hs' r
        refine ⟨z, y, rfl, int_v r, ?_⟩
        have ri : ∀ k : Int, RpS Z.cl φ' H' (.t (.int k)) (.int k) := fun k => by
          show RpF Z.cl φ' H' (.int k) (.int k)
          rw [RpF, Rp]
        rcases hof with ⟨rfl, rfl⟩ | ⟨rfl, rfl⟩
        · exact w φ' H' _ g hs' ((g.e re).set (ri _))
        · exact w φ' H' _ g hs' ((g.e re).set (ri _))

/-! ### loops -/
structure ForI (Z : Zs) (W : WX) (D : Ends) (g : Option (Nat × MO)) (f : T → En → Hm → Out) (its : List T) (φ1 : Phi) (H1 : Hp) (i m : Nat) (σ : L2.St) (H : Hp) : Prop where
  le : i ≤ its.length
  me : m = its.length - i
  ex : ∃ (φ' : Phi) (h' : Hm) (ρ' : En), Grow φ1 H1 φ' H ∧ Hs Z.cl φ' h' H ∧ RpE Z.cl φ' H ρ' σ ∧ DW Z W D φ' H (forL g f (its.drop i) ρ' h')
theorem s_for {tg : Tg} {it : It} {ms : List St} {tgE iter : Expr} {body : List Stmt} {pos : Pos} (hp : PassesOwn (model X.prog X.w) X.A X.env X.xe) (hc : X.calm = true) (hi : PI X tgE iter (tI Z W it)) (hg : PG X tgE (tTg Z W tg)) (hb : PSs X body (tSs Z W ms))
    (hf : ∀ x, foldedSetIterable iter X.env x = pure x) : PS X (.For tgE iter body [] pos) (tS Z W (.for tg it ms)) :=
  ps_weak (ps_for hp hc hi hg hb hf) fun D σ0 H0 t => by
    refine t.seq (rel' := Wk Z.cl) (f := fun p ρ h1 => forL p.2 (fun x ρ h => match setTg tg (.t x) ρ with | some ρ1 => exSs Z.G Z.C ρ1 h ms | none => .bad) p.1 ρ h1) (fun ρ h => by simp only [exS] <;> rfl) fun p h1 φ1 H1 J ρ re hs wk m => ?_
    refine ⟨ForI Z W D p.2 _ p.1 φ1 H1, ⟨p.1.length, Nat.zero_le _, rfl, φ1, h1, ρ, Grow.refl φ1 H1, hs, re, by simpa using m⟩, ?_⟩
    rintro i k σ H ⟨hle, hk, φ', h', ρ', mv, hs', re', m'⟩
    by_cases hlt : i < p.1.length
    · have ed : p.1.drop i = p.1[i] :: p.1.drop (i + 1) := List.drop_eq_getElem_cons hlt
      rw [ed] at m'
      simp only [forL] at m'
      by_cases gd : gOk p.2 h' = true
      · rw [if_pos gd] at m'
        obtain ⟨go, yl⟩ := wk.go φ' h' H i _ mv.mv mv.keep hs' gd (List.getElem?_eq_getElem hlt)
        refine .inr ⟨go, ForI Z W D p.2 _ p.1 φ1 H1 (i + 1) (p.1.length - (i + 1)), fun σ' H' w => ⟨_, by omega, w⟩, fun x H3 hy => ?_⟩
        obtain ⟨g3, hs3, rx⟩ := yl x H3 hy
        generalize p.1[i] = t at m' rx
        cases es : setTg tg (.t t) ρ' with
        | none => rw [es] at m'; exact m'.elim
        | some ρ1 =>
          rw [es] at m'
          refine ⟨φ', h', ρ', .t t, ρ1, g3.e re', hs3, rx, es, fun φ4 H4 σ4 g4 hs4 re4 _ => ⟨φ4, h', ρ1, re4, hs4, ?_⟩⟩
          have m2 := m'.grow (g3.trans g4)
          show DW Z W _ φ4 H4 (exSs Z.G Z.C ρ1 h' ms)
          revert m2
          simp only
          cases exSs Z.G Z.C ρ1 h' ms with
          | nx ρ5 h5 => exact fun m2 φ5 H5 σ5 g5 hs5 re5 => ⟨hlt, rfl, φ5, h5, ρ5, mv.trans ((g3.trans g4).trans g5), hs5, re5, m2.grow g5⟩
          | ct ρ5 h5 => exact fun m2 φ5 H5 σ5 g5 hs5 re5 => ⟨hlt, rfl, φ5, h5, ρ5, mv.trans ((g3.trans g4).trans g5), hs5, re5, m2.grow g5⟩
          | bk _ _ => exact id
          | rt _ _ => exact id
          | ex _ _ _ _ => exact id
          | bad => exact id
      · rw [if_neg gd] at m'; exact m'.elim
    · have hi : i = p.1.length := by omega
      subst hi
      rw [List.drop_length] at m'
      simp only [forL] at m'
      by_cases gd : gOk p.2 h' = true
      · rw [if_pos gd] at m'
        exact .inl ⟨wk.stop φ' h' H mv.mv mv.keep hs' gd, m' φ' H σ (Grow.refl _ _) hs' re'⟩
      · rw [if_neg gd] at m'; exact m'.elim
theorem s_whl {n : Nat} {mc : E} {ms : List St} {c : Expr} {body : List Stmt} {pos : Pos} (hp : PassesOwn (model X.prog X.w) X.A X.env X.xe) (hc : PT X c (tB' Z W mc)) (hb : PSs X body (tSs Z W ms)) : PS X (.While c body [] pos) (tS Z W (.whl n mc ms)) :=
  ps_weak (ps_while hp hc hb) fun D σ0 H0 ⟨φ0, h0, ρ0, re0, hs0, m0⟩ => by
    simp only [exS] at m0
    refine ⟨fun m σ H => ∃ φ h ρ, RpE Z.cl φ H ρ σ ∧ Hs Z.cl φ h H ∧ DW Z W D φ H (whlL (fun ρ h => (evE Z.G Z.C ρ h mc).bind asB) (fun ρ h => exSs Z.G Z.C ρ h ms) m ρ h), ⟨n, φ0, h0, ρ0, re0, hs0, m0⟩, ?_⟩
    rintro m σ H ⟨φ, h, ρ, re, hs, w⟩
    cases m with
    | zero => exact w.elim
    | succ m =>
      simp only [whlL] at w
      have t : tO Z W (fun ρ h => ((evE Z.G Z.C ρ h mc).bind asB).out ρ fun b h1 => if b then match exSs Z.G Z.C ρ h1 ms with
          | .nx ρ1 h2 => whlL (fun ρ h => (evE Z.G Z.C ρ h mc).bind asB) (fun ρ h => exSs Z.G Z.C ρ h ms) m ρ1 h2
          | .ct ρ1 h2 => whlL (fun ρ h => (evE Z.G Z.C ρ h mc).bind asB) (fun ρ h => exSs Z.G Z.C ρ h ms) m ρ1 h2
          | .bk ρ1 h2 => .nx ρ1 h2
          | o => o else .nx ρ h1) D σ H := ⟨φ, h, ρ, re, hs, w⟩
      refine t.seq (rel' := eqB) (ev' := fun ρ h => evB Z.G Z.C ρ h mc) (fun ρ h => rfl) fun b h1 φ1 H1 x ρ re hs r w => ?_
      cases r
      cases b with
      | false => exact w φ1 H1 σ (Grow.refl _ _) hs re
      | true =>
        simp only [if_true] at w ⊢
        refine ⟨_, fun σ' H' q => ⟨m, Nat.lt_succ_self m, q⟩, φ1, h1, ρ, re, hs, ?_⟩
        show DW Z W _ φ1 H1 (exSs Z.G Z.C ρ h1 ms)
        revert w
        cases exSs Z.G Z.C ρ h1 ms with
        | nx ρ5 h5 => exact fun m2 φ5 H5 σ5 g5 hs5 re5 => ⟨φ5, h5, ρ5, re5, hs5, m2.grow g5⟩
        | ct ρ5 h5 => exact fun m2 φ5 H5 σ5 g5 hs5 re5 => ⟨φ5, h5, ρ5, re5, hs5, m2.grow g5⟩
        | bk _ _ => exact id
        | rt _ _ => exact id
        | ex _ _ _ _ => exact id
        | bad => exact id
/-! ### o[i] = v -/
theorem DW.seq {γ δ : Type} {rel' : Phi → Hp → γ → δ → Prop} {r : R γ} {ρ : En} {f : γ → Hm → Out} {D : Ends} {φ : Phi} {σ : L2.St} {H : Hp} {Q' : δ → Hp → Prop} (re : RpE Z.cl φ H ρ σ) (m : DW Z W D φ H (r.out ρ f))
    (k : ∀ a h1 φ1 H1 v, Grow φ H φ1 H1 → Hs Z.cl φ1 h1 H1 → rel' φ1 H1 a v → DW Z W D φ1 H1 (f a h1) → Q' v H1) : MW Z.cl Z.xr rel' W σ φ H r Q' := by
  cases r with
  | ok a h1 => exact fun φ' H' v g hs' q => k a h1 φ' H' v g hs' q (DW.grow m g)
  | ex c fs h1 => exact fun φ' H' k d g hs' q => m φ' H' k d σ g hs' (g.e re) q
  | bad => exact m
theorem Rps.set {cl : Cl} {ok : Al} {H : Hp} {t : T} {v : V} : ∀ {ts : List T} {vs : List V} (k : Nat), Rps cl ok H ts vs → Rp cl ok H t v → Rps cl ok H (ts.set k t) (vs.set k v)
  | [], _, _, r, _ => by rw [r.inv0]; exact .nil
  | _ :: _, _, 0, r, p => by
    obtain ⟨w, ws, rfl, a, q⟩ := r.inv
    exact .cons p q
  | _ :: _, _, k + 1, r, p => by
    obtain ⟨w, ws, rfl, a, q⟩ := r.inv
    exact .cons a (Rps.set k q p)
theorem setD_none {k : Key} {v : T} : ∀ {ks us : List T}, getD k ks us = none → ks.length = us.length → setD k v ks us = us
  | [], us, _, _ => by simp [setD]
  | _ :: _, [], _, _ => rfl
  | a :: ks, u :: us, e, hl => by
    unfold getD at e
    split at e
    · cases e
    · rename_i h
      unfold setD
      rw [if_neg h, setD_none e (by simpa using hl)]
theorem putD_ok {cl : Cl} {ok : Al} {H : Hp} {k : Key} {t : T} {v : V} {kvs : List (Key × V)} {us : List T} (r : Rps cl ok H us (kvs.map (·.2))) (p : Rp cl ok H t v) :
    (putK kvs k v).map (fun q => keyT q.1) = (putD k t (kvs.map fun q => keyT q.1) us).1 ∧ Rps cl ok H (putD k t (kvs.map fun q => keyT q.1) us).2 ((putK kvs k v).map (·.2)) := by
  have hg : (getD k (kvs.map fun q => keyT q.1) us).isSome = (kvs.any fun kv => decide (kv.1 = k)) := by
    rw [valV_any]
    obtain ⟨a, b⟩ := getD_val (cl := cl) (φ := ⟨[], []⟩) k r
    cases e : getD k (kvs.map fun q => keyT q.1) us with
    | none => rw [b e]; rfl
    | some x => obtain ⟨_, e', _⟩ := a x e; rw [e']; rfl
  unfold putK putD
  rw [hg]
  cases kvs.any fun kv => decide (kv.1 = k) with
  | false =>
    refine ⟨by simp, ?_⟩
    simp only [Bool.false_eq_true, if_false, List.map_append, List.map_cons, List.map_nil]
    exact Rps.append r (.cons p .nil)
  | true =>
    simp only [if_true]
    refine ⟨?_, ?_⟩
    · rw [List.map_map]
      refine List.map_congr_left fun q _ => ?_
      simp only [Function.comp]
      split
      · rename_i e; rw [e]
      · rfl
    · clear hg
      induction kvs generalizing us with
      | nil => have := r.length; simp at this; subst this; simpa [setD] using r
      | cons q kvs ih =>
        cases us with
        | nil => have z := r.length; simp at z
        | cons u us =>
          obtain ⟨w, ws, ew, r1, r2⟩ := r.inv
          simp only [List.map_cons, List.cons.injEq] at ew
          obtain ⟨rfl, rfl⟩ := ew
          simp only [List.map_cons, setD, keyOf_keyT, Option.some.injEq]
          by_cases e : q.1 = k
          · simp only [e, if_true]
            exact .cons p (ih r2)
          · simp only [e, if_false]
            exact .cons r1 (ih r2)
abbrev rSetX : TSet := fun o i v H Q => rSetL o i v H Q ∨ rSetD o i v H Q
theorem set_any (hu : X.A.units + 1 < cLine) : PSet X rSetX := fun pins s σ H o i v ov iv u Q I ro ri rv h => h.elim (set_list pins s σ H o i v ov iv u Q I ro ri rv) (set_dict hu pins s σ H o i v ov iv u Q I ro ri rv)
theorem s_seti {o i v : Expr} {mo mi mv : E} {pos spos : Pos} (hu : X.A.units + 1 < cLine) (ho : PE X o (tE Z W mo)) (hi : PE X i (tE Z W mi)) (hv : PE X v (tE Z W mv))
    (ha : ∀ z, assign (.Subscript o i pos) X.env z = (do
      let ov ← holding [z] (eval o X.env)
      let iv ← holding [z, ov] (eval i X.env)
      standAt pos
      holding [z, ov, iv] (setItem ov iv z)
      release [z, ov, iv] []))
    (hs : swapsWithSole [.Subscript o i pos] v spos.line X.env = pure false) (hw : swappedStores [.Subscript o i pos] v X.env = pure none) (h1 : (assignEach [.Subscript o i pos] X.env).map (·.2) = [assign (.Subscript o i pos) X.env]) :
    PS X (.Assign [.Subscript o i pos] v spos) (tS Z W (.seti mo mi mv)) :=
  ps_weak (ps_asg hv (pg_sub ho hi (set_any hu) ha) hs hw h1) fun D σ H t => by
    refine t.seq (rel' := RpS Z.cl) (f := fun s ρ h1 => (evE Z.G Z.C ρ h1 mo).out ρ fun so h2 => (evE Z.G Z.C ρ h2 mi).out ρ fun si h3 =>
      match s, so, si with
      | .t v, .r n, .t k => (match h3[n]? with
        | some (.lst xs) => (match k with
          | .int j => (match L2.ixN xs.length j with | some m => .nx ρ (h3.set n (.lst (xs.set m v))) | none => .bad)
          | _ => .bad)
        | some (.dct ks vs) => (match keyOf k with
          | some k => if lim (ks.length + 1) then .nx ρ (h3.set n (.dct (putD k v ks vs).1 (putD k v ks vs).2)) else .bad
          | none => .bad)
        | _ => .bad)
      | _, _, _ => .bad) (fun ρ h => by simp only [exS] <;> rfl) fun s h1 φ1 H1 x ρ re1 hs1 r1 m1 => ?_
    refine ⟨φ1, h1, ρ, re1, hs1, DW.seq (rel' := RpS Z.cl) re1 m1 fun so h2 φ2 H2 y g2 hs2 r2 m2 => ?_⟩
    have re2 := g2.e re1
    refine ⟨φ2, h2, ρ, re2, hs2, DW.seq (rel' := RpS Z.cl) re2 m2 fun si h3 φ3 H3 z g3 hs3 r3 m3 => ?_⟩
    have re3 := g3.e re2
    cases s with
    | r _ => exact m3.elim
    | t tv =>
    cases so with
    | t _ => exact m3.elim
    | r n =>
    cases si with
    | r _ => exact m3.elim
    | t tk =>
    dsimp only at m3
    have rv : RpF Z.cl φ3 H3 tv x := (g2.trans g3).s (s := .t tv) r1
    cases eh : h3[n]? with
    | none => rw [eh] at m3; exact m3.elim
    | some ob =>
      rw [eh] at m3
      have live : ob ≠ .dead := fun z => by subst z; exact m3.elim
      obtain ⟨a, ex, ea, w⟩ := at_ref hs3 (g3.s r2) eh live
      have mem : some a ∈ φ3.m := List.mem_of_getElem? ea
      have gw : ∀ {u : HO}, Grow φ3 H3 φ3 (upd H3 a u) := fun {u} => Grow.write mem
      cases ob with
      | dead => exact (live rfl).elim
      | obj _ _ _ => exact m3.elim
      | lst xs =>
        cases tk <;> first | exact m3.elim | skip
        rename_i j
        dsimp only at m3
        obtain ⟨vs, ha', q⟩ := w
        cases ej : L2.ixN xs.length j with
        | none => rw [ej] at m3; exact m3.elim
        | some k =>
          rw [ej] at m3
          have ez := int_v r3
          refine .inl ⟨a, vs, j, k, ex, ez, ha', by rw [← q.length]; exact ej, ?_⟩
          exact m3 φ3 _ σ gw (hs3.write ea ⟨vs.set k x, upd_same, Rps.set k (Rps.move (off_self ea) q) (Rp.move (off_self ea) rv)⟩) (gw.e re3)
      | dct ks us =>
        dsimp only at m3
        obtain ⟨kvs, ha', ek, q⟩ := w
        cases ey : keyOf tk with
        | none => rw [ey] at m3; exact m3.elim
        | some k =>
          rw [ey] at m3
          dsimp only at m3
          split at m3
          · rename_i hl
            have ez : z = kV k := key_v (RpF.i r3) ey
            subst ek
            have hlen : kvs.length < sizeLine := by
              have := lim_le hl
              simp at this
              omega
            refine .inr ⟨a, upd H3 a (.dK (putK kvs k x)), ex, by rw [ez]; exact DPut.k ha' hlen, ?_⟩
            have pk := putD_ok (k := k) (t := tv) (v := x) (Rps.move (off_self ea) q) (Rp.move (off_self (u := .dK (putK kvs k x)) ea) rv)
            exact m3 φ3 _ σ gw (hs3.write ea ⟨putK kvs k x, upd_same, pk.1, pk.2⟩) (gw.e re3)
          · exact m3.elim
end
end My

/-! MiniPy: defs, and their calls. -/
namespace My
open PySem L2 PyProof.Rows
/-- the program as it stands behind its top -/
structure Pk where
  P : Program
  w : World
  K : PySem.W.Frag
  mg : Str → Option Value
  base : Heap
/-- a def that keeps its promise where no repr is under way -/
structure FnG (B : Pk) (gd : Bool) (k : Nat) (f : Addr) (fd : FuncData) (ps : List Str) (sp : Sp) : Prop where
  len : ∀ zs H Q E, sp zs H Q E → zs.length = ps.length
  run : ∀ (A : Around) (fr : List Env) (s : Shared) (H : Hp) (args : Args) (us : List Value) (zs : List V) (Q : VK) (E : XK), Room k A → (gd = true → A.guards = some []) → Env0 B.P B.w B.K B.mg B.base A fr s H →
    BindsTo s fd args (ps.zip us) → Vals zs us → sp zs H Q E → codeAny (model B.P B.w) A (.call (.ref f) args) (CR (L2.CX B.P B.w) fr B.P B.w H s Q E) s
theorem FnG.mono {B : Pk} {gd : Bool} {j k : Nat} {f : Addr} {fd : FuncData} {ps : List Str} {sp : Sp} (F : FnG B gd j f fd ps sp) (h : j ≤ k) : FnG B gd k f fd ps sp :=
  ⟨F.len, fun A fr s H args us zs Q E r => F.run A fr s H args us zs Q E (r.mono h)⟩
/-- what the mini program says of a def, as a promise -/
def spF (cl : Cl) (xr : XRel) (n : Nat) (F : List S → Hm → R S) : Sp := fun zs H Q E => ∃ φ h ss, RpSs cl φ H ss zs ∧ Hs cl φ h H ∧ zs.length = n ∧ MW cl xr (RpS cl) (fun k d _ H => E k d H) [] φ H (F ss h) Q
/-- a global name that stands for the def i of the mini program, with n parameters -/
structure CalG (B : Pk) (Z : Zs) (gd : Bool) (k : Nat) (x : Str) (i n : Nat) : Prop where
  ex : ∃ (f : Addr) (fd : FuncData) (ps : List Str), FnG B gd k f fd ps (spF Z.cl Z.xr n (Z.C i)) ∧ ps.length = n ∧ B.mg x = some (.ref f) ∧ PySem.W.keepIn B.K (.ref f) = true ∧ Binds B.K fd ps []
theorem CalG.mono {B : Pk} {Z : Zs} {gd : Bool} {j k : Nat} {x : Str} {i n : Nat} (c : CalG B Z gd j x i n) (h : j ≤ k) : CalG B Z gd k x i n :=
  let ⟨f, fd, ps, F, r⟩ := c.ex
  ⟨f, fd, ps, F.mono h, r⟩
abbrev _root_.L2.Cx.pk (X : Cx) : Pk := ⟨X.prog, X.w, X.K, X.mg, X.base⟩
theorem evS_len {G : Ctx} {C : Orc} {ρ : En} : ∀ {ms : List E} {h h' : Hm} {vs : List S}, evS G C ρ h ms = .ok vs h' → vs.length = ms.length
  | [], h, h', vs, e => by simp only [evS] at e; cases e; rfl
  | m :: ms, h, h', vs, e => by
    simp only [evS] at e
    cases e1 : evE G C ρ h m with
    | ex c fs h1 => rw [e1] at e; cases e
    | bad => rw [e1] at e; cases e
    | ok s h1 =>
      rw [e1] at e
      simp only [R.bind_ok] at e
      cases e2 : evS G C ρ h1 ms with
      | ex c fs h2 => rw [e2] at e; cases e
      | bad => rw [e2] at e; cases e
      | ok ss h2 =>
        rw [e2] at e
        simp only [R.bind_ok] at e
        cases e
        simp [evS_len e2]
theorem rps_len {cl : Cl} {φ : Phi} {H : Hp} : ∀ {ss : List S} {vs : List V}, RpSs cl φ H ss vs → ss.length = vs.length
  | [], vs, r => by cases (show vs = [] from r); rfl
  | s :: ss, vs, r => by
    obtain ⟨v, ws, rfl, _, q⟩ := r
    simp [rps_len q]
section
variable {X : Cx} {Z : Zs} {W : WX}
theorem run_G {gd : Bool} {k : Nat} {f : Addr} {fd : FuncData} {ps : List Str} {sp : Sp} {pins : List (Addr × Obj)} {σ : L2.St} {H : Hp} {s : Shared} {Q : VK} {us : List Value} {zs : List V} (F : FnG X.pk gd k f fd ps sp) (hr : Room k X.A) (gu : gd = true → X.A.guards = some [])
    (hb : Binds X.K fd ps []) (tk : Takes X W) (I : Inv X pins σ H s) (r : Vals zs us) (q : sp zs H Q (WE W σ)) : wpAny (model X.prog X.w) X.A (call (.ref f) us) (EP X pins σ Q) X.xe s := by
  have n : us.length = ps.length := by rw [← r.length, F.len _ _ _ _ q]
  have b := hb s us I.kIn (by rw [List.append_nil]; exact n)
  rw [List.append_nil] at b
  refine wpAny_call (codeAny_mono (F.run X.A X.stack s H ⟨us, []⟩ us zs Q (WE W σ) hr gu I.env0 b r q) fun res s' x => ?_)
  match res, x with
  | .error e, x => exact passAt tk σ pins H s e s' I x
  | .ok (.ret u), x => exact I.after x
  | .ok .next, x => exact x.elim
  | .ok .brk, x => exact x.elim
  | .ok .cont, x => exact x.elim
theorem ev_call {i n : Nat} {ms : List E} {σ : L2.St} {H : Hp} {Q : VK} (hn : ms.length = n) (t : tE Z W (.call i ms) σ H Q) : tL Z W ms σ H fun zs H1 => spF Z.cl Z.xr n (Z.C i) zs H1 Q (WE W σ) := by
  refine t.with (rel' := RpSs Z.cl) (f := fun ss ρ h1 => Z.C i ss h1) (fun ρ h => by simp only [evE]) fun ss h0 h1 φ1 H1 zs ρ ee re hs r m => ⟨φ1, h1, ss, r, hs, ?_, ?_⟩
  · rw [← rps_len r, evS_len ee, hn]
  · revert m
    cases Z.C i ss h1 <;> exact id
theorem s_call {gd : Bool} {i k : Nat} {x : Str} {ms : List E} {e : Expr} {es : List Expr} {p pos : Pos} (c : CalG X.pk Z gd k x i ms.length) (hr : Room k X.A) (gu : gd = true → X.A.guards = some []) (tk : Takes X W) (hg : Gl X x) (ha : PA X (e :: es) (tL Z W ms))
    (hd : (x == ("__debug__" : Str)) = false) (he : starEach (e :: es) X.env = (false, eval e X.env) :: starEach es X.env) (hp : (backTo pos (starEach es X.env)).any (·.1) = false) :
    PE X (.Call (.Name x p) (e :: es) [] pos) (tE Z W (.call i ms)) := by
  refine ⟨fun pins s σ H Q I t => ?_⟩
  obtain ⟨f, fd, ps, F, _, hm, hk, hb⟩ := c.ex
  have go := ha.run pos pins s σ H _ I (ev_call rfl t)
  exact wpAny_Call_Name_kw (ld_glob I hg hm (PySem.W.callWith_K (h₀ := X.base) I.ok.mod.kin hk (thn go fun us s1 ⟨zs, H1, J, r, q⟩ => ⟨J.kIn, run_G F hr gu hb tk J r q⟩) he hp) hd)
theorem s_call0 {gd : Bool} {i k : Nat} {x : Str} {p pos : Pos} (c : CalG X.pk Z gd k x i 0) (hr : Room k X.A) (gu : gd = true → X.A.guards = some []) (tk : Takes X W) (hg : Gl X x) (hd : (x == ("__debug__" : Str)) = false) :
    PE X (.Call (.Name x p) [] [] pos) (tE Z W (.call i [])) := by
  refine ⟨fun pins s σ H Q I t => ?_⟩
  obtain ⟨f, fd, ps, F, _, hm, hk, hb⟩ := c.ex
  obtain ⟨φ, h, ρ, re, hs, m⟩ := ev_call (n := 0) rfl t
  have q := m φ H [] (Grow.refl _ _) hs rfl
  exact wpAny_Call_Name_kw (ld_glob I hg hm (PySem.W.callWith_K0 I.kIn hk (run_G (us := []) F hr gu hb tk I .nil q)) hd)
end

/-! ### a def by its body -/
section
variable {B : Pk}
theorem okG {gd : Bool} {x qual : Str} {st : Stmt} {f : Addr} {fd : FuncData} {N ps : List Str} {k : Nat} {sp : Sp} (F : Fun B.K x qual st f fd) (S : FnScope N ps (defScope st)) (len : ∀ zs H Q E, sp zs H Q E → zs.length = ps.length)
    (body : ∀ (cdv : Value) (A : Around) (fr : List Env) (s : Shared) (H : Hp) (zs : List V) (Q : VK) (E : XK), Room k (A.deeper (envOfC qual (defScope st) s.heap.objs.size f cdv)) → (gd = true → A.guards = some []) → sp zs H Q E →
      ∃ t, PSs (cxOf (L2.CX B.P B.w) B.P B.w B.K B.mg B.base N qual (defScope st) f cdv A fr s H E) (defBody st) t ∧ t { nx := fun _ H' => Q .non H', rt := Q } (start N zs) H) : FnG B gd (k + 1) f fd ps sp := by
  obtain ⟨oc, od, kV, doc, pm, an, cdv, ct, osl, rfl, lk, code⟩ := F.ex
  refine ⟨len, fun A fr s H args us zs Q E room gu e0 binds vals q => ?_⟩
  have kin : B.K.In s.heap := e0.mod.kin.keeps fun b o z => (e0.bs b o z).1
  have nolim : s.heap.NoLimit := e0.mod.nolimit.keeps fun b o z => (e0.bs b o z).1
  have kinds : ∀ y ∈ ps.zip us, (defScope st).names.lookup y.1 = some .local ∨ ((defScope st).names.lookup y.1 = some .cell ∧ ((cellsFrom (s.heap.objs.size + 1) (defScope st).names []).lookup y.1).isSome = true) := by
    rintro ⟨n, v⟩ my
    exact (S.par n (List.of_mem_zip my).1).imp id fun c => ⟨c, PySem.W.cellsFrom_some _ _ _ (.inl c)⟩
  refine codeAny_call_function room.depth (kin _ _ lk) rfl S.co S.gen rfl (PySem.W.codeRec_of kin code) (binds _ _ _ _ (wpAny_newFunctionEnv_cells S.kind kinds fun env ee s1 x => ?_))
  cases ee
  refine ⟨nolim.keeps x.toInCall.keep, codeAny_func ?_⟩
  obtain ⟨t, run, now⟩ := body cdv A fr s H zs Q E (room.deeper _) gu q
  have I0 : Inv (cxOf (L2.CX B.P B.w) B.P B.w B.K B.mg B.base N qual (defScope st) f cdv A fr s H E) [] (start N zs) H s1 := inv_start S room.hd e0 (len _ _ _ _ q) vals x
  refine wpAny_mono (run.run [] s1 (start N zs) H _ I0 now) (fun fl s' z => ?_) fun _ _ z => z
  match fl, z with
  | .ret u, ⟨v, σ', H', J, rv, qv⟩ => exact ⟨v, H', J.os, J.bare, J.base, J.hok, rv, qv⟩
  | .next, ⟨σ', H', J, qv⟩ => exact ⟨V.non, H', J.os, J.bare, J.base, J.hok, rfl, qv⟩
  | .brk, ⟨_, _, _, qv⟩ => exact qv.elim
  | .cont, ⟨_, _, _, qv⟩ => exact qv.elim
/-- what is told of exceptions stays told where less is tracked -/
def XrOk (xr : XRel) : Prop := ∀ φ φ' H c fs k d, (∀ a, Off φ a → Off φ' a) → xr φ H c fs k d → xr φ' H c fs k d
abbrev WF (E : XK) : WX := fun k d _ H => E k d H
theorem start_rpe {cl : Cl} {φ : Phi} {H : Hp} {n : Nat} {N : List Str} : ∀ {ss : List S} {zs : List V}, RpSs cl φ H ss zs → N.length = n → RpE cl φ H (startE n ss) (start N zs) := fun {ss zs} r hn => by
  have key : ∀ {ss : List S} {zs : List V}, RpSs cl φ H ss zs → ∀ (i : Nat) (s : S), (ss.map some)[i]? = some (some s) → ∃ v : V, (zs.map some)[i]? = some (some v) ∧ RpS cl φ H s v := by
    intro ss
    induction ss with
    | nil => intro zs r i s e; simp at e
    | cons a ss ih =>
      intro zs r i s e
      obtain ⟨v, ws, rfl, r1, r2⟩ := r
      cases i with
      | zero => simp at e; subst e; exact ⟨v, rfl, r1⟩
      | succ i => simpa using ih r2 i s (by simpa using e)
  have hl := rps_len r
  refine ⟨by simp [startE, L2.start, hl, hn], fun i s e => ?_⟩
  unfold startE at e
  unfold L2.start
  by_cases hi : i < ss.length
  · rw [List.getElem?_append_left (by simpa using hi)] at e
    obtain ⟨v, e2, q⟩ := key r i s e
    exact ⟨v, by rw [List.getElem?_append_left (by simpa [← hl] using hi)]; exact e2, q⟩
  · rw [List.getElem?_append_right (by simpa using Nat.le_of_not_lt hi), List.getElem?_replicate] at e
    split at e <;> cases e
theorem ok_mini {gd : Bool} {cl : Cl} {xr : XRel} {G : Ctx} {d i : Nat} {fdm : Fd} {x qual : Str} {st : Stmt} {f : Addr} {fd : FuncData} {N ps : List Str} (F : Fun B.K x qual st f fd) (S : FnScope N ps (defScope st)) (hxr : XrOk xr) (e : G.fs i = some fdm) (hp : ps.length = fdm.np) (hN : N.length = fdm.ns)
    (body : ∀ (cdv : Value) (A : Around) (fr : List Env) (s : Shared) (H : Hp) (E : XK), Room (2 * d + 2) (A.deeper (envOfC qual (defScope st) s.heap.objs.size f cdv)) → (gd = true → (A.deeper (envOfC qual (defScope st) s.heap.objs.size f cdv)).guards = some []) →
      PSs (cxOf (L2.CX B.P B.w) B.P B.w B.K B.mg B.base N qual (defScope st) f cdv A fr s H E) (defBody st) (tSs ⟨cl, xr, G, callF G d⟩ (WF E) fdm.body)) :
    FnG B gd (2 * (d + 1) + 1) f fd ps (spF cl xr ps.length (callF G (d + 1) i)) := by
  refine okG F S (fun zs H Q E q => let ⟨_, _, _, _, _, l, _⟩ := q; l) fun cdv A fr s H zs Q E hr gu q => ⟨_, body cdv A fr s H E hr gu, ?_⟩
  obtain ⟨φ, h, ss, r, hs, l, m⟩ := q
  have hl := rps_len r
  simp only [callF, e] at m
  rw [if_pos (by rw [hl, l, hp])] at m
  refine ⟨φ, h, _, start_rpe r hN, hs, ?_⟩
  show DW _ _ _ φ H (exSs G (callF G d) (startE fdm.ns ss) h fdm.body)
  revert m
  cases exSs G (callF G d) (startE fdm.ns ss) h fdm.body with
  | bad => exact id
  | bk _ _ => exact fun m => m.elim
  | ct _ _ => exact fun m => m.elim
  | nx ρ1 h1 => exact fun m φ' H' σ' g hs' _ => m (φ'.take h.length) H' .non (g.take (by rw [hs.len]; exact Nat.le_refl _)) (hs'.take _) rs_non
  | ex c fs ρ1 h1 => exact fun m φ' H' k d σ' g hs' _ x => m (φ'.take h.length) H' k d (g.take (by rw [hs.len]; exact Nat.le_refl _)) (hs'.take _) (hxr _ _ _ _ _ _ _ (fun a o => off_take o) x)
  | rt s1 h1 =>
    intro m φ' H' v g hs' rv
    simp only [runF, retS] at m
    cases s1 with
    | t t =>
      refine m (φ'.take h.length) H' v (g.take (by rw [hs.len]; exact Nat.le_refl _)) (hs'.take _) ?_
      exact Rp.move (fun b w ob rr => ⟨off_take ob, rr⟩) rv
    | r n =>
      dsimp only at m
      by_cases hn : n < h.length
      · rw [if_pos hn] at m
        refine m (φ'.take h.length) H' v (g.take (by rw [hs.len]; exact Nat.le_refl _)) (hs'.take _) ⟨?_, fun a ea => ?_⟩
        · have : n < h1.length := by have := hs'.len; have := g.len; rw [hs.len] at this; omega
          rw [List.length_take]; have := hs'.len; omega
        · rw [List.getElem?_take_of_lt hn] at ea
          exact rv.2 a ea
      · rw [if_neg hn] at m
        cases eo : h1[n]? with
        | none => rw [eo] at m; exact m.elim
        | some o =>
          rw [eo] at m
          have live : o ≠ .dead := fun z => by subst z; exact m.elim
          obtain ⟨a, ev, ea, _⟩ := at_ref hs' rv eo live
          have go : MW cl xr (RpS cl) (fun k d _ H => E k d H) [] φ H (.ok (.r h.length) (h1.take h.length ++ [o])) Q := by
            cases o with
            | dead => exact (live rfl).elim
            | lst xs => exact m
            | dct ks vs => exact m
            | obj c ns vs => exact m
          subst ev
          have le : h.length ≤ n := Nat.le_of_not_lt hn
          refine go (φ'.top h.length a) H' _ (g.takeTop hs.len le ea) (hs'.takeTop le ea eo) ⟨?_, fun b eb => ?_⟩
          · have hh : (φ'.m.take h.length).length = h.length := by
              rw [List.length_take]
              have z1 := g.len
              have z2 : φ.m.length = h.length := hs.len
              omega
            simp [hh]
          · have hh : (φ'.m.take h.length).length = h.length := by
              rw [List.length_take]
              have z1 := g.len
              have z2 : φ.m.length = h.length := hs.len
              omega
            rw [List.getElem?_append_right (by rw [hh]; exact Nat.le_refl _), hh, Nat.sub_self] at eb
            cases eb
            rfl
/-- a def that needs no look at the guards is one of the library's -/
theorem FnG.ok {B : Pk} {k : Nat} {f : Addr} {fd : FuncData} {ps : List Str} {sp : Sp} (F : FnG B false k f fd ps sp) : FnOk B.P B.w B.K B.mg B.base (L2.CX B.P B.w) k f fd ps sp :=
  ⟨F.len, fun A fr s H args us zs Q E hr => F.run A fr s H args us zs Q E hr fun h => Bool.noConfusion h⟩
end
end My

/-! MiniPy: built-in calls. -/
namespace My
open PySem L2 PyProof.Rows
section
variable {X : Cx} {Z : Zs} {W : WX} {a b : Expr} {ma mb : E} {p pos : Pos} {x : Str} {id : String}
theorem MW.imp {α β : Type} {rel : Phi → Hp → α → β → Prop} {σ : L2.St} {φ : Phi} {H : Hp} {r : R α} {Q Q' : β → Hp → Prop} (m : MW Z.cl Z.xr rel W σ φ H r Q) (k : ∀ v H', Q v H' → Q' v H') : MW Z.cl Z.xr rel W σ φ H r Q' := by
  cases r with
  | ok a h => exact fun φ' H' v g hs q => k v H' (m φ' H' v g hs q)
  | ex c fs h => exact m
  | bad => exact m
theorem one_arg {u : U} {σ : L2.St} {H : Hp} {Q : VK} (t : tE Z W (.un u ma) σ H Q) : tL Z W [ma] σ H fun vs H1 => rOne X Z.cl Z.G.sub u vs H1 Q := by
  refine t.seq (rel' := RpSs Z.cl) (f := fun ss ρ h1 => match ss with | [s] => (liftO (dref h1 s) h1).bind fun v h1 => (liftO (sem1 Z.G.sub u v) h1).bind fun w h1 => .ok (.t w) h1 | _ => .bad) (fun ρ h => ?_) fun ss h1 φ1 H1 vs ρ re hs r m => ?_
  · simp only [evE, evS]
    cases evE Z.G Z.C ρ h ma <;> rfl
  · match ss, vs, r, m with
    | [s], _, ⟨v, _, rfl, r1, rfl⟩, m =>
      obtain ⟨t, e1, m⟩ := m.lift
      obtain ⟨w, e2, m⟩ := m.lift
      exact ⟨v, rfl, _, _, _, _, _, _, _, hs, RpS.dref hs r1 e1, e2, m⟩
    | [], _, _, m => exact m.elim
    | _ :: _ :: _, _, _, m => exact m.elim
abbrev rTwo (X : Cx) (cl : Cl) (o : Bo) : List V → Hp → VK → Prop := fun vs H Q => ∃ x y, vs = [x, y] ∧ Two X cl o x y H Q
theorem two_arg {o : Bo} {σ : L2.St} {H : Hp} {Q : VK} (t : tE Z W (.bin o ma mb) σ H Q) : tL Z W [ma, mb] σ H fun vs H1 => rTwo X Z.cl o vs H1 Q := by
  refine t.seq (rel' := RpSs Z.cl) (f := fun ss ρ h2 => match ss with | [s, u] => (liftO (dref h2 s) h2).bind fun v h2 => (liftO (dref h2 u) h2).bind fun w h2 => (liftO (sem2 o v w) h2).bind fun z h2 => .ok (.t z) h2 | _ => .bad) (fun ρ h => ?_) fun ss h1 φ1 H1 vs ρ re hs r m => ?_
  · simp only [evE, evS]
    cases evE Z.G Z.C ρ h ma with
    | ok s h1 => simp only [R.bind_ok]; cases evE Z.G Z.C ρ h1 mb <;> rfl
    | ex _ _ _ => rfl
    | bad => rfl
  · match ss, vs, r, m with
    | [s, u], _, ⟨v, _, rfl, r1, ⟨v2, _, rfl, r2, rfl⟩⟩, m =>
      obtain ⟨t, e1, m⟩ := m.lift
      obtain ⟨t2, e2, m⟩ := m.lift
      obtain ⟨z, e3, m⟩ := m.lift
      exact ⟨v, v2, rfl, _, _, _, _, _, _, _, _, hs, RpS.dref hs r1 e1, RpS.dref hs r2 e2, e3, m⟩
    | [], _, _, m => exact m.elim
    | [_], _, _, m => exact m.elim
    | _ :: _ :: _ :: _, _, _, m => exact m.elim
/-- f(e), f a built-in function -/
theorem s_bf {u : U} (hc : CallR X (.builtin id) (rOne X Z.cl Z.G.sub u)) (hg : Gl X x) (hm : X.mg x = none) (hv : bootBuiltins x = some (.builtin id)) (ha : PA X [a] (tL Z W [ma])) (hn : x ≠ "__name__") (hd : (x == ("__debug__" : Str)) = false)
    (he : starEach [a] X.env = (false, eval a X.env) :: starEach [] X.env) (hp : (backTo pos (starEach [] X.env)).any (·.1) = false) : PE X (.Call (.Name x p) [a] [] pos) (tE Z W (.un u ma)) :=
  pe_weak (pe_callB hc hg hm hv ha hn hd he hp) fun _ _ _ t => one_arg t
/-- T(e), T a built-in type -/
theorem s_bt {u : U} (hc : CallR X (.type id) (rOne X Z.cl Z.G.sub u)) (hg : Gl X x) (hm : X.mg x = none) (hv : bootBuiltins x = some (.type id)) (ha : PA X [a] (tL Z W [ma])) (hn : x ≠ "__name__") (hd : (x == ("__debug__" : Str)) = false)
    (he : starEach [a] X.env = (false, eval a X.env) :: starEach [] X.env) (hp : (backTo pos (starEach [] X.env)).any (·.1) = false) : PE X (.Call (.Name x p) [a] [] pos) (tE Z W (.un u ma)) :=
  pe_weak (pe_callTy hc hg hm hv ha hn hd he hp) fun _ _ _ t => one_arg t
/-- f(e, d) -/
theorem s_bf2 {o : Bo} (hc : CallR X (.builtin id) (rTwo X Z.cl o)) (hg : Gl X x) (hm : X.mg x = none) (hv : bootBuiltins x = some (.builtin id)) (ha : PA X [a, b] (tL Z W [ma, mb])) (hn : x ≠ "__name__") (hd : (x == ("__debug__" : Str)) = false)
    (he : starEach [a, b] X.env = (false, eval a X.env) :: starEach [b] X.env) (hp : (backTo pos (starEach [b] X.env)).any (·.1) = false) : PE X (.Call (.Name x p) [a, b] [] pos) (tE Z W (.bin o ma mb)) :=
  pe_weak (pe_callB hc hg hm hv ha hn hd he hp) fun _ _ _ t => two_arg t
theorem fn_max {cl : Cl} (hc : X.calm = true) : CallR X (.builtin "max") (rTwo X cl .max) := fun pins s σ H vs us Q I r ⟨x, y, ev, xr, W, σ0, φ, h, t, u, z, hs, r1, r2, e, m⟩ => by
  cases t <;> cases u <;> first
    | (cases e; done)
    | skip
  cases e; cases r1; cases r2
  exact call_max2 hc pins s σ H _ us Q I r ⟨_, _, ev, nowInt m hs⟩
theorem fn_min {cl : Cl} (hc : X.calm = true) : CallR X (.builtin "min") (rTwo X cl .min) := fun pins s σ H vs us Q I r ⟨x, y, ev, xr, W, σ0, φ, h, t, u, z, hs, r1, r2, e, m⟩ => by
  cases t <;> cases u <;> first
    | (cases e; done)
    | skip
  cases e; cases r1; cases r2
  exact call_min2 hc pins s σ H _ us Q I r ⟨_, _, ev, nowInt m hs⟩
/-- isinstance(e, T), T a built-in type -/
theorem s_isi {ty : Ty} {n : String} {y : Str} {py : Pos} (co : ClsOk X.K Z.cl Z.G.sub) (hg : Gl X "isinstance") (hm : X.mg "isinstance" = none) (hgy : Gl X y) (hmy : X.mg y = none) (hvy : bootBuiltins y = some (.type n)) (ev : ty.val Z.cl = some (.type n)) (ha : PE X a (tE Z W ma)) (hny : y ≠ "__name__")
    (hdy : (y == ("__debug__" : Str)) = false) (he : starEach [a, .Name y py] X.env = (false, eval a X.env) :: starEach [.Name y py] X.env) (he2 : starEach [.Name y py] X.env = (false, eval (.Name y py) X.env) :: starEach [] X.env) (hp : (backTo pos (starEach [.Name y py] X.env)).any (·.1) = false) :
    PE X (.Call (.Name "isinstance" p) [a, .Name y py] [] pos) (tE Z W (.un (.isi [ty]) ma)) :=
  pe_weak (pe_callB (one_isi co ev (.ty n)) hg hm (by rfl) (pa_cons ha (pa_cons (pe_bltn (v := .ty n) hgy hmy hvy rfl hny hdy) pa_nil he2) he) (by decide) (by decide) he hp) fun σ H Q t => by
    obtain ⟨φ, h, ρ, re, hs, m⟩ := ev1 (X := X) t
    exact ⟨φ, h, ρ, re, hs, m.imp fun v H' q => ⟨v, rfl, q⟩⟩
/-- a list made of two -/
theorem s_catn (ha : PE X a (tE Z W ma)) (hb : PE X b (tE Z W mb)) : PE X (.BinOp a .Add b pos) (tE Z W (.catn ma mb)) := pe_weak (pe_op op_catR ha hb) fun σ H Q t => by
  refine t.seq (rel' := RpS Z.cl) (f := fun s ρ h1 => (evE Z.G Z.C ρ h1 mb).bind fun u h2 => (liftO (dref h2 s) h2).bind fun v h2 => (liftO (dref h2 u) h2).bind fun w h2 => (liftO (catL v w) h2).bind fun xs h2 => .ok (.r h2.length) (h2 ++ [.lst xs])) (fun ρ h => by simp only [evE]) fun s h1 φ1 H1 x ρ re hs r m => ?_
  refine ⟨φ1, h1, ρ, re, hs, m.bind fun u h2 φ2 H2 y _ g hs2 r2 m2 => ?_⟩
  obtain ⟨v, e1, m2⟩ := m2.lift
  obtain ⟨w, e2, m2⟩ := m2.lift
  obtain ⟨zs, e3, m2⟩ := m2.lift
  have q1 := RpS.dref hs2 (g.s r) e1
  have q2 := RpS.dref hs2 r2 e2
  cases v <;> cases w <;> first
    | (cases e3; done)
    | skip
  simp only [catL] at e3
  split at e3
  · rename_i hl
    cases e3
    obtain ⟨l, vs, ex, rd, p1⟩ := q1
    obtain ⟨k, ws, ey, rd2, p2⟩ := q2
    refine ⟨l, k, vs, ws, ex, ey, rd.rd, rd2.rd, by rw [← p1.length, ← p2.length]; exact lim_le hl, fun q nq => ?_⟩
    have pp : Rps Z.cl (Off φ2) H2 _ _ := Rps.append p1 p2
    have mv : ∀ b w, Off φ2 b → Rx H2 b w → Off (φ2.push q) b ∧ Rx (upd H2 q (.lst (vs ++ ws))) b w := fun b w ob r => ⟨off_push nq ob r, rd_upd nq r⟩
    have qq := Rps.move mv pp
    refine m2 (φ2.push q) _ _ (Grow.push nq) (hs2.push nq ⟨vs ++ ws, upd_same, qq⟩) ⟨by simp [hs2.len], fun a e => ?_⟩
    rw [← hs2.len] at e
    simpa using e
  · cases e3
/-- xs.append(e) -/
theorem s_app {apos cpos : Pos} (ha : PE X a (tE Z W ma)) (hb : PA X [b] (tL Z W [mb])) (hbase : attributeBase a "append" X.env (eval a X.env) = eval a X.env)
    (hfew : ((backTo cpos (starEach [b] X.env)).all (fun x => !x.1) && (backToKw cpos (keywordEach [] X.env)).all (fun x => x.1.isSome) && decide ([b].length + ([] : List Keyword).length + (if ([] : List Keyword).isEmpty then 0 else 1) < 30)) = true)
    (hline : (apos.endLine == cpos.line) = true) (hs : starEach [b] X.env = (false, eval b X.env) :: starEach [] X.env) (hp : (backTo cpos (starEach [] X.env)).any (·.1) = false) :
    PE X (.Call (.Attribute a "append" apos) [b] [] cpos) (tE Z W (.app ma mb)) :=
  pe_weak (pe_bm PySem.F.plainAttrs_list PySem.F.slot_list_append PySem.F.type_list_append mt_append ha hb hbase hfew hline hs hp) fun _ _ _ t => evApp t
/-- sep.join(xs), xs a list of texts -/
theorem s_join {apos : Pos} (ha : PE X a (tE Z W ma)) (hb : PE X b (tE Z W mb)) (hs : starEach [b] X.env = [(false, eval b X.env)]) (hbase : attributeBase a "join" X.env (eval a X.env) = eval a X.env) (hline : (apos.endLine == pos.line) = true) :
    PE X (.Call (.Attribute a "join" apos) [b] [] pos) (tE Z W (.join ma mb)) := pe_weak (pe_join ha hb hs hbase hline) fun σ H Q t => by
  refine t.seq (rel' := RpS Z.cl) (f := fun s ρ h1 => match s with
      | .t (.str y) => (evE Z.G Z.C ρ h1 mb).bind fun u h2 => (liftO (dref h2 u) h2).bind fun v h2 => (liftO (joinT y v) h2).bind fun z h2 => .ok (.t (.str z)) h2
      | _ => .bad) (fun ρ h => by simp only [evE] <;> rfl) fun s h1 φ1 H1 x ρ re hz r m => ?_
  cases s with
  | r _ => exact m.elim
  | t v =>
    cases v <;> first
      | exact m.elim
      | skip
    rename_i y
    have ex : x = .str y := by
      have q : RpF Z.cl φ1 H1 (.str y) x := r
      rw [RpF, Rp] at q
      exact q
    subst ex
    refine ⟨⟨y, rfl⟩, φ1, h1, ρ, re, hz, MW.bind (rel' := RpS Z.cl) m fun u h2 φ2 H2 w _ g hz2 r2 m2 => ?_⟩
    obtain ⟨v, e1, m2⟩ := m2.lift
    obtain ⟨z, e2, m2⟩ := m2.lift
    have q := RpS.dref hz2 r2 e1
    cases v <;> first
      | (cases e2; done)
      | skip
    rename_i xs
    simp only [joinT, Option.bind_eq_some_iff] at e2
    obtain ⟨ys, e3, e4⟩ := e2
    split at e4
    · rename_i hl
      cases e4
      obtain ⟨p, vs, ew, rd, q1⟩ := q
      have ev := Rps.strs q1 e3
      subst ev
      have q2 := nowStr m2 hz2
      rw [← TL.join_eq] at q2
      exact ⟨y, p, ys, rfl, by rw [ew], .inl (.inl rd.rd), hl, q2⟩
    · cases e4
/-- xs[::-1], xs a list -/
theorem Rps.rev {cl : Cl} {ok : Al} {H : Hp} : ∀ {xs : List T} {vs : List V}, Rps cl ok H xs vs → Rps cl ok H xs.reverse vs.reverse
  | [], _, r => by rw [r.inv0]; exact .nil
  | x :: xs, _, r => by
    obtain ⟨v, ws, rfl, p, q⟩ := r.inv
    rw [List.reverse_cons, List.reverse_cons]
    exact Rps.append (Rps.rev q) (.cons p .nil)
theorem s_rev {k : Nat} {p1 p2 p3 : Pos} (ha : PE X a (tE Z W ma)) : PE X (.Subscript a (.Slice none none (some (.UnaryOp .USub (.Constant (.int 1) k p1) p2)) p3) pos) (tE Z W (.un .rev ma)) :=
  pe_weak (pe_revA ha) fun σ H Q t => by
    obtain ⟨φ, h, ρ, re, hs, m⟩ := ev1 (X := X) t
    refine ⟨φ, h, ρ, re, hs, MW.imp m fun x H1 q => ?_⟩
    obtain ⟨xr, W0', σ0, φ1, h1, t1, z, hs1, rt, e, m1⟩ := q
    cases t1 <;> first
      | (cases e; done)
      | skip
    · cases e
      obtain ⟨b, vs, e1, o1, rd, q1⟩ := rt
      subst e1
      exact ⟨b, vs, rfl, .inr ⟨.inl rd.rd, newTup m1 hs1 (Rps.rev q1)⟩⟩
    · cases e
      obtain ⟨b, vs, e1, rd, q1⟩ := rt
      subst e1
      exact ⟨b, vs, rfl, .inl ⟨.inl rd.rd, newLst m1 hs1 (Rps.rev q1)⟩⟩
/-- isinstance(e, C), C an own class -/
theorem s_isiC {c : Nat} {C : Addr} {y : Str} {py : Pos} (co : ClsOk X.K Z.cl Z.G.sub) (hg : Gl X "isinstance") (hm : X.mg "isinstance" = none) (hgy : Gl X y) (hmy : X.mg y = some (.ref C)) (ec : Z.cl c = some C) (ha : PE X a (tE Z W ma)) (hdy : (y == ("__debug__" : Str)) = false)
    (he : starEach [a, .Name y py] X.env = (false, eval a X.env) :: starEach [.Name y py] X.env) (he2 : starEach [.Name y py] X.env = (false, eval (.Name y py) X.env) :: starEach [] X.env) (hp : (backTo pos (starEach [.Name y py] X.env)).any (·.1) = false) :
    PE X (.Call (.Name "isinstance" p) [a, .Name y py] [] pos) (tE Z W (.un (.isi [.cls c]) ma)) :=
  pe_weak (pe_callB (one_isi (ty := .cls c) (c := .ref C) (cv := .ref C) co (by simp [Ty.val, ec]) (.own C)) hg hm (by rfl) (pa_cons ha (pa_cons (pe_glob (v := .ref C) hgy hmy rfl hdy) pa_nil he2) he) (by decide) (by decide) he hp) fun σ H Q t => by
    obtain ⟨φ, h, ρ, re, hs, m⟩ := ev1 (X := X) t
    exact ⟨φ, h, ρ, re, hs, m.imp fun v H' q => ⟨v, rfl, q⟩⟩
/-- xs.clear() -/
theorem s_clr {apos cpos : Pos} (ha : PE X a (tE Z W ma)) (hbase : attributeBase a "clear" X.env (eval a X.env) = eval a X.env) (hline : (apos.endLine == cpos.line) = true) : PE X (.Call (.Attribute a "clear" apos) [] [] cpos) (tE Z W (.clr ma)) :=
  pe_weak (pe_bm0 PySem.F.plainAttrs_list PySem.F.slot_list_clear PySem.F.type_list_clear mt_clear ha hbase hline) fun σ H Q t => by
    refine t.seq (rel' := RpS Z.cl) (f := fun s ρ h1 => match s with
      | .r n => (match h1[n]? with | some (.lst _) => .ok (.t .non) (h1.set n (.lst [])) | _ => .bad)
      | _ => .bad) (fun ρ h => by simp only [evE] <;> rfl) fun s h1 φ1 H1 x ρ re hz r m => ?_
    cases s with
    | t _ => exact m.elim
    | r n =>
      dsimp only at m
      cases eh : h1[n]? with
      | none => rw [eh] at m; exact m.elim
      | some ob =>
        rw [eh] at m
        cases ob <;> first
          | exact m.elim
          | skip
        rename_i xs
        obtain ⟨b, ex, ea, w, hw, q⟩ := at_ref hz r eh (by intro z; cases z)
        refine ⟨sql_of (ks := xs) hz r (by simp only [dref, eh]), b, w, ex, rfl, hw, ?_⟩
        exact m φ1 _ _ (Grow.write (List.mem_of_getElem? ea)) (hz.write ea ⟨[], upd_same, .nil⟩) (by show RpF Z.cl φ1 _ _ _; rw [RpF, Rp])
end
end My

/-! MiniPy: own classes. -/
namespace My
open PySem L2 PyProof.Rows
/-- the class c has the method m: the def i of the mini program, with n parameters -/
structure MethG (B : Pk) (Z : Zs) (gd : Bool) (k c : Nat) (m : Str) (i n : Nat) : Prop where
  ex : ∃ (C f : Addr) (fd : FuncData) (ps : List Str), Z.cl c = some C ∧ Cls B.K C ∧ Meth B.K C m f ∧ FnG B gd k f fd ps (spF Z.cl Z.xr n (Z.C i)) ∧ ps.length = n ∧ Binds B.K fd ps []
/-- the class c has the property m -/
structure PropG (B : Pk) (Z : Zs) (k c : Nat) (m : Str) (i : Nat) : Prop where
  ex : ∃ (C p f : Addr) (fd : FuncData) (ps : List Str), Z.cl c = some C ∧ Cls B.K C ∧ PropOf B.K C m p f ∧ FnG B false k f fd ps (spF Z.cl Z.xr 1 (Z.C i)) ∧ ps.length = 1 ∧ Binds B.K fd ps []
/-- the class c is made by its name x: the def i, with n parameters (self is one) -/
structure MakeG (B : Pk) (Z : Zs) (k : Nat) (x : Str) (c i n : Nat) : Prop where
  ex : ∃ (C f : Addr) (fd : FuncData) (ps : List Str), Z.cl c = some C ∧ Mk B.K C f ∧ FnG B false k f fd ps (spF Z.cl Z.xr n (Z.C i)) ∧ ps.length = n ∧ B.mg x = some (.ref C) ∧ Binds B.K fd ps []
/-- no class has an attribute of that name -/
def NoAt (K : PySem.W.Frag) (cl : Cl) (c : Nat) (f : Str) : Prop := ∀ C, cl c = some C → Cls K C ∧ NoAttr K C f
section
variable {X : Cx} {Z : Zs} {W : WX}
theorem rpi_obj {cl : Cl} {φ : Phi} {H : Hp} {c : Nat} {ns : List Str} {us : List T} {v : V} (r : RpI cl φ H (.obj c ns us) v) : ∃ a C dx fs, v = .ref a ∧ cl c = some C ∧ H a = some (.ins C dx fs) ∧ fs.map (·.1) = ns ∧ Rps cl (Off φ) H us (fs.map (·.2)) := by
  obtain ⟨a, C, dx, fs, e, ec, rd, f, q⟩ := r
  exact ⟨a, C, dx, fs, e, ec, rd.ins, f, q⟩
theorem isO_is {φ : Phi} {h : Hm} {H : Hp} {c : Nat} {s : S} {x : V} {p : List Str × List T} (hs : Hs Z.cl φ h H) (r : RpS Z.cl φ H s x) (e : isO c s h = some p) : ∃ a C dx fs, x = .ref a ∧ Z.cl c = some C ∧ H a = some (.ins C dx fs) ∧ fs.map (·.1) = p.1 ∧ Rps Z.cl (Off φ) H p.2 (fs.map (·.2)) := by
  unfold isO at e
  cases ed : dref h s with
  | none => rw [ed] at e; cases e
  | some t =>
    rw [ed] at e
    cases t <;> first
      | (cases e; done)
      | skip
    dsimp only at e
    split at e
    · rename_i hc
      cases e
      subst hc
      exact rpi_obj (RpS.dref hs r ed)
    · cases e
theorem lookN_ok {cl : Cl} {ok : Al} {H : Hp} {f : Str} : ∀ {fs : List (Str × V)} {us : List T} {t : T}, Rps cl ok H us (fs.map (·.2)) → lookN f (fs.map (·.1)) us = some t → ∃ v, fs.lookup f = some v ∧ Rp cl ok H t v
  | [], us, t, _, e => by simp [lookN] at e
  | (g, v) :: fs, us, t, r, e => by
    cases us with
    | nil => simp [lookN] at e
    | cons u us =>
      obtain ⟨w, ws, ew, r1, r2⟩ := r.inv
      simp only [List.map_cons, List.cons.injEq] at ew
      obtain ⟨rfl, rfl⟩ := ew
      simp only [List.map_cons, lookN] at e
      by_cases h : g = f
      · rw [if_pos h] at e
        cases e
        exact ⟨v, by rw [List.lookup_cons]; simp [h], r1⟩
      · rw [if_neg h] at e
        obtain ⟨w, e1, r3⟩ := lookN_ok r2 e
        have hb : (f == g) = false := by simpa using fun z => h z.symm
        exact ⟨w, by rw [List.lookup_cons, hb]; exact e1, r3⟩
variable {o a : Expr} {mo ma : E} {pos apos : Pos} {f m x : Str} {es : List Expr} {ms : List E}
/-- o.f -/
theorem s_fld {c : Nat} (n : NoAt X.K Z.cl c f) (ho : PE X o (tE Z W mo)) (hb : attributeBase o f X.env (eval o X.env) = eval o X.env) : PE X (.Attribute o f pos) (tE Z W (.fld c mo f)) :=
  pe_weak (pe_fld ho hb) fun σ H Q t => by
    refine t.seq (rel' := RpS Z.cl) (f := fun s ρ h1 => (liftO (isO c s h1) h1).bind fun p h1 => (liftO (lookN f p.1 p.2) h1).bind fun v h1 => .ok (.t v) h1) (fun ρ h => by simp only [evE]) fun s h1 φ1 H1 x ρ re hs r m => ?_
    obtain ⟨p, e1, m⟩ := m.lift
    obtain ⟨v, e2, m⟩ := m.lift
    obtain ⟨a, C, dx, fs, ex, ec, ea, ef, q⟩ := isO_is hs r e1
    obtain ⟨cC, nC⟩ := n C ec
    rw [← ef] at e2
    obtain ⟨w, el, rw'⟩ := lookN_ok q e2
    exact ⟨a, C, dx, fs, w, ex, ea, cC, nC, el, now m hs rw'⟩
/-- C(..) -/
theorem run_mk {k c i n : Nat} {C fa : Addr} {fd : FuncData} {ps : List Str} {pins : List (Addr × Obj)} {σ : L2.St} {H : Hp} {s : Shared} {Q : VK} {us : List Value} {zs : List V} {sp : Sp} (M : Mk X.K C fa) (F : FnG X.pk false k fa fd ps sp) (hr : Room (k + 1) X.A)
    (hb : Binds X.K fd ps []) (tk : Takes X W) (I : Inv X pins σ H s) (r : Vals zs us)
    (hq : ∀ y dx, H y = none → H dx = none → dx ≠ y → sp (.ref y :: zs) (upd (upd H dx (.own y)) y (.ins C dx [])) (fun v H2 => v = .non ∧ Q (.ref y) H2) (WE W σ)) :
    wpAny (model X.prog X.w) X.A (call (.ref C) us) (EP X pins σ Q) X.xe s := by
  have q := hq (s.heap.objs.size + 1) s.heap.objs.size (I.hok.fresh (Nat.le_succ _)) (I.hok.fresh (Nat.le_refl _)) (Nat.ne_of_lt (Nat.lt_succ_self _))
  have J := Inv.made (C := C) I
  have r2 : Vals (V.ref (s.heap.objs.size + 1) :: zs) (Value.ref (s.heap.objs.size + 1) :: us) := .cons rfl r
  have n1 : (Value.ref (s.heap.objs.size + 1) :: us).length = ps.length := by rw [← r2.length, F.len _ _ _ _ q]
  have b := hb _ (Value.ref (s.heap.objs.size + 1) :: us) J.kIn (by rw [List.append_nil]; exact n1)
  rw [List.append_nil] at b
  refine wpAny_call (make_map (f := fa) I.kIn M.makes M.init (beq_iff_eq.mp M.fn) (codeAny_mono (F.run _ X.stack _ _ ⟨Value.ref (s.heap.objs.size + 1) :: us, []⟩ _ _ _ (WE W σ) (hr.make C us []) (fun h => Bool.noConfusion h) (J.env0.make C us []) b r2 q) fun res s' z => ?_))
  match res, z with
  | .error e, z => exact passAt tk σ pins _ _ e s' J z
  | .ok (.ret u), z =>
    obtain ⟨v, H', J2, rv, ev, q3⟩ := J.after z
    subst ev
    exact ⟨rv, ⟨V.ref (s.heap.objs.size + 1), H', J2, rfl, q3⟩⟩
  | .ok .next, z => exact z.elim
  | .ok .brk, z => exact z.elim
  | .ok .cont, z => exact z.elim
theorem ev_make {c i : Nat} {C : Addr} (ec : Z.cl c = some C) {σ : L2.St} {H : Hp} {Q : VK} (t : tE Z W (.make c i ms) σ H Q) : tL Z W ms σ H fun zs H1 => ∀ y dx, H1 y = none → H1 dx = none → dx ≠ y →
    spF Z.cl Z.xr (ms.length + 1) (Z.C i) (.ref y :: zs) (upd (upd H1 dx (.own y)) y (.ins C dx [])) (fun v H2 => v = .non ∧ Q (.ref y) H2) (WE W σ) := by
  refine t.with (rel' := RpSs Z.cl) (f := fun ss ρ h1 => (Z.C i (.r h1.length :: ss) (h1 ++ [.obj c [] []])).bind fun u h2 => match u with
      | .t .non => if h1.length < h2.length then .ok (.r h1.length) h2 else .bad
      | _ => .bad) (fun ρ h => by simp only [evE] <;> rfl) fun ss h0 h1 φ1 H1 zs ρ ee re hs r m y dx ny nd ne => ?_
  have g1 : Grow φ1 H1 φ1 (upd H1 dx (.own y)) := Grow.lay nd
  have hs1 := hs.lay (o := .own y) nd
  have ny1 : upd H1 dx (.own y) y = none := by rw [upd_ne (Ne.symm ne)]; exact ny
  have g2 : Grow φ1 (upd H1 dx (.own y)) (φ1.push y) (upd (upd H1 dx (.own y)) y (.ins C dx [])) := Grow.push ny1
  have hs2 := hs1.push (o := .ins C dx []) (m := .obj c [] []) ny1 ⟨C, dx, [], ec, upd_same, rfl, .nil⟩
  have g := g1.trans g2
  have me : RpS Z.cl (φ1.push y) (upd (upd H1 dx (.own y)) y (.ins C dx [])) (.r h1.length) (.ref y) := ⟨by simp [hs.len], fun a e => by
    rw [← hs.len] at e
    simp at e
    rw [e]⟩
  refine ⟨φ1.push y, h1 ++ [.obj c [] []], .r h1.length :: ss, ⟨_, _, rfl, me, g.ss r⟩, hs2, by simp [← rps_len r, evS_len ee], ?_⟩
  cases ef : Z.C i (.r h1.length :: ss) (h1 ++ [.obj c [] []]) with
  | bad => rw [ef] at m; exact m.elim
  | ex c2 fs h2 => rw [ef] at m; exact fun φ' H' k d g' hs' q => m φ' H' k d (g.trans g') hs' q
  | ok u h2 =>
    rw [ef] at m
    simp only [R.bind_ok] at m
    cases u with
    | r _ => exact m.elim
    | t u =>
      cases u <;> first
        | exact m.elim
        | skip
      dsimp only at m
      split at m
      · intro φ' H' v g' hs' rv
        have ev : v = .non := by
          have q : RpF Z.cl φ' H' .non v := rv
          rw [RpF, Rp] at q
          exact q
        refine ⟨ev, m φ' H' _ (g.trans g') hs' (g'.s me)⟩
      · exact m.elim
theorem s_make {k c i : Nat} {e : Expr} {p : Pos} (M : MakeG X.pk Z k x c i (ms.length + 1)) (hr : Room (k + 1) X.A) (tk : Takes X W) (hg : Gl X x) (ha : PA X (e :: es) (tL Z W ms)) (hd : (x == ("__debug__" : Str)) = false)
    (he : starEach (e :: es) X.env = (false, eval e X.env) :: starEach es X.env) (hp : (backTo pos (starEach es X.env)).any (·.1) = false) : PE X (.Call (.Name x p) (e :: es) [] pos) (tE Z W (.make c i ms)) := by
  refine ⟨fun pins s σ H Q I t => ?_⟩
  obtain ⟨C, f, fd, ps, ec, mk, F, _, hm, hb⟩ := M.ex
  have go := ha.run pos pins s σ H _ I (ev_make ec t)
  exact wpAny_Call_Name_kw (ld_glob I hg hm (PySem.W.callWith_K (h₀ := X.base) I.ok.mod.kin mk.kp (thn go fun us s1 ⟨zs, H1, J, r, q⟩ => ⟨J.kIn, run_mk (c := c) (i := i) (n := 0) mk F hr hb tk J r q⟩) he hp) hd)
/-- o.m(..) -/
theorem map_lookup {fs : List (Str × V)} {m : Str} (h : (fs.map (·.1)).contains m = false) : fs.lookup m = none := by
  induction fs with
  | nil => rfl
  | cons p fs ih =>
    obtain ⟨g, v⟩ := p
    simp only [List.map_cons, List.contains_cons, Bool.or_eq_false_iff] at h
    rw [List.lookup_cons, h.1]
    exact ih h.2
theorem ev_meth {c i : Nat} {C : Addr} (ec : Z.cl c = some C) {σ : L2.St} {H : Hp} {Q : VK} (t : tE Z W (.meth c i m mo ms) σ H Q) : tE Z W mo σ H fun x H1 => ∃ a dx fs, x = .ref a ∧ H1 a = some (.ins C dx fs) ∧ fs.lookup m = none ∧
    tL Z W ms σ H1 fun zs H2 => spF Z.cl Z.xr (ms.length + 1) (Z.C i) (x :: zs) H2 Q (WE W σ) := by
  refine t.seq (rel' := RpS Z.cl) (f := fun s ρ h1 => (liftO (isO c s h1) h1).bind fun p h1 => if p.1.contains m then .bad else (evS Z.G Z.C ρ h1 ms).bind fun ss h2 => Z.C i (s :: ss) h2) (fun ρ h => by simp only [evE]) fun s h1 φ1 H1 x ρ re hs r w => ?_
  obtain ⟨p, e1, w⟩ := w.lift
  obtain ⟨a, C', dx, fs, ex, ec', ea, ef, q⟩ := isO_is hs r e1
  have : C' = C := Option.some.inj (ec'.symm.trans ec)
  subst this
  cases hm : p.1.contains m with
  | true => rw [hm] at w; exact w.elim
  | false =>
    rw [hm] at w
    refine ⟨a, dx, fs, ex, ea, map_lookup (by rw [ef]; exact hm), φ1, h1, ρ, re, hs, ?_⟩
    simp only [Bool.false_eq_true, if_false] at w
    refine w.bind (rel' := RpSs Z.cl) fun ss h2 φ2 H2 zs ee g hs2 r2 w2 => ⟨φ2, h2, s :: ss, ⟨x, zs, rfl, g.s r, r2⟩, hs2, by simp [← rps_len r2, evS_len ee], ?_⟩
    revert w2
    cases Z.C i (s :: ss) h2 <;> exact id
theorem s_meth {gd : Bool} {k c i : Nat} {e : Expr} {pl : Sem Bool} (M : MethG X.pk Z gd k c m i (ms.length + 1)) (hr : Room k X.A) (gu : gd = true → X.A.guards = some []) (tk : Takes X W) (ho : PE X o (tE Z W mo)) (ha : PA X (e :: es) (tL Z W ms))
    (he : starEach (e :: es) X.env = (false, eval e X.env) :: starEach es X.env) (hp : (backTo pos (starEach es X.env)).any (·.1) = false)
    (ht : eval (.Call (.Attribute o m apos) (e :: es) [] pos) X.env = (do
      let ov ← eval o X.env
      standAt apos.atName
      let (g, first) ← holding [ov] (getMethod ov m pl)
      callWith pos g first (backTo pos (starEach (e :: es) X.env)) (backToKw pos (keywordEach [] X.env)))) : PE X (.Call (.Attribute o m apos) (e :: es) [] pos) (tE Z W (.meth c i m mo ms)) := by
  refine ⟨fun pins s σ H Q I t => ?_⟩
  obtain ⟨C, f, fd, ps, ec, cC, hm, F, _, hb⟩ := M.ex
  refine PySem.W.methodCall_KW (pl := pl) (thn (ho.run pins s σ H _ I (ev_meth ec t)) fun u s1 ⟨x, H1, J, rx, a, dx, fs, ex, ea, l, q⟩ => ?_) ht
  subst ex
  obtain rfl : u = Value.ref a := rx
  refine getmeth_ok J ea cC hm l (PySem.W.callWith_K (first := [.ref a]) (h₀ := X.base) I.ok.mod.kin hm.kp (thn (ha.run pos pins s1 σ H1 _ J q) fun us s2 ⟨zs, H2, J2, r, q2⟩ => ⟨J2.kIn, ?_⟩) he hp)
  exact run_G (us := .ref a :: us) (zs := .ref a :: zs) F hr gu hb tk J2 (.cons rfl r) q2
theorem s_meth0 {gd : Bool} {k c i : Nat} {pl : Sem Bool} (M : MethG X.pk Z gd k c m i 1) (hr : Room k X.A) (gu : gd = true → X.A.guards = some []) (tk : Takes X W) (ho : PE X o (tE Z W mo))
    (ht : eval (.Call (.Attribute o m apos) [] [] pos) X.env = (do
      let ov ← eval o X.env
      standAt apos.atName
      let (g, first) ← holding [ov] (getMethod ov m pl)
      callWith pos g first (backTo pos (starEach [] X.env)) (backToKw pos (keywordEach [] X.env)))) : PE X (.Call (.Attribute o m apos) [] [] pos) (tE Z W (.meth c i m mo [])) := by
  refine ⟨fun pins s σ H Q I t => ?_⟩
  obtain ⟨C, f, fd, ps, ec, cC, hm, F, _, hb⟩ := M.ex
  refine PySem.W.methodCall_KW (pl := pl) (thn (ho.run pins s σ H _ I (ev_meth ec t)) fun u s1 ⟨x, H1, J, rx, a, dx, fs, ex, ea, l, φ, h, ρ, re, hs, q⟩ => ?_) ht
  subst ex
  obtain rfl : u = Value.ref a := rx
  have q2 := q φ H1 [] (Grow.refl _ _) hs rfl
  exact getmeth_ok J ea cC hm l (PySem.W.callWith_K0 (first := [.ref a]) J.kIn hm.kp (run_G (us := [.ref a]) (zs := [.ref a]) F hr gu hb tk J (.cons rfl .nil) q2))
/-- o.f, a property -/
theorem s_prop {k c i : Nat} (M : PropG X.pk Z k c f i) (hr : Room (k + 1) X.A) (ho : PE X o (tE Z W mo)) (hab : attributeBase o f X.env (eval o X.env) = eval o X.env) : PE X (.Attribute o f pos) (tE Z W (.prop c i mo)) := by
  obtain ⟨C, p, fa, fd, ps, ec, cC, hp, F, _, hb⟩ := M.ex
  refine pe_weak (pe_prop (E := fun _ _ _ => False) (dvs := []) (ds := []) ho cC hp F.ok hr hb .nil passL hab) fun σ H Q t => ?_
  refine t.seq (rel' := RpS Z.cl) (f := fun s ρ h1 => (liftO (isO c s h1) h1).bind fun _ h1 => noEx (Z.C i [s] h1)) (fun ρ h => by simp only [evE]) fun s h1 φ1 H1 x ρ re hs r w => ?_
  obtain ⟨p, e1, w⟩ := w.lift
  obtain ⟨a, C', dx, fs, ex, ec', ea, ef, q⟩ := isO_is hs r e1
  have : C' = C := Option.some.inj (ec'.symm.trans ec)
  subst this
  subst ex
  refine ⟨a, dx, fs, rfl, ea, φ1, h1, [s], ⟨_, _, rfl, r, rfl⟩, hs, rfl, ?_⟩
  revert w
  cases Z.C i [s] h1 with
  | ok _ _ => exact id
  | ex _ _ _ => exact fun w => w.elim
  | bad => exact id
/-- o.f = v -/
theorem putN_ok {cl : Cl} {ok : Al} {H : Hp} {f : Str} {t : T} {v : V} (p : Rp cl ok H t v) : ∀ {fs : List (Str × V)} {us : List T}, Rps cl ok H us (fs.map (·.2)) → (putF f v fs).map (·.1) = (putN f t (fs.map (·.1)) us).1 ∧ Rps cl ok H (putN f t (fs.map (·.1)) us).2 ((putF f v fs).map (·.2))
  | [], us, r => by
    have : us = [] := by have := r.length; simpa using this
    subst this
    exact ⟨rfl, .cons p .nil⟩
  | (g, w) :: fs, us, r => by
    cases us with
    | nil => have := r.length; simp at this
    | cons u us =>
      obtain ⟨w', ws, ew, r1, r2⟩ := r.inv
      simp only [List.map_cons, List.cons.injEq] at ew
      obtain ⟨rfl, rfl⟩ := ew
      have ih := putN_ok (f := f) p r2
      simp only [putF, List.map_cons, putN]
      by_cases h : g = f
      · simp only [h, if_true, List.map_cons]
        exact ⟨trivial, .cons p r2⟩
      · simp only [h, if_false, List.map_cons]
        exact ⟨by rw [ih.1], .cons r1 ih.2⟩
theorem s_setf {c : Nat} {v : Expr} {mv : E} {pos' : Pos} (n : NoAt X.K Z.cl c f) (ho : PE X o (tE Z W mo)) (hv : PE X v (tE Z W mv)) (hs : swapsWith v (some (.Attribute o f pos')) pos.line X.env = pure false) :
    PS X (.Assign [.Attribute o f pos'] v pos) (tS Z W (.setf c mo f mv)) := ps_weak (ps_fld ho hv hs) fun D σ H t => by
  refine t.seq (rel' := RpS Z.cl) (f := fun s ρ h1 => (evE Z.G Z.C ρ h1 mo).out ρ fun so h2 => match s, so with
      | .t v, .r n => (match h2[n]? with
        | some (.obj d ns vs) => if c = d ∧ ns.length < 1000 then .nx ρ (h2.set n (.obj d (putN f v ns vs).1 (putN f v ns vs).2)) else .bad
        | _ => .bad)
      | _, _ => .bad) (fun ρ h => by simp only [exS] <;> rfl) fun s h1 φ1 H1 y ρ re1 hs1 r1 m1 => ?_
  refine ⟨φ1, h1, ρ, re1, hs1, DW.seq (rel' := RpS Z.cl) re1 m1 fun so h2 φ2 H2 x g2 hs2 r2 m2 => ?_⟩
  cases s with
  | r _ => exact m2.elim
  | t tv =>
  cases so with
  | t _ => exact m2.elim
  | r n2 =>
  dsimp only at m2
  cases eh : h2[n2]? with
  | none => rw [eh] at m2; exact m2.elim
  | some ob =>
    rw [eh] at m2
    cases ob <;> first
      | exact m2.elim
      | skip
    rename_i d ns vs
    dsimp only at m2
    split at m2
    · rename_i hc
      obtain ⟨rfl, hl⟩ := hc
      obtain ⟨a, ex, ea, C, dx, fs, ec, ha, en, q⟩ := at_ref hs2 r2 eh (by intro z; cases z)
      obtain ⟨cC, nC⟩ := n C ec
      have mem : some a ∈ φ2.m := List.mem_of_getElem? ea
      refine ⟨a, C, dx, fs, ex, ha, cC, nC, by rw [← en, List.length_map] at hl; exact hl, ?_⟩
      have rv : RpF Z.cl φ2 H2 tv y := g2.s (s := .t tv) r1
      have pn := putN_ok (f := f) (t := tv) (v := y) (Rp.move (off_self (u := .ins C dx (putF f y fs)) ea) rv) (Rps.move (off_self ea) q)
      rw [en] at pn
      exact m2 φ2 _ σ (Grow.write mem) (hs2.write ea ⟨C, dx, putF f y fs, ec, upd_same, pn.1, pn.2⟩) ((Grow.write mem).e (g2.e re1))
    · exact m2.elim
/-! ### the classes' own ways of in, len, == -/
structure OwnG (B : Pk) (Z : Zs) (k c : Nat) (m : Str) (i n : Nat) : Prop where
  ex : ∃ (C f : Addr) (fd : FuncData) (ps : List Str), Z.cl c = some C ∧ PySem.W.findIn B.K (.ref C) m = some (some (.ref f)) ∧ PySem.W.isFn B.K (.ref f) = true ∧ FnG B false k f fd ps (spF Z.cl Z.xr n (Z.C i)) ∧ ps.length = n ∧ Binds B.K fd ps []
/-- what is owed of an own test: Q of its answer -/
abbrev rIn (X : Cx) (Z : Zs) (C : Addr) (i : Nat) (g : Bool → Bool) : R2 := fun x y H Q => ∃ a dx fs, y = .ref a ∧ H a = some (.ins C dx fs) ∧ spF Z.cl Z.xr 2 (Z.C i) [y, x] H (fun v H' => ∃ k, v = .bl k ∧ Q (.bl (g k)) H') fun _ _ _ => False
theorem ins_at {pins : List (Addr × Obj)} {σ : L2.St} {H : Hp} {s : Shared} {a C dx : Addr} {fs : List (Str × V)} (I : Inv X pins σ H s) (ea : H a = some (.ins C dx fs)) : ∃ ox od, PySem.W.InstAt s.heap a ox C od := by
  obtain ⟨mA, O, _⟩ := ins_get I.hok ea
  obtain ⟨od, J, _⟩ := O.look
  exact ⟨_, _, J⟩
theorem op_in {k i : Nat} {C f : Addr} {fd : FuncData} {ps : List Str} (hs : PySem.W.findIn X.K (.ref C) "__contains__" = some (some (.ref f))) (hf : PySem.W.isFn X.K (.ref f) = true) (F : FnG X.pk false k f fd ps (spF Z.cl Z.xr 2 (Z.C i))) (hb : Binds X.K fd ps []) (hr : Room k X.A) :
    OpR X (compareOp .In) (rIn X Z C i fun b => b) ∧ OpR X (compareOp .NotIn) (rIn X Z C i fun b => !b) := by
  have go : ∀ (pins : List (Addr × Obj)) (s : Shared) (σ : L2.St) (H : Hp) (x : V) (a : Addr) (v : Value) (Q : VK) (g : Bool → Bool), Inv X pins σ H s → RelV x v → spF Z.cl Z.xr 2 (Z.C i) [.ref a, x] H (fun v H' => ∃ k, v = .bl k ∧ Q (.bl (g k)) H') (fun _ _ _ => False) →
      wpAny (model X.prog X.w) X.A (call (.ref f) [.ref a, v]) (fun r s' => wpAny (model X.prog X.w) X.A (truthy r) (fun b => EP X pins σ Q (.bool (g b))) X.xe s') X.xe s := fun pins s σ H x a v Q g I rx sp =>
    wpAny_mono (run_G (W := W0) (σ := σ) F hr (fun h => Bool.noConfusion h) hb takes0 I (us := [.ref a, v]) (zs := [.ref a, x]) (.cons rfl (.cons rx .nil)) sp) (fun r s' z => by
      obtain ⟨w, H1, J, rv, k, ev, q⟩ := z
      subst ev
      cases (show r = Value.bool k from rv)
      exact wpAny_truthy_bool ⟨.bl (g k), H1, J, rfl, q⟩) fun _ _ z => z
  refine ⟨fun pins s σ H x y v u Q I rx ry ⟨a, dx, fs, ey, ea, sp⟩ => ?_, fun pins s σ H x y v u Q I rx ry ⟨a, dx, fs, ey, ea, sp⟩ => ?_⟩
  all_goals
    subst ey
    cases (show u = Value.ref a from ry)
    obtain ⟨ox, od, J⟩ := ins_at I ea
    obtain ⟨m, hF⟩ := I.fr
  · exact PySem.W.in_K hF I.ok.mod.kin J hs hf (go pins s σ H x a v Q _ I rx sp)
  · exact PySem.W.notIn_K hF I.ok.mod.kin J hs hf (go pins s σ H x a v Q _ I rx sp)
theorem ev_own2 {neg : Bool} {c i : Nat} {C : Addr} {ma mb : E} (ec : Z.cl c = some C) {σ : L2.St} {H : Hp} {Q : VK} (t : tE Z W (.own2 neg c i ma mb) σ H Q) : tE Z W ma σ H fun x H1 => tE Z W mb σ H1 fun y H2 => rIn X Z C i (fun b => b != neg) x y H2 Q := by
  refine t.seq (rel' := RpS Z.cl) (f := fun s ρ h1 => (evE Z.G Z.C ρ h1 mb).bind fun u h2 => (liftO (isO c u h2) h2).bind fun _ h2 => (noEx (Z.C i [u, s] h2)).bind fun r h3 => (asB r h3).bind fun k h3 => .ok (.t (.bl (k != neg))) h3) (fun ρ h => by simp only [evE]) fun s h1 φ1 H1 x ρ re hs r m => ?_
  refine ⟨φ1, h1, ρ, re, hs, m.bind fun u h2 φ2 H2 y _ g hs2 r2 m2 => ?_⟩
  obtain ⟨p, e1, m2⟩ := m2.lift
  obtain ⟨a, C', dx, fs, ex, ec', ea, ef, q⟩ := isO_is hs2 r2 e1
  have : C' = C := Option.some.inj (ec'.symm.trans ec)
  subst this
  refine ⟨a, dx, fs, ex, ea, φ2, h2, [u, s], ⟨_, _, rfl, r2, ⟨_, _, rfl, g.s r, rfl⟩⟩, hs2, rfl, ?_⟩
  revert m2
  cases Z.C i [u, s] h2 with
  | bad => exact fun w => w.elim
  | ex _ _ _ => exact fun w => w.elim
  | ok rr h3 =>
    intro m2 φ' H' v g' hs' rv
    simp only [noEx, R.bind_ok] at m2
    cases rr with
    | r _ => exact m2.elim
    | t tt =>
      cases tt <;> first
        | exact m2.elim
        | skip
      rename_i k
      have ev : v = .bl k := by
        have q : RpF Z.cl φ' H' (.bl k) v := rv
        rw [RpF, Rp] at q
        exact q
      exact ⟨k, ev, nowBl (m2.grow g') hs'⟩
variable {b : Expr} {mb : E}
theorem rIn_same {C : Addr} {i : Nat} : rIn X Z C i (fun b => b != false) = rIn X Z C i (fun b => b) := by
  have e : (fun b : Bool => b != false) = fun b => b := by funext b; cases b <;> rfl
  rw [e]
theorem rIn_not {C : Addr} {i : Nat} : rIn X Z C i (fun b => b != true) = rIn X Z C i (fun b => !b) := by
  have e : (fun b : Bool => b != true) = fun b => !b := by funext b; cases b <;> rfl
  rw [e]
theorem s_own2 {neg : Bool} {po : CmpOp} {k c i : Nat} (M : OwnG X.pk Z k c "__contains__" i 2) (hr : Room k X.A) (ha : PE X a (tE Z W ma)) (hb : PE X b (tE Z W mb)) (hp : po = if neg then .NotIn else .In) (hm : behindInMarks po b = false) :
    PE X (.Compare a [po] [b] pos) (tE Z W (.own2 neg c i ma mb)) := by
  obtain ⟨C, f, fd, ps, ec, hs, hf, F, _, bd⟩ := M.ex
  obtain ⟨o1, o2⟩ := op_in (X := X) (Z := Z) (i := i) hs hf F bd hr
  cases neg with
  | false => subst hp; exact pe_weak (pe_cmpR o1 ha hb hm) fun σ H Q t => by have z := ev_own2 (X := X) ec t; rw [rIn_same] at z; exact z
  | true => subst hp; exact pe_weak (pe_cmpR o2 ha hb hm) fun σ H Q t => by have z := ev_own2 (X := X) ec t; rw [rIn_not] at z; exact z
theorem st_own2 {neg : Bool} {po : CmpOp} {k c i : Nat} (M : OwnG X.pk Z k c "__contains__" i 2) (hr : Room k X.A) (ha : PE X a (tE Z W ma)) (hb : PE X b (tE Z W mb)) (hp : po = if neg then .NotIn else .In) (hm : behindInMarks po b = false) :
    PT X (.Compare a [po] [b] pos) (tB' Z W (.own2 neg c i ma mb)) := by
  obtain ⟨C, f, fd, ps, ec, hs, hf, F, _, bd⟩ := M.ex
  obtain ⟨o1, o2⟩ := op_in (X := X) (Z := Z) (i := i) hs hf F bd hr
  cases neg with
  | false => subst hp; exact pt_weak (pt_cmpR o1 ha hb hm) fun σ H Q t => by have z := ev_own2 (X := X) ec (toB t); rw [rIn_same] at z; exact z
  | true => subst hp; exact pt_weak (pt_cmpR o2 ha hb hm) fun σ H Q t => by have z := ev_own2 (X := X) ec (toB t); rw [rIn_not] at z; exact z
/-- len(o) -/
theorem s_ownl {k c i : Nat} {p : Pos} (M : OwnG X.pk Z k c "__len__" i 1) (hr : Room (k + 1) X.A) (hg : Gl X "len") (hm : X.mg "len" = none) (ha : PA X [a] (tL Z W [ma]))
    (he : starEach [a] X.env = (false, eval a X.env) :: starEach [] X.env) (hp : (backTo pos (starEach [] X.env)).any (·.1) = false) : PE X (.Call (.Name "len" p) [a] [] pos) (tE Z W (.ownl c i ma)) := by
  obtain ⟨C, f, fd, ps, ec, hl, hf, F, hps, bd⟩ := M.ex
  have call : CallR X (.builtin "len") (fun vs H Q => ∃ a dx fs, vs = [.ref a] ∧ H a = some (.ins C dx fs) ∧ spF Z.cl Z.xr 1 (Z.C i) [.ref a] H (fun v H' => ∃ j, v = .int j ∧ (0 ≤ j ∧ j < 2 ^ 63) ∧ Q (.int j) H') fun _ _ _ => False) := by
    intro pins s σ H xs us Q I r ⟨a, dx, fs, ex, ea, sp⟩
    subst ex
    obtain rfl := Vals.ref1 r
    obtain ⟨ox, od, J⟩ := ins_at I ea
    obtain ⟨m, hF⟩ := I.fr
    refine PySem.W.len_K hF I.ok.mod.kin J hl hf ?_
    have b := bd s [.ref a] I.kIn (by simpa using hps.symm)
    refine wpAny_call (codeAny_mono (F.run X.A.in1 X.stack s H ⟨[.ref a], []⟩ [.ref a] [.ref a] _ _ hr.in1 (fun h => Bool.noConfusion h) I.env0.in1 b (.cons rfl .nil) sp) fun res s' z => ?_)
    match res, z with
    | .error e, ⟨_, _, _, _, _, _, _, _, _, _, _, _, z⟩ => exact z.elim
    | .ok (.ret u), z =>
      obtain ⟨v, H', J2, rv, j, ev, hj, q⟩ := I.after z
      subst ev
      obtain ⟨t, eu⟩ := (show ∃ t, u = Value.int j t from rv)
      subst eu
      exact ⟨hj, ⟨.int j, H', J2.tok _, ⟨_, rfl⟩, q⟩⟩
    | .ok .next, z => exact z.elim
    | .ok .brk, z => exact z.elim
    | .ok .cont, z => exact z.elim
  refine pe_weak (pe_callB call hg hm (by rfl) ha (by decide) (by decide) he hp) fun σ H Q t => ?_
  refine t.seq (rel' := RpSs Z.cl) (f := fun ss ρ h1 => match ss with | [s] => (liftO (isO c s h1) h1).bind fun _ h1 => (noEx (Z.C i [s] h1)).bind fun r h2 => (asI r h2).bind fun i h2 => if 0 ≤ i ∧ i < 2 ^ 63 then .ok (.t (.int i)) h2 else .bad | _ => .bad) (fun ρ h => ?_) fun ss h1 φ1 H1 vs ρ re hs r m => ?_
  · simp only [evE, evS]
    cases evE Z.G Z.C ρ h ma <;> rfl
  · match ss, vs, r, m with
    | [], _, _, m => exact m.elim
    | _ :: _ :: _, _, _, m => exact m.elim
    | [s], _, ⟨v, _, rfl, r1, rfl⟩, m =>
      obtain ⟨p, e1, m⟩ := m.lift
      obtain ⟨a, C', dx, fs, ex, ec', ea, ef, q⟩ := isO_is hs r1 e1
      have : C' = C := Option.some.inj (ec'.symm.trans ec)
      subst this
      subst ex
      refine ⟨a, dx, fs, rfl, ea, φ1, h1, [s], ⟨_, _, rfl, r1, rfl⟩, hs, rfl, ?_⟩
      revert m
      cases Z.C i [s] h1 with
      | bad => exact fun w => w.elim
      | ex _ _ _ => exact fun w => w.elim
      | ok rr h3 =>
        intro m2 φ' H' v g' hs' rv
        simp only [noEx, R.bind_ok] at m2
        cases rr with
        | r _ => exact m2.elim
        | t tt =>
          cases tt <;> first
            | exact m2.elim
            | skip
          rename_i j
          simp only [asI, R.bind_ok] at m2
          split at m2
          · rename_i hj
            exact ⟨j, int_v rv, hj, nowInt (m2.grow g') hs'⟩
          · exact m2.elim
/-- a == b, both of a class with its own __eq__ -/
theorem op_eqO {k i : Nat} {C f : Addr} {fd : FuncData} {ps : List Str} (hl : PySem.W.findIn X.K (.ref C) "__eq__" = some (some (.ref f))) (hf : PySem.W.isFn X.K (.ref f) = true) (F : FnG X.pk false k f fd ps (spF Z.cl Z.xr 2 (Z.C i))) (bd : Binds X.K fd ps []) (hr : Room k X.A) :
    OpR X (compareOp .Eq) (fun x y H Q => ∃ a b dx dy fs gs, x = .ref a ∧ y = .ref b ∧ H a = some (.ins C dx fs) ∧ H b = some (.ins C dy gs) ∧ spF Z.cl Z.xr 2 (Z.C i) [.ref a, .ref b] H (fun v H' => ∃ k, v = .bl k ∧ Q (.bl k) H') fun _ _ _ => False) := by
  intro pins s σ H x y v u Q I rx ry ⟨a, b, dx, dy, fs, gs, ex, ey, ea, eb, sp⟩
  subst ex; subst ey
  cases (show v = Value.ref a from rx)
  cases (show u = Value.ref b from ry)
  obtain ⟨ox, od, J⟩ := ins_at I ea
  obtain ⟨ox', od', J'⟩ := ins_at I eb
  obtain ⟨m, hF⟩ := I.fr
  have hu : X.A.units < cLine := by have := hr.un; omega
  show wpAny _ _ (richCompare .Eq (.ref a) (.ref b)) _ _ _
  refine PySem.W.cmp_K (op := .Eq) (tb := .ref C) hu hF I.ok.mod.kin J J'.type (by simp [PySem.W.notFirst]) hl hf ?_
  refine wpAny_mono (run_G (W := W0) (σ := σ) F hr (fun h => Bool.noConfusion h) bd takes0 I (us := [.ref a, .ref b]) (zs := [.ref a, .ref b]) (.cons rfl (.cons rfl .nil)) sp) (fun r s' z => ?_) fun _ _ z => z
  obtain ⟨w, H1, J1, rv, k', ev, q⟩ := z
  subst ev
  cases (show r = Value.bool k' from rv)
  exact ⟨.bl k', H1, J1, rfl, q⟩
theorem ev_owne {c i : Nat} {C : Addr} {ma mb : E} (ec : Z.cl c = some C) {σ : L2.St} {H : Hp} {Q : VK} (t : tE Z W (.owne c i ma mb) σ H Q) : tE Z W ma σ H fun x H1 => tE Z W mb σ H1 fun y H2 => ∃ a b dx dy fs gs, x = .ref a ∧ y = .ref b ∧ H2 a = some (.ins C dx fs) ∧ H2 b = some (.ins C dy gs) ∧
    spF Z.cl Z.xr 2 (Z.C i) [.ref a, .ref b] H2 (fun v H' => ∃ k, v = .bl k ∧ Q (.bl k) H') fun _ _ _ => False := by
  refine t.seq (rel' := RpS Z.cl) (f := fun s ρ h1 => (evE Z.G Z.C ρ h1 mb).bind fun u h2 => (liftO (isO c s h2) h2).bind fun _ h2 => (liftO (isO c u h2) h2).bind fun _ h2 => (noEx (Z.C i [s, u] h2)).bind fun r h3 => (asB r h3).bind fun k h3 => .ok (.t (.bl k)) h3) (fun ρ h => by simp only [evE]) fun s h1 φ1 H1 x ρ re hs r m => ?_
  refine ⟨φ1, h1, ρ, re, hs, m.bind fun u h2 φ2 H2 y _ g hs2 r2 m2 => ?_⟩
  obtain ⟨p, e1, m2⟩ := m2.lift
  obtain ⟨p', e2, m2⟩ := m2.lift
  obtain ⟨a, C', dx, fs, ex, ec', ea, ef, q⟩ := isO_is hs2 (g.s r) e1
  obtain ⟨b, C2, dy, gs, ey, ec2, eb, eg, q2⟩ := isO_is hs2 r2 e2
  have z1 : C' = C := Option.some.inj (ec'.symm.trans ec)
  have z2 : C2 = C := Option.some.inj (ec2.symm.trans ec)
  subst z1; subst z2
  subst ex; subst ey
  refine ⟨a, b, dx, dy, fs, gs, rfl, rfl, ea, eb, φ2, h2, [s, u], ⟨_, _, rfl, g.s r, ⟨_, _, rfl, r2, rfl⟩⟩, hs2, rfl, ?_⟩
  revert m2
  cases Z.C i [s, u] h2 with
  | bad => exact fun w => w.elim
  | ex _ _ _ => exact fun w => w.elim
  | ok rr h3 =>
    intro m2 φ' H' v g' hs' rv
    simp only [noEx, R.bind_ok] at m2
    cases rr with
    | r _ => exact m2.elim
    | t tt =>
      cases tt <;> first
        | exact m2.elim
        | skip
      rename_i k
      have ev : v = .bl k := by
        have q : RpF Z.cl φ' H' (.bl k) v := rv
        rw [RpF, Rp] at q
        exact q
      exact ⟨k, ev, nowBl (m2.grow g') hs'⟩
theorem s_owne {k c i : Nat} (M : OwnG X.pk Z k c "__eq__" i 2) (hr : Room k X.A) (ha : PE X a (tE Z W ma)) (hb : PE X b (tE Z W mb)) (hm : behindInMarks .Eq b = false) : PE X (.Compare a [.Eq] [b] pos) (tE Z W (.owne c i ma mb)) := by
  obtain ⟨C, f, fd, ps, ec, hl, hf, F, _, bd⟩ := M.ex
  exact pe_weak (pe_cmpR (op_eqO (X := X) (Z := Z) (i := i) hl hf F bd hr) ha hb hm) fun σ H Q t => ev_owne ec t
theorem st_owne {k c i : Nat} (M : OwnG X.pk Z k c "__eq__" i 2) (hr : Room k X.A) (ha : PE X a (tE Z W ma)) (hb : PE X b (tE Z W mb)) (hm : behindInMarks .Eq b = false) : PT X (.Compare a [.Eq] [b] pos) (tB' Z W (.owne c i ma mb)) := by
  obtain ⟨C, f, fd, ps, ec, hl, hf, F, _, bd⟩ := M.ex
  exact pt_weak (pt_cmpR (op_eqO (X := X) (Z := Z) (i := i) hl hf F bd hr) ha hb hm) fun σ H Q t => ev_owne ec (toB t)
end
end My

/-! MiniPy: own exceptions, with one attribute or none. -/
namespace My
open PySem L2 PyProof.Rows
/-- the exceptions' classes: where each lies, the attribute that its own __init__ sets -/
abbrev Xc := Nat → Option (Addr × Option Str)
/-- an exception of the class c with what it carries -/
def xrOf (cl : Cl) (xc : Xc) : XRel := fun φ H c fs k d => match xc c with
  | some (C, none) => k = .ref C ∧ fs = [] ∧ d = none
  | some (C, some f) => k = .ref C ∧ ∃ dd v t, d = some dd ∧ fs = [t] ∧ H dd = some (.xd [(f, v)]) ∧ RpF cl φ H t v
  | none => False
theorem xrOf_ok {cl : Cl} {xc : Xc} : XrOk (xrOf cl xc) := fun φ φ' H c fs k d sub x => by
  unfold xrOf at x ⊢
  split at x
  · exact x
  · obtain ⟨e, dd, v, t, e1, e2, e3, r⟩ := x
    exact ⟨e, dd, v, t, e1, e2, e3, Rp.move (fun b w o q => ⟨sub b o, q⟩) r⟩
  · exact x
/-- a class without an __init__ of its own -/
structure Xc0 (K : PySem.W.Frag) (C : Addr) : Prop where
  how : ∃ (bmB : List Value) (B newId initId : String), ExcBaseFacts B newId initId bmB ∧ PySem.W.excIn K C bmB newId = true
  kp : PySem.W.keepIn K (.ref C) = true
  ex : PySem.W.subIn K (.ref C) (.type "BaseException") = some true
  ty : PySem.W.typeIn K (.ref C) = some (.type "type")
/-- a class whose __init__ sets the attribute f -/
structure Xc1 (B : Pk) (k : Nat) (C : Addr) (f : Str) : Prop where
  cls : OexC B.K C
  no : PySem.W.findIn B.K (.ref C) f = some none
  ex : ∃ (fI : Addr) (fd : FuncData) (ps : List Str), PySem.W.findIn B.K (.ref C) "__init__" = some (some (.ref fI)) ∧ PySem.W.typeIn B.K (.ref fI) = some (.type "function") ∧ Binds B.K fd ps [] ∧
    FnOk B.P B.w B.K B.mg B.base (L2.CX B.P B.w) k fI fd ps (fun vs H Q _ => ∃ a v, vs = [.ref a, v] ∧ H a = some (exo a C none) ∧ ∀ d, H d = none → d ≠ a → Q .non (upd (upd H d (exd d [(f, v)])) a (exo a C (some d))))
/-- def __init__(self, x): self.f = x -/
theorem ok_xinit {B : Pk} {x qual f : Str} {st : Stmt} {fI C : Addr} {fd : FuncData} {ps : List Str} {p1 p2 p3 p4 : Pos} {k : Nat} (F : Fun B.K x qual st fI fd) (S : FnScope ps ps (defScope st)) (n : ps.length = 2) (cls : OexC B.K C) (no : PySem.W.findIn B.K (.ref C) f = some none)
    {s0 s1 : Str} (e0 : ps = [s0, s1]) (hb : defBody st = [.Assign [.Attribute (.Name s0 p1) f p2] (.Name s1 p3) p4]) (v0 : Vis (defScope st) s0) (v1 : Vis (defScope st) s1) (d0 : (s0 == ("__debug__" : Str)) = false) (d1 : (s1 == ("__debug__" : Str)) = false)
    (c0 : (s0 == ("__classdict__" : Str)) = false) (c1 : (s1 == ("__classdict__" : Str)) = false) :
    FnOk B.P B.w B.K B.mg B.base (L2.CX B.P B.w) (k + 1) fI fd ps (fun vs H Q _ => ∃ a v, vs = [.ref a, v] ∧ H a = some (exo a C none) ∧ ∀ d, H d = none → d ≠ a → Q .non (upd (upd H d (exd d [(f, v)])) a (exo a C (some d)))) := by
  subst e0
  refine F.okX S (fun vs H Q E ⟨a, v, e, _⟩ => by rw [e]; rfl) fun cdv A fr s H vs Q E hr ⟨a, v, ev, ea, q⟩ => ?_
  subst ev
  rw [hb]
  refine ⟨_, pss_one (ps_ost (pe_var (i := 0) rfl v0 d0 c0) (pe_var (i := 1) rfl v1 d1 c1)), ?_⟩
  exact ⟨_, rfl, _, rfl, a, C, rfl, cls, no, .inl ⟨ea, fun dx n ne => q dx n ne⟩⟩
section
variable {X : Cx} {Z : Zs} {W : WX} {xc : Xc} {x : Str} {p pos pos2 : Pos}
/-- C(), an exception -/
theorem pmk_none {C : Addr} (T : Xc0 X.K C) (gC : X.mg x = some (.ref C)) (hg : Gl X x) (hd : (x == ("__debug__" : Str)) = false) : PMk X (.Call (.Name x p) [] [] pos) (fun _ H Q => Q (.ref C) none H) := by
  intro pins s σ H Q I h
  obtain ⟨bmB, B, newId, initId, F, q⟩ := T.how
  refine wpAny_Call_Name_kw (ld_glob I hg gC (PySem.W.callWith_K0 I.kIn T.kp ?_) hd)
  show wpAny _ _ (call (.ref C) []) _ _ _
  obtain ⟨bm, N, nm, qn, bs, hdct, sn, sub, ab, col, dd, k0, k1, k2, k3, k5, mN, hC, hN, hni, T2⟩ := exc_obj I.kIn q
  exact wpAny_call_exc_subT F T2 hC hN hni (fun h' e hm => mk_of I hm (raises_own T.ex T.ty) h (I.hok.gone hm.new)) (Nat.zero_le _)
theorem s_raise0 {c : Nat} {C : Addr} (hz : Z.xr = xrOf Z.cl xc) (ex : xc c = some (C, none)) (T : Xc0 X.K C) (gC : X.mg x = some (.ref C)) (hg : Gl X x) (hd : (x == ("__debug__" : Str)) = false) (hc : X.calm = true) (tk : Takes X W) :
    PS X (.Raise (some (.Call (.Name x p) [] [] pos)) none pos2) (tS Z W (.rais c [])) := ps_weak (ps_raise hc tk (pmk_none T gC hg hd)) fun D σ H ⟨φ, h, ρ, re, hs, m⟩ => by
  simp only [exS, evTs, R.out_ok] at m
  exact m φ H (.ref C) none σ (Grow.refl _ _) hs re (by rw [hz]; unfold xrOf; rw [ex]; exact ⟨rfl, rfl, rfl⟩)
theorem tO.with {γ δ : Type} {rel' : Phi → Hp → γ → δ → Prop} {ev : En → Hm → Out} {ev' : En → Hm → R γ} {f : γ → En → Hm → Out} {D : Ends} {σ : L2.St} {H : Hp} {Q' : δ → Hp → Prop} (t : tO Z W ev D σ H)
    (e : ∀ ρ h, ev ρ h = (ev' ρ h).out ρ fun a h1 => f a ρ h1) (k : ∀ a h0 h1 φ1 H1 v ρ, ev' ρ h0 = .ok a h1 → RpE Z.cl φ1 H1 ρ σ → Hs Z.cl φ1 h1 H1 → rel' φ1 H1 a v → DW Z W D φ1 H1 (f a ρ h1) → Q' v H1) : tG Z W rel' ev' σ H Q' := by
  obtain ⟨φ, h, ρ, re, hs, m⟩ := t
  refine ⟨φ, h, ρ, re, hs, ?_⟩
  rw [e] at m
  cases x : ev' ρ h with
  | ok a h1 =>
    rw [x] at m
    exact fun φ' H' v g hs' r => k a h h1 φ' H' v ρ x (g.e re) hs' r (DW.grow m g)
  | ex c fs h1 =>
    rw [x] at m
    exact fun φ' H' k d g hs' r => m φ' H' k d σ g hs' (g.e re) r
  | bad => rw [x] at m; exact m
theorem s_raise1 {c k : Nat} {C : Addr} {f : Str} {e : Expr} {m : E} (hz : Z.xr = xrOf Z.cl xc) (ex : xc c = some (C, some f)) (T : Xc1 X.pk k C f) (gC : X.mg x = some (.ref C)) (hg : Gl X x) (hr : Room (k + 1) X.A) (hd : (x == ("__debug__" : Str)) = false) (hc : X.calm = true) (tk : Takes X W)
    (ha : PA X [e] (tLT Z W [m])) (he : starEach [e] X.env = (false, eval e X.env) :: starEach [] X.env) (hp : (backTo pos (starEach [] X.env)).any (·.1) = false) :
    PS X (.Raise (some (.Call (.Name x p) [e] [] pos)) none pos2) (tS Z W (.rais c [m])) := by
  obtain ⟨fI, fd, ps, iC, tI, bd, F⟩ := T.ex
  refine ps_weak (ps_raise hc tk (pmk_oex (dvs := []) (ds := []) T.cls iC tI F hr bd .nil passL hg gC ha hd he hp)) fun D σ H t => ?_
  refine t.with (rel' := RpL Z.cl) (f := fun vs ρ h1 => .ex c vs ρ h1) (fun ρ h => by simp only [exS]) fun vs h0 h1 φ1 H1 zs ρ ee re hs r w => ?_
  have len := evTs_len ee
  match vs, zs, r, w, len with
  | [], _, _, _, len => cases len
  | [t], zs, r, w, _ =>
    obtain ⟨v, _, ez, rv, r2⟩ := r.inv
    have := r2.inv0
    subst this
    subst ez
    refine ⟨by show 1 ≤ 1000; decide, fun a na => ⟨a, v, rfl, upd_same, fun d nd ne => ⟨rfl, d, [(f, v)], upd_same, ?_, ?_, ?_⟩⟩⟩
    · rw [upd_ne ne]; exact upd_same
    · rw [upd_ne ne] at nd; exact nd
    · have nd' : H1 d = none := by rw [upd_ne ne] at nd; exact nd
      have eH : upd (del (upd (upd (upd H1 a (exo a C none)) d (exd d [(f, v)])) a (exo a C (some d))) a) d (.xd [(f, v)]) = upd H1 d (.xd [(f, v)]) := by
        funext b
        by_cases hb : b = d
        · subst hb; rw [upd_same, upd_same]
        · rw [upd_ne hb, upd_ne hb]
          by_cases hba : b = a
          · subst hba; rw [del_same, na]
          · rw [del_ne hba, upd_ne hba, upd_ne hb, upd_ne hba]
      rw [eH]
      have g : Grow φ1 H1 φ1 (upd H1 d (.xd [(f, v)])) := Grow.lay nd'
      refine w φ1 _ (.ref C) (some d) σ g (hs.lay nd') (g.e re) ?_
      rw [hz]
      unfold xrOf
      rw [ex]
      exact ⟨rfl, d, v, t, rfl, rfl, upd_same, g.rp rv⟩
  | _ :: _ :: _, _, _, _, len => simp at len
end
end My

/-! try with several clauses, some with a name. -/
namespace My
open PySem L2 PyProof.Rows
/-- a clause: its class, its name's slot, its suite's reading -/
structure Hx where
  c : Value
  i : Option Nat
  ts : Addr → Value → Option Addr → TS
def offI (i : Option Nat) (D : Ends) : Ends := match i with
  | none => D
  | some i => ⟨fun τ H => D.nx (τ.set i none) H, D.rt, fun τ H => D.bk (τ.set i none) H, fun τ H => D.ct (τ.set i none) H⟩
def onI (i : Option Nat) (e : Addr) (τ : L2.St) : L2.St := match i with
  | none => τ
  | some i => τ.set i (some (.ref e))
def wAll (K : PySem.W.Frag) (Wout : WX) (D : Ends) : List Hx → WX
  | [] => Wout
  | x :: r => fun cls d τ H => ∃ b, PySem.W.exmOne K cls x.c = some b ∧ (b = true → ∀ e, H e = none → x.ts e cls d (offI x.i D) (onI x.i e τ) H) ∧ (b = false → wAll K Wout D r cls d τ H)
abbrev SuiteOk (X : Cx) (suite : List Stmt) (ts : Addr → Value → Option Addr → TS) : Prop := ∀ (e : Addr) (oe : Obj) (cls : Value) (d : Option Addr) (pn : List (Addr × Obj)), Zc cls d oe → (∃ vs, oe.data = .fields vs) → PSs (X.suite e ((e, oe) :: pn)) suite (ts e cls d)
inductive HdsX (X : Cx) : List ExceptHandler → List Hx → Prop
  | nil : HdsX X [] []
  | plain {x : Str} {c : Value} {ts : Addr → Value → Option Addr → TS} {s0 : Stmt} {suite : List Stmt} {np hp : Pos} {hds : List ExceptHandler} {l : List Hx} (hc : Names X x c) (ok : SuiteOk X (s0 :: suite) ts) (r : HdsX X hds l) :
      HdsX X (.ExceptHandler (some (.Name x np)) none (s0 :: suite) hp :: hds) (⟨c, none, ts⟩ :: l)
  | named {x n : Str} {i : Nat} {c : Value} {ts : Addr → Value → Option Addr → TS} {s0 : Stmt} {suite : List Stmt} {np hp : Pos} {hds : List ExceptHandler} {l : List Hx} (hN : X.N.Nodup) (hi : X.N[i]? = some n) (hl : X.env.kindOf n = some .local) (hc : Names X x c) (ok : SuiteOk X (s0 :: suite) ts)
      (r : HdsX X hds l) : HdsX X (.ExceptHandler (some (.Name x np)) (some n) (s0 :: suite) hp :: hds) (⟨c, some i, ts⟩ :: l)
section
variable {X : Cx} {body : List Stmt} {h0 : ExceptHandler} {hds : List ExceptHandler} {l : List Hx} {pos : Pos} {tb : WX → TS} {Wout : WX}
theorem ps_try_all (stk : X.stack = X.env :: X.outer) (frm : X.env.frame = some X.env.locals) (tk : Takes X Wout)
    (hb : ∀ (W : WX) (pn : List (Addr × Obj)) (xe : Value → Shared → Prop), Takes (X.tr pn xe) W → PassesOwn (model X.prog X.w) X.A X.env xe → PSs (X.tr pn xe) body (tb W)) (hh : HdsX X (h0 :: hds) l) :
    PS X (.Try body (h0 :: hds) [] [] pos) (fun D σ H => tb (wAll X.K Wout D l) D σ H) := by
  refine ⟨fun pins s σ H D I now => ?_⟩
  have xok := I.ok
  have frames : X.A.frames = some (X.env :: X.outer) := by rw [xok.frames, stk]
  let xe1 : Value → Shared → Prop := fun u s1 => wpAny (model X.prog X.w) X.A (noteFrame u X.env) (fun _ s2 => wpAny (model X.prog X.w) X.A (setFlight u none) (fun _ s3 => wpAny (model X.prog X.w) X.A (handleBy u X.env (h0 :: hds)) (SP X pins D) X.xe s3) X.xe s2) X.xe s1
  have catch_ : Takes (X.tr (X.pn ++ pins) xe1) (wAll X.K Wout D l) := by
    intro u s1 xx
    obtain ⟨e, G0, sB, pq, τ, K1, cls, d, rfl, jb, nb, up, sky, fresh, eqO, gens, w⟩ := xx
    have j0 : Inv X pins τ K1 sB := jb.ofTry xok
    have sky1 : Sky G0 (X.env :: X.outer) e (Zc cls d) X.env.locals s1.heap := by rw [← stk]; exact sky
    show wpAny (model X.prog X.w) X.A (noteFrame (.ref e) X.env) _ _ _
    refine Sky.land Zc.steady frames frm sky1 fun g3 fly3 up3 => ?_
    have j3 : Inv X pins τ K1 { s1 with heap := g3 } := j0.landed nb fly3.1 (up.trans up3) eqO gens
    obtain ⟨o3, v3, at3, z3, d3⟩ := fly3.there
    have off : e ∉ frs (X.env :: X.outer) := fun hm => by
      obtain ⟨_, o', at', no⟩ := fly3.2.2.1.mem hm
      rw [at3] at at'
      cases at'
      exact no _ d3
    have offL : e ≠ X.env.locals := fun z => off (List.mem_filterMap.mpr ⟨X.env, List.mem_cons_self, by rw [frm, z]⟩)
    have offF : e ∉ X.fs := fun hm => by
      obtain ⟨en, hen, q⟩ := List.mem_filterMap.mp hm
      exact off (List.mem_filterMap.mpr ⟨en, List.mem_cons_of_mem _ hen, q⟩)
    have su3 := j3.suite at3 d3 fresh offL offF
    have typ : PySem.W.Looks (model X.prog X.w) g3 (typeOf (.ref e)) cls := fun A Q E s k q => wpAny_typeOf_ref (k _ _ at3) (by rw [z3.1]; exact q)
    have named_ : ∀ {x : Str} {c : Value} {np : Pos} {Q E : Value → Shared → Prop}, Names X x c → Q c { s1 with heap := g3 } → wpAny (model X.prog X.w) (X.A.mark (some (.ref e))) (eval (.Name x np) X.env) Q E { s1 with heap := g3 } := fun {x c np Q E} hc q => by
      obtain ⟨hg, nd, hm | ⟨hm, hv, nn⟩⟩ := hc
      · exact ld_glob (X := X.suite e ((e, o3) :: (X.pn ++ pins))) su3 hg hm q nd
      · exact ld_blt (X := X.suite e ((e, o3) :: (X.pn ++ pins))) su3 hg hm hv q nn nd
    suffices go : ∀ {hs : List ExceptHandler} {ls : List Hx}, HdsX X hs ls → wAll X.K Wout D ls cls d τ K1 → wpAny (model X.prog X.w) X.A (handleBy (.ref e) X.env hs) (SP X pins D) X.xe { s1 with heap := g3 } from go hh w
    intro hs ls hk
    induction hk with
    | nil =>
      intro w
      refine wpAny_handleBy_nil ?_
      obtain ⟨_, _, _, oe, vs, tb1, otb, ts1, he, hz, hd, h1, hr⟩ := id fly3
      unfold PySem.passOn
      refine wpAny_bind (wpAny_field he hd h1 ?_)
      rw [if_neg (show ¬ ((Value.ref tb1 == Value.none) = true) from by simp)]
      have out : wpAny (model X.prog X.w) X.A (setFlight (.ref e) X.env.frame) (fun _ s4 => wpAny (model X.prog X.w) X.A (throw (.ref e) : Sem Flow) (SP X pins D) X.xe s4) X.xe { s1 with heap := g3 } := by
        rw [frm]
        refine HandSPX.setFlight_upZ fly3 fun g4 fly4 up4 => wpAny_throw (tk _ _ ⟨e, G0, sB, pins, τ, K1, cls, d, rfl, j0, nb, (up.trans up3).trans up4, .inr (.inr (by rw [stk]; exact fly4)), fresh, eqO, gens, w⟩)
      first
        | exact wpAny_bind (wpAny_pure (wpAny_bind out))
        | exact wpAny_bind out
    | plain hc ok r ih =>
      intro w
      obtain ⟨b, isx, yes, no⟩ := w
      refine wpAny_handleBy_cons (codeAny_handlers_test ?_) (by intro q; cases q)
      refine named_ hc ((PySem.W.exm_one (M := model X.prog X.w) j3.kIn typ isx).here ?_)
      cases b with
      | false => exact ih (no rfl)
      | true =>
        refine codeAny_handlers_suite (HandSPX.lands_againZ fly3 fun g4 fly4 up4 => ?_)
        have j4 : Inv X pins τ K1 { s1 with heap := g4 } := j0.landed nb fly4.1 ((up.trans up3).trans up4) eqO gens
        obtain ⟨o4, v4, at4, z4, d4⟩ := fly4.there
        have su4 := j4.suite at4 d4 fresh offL offF
        refine wpAny_mono ((ok e o4 cls d (X.pn ++ pins) z4 ⟨_, d4⟩).run [] _ _ K1 _ su4 (yes rfl e fresh)) (fun f s6 z => ?_) (fun _ _ z => z.elim)
        match f, z with
        | .next, ⟨_, _, su6, q⟩ => exact ⟨_, _, su6.unsuite xok, q⟩
        | .brk, ⟨_, _, su6, q⟩ => exact ⟨_, _, su6.unsuite xok, q⟩
        | .cont, ⟨_, _, su6, q⟩ => exact ⟨_, _, su6.unsuite xok, q⟩
        | .ret _, ⟨_, _, _, su6, rv, q⟩ => exact ⟨_, _, _, su6.unsuite xok, rv, q⟩
    | @named x n i c ts t0 suite np hp hds2 l2 hN hi hl hc ok r ih =>
      intro w
      obtain ⟨b, isx, yes, no⟩ := w
      refine wpAny_handleBy_cons (codeAny_handlers_test ?_) (by intro q; cases q)
      refine named_ hc ((PySem.W.exm_one (M := model X.prog X.w) j3.kIn typ isx).here ?_)
      cases b with
      | false => exact ih (no rfl)
      | true =>
        refine codeAny_handlers_suite_as (HandSPX.lands_againZ fly3 fun g4 fly4 up4 => ?_)
        have j4 : Inv X pins τ K1 { s1 with heap := g4 } := j0.landed nb fly4.1 ((up.trans up3).trans up4) eqO gens
        obtain ⟨o4, v4, at4, z4, d4⟩ := fly4.there
        have su4 := j4.suite at4 d4 fresh offL offF
        refine store_ok (X := X.suite e ((e, o4) :: (X.pn ++ pins))) (v := .ref e) su4 hN hi (.inl hl) rfl (fun s5 su5 => ?_) (.inr hl)
        refine wpAny_mono ((ok e o4 cls d (X.pn ++ pins) z4 ⟨_, d4⟩).run [] s5 _ K1 _ su5 (yes rfl e fresh)) (fun f s6 z => ?_) (fun _ _ z => z.elim)
        match f, z with
        | .next, ⟨_, _, su6, q⟩ => exact gone_ok (su6.unsuite xok) hN hi hl fun s7 j7 => ⟨_, _, j7, q⟩
        | .brk, ⟨_, _, su6, q⟩ => exact gone_ok (su6.unsuite xok) hN hi hl fun s7 j7 => ⟨_, _, j7, q⟩
        | .cont, ⟨_, _, su6, q⟩ => exact gone_ok (su6.unsuite xok) hN hi hl fun s7 j7 => ⟨_, _, j7, q⟩
        | .ret _, ⟨_, _, _, su6, rv, q⟩ => exact gone_ok (su6.unsuite xok) hN hi hl fun s7 j7 => ⟨_, _, _, j7, rv, q⟩
  refine wpAny_Try_except (wpAny_mono ((hb (wAll X.K Wout D l) (X.pn ++ pins) xe1 catch_ PassesOwn.looking).run [] s σ H D (I.toTry _) now) (fun f s1 z => ?_) fun _ _ z => z)
  match f, z with
  | .next, ⟨_, _, j, q⟩ => exact wpAny_execs_nil ⟨_, _, j.ofTry xok, q⟩
  | .brk, ⟨_, _, j, q⟩ => exact ⟨_, _, j.ofTry xok, q⟩
  | .cont, ⟨_, _, j, q⟩ => exact ⟨_, _, j.ofTry xok, q⟩
  | .ret _, ⟨_, _, _, j, rv, q⟩ => exact ⟨_, _, _, j.ofTry xok, rv, q⟩
end
/-! ### .. in the mini language -/
/-- what a suite gives, the exception's attributes being fs -/
def sOut (G : Ctx) (C : Orc) (m : List St) (fs : List T) (ρ : En) (h : Hm) : Out := match m, fs with
  | [.retx w rp], [t] => retX G.sub w rp t h
  | _, _ => exSs G C ρ h m
/-- a suite's reading: i is the slot of the exception's name -/
def tX (Z : Zs) (i : Option Nat) (k : Nat) (m : List St) : Addr → Value → Option Addr → TS := fun e cls d D σ H => ∃ φ h ρ c fs, RpE Z.cl φ H ρ σ ∧ Hs Z.cl φ h H ∧ Z.xr φ H c fs cls d ∧ Z.G.sub c k = true ∧ (∀ j, i = some j → j < σ.length → σ[j]? = some (some (.ref e))) ∧ DW Z W0 D φ H (sOut Z.G Z.C m fs ρ h)
theorem RpE.offS {cl : Cl} {φ : Phi} {H : Hp} {ρ : En} {σ : L2.St} {i : Nat} {v : Option V} (r : RpE cl φ H ρ σ) : RpE cl φ H (ρ.set i none) (σ.set i v) := by
  refine ⟨by simp [r.len], fun j s e => ?_⟩
  by_cases h : i = j
  · subst h
    by_cases hi : i < ρ.length
    · rw [List.getElem?_set_self hi] at e; cases e
    · rw [List.getElem?_eq_none (by simp; omega)] at e; cases e
  · rw [List.getElem?_set_ne h] at e ⊢
    exact r.get j s e
/-- the clauses -/
inductive HdsM (X : Cx) (Z : Zs) (xc : Xc) : List ExceptHandler → List Hx → List (Nat × Option Nat) → List (List St) → Prop
  | nil : HdsM X Z xc [] [] [] []
  | plain {x : Str} {c : Nat} {C' : Addr} {m : List St} {s0 : Stmt} {suite : List Stmt} {np hp : Pos} {hds : List ExceptHandler} {l : List Hx} {cs : List (Nat × Option Nat)} {ms : List (List St)} (hc : Names X x (.ref C'))
      (sub : ∀ c2 C2 o, xc c2 = some (C2, o) → PySem.W.exmOne X.K (.ref C2) (.ref C') = some (Z.G.sub c2 c)) (ok : SuiteOk X (s0 :: suite) (tX Z none c m)) (r : HdsM X Z xc hds l cs ms) :
      HdsM X Z xc (.ExceptHandler (some (.Name x np)) none (s0 :: suite) hp :: hds) (⟨.ref C', none, tX Z none c m⟩ :: l) ((c, none) :: cs) (m :: ms)
  | named {x n : Str} {i c : Nat} {C' : Addr} {m : List St} {s0 : Stmt} {suite : List Stmt} {np hp : Pos} {hds : List ExceptHandler} {l : List Hx} {cs : List (Nat × Option Nat)} {ms : List (List St)} (hN : X.N.Nodup) (hi : X.N[i]? = some n) (hl : X.env.kindOf n = some .local)
      (hc : Names X x (.ref C')) (sub : ∀ c2 C2 o, xc c2 = some (C2, o) → PySem.W.exmOne X.K (.ref C2) (.ref C') = some (Z.G.sub c2 c)) (ok : SuiteOk X (s0 :: suite) (tX Z (some i) c m)) (r : HdsM X Z xc hds l cs ms) :
      HdsM X Z xc (.ExceptHandler (some (.Name x np)) (some n) (s0 :: suite) hp :: hds) (⟨.ref C', some i, tX Z (some i) c m⟩ :: l) ((c, some i) :: cs) (m :: ms)
section
variable {X : Cx} {Z : Zs} {W : WX} {xc : Xc}
theorem HdsM.x {hds : List ExceptHandler} {l : List Hx} {cs : List (Nat × Option Nat)} {ms : List (List St)} (h : HdsM X Z xc hds l cs ms) : HdsX X hds l := by
  induction h with
  | nil => exact .nil
  | plain hc _ ok _ ih => exact .plain hc ok ih
  | named hN hi hl hc _ ok _ ih => exact .named hN hi hl hc ok ih
theorem xr_cls {φ : Phi} {H : Hp} {c : Nat} {fs : List T} {k : Value} {d : Option Addr} (x : xrOf Z.cl xc φ H c fs k d) : ∃ C o, xc c = some (C, o) ∧ k = .ref C := by
  unfold xrOf at x
  split at x
  · rename_i C e; exact ⟨C, _, e, x.1⟩
  · rename_i C f e; exact ⟨C, _, e, x.1⟩
  · exact x.elim
theorem retX_dw {W W' : WX} {D D' : Ends} {φ : Phi} {H : Hp} {w : Option Str} {rp : Bool} {t : T} {h : Hm} {sub : Nat → Nat → Bool} (e : D.rt = D'.rt) (m : DW Z W D φ H (retX sub w rp t h)) : DW Z W' D' φ H (retX sub w rp t h) := by
  unfold retX at m ⊢
  split at m
  · cases w with
    | none => exact fun φ' H' v g hs r => e ▸ m φ' H' v g hs r
    | some x => exact fun φ' H' v g hs r => e ▸ m φ' H' v g hs r
  · exact m.elim
theorem off_dw {D : Ends} {φ : Phi} {H : Hp} {i : Option Nat} {o : Out} (m : DW Z W D φ H (offO i o)) : DW Z W0 (offI i D) φ H o := by
  cases i with
  | none => cases o <;> first | exact m | exact m.elim
  | some i =>
    cases o with
    | nx ρ h => exact fun φ' H' σ' g hs re => m φ' H' (σ'.set i none) g hs re.offS
    | bk ρ h => exact fun φ' H' σ' g hs re => m φ' H' (σ'.set i none) g hs re.offS
    | ct ρ h => exact fun φ' H' σ' g hs re => m φ' H' (σ'.set i none) g hs re.offS
    | rt s h => exact m
    | ex _ _ _ _ => exact m.elim
    | bad => exact m
theorem sOut_dw {D : Ends} {φ : Phi} {H : Hp} {i : Option Nat} {m : List St} {fs : List T} {ρ : En} {h : Hm} (w : DW Z W D φ H (match m, fs with
        | [.retx w rp], [t] => retX Z.G.sub w rp t h
        | _, _ => offO i (exSs Z.G Z.C (offE i ρ) h m))) : DW Z W0 (offI i D) φ H (sOut Z.G Z.C m fs (offE i ρ) h) := by
  unfold sOut
  split at w
  · exact retX_dw (by cases i <;> rfl) w
  · exact off_dw w
theorem handle_ok {D : Ends} {hds : List ExceptHandler} {l : List Hx} {cs : List (Nat × Option Nat)} {ms : List (List St)} {φ : Phi} {H : Hp} {ρ : En} {h : Hm} {σ : L2.St} {c : Nat} {fs : List T} {k : Value} {d : Option Addr} (hz : Z.xr = xrOf Z.cl xc)
    (hh : HdsM X Z xc hds l cs ms) (re : RpE Z.cl φ H ρ σ) (hs : Hs Z.cl φ h H) (x : Z.xr φ H c fs k d) (m : DW Z W D φ H (exHs Z.G Z.C c fs ρ h cs ms)) : wAll X.K W D l k d σ H := by
  have cls := xr_cls (hz ▸ x)
  obtain ⟨C, o, ec, ek⟩ := cls
  induction hh with
  | nil =>
    simp only [exHs, List.isEmpty_nil, if_true] at m
    exact m φ H k d σ (Grow.refl _ _) hs re x
  | @plain xn c' C' mm s0 suite np hp hds l cs ms hc sub ok r ih =>
    refine ⟨_, by rw [ek]; exact sub c C o ec, fun hb e _ => ?_, fun hb => ih ?_⟩
    · simp only [exHs, hb, if_true] at m
      exact ⟨φ, h, ρ, c, fs, re, hs, x, hb, (fun j e => by cases e), sOut_dw (i := none) m⟩
    · simp only [exHs, hb, Bool.false_eq_true, if_false] at m
      exact m
  | @named xn n i c' C' mm s0 suite np hp hds l cs ms hN hi hl hc sub ok r ih =>
    refine ⟨_, by rw [ek]; exact sub c C o ec, fun hb e _ => ?_, fun hb => ih ?_⟩
    · simp only [exHs, hb, if_true] at m
      exact ⟨φ, h, ρ.set i none, c, fs, re.offS, hs, x, hb, (fun j ej lj => by
        cases ej
        simp only [onI, List.length_set] at lj ⊢
        rw [List.getElem?_set_self lj]), sOut_dw (i := some i) m⟩
    · simp only [exHs, hb, Bool.false_eq_true, if_false] at m
      exact m
theorem s_try {body : List Stmt} {h0 : ExceptHandler} {hds : List ExceptHandler} {pos : Pos} {bm : List St} {l : List Hx} {cs : List (Nat × Option Nat)} {ms : List (List St)} (hz : Z.xr = xrOf Z.cl xc) (stk : X.stack = X.env :: X.outer) (frm : X.env.frame = some X.env.locals) (tk : Takes X W)
    (hb : ∀ (W : WX) (pn : List (Addr × Obj)) (xe : Value → Shared → Prop), Takes (X.tr pn xe) W → PassesOwn (model X.prog X.w) X.A X.env xe → PSs (X.tr pn xe) body (tSs Z W bm)) (hh : HdsM X Z xc (h0 :: hds) l cs ms) :
    PS X (.Try body (h0 :: hds) [] [] pos) (tS Z W (.tryx bm cs ms)) := ps_weak (ps_try_all stk frm tk (tb := fun W => tSs Z W bm) hb hh.x) fun D σ H ⟨φ, h, ρ, re, hs, m⟩ => by
  refine ⟨φ, h, ρ, re, hs, ?_⟩
  simp only [exS] at m
  show DW Z _ D φ H (exSs Z.G Z.C ρ h bm)
  revert m
  cases exSs Z.G Z.C ρ h bm with
  | ex c fs ρ1 h1 => exact fun m φ' H' k d σ' g hs' re' x => handle_ok hz hh re' hs' x (m.grow g)
  | nx _ _ => exact id
  | rt _ _ => exact id
  | bk _ _ => exact id
  | ct _ _ => exact id
  | bad => exact id
/-- a suite that does not look at the exception -/
theorem su_any {suite : List Stmt} {m : List St} {i : Option Nat} {k : Nat} (nox : ∀ w rp, m ≠ [.retx w rp]) (h : ∀ (e : Addr) (oe : Obj) (pn : List (Addr × Obj)), PSs (X.suite e ((e, oe) :: pn)) suite (tSs Z W0 m)) : SuiteOk X suite (tX Z i k m) := fun e oe cls d pn z f =>
  pss_weak (h e oe pn) fun D σ H ⟨φ, hm, ρ, c, fs, re, hs, x, sb, sl, w⟩ => by
    refine ⟨φ, hm, ρ, re, hs, ?_⟩
    unfold sOut at w
    split at w
    · rename_i w' rp t; exact (nox _ _ rfl).elim
    · exact w
/-- the attribute of the caught exception, or its repr -/
def tXv (Z : Zs) (i k : Nat) (rp : Bool) : Addr → Value → Option Addr → TE := fun e cls d σ H Q => ∃ φ h ρ c t u, RpE Z.cl φ H ρ σ ∧ Hs Z.cl φ h H ∧ Z.xr φ H c [t] cls d ∧ Z.G.sub c k = true ∧ (i < σ.length → σ[i]? = some (some (.ref e))) ∧
  (if rp then sem1 Z.G.sub .repr t else some t) = some u ∧ ∀ φ' H' v, Grow φ H φ' H' → Hs Z.cl φ' h H' → RpF Z.cl φ' H' u v → Q v H'
theorem xv_plain {i k : Nat} {n f : Str} {C : Addr} {p1 p2 : Pos} (hz : Z.xr = xrOf Z.cl xc) (hi : X.N[i]? = some n) (hv : Vis X.env.scope n) (hd : (n == ("__debug__" : Str)) = false) (hcd : (n == ("__classdict__" : Str)) = false) (T : XfC X.K C) (hno : PySem.W.findIn X.K (.ref C) f = some none)
    (uniq : ∀ c2, Z.G.sub c2 k = true → xc c2 = some (C, some f)) (hb : attributeBase (.Name n p1) f X.env (eval (.Name n p1) X.env) = eval (.Name n p1) X.env) (e : Addr) (oe : Obj) (cls : Value) (d : Option Addr) (pn : List (Addr × Obj)) (z : Zc cls d oe) (hf : ∃ vs, oe.data = .fields vs) :
    PE (X.suite e ((e, oe) :: pn)) (.Attribute (.Name n p1) f p2) (tXv Z i k false e cls d) := by
  refine ⟨fun pins s σ H Q I ⟨φ, h, ρ, c, t, u, re, hs, x, sb, sl, eu, q⟩ => ?_⟩
  have li : i < σ.length := by
    have l1 : σ.length = X.N.length := I.len
    have l2 := (List.getElem?_eq_some_iff.mp hi).1
    omega
  simp only [Bool.false_eq_true, if_false, Option.some.injEq] at eu
  subst eu
  rw [hz] at x
  unfold xrOf at x
  rw [uniq c sb] at x
  obtain ⟨ek, dd, v, t', ed, et, eH, rv⟩ := x
  cases et
  refine (pe_xf (X := X) (te := tVar i) T hno z hf (pe_var (X := X.suite e ((e, oe) :: pn)) hi hv hd hcd) hb).run pins s σ H Q I ⟨_, sl li, rfl, ek, dd, _, v, ed, eH, by simp [List.lookup], q φ H v (Grow.refl _ _) hs rv⟩
theorem xv_repr {i k : Nat} {ex : Expr} {p pos : Pos} (gu : X.A.guards = some []) (hu : X.A.units + 70 < cLine) (hg : Gl X "repr") (hm : X.mg "repr" = none)
    (h : ∀ (e : Addr) (oe : Obj) (cls : Value) (d : Option Addr) (pn : List (Addr × Obj)), Zc cls d oe → (∃ vs, oe.data = .fields vs) → PE (X.suite e ((e, oe) :: pn)) ex (tXv Z i k false e cls d))
    (he : ∀ Y : Env, Y = X.env → starEach [ex] Y = (false, eval ex Y) :: starEach [] Y) (hp : ∀ Y : Env, Y = X.env → (backTo pos (starEach [] Y)).any (·.1) = false)
    (e : Addr) (oe : Obj) (cls : Value) (d : Option Addr) (pn : List (Addr × Obj)) (z : Zc cls d oe) (hf : ∃ vs, oe.data = .fields vs) :
    PE (X.suite e ((e, oe) :: pn)) (.Call (.Name "repr" p) [ex] [] pos) (tXv Z i k true e cls d) := by
  have r1 := one_repr (X := X.suite e ((e, oe) :: pn)) (cl := Z.cl) (sub := Z.G.sub) gu hu
  refine pe_weak (pe_callB r1 hg hm (by rfl) (pa_cons (h e oe cls d pn z hf) pa_nil (he _ rfl)) (by decide) (by decide) (he _ rfl) (hp _ rfl)) fun σ H Q ⟨φ, hm, ρ, c, t, u, re, hs, x, sb, sl, eu, q⟩ => ?_
  simp only [if_true] at eu
  exact ⟨φ, hm, ρ, c, t, t, re, hs, x, sb, sl, rfl, fun φ1 H1 v g1 hs1 rv => ⟨v, rfl, Z.xr, W0, [], φ1, hm, t, u, hs1, RpF.i rv, eu, fun φ' H' w g hs' rw' => q φ' H' w (g1.trans g) hs' rw'⟩⟩
theorem retx_fs {D : Ends} {φ : Phi} {H : Hp} {w : Option Str} {rp : Bool} {fs : List T} {ρ : En} {h : Hm} (m : DW Z W0 D φ H (sOut Z.G Z.C [.retx w rp] fs ρ h)) : ∃ t u, fs = [t] ∧ (if rp then sem1 Z.G.sub .repr t else some t) = some u ∧
    MW Z.cl Z.xr (RpS Z.cl) W0 [] φ H (.ok (.t (match w with | some x => .tup [.str x, u] | none => u)) h) D.rt := by
  match fs, m with
  | [], m => simp only [sOut, exSs, exS] at m; exact m.elim
  | _ :: _ :: _, m => simp only [sOut, exSs, exS] at m; exact m.elim
  | [t], m =>
    simp only [sOut, retX] at m
    cases e : (if rp then sem1 Z.G.sub .repr t else some t) with
    | none => rw [e] at m; exact m.elim
    | some u =>
      rw [e] at m
      refine ⟨t, u, rfl, e, ?_⟩
      cases w with
      | none => exact m
      | some x => exact m
/-- return e.f, return repr(e.f) -/
theorem su_ret {i k : Nat} {rp : Bool} {ex : Expr} {pos : Pos} (h : ∀ (e : Addr) (oe : Obj) (cls : Value) (d : Option Addr) (pn : List (Addr × Obj)), Zc cls d oe → (∃ vs, oe.data = .fields vs) → PE (X.suite e ((e, oe) :: pn)) ex (tXv Z i k rp e cls d)) :
    SuiteOk X [.Return (some ex) pos] (tX Z (some i) k [.retx none rp]) := fun e oe cls d pn z f => pss_weak (pss_one (ps_ret (h e oe cls d pn z f))) fun D σ H ⟨φ, hm, ρ, c, fs, re, hs, x, sb, sl, w⟩ => by
  obtain ⟨t, u, rfl, eu, m⟩ := retx_fs w
  exact ⟨φ, hm, ρ, c, t, u, re, hs, x, sb, sl i rfl, eu, fun φ' H' v g hs' rv => m φ' H' v g hs' rv⟩
/-- return ('w', e.f), return ('w', repr(e.f)) -/
theorem su_retw {i k j kk : Nat} {rp : Bool} {ex : Expr} {wd : Str} {p1 p2 pos : Pos} (h : ∀ (e : Addr) (oe : Obj) (cls : Value) (d : Option Addr) (pn : List (Addr × Obj)), Zc cls d oe → (∃ vs, oe.data = .fields vs) → PE (X.suite e ((e, oe) :: pn)) ex (tXv Z i k rp e cls d))
    (he : ∀ Y : Env, Y = X.env → starEach [.Constant (.str wd) j p1, ex] Y = (false, eval (.Constant (.str wd) j p1) Y) :: starEach [ex] Y) (he2 : ∀ Y : Env, Y = X.env → starEach [ex] Y = (false, eval ex Y) :: starEach [] Y) :
    SuiteOk X [.Return (some (.Tuple [.Constant (.str wd) j p1, ex] kk p2)) pos] (tX Z (some i) k [.retx (some wd) rp]) := fun e oe cls d pn z f =>
  pss_weak (pss_one (ps_ret (pe_tup (pa_cons pe_str (pa_cons (h e oe cls d pn z f) pa_nil (he2 _ rfl)) (he _ rfl))))) fun D σ H ⟨φ, hm, ρ, c, fs, re, hs, x, sb, sl, w⟩ => by
    obtain ⟨t, u, rfl, eu, m⟩ := retx_fs w
    refine ⟨φ, hm, ρ, c, t, u, re, hs, x, sb, sl i rfl, eu, fun φ' H' v g hs' rv => ?_⟩
    exact ⟨by show 2 ≤ sizeLine; decide, newTup (m.grow g) hs' (.cons (by rw [Rp]) (.cons rv .nil))⟩
end
end My

/-! A zip, and an enumerate over whatever draws. -/
namespace My
open PySem L2 PyProof.Rows
section
variable {prog : Program} {w : World} {A : Around} {E : Value → Shared → Prop} {s : Shared}
abbrev IsZipF (h : Heap) (z TI TO : Addr) (own : Value) (f : Bool) : Prop :=
  h.get? z = some { cls := .type "zip", dict := none, data := .fields #[own, .bool f, .bool false, .ref TI, .ref TO], slots := #[] }
def OwnV (own : Value) : Prop := own = .none ∨ ∃ a : Nat, own = rawInt a
theorem wpAny_loadIfAlive {M : Model} {α : Type} {a : Addr} {k : Option Obj → Sem α} {Q : α → Shared → Prop} (h : wpAny M A (k (s.heap.get? a)) Q E s) : wpAny M A (loadIfAlive a >>= k) Q E s := fun Γ p hΓ => by
  show Sem.wp _ _ (Sem.loadIfAlive a k) _ _ _ _
  rw [Sem.wp_loadIfAlive]
  exact h Γ p hΓ
theorem own_free {z TI TO : Addr} {own : Value} {f : Bool} {Q : Bool → Shared → Prop} (hz : IsZipF s.heap z TI TO own f) (ho : OwnV own) (ht : Q true s) (hf : ∀ h', IsZipF h' z TI TO own true → Heap.SameBut z s.heap h' → Q false { s with heap := h' }) :
    wpAny (model prog w) A (Builtin.SmallTypes.ownedTupleIsFree (.ref z)) Q E s := by
  unfold Builtin.SmallTypes.ownedTupleIsFree
  rcases ho with ho | ⟨a, ho⟩
  · subst ho
    exact wpAny_bind (wpAny_field hz rfl (x := .none) rfl (wpAny_pure ht))
  · subst ho
    refine wpAny_bind (wpAny_field hz rfl (x := rawInt a) rfl ?_)
    refine wpAny_loadIfAlive ?_
    cases hg : s.heap.get? (((a : Nat) : Int).toNat) with
    | none => exact wpAny_pure ht
    | some o =>
      simp only [Option.isNone_some, Bool.false_eq_true, if_false]
      refine wpAny_bind (wpAny_field hz rfl (x := .bool f) rfl ?_)
      cases f with
      | true => exact wpAny_pure (hf _ hz (Heap.SameBut.refl _ _))
      | false =>
        refine wpAny_bind (wpAny_setField_rec hz (by simp) fun h' hz' sb => ?_)
        exact wpAny_pure (hf h' hz' sb)
variable {z TI TO i1 i2 : Addr} {fp1 fp2 : List Addr} {n1 n2 i : Nat} {P1 P2 : Nat → Value → Prop} {St1 St2 : Nat → Heap → Prop} {a1 a2 own : Value} {f : Bool}
theorem zipF_item {Q : Value → Shared → Prop} (S : ZipSep2 z TI TO i1 i2 fp1 fp2) (D1 : Draws prog w A i1 fp1 n1 P1 St1) (D2 : Draws prog w A i2 fp2 n2 P2 St2)
    (hz : IsZipF s.heap z TI TO own f) (ho : OwnV own) (hTI : IsTupOf2 s.heap TI (.ref i1) (.ref i2)) (hTO : IsTupOf2 s.heap TO a1 a2) (st1 : St1 i s.heap) (st2 : St2 i s.heap) (hlt1 : i < n1) (hlt2 : i < n2)
    (hQ : ∀ x1 x2 h' tk own' f', P1 i x1 → P2 i x2 → IsZipF h' z TI TO own' f' → OwnV own' → (∃ b1 b2, IsTupOf2 h' TO b1 b2) → St1 (i + 1) h' → St2 (i + 1) h' → IsTupOf2 h' s.heap.objs.size x1 x2 → h'.objs.size = s.heap.objs.size + 1 →
      (∀ c o, c ≠ z → c ≠ TO → c ≠ i1 → c ≠ i2 → s.heap.get? c = some o → h'.get? c = some o) → Q (.ref s.heap.objs.size) { s with heap := h', toks := tk }) :
    wpAny (model prog w) A (Builtin.«zip.__next__» ⟨[.ref z], []⟩) (fun fin s' => ∃ v, fin = .done (.ret v) ∧ Q v s') E s := by
  obtain ⟨hp, g, d, tk0, os⟩ := s
  show wpAny _ _ (field (.ref z) 2 >>= _) _ _ _
  refine wpAny_bind (wpAny_field hz rfl (x := .bool false) rfl ?_)
  show wpAny _ _ (field (.ref z) 3 >>= _) _ _ _
  refine wpAny_bind (wpAny_field hz rfl (x := .ref TI) rfl ?_)
  refine wpAny_bind (wpAny_seqItems hTI rfl ?_)
  show wpAny _ _ (Builtin.SmallTypes.ownedTupleIsFree (.ref z) >>= _) _ _ _
  refine wpAny_bind (own_free hz ho ?_ fun hp1 hz1 sb1 => ?_)
  · simp only [if_true]
    refine wpAny_bind (wpAny_rule ?_)
    refine wpAny_bind (wpAny_field hz rfl (x := .ref TO) rfl ?_)
    refine wpAny_bind (wpAny_setField_rec hz (by simp) fun g0 hz0 hs0 => ?_)
    replace hz0 : IsZipF g0 z TI TO .ellipsis f := hz0
    replace hs0 : Heap.SameBut z hp g0 := hs0
    refine wpAny_bind ?_
    simp only [List.zipIdx_cons, List.zipIdx_nil, List.forIn_cons, List.forIn_nil]
    refine wpAny_bind (wpAny_bind (wpAny_onRaise ?_))
    show wpAny _ _ (Builtin.SmallTypes.nextOf (.ref i1) >>= _) _ _ ⟨g0, g, d, tk0, os⟩
    refine wpAny_bind (D1.item i _ _ _ hlt1 (D1.over st1 hs0 S.zf1) fun x1 p1 tk1 hx1 sn1 hp1 => wpAny_pure ?_)
    replace hp1 : Heap.SameBut i1 g0 p1 := hp1
    have hU1 : IsTupOf2 p1 TO a1 a2 := hp1.extBut _ _ S.Ti1 (hs0.extBut _ _ S.TOz hTO)
    refine wpAny_bind (wpAny_seqItems (s := ⟨p1, g, d, tk1, os⟩) hU1 rfl ?_)
    refine wpAny_bind (updateSeq_IsTupOf2 (s := ⟨p1, g, d, tk1, os⟩) hU1 fun g1 hT1 hs1 => ?_)
    replace hT1 : IsTupOf2 g1 TO x1 a2 := hT1
    replace hs1 : Heap.SameBut TO p1 g1 := hs1
    refine wpAny_bind (wpAny_letGo (wpAny_pure ?_))
    refine wpAny_bind (wpAny_bind (wpAny_onRaise ?_))
    show wpAny _ _ (Builtin.SmallTypes.nextOf (.ref i2) >>= _) _ _ ⟨g1, g, d, tk1, os⟩
    refine wpAny_bind (D2.item i _ _ _ hlt2 (D2.over (D2.over (D2.over st2 hs0 S.zf2) hp1 S.sep1_2) hs1 S.Tf2) fun x2 p2 tk2 hx2 sn2 hp2 => wpAny_pure ?_)
    replace hp2 : Heap.SameBut i2 g1 p2 := hp2
    have hU2 : IsTupOf2 p2 TO x1 a2 := hp2.extBut _ _ S.Ti2 hT1
    refine wpAny_bind (wpAny_seqItems (s := ⟨p2, g, d, tk2, os⟩) hU2 rfl ?_)
    refine wpAny_bind (updateSeq_IsTupOf2 (s := ⟨p2, g, d, tk2, os⟩) hU2 fun g2 hT2 hs2 => ?_)
    replace hT2 : IsTupOf2 g2 TO x1 x2 := hT2
    replace hs2 : Heap.SameBut TO p2 g2 := hs2
    refine wpAny_bind (wpAny_letGo (wpAny_pure (wpAny_pure ?_)))
    refine wpAny_bind (wpAny_seqItems (s := ⟨g2, g, d, tk2, os⟩) hT2 rfl ?_)
    refine wpAny_bind (wpAny_newTuple ?_)
    have hsz : g2.objs.size = hp.objs.size := by rw [hs2.1, hp2.1, hs1.1, hp1.1, hs0.1]
    have hzz : IsZipF g2 z TI TO .ellipsis f := (hs2.extBut _ _ S.TOz.symm (hp2.extBut _ _ S.zi2 (hs1.extBut _ _ S.TOz.symm (hp1.extBut _ _ S.zi1 hz0))))
    have hkk : ∀ c o, c ≠ z → c ≠ TO → c ≠ i1 → c ≠ i2 → hp.get? c = some o → g2.get? c = some o := fun c o cz cT c1 c2 e =>
      (hs2.extBut _ _ cT (hp2.extBut _ _ c2 (hs1.extBut _ _ cT (hp1.extBut _ _ c1 (hs0.extBut _ _ cz e)))))
    have hj1 : St1 (i + 1) g2 := (D1.over (D1.over (D1.over sn1 hs1 S.Tf1) hp2 S.sep2_1) hs2 S.Tf1)
    have hj2 : St2 (i + 1) g2 := (D2.over sn2 hs2 S.Tf2)
    have hzlt : z < g2.objs.size := Heap.lt_size hzz
    show wpAny _ _ (Builtin.SmallTypes.ownedTupleHandOut (.ref z) (.ref g2.objs.size) >>= _) _ _ ⟨g2.push { cls := .type "tuple", data := .seq #[x1, x2] }, g, d, tk2, os⟩
    refine wpAny_bind ?_
    unfold Builtin.SmallTypes.ownedTupleHandOut
    have hz₆ : IsZipF (g2.push { cls := .type "tuple", data := .seq #[x1, x2] }) z TI TO .ellipsis f := Heap.get?_push_of_some _ hzz
    refine wpAny_bind (wpAny_setField_rec hz₆ (by simp) fun h₇ hz₇ hs₇ => ?_)
    replace hz₇ : IsZipF h₇ z TI TO (rawInt g2.objs.size) f := hz₇
    refine wpAny_setField_rec hz₇ (by simp) fun h₈ hz₈ hs₈ => ?_
    replace hz₈ : IsZipF h₈ z TI TO (rawInt g2.objs.size) false := hz₈
    replace hs₇ : Heap.SameBut z (g2.push { cls := .type "tuple", data := .seq #[x1, x2] }) h₇ := hs₇
    replace hs₈ : Heap.SameBut z h₇ h₈ := hs₈
    have up : ∀ c o, c ≠ z → g2.get? c = some o → h₈.get? c = some o := fun c o c1 e => hs₈.extBut _ _ c1 (hs₇.extBut _ _ c1 (Heap.get?_push_of_some _ e))
    have hT₈ : IsTupOf2 h₈ g2.objs.size x1 x2 := hs₈.extBut _ _ (Nat.ne_of_gt hzlt) (hs₇.extBut _ _ (Nat.ne_of_gt hzlt) (Heap.get?_push_size _ rfl))
    have hz8 : h₈.objs.size = g2.objs.size + 1 := by rw [hs₈.1, hs₇.1, Heap.size_push]
    rw [hsz] at hz₈ hT₈ hz8
    refine wpAny_pure ⟨_, rfl, ?_⟩
    show Q (.ref g2.objs.size) ⟨h₈, g, d, tk2, os⟩
    rw [hsz]
    exact hQ x1 x2 h₈ tk2 _ _ hx1 hx2 hz₈ (.inr ⟨_, rfl⟩) ⟨_, _, up _ _ S.TOz hT2⟩ (D1.frame _ _ _ hj1 fun b hb o e => up b o (fun q => S.zf1 (q ▸ hb)) e) (D2.frame _ _ _ hj2 fun b hb o e => up b o (fun q => S.zf2 (q ▸ hb)) e) hT₈ hz8 fun c o cz cT c1 c2 e => up c o cz (hkk c o cz cT c1 c2 e)
  · replace sb1 : Heap.SameBut z hp hp1 := sb1
    simp only [Bool.false_eq_true, if_false]
    refine wpAny_bind ?_
    simp only [List.forIn_toArray, Array.forIn_toList, List.forIn_cons, List.forIn_nil]
    refine wpAny_bind (wpAny_bind (wpAny_holding ?_))
    show wpAny _ _ (Builtin.SmallTypes.nextOf (.ref i1) >>= _) _ _ ⟨hp1, g, d, tk0, os⟩
    refine wpAny_bind (D1.item i _ _ _ hlt1 (D1.over st1 sb1 S.zf1) fun x1 p1 tk1 hx1 sn1 q1 => wpAny_pure (wpAny_pure ?_))
    replace q1 : Heap.SameBut i1 hp1 p1 := q1
    refine wpAny_bind (wpAny_bind (wpAny_holding ?_))
    show wpAny _ _ (Builtin.SmallTypes.nextOf (.ref i2) >>= _) _ _ ⟨p1, g, d, tk1, os⟩
    refine wpAny_bind (D2.item i _ _ _ hlt2 (D2.over (D2.over st2 sb1 S.zf2) q1 S.sep1_2) fun x2 p2 tk2 hx2 sn2 q2 => wpAny_pure (wpAny_pure (wpAny_pure ?_)))
    replace q2 : Heap.SameBut i2 p1 p2 := q2
    refine wpAny_bind (wpAny_newTuple (hsz := by show (2 : Nat) ≤ sizeLine; decide) ?_)
    have hsz : p2.objs.size = hp.objs.size := by rw [q2.1, q1.1, sb1.1]
    have up : ∀ c o, c ≠ z → c ≠ i1 → c ≠ i2 → hp.get? c = some o → p2.get? c = some o := fun c o cz c1 c2 e => q2.extBut _ _ c2 (q1.extBut _ _ c1 (sb1.extBut _ _ cz e))
    have hzz : IsZipF p2 z TI TO own true := q2.extBut _ _ S.zi2 (q1.extBut _ _ S.zi1 hz1)
    refine wpAny_pure ⟨_, rfl, ?_⟩
    show Q (.ref p2.objs.size) ⟨p2.push _, g, d, tk2, os⟩
    rw [hsz]
    refine hQ x1 x2 _ tk2 _ _ hx1 hx2 (Heap.get?_push_of_some _ hzz) ho ⟨_, _, Heap.get?_push_of_some _ (up _ _ S.TOz S.Ti1 S.Ti2 hTO)⟩ (D1.frame _ _ _ (D1.over sn1 q2 S.sep2_1) fun b hb o e => Heap.get?_push_of_some _ e) (D2.frame _ _ _ sn2 fun b hb o e => Heap.get?_push_of_some _ e) ?_ ?_ fun c o cz cT c1 c2 e => Heap.get?_push_of_some _ (up c o cz c1 c2 e)
    · rw [← hsz]; exact Heap.get?_push_size _ rfl
    · rw [Heap.size_push, hsz]

theorem zipF_end {Q : Fin → Shared → Prop} (S : ZipSep2 z TI TO i1 i2 fp1 fp2) (D1 : Draws prog w A i1 fp1 n1 P1 St1) (D2 : Draws prog w A i2 fp2 n2 P2 St2)
    (hz : IsZipF s.heap z TI TO own f) (ho : OwnV own) (hTI : IsTupOf2 s.heap TI (.ref i1) (.ref i2)) (hTO : IsTupOf2 s.heap TO a1 a2) (st1 : St1 i s.heap) (st2 : St2 i s.heap) (hle1 : i ≤ n1) (hle2 : i ≤ n2) (hend : i = n1 ∨ i = n2)
    (hE : ∀ h' tk e, (∀ c o, c ≠ z → c ≠ TO → c ≠ i1 → c ≠ i2 → s.heap.get? c = some o → h'.get? c = some o) → (∃ o, h'.get? e = some o ∧ o.cls = .type "StopIteration") → E (.ref e) { s with heap := h', toks := tk }) :
    wpAny (model prog w) A (Builtin.«zip.__next__» ⟨[.ref z], []⟩) Q E s := by
  obtain ⟨hp, g, d, tk0, os⟩ := s
  show wpAny _ _ (field (.ref z) 2 >>= _) _ _ _
  refine wpAny_bind (wpAny_field hz rfl (x := .bool false) rfl ?_)
  show wpAny _ _ (field (.ref z) 3 >>= _) _ _ _
  refine wpAny_bind (wpAny_field hz rfl (x := .ref TI) rfl ?_)
  refine wpAny_bind (wpAny_seqItems hTI rfl ?_)
  show wpAny _ _ (Builtin.SmallTypes.ownedTupleIsFree (.ref z) >>= _) _ _ _
  refine wpAny_bind (own_free hz ho ?_ fun hp1 hz1 sb1 => ?_)
  · simp only [if_true]
    refine wpAny_bind (wpAny_rule ?_)
    refine wpAny_bind (wpAny_field hz rfl (x := .ref TO) rfl ?_)
    refine wpAny_bind (wpAny_setField_rec hz (by simp) fun g0 hz0 hs0 => ?_)
    replace hz0 : IsZipF g0 z TI TO .ellipsis f := hz0
    replace hs0 : Heap.SameBut z hp g0 := hs0
    refine wpAny_bind ?_
    simp only [List.zipIdx_cons, List.zipIdx_nil, List.forIn_cons, List.forIn_nil]
    refine wpAny_bind (wpAny_bind (wpAny_onRaise ?_))
    show wpAny _ _ (Builtin.SmallTypes.nextOf (.ref i1) >>= _) _ _ ⟨g0, g, d, tk0, os⟩
    by_cases hlt1 : i < n1
    · refine wpAny_bind (D1.item i _ _ _ hlt1 (D1.over st1 hs0 S.zf1) fun x1 p1 tk1 hx1 sn1 hp1 => wpAny_pure ?_)
      replace hp1 : Heap.SameBut i1 g0 p1 := hp1
      have hU1 : IsTupOf2 p1 TO a1 a2 := hp1.extBut _ _ S.Ti1 (hs0.extBut _ _ S.TOz hTO)
      refine wpAny_bind (wpAny_seqItems (s := ⟨p1, g, d, tk1, os⟩) hU1 rfl ?_)
      refine wpAny_bind (updateSeq_IsTupOf2 (s := ⟨p1, g, d, tk1, os⟩) hU1 fun g1 hT1 hs1 => ?_)
      replace hT1 : IsTupOf2 g1 TO x1 a2 := hT1
      replace hs1 : Heap.SameBut TO p1 g1 := hs1
      refine wpAny_bind (wpAny_letGo (wpAny_pure ?_))
      have hi2 : i = n2 := by omega
      refine wpAny_bind (wpAny_bind (wpAny_onRaise ?_))
      show wpAny _ _ (Builtin.SmallTypes.nextOf (.ref i2) >>= _) _ _ ⟨g1, g, d, tk1, os⟩
      refine wpAny_bind (D2.done ⟨g1, g, d, tk1, os⟩ _ _ (by rw [← hi2]; exact (D2.over (D2.over (D2.over st2 hs0 S.zf2) hp1 S.sep1_2) hs1 S.Tf2)) fun q e hq he => ?_)
      replace hq : Heap.ExtBut i2 g1 q := hq
      obtain ⟨oe, hoe, hce⟩ := he
      replace hoe : q.get? e = some oe := hoe
      have hzq : IsZipF q z TI TO .ellipsis f := hq _ _ S.zi2 (hs1.extBut _ _ S.TOz.symm (hp1.extBut _ _ S.zi1 hz0))
      have hez : e ≠ z := fun x => by subst x; rw [hzq] at hoe; cases hoe; simp at hce
      refine wpAny_setField_rec (s := ⟨q, g, d, tk1, os⟩) hzq (by simp) fun q' _ hq' => ?_
      replace hq' : Heap.SameBut z q q' := hq'
      exact hE q' tk1 e (fun c o cz cT c1 c2 x => hq'.extBut _ _ cz (hq _ _ c2 (hs1.extBut _ _ cT (hp1.extBut _ _ c1 (hs0.extBut _ _ cz x))))) ⟨oe, hq'.extBut _ _ hez hoe, hce⟩
    · have hi1 : i = n1 := by omega
      refine wpAny_bind (D1.done ⟨g0, g, d, tk0, os⟩ _ _ (by rw [← hi1]; exact (D1.over st1 hs0 S.zf1)) fun q e hq he => ?_)
      replace hq : Heap.ExtBut i1 g0 q := hq
      obtain ⟨oe, hoe, hce⟩ := he
      replace hoe : q.get? e = some oe := hoe
      have hzq : IsZipF q z TI TO .ellipsis f := hq _ _ S.zi1 hz0
      have hez : e ≠ z := fun x => by subst x; rw [hzq] at hoe; cases hoe; simp at hce
      refine wpAny_setField_rec (s := ⟨q, g, d, tk0, os⟩) hzq (by simp) fun q' _ hq' => ?_
      replace hq' : Heap.SameBut z q q' := hq'
      exact hE q' tk0 e (fun c o cz cT c1 c2 x => hq'.extBut _ _ cz (hq _ _ c1 (hs0.extBut _ _ cz x))) ⟨oe, hq'.extBut _ _ hez hoe, hce⟩
  · replace sb1 : Heap.SameBut z hp hp1 := sb1
    simp only [Bool.false_eq_true, if_false]
    refine wpAny_bind ?_
    simp only [List.forIn_toArray, Array.forIn_toList, List.forIn_cons, List.forIn_nil]
    refine wpAny_bind (wpAny_bind (wpAny_holding ?_))
    show wpAny _ _ (Builtin.SmallTypes.nextOf (.ref i1) >>= _) _ _ ⟨hp1, g, d, tk0, os⟩
    by_cases hlt1 : i < n1
    · refine wpAny_bind (D1.item i _ _ _ hlt1 (D1.over st1 sb1 S.zf1) fun x1 p1 tk1 hx1 sn1 q1 => wpAny_pure (wpAny_pure ?_))
      replace q1 : Heap.SameBut i1 hp1 p1 := q1
      have hi2 : i = n2 := by omega
      refine wpAny_bind (wpAny_bind (wpAny_holding ?_))
      show wpAny _ _ (Builtin.SmallTypes.nextOf (.ref i2) >>= _) _ _ ⟨p1, g, d, tk1, os⟩
      refine wpAny_bind (D2.done ⟨p1, g, d, tk1, os⟩ _ _ (by rw [← hi2]; exact D2.over (D2.over st2 sb1 S.zf2) q1 S.sep1_2) fun q e hq he => ?_)
      exact hE q tk1 e (fun c o cz cT c1 c2 x => hq _ _ c2 (q1.extBut _ _ c1 (sb1.extBut _ _ cz x))) he
    · have hi1 : i = n1 := by omega
      refine wpAny_bind (D1.done ⟨hp1, g, d, tk0, os⟩ _ _ (by rw [← hi1]; exact D1.over st1 sb1 S.zf1) fun q e hq he => ?_)
      exact hE q tk0 e (fun c o cz cT c1 c2 x => hq _ _ c1 (sb1.extBut _ _ cz x)) he
theorem zipF_nextOf {Q : Value → Shared → Prop} (S : ZipSep2 z TI TO i1 i2 fp1 fp2) (D1 : Draws prog w A.in1 i1 fp1 n1 P1 St1) (D2 : Draws prog w A.in1 i2 fp2 n2 P2 St2)
    (hz : IsZipF s.heap z TI TO own f) (ho : OwnV own) (hTI : IsTupOf2 s.heap TI (.ref i1) (.ref i2)) (hTO : IsTupOf2 s.heap TO a1 a2) (st1 : St1 i s.heap) (st2 : St2 i s.heap) (hlt1 : i < n1) (hlt2 : i < n2)
    (hQ : ∀ x1 x2 h' tk own' f', P1 i x1 → P2 i x2 → IsZipF h' z TI TO own' f' → OwnV own' → (∃ b1 b2, IsTupOf2 h' TO b1 b2) → St1 (i + 1) h' → St2 (i + 1) h' → IsTupOf2 h' s.heap.objs.size x1 x2 → h'.objs.size = s.heap.objs.size + 1 →
      (∀ c o, c ≠ z → c ≠ TO → c ≠ i1 → c ≠ i2 → s.heap.get? c = some o → h'.get? c = some o) → Q (.ref s.heap.objs.size) { s with heap := h', toks := tk }) :
    wpAny (model prog w) A (Builtin.SmallTypes.nextOf (.ref z)) Q E s := by
  have hT : s.TypeIs (.ref z) "zip" := ⟨_, hz, rfl⟩
  unfold Builtin.SmallTypes.nextOf
  refine wpAny_bind (wpAny_callSpecial?_slot (name := Str.ofString "__next__") hT PySem.F.slot_zip_next
    (wpAny_call_entry PySem.F.slot_zip_next hT PySem.F.entry_zip_next
      (zipF_item S D1 D2 hz ho hTI hTO st1 st2 hlt1 hlt2 fun x1 x2 h' tk o' f' y1 y2 b1 b2 b3 d1 d2 b5 b6 b7 => wpAny_pure (hQ x1 x2 h' tk o' f' y1 y2 b1 b2 b3 d1 d2 b5 b6 b7)) (PySem.F.args_zip_next_1 _)))
theorem zipF_nextEnd {Q : Value → Shared → Prop} (S : ZipSep2 z TI TO i1 i2 fp1 fp2) (D1 : Draws prog w A.in1 i1 fp1 n1 P1 St1) (D2 : Draws prog w A.in1 i2 fp2 n2 P2 St2)
    (hz : IsZipF s.heap z TI TO own f) (ho : OwnV own) (hTI : IsTupOf2 s.heap TI (.ref i1) (.ref i2)) (hTO : IsTupOf2 s.heap TO a1 a2) (st1 : St1 i s.heap) (st2 : St2 i s.heap) (hle1 : i ≤ n1) (hle2 : i ≤ n2) (hend : i = n1 ∨ i = n2)
    (hE : ∀ h' tk e, (∀ c o, c ≠ z → c ≠ TO → c ≠ i1 → c ≠ i2 → s.heap.get? c = some o → h'.get? c = some o) → (∃ o, h'.get? e = some o ∧ o.cls = .type "StopIteration") → E (.ref e) { s with heap := h', toks := tk }) :
    wpAny (model prog w) A (Builtin.SmallTypes.nextOf (.ref z)) Q E s := by
  have hT : s.TypeIs (.ref z) "zip" := ⟨_, hz, rfl⟩
  unfold Builtin.SmallTypes.nextOf
  exact wpAny_bind (wpAny_callSpecial?_slot (name := Str.ofString "__next__") hT PySem.F.slot_zip_next
    (wpAny_call_entry PySem.F.slot_zip_next hT PySem.F.entry_zip_next (zipF_end S D1 D2 hz ho hTI hTO st1 st2 hle1 hle2 hend hE) (PySem.F.args_zip_next_1 _)))
/-! enumerate over whatever draws -/
variable {e it : Addr} {old : Value}
theorem enumG_item {Post : Value → Heap → Prop} {Q : Option Value → Shared → Prop} (he : IsEnum s.heap e it i old)
    (inner : ∀ (Q' : Value → Shared → Prop) (E' : Value → Shared → Prop), (∀ x h' tk, Post x h' → Q' x { s with heap := h', toks := tk }) → wpAny (model prog w) A.in1 (Builtin.SmallTypes.nextOf (.ref it)) Q' E' s)
    (ke : ∀ x h', Post x h' → IsEnum h' e it i old)
    (hQ : ∀ x h1 h' tk, Post x h1 → IsEnumOut h' e it ((i : Int) + 1) x h1.objs.size → h'.get? h1.objs.size = some { cls := .type "tuple", data := .seq #[.int i tk, x] } → h'.objs.size = h1.objs.size + 1 →
      (∀ b o, b ≠ e → h1.get? b = some o → h'.get? b = some o) → Q (some (.ref h1.objs.size)) { s with heap := h', toks := tk + 1 }) :
    wpAny (model prog w) A (pyNext (.ref e)) Q E s := by
  have hT : s.TypeIs (.ref e) "enumerate" := ⟨_, he, rfl⟩
  unfold pyNext
  refine wpAny_bind (wpAny_attempt (wpAny_callSpecial?_slot (name := Str.ofString "__next__") hT PySem.F.slot_enumerate_next
    (wpAny_call_entry PySem.F.slot_enumerate_next hT PySem.F.entry_enumerate_next ?_ (PySem.F.args_enumerate_next_1 _))))
  obtain ⟨hp, g, d, tk₀, os⟩ := s
  show wpAny _ _ (field (.ref e) 2 >>= _) _ _ _
  refine wpAny_bind (wpAny_field he rfl (x := .ref it) rfl ?_)
  refine wpAny_bind (inner _ _ fun x h₁ tk hPx => ?_)
  have he₁ : IsEnum h₁ e it i old := ke x h₁ hPx
  show wpAny _ _ (field (.ref e) 3 >>= _) _ _ ⟨h₁, g, d, tk, os⟩
  refine wpAny_bind (wpAny_field he₁ rfl (x := rawInt i) rfl ?_)
  show wpAny _ _ (field (.ref e) 4 >>= _) _ _ ⟨h₁, g, d, tk, os⟩
  refine wpAny_bind (wpAny_field he₁ rfl (x := .none) rfl ?_)
  show wpAny _ _ (mkInt i >>= _) _ _ ⟨h₁, g, d, tk, os⟩
  refine wpAny_bind (wpAny_mkInt ?_)
  show wpAny _ _ (setField (.ref e) 3 (rawInt ((i : Int) + 1)) >>= _) _ _ ⟨h₁, g, d, tk + 1, os⟩
  refine wpAny_bind (wpAny_setField_rec he₁ (by simp) fun h₂ he₂ hs₂ => ?_)
  replace hs₂ : Heap.SameBut e h₁ h₂ := hs₂
  replace he₂ : IsEnum h₂ e it ((i : Int) + 1) old := he₂
  show wpAny _ _ (setField (.ref e) 4 .none >>= _) _ _ ⟨h₂, g, d, tk + 1, os⟩
  refine wpAny_bind (wpAny_setField_rec he₂ (by simp) fun h₃ he₃ hs₃ => ?_)
  replace hs₃ : Heap.SameBut e h₂ h₃ := hs₃
  replace he₃ : IsEnum h₃ e it ((i : Int) + 1) old := he₃
  show wpAny _ _ (newTuple [.int i tk, x] >>= _) _ _ ⟨h₃, g, d, tk + 1, os⟩
  refine wpAny_bind (wpAny_newTuple ?_)
  have he₄ : IsEnum (h₃.push { cls := .type "tuple", data := .seq #[.int i tk, x] }) e it ((i : Int) + 1) old := Heap.get?_push_of_some _ he₃
  generalize hh₄ : h₃.push { cls := .type "tuple", data := .seq #[.int i tk, x] } = h₄ at he₄
  have hsz : h₃.objs.size = h₁.objs.size := by rw [hs₃.1, hs₂.1]
  have hel : e < h₁.objs.size := Heap.lt_size he₁
  have ht₄ : h₄.get? h₁.objs.size = some { cls := .type "tuple", data := .seq #[.int i tk, x] } := by rw [← hh₄, ← hsz]; exact Heap.get?_push_size _ rfl
  have hz₄ : h₄.objs.size = h₁.objs.size + 1 := by rw [← hh₄, Heap.size_push, hsz]
  have hk₄ : ∀ b o, b ≠ e → h₁.get? b = some o → h₄.get? b = some o := fun b o hbe hb => by
    rw [← hh₄]; exact Heap.get?_push_of_some _ (hs₃.extBut b o hbe (hs₂.extBut b o hbe hb))
  show wpAny _ _ (Builtin.SmallTypes.ownedTupleIsFree (.ref e) >>= _) _ _ ⟨h₄, g, d, tk + 1, os⟩
  rw [hsz]
  refine wpAny_bind ?_
  unfold Builtin.SmallTypes.ownedTupleIsFree
  refine wpAny_bind (wpAny_field he₄ rfl (x := .none) rfl (wpAny_pure ?_))
  simp only [if_true]
  refine wpAny_bind (wpAny_rule ?_)
  refine wpAny_bind (wpAny_field he₄ rfl (x := old) rfl ?_)
  refine wpAny_bind (wpAny_setField_rec he₄ (by simp) fun h₅ he₅ hs₅ => ?_)
  replace hs₅ : Heap.SameBut e h₄ h₅ := hs₅
  replace he₅ : IsEnum h₅ e it ((i : Int) + 1) x := he₅
  show wpAny _ _ (Builtin.SmallTypes.ownedTupleHandOut (.ref e) (.ref h₁.objs.size) >>= _) _ _ ⟨h₅, g, d, tk + 1, os⟩
  refine wpAny_bind ?_
  unfold Builtin.SmallTypes.ownedTupleHandOut
  refine wpAny_bind (wpAny_setField_rec he₅ (by simp) fun h₆ he₆ hs₆ => ?_)
  replace hs₆ : Heap.SameBut e h₅ h₆ := hs₆
  replace he₆ : IsEnumOut h₆ e it ((i : Int) + 1) x h₁.objs.size := he₆
  refine wpAny_setField_rec he₆ (by simp) fun h₇ he₇ hs₇ => ?_
  replace hs₇ : Heap.SameBut e h₆ h₇ := hs₇
  replace he₇ : IsEnumOut h₇ e it ((i : Int) + 1) x h₁.objs.size := he₇
  refine wpAny_bind (wpAny_letGo (wpAny_pure ⟨_, rfl, wpAny_pure (hQ x h₁ h₇ tk hPx he₇ ?_ ?_ ?_)⟩))
  · exact hs₇.extBut _ _ (Nat.ne_of_gt hel) (hs₆.extBut _ _ (Nat.ne_of_gt hel) (hs₅.extBut _ _ (Nat.ne_of_gt hel) ht₄))
  · rw [hs₇.1, hs₆.1, hs₅.1, hz₄]
  · exact fun b o hbe hb => hs₇.extBut b o hbe (hs₆.extBut b o hbe (hs₅.extBut b o hbe (hk₄ b o hbe hb)))
theorem enumG_end {j : Int} {Q : Option Value → Shared → Prop} {PostE : Heap → Prop} (he : IsEnum s.heap e it j old)
    (inner : ∀ (Q' : Value → Shared → Prop) (E' : Value → Shared → Prop), (∀ h' tk x, PostE h' → (∃ o, h'.get? x = some o ∧ o.cls = .type "StopIteration") → E' (.ref x) { s with heap := h', toks := tk }) → wpAny (model prog w) A.in1 (Builtin.SmallTypes.nextOf (.ref it)) Q' E' s)
    (hQ : ∀ h' tk, PostE h' → Q none { s with heap := h', toks := tk }) : wpAny (model prog w) A (pyNext (.ref e)) Q E s := by
  have hT : s.TypeIs (.ref e) "enumerate" := ⟨_, he, rfl⟩
  unfold pyNext
  refine wpAny_bind (wpAny_attempt (wpAny_callSpecial?_slot (name := Str.ofString "__next__") hT PySem.F.slot_enumerate_next
    (wpAny_call_entry PySem.F.slot_enumerate_next hT PySem.F.entry_enumerate_next ?_ (PySem.F.args_enumerate_next_1 _))))
  show wpAny _ _ (field (.ref e) 2 >>= _) _ _ _
  refine wpAny_bind (wpAny_field he rfl (x := .ref it) rfl ?_)
  refine wpAny_bind (inner _ _ fun h' tk x he' hx' => ?_)
  obtain ⟨o, ho, hc⟩ := hx'
  refine wpAny_bind (wpAny_isInstance (T := "StopIteration") (b := true) ⟨o, ho, hc⟩ isSubtype_stop ?_)
  exact wpAny_pure (hQ _ _ he')
end
end My

/-! What a zip, an enumerate of lists and tuples walks. -/
namespace My
open PySem L2 PyProof.Rows
/-- a list or a tuple -/
inductive SK where | l | t
def SK.iter : SK → Heap → Addr → Addr → Nat → Prop
  | .l, h, it, a, i => h.IsListIter it a i
  | .t, h, it, a, i => h.IsTupleIter it a i
def SK.seq : SK → Heap → Addr → Array Value → Prop
  | .l, h, a, xs => h.IsList a xs
  | .t, h, a, xs => h.IsTuple a xs
def SK.q (K : PySem.W.Frag) : SK → Hp → Addr → List V → Prop
  | .l, H, a, xs => SqL K H a xs
  | .t, H, a, xs => SqT K H a xs
def SK.io (a : Addr) : SK → Obj
  | .l => { cls := .type "list_iterator", data := .fields #[.ref a, .int 0 0] }
  | .t => { cls := .type "tuple_iterator", data := .fields #[.ref a, .int 0 0] }
theorem SK.draws {prog : Program} {w : World} {A : Around} (k : SK) (hh : A.handled = none) (it a : Addr) (hne : a ≠ it) (items : Array Value) :
    Draws prog w A it [it, a] items.size (fun i v => items[i]? = some v) (fun i h => k.iter h it a i ∧ k.seq h a items) := by
  cases k
  · exact Draws.list hh it a hne items
  · exact Draws.tuple hh it a hne items
theorem SK.look {X : Cx} {pins : List (Addr × Obj)} {σ : L2.St} {H : Hp} {s : Shared} {a : Addr} {xs : List V} {k : SK} (I : Inv X pins σ H s) (h : k.q X.K H a xs) : ∃ its : List Value, Vals xs its ∧ k.seq s.heap a its.toArray ∧ (∃ o, s.heap.get? a = some o) ∧ xs.length ≤ sizeLine := by
  cases k
  · obtain ⟨its, r, p, z⟩ := I.list h
    obtain ⟨o, e, _⟩ := id p.isList
    exact ⟨its, r, p.isList, ⟨o, e⟩, z⟩
  · obtain ⟨its, r, p, z⟩ := I.tuple h
    obtain ⟨o, e, _⟩ := id p
    exact ⟨its, r, p, ⟨o, e⟩, z⟩
theorem SK.inj {X : Cx} {pins : List (Addr × Obj)} {σ : L2.St} {H : Hp} {s : Shared} {a : Addr} {xs ys : List V} {k : SK} (I : Inv X pins σ H s) (h : k.q X.K H a xs) (h' : k.q X.K H a ys) : xs = ys := by
  cases k
  · exact I.list_inj h h'
  · exact I.tuple_inj h h'
theorem SK.obj {k : SK} {h : Heap} {it a : Addr} {i : Nat} (x : k.iter h it a i) : ∃ o, h.get? it = some o ∧ ∀ v, o.data ≠ .cell v := by
  cases k <;> (obtain ⟨o, e, _, d⟩ := x; exact ⟨o, e, fun v q => by rw [d] at q; cases q⟩)
theorem SK.at_ {k : SK} {h h' : Heap} {it a : Addr} {i : Nat} (x : k.iter h it a i) (e : ∀ o, h.get? it = some o → h'.get? it = some o) : k.iter h' it a i := by
  cases k <;> exact x.at e
theorem SK.begins (k : SK) (a : Addr) (items : Array Value) : Begins (.ref a) (k.io a) fun h => k.seq h a items := by
  cases k
  · exact begins_list a items
  · exact begins_tuple a items
theorem SK.iter0 {k : SK} {h : Heap} {it a : Addr} (e : h.get? it = some (k.io a)) : k.iter h it a 0 := by
  cases k <;> exact ⟨_, e, rfl, rfl⟩
theorem hid {A : Around} (h : A.handled = none) : A.in1.handled = none := h

/-- v begins to be walked: iter(v) is at ad, the heap as g leaves it -/
structure IterTo (v : Value) (H : Heap → Prop) (g : Heap → Heap) (ad : Heap → Addr) : Prop where
  iter : ∀ (prog : Program) (w : World) (A : Around) (E : Value → Shared → Prop) (s : Shared) (Q : Value → Shared → Prop), H s.heap → Q (.ref (ad s.heap)) { s with heap := g s.heap } → wpAny (model prog w) A (pyIter v) Q E s
set_option maxHeartbeats 2000000 in
theorem meets_enum1 {v : Value} {H : Heap → Prop} {g : Heap → Heap} {ad : Heap → Addr} (B : IterTo v H g ad) :
    Meets (Builtin.«enumerate.__new__» ⟨[.type "enumerate", v], []⟩) (fun _ R s => H s.heap ∧
      R (.ok (.ret (.ref (g s.heap).objs.size))) { s with heap := (g s.heap).push { cls := .type "enumerate", data := .fields #[.none, .bool false, .ref (ad s.heap), rawInt 0, .none, .none] } }) :=
  .of_wp fun prog w A R s h => by
    obtain ⟨hp, g', d, tk, os⟩ := s; obtain ⟨h1, h⟩ := h
    have hsub := sub_enumerate
    have q1 : ∀ {A' : Around} {E : Value → Shared → Prop} {Q : Value → Shared → Prop}, Q (.ref (ad hp)) ⟨g hp, g', d, tk, os⟩ → wpAny (model prog w) A' (pyIter v) Q E ⟨hp, g', d, tk, os⟩ :=
      fun q => B.iter prog w _ _ ⟨hp, g', d, tk, os⟩ _ h1 q
    wp_walk using q1
    refine wpAny_stack_any fun st => wpAny_pure ?_
    split
    · rename_i c _ _ _ _ _
      cases (c == Value.type "enumerate")
      · wp_walk using q1
        exact ⟨_, rfl, h⟩
      · wp_walk using q1
        exact ⟨_, rfl, h⟩
    · wp_walk using q1
      exact ⟨_, rfl, h⟩
section
variable {prog : Program} {w : World} {A : Around} {E : Value → Shared → Prop} {s : Shared}
theorem call_enum1 {v : Value} {H : Heap → Prop} {g : Heap → Heap} {ad : Heap → Addr} {Q : Value → Shared → Prop} (B : IterTo v H g ad) (h1 : H s.heap) (up : ∀ b o, s.heap.get? b = some o → (g s.heap).get? b = some o)
    (h : ∀ h', IsEnum h' (g s.heap).objs.size (ad s.heap) 0 .none → (∀ b o, (g s.heap).get? b = some o → h'.get? b = some o) → Q (.ref (g s.heap).objs.size) { s with heap := h' }) :
    wpAny (model prog w) A (call (.type "enumerate") [v]) Q E s := by
  refine callType_new PySem.F.called_enumerate (by decide) (PySem.F.typeCall_enumerate_1 _) (PySem.F.newCall_enumerate_1 _) (fun obj => PySem.F.args_object_init_2 obj _) PySem.F.entry_enumerate_new (meets_enum1 B) ⟨h1, ?_⟩
  show _ ∧ _
  have he : IsEnum ((g s.heap).push { cls := .type "enumerate", data := .fields #[.none, .bool false, .ref (ad s.heap), rawInt 0, .none, .none] }) (g s.heap).objs.size (ad s.heap) 0 .none := Heap.get?_push_size _ rfl
  exact ⟨⟨_, he, rfl⟩, h _ he fun b o x => Heap.get?_push_of_some _ x⟩
end

/-- the items of a list or tuple in new pairs with their numbers -/
def IteK (k : SK) (K : PySem.W.Frag) (a : Addr) : L2.It :=
  ⟨fun i H => ∃ (xs : List V) (x : V), k.q K H a xs ∧ xs[i]? = some x, fun i H v H' => ∃ T x, v = .ref T ∧ H T = none ∧ H' = upd H T (.tup [.int (i : Nat), x]) ∧ ∀ xs, k.q K H a xs → xs[i]? = some x, fun i H => ∃ xs : List V, k.q K H a xs ∧ xs.length = i⟩
theorem turn_enumK {P : Program} {w : World} {K : PySem.W.Frag} {elts : List Expr} {kk : Nat} {tpos : Pos} (k : SK) (a e it : Addr) :
    Turn P w K (.Tuple elts kk tpos) (IteK k K a) [e, it] e (fun i h => (∃ old, IsEnum h e it ((i : Nat) : Int) old) ∧ k.iter h it a i ∧ e ≠ it ∧ a ≠ it ∧ e ≠ a) where
  mem := by simp
  obj := fun i h st b hb => by
    obtain ⟨⟨old, he⟩, hi, _⟩ := st
    have e' : b = e ∨ b = it := by simpa using hb
    rcases e' with z | z
    · rw [z]; exact ⟨_, he, fun v q => nomatch q⟩
    · rw [z]; exact SK.obj hi
  keep := fun i h h' st kp => let ⟨⟨old, he⟩, hi, hne⟩ := st; ⟨⟨old, kp e (by simp) _ he⟩, SK.at_ hi fun o q => kp it (by simp) o q, hne⟩
  item := by
    intro X hP hw hK hc i pins s σ H E I hf st hg
    subst hP hw hK
    obtain ⟨⟨old, he⟩, hit, hne, hna, hea⟩ := st
    obtain ⟨xs, x, hq, hx⟩ := hg
    obtain ⟨its, rv, p, ⟨oa, ha⟩, hz⟩ := k.look I hq
    obtain ⟨u, hu, ru⟩ := rv.get hx
    have hel : e < s.heap.objs.size := Heap.lt_size he
    have hil : it < s.heap.objs.size := by obtain ⟨_, q, _⟩ := SK.obj hit; exact Heap.lt_size q
    have hlt : i < its.toArray.size := by simpa using (List.getElem?_eq_some_iff.mp hu).1
    have D := SK.draws (prog := X.prog) (w := X.w) (A := X.A.in1) k (hid (I.ok.hd hc)) it a hna its.toArray
    refine wpAny_pyNext_enum_itemD (P := fun i v => its.toArray[i]? = some v) (St := fun i h => k.iter h it a i ∧ k.seq h a its.toArray) D he ⟨hit, p⟩ hlt hne (by simp [hne, hea]) fun x' h' tk hx' ho st' hT hsz hk => ?_
    have ex : x' = u := by
      have := hx'
      simp only [List.getElem?_toArray, hu] at this
      exact (Option.some.inj this).symm
    subst ex
    refine ⟨_, rfl, wpAny_letOwnedTupleGo_enum (s := { s with heap := h', toks := tk + 1 }) ho fun h'' he' sb => ?_⟩
    have hT2 : h''.get? s.heap.objs.size = some { cls := .type "tuple", data := .seq #[.int i tk, x'] } := (sb.2 _ (Nat.ne_of_gt hel)).trans hT
    have new : ObjOk X.prog X.w (upd H s.heap.objs.size (.tup [.int (i : Nat), x])) h'' s.heap.objs.size (.tup [.int (i : Nat), x]) :=
      ⟨by show 2 ≤ sizeLine; decide, [.int i tk, x'], .cons ⟨_, rfl⟩ (.cons ru .nil), ⟨_, hT2, rfl, _, rfl⟩⟩
    have I1 : Inv X pins σ (upd H s.heap.objs.size (.tup [.int (i : Nat), x])) { s with heap := h'', toks := tk + 1 } :=
      I.turnedNew (ch := [e, it]) (fun b ob hb q => (sb.2 b (fun z => hb (by simp [z]))).trans (hk b ob (fun z => hb (by simp [z])) (fun z => hb (by simp [z])) q)) hf (Nat.le_refl _) new
    refine ⟨.ref s.heap.objs.size, _, I1, rfl, ⟨_, x, rfl, I.hok.fresh (Nat.le_refl _), rfl, fun ys hy => by rw [k.inj I hy hq]; exact hx⟩, ⟨⟨x', ?_⟩, SK.at_ st'.1 fun o q => (sb.2 it (Ne.symm hne)).trans q, hne, hna, hea⟩, fun b hb => ?_⟩
    · have e1 : ((i + 1 : Nat) : Int) = (i : Int) + 1 := by omega
      rw [e1]; exact he'
    · have hb' : b < s.heap.objs.size := by
        have e' : b = e ∨ b = it := by simpa using hb
        rcases e' with z | z
        · rw [z]; exact hel
        · rw [z]; exact hil
      rw [upd_ne (Nat.ne_of_lt hb')]
      exact (hf b hb).1
  done := by
    intro X hP hw hK hc i pins s σ H E I hf st hg
    subst hP hw hK
    obtain ⟨⟨old, he⟩, hit, hne, hna, hea⟩ := st
    obtain ⟨xs, hq, hx⟩ := hg
    obtain ⟨its, rv, p, ⟨oa, ha⟩, hz⟩ := k.look I hq
    obtain ⟨f0, f1, f2, f3, f4, f5⟩ := hf it (by simp)
    have hl := rv.length
    have D := SK.draws (prog := X.prog) (w := X.w) (A := X.A.in1) k (hid (I.ok.hd hc)) it a hna its.toArray
    have ei : i = its.toArray.size := by simp; omega
    subst ei
    exact wpAny_pyNext_enum_endD (P := fun i v => its.toArray[i]? = some v) (St := fun i h => k.iter h it a i ∧ k.seq h a its.toArray) D he ⟨hit, p⟩ fun h' eb => ⟨rfl, I.turned (t' := s.toks) (fun b o hb q => eb b o hb q) f0 f1 f3 f4 f5⟩
  self := fun A i s Q E st h => let ⟨⟨_, he⟩, _⟩ := st; wpAny_pyIter_enum he h
theorem sep_of {z TI TO i1 i2 a b : Addr} (D : ZipApart z TI TO i1 i2 a b) : ZipSep2 z TI TO i1 i2 [i1, a] [i2, b] where
  TIz := D.TIz
  TOz := D.TOz
  TITO := D.TITO
  TIi1 := D.TIi1
  mem1 := by simp
  zf1 := by simp [D.i1z.symm, D.l1z.symm]
  Tf1 := by simp [D.TOi1, D.l1TO.symm]
  TIi2 := D.TIi2
  mem2 := by simp
  zf2 := by simp [D.i2z.symm, D.l2z.symm]
  Tf2 := by simp [D.TOi2, D.l2TO.symm]
  sep1_2 := by simp [D.i12, D.l2i1.symm]
  sep2_1 := by simp [D.i12.symm, D.l1i2.symm]
/-- two lists or tuples side by side -/
def ItzK (k1 k2 : SK) (K : PySem.W.Frag) (a b : Addr) : L2.It :=
  ⟨fun i H => ∃ (xs ys : List V) (x y : V), k1.q K H a xs ∧ k2.q K H b ys ∧ xs[i]? = some x ∧ ys[i]? = some y,
    fun i H v H' => ∃ T x y, v = .ref T ∧ H T = none ∧ H' = upd H T (.tup [x, y]) ∧ (∀ xs, k1.q K H a xs → xs[i]? = some x) ∧ ∀ ys, k2.q K H b ys → ys[i]? = some y,
    fun i H => ∃ xs ys : List V, k1.q K H a xs ∧ k2.q K H b ys ∧ i ≤ xs.length ∧ i ≤ ys.length ∧ (i = xs.length ∨ i = ys.length)⟩
abbrev zcells (z TI TO i1 i2 : Addr) : List Addr := [z, TI, TO, i1, i2]
theorem turn_zipK {P : Program} {w : World} {K : PySem.W.Frag} {elts : List Expr} {kk : Nat} {tpos : Pos} {k1 k2 : SK} {a b z TI TO i1 i2 : Addr} (D : ZipApart z TI TO i1 i2 a b) :
    Turn P w K (.Tuple elts kk tpos) (ItzK k1 k2 K a b) [z, TI, TO, i1, i2] z (fun i h => IsZip h z TI TO .none ∧ IsPair h TI (.ref i1) (.ref i2) ∧ (∃ x y, IsPair h TO x y) ∧ k1.iter h i1 a i ∧ k2.iter h i2 b i) where
  mem := by simp
  obj := fun i h st c hc => by
    obtain ⟨hz, hTI, ⟨x, y, hTO⟩, h1, h2⟩ := st
    have e' : c = z ∨ c = TI ∨ c = TO ∨ c = i1 ∨ c = i2 := by simpa using hc
    rcases e' with q | q | q | q | q
    · rw [q]; exact ⟨_, hz, fun v q => nomatch q⟩
    · rw [q]; exact ⟨_, hTI, fun v q => nomatch q⟩
    · rw [q]; exact ⟨_, hTO, fun v q => nomatch q⟩
    · rw [q]; exact SK.obj h1
    · rw [q]; exact SK.obj h2
  keep := fun i h h' st k => by
    obtain ⟨hz, hTI, ⟨x, y, hTO⟩, h1, h2⟩ := st
    exact ⟨k z (by simp) _ hz, k TI (by simp) _ hTI, ⟨x, y, k TO (by simp) _ hTO⟩, SK.at_ h1 fun o q => k i1 (by simp) o q, SK.at_ h2 fun o q => k i2 (by simp) o q⟩
  item := by
    intro X hP hw hK hc i pins s σ H E I hf st hg
    subst hP hw hK
    obtain ⟨hz, hTI, ⟨x0, y0, hTO⟩, h1, h2⟩ := st
    obtain ⟨xs, ys, x, y, hqx, hqy, hx, hy⟩ := hg
    obtain ⟨its, rv, p, _, _⟩ := k1.look I hqx
    obtain ⟨its2, rv2, p2, _, _⟩ := k2.look I hqy
    obtain ⟨u, hu, ru⟩ := rv.get hx
    obtain ⟨u2, hu2, ru2⟩ := rv2.get hy
    have hzl : z < s.heap.objs.size := Heap.lt_size hz
    have D1 := SK.draws (prog := X.prog) (w := X.w) (A := X.A.in1) k1 (hid (I.ok.hd hc)) i1 a D.l1i1 its.toArray
    have D2 := SK.draws (prog := X.prog) (w := X.w) (A := X.A.in1) k2 (hid (I.ok.hd hc)) i2 b D.l2i2 its2.toArray
    have hlt : i < its.toArray.size := by simpa using (List.getElem?_eq_some_iff.mp hu).1
    have hlt2 : i < its2.toArray.size := by simpa using (List.getElem?_eq_some_iff.mp hu2).1
    refine wpAny_pyNext_zipD2_item (sep_of D) D1 D2 hz hTI hTO ⟨h1, p⟩ ⟨h2, p2⟩ hlt hlt2 fun x1 x2 h' tk e1 e2 z' TO' st1' st2' hT hsz hk => ?_
    have ex : x1 = u := by
      simp only [List.getElem?_toArray, hu] at e1
      exact (Option.some.inj e1).symm
    have ey : x2 = u2 := by
      simp only [List.getElem?_toArray, hu2] at e2
      exact (Option.some.inj e2).symm
    subst ex ey
    refine ⟨_, rfl, wpAny_letOwnedTupleGo_zip (s := { s with heap := h', toks := tk }) z' fun h'' z'' sb => ?_⟩
    have hT2 : h''.get? s.heap.objs.size = some { cls := .type "tuple", data := .seq #[x1, x2] } := (sb.2 _ (Nat.ne_of_gt hzl)).trans hT
    have new : ObjOk X.prog X.w (upd H s.heap.objs.size (.tup [x, y])) h'' s.heap.objs.size (.tup [x, y]) :=
      ⟨by show 2 ≤ sizeLine; decide, [x1, x2], .cons ru (.cons ru2 .nil), ⟨_, hT2, rfl, _, rfl⟩⟩
    have I1 : Inv X pins σ (upd H s.heap.objs.size (.tup [x, y])) { s with heap := h'', toks := tk } :=
      I.turnedNew (ch := [z, TI, TO, i1, i2]) (fun c o hb q => (sb.2 c (fun q' => hb (by simp [q']))).trans (hk c o (fun q' => hb (by simp [q'])) (fun q' => hb (by simp [q'])) (fun q' => hb (by simp [q'])) (fun q' => hb (by simp [q'])) q)) hf (Nat.le_refl _) new
    refine ⟨.ref s.heap.objs.size, _, I1, rfl, ⟨_, x, y, rfl, I.hok.fresh (Nat.le_refl _), rfl, fun l hl => by rw [k1.inj I hl hqx]; exact hx, fun l hl => by rw [k2.inj I hl hqy]; exact hy⟩, ⟨z'', ?_, ⟨x1, x2, ?_⟩, ?_, ?_⟩, fun c hcm => ?_⟩
    · exact (sb.2 _ D.TIz).trans (hk _ _ D.TIz D.TITO D.TIi1 D.TIi2 hTI)
    · exact (sb.2 _ D.TOz).trans TO'
    · exact SK.at_ st1'.1 fun o q => (sb.2 _ D.i1z).trans q
    · exact SK.at_ st2'.1 fun o q => (sb.2 _ D.i2z).trans q
    · have hlt : c < s.heap.objs.size := by
        have e' : c = z ∨ c = TI ∨ c = TO ∨ c = i1 ∨ c = i2 := by simpa using hcm
        rcases e' with q | q | q | q | q
        · rw [q]; exact hzl
        · rw [q]; exact Heap.lt_size hTI
        · rw [q]; exact Heap.lt_size hTO
        · rw [q]; obtain ⟨_, e1, _⟩ := SK.obj h1; exact Heap.lt_size e1
        · rw [q]; obtain ⟨_, e1, _⟩ := SK.obj h2; exact Heap.lt_size e1
      rw [upd_ne (Nat.ne_of_lt hlt)]
      exact (hf c hcm).1
  done := by
    intro X hP hw hK hc i pins s σ H E I hf st hg
    subst hP hw hK
    obtain ⟨hz, hTI, ⟨x0, y0, hTO⟩, h1, h2⟩ := st
    obtain ⟨xs, ys, hqx, hqy, le1, le2, hend⟩ := hg
    obtain ⟨its, rv, p, _, _⟩ := k1.look I hqx
    obtain ⟨its2, rv2, p2, _, _⟩ := k2.look I hqy
    have l1 := rv.length
    have l2 := rv2.length
    have D1 := SK.draws (prog := X.prog) (w := X.w) (A := X.A.in1) k1 (hid (I.ok.hd hc)) i1 a D.l1i1 its.toArray
    have D2 := SK.draws (prog := X.prog) (w := X.w) (A := X.A.in1) k2 (hid (I.ok.hd hc)) i2 b D.l2i2 its2.toArray
    exact wpAny_pyNext_zipD2_end (sep_of D) D1 D2 hz hTI hTO ⟨h1, p⟩ ⟨h2, p2⟩ (by simp; omega) (by simp; omega) (by simp; omega) fun h' tk hk => ⟨rfl, I.turnedL (t' := tk) (ch := [z, TI, TO, i1, i2]) (fun c o hb q =>
      hk c o (fun q' => hb (by simp [q'])) (fun q' => hb (by simp [q'])) (fun q' => hb (by simp [q'])) (fun q' => hb (by simp [q'])) q) hf⟩
  self := fun A i s Q E st h => wpAny_pyIter_zip st.1 h

/-- two lists or tuples side by side, with numbers -/
def ItezK (k1 k2 : SK) (K : PySem.W.Frag) (a b : Addr) : L2.It :=
  ⟨fun i H => ∃ (xs ys : List V) (x y : V), k1.q K H a xs ∧ k2.q K H b ys ∧ xs[i]? = some x ∧ ys[i]? = some y,
    fun i H v H' => ∃ T U x y, v = .ref U ∧ H T = none ∧ H U = none ∧ U ≠ T ∧ H' = upd (upd H T (.tup [x, y])) U (.tup [.int (i : Nat), .ref T]) ∧ (∀ xs, k1.q K H a xs → xs[i]? = some x) ∧ ∀ ys, k2.q K H b ys → ys[i]? = some y,
    fun i H => ∃ xs ys : List V, k1.q K H a xs ∧ k2.q K H b ys ∧ i ≤ xs.length ∧ i ≤ ys.length ∧ (i = xs.length ∨ i = ys.length)⟩
theorem turn_ezK {P : Program} {w : World} {K : PySem.W.Frag} {elts : List Expr} {kk : Nat} {tpos : Pos} {k1 k2 : SK} {a b e z TI TO i1 i2 : Addr} (D : ZipApart z TI TO i1 i2 a b) (ez : e ≠ z) (eTI : e ≠ TI) (eTO : e ≠ TO) (e1 : e ≠ i1) (e2 : e ≠ i2) :
    Turn P w K (.Tuple elts kk tpos) (ItezK k1 k2 K a b) [e, z, TI, TO, i1, i2] e (fun i h => (∃ old, IsEnum h e z ((i : Nat) : Int) old) ∧ (∃ own f, IsZipF h z TI TO own f ∧ OwnV own) ∧ IsPair h TI (.ref i1) (.ref i2) ∧ (∃ x y, IsPair h TO x y) ∧ k1.iter h i1 a i ∧ k2.iter h i2 b i) where
  mem := by simp
  obj := fun i h st c hc => by
    obtain ⟨⟨old, he⟩, ⟨own, f, hz, _⟩, hTI, ⟨x, y, hTO⟩, h1, h2⟩ := st
    have e' : c = e ∨ c = z ∨ c = TI ∨ c = TO ∨ c = i1 ∨ c = i2 := by simpa using hc
    rcases e' with q | q | q | q | q | q
    · rw [q]; exact ⟨_, he, fun v q => nomatch q⟩
    · rw [q]; exact ⟨_, hz, fun v q => nomatch q⟩
    · rw [q]; exact ⟨_, hTI, fun v q => nomatch q⟩
    · rw [q]; exact ⟨_, hTO, fun v q => nomatch q⟩
    · rw [q]; exact SK.obj h1
    · rw [q]; exact SK.obj h2
  keep := fun i h h' st k => by
    obtain ⟨⟨old, he⟩, ⟨own, f, hz, ho⟩, hTI, ⟨x, y, hTO⟩, h1, h2⟩ := st
    exact ⟨⟨old, k e (by simp) _ he⟩, ⟨own, f, k z (by simp) _ hz, ho⟩, k TI (by simp) _ hTI, ⟨x, y, k TO (by simp) _ hTO⟩, SK.at_ h1 fun o q => k i1 (by simp) o q, SK.at_ h2 fun o q => k i2 (by simp) o q⟩
  item := by
    intro X hP hw hK hc i pins s σ H E I hf st hg
    subst hP hw hK
    obtain ⟨⟨old, he⟩, ⟨own, f, hz, ho⟩, hTI, ⟨x0, y0, hTO⟩, h1, h2⟩ := st
    obtain ⟨xs, ys, x, y, hqx, hqy, hx, hy⟩ := hg
    obtain ⟨its, rv, p, ⟨oa, pa⟩, _⟩ := k1.look I hqx
    obtain ⟨its2, rv2, p2, ⟨ob, pb⟩, _⟩ := k2.look I hqy
    obtain ⟨u, hu, ru⟩ := rv.get hx
    obtain ⟨u2, hu2, ru2⟩ := rv2.get hy
    have hel : e < s.heap.objs.size := Heap.lt_size he
    have D1 := SK.draws (prog := X.prog) (w := X.w) (A := X.A.in1.in1) k1 (hid (hid (I.ok.hd hc))) i1 a D.l1i1 its.toArray
    have D2 := SK.draws (prog := X.prog) (w := X.w) (A := X.A.in1.in1) k2 (hid (hid (I.ok.hd hc))) i2 b D.l2i2 its2.toArray
    have hlt : i < its.toArray.size := by simpa using (List.getElem?_eq_some_iff.mp hu).1
    have hlt2 : i < its2.toArray.size := by simpa using (List.getElem?_eq_some_iff.mp hu2).1
    refine enumG_item (Post := fun v h' => v = .ref s.heap.objs.size ∧ (∃ own' f', IsZipF h' z TI TO own' f' ∧ OwnV own') ∧ (∃ b1 b2, IsTupOf2 h' TO b1 b2) ∧ k1.iter h' i1 a (i + 1) ∧ k2.iter h' i2 b (i + 1) ∧ IsTupOf2 h' s.heap.objs.size u u2 ∧ h'.objs.size = s.heap.objs.size + 1 ∧
      (∀ c o, c ≠ z → c ≠ TO → c ≠ i1 → c ≠ i2 → s.heap.get? c = some o → h'.get? c = some o)) he (fun Q' E' hI => ?_) (fun v h' q => q.2.2.2.2.2.2.2 _ _ ez eTO e1 e2 he) fun v g1 h' tk q ho' hT hsz hk => ?_
    · refine zipF_nextOf (sep_of D) D1 D2 hz ho hTI hTO ⟨h1, p⟩ ⟨h2, p2⟩ hlt hlt2 fun x1 x2 h' tk own' f' q1 q2 z' zo TO' s1 s2 hT hsz hk => hI _ h' tk ⟨rfl, ⟨own', f', z', zo⟩, TO', s1.1, s2.1, ?_, hsz, hk⟩
      have ex : x1 = u := by
        simp only [List.getElem?_toArray, hu] at q1
        exact (Option.some.inj q1).symm
      have ey : x2 = u2 := by
        simp only [List.getElem?_toArray, hu2] at q2
        exact (Option.some.inj q2).symm
      rw [← ex, ← ey]; exact hT
    obtain ⟨ev, ⟨own', f', z', zo⟩, ⟨b1, b2, TO'⟩, h1', h2', hT1, hsz1, hk1⟩ := q
    subst ev
    refine ⟨_, rfl, wpAny_letOwnedTupleGo_enum (s := { s with heap := h', toks := tk + 1 }) ho' fun h'' he' sb => ?_⟩
    have hel1 : e < g1.objs.size := by rw [hsz1]; exact Nat.lt_succ_of_lt hel
    have up : ∀ c o, c ≠ e → g1.get? c = some o → h''.get? c = some o := fun c o ce q => (sb.2 c ce).trans (hk c o ce q)
    -- the pair
    have new1 : ObjOk X.prog X.w (upd H s.heap.objs.size (.tup [x, y])) g1 s.heap.objs.size (.tup [x, y]) :=
      ⟨by show 2 ≤ sizeLine; decide, [u, u2], .cons ru (.cons ru2 .nil), ⟨_, hT1, rfl, _, rfl⟩⟩
    have I1 : Inv X pins σ (upd H s.heap.objs.size (.tup [x, y])) { s with heap := g1, toks := tk } :=
      I.turnedNew (ch := [e, z, TI, TO, i1, i2]) (fun c o hb q => hk1 c o (fun q' => hb (by simp [q'])) (fun q' => hb (by simp [q'])) (fun q' => hb (by simp [q'])) (fun q' => hb (by simp [q'])) q) hf (Nat.le_refl _) new1
    have lt6 : ∀ c ∈ [e, z, TI, TO, i1, i2], c < s.heap.objs.size := fun c hcm => by
      have e' : c = e ∨ c = z ∨ c = TI ∨ c = TO ∨ c = i1 ∨ c = i2 := by simpa using hcm
      rcases e' with q | q | q | q | q | q
      · rw [q]; exact hel
      · rw [q]; exact Heap.lt_size hz
      · rw [q]; exact Heap.lt_size hTI
      · rw [q]; exact Heap.lt_size hTO
      · rw [q]; obtain ⟨_, e1, _⟩ := SK.obj h1; exact Heap.lt_size e1
      · rw [q]; obtain ⟨_, e1, _⟩ := SK.obj h2; exact Heap.lt_size e1
    have hf1 : ∀ c ∈ [e, z, TI, TO, i1, i2], FpOk X pins (upd H s.heap.objs.size (.tup [x, y])) c := fun c hcm =>
      ⟨by rw [upd_ne (Nat.ne_of_lt (lt6 c hcm))]; exact (hf c hcm).1, (hf c hcm).2⟩
    -- the number and the pair
    have hT2 : h''.get? g1.objs.size = some { cls := .type "tuple", data := .seq #[.int i tk, .ref s.heap.objs.size] } := (sb.2 _ (Nat.ne_of_gt hel1)).trans hT
    have new2 : ObjOk X.prog X.w (upd (upd H s.heap.objs.size (.tup [x, y])) g1.objs.size (.tup [.int (i : Nat), .ref s.heap.objs.size])) h'' g1.objs.size (.tup [.int (i : Nat), .ref s.heap.objs.size]) :=
      ⟨by show 2 ≤ sizeLine; decide, [.int i tk, .ref s.heap.objs.size], .cons ⟨_, rfl⟩ (.cons rfl .nil), ⟨_, hT2, rfl, _, rfl⟩⟩
    have I2 : Inv X pins σ (upd (upd H s.heap.objs.size (.tup [x, y])) g1.objs.size (.tup [.int (i : Nat), .ref s.heap.objs.size])) { s with heap := h'', toks := tk + 1 } :=
      I1.turnedNew (t' := tk + 1) (ch := [e, z, TI, TO, i1, i2]) (fun c o hb q => up c o (fun q' => hb (by simp [q'])) q) hf1 (Nat.le_refl _) new2
    have fresh1 : H s.heap.objs.size = none := I.hok.fresh (Nat.le_refl _)
    refine ⟨.ref g1.objs.size, _, I2, rfl, ⟨s.heap.objs.size, g1.objs.size, x, y, rfl, fresh1, I.hok.fresh (by rw [hsz1]; exact Nat.le_succ _), by rw [hsz1]; exact Nat.succ_ne_self _, rfl, fun l hl => by rw [k1.inj I hl hqx]; exact hx, fun l hl => by rw [k2.inj I hl hqy]; exact hy⟩,
      ⟨⟨.ref s.heap.objs.size, ?_⟩, ⟨own', f', up _ _ ez.symm z', zo⟩, up _ _ eTI.symm (hk1 _ _ D.TIz D.TITO D.TIi1 D.TIi2 hTI), ⟨b1, b2, up _ _ eTO.symm TO'⟩, SK.at_ h1' fun o q => up _ _ e1.symm q, SK.at_ h2' fun o q => up _ _ e2.symm q⟩, fun c hcm => ?_⟩
    · have e1 : ((i + 1 : Nat) : Int) = (i : Int) + 1 := by omega
      rw [e1]; exact he'
    · have := lt6 c hcm
      rw [upd_ne (by rw [hsz1]; exact Nat.ne_of_lt (Nat.lt_succ_of_lt this))]
      exact (hf1 c hcm).1
  done := by
    intro X hP hw hK hc i pins s σ H E I hf st hg
    subst hP hw hK
    obtain ⟨⟨old, he⟩, ⟨own, f, hz, ho⟩, hTI, ⟨x0, y0, hTO⟩, h1, h2⟩ := st
    obtain ⟨xs, ys, hqx, hqy, le1, le2, hend⟩ := hg
    obtain ⟨its, rv, p, _, _⟩ := k1.look I hqx
    obtain ⟨its2, rv2, p2, _, _⟩ := k2.look I hqy
    have l1 := rv.length
    have l2 := rv2.length
    have D1 := SK.draws (prog := X.prog) (w := X.w) (A := X.A.in1.in1) k1 (hid (hid (I.ok.hd hc))) i1 a D.l1i1 its.toArray
    have D2 := SK.draws (prog := X.prog) (w := X.w) (A := X.A.in1.in1) k2 (hid (hid (I.ok.hd hc))) i2 b D.l2i2 its2.toArray
    refine enumG_end (PostE := fun h' => ∀ c o, c ≠ z → c ≠ TO → c ≠ i1 → c ≠ i2 → s.heap.get? c = some o → h'.get? c = some o) he (fun Q' E' hI => ?_) fun h' tk hk => ⟨rfl, I.turnedL (t' := tk) (ch := [e, z, TI, TO, i1, i2]) (fun c o hb q =>
      hk c o (fun q' => hb (by simp [q'])) (fun q' => hb (by simp [q'])) (fun q' => hb (by simp [q'])) (fun q' => hb (by simp [q'])) q) hf⟩
    exact zipF_nextEnd (sep_of D) D1 D2 hz ho hTI hTO ⟨h1, p⟩ ⟨h2, p2⟩ (by simp; omega) (by simp; omega) (by simp; omega) fun h' tk x hk hx => hI h' tk x hk hx
  self := fun A i s Q E st h => let ⟨⟨_, he⟩, _⟩ := st; wpAny_pyIter_enum he h
/-! ### how they begin -/
section
variable {X : Cx} {e e1 e2 : Expr} {ta : TA} {p p2 pos pos2 tpos : Pos} {elts : List Expr} {kk : Nat}
theorem SK.iterTo (k : SK) (a : Addr) (items : Array Value) : IterTo (.ref a) (fun h => k.seq h a items) (fun h => h.push (k.io a)) (fun h => h.objs.size) :=
  ⟨fun prog w A E s Q hs q => (k.begins a items).iter prog w A E s Q hs q⟩
theorem zip_iterTo (z TI TO : Addr) : IterTo (.ref z) (fun h => IsZip h z TI TO .none) (fun h => h) (fun _ => z) := ⟨fun prog w A E s Q hz q => wpAny_pyIter_zip hz q⟩
def iEnumK (K : PySem.W.Frag) (ta : TA) : TI := fun σ H R => ta σ H fun vs H1 => ∃ a xs k, vs = [.ref a] ∧ SK.q K k H1 a xs ∧ R (IteK k K a) H1
theorem pi_enumK (hg : Gl X "enumerate") (hm : X.mg "enumerate" = none) (ha : PA X [e] ta) (hs : starEach [e] X.env = [(false, eval e X.env)]) :
    PI X (.Tuple elts kk tpos) (.Call (.Name "enumerate" p) [e] [] pos) (iEnumK X.K ta) := by
  refine ⟨fun pins s σ H R I h => ?_⟩
  refine Call_ (ld_blt I hg hm boot_enumerate (PyProof.Rows.callWith_type1 (thn (ha.run pos pins s σ H _ I h) fun us s1 ⟨vs, H1, I1, r1, q1⟩ => ?_) hs rfl))
  obtain ⟨a, xs, k, ex, hq, q⟩ := q1
  subst ex
  cases r1 with
  | cons r rr =>
    cases rr
    cases r
    obtain ⟨its, rv, p', ⟨oa, pa⟩, hz⟩ := k.look I1 hq
    have hal : a < s1.heap.objs.size := Heap.lt_size pa
    refine call_enum1 (k.iterTo a its.toArray) p' (fun b o q => Heap.get?_push_of_some _ q) fun h' he hk => wpAny_pyIter_enum he ?_
    have hsz : (s1.heap.push (k.io a)).objs.size = s1.heap.objs.size + 1 := Heap.size_push ..
    have hit : h'.get? s1.heap.objs.size = some (k.io a) := hk _ _ (Heap.get?_push_size _ (by cases k <;> rfl))
    simp only [hsz] at he ⊢
    have I2 : Inv X pins σ H1 { s1 with heap := h' } := I1.kept (t' := s1.toks) fun b o q => hk _ _ (Heap.get?_push_of_some _ q)
    refine ⟨s1.heap.objs.size + 1, [s1.heap.objs.size + 1, s1.heap.objs.size], _, _, H1, rfl, I2, turn_enumK k a (s1.heap.objs.size + 1) s1.heap.objs.size, ⟨⟨.none, he⟩, SK.iter0 hit, Nat.succ_ne_self _, Nat.ne_of_lt hal, Nat.ne_of_gt (Nat.lt_succ_of_lt hal)⟩, fun b hb => ?_, q⟩
    have e' : b = s1.heap.objs.size + 1 ∨ b = s1.heap.objs.size := by simpa using hb
    have hle : s1.heap.objs.size ≤ b := by
      rcases e' with z | z
      · rw [z]; exact Nat.le_add_right _ _
      · rw [z]; exact Nat.le_refl _
    exact I1.fpOk hle (I1.hok.fresh hle)
def iZipK (K : PySem.W.Frag) (J : SK → SK → Addr → Addr → L2.It) (ta : TA) : TI := fun σ H R => ta σ H fun vs H1 => ∃ a b xs ys k1 k2, vs = [.ref a, .ref b] ∧ SK.q K k1 H1 a xs ∧ SK.q K k2 H1 b ys ∧ R (J k1 k2 a b) H1
theorem fresh_z {pins : List (Addr × Obj)} {σ : L2.St} {H : Hp} {s : Shared} (I : Inv X pins σ H s) {n : Nat} {c : Addr} (h : s.heap.objs.size ≤ c) : FpOk X pins H c := I.fpOk h (I.hok.fresh h)
/-- zip(a, b) is made -/
theorem run_zipK {pins : List (Addr × Obj)} {s : Shared} {σ : L2.St} {H : Hp} {J : SK → SK → Addr → Addr → L2.It} {R : L2.It → Hp → Prop} {Q : Value → Shared → Prop} (hg : Gl X "zip") (hm : X.mg "zip" = none) (ha : PA X [e1, e2] ta)
    (hs : starEach [e1, e2] X.env = (false, eval e1 X.env) :: starEach [e2] X.env) (hpl : (backTo pos (starEach [e2] X.env)).any (·.1) = false) (I : Inv X pins σ H s) (h : iZipK X.K J ta σ H R)
    (k : ∀ (s1 : Shared) (h' : Heap) (H1 : Hp) (a b : Addr) (k1 k2 : SK), Inv X pins σ H1 s1 → Inv X pins σ H1 { s1 with heap := h' } → IsZip h' (s1.heap.objs.size + 4) (s1.heap.objs.size + 2) (s1.heap.objs.size + 3) .none → IsTupOf2 h' (s1.heap.objs.size + 2) (.ref s1.heap.objs.size) (.ref (s1.heap.objs.size + 1)) →
      IsTupOf2 h' (s1.heap.objs.size + 3) .none .none → k1.iter h' s1.heap.objs.size a 0 → k2.iter h' (s1.heap.objs.size + 1) b 0 → h'.objs.size = s1.heap.objs.size + 5 → a < s1.heap.objs.size → b < s1.heap.objs.size → R (J k1 k2 a b) H1 → Q (.ref (s1.heap.objs.size + 4)) { s1 with heap := h' }) :
    wpAny (model X.prog X.w) X.A (eval (.Call (.Name "zip" p) [e1, e2] [] pos) X.env) Q X.xe s := by
  refine Call_ (ld_blt I hg hm PyProof.Rows.boot_zip (PyProof.Rows.callWith_type1 (thn (ha.run pos pins s σ H _ I h) fun us s1 ⟨vs, H1, I1, r1, q1⟩ => ?_) hs hpl))
  obtain ⟨a, b, xs, ys, k1, k2, ex, hqx, hqy, q⟩ := q1
  subst ex
  cases r1 with
  | cons r rr =>
    cases rr with
    | cons r' rr =>
      cases rr
      cases r
      cases r'
      obtain ⟨its, rv, p1, ⟨oa, pa⟩, _⟩ := k1.look I1 hqx
      obtain ⟨its2, rv2, p2, ⟨ob, pb⟩, _⟩ := k2.look I1 hqy
      refine zip_begins2 (k1.begins a its.toArray) (k2.begins b its2.toArray) p1 p2 fun h' hz hTI hTO h1 h2 hsz hk => ?_
      exact k s1 h' H1 a b k1 k2 I1 (I1.kept (t' := s1.toks) hk) hz hTI hTO (SK.iter0 h1) (SK.iter0 h2) hsz (Heap.lt_size pa) (Heap.lt_size pb) q
theorem pi_zipK (hg : Gl X "zip") (hm : X.mg "zip" = none) (ha : PA X [e1, e2] ta)
    (hs : starEach [e1, e2] X.env = (false, eval e1 X.env) :: starEach [e2] X.env) (hpl : (backTo pos (starEach [e2] X.env)).any (·.1) = false) :
    PI X (.Tuple elts kk tpos) (.Call (.Name "zip" p) [e1, e2] [] pos) (iZipK X.K (fun k1 k2 a b => ItzK k1 k2 X.K a b) ta) := by
  refine ⟨fun pins s σ H R I h => run_zipK hg hm ha hs hpl I h fun s1 h' H1 a b k1 k2 I1 I2 hz hTI hTO h1 h2 hsz al bl q => wpAny_pyIter_zip hz ?_⟩
  refine ⟨s1.heap.objs.size + 4, [s1.heap.objs.size + 4, s1.heap.objs.size + 2, s1.heap.objs.size + 3, s1.heap.objs.size, s1.heap.objs.size + 1], _, _, H1, rfl, I2, turn_zipK (PySem.W.ktu_apart s1.heap.objs.size a b al bl), ⟨hz, hTI, ⟨_, _, hTO⟩, h1, h2⟩, fun c hcm => ?_, q⟩
  have e' : c = s1.heap.objs.size + 4 ∨ c = s1.heap.objs.size + 2 ∨ c = s1.heap.objs.size + 3 ∨ c = s1.heap.objs.size ∨ c = s1.heap.objs.size + 1 := by simpa using hcm
  have hle : s1.heap.objs.size ≤ c := by rcases e' with z | z | z | z | z <;> rw [z] <;> omega
  exact I1.fpOk hle (I1.hok.fresh hle)
theorem ne5 {n : Nat} (k : Nat) (h : k < 5) : (n + 5 : Addr) ≠ n + k := Nat.ne_of_gt (Nat.add_lt_add_left h n)
theorem pi_ezK (hge : Gl X "enumerate") (hme : X.mg "enumerate" = none) (hg : Gl X "zip") (hm : X.mg "zip" = none) (ha : PA X [e1, e2] ta)
    (hs : starEach [e1, e2] X.env = (false, eval e1 X.env) :: starEach [e2] X.env) (hpl : (backTo pos2 (starEach [e2] X.env)).any (·.1) = false)
    (hse : starEach [.Call (.Name "zip" p2) [e1, e2] [] pos2] X.env = (false, eval (.Call (.Name "zip" p2) [e1, e2] [] pos2) X.env) :: starEach [] X.env) :
    PI X (.Tuple elts kk tpos) (.Call (.Name "enumerate" p) [.Call (.Name "zip" p2) [e1, e2] [] pos2] [] pos) (iZipK X.K (fun k1 k2 a b => ItezK k1 k2 X.K a b) ta) := by
  refine ⟨fun pins s σ H R I h => ?_⟩
  refine Call_ (ld_blt I hge hme boot_enumerate (PyProof.Rows.callWith_type1 ?_ hse rfl))
  rw [hse]
  show wpAny _ _ (spliced ((false, _) :: backTo pos (starEach [] X.env))) _ _ s
  refine Calls.spliced_cons (run_zipK hg hm ha hs hpl I h fun s1 h' H1 a b k1 k2 I1 I2 hz hTI hTO h1 h2 hsz al bl q => ?_)
  refine Calls.spliced_nil ?_
  refine call_enum1 (s := { s1 with heap := h' }) (zip_iterTo _ _ _) hz (fun b o q => q) fun h'' he hk => wpAny_pyIter_enum he ?_
  have hzs : (Shared.heap { s1 with heap := h' }).objs.size = s1.heap.objs.size + 5 := hsz
  simp only [hzs] at he ⊢
  have I3 : Inv X pins σ H1 { s1 with heap := h'' } := I2.kept (t' := s1.toks) fun b o q => hk _ _ q
  refine ⟨s1.heap.objs.size + 5, [s1.heap.objs.size + 5, s1.heap.objs.size + 4, s1.heap.objs.size + 2, s1.heap.objs.size + 3, s1.heap.objs.size, s1.heap.objs.size + 1], _, _, H1, rfl, I3, turn_ezK (PySem.W.ktu_apart s1.heap.objs.size a b al bl) (ne5 4 (by decide)) (ne5 2 (by decide)) (ne5 3 (by decide)) (ne5 0 (by decide)) (ne5 1 (by decide)),
    ⟨⟨_, he⟩, ⟨_, _, hk _ _ hz, .inl rfl⟩, hk _ _ hTI, ⟨_, _, hk _ _ hTO⟩, SK.at_ h1 fun o q => hk _ _ q, SK.at_ h2 fun o q => hk _ _ q⟩, fun c hcm => ?_, q⟩
  have e' : c = s1.heap.objs.size + 5 ∨ c = s1.heap.objs.size + 4 ∨ c = s1.heap.objs.size + 2 ∨ c = s1.heap.objs.size + 3 ∨ c = s1.heap.objs.size ∨ c = s1.heap.objs.size + 1 := by simpa using hcm
  have hle : s1.heap.objs.size ≤ c := by rcases e' with z | z | z | z | z | z <;> rw [z] <;> omega
  exact I1.fpOk hle (I1.hok.fresh hle)
end
end My

/-! MiniPy: more to walk over. -/
namespace My
open PySem L2 PyProof.Rows
theorem enumT_get {xs : List T} {i : Nat} {t : T} (e : (enumT xs)[i]? = some t) : ∃ u, xs[i]? = some u ∧ t = .tup [.int (i : Nat), u] := by
  unfold enumT at e
  rw [List.getElem?_map, List.getElem?_zipIdx] at e
  cases h : xs[i]? with
  | none => rw [h] at e; cases e
  | some u =>
    rw [h] at e
    simp at e
    exact ⟨u, rfl, e.symm⟩
/-- a list or tuple as it stands at each turn -/
def Src (K : PySem.W.Frag) (cl : Cl) (φ : Phi) (H : Hp) (xs : List T) (g : Option (Nat × MO)) (k : SK) (a : Addr) : Prop :=
  ∀ φ' h' H', Mv φ H φ' H' → Hs cl φ' h' H' → gOk g h' = true → ∃ vs, k.q K H' a vs ∧ Rps cl (Off φ') H' xs vs
section
variable {cl : Cl} {φ : Phi} {H : Hp} {h : Hm} {K : PySem.W.Frag}
theorem src_lst {xs : List T} {a : Addr} {vs : List V} (o : Off φ a) (rd : Rx H a (.lst vs)) (q : Rps cl (Off φ) H xs vs) : Src K cl φ H xs none .l a := fun φ' h' H' g hs _ => ⟨vs, .inl (g.mv a _ o rd).2.rd, Rps.move g.mv q⟩
theorem src_tup {xs : List T} {a : Addr} {vs : List V} (o : Off φ a) (rd : Rx H a (.tup vs)) (q : Rps cl (Off φ) H xs vs) : Src K cl φ H xs none .t a := fun φ' h' H' g hs _ => ⟨vs, .inl (g.mv a _ o rd).2.rd, Rps.move g.mv q⟩
theorem src_ref {xs : List T} {a : Addr} {n : Nat} (ea : φ.m[n]? = some (some a)) : Src K cl φ H xs (some (n, .lst xs)) .l a := fun φ' h' H' g hs gd => by
  have hn : n < φ.m.length := (List.getElem?_eq_some_iff.mp ea).1
  simp only [gOk] at gd
  cases eh : h'[n]? with
  | none => rw [eh] at gd; cases gd
  | some o' =>
    rw [eh] at gd
    have := MO.beq_eq gd
    subst this
    rcases hs.get n _ eh with ⟨z, _⟩ | ⟨b, eb, w, hw, q⟩
    · cases z
    · have := g.old n b hn eb
      rw [ea] at this
      cases this
      exact ⟨w, .inl (.inl hw), q⟩
theorem wk_enumK {xs : List T} {g : Option (Nat × MO)} {k : SK} {a : Addr} (S : Src K cl φ H xs g k a) (hl : xs.length ≤ sizeLine) : Wk cl φ H (enumT xs, g) (IteK k K a) where
  len := by simpa [enumT] using hl
  go := fun φ' h' H' i t gm _ hs gd e => by
    obtain ⟨u, eu, et⟩ := enumT_get e
    subst et
    obtain ⟨vs, q, r⟩ := S φ' h' H' gm hs gd
    obtain ⟨v, ev, rv⟩ := r.getE eu
    refine ⟨⟨vs, v, q, ev⟩, fun x H'' y => ?_⟩
    obtain ⟨Tt, z, e1, nT, e2, e3⟩ := y
    have := e3 vs q
    rw [ev] at this
    cases this
    subst e1; subst e2
    have g1 : Grow φ' H' φ' (upd H' Tt (.tup [.int (i : Nat), v])) := Grow.lay nT
    refine ⟨g1, hs.lay nT, ?_⟩
    rw [RpF, Rp]
    have ri : RpF cl φ' (upd H' Tt (.tup [.int (i : Nat), v])) (.int (i : Nat)) (.int (i : Nat)) := by rw [RpF, Rp]
    exact ⟨Tt, _, rfl, hs.offNone nT, .inl upd_same, .cons ri (.cons (g1.rp rv) .nil)⟩
  stop := fun φ' h' H' gm _ hs gd => by
    obtain ⟨vs, q, r⟩ := S φ' h' H' gm hs gd
    exact ⟨vs, q, by simp [enumT, r.length]⟩
theorem zipT_get {xs ys : List T} {i : Nat} {t : T} (e : (zipT xs ys)[i]? = some t) : ∃ u v, xs[i]? = some u ∧ ys[i]? = some v ∧ t = .tup [u, v] := by
  unfold zipT at e
  rw [List.getElem?_zipWith] at e
  cases h : xs[i]? with
  | none => rw [h] at e; simp at e
  | some u =>
    cases h2 : ys[i]? with
    | none => rw [h, h2] at e; simp at e
    | some v => rw [h, h2] at e; exact ⟨u, v, rfl, rfl, by simpa using e.symm⟩
theorem zipT_len (xs ys : List T) : (zipT xs ys).length = min xs.length ys.length := by simp [zipT]
theorem wk_zipK {xs ys : List T} {k1 k2 : SK} {a b : Addr} (S : Src K cl φ H xs none k1 a) (S2 : Src K cl φ H ys none k2 b) (hl : xs.length ≤ sizeLine) : Wk cl φ H (zipT xs ys, none) (ItzK k1 k2 K a b) where
  len := by show (zipT xs ys).length ≤ _; rw [zipT_len]; omega
  go := fun φ' h' H' i t gm _ hs gd e => by
    obtain ⟨u, u2, eu, eu2, et⟩ := zipT_get e
    subst et
    obtain ⟨vs, q, r⟩ := S φ' h' H' gm hs gd
    obtain ⟨ws, q2, r2⟩ := S2 φ' h' H' gm hs gd
    obtain ⟨v, ev, rv⟩ := r.getE eu
    obtain ⟨w, ew, rw_⟩ := r2.getE eu2
    refine ⟨⟨vs, ws, v, w, q, q2, ev, ew⟩, fun x H'' y => ?_⟩
    obtain ⟨Tt, z, z2, e1, nT, e2, e3, e4⟩ := y
    have t1 := e3 vs q
    have t2 := e4 ws q2
    rw [ev] at t1
    rw [ew] at t2
    cases t1; cases t2
    subst e1; subst e2
    have g1 : Grow φ' H' φ' (upd H' Tt (.tup [v, w])) := Grow.lay nT
    refine ⟨g1, hs.lay nT, ?_⟩
    rw [RpF, Rp]
    exact ⟨Tt, _, rfl, hs.offNone nT, .inl upd_same, .cons (g1.rp rv) (.cons (g1.rp rw_) .nil)⟩
  stop := fun φ' h' H' gm _ hs gd => by
    obtain ⟨vs, q, r⟩ := S φ' h' H' gm hs gd
    obtain ⟨ws, q2, r2⟩ := S2 φ' h' H' gm hs gd
    have l1 := r.length
    have l2 := r2.length
    refine ⟨vs, ws, q, q2, ?_⟩
    show (zipT xs ys).length ≤ _ ∧ (zipT xs ys).length ≤ _ ∧ ((zipT xs ys).length = _ ∨ (zipT xs ys).length = _)
    rw [zipT_len]
    omega
theorem wk_ezK {xs ys : List T} {k1 k2 : SK} {a b : Addr} (S : Src K cl φ H xs none k1 a) (S2 : Src K cl φ H ys none k2 b) (hl : xs.length ≤ sizeLine) : Wk cl φ H (enumT (zipT xs ys), none) (ItezK k1 k2 K a b) where
  len := by show (enumT (zipT xs ys)).length ≤ _; simp only [enumT, List.length_map, List.length_zipIdx]; rw [zipT_len]; omega
  go := fun φ' h' H' i t gm _ hs gd e => by
    obtain ⟨p, ep, et⟩ := enumT_get e
    obtain ⟨u, u2, eu, eu2, et2⟩ := zipT_get ep
    subst et2
    subst et
    obtain ⟨vs, q, r⟩ := S φ' h' H' gm hs gd
    obtain ⟨ws, q2, r2⟩ := S2 φ' h' H' gm hs gd
    obtain ⟨v, ev, rv⟩ := r.getE eu
    obtain ⟨w, ew, rw_⟩ := r2.getE eu2
    refine ⟨⟨vs, ws, v, w, q, q2, ev, ew⟩, fun x H'' y => ?_⟩
    obtain ⟨Tt, U, z, z2, e1, nT, nU, ne, e2, e3, e4⟩ := y
    have t1 := e3 vs q
    have t2 := e4 ws q2
    rw [ev] at t1
    rw [ew] at t2
    cases t1; cases t2
    subst e1; subst e2
    have g1 : Grow φ' H' φ' (upd H' Tt (.tup [v, w])) := Grow.lay nT
    have hs1 := hs.lay (o := .tup [v, w]) nT
    have nU1 : upd H' Tt (.tup [v, w]) U = none := by rw [upd_ne ne]; exact nU
    have g2 : Grow φ' (upd H' Tt (.tup [v, w])) φ' (upd (upd H' Tt (.tup [v, w])) U (.tup [.int (i : Nat), .ref Tt])) := Grow.lay nU1
    refine ⟨g1.trans g2, hs1.lay nU1, ?_⟩
    have rp : RpF cl φ' (upd H' Tt (.tup [v, w])) (.tup [u, u2]) (.ref Tt) := by
      rw [RpF, Rp]
      exact ⟨Tt, _, rfl, hs.offNone nT, .inl upd_same, .cons (g1.rp rv) (.cons (g1.rp rw_) .nil)⟩
    rw [RpF, Rp]
    have ri : RpF cl φ' (upd (upd H' Tt (.tup [v, w])) U (.tup [.int (i : Nat), .ref Tt])) (.int (i : Nat)) (.int (i : Nat)) := by rw [RpF, Rp]
    exact ⟨U, _, rfl, hs1.offNone nU1, .inl upd_same, .cons ri (.cons (g2.rp rp) .nil)⟩
  stop := fun φ' h' H' gm _ hs gd => by
    obtain ⟨vs, q, r⟩ := S φ' h' H' gm hs gd
    obtain ⟨ws, q2, r2⟩ := S2 φ' h' H' gm hs gd
    have l1 := r.length
    have l2 := r2.length
    refine ⟨vs, ws, q, q2, ?_⟩
    show (enumT (zipT xs ys)).length ≤ _ ∧ (enumT (zipT xs ys)).length ≤ _ ∧ ((enumT (zipT xs ys)).length = _ ∨ (enumT (zipT xs ys)).length = _)
    simp only [enumT, List.length_map, List.length_zipIdx]
    rw [zipT_len]
    omega
/-- what stands still -/
theorem still_src {K : PySem.W.Frag} {s : S} {xs : List T} {x : V} (r : RpS cl φ H s x) (e : stillOf s = some xs) : ∃ a vs k, x = .ref a ∧ SK.q K k H a vs ∧ Src K cl φ H xs none k a ∧ xs.length ≤ sizeLine := by
  cases s with
  | r n => cases e
  | t v =>
    cases v with
    | non | bl _ | int _ | dct _ _ | obj _ _ _ | str _ => cases e
    | lst ys =>
      simp only [stillOf] at e
      split at e
      · rename_i hl
        cases e
        have r' : RpF cl φ H (.lst xs) x := r
        rw [RpF, Rp] at r'
        obtain ⟨a, us, ex, o, rd, q⟩ := r'
        exact ⟨a, us, .l, ex, .inl rd.rd, src_lst o rd q, of_decide_eq_true hl⟩
      · cases e
    | tup ys =>
      simp only [stillOf] at e
      split at e
      · rename_i hl
        cases e
        have r' : RpF cl φ H (.tup xs) x := r
        rw [RpF, Rp] at r'
        obtain ⟨a, us, ex, o, rd, q⟩ := r'
        exact ⟨a, us, .t, ex, .inl rd.rd, src_tup o rd q, of_decide_eq_true hl⟩
      · cases e
end
section
variable {X : Cx} {Z : Zs} {W : WX} {e a b : Expr} {m ma mb : E} {p p2 pos pos2 tpos : Pos} {elts : List Expr} {kk : Nat}
theorem si_enum (hg : Gl X "enumerate") (hm : X.mg "enumerate" = none) (ha : PA X [e] (tL Z W [m])) (hs : starEach [e] X.env = [(false, eval e X.env)]) : PI X (.Tuple elts kk tpos) (.Call (.Name "enumerate" p) [e] [] pos) (tI Z W (.enum m)) :=
  pi_weak (pi_enumK hg hm ha hs) fun σ H R t => by
    refine t.seq (rel' := RpSs Z.cl) (f := fun ss ρ h1 => match ss with | [s] => liftO (enumOf s h1) h1 | _ => .bad) (fun ρ h => ?_) fun ss h1 φ1 H1 vs ρ re hz r w => ?_
    · simp only [evIt, evS]
      cases evE Z.G Z.C ρ h m <;> rfl
    · match ss, vs, r, w with
      | [], _, _, w => exact w.elim
      | _ :: _ :: _, _, _, w => exact w.elim
      | [s], _, ⟨x, _, rfl, r1, rfl⟩, w =>
        have still : ∀ xs, stillOf s = some xs → enumOf s h1 = some (enumT xs, none) → ∃ a vs k, ([x] : List V) = [.ref a] ∧ SK.q X.K k H1 a vs ∧ R (IteK k X.K a) H1 := fun xs e1 e2 => by
          obtain ⟨a, vs, k, ex, q, S, hl⟩ := still_src (K := X.K) r1 e1
          have w' : MW Z.cl Z.xr (Wk Z.cl) W σ φ1 H1 (liftO (enumOf s h1) h1) R := w
          rw [e2] at w'
          exact ⟨a, vs, k, by rw [ex], q, w' φ1 H1 _ (Grow.refl _ _) hz (wk_enumK S hl)⟩
        cases s with
        | t v =>
          cases v with
          | non | bl _ | int _ | dct _ _ | obj _ _ _ | str _ => exact w.elim
          | lst xs =>
            by_cases hl : lim xs.length = true
            · exact still xs (by simp [stillOf, hl]) (by simp [enumOf, hl])
            · have w' : MW Z.cl Z.xr (Wk Z.cl) W σ φ1 H1 (liftO (enumOf (.t (.lst xs)) h1) h1) R := w
              simp only [enumOf, if_neg hl] at w'
              exact w'.elim
          | tup xs =>
            by_cases hl : lim xs.length = true
            · exact still xs (by simp [stillOf, hl]) (by simp [enumOf, hl])
            · have w' : MW Z.cl Z.xr (Wk Z.cl) W σ φ1 H1 (liftO (enumOf (.t (.tup xs)) h1) h1) R := w
              simp only [enumOf, if_neg hl] at w'
              exact w'.elim
        | r n =>
          have w' : MW Z.cl Z.xr (Wk Z.cl) W σ φ1 H1 (liftO (enumOf (.r n) h1) h1) R := w
          simp only [enumOf] at w'
          cases eh : h1[n]? with
          | none => rw [eh] at w'; exact w'.elim
          | some o =>
            rw [eh] at w'
            cases o <;> first | exact w'.elim | skip
            rename_i xs
            dsimp only at w'
            split at w'
            · rename_i hl
              obtain ⟨a, ex, ea, us, hw, q⟩ := at_ref hz r1 eh (by intro z; cases z)
              exact ⟨a, us, .l, by rw [ex], .inl (.inl hw), w' φ1 H1 _ (Grow.refl _ _) hz (wk_enumK (src_ref ea) (of_decide_eq_true hl))⟩
            · exact w'.elim
theorem ev_zip2 {it : It} {f : List T → List T → List T} {σ : L2.St} {H : Hp} {R : L2.It → Hp → Prop} {J : SK → SK → Addr → Addr → L2.It}
    (hev : ∀ ρ h, evIt Z.G Z.C ρ h it = (evE Z.G Z.C ρ h ma).bind fun s h1 => (evE Z.G Z.C ρ h1 mb).bind fun u h2 => (liftO (stillOf s) h2).bind fun xs h2 => (liftO (stillOf u) h2).bind fun ys h2 => .ok (f xs ys, none) h2)
    (wk : ∀ {φ : Phi} {H : Hp} {xs ys : List T} {k1 k2 : SK} {a b : Addr}, Src X.K Z.cl φ H xs none k1 a → Src X.K Z.cl φ H ys none k2 b → xs.length ≤ sizeLine → Wk Z.cl φ H (f xs ys, none) (J k1 k2 a b))
    (t : tI Z W it σ H R) : iZipK X.K J (tL Z W [ma, mb]) σ H R := by
  refine t.seq (rel' := RpSs Z.cl) (f := fun ss ρ h2 => match ss with | [s, u] => (liftO (stillOf s) h2).bind fun xs h2 => (liftO (stillOf u) h2).bind fun ys h2 => .ok (f xs ys, none) h2 | _ => .bad) (fun ρ h => ?_) fun ss h1 φ1 H1 vs ρ re hz r w => ?_
  · simp only [hev, evS]
    cases evE Z.G Z.C ρ h ma with
    | bad => rfl
    | ex _ _ _ => rfl
    | ok s h1 =>
      simp only [My.R.bind_ok]
      cases evE Z.G Z.C ρ h1 mb <;> rfl
  · match ss, vs, r, w with
    | [], _, _, w => exact w.elim
    | [_], _, _, w => exact w.elim
    | _ :: _ :: _ :: _, _, _, w => exact w.elim
    | [s, u], _, ⟨x, _, rfl, r1, ⟨y, _, rfl, r2, rfl⟩⟩, w =>
      obtain ⟨xs, e1, w⟩ := w.lift
      obtain ⟨ys, e2, w⟩ := w.lift
      obtain ⟨a, vs, k1, ex, q1, S1, hl⟩ := still_src (K := X.K) r1 e1
      obtain ⟨b, ws, k2, ey, q2, S2, _⟩ := still_src (K := X.K) r2 e2
      exact ⟨a, b, vs, ws, k1, k2, by rw [ex, ey], q1, q2, w φ1 H1 _ (Grow.refl _ _) hz (wk S1 S2 hl)⟩
theorem si_zip (hg : Gl X "zip") (hm : X.mg "zip" = none) (ha : PA X [a, b] (tL Z W [ma, mb])) (hs : starEach [a, b] X.env = (false, eval a X.env) :: starEach [b] X.env) (hpl : (backTo pos (starEach [b] X.env)).any (·.1) = false) :
    PI X (.Tuple elts kk tpos) (.Call (.Name "zip" p) [a, b] [] pos) (tI Z W (.zip ma mb)) :=
  pi_weak (pi_zipK hg hm ha hs hpl) fun σ H R t => ev_zip2 (f := zipT) (fun ρ h => by simp only [evIt]) (fun S1 S2 hl => wk_zipK S1 S2 hl) t
theorem si_ez (hge : Gl X "enumerate") (hme : X.mg "enumerate" = none) (hg : Gl X "zip") (hm : X.mg "zip" = none) (ha : PA X [a, b] (tL Z W [ma, mb])) (hs : starEach [a, b] X.env = (false, eval a X.env) :: starEach [b] X.env) (hpl : (backTo pos2 (starEach [b] X.env)).any (·.1) = false)
    (hse : starEach [.Call (.Name "zip" p2) [a, b] [] pos2] X.env = (false, eval (.Call (.Name "zip" p2) [a, b] [] pos2) X.env) :: starEach [] X.env) :
    PI X (.Tuple elts kk tpos) (.Call (.Name "enumerate" p) [.Call (.Name "zip" p2) [a, b] [] pos2] [] pos) (tI Z W (.enumzip ma mb)) :=
  pi_weak (pi_ezK hge hme hg hm ha hs hpl hse) fun σ H R t => ev_zip2 (f := fun xs ys => enumT (zipT xs ys)) (fun ρ h => by simp only [evIt]) (fun S1 S2 hl => wk_ezK S1 S2 hl) t
end
end My

/-! MiniPy: from a def's promise to the row. -/
namespace My
open PySem PySem.Spec L2 PyProof.Rows
open PySem.W (WData Codec OpenSpec WellAll ReadsW)
section
variable {l : Program} {w : World} {K : PySem.W.Frag} {mg mb : Str → Option Value}
/-- the claimed call, from the promise of the def -/
theorem the_call {gd : Bool} {k : Nat} {fa : Addr} {fd : FuncData} {ps : List Str} {sp : Sp} {s1 : Shared} {us : List Value} {ds : List WData} {R : PySem.W.WRecords} {cl : Str → Option Addr} {d0 : WData} (kin : K.In s1.heap) (ng : s1.heap.Ns mainGlobals mg) (nb : s1.heap.Ns builtinsNs mb)
    (boot : ∀ x : Str, x ≠ "__name__" → mb x = bootBuiltins x) (nolim : s1.heap.NoLimit) (gens : s1.gens = #[]) (well : WellAll w.params s1.heap us ds) (plain : plWs ds = true) (small : ∀ d ∈ ds, d.weight ≤ 1048576) (room : Room k callerA)
    (F : ∀ base : Heap, K.In base → base.Ns mainGlobals mg → FnG ⟨l, w, K, mg, base⟩ gd k fa fd ps sp) (binds : ∀ (s : Shared) (us : List Value), us.length = ps.length → BindsTo s fd ⟨us, []⟩ (ps.zip us)) (n : ds.length = ps.length)
    (pure : ∀ (H : Hp) (zs : List V), OnlyF H → DwAll K H zs ds → sp zs H (fun v H' => Dw K H' v d0) fun _ _ _ => False) :
    codeAny (model l w) callerA (.call (.ref fa) ⟨us, []⟩) (fun r s' => ∃ u as, r = .ok (.ret u) ∧ ReadsW R cl s'.heap u d0 as ∧ OldK s1.heap s'.heap ∧ s'.os = s1.os ∧ AllBare s'.gens) s1 := by
  obtain ⟨A, okA, area⟩ := area_all ds us well plain small
  have only : OnlyF (argH K s1.heap A) := argH_only area
  have hok : HOk l w (argH K s1.heap A) s1.heap := argH_ok area
  have dw := dw_all kin area ds us well plain okA
  have vals := vals_toV okA
  have outK : ∀ b u, argH K s1.heap A b = some u → K.lookup b = none := fun b u q => (argH_is area q).1
  have noDict : ∀ {b : Addr} {o : Obj} {es : Array DictEntry} {ep : Nat}, s1.heap.get? b = some o → o.data = .dict es ep → argH K s1.heap A b = none := by
    intro b o es ep e d
    cases q : argH K s1.heap A b with
    | none => rfl
    | some u =>
      obtain ⟨_, vs, _, _, z⟩ := argH_is area q
      rcases z with ⟨z, _⟩ | ⟨z, _⟩ <;> (rw [z] at e; cases e; cases (show Data.seq vs.toArray _ = Data.dict es ep from d))
  generalize argH K s1.heap A = H at only hok dw outK noDict
  have inH : ∀ {b : Addr} {o : Obj}, s1.heap.get? b = some o → H b = none → (hidT s1.heap H).get? b = some o := fun e z => hidT_get e z
  have nsH : ∀ {b : Addr} {m : Str → Option Value}, s1.heap.Ns b m → (hidT s1.heap H).Ns b m := fun {b m} q => by
    obtain ⟨o, es, ep, e, d, r⟩ := q
    exact ⟨o, es, ep, inH e (noDict e d), d, r⟩
  have freeK : ∀ b o, K.lookup b = some o → H b = none := fun b o e => by
    cases q : H b with
    | none => rfl
    | some u => have z := outK b u q; rw [z] at e; cases e
  have kinH : K.In (hidT s1.heap H) := fun b o e => inH (kin b o e) (freeK b o e)
  have md : Mod K mg (hidT s1.heap H) := by
    obtain ⟨mc, h1, h2⟩ := nolim
    exact ⟨kinH, nsH ng, ⟨mb, nsH nb, boot⟩, ⟨mc, nsH h1, h2⟩⟩
  have e0 : Env0 l w K mg (hidT s1.heap H) callerA [] s1 H := by
    refine ⟨rfl, md, fun b o e => of_hidT e, Nat.le_of_eq (hidT_size _ _), trivial, fun b z => ?_, hok, .of_eq gens⟩
    exact absurd (show b ∈ ([] : List Addr) from z) (by simp)
  have nu : us.length = ps.length := (wellAll_len well).trans n
  refine codeAny_mono ((F _ kinH (nsH ng)).run callerA [] s1 H ⟨us, []⟩ us (us.map toV) _ _ room (fun _ => rfl) e0 (binds s1 us nu) vals (pure H _ only dw)) fun r s' x => ?_
  match r, x with
  | .error e, ⟨_, _, _, _, _, _, _, _, _, _, _, _, z⟩ => exact z.elim
  | .ok .next, x => exact x.elim
  | .ok .brk, x => exact x.elim
  | .ok .cont, x => exact x.elim
  | .ok (.ret u), ⟨v, H', os, bare, un, hok', rv, q⟩ =>
    have kept : ∀ b o, s1.heap.get? b = some o → s'.heap.get? b = some o := fun b o e => by
      cases qb : H b with
      | none => exact un.keep b o e qb (by intro z; exact absurd (show b ∈ ([] : List Addr) from z) (by simp)) (by simp)
      | some u2 =>
        rcases only b with z | ⟨ob, u3, z⟩
        · rw [qb] at z; cases z
        · obtain ⟨e1, _⟩ := hok b _ z
          obtain ⟨e2, _⟩ := hok' b _ (un.frzs b ob _ z)
          rw [e] at e1
          cases e1
          exact e2
    obtain ⟨as, rd⟩ := Dw.reads (R := R) (cl := cl) hok' (fun b o e => kept b o (kin b o e)) d0 v u q rv
    exact ⟨u, as, rfl, rd, OldK.of_keep kept, os, bare⟩
end
/-- the goal that the head leaves, from the promise of the row's def -/
theorem the_walk {r : OpenSpec} {gd : Bool} {k : Nat} {q : Program} {loose : List Str} {XP : (Str → Option Value) → Heap → Prop} {YP : World → Heap → Prop} {d : DefRec} {K : Params → PySem.W.Frag} {ps : List Str} {sp : World → Sp}
    (said : r.wellSaid = true) (nodef : d.params.defaults = []) (n : r.args.length = ps.length) (room : Room k callerA) (hY : ∀ (w : World) (h : Heap), YP w h → (K w.params).In h)
    (F : ∀ (w : World) (mg : Str → Option Value) (fa : Addr) (h : Heap), YP w h → (K w.params).In h → h.Ns mainGlobals mg → mg d.name = some (.ref fa) →
      ∃ fd : FuncData, (∀ (s : Shared) (us : List Value), us.length = ps.length → BindsTo s fd ⟨us, []⟩ (ps.zip us)) ∧ ∀ base : Heap, (K w.params).In base → base.Ns mainGlobals mg → FnG ⟨r.prog, w, K w.params, mg, base⟩ gd k fa fd ps (sp w))
    (pure : ∀ (w : World) (H : Hp) (zs : List V) (a : Codec.denoteAll r.args), OnlyF H → Codec.withinAll r.args a = true → Codec.app r.args r.asked a = true → DwAll (K w.params) H zs (Codec.encAll r.args a) →
      sp w zs H (fun v H' => Dw (K w.params) H' v (r.ret.enc (Codec.app r.args r.f a))) fun _ _ _ => False) :
    PySem.W.WalkOS q loose XP YP r d [] (fun f vs => PySem.call f vs) := by
  intro w s0 s1 mg mb G Y fa o pm cd doc dV kV ho hd hcd hD hmg hg args vals as hpre hlay hrd hwl hlo
  obtain ⟨a, e1, e2⟩ := PySem.W.os_pre_some hpre
  obtain ⟨rfl, within⟩ := Codec.encAll_of_decAll r.args args a e1
  have kin := hY w _ Y
  obtain ⟨fd, hb, hF⟩ := F w mg fa _ Y kin G.T.g hmg
  refine PySem.W.enter_call (codeAny_mono (the_call (R := []) (cl := classAt s0.heap) (d0 := r.ret.enc (Codec.app r.args r.f a)) kin G.T.g G.T.b G.T.builtins G.T.nolimit hg hwl (pl_encAll _ _) (layable_weight hlay) room hF hb
    (by rw [encAll_len]; exact n) fun H zs hO hS => pure w H zs a hO within e2 hS) fun res s' z => ?_)
  obtain ⟨u, as', rfl, h1, h2, h3, h4⟩ := z
  exact ⟨.inl ⟨u, _, as', rfl, fun _ => rfl, h1, (OpenSpec.post_iff said within _ _).mpr rfl, fun z => Bool.noConfusion (show false = true from z)⟩, h2, h3, h4⟩
/-! ### a law: its one argument is a list of whole numbers -/
def noLst (K : PySem.W.Frag) : Bool := K.all fun p => match p.2.cls with
  | .type n => n != "list"
  | _ => true
theorem noLst_at : ∀ {K : PySem.W.Frag} {a : Addr} {o : Obj}, noLst K = true → K.lookup a = some o → o.cls ≠ .type "list"
  | [], a, o, _, e => by cases e
  | (b, u) :: K, a, o, h, e => by
    unfold noLst at h
    rw [List.all_cons, Bool.and_eq_true] at h
    unfold List.lookup at e
    split at e
    · cases e
      intro z
      have h1 := h.1
      rw [z] at h1
      exact absurd h1 (by decide)
    · exact noLst_at (K := K) h.2 e
section
variable {l : Program} {w : World} {K : PySem.W.Frag} {mg mb : Str → Option Value}
theorem the_script {gd : Bool} {k : Nat} {fa a : Addr} {fd : FuncData} {x : Str} {sp : Sp} {s1 : Shared} {us : List Value} {ns : List Int} (kin : K.In s1.heap) (ng : s1.heap.Ns mainGlobals mg) (nb : s1.heap.Ns builtinsNs mb)
    (boot : ∀ x : Str, x ≠ "__name__" → mb x = bootBuiltins x) (nolim : s1.heap.NoLimit) (gens : s1.gens = #[]) (ha : s1.heap.get? a = some { cls := .type "list", data := .seq us.toArray }) (itg : IntsAre us ns) (short : ns.length ≤ sizeLine) (room : Room k callerA) (nl : noLst K = true)
    (F : ∀ base : Heap, K.In base → base.Ns mainGlobals mg → FnG ⟨l, w, K, mg, base⟩ gd k fa fd [x] sp) (binds : ∀ (s : Shared) (u : Value), BindsTo s fd ⟨[u], []⟩ [(x, u)])
    (pure : ∀ H : Hp, (∃ o, H a = some (.frz o (.lst (ns.map V.int)))) → sp [.ref a] H (fun v _ => v = .bl true) fun _ _ _ => False) :
    codeAny (model l w) callerA (.call (.ref fa) ⟨[.ref a], []⟩) (fun r s' => r = .ok (.ret (.bool true)) ∧ OldK s1.heap s'.heap ∧ s'.os = s1.os ∧ AllBare s'.gens) s1 := by
  have hk : K.lookup a = none := by
    cases e : K.lookup a with
    | none => rfl
    | some o =>
      have z := kin a o e
      rw [ha] at z
      cases z
      exact absurd rfl (noLst_at nl e)
  have rv := vals_ints itg
  obtain ⟨H, hH⟩ : ∃ H : Hp, H = fun b => if b = a then some (.frz { cls := .type "list", data := .seq us.toArray } (.lst (ns.map V.int))) else none := ⟨_, rfl⟩
  have atA : H a = some (.frz { cls := .type "list", data := .seq us.toArray } (.lst (ns.map V.int))) := by rw [hH]; exact if_pos rfl
  have off : ∀ b, b ≠ a → H b = none := fun b hb => by rw [hH]; exact if_neg hb
  have hok : HOk l w H s1.heap := fun b u z => by
    by_cases hb : b = a
    · subst hb
      rw [atA] at z
      cases z
      exact ⟨ha, by rw [List.length_map]; exact short, us, _, rv, ha⟩
    · rw [off b hb] at z; cases z
  have inH : ∀ {b : Addr} {o : Obj}, s1.heap.get? b = some o → H b = none → (hidT s1.heap H).get? b = some o := fun e z => hidT_get e z
  have nsH : ∀ {b : Addr} {m : Str → Option Value}, s1.heap.Ns b m → (hidT s1.heap H).Ns b m := fun {b m} q => by
    obtain ⟨o, es, ep, e, d, r⟩ := q
    refine ⟨o, es, ep, inH e (off b fun z => ?_), d, r⟩
    subst z
    rw [ha] at e
    cases e
    cases (show Data.seq us.toArray _ = Data.dict es ep from d)
  have kinH : K.In (hidT s1.heap H) := fun b o e => inH (kin b o e) (off b fun z => by rw [z, hk] at e; cases e)
  have md : Mod K mg (hidT s1.heap H) := by
    obtain ⟨mc, h1, h2⟩ := nolim
    exact ⟨kinH, nsH ng, ⟨mb, nsH nb, boot⟩, ⟨mc, nsH h1, h2⟩⟩
  have e0 : Env0 l w K mg (hidT s1.heap H) callerA [] s1 H := by
    refine ⟨rfl, md, fun b o e => of_hidT e, Nat.le_of_eq (hidT_size _ _), trivial, fun b z => ?_, hok, .of_eq gens⟩
    exact absurd (show b ∈ ([] : List Addr) from z) (by simp)
  refine codeAny_mono ((F _ kinH (nsH ng)).run callerA [] s1 H ⟨[.ref a], []⟩ [.ref a] [.ref a] _ _ room (fun _ => rfl) e0 (binds s1 (.ref a)) (.cons rfl .nil) (pure H ⟨_, atA⟩)) fun r s' z => ?_
  match r, z with
  | .error e, ⟨_, _, _, _, _, _, _, _, _, _, _, _, z⟩ => exact z.elim
  | .ok .next, z => exact z.elim
  | .ok .brk, z => exact z.elim
  | .ok .cont, z => exact z.elim
  | .ok (.ret u), ⟨v, H', os, bare, un, hok', r1, q⟩ =>
    cases (show v = .bl true from q)
    cases (show u = Value.bool true from r1)
    refine ⟨rfl, OldK.of_keep fun b o e => ?_, os, bare⟩
    by_cases hb : b = a
    · subst hb
      have z2 := un.frzs b _ _ atA
      obtain ⟨e2, _⟩ := hok' b _ z2
      rw [ha] at e
      cases e
      exact e2
    · exact un.keep b o e (off b hb) (by intro z; exact absurd (show b ∈ ([] : List Addr) from z) (by simp)) (by simp)
end
/-- the goal that the head leaves of a law -/
theorem the_law {l : PySem.W.OpenLaw} {gd : Bool} {n k : Nat} {q : Program} {loose : List Str} {XP : (Str → Option Value) → Heap → Prop} {YP : World → Heap → Prop} {d : DefRec} {K : Params → PySem.W.Frag} {sp : World → Sp} {x : Str} (hn : l.most = some n) (hn2 : n ≤ sizeLine) (nodef : d.params.defaults = []) (room : Room k callerA)
    (hY : ∀ (w : World) (h : Heap), YP w h → (K w.params).In h) (nl : ∀ w : World, noLst (K w.params) = true)
    (F : ∀ (w : World) (mg : Str → Option Value) (fa : Addr) (h : Heap), (K w.params).In h → h.Ns mainGlobals mg → mg d.name = some (.ref fa) →
      ∃ fd : FuncData, (∀ (s : Shared) (u : Value), BindsTo s fd ⟨[u], []⟩ [(x, u)]) ∧ ∀ base : Heap, (K w.params).In base → base.Ns mainGlobals mg → FnG ⟨l.prog, w, K w.params, mg, base⟩ gd k fa fd [x] (sp w))
    (pure : ∀ (w : World) (H : Hp) (a : Addr) (ns : List Int), ns.length ≤ n → (∃ o, H a = some (.frz o (.lst (ns.map V.int)))) → sp w [.ref a] H (fun v _ => v = .bl true) fun _ _ _ => False) :
    PySem.W.WalkO q loose XP YP l.row.toRowW d [] (fun f vs => PySem.call f vs) := by
  refine Att.attach_call hn nodef fun w s0 s1 mg mb fa o pm cd doc a us ns G Y ho hd hcd hmg hobj hints hlen hg => ?_
  have kin := hY w _ Y
  obtain ⟨fd, hb, hF⟩ := F w mg fa _ kin G.T.g hmg
  exact the_script kin G.T.g G.T.b G.T.builtins G.T.nolimit hg hobj hints (Nat.le_trans hlen hn2) room (nl w) hF hb fun H z => pure w H a ns hlen z
/-- what the mini program must say of the law -/
theorem law_sp {cl : Cl} {xr : XRel} {G : Ctx} {d i : Nat} {H : Hp} {a : Addr} {ns : List Int} (h : ∃ o, H a = some (.frz o (.lst (ns.map V.int)))) (run : ∃ h', callF G d i [.t (.lst (ns.map T.int))] [] = .ok (.t (.bl true)) h') :
    spF cl xr 1 (callF G d i) [.ref a] H (fun v _ => v = .bl true) fun _ _ _ => False := by
  obtain ⟨o, ho⟩ := h
  obtain ⟨h', e⟩ := run
  have ri : ∀ ns : List Int, Rps cl (Off ⟨[], []⟩) H (ns.map T.int) (ns.map V.int) := fun ns => by
    induction ns with
    | nil => exact .nil
    | cons n ns ih => exact .cons (by rw [Rp]) ih
  refine ⟨⟨[], []⟩, [], [.t (.lst (ns.map T.int))], ⟨_, _, rfl, ?_, rfl⟩, ⟨rfl, fun n o z => by simp at z, fun n m a z => by simp at z, fun a z => by simp at z⟩, rfl, ?_⟩
  · show RpF cl ⟨[], []⟩ H _ _
    rw [RpF, Rp]
    exact ⟨a, _, rfl, ⟨by simp, by simp⟩, .inr ⟨rfl, o, ho⟩, ri ns⟩
  · rw [e]
    intro φ' H' v g hs r
    have q : RpF cl φ' H' (.bl true) v := r
    rw [RpF, Rp] at q
    exact q
end My

/-! MiniPy: the rules in short, their side conditions looked at by themselves. -/
namespace My
open PySem L2 PyProof.Rows
theorem u1 {k : Nat} {A : Around} (r : Room k A) : A.units + 1 < cLine := by have := r.un; omega
theorem u64 {k : Nat} {A : Around} (r : Room k A) : A.units + 64 < cLine := by have := r.un; omega
theorem u65 {k : Nat} {A : Around} (r : Room k A) : A.units + 65 < cLine := by have := r.un; omega
theorem u70 {k : Nat} {A : Around} (r : Room k A) : A.units + 70 < cLine := by have := r.un; omega
namespace Q
section
variable {X : Cx} {Z : Zs} {W : WX} {a b c : Expr} {ma mb mc : E} {p pos : Pos} {x : Str} {es : List Expr} {ms : List E}
theorem v (i : Nat) {x : Str} {pos : Pos} (hN : X.N[i]? = some x := by rfl) (hv : Vis X.env.scope x := by first | exact Or.inl rfl | exact Or.inr (Or.inl rfl) | exact Or.inr (Or.inr rfl)) (hd : (x == ("__debug__" : Str)) = false := by decide)
    (hc : (x == ("__classdict__" : Str)) = false := by decide) : PE X (.Name x pos) (tE Z W (.var i)) := s_var hN hv hd hc
theorem cons (ha : PE X a (tE Z W ma)) (hr : PA X es (tL Z W ms)) (he : starEach (a :: es) X.env = (false, eval a X.env) :: starEach es X.env := by rfl) : PA X (a :: es) (tL Z W (ma :: ms)) := sl_cons ha hr he
theorem consT (ha : PE X a (tE Z W ma)) (hr : PA X es (tLT Z W ms)) (he : starEach (a :: es) X.env = (false, eval a X.env) :: starEach es X.env := by rfl) : PA X (a :: es) (tLT Z W (ma :: ms)) := slT_cons ha hr he
theorem op {o : Bo} {po : Operator} (ho : OpR X (binaryOp po) (Two X Z.cl o)) (ha : PE X a (tE Z W ma)) (hb : PE X b (tE Z W mb)) : PE X (.BinOp a po b pos) (tE Z W (.bin o ma mb)) := s_bin ho ha hb
theorem cmp {o : Bo} {po : CmpOp} (ho : OpR X (compareOp po) (Two X Z.cl o)) (ha : PE X a (tE Z W ma)) (hb : PE X b (tE Z W mb)) (hm : behindInMarks po b = false := by rfl) : PE X (.Compare a [po] [b] pos) (tE Z W (.bin o ma mb)) := s_cmp ho ha hb hm
theorem tcmp {o : Bo} {po : CmpOp} (ho : OpR X (compareOp po) (Two X Z.cl o)) (ha : PE X a (tE Z W ma)) (hb : PE X b (tE Z W mb)) (hm : behindInMarks po b = false := by rfl) : PT X (.Compare a [po] [b] pos) (tB' Z W (.bin o ma mb)) := st_cmp ho ha hb hm
theorem ch {o q : Bo} {po pp : CmpOp} (ho : OpR X (compareOp po) (Two X Z.cl o)) (hp : OpR X (compareOp pp) (Two X Z.cl q)) (ha : PE X a (tE Z W ma)) (hb : PE X b (tE Z W mb)) (hc : PE X c (tE Z W mc)) (hm : lastMarks [po, pp] [b, c] = false := by rfl) :
    PE X (.Compare a [po, pp] [b, c] pos) (tE Z W (.ch o q ma mb mc)) := s_ch ho hp ha hb hc hm
theorem tch {o q : Bo} {po pp : CmpOp} (ho : OpR X (compareOp po) (Two X Z.cl o)) (hp : OpR X (compareOp pp) (Two X Z.cl q)) (ha : PE X a (tE Z W ma)) (hb : PE X b (tE Z W mb)) (hc : PE X c (tE Z W mc)) (hm : lastMarks [po, pp] [b, c] = false := by rfl) :
    PT X (.Compare a [po, pp] [b, c] pos) (tB' Z W (.ch o q ma mb mc)) := st_ch ho hp ha hb hc hm
theorem tv (h : PE X a (tE Z W ma)) (he : ∀ whole, isTrue a X.env whole = (do let v ← whole; standAt a.pos; holding [v] (truthy v)) := by intro _; rfl) : PT X a (tB' Z W ma) := st_val h he
theorem neg (ha : PE X a (tE Z W ma)) : PE X (.UnaryOp .USub a pos) (tE Z W (.un .neg ma)) := s_un one_neg ha
theorem tpw {e : Expr} {t : TT} (h : PW X e t) : PT X e t := h.pt
theorem tand2 (ha : PT X a (tB' Z W ma)) (hb : PT X b (tB' Z W mb)) : PT X (.BoolOp .And [a, b] pos) (tB' Z W (.and ma mb)) := (sw_and2 ha hb).pt
theorem tor2 (ha : PT X a (tB' Z W ma)) (hb : PT X b (tB' Z W mb)) : PT X (.BoolOp .Or [a, b] pos) (tB' Z W (.or ma mb)) := (sw_or2 ha hb).pt
theorem idx {k : Nat} (hr : Room k X.A) (ha : PE X a (tE Z W ma)) (hb : PE X b (tE Z W mb)) (hs : PlainIx b := by intro _ _; rfl) : PE X (.Subscript a b pos) (tE Z W (.bin .idx ma mb)) :=
  pe_weak (pe_ix (two_idx (u65 hr)) ha hb hs) fun _ _ _ t => ev2 t
theorem tup {k : Nat} (h : PA X es (tLT Z W ms)) (hl : ms.length ≤ 1000 := by decide) : PE X (.Tuple es k pos) (tE Z W (.tup ms)) := s_tup hl h
theorem lst (h : PA X es (tLT Z W ms)) (hl : ms.length ≤ 1000 := by decide) : PE X (.List es pos) (tE Z W (.lst ms)) := s_lst hl h
theorem newl (h : PA X es (tLT Z W ms)) (hl : ms.length ≤ 1000 := by decide) : PE X (.List es pos) (tE Z W (.newl ms)) := s_newl hl h
theorem bf {u : U} {id : String} (hc : CallR X (.builtin id) (rOne X Z.cl Z.G.sub u)) (hm : X.mg x = none) (ha : PA X [a] (tL Z W [ma])) (hg : Gl X x := by rfl) (hv : bootBuiltins x = some (.builtin id) := by rfl) (hn : x ≠ "__name__" := by decide) (hd : (x == ("__debug__" : Str)) = false := by decide)
    (he : starEach [a] X.env = (false, eval a X.env) :: starEach [] X.env := by rfl) (hp : (backTo pos (starEach [] X.env)).any (·.1) = false := by rfl) : PE X (.Call (.Name x p) [a] [] pos) (tE Z W (.un u ma)) := s_bf hc hg hm hv ha hn hd he hp
theorem bt {u : U} {id : String} (hc : CallR X (.type id) (rOne X Z.cl Z.G.sub u)) (hm : X.mg x = none) (ha : PA X [a] (tL Z W [ma])) (hg : Gl X x := by rfl) (hv : bootBuiltins x = some (.type id) := by rfl) (hn : x ≠ "__name__" := by decide) (hd : (x == ("__debug__" : Str)) = false := by decide)
    (he : starEach [a] X.env = (false, eval a X.env) :: starEach [] X.env := by rfl) (hp : (backTo pos (starEach [] X.env)).any (·.1) = false := by rfl) : PE X (.Call (.Name x p) [a] [] pos) (tE Z W (.un u ma)) := s_bt hc hg hm hv ha hn hd he hp
theorem bf2 {o : Bo} {id : String} (hc : CallR X (.builtin id) (rTwo X Z.cl o)) (hm : X.mg x = none) (ha : PA X [a, b] (tL Z W [ma, mb])) (hg : Gl X x := by rfl) (hv : bootBuiltins x = some (.builtin id) := by rfl) (hn : x ≠ "__name__" := by decide) (hd : (x == ("__debug__" : Str)) = false := by decide)
    (he : starEach [a, b] X.env = (false, eval a X.env) :: starEach [b] X.env := by rfl) (hp : (backTo pos (starEach [b] X.env)).any (·.1) = false := by rfl) : PE X (.Call (.Name x p) [a, b] [] pos) (tE Z W (.bin o ma mb)) := s_bf2 hc hg hm hv ha hn hd he hp
theorem isi (ty : Ty) {n : String} {y : Str} {py : Pos} (co : ClsOk X.K Z.cl Z.G.sub) (hm : X.mg "isinstance" = none) (hmy : X.mg y = none) (ha : PE X a (tE Z W ma)) (hg : Gl X "isinstance" := by rfl) (hgy : Gl X y := by rfl) (hvy : bootBuiltins y = some (.type n) := by rfl) (ev : ty.val Z.cl = some (.type n) := by rfl) (hny : y ≠ "__name__" := by decide)
    (hdy : (y == ("__debug__" : Str)) = false := by decide) (he : starEach [a, .Name y py] X.env = (false, eval a X.env) :: starEach [.Name y py] X.env := by rfl) (he2 : starEach [.Name y py] X.env = (false, eval (.Name y py) X.env) :: starEach [] X.env := by rfl) (hp : (backTo pos (starEach [.Name y py] X.env)).any (·.1) = false := by rfl) :
    PE X (.Call (.Name "isinstance" p) [a, .Name y py] [] pos) (tE Z W (.un (.isi [ty]) ma)) := s_isi co hg hm hgy hmy hvy ev ha hny hdy he he2 hp
theorem app {apos cpos : Pos} (ha : PE X a (tE Z W ma)) (hb : PE X b (tE Z W mb)) (hbase : attributeBase a "append" X.env (eval a X.env) = eval a X.env := by rfl)
    (hfew : ((backTo cpos (starEach [b] X.env)).all (fun x => !x.1) && (backToKw cpos (keywordEach [] X.env)).all (fun x => x.1.isSome) && decide ([b].length + ([] : List Keyword).length + (if ([] : List Keyword).isEmpty then 0 else 1) < 30)) = true := by rfl)
    (hline : (apos.endLine == cpos.line) = true := by rfl) (hs : starEach [b] X.env = (false, eval b X.env) :: starEach [] X.env := by rfl) (hp : (backTo cpos (starEach [] X.env)).any (·.1) = false := by rfl) :
    PE X (.Call (.Attribute a "append" apos) [b] [] cpos) (tE Z W (.app ma mb)) := s_app ha (sl_cons hb sl_nil hs) hbase hfew hline hs hp
theorem call {gd : Bool} {i k j : Nat} {e : Expr} (c : CalG X.pk Z gd j x i ms.length) (hr : Room k X.A) (gu : gd = true → X.A.guards = some []) (tk : Takes X W) (ha : PA X (e :: es) (tL Z W ms)) (hj : j ≤ k := by omega) (hg : Gl X x := by rfl) (hd : (x == ("__debug__" : Str)) = false := by decide)
    (he : starEach (e :: es) X.env = (false, eval e X.env) :: starEach es X.env := by rfl) (hp : (backTo pos (starEach es X.env)).any (·.1) = false := by rfl) : PE X (.Call (.Name x p) (e :: es) [] pos) (tE Z W (.call i ms)) := s_call c (hr.mono hj) gu tk hg ha hd he hp
theorem call0 {gd : Bool} {i k j : Nat} (c : CalG X.pk Z gd j x i 0) (hr : Room k X.A) (gu : gd = true → X.A.guards = some []) (tk : Takes X W) (hj : j ≤ k := by omega) (hg : Gl X x := by rfl) (hd : (x == ("__debug__" : Str)) = false := by decide) :
    PE X (.Call (.Name x p) [] [] pos) (tE Z W (.call i [])) := s_call0 c (hr.mono hj) gu tk hg hd
theorem nm (i : Nat) {px : Pos} (hN : X.N.Nodup) (hi : X.N[i]? = some x := by rfl) (hx : Loc X.env.scope x := by first | exact Or.inl rfl | exact Or.inr rfl) (hf : X.fn x = true ∨ X.env.scope.names.lookup x = some .local := by first | exact Or.inl rfl | exact Or.inr rfl) :
    PG X (.Name x px) (tTg Z W (.name i)) := sg_name hN hi hx hf
theorem nms (i : Nat) {is : List Nat} {px : Pos} (hN : X.N.Nodup) (h : PGs X es (tTgs Z is)) (hi : X.N[i]? = some x := by rfl) (hx : Loc X.env.scope x := by first | exact Or.inl rfl | exact Or.inr rfl) (hf : X.fn x = true ∨ X.env.scope.names.lookup x = some .local := by first | exact Or.inl rfl | exact Or.inr rfl) :
    PGs X (.Name x px :: es) (tTgs Z (i :: is)) := sgs_cons hN hi hx hf h
theorem gtup {is : List Nat} {kk : Nat} {px : Pos} (h : PGs X es (tTgs Z is)) (hc : X.calm = true := by rfl) (hn : (assignEach es X.env).length = is.length := by rfl) (hst : (assignEach es X.env).findIdx? (·.1) = none := by rfl) : PG X (.Tuple es kk px) (tTg Z W (.tup is)) := sg_tup hc h hn hst
theorem rng1 {tg : Expr} (hm : X.mg "range" = none) (ha : PA X [a] (tL Z W [ma])) (hg : Gl X "range" := by rfl) (hs : starEach [a] X.env = [(false, eval a X.env)] := by rfl) : PI X tg (.Call (.Name "range" p) [a] [] pos) (tI Z W (.rng1 ma)) := si_rng1 hg hm ha hs
theorem rng2 {tg : Expr} (hm : X.mg "range" = none) (ha : PA X [a, b] (tL Z W [ma, mb])) (hg : Gl X "range" := by rfl) (hs : starEach [a, b] X.env = [(false, eval a X.env), (false, eval b X.env)] := by rfl) (hs2 : starEach [b] X.env = [(false, eval b X.env)] := by rfl) :
    PI X tg (.Call (.Name "range" p) [a, b] [] pos) (tI Z W (.rng2 ma mb)) := si_rng2 hg hm ha hs hs2
theorem comp (own : List (Str × Nat)) {tg : Tg} {it : It} {cs : List E} {e : E} {elt tgE iter : Expr} {ifs : List Expr} {scope : Scope} (hN : X.N.Nodup) (hi : PI X tgE iter (tI Z W it)) (ok : BlkOk X.N X.env.scope scope own)
    (hg : ∀ (s : Shared) (H : Hp) (C : Addr) (cl : List (Str × Addr)) (fp : List Addr), PG (X.blk s H scope (compEnvC scope cl C X.env) fp) tgE (tTg Z W0 tg))
    (ht : ∀ (s : Shared) (H : Hp) (C : Addr) (cl : List (Str × Addr)) (fp : List Addr), PTs (X.blk s H scope (compEnvC scope cl C X.env) fp) ifs (tCs Z W0 cs))
    (he : ∀ (s : Shared) (H : Hp) (C : Addr) (cl : List (Str × Addr)) (fp : List Addr), PE (X.blk s H scope (compEnvC scope cl C X.env) fp) elt (tE Z W0 e))
    (hc : X.calm = true := by rfl) (hsl : ∀ i ∈ tg.slots, i ∈ own.map (·.2) := by decide) (hf : ∀ x, foldedSetIterable iter X.env x = pure x := by intro _; rfl) :
    PE X (.ListComp elt [⟨tgE, iter, ifs, 0⟩] scope pos) (tE Z W (.comp (own.map (·.2)) tg it cs e)) := s_comp hc hN hi ok hg ht he hsl hf
theorem asg {tg : Tg} {tgE e : Expr} (hg : PG X tgE (tTg Z W tg)) (he : PE X e (tE Z W ma)) (hs : swapsWithSole [tgE] e pos.line X.env = pure false := by rfl) (hw : swappedStores [tgE] e X.env = pure none := by rfl)
    (h1 : (assignEach [tgE] X.env).map (·.2) = [assign tgE X.env] := by rfl) : PS X (.Assign [tgE] e pos) (tS Z W (.asg tg ma)) := s_asg he hg hs hw h1
theorem asgC (i : Nat) {y : Str} {py : Pos} {spos : Pos} (own : List (Str × Nat)) {tg : Tg} {it : It} {cs : List E} {e : E} {elt tgE iter : Expr} {ifs : List Expr} {scope : Scope} (hN : X.N.Nodup) (hi : PI X tgE iter (tI Z W it)) (ok : BlkOk X.N X.env.scope scope own)
    (hg : ∀ (s : Shared) (H : Hp) (C : Addr) (cl : List (Str × Addr)) (fp : List Addr), PG (X.blk s H scope (compEnvC scope cl C X.env) fp) tgE (tTg Z W0 tg))
    (ht : ∀ (s : Shared) (H : Hp) (C : Addr) (cl : List (Str × Addr)) (fp : List Addr), PTs (X.blk s H scope (compEnvC scope cl C X.env) fp) ifs (tCs Z W0 cs))
    (he : ∀ (s : Shared) (H : Hp) (C : Addr) (cl : List (Str × Addr)) (fp : List Addr), PE (X.blk s H scope (compEnvC scope cl C X.env) fp) elt (tE Z W0 e))
    (hy : X.N[i]? = some y := by rfl) (hyl : X.env.scope.names.lookup y = some .local := by rfl)
    (hsw : swapsWith (.ListComp elt [⟨tgE, iter, ifs, 0⟩] scope pos) (some (.Name y py)) spos.line X.env = pure true := by exact sw_true rfl rfl rfl (by decide +kernel))
    (hc : X.calm = true := by rfl) (hsl : ∀ i ∈ tg.slots, i ∈ own.map (·.2) := by decide) (hf : ∀ x, foldedSetIterable iter X.env x = pure x := by intro _; rfl) :
    PS X (.Assign [.Name y py] (.ListComp elt [⟨tgE, iter, ifs, 0⟩] scope pos) spos) (tS Z W (.asg (.name i) (.comp (own.map (·.2)) tg it cs e))) := s_asgC hc hN hy hyl hsw hi ok hg ht he hsl hf
theorem par2 (i j : Nat) {x y : Str} {px py pt : Pos} {kt k2 pt2} (hN : X.N.Nodup) (ha : PA X [a, b] (tL Z W [ma, mb])) (hi : X.N[i]? = some x := by rfl) (hj : X.N[j]? = some y := by rfl) (hij : i ≠ j := by decide)
    (hx : X.env.scope.names.lookup x = some .local := by rfl) (hy : X.env.scope.names.lookup y = some .local := by rfl) (hc : X.calm = true := by rfl)
    (hw : swappedStores [.Tuple [.Name x px, .Name y py] kt pt] (.Tuple [a, b] k2 pt2) X.env = pure (some [x, y]) := by rfl) (hs : swapsWithSole [.Tuple [.Name x px, .Name y py] kt pt] (.Tuple [a, b] k2 pt2) pos.line X.env = pure false := by rfl) :
    PS X (.Assign [.Tuple [.Name x px, .Name y py] kt pt] (.Tuple [a, b] k2 pt2) pos) (tS Z W (.par [i, j] [ma, mb])) := s_par2 hc hN hi hj hij hx hy ha hw hs
theorem par3 (i j l : Nat) {x y z : Str} {px py pz pt : Pos} {kt k2 pt2} (hN : X.N.Nodup) (ha : PA X [a, b, c] (tL Z W [ma, mb, mc])) (hi : X.N[i]? = some x := by rfl) (hj : X.N[j]? = some y := by rfl) (hl : X.N[l]? = some z := by rfl) (hij : i ≠ j := by decide) (hil : i ≠ l := by decide) (hjl : j ≠ l := by decide)
    (hx : X.env.scope.names.lookup x = some .local := by rfl) (hy : X.env.scope.names.lookup y = some .local := by rfl) (hz : X.env.scope.names.lookup z = some .local := by rfl) (hc : X.calm = true := by rfl)
    (hw : swappedStores [.Tuple [.Name x px, .Name y py, .Name z pz] kt pt] (.Tuple [a, b, c] k2 pt2) X.env = pure (some [x, y, z]) := by rfl) (hs : swapsWithSole [.Tuple [.Name x px, .Name y py, .Name z pz] kt pt] (.Tuple [a, b, c] k2 pt2) pos.line X.env = pure false := by rfl) :
    PS X (.Assign [.Tuple [.Name x px, .Name y py, .Name z pz] kt pt] (.Tuple [a, b, c] k2 pt2) pos) (tS Z W (.par [i, j, l] [ma, mb, mc])) := s_par3 hc hN hi hj hl hij hil hjl hx hy hz ha hw hs
theorem ex {e : Expr} (he : PE X e (tE Z W ma)) (hs : swapsWith e none pos.line X.env = pure false := by rfl) : PS X (.Expr e pos) (tS Z W (.ex ma)) := s_ex he hs
theorem fr {tg : Tg} {it : It} {ms : List St} {tgE iter : Expr} {body : List Stmt} (hp : PassesOwn (model X.prog X.w) X.A X.env X.xe) (hg : PG X tgE (tTg Z W tg)) (hi : PI X tgE iter (tI Z W it)) (hb : PSs X body (tSs Z W ms))
    (hc : X.calm = true := by rfl) (hf : ∀ x, foldedSetIterable iter X.env x = pure x := by intro _; rfl) : PS X (.For tgE iter body [] pos) (tS Z W (.for tg it ms)) := s_for hp hc hi hg hb hf
theorem seti {o i v : Expr} {mo mi mv : E} {spos : Pos} {k : Nat} (hr : Room k X.A) (ho : PE X o (tE Z W mo)) (hi : PE X i (tE Z W mi)) (hv : PE X v (tE Z W mv))
    (ha : ∀ z, assign (.Subscript o i pos) X.env z = (do
      let ov ← holding [z] (eval o X.env)
      let iv ← holding [z, ov] (eval i X.env)
      standAt pos
      holding [z, ov, iv] (setItem ov iv z)
      release [z, ov, iv] []) := by intro _; rfl)
    (hs : swapsWithSole [.Subscript o i pos] v spos.line X.env = pure false := by rfl) (hw : swappedStores [.Subscript o i pos] v X.env = pure none := by rfl) (h1 : (assignEach [.Subscript o i pos] X.env).map (·.2) = [assign (.Subscript o i pos) X.env] := by rfl) :
    PS X (.Assign [.Subscript o i pos] v spos) (tS Z W (.seti mo mi mv)) := s_seti (u1 hr) ho hi hv ha hs hw h1
theorem get {k : Nat} {d e f : Expr} {md me mf : E} {apos cpos : Pos} (hr : Room k X.A) (hd : PE X d (tE Z W md)) (he : PE X e (tE Z W me)) (hf : PE X f (tE Z W mf)) (m2 : M2 X d "get" apos e f cpos := by exact ⟨rfl, rfl, rfl, rfl⟩) :
    PE X (.Call (.Attribute d "get" apos) [e, f] [] cpos) (tE Z W (.get md me mf)) := s_get (u1 hr) hd he hf m2
end
end Q
/-- all the defs of a row keep their promises -/
def Cals (B : Pk) (Z : Zs) (k : Nat) (L : List (Str × Nat × Nat × Bool)) : Prop := ∀ (j : Nat) (e : Str × Nat × Nat × Bool), L[j]? = some e → CalG B Z e.2.2.2 k e.1 e.2.1 e.2.2.1
theorem fnG_zero {B : Pk} {gd : Bool} {k : Nat} {f : Addr} {fd : FuncData} {ps : List Str} {cl : Cl} {xr : XRel} : FnG B gd k f fd ps (spF cl xr ps.length (fun _ _ => .bad)) :=
  ⟨fun _ _ _ _ ⟨_, _, _, _, _, n, _⟩ => n, fun _ _ _ _ _ _ _ _ _ _ _ _ _ _ ⟨_, _, _, _, _, _, z⟩ => z.elim⟩
theorem noCls (K : PySem.W.Frag) {sub : Nat → Nat → Bool} : ClsOk K (fun _ => none) sub where
  ins := fun _ _ e => by cases e
  k1 := fun _ _ _ e => by cases e
  k2 := fun _ _ _ e => by cases e
  k3 := fun _ _ _ _ e => by cases e
end My

/-! MiniPy: the rules for own classes and exceptions in short. -/
namespace My
open PySem L2 PyProof.Rows
namespace Q
section
variable {X : Cx} {Z : Zs} {W : WX} {a b e o : Expr} {ma mb mo m : E} {p pos pos2 apos : Pos} {x f n : Str} {es : List Expr} {ms : List E} {xc : Xc}
theorem fld {c : Nat} (h : NoAt X.K Z.cl c f) (ho : PE X o (tE Z W mo)) (hb : attributeBase o f X.env (eval o X.env) = eval o X.env := by rfl) : PE X (.Attribute o f pos) (tE Z W (.fld c mo f)) := s_fld h ho hb
theorem setf {c : Nat} {v : Expr} {mv : E} {pos' : Pos} (h : NoAt X.K Z.cl c f) (ho : PE X o (tE Z W mo)) (hv : PE X v (tE Z W mv)) (hs : swapsWith v (some (.Attribute o f pos')) pos.line X.env = pure false := by rfl) :
    PS X (.Assign [.Attribute o f pos'] v pos) (tS Z W (.setf c mo f mv)) := s_setf h ho hv hs
theorem make {k j c i : Nat} (M : MakeG X.pk Z j x c i (ms.length + 1)) (hr : Room k X.A) (tk : Takes X W) (ha : PA X (e :: es) (tL Z W ms)) (hj : j + 1 ≤ k := by omega) (hg : Gl X x := by rfl) (hd : (x == ("__debug__" : Str)) = false := by decide)
    (he : starEach (e :: es) X.env = (false, eval e X.env) :: starEach es X.env := by rfl) (hp : (backTo pos (starEach es X.env)).any (·.1) = false := by rfl) : PE X (.Call (.Name x p) (e :: es) [] pos) (tE Z W (.make c i ms)) := s_make M (hr.mono hj) tk hg ha hd he hp
theorem prop {k j c i : Nat} (M : PropG X.pk Z j c f i) (hr : Room k X.A) (ho : PE X o (tE Z W mo)) (hj : j + 1 ≤ k := by omega) (hb : attributeBase o f X.env (eval o X.env) = eval o X.env := by rfl) : PE X (.Attribute o f pos) (tE Z W (.prop c i mo)) := s_prop M (hr.mono hj) ho hb
theorem meth {gd : Bool} {k j c i : Nat} {pl : Sem Bool} (M : MethG X.pk Z gd j c n i (ms.length + 1)) (hr : Room k X.A) (gu : gd = true → X.A.guards = some []) (tk : Takes X W) (ho : PE X o (tE Z W mo)) (ha : PA X (e :: es) (tL Z W ms)) (hj : j ≤ k := by omega)
    (he : starEach (e :: es) X.env = (false, eval e X.env) :: starEach es X.env := by rfl) (hp : (backTo pos (starEach es X.env)).any (·.1) = false := by rfl)
    (ht : eval (.Call (.Attribute o n apos) (e :: es) [] pos) X.env = (do
      let ov ← eval o X.env
      standAt apos.atName
      let (g, first) ← holding [ov] (getMethod ov n pl)
      callWith pos g first (backTo pos (starEach (e :: es) X.env)) (backToKw pos (keywordEach [] X.env))) := by rfl) : PE X (.Call (.Attribute o n apos) (e :: es) [] pos) (tE Z W (.meth c i n mo ms)) := s_meth (pl := pl) M (hr.mono hj) gu tk ho ha he hp ht
theorem meth0 {gd : Bool} {k j c i : Nat} {pl : Sem Bool} (M : MethG X.pk Z gd j c n i 1) (hr : Room k X.A) (gu : gd = true → X.A.guards = some []) (tk : Takes X W) (ho : PE X o (tE Z W mo)) (hj : j ≤ k := by omega)
    (ht : eval (.Call (.Attribute o n apos) [] [] pos) X.env = (do
      let ov ← eval o X.env
      standAt apos.atName
      let (g, first) ← holding [ov] (getMethod ov n pl)
      callWith pos g first (backTo pos (starEach [] X.env)) (backToKw pos (keywordEach [] X.env))) := by rfl) : PE X (.Call (.Attribute o n apos) [] [] pos) (tE Z W (.meth c i n mo [])) := s_meth0 (pl := pl) M (hr.mono hj) gu tk ho ht
theorem inO {k j c i : Nat} (M : OwnG X.pk Z j c "__contains__" i 2) (hr : Room k X.A) (ha : PE X a (tE Z W ma)) (hb : PE X b (tE Z W mb)) (hj : j ≤ k := by omega) (hm : behindInMarks .In b = false := by rfl) : PE X (.Compare a [.In] [b] pos) (tE Z W (.own2 false c i ma mb)) := s_own2 M (hr.mono hj) ha hb rfl hm
theorem notinO {k j c i : Nat} (M : OwnG X.pk Z j c "__contains__" i 2) (hr : Room k X.A) (ha : PE X a (tE Z W ma)) (hb : PE X b (tE Z W mb)) (hj : j ≤ k := by omega) (hm : behindInMarks .NotIn b = false := by rfl) : PE X (.Compare a [.NotIn] [b] pos) (tE Z W (.own2 true c i ma mb)) := s_own2 M (hr.mono hj) ha hb rfl hm
theorem tinO {k j c i : Nat} (M : OwnG X.pk Z j c "__contains__" i 2) (hr : Room k X.A) (ha : PE X a (tE Z W ma)) (hb : PE X b (tE Z W mb)) (hj : j ≤ k := by omega) (hm : behindInMarks .In b = false := by rfl) : PT X (.Compare a [.In] [b] pos) (tB' Z W (.own2 false c i ma mb)) := st_own2 M (hr.mono hj) ha hb rfl hm
theorem tnotinO {k j c i : Nat} (M : OwnG X.pk Z j c "__contains__" i 2) (hr : Room k X.A) (ha : PE X a (tE Z W ma)) (hb : PE X b (tE Z W mb)) (hj : j ≤ k := by omega) (hm : behindInMarks .NotIn b = false := by rfl) : PT X (.Compare a [.NotIn] [b] pos) (tB' Z W (.own2 true c i ma mb)) := st_own2 M (hr.mono hj) ha hb rfl hm
theorem eqO {k j c i : Nat} (M : OwnG X.pk Z j c "__eq__" i 2) (hr : Room k X.A) (ha : PE X a (tE Z W ma)) (hb : PE X b (tE Z W mb)) (hj : j ≤ k := by omega) (hm : behindInMarks .Eq b = false := by rfl) : PE X (.Compare a [.Eq] [b] pos) (tE Z W (.owne c i ma mb)) := s_owne M (hr.mono hj) ha hb hm
theorem lenO {k j c i : Nat} (M : OwnG X.pk Z j c "__len__" i 1) (hr : Room k X.A) (hm : X.mg "len" = none) (ha : PE X a (tE Z W ma)) (hj : j + 1 ≤ k := by omega) (hg : Gl X "len" := by rfl) (he : starEach [a] X.env = (false, eval a X.env) :: starEach [] X.env := by rfl)
    (hp : (backTo pos (starEach [] X.env)).any (·.1) = false := by rfl) : PE X (.Call (.Name "len" p) [a] [] pos) (tE Z W (.ownl c i ma)) := s_ownl M (hr.mono hj) hg hm (sl_cons ha sl_nil he) he hp
theorem join (ha : PE X a (tE Z W ma)) (hb : PE X b (tE Z W mb)) (hs : starEach [b] X.env = [(false, eval b X.env)] := by rfl) (hbase : attributeBase a "join" X.env (eval a X.env) = eval a X.env := by rfl) (hline : (apos.endLine == pos.line) = true := by rfl) :
    PE X (.Call (.Attribute a "join" apos) [b] [] pos) (tE Z W (.join ma mb)) := s_join ha hb hs hbase hline
theorem enum {tpos : Pos} {elts : List Expr} {kk : Nat} (hm : X.mg "enumerate" = none) (ha : PE X e (tE Z W m)) (hg : Gl X "enumerate" := by rfl) (he : starEach [e] X.env = (false, eval e X.env) :: starEach [] X.env := by rfl) (hs : starEach [e] X.env = [(false, eval e X.env)] := by rfl) :
    PI X (.Tuple elts kk tpos) (.Call (.Name "enumerate" p) [e] [] pos) (tI Z W (.enum m)) := si_enum hg hm (sl_cons ha sl_nil he) hs
theorem raise0 {c : Nat} {C : Addr} (hz : Z.xr = xrOf Z.cl xc) (ex : xc c = some (C, none)) (T : Xc0 X.K C) (gC : X.mg x = some (.ref C)) (tk : Takes X W) (hg : Gl X x := by rfl) (hd : (x == ("__debug__" : Str)) = false := by decide) (hc : X.calm = true := by rfl) :
    PS X (.Raise (some (.Call (.Name x p) [] [] pos)) none pos2) (tS Z W (.rais c [])) := s_raise0 hz ex T gC hg hd hc tk
theorem raise1 {c k j : Nat} {C : Addr} (hz : Z.xr = xrOf Z.cl xc) (ex : xc c = some (C, some f)) (T : Xc1 X.pk j C f) (gC : X.mg x = some (.ref C)) (hr : Room k X.A) (tk : Takes X W) (ha : PE X e (tE Z W m)) (hj : j + 1 ≤ k := by omega) (hg : Gl X x := by rfl) (hd : (x == ("__debug__" : Str)) = false := by decide)
    (hc : X.calm = true := by rfl) (he : starEach [e] X.env = (false, eval e X.env) :: starEach [] X.env := by rfl) (hp : (backTo pos (starEach [] X.env)).any (·.1) = false := by rfl) :
    PS X (.Raise (some (.Call (.Name x p) [e] [] pos)) none pos2) (tS Z W (.rais c [m])) := s_raise1 hz ex T gC hg (hr.mono hj) hd hc tk (slT_cons ha slT_nil he) he hp
theorem try_ {body : List Stmt} {h0 : ExceptHandler} {hds : List ExceptHandler} {bm : List St} {l : List Hx} {cs : List (Nat × Option Nat)} {mss : List (List St)} (hz : Z.xr = xrOf Z.cl xc) (tk : Takes X W)
    (hb : ∀ (W : WX) (pn : List (Addr × Obj)) (xe : Value → Shared → Prop), Takes (X.tr pn xe) W → PassesOwn (model X.prog X.w) X.A X.env xe → PSs (X.tr pn xe) body (tSs Z W bm)) (hh : HdsM X Z xc (h0 :: hds) l cs mss) (stk : X.stack = X.env :: X.outer := by rfl)
    (frm : X.env.frame = some X.env.locals := by rfl) : PS X (.Try body (h0 :: hds) [] [] pos) (tS Z W (.tryx bm cs mss)) := s_try hz stk frm tk hb hh
end
end Q
end My

/-! MiniPy: comprehensions over an attribute's dict; dict comprehensions; more methods. -/
namespace My
open PySem L2 PyProof.Rows
/-! ### a dict that is locked for a while -/
section
variable {cl : Cl} {φ φ' : Phi} {H H' : Hp} {h : Hm} {d : Addr} {kvs : List (Key × V)} {o : Obj}
theorem lock_mv (hd : H d = some (.dK kvs)) : Mv φ H φ (upd H d (.frz o (.dK kvs))) := ⟨fun a u ob r => ⟨ob, by
  by_cases e : a = d
  · subst e
    rcases r with r | ⟨_, _, r⟩
    · rw [hd] at r; cases r; exact .inr ⟨rfl, o, upd_same⟩
    · rw [hd] at r; cases r
  · exact rd_write (r := r) e⟩, fun _ _ _ h => h, Nat.le_refl _⟩
theorem Hs.lock (x : Hs cl φ h H) (hd : H d = some (.dK kvs)) (off : Off φ d) : Hs cl φ h (upd H d (.frz o (.dK kvs))) where
  len := x.len
  get := fun n u e => by
    rcases x.get n u e with q | ⟨a, q, r⟩
    · exact .inl q
    · exact .inr ⟨a, q, RpO.move (lock_mv hd).mv (upd_ne fun z => off.1 (z ▸ List.mem_of_getElem? q)) r⟩
  inj := x.inj
  res := fun a m => ⟨upd_some (x.res a m).1, (x.res a m).2⟩
theorem unlock_mv (hd : H' d = some (.frz o (.dK kvs))) : ∀ a u, plainO u = true → Off φ' a → Rx H' a u → Off φ' a ∧ Rx (upd H' d (.dK kvs)) a u := fun a u pu ob r => ⟨ob, by
  by_cases e : a = d
  · subst e
    rcases r with r | ⟨_, _, r⟩
    · rw [hd] at r; cases r; cases pu
    · rw [hd] at r; cases r; exact .inl upd_same
  · exact rd_write (r := r) e⟩
theorem Hs.unlock (x : Hs cl φ' h H') (hd : H' d = some (.frz o (.dK kvs))) (off : some d ∉ φ'.m) : Hs cl φ' h (upd H' d (.dK kvs)) where
  len := x.len
  get := fun n u e => by
    rcases x.get n u e with q | ⟨a, q, r⟩
    · exact .inl q
    · exact .inr ⟨a, q, RpO.moveP (unlock_mv hd) (upd_ne fun z => off (z ▸ List.mem_of_getElem? q)) r⟩
  inj := x.inj
  res := fun a m => ⟨upd_some (x.res a m).1, (x.res a m).2⟩
theorem Grow.unlock (g : Grow φ (upd H d (.frz o (.dK kvs))) φ' H') (hd : H d = some (.dK kvs)) : Grow φ H φ' (upd H' d (.dK kvs)) where
  len := g.len
  old := g.old
  new := fun a m => (g.new a m).imp id fun z => by
    by_cases e : a = d
    · subst e; rw [upd_same] at z; cases z
    · rw [upd_ne e] at z; exact z
  keep := fun a u m r => by
    by_cases e : a = d
    · subst e; rw [hd] at r; cases r; exact upd_same
    · rw [upd_ne e]; exact g.keep a u m (by rw [upd_ne e]; exact r)
  res := g.res
theorem RpS.moveP (k : ∀ a u, plainO u = true → Off φ a → Rx H a u → Off φ a ∧ Rx H' a u) {s : S} {v : V} (r : RpS cl φ H s v) : RpS cl φ H' s v := by
  cases s with
  | t t => exact Rp.moveP k r
  | r n => exact r
end
section
variable {X : Cx} {Z : Zs} {W : WX}
theorem wk_keys {φ : Phi} {H : Hp} {ks : List T} {d : Addr} {o : Obj} {kvs : List (Key × V)} (off : Off φ d) (hd : H d = some (.frz o (.dK kvs))) (ek : kvs.map (fun p => keyT p.1) = ks) (hl : ks.length ≤ sizeLine) : Wk Z.cl φ H (ks, none) (Itk d o kvs) where
  len := hl
  go := fun φ' h' H' i t g kp hs _ e => by
    have hd' := kp d _ off.1 hd
    subst ek
    rw [List.getElem?_map] at e
    cases h : kvs[i]? with
    | none => rw [h] at e; cases e
    | some p =>
      obtain ⟨k, v⟩ := p
      rw [h] at e
      cases e
      refine ⟨⟨hd', (List.getElem?_eq_some_iff.mp h).1⟩, fun x H'' y => ?_⟩
      obtain ⟨e1, k', v', e2, e3⟩ := y
      rw [h] at e2
      cases e2
      subst e1; subst e3
      exact ⟨Grow.refl _ _, hs, rp_key k⟩
  stop := fun φ' h' H' g kp hs _ => ⟨kp d _ off.1 hd, by rw [← ek]; simp⟩
theorem fldKeys_is {φ : Phi} {h : Hm} {H : Hp} {c : Nat} {f : Str} {s : S} {x : V} {ks : List T} (hs : Hs Z.cl φ h H) (r : RpS Z.cl φ H s x) (e : fldKeys c f s h = some ks) : ∃ a C dx fs d kvs, x = .ref a ∧ Z.cl c = some C ∧ H a = some (.ins C dx fs) ∧ fs.lookup f = some (.ref d) ∧
    Off φ d ∧ Rx H d (.dK kvs) ∧ kvs.map (fun p => keyT p.1) = ks ∧ ks.length ≤ sizeLine := by
  unfold fldKeys at e
  cases e1 : isO c s h with
  | none => rw [e1] at e; cases e
  | some p =>
    rw [e1] at e
    simp only [Option.bind_some] at e
    obtain ⟨a, C, dx, fs, ex, ec, ea, ef, q⟩ := isO_is hs r e1
    rw [← ef] at e
    cases e2 : lookN f (fs.map (·.1)) p.2 with
    | none => rw [e2] at e; cases e
    | some t =>
      rw [e2] at e
      cases t <;> first
        | (cases e; done)
        | skip
      rename_i ks' us
      dsimp only at e
      split at e
      · rename_i hl
        cases e
        obtain ⟨w, el, rw'⟩ := lookN_ok q e2
        rw [Rp] at rw'
        obtain ⟨d, kvs, ed, off, rd, em, _⟩ := rw'
        subst ed
        exact ⟨a, C, dx, fs, d, kvs, ex, ec, ea, el, off, rd, em, of_decide_eq_true hl⟩
      · cases e
/-- [e for x in n.f if c], n.f a dict -/
theorem s_compF {own : List (Str × Nat)} {tg : Tg} {i c : Nat} {cs : List E} {e : E} {elt tgE : Expr} {ifs : List Expr} {scope : Scope} {pos px pf : Pos} {x f : Str} (hc : X.calm = true) (hN : X.N.Nodup) (hi : X.N[i]? = some x) (hv : Vis X.env.scope x) (hd : (x == ("__debug__" : Str)) = false)
    (hcd : (x == ("__classdict__" : Str)) = false) (n : NoAt X.K Z.cl c f) (hb : attributeBase (.Name x px) f X.env (eval (.Name x px) X.env) = eval (.Name x px) X.env) (ok : BlkOk X.N X.env.scope scope own)
    (hg : ∀ (s : Shared) (H : Hp) (C : Addr) (cl : List (Str × Addr)) (fp : List Addr), PG (X.blk s H scope (compEnvC scope cl C X.env) fp) tgE (tTg Z W0 tg))
    (ht : ∀ (s : Shared) (H : Hp) (C : Addr) (cl : List (Str × Addr)) (fp : List Addr), PTs (X.blk s H scope (compEnvC scope cl C X.env) fp) ifs (tCs Z W0 cs))
    (he : ∀ (s : Shared) (H : Hp) (C : Addr) (cl : List (Str × Addr)) (fp : List Addr), PE (X.blk s H scope (compEnvC scope cl C X.env) fp) elt (tE Z W0 e))
    (hsl : ∀ i ∈ tg.slots, i ∈ own.map (·.2)) (hf : ∀ y, foldedSetIterable (.Attribute (.Name x px) f pf) X.env y = pure y) :
    PE X (.ListComp elt [⟨tgE, .Attribute (.Name x px) f pf, ifs, 0⟩] scope pos) (tE Z W (.compF (own.map (·.2)) tg i c f cs e)) := by
  have P := pe_lc (pos := pos) hc hN (pi_keys (tg := tgE) (pe_fld (pos := pf) (pe_var (pos := px) hi hv hd hcd) hb)) ok hg ht he hf
  refine ⟨fun pins s σ H Q I t => ?_⟩
  obtain ⟨φ, h, ρ, re, hs, m⟩ := t
  simp only [evE] at m
  obtain ⟨sv, e1, m⟩ := m.lift
  obtain ⟨ks, e2, m⟩ := m.lift
  have e1' : ρ[i]? = some (some sv) := by
    cases q : ρ[i]? with
    | none => rw [q] at e1; cases e1
    | some y => rw [q] at e1; exact congrArg some e1
  obtain ⟨v, ev, rv⟩ := re.get i sv e1'
  obtain ⟨a, C, dx, fs, d, kvs, ex, ec, ea, el, off, rd, em, hl⟩ := fldKeys_is hs rv e2
  obtain ⟨cC, nC⟩ := n C ec
  subst ex
  rcases rd with rd | ⟨_, o, rd⟩
  · refine (pe_lock P).run pins s σ H Q I ⟨d, _, rd, trivial, fun od => ?_⟩
    have ne : a ≠ d := fun z => by rw [z, rd] at ea; cases ea
    have hs' := hs.lock (o := od) rd off
    have wk := wk_keys (Z := Z) (o := od) (φ := φ) (H := upd H d (.frz od (.dK kvs))) (ks := ks) off upd_same em hl
    refine ⟨_, ev, a, C, dx, fs, _, rfl, by rw [upd_ne ne]; exact ea, cC, nC, el, d, od, rfl, .inl ⟨kvs, upd_same, ?_⟩⟩
    refine compGo (W := W) (cs := cs) (e := e) (Q := fun v H' => H' d = some (.frz od (.dK kvs)) ∧ Q v (upd H' d (.dK kvs))) (p := (ks, none)) hsl ((lock_mv rd).e re) hs' wk ?_
    have m1 : MW Z.cl Z.xr (RpS Z.cl) W σ φ H ((noEx (compL none (turnE Z.G Z.C ρ (own.map (·.2)) tg cs e) ks h)).bind fun ys h2 => .ok (.t (.lst ys)) h2) Q := m
    clear m
    revert m1
    dsimp only
    cases compL none (turnE Z.G Z.C ρ (own.map (·.2)) tg cs e) ks h with
    | bad => exact fun m => m.elim
    | ex _ _ _ => exact fun m => m.elim
    | ok ys h2 =>
      intro m φ' H' v g hs2 r
      have hd' : H' d = some (.frz od (.dK kvs)) := g.keep d _ off.1 upd_same
      have off' : some d ∉ φ'.m := g.out off.1 (by rw [upd_same]; simp)
      exact ⟨hd', m φ' (upd H' d (.dK kvs)) v (g.unlock rd) (hs2.unlock hd' off') (RpS.moveP (unlock_mv hd') r)⟩
  · refine P.run pins s σ H Q I ?_
    have wk := wk_keys (Z := Z) (o := o) (φ := φ) (H := H) (ks := ks) off rd em hl
    exact ⟨_, ev, a, C, dx, fs, _, rfl, ea, cC, nC, el, d, o, rfl, .inl ⟨kvs, rd, compGo (W := W) (p := (ks, none)) hsl re hs wk m⟩⟩
end
/-! ### a dict by a comprehension -/
theorem wipe_wipe (σ : L2.St) (vs : List Nat) : L2.wipe (L2.wipe σ vs) vs = L2.wipe σ vs := by
  refine List.ext_getElem? fun j => ?_
  have key : ∀ (τ : L2.St) (us : List Nat), (L2.wipe τ us)[j]? = if j ∈ us then (τ[j]?).map (fun _ => none) else τ[j]? := fun τ us => by
    induction us with
    | nil => simp [L2.wipe]
    | cons u us ih =>
      unfold L2.wipe
      by_cases hj : u = j
      · subst hj
        rw [if_pos List.mem_cons_self]
        by_cases hl : u < τ.length
        · rw [List.getElem?_set_self (by rw [L2.wipe_length]; exact hl), List.getElem?_eq_getElem hl]; rfl
        · rw [List.getElem?_eq_none (by rw [List.length_set, L2.wipe_length]; omega), List.getElem?_eq_none (by omega)]; rfl
      · rw [List.getElem?_set_ne hj, ih]
        by_cases h2 : j ∈ us
        · rw [if_pos h2, if_pos (List.mem_cons_of_mem _ h2)]
        · rw [if_neg h2, if_neg (by simp [h2]; exact fun z => hj z.symm)]
  rw [key, key]
  split
  · rename_i hh; cases σ[j]? <;> rfl
  · rfl
section
variable {X : Cx} {Z : Zs} {W : WX}
def turnD (G : Ctx) (C : Orc) (ρ : En) (own : List Nat) (tg : Tg) (k e : E) (x : T) (h : Hm) : R (Option T) :=
  (liftO (setTg tg (.t x) (wipeE ρ own)) h).bind fun ρ1 h => (evE G C ρ1 h k).bind fun u h1 => (evE G C ρ1 h1 e).bind fun s h2 => match u, s with
    | .t (.str x), .t v => .ok (some (.tup [.str x, v])) h2
    | _, _ => .bad
structure DcI (Z : Zs) (W : WX) (σ : L2.St) (g : Option (Nat × MO)) (f : T → Hm → R (Option T)) (its : List T) (φ1 : Phi) (H1 : Hp) (D : Addr) (Q : VK) (i m : Nat) (H : Hp) : Prop where
  le : i ≤ its.length
  me : m = its.length - i
  ex : ∃ (φ' : Phi) (h' : Hm) (kvs : List (Key × V)) (us : List T), Mv φ1 H1 φ' H ∧ Hs Z.cl φ' h' H ∧ φ'.r = D :: φ1.r ∧ H D = some (.dK kvs) ∧ Rps Z.cl (Off φ') H us (kvs.map (·.2)) ∧ kvs.length ≤ i ∧ Grow φ1 H1 φ'.drop H ∧
    MW Z.cl Z.xr (RpS Z.cl) W σ φ1 H1 ((noEx (compL g f (its.drop i) h')).bind fun ys h2 => .ok (.t (.dct (fillD (pairsOf ys) (kvs.map fun p => keyT p.1) us).1 (fillD (pairsOf ys) (kvs.map fun p => keyT p.1) us).2)) h2) Q
theorem spt_none : PTs X [] (fun σ H Q => Q true H) := pts_nil
theorem evDcomp {own : List Nat} {tg : Tg} {it : It} {k e : E} (hsl : ∀ i ∈ tg.slots, i ∈ own) {σ : L2.St} {H : Hp} {Q : VK} (t : tE Z W (.dcomp own tg it k e) σ H Q) :
    tDc (tI Z W it) (tTg Z W0 tg) (fun σ H Q => Q true H) (tE Z W0 k) (tE Z W0 e) own σ H Q := by
  refine t.seq (rel' := Wk Z.cl) (f := fun p ρ h1 => (noEx (compL p.2 (turnD Z.G Z.C ρ own tg k e) p.1 h1)).bind fun ys h2 => .ok (.t (.dct (fillD (pairsOf ys) [] []).1 (fillD (pairsOf ys) [] []).2)) h2) (fun ρ h => by simp only [evE]; rfl) fun p h1 φ1 H1 J ρ re hs wk m => ?_
  intro D nD
  have nDr : D ∉ φ1.r := fun z => (hs.res D z).1 nD
  refine ⟨DcI Z W σ p.2 (turnD Z.G Z.C ρ own tg k e) p.1 φ1 H1 D Q, ⟨p.1.length, Nat.zero_le _, rfl, φ1.hold D, h1, [], [], Mv.hold nD, hs.hold nD, rfl, upd_same, .nil, Nat.le_refl _, ?_, by simpa using m⟩, ?_⟩
  · exact Grow.writeD (Grow.refl φ1 H1) nD
  rintro i n H2 ⟨hle, hk, φ', h', kvs, us, mv, hs', er, eD, rA, hacc, gr, m'⟩
  have hDm : some D ∉ φ'.m := (hs'.res D (by rw [er]; exact List.mem_cons_self)).2
  by_cases hlt : i < p.1.length
  · have ed : p.1.drop i = p.1[i] :: p.1.drop (i + 1) := List.drop_eq_getElem_cons hlt
    rw [ed] at m'
    simp only [compL] at m'
    by_cases gd : gOk p.2 h' = true
    · rw [if_pos gd] at m'
      obtain ⟨go, yl⟩ := wk.go φ' h' H2 i _ mv gr.keep hs' gd (List.getElem?_eq_getElem hlt)
      refine .inr ⟨go, DcI Z W σ p.2 (turnD Z.G Z.C ρ own tg k e) p.1 φ1 H1 D Q (i + 1) (p.1.length - (i + 1)), fun H' w => ⟨_, by omega, w⟩, fun x H3 hy => ?_⟩
      obtain ⟨g3, hs3, rx⟩ := yl x H3 hy
      generalize p.1[i] = t at m' rx
      simp only [turnD] at m'
      cases es : setTg tg (.t t) (wipeE ρ own) with
      | none => rw [es] at m'; exact m'.elim
      | some ρ1 =>
        rw [es] at m'
        simp only [liftO_some, R.bind_ok] at m'
        refine ⟨φ', h', wipeE ρ own, .t t, ρ1, (g3.mv.e (mv.e re)).wipe own, hs3, rx, es, fun φ4 H4 σ4 g4 hs4 re4 sm => ⟨?_, ?_⟩⟩
        · rw [sm own hsl]; exact wipe_wipe σ own
        · simp only [if_true]
          refine ⟨φ4, h', ρ1, re4, hs4, ?_⟩
          show MW Z.cl Z.xr (RpS Z.cl) W0 σ4 φ4 H4 (evE Z.G Z.C ρ1 h' k) _
          cases ek : evE Z.G Z.C ρ1 h' k with
          | ex c fs hh => rw [ek] at m'; exact m'.elim
          | bad => rw [ek] at m'; exact m'.elim
          | ok su h5 =>
            rw [ek] at m'
            simp only [R.bind_ok] at m'
            intro φ5 H5 y g5 hs5 ry
            refine ⟨φ5, h5, ρ1, g5.e re4, hs5, ?_⟩
            show MW Z.cl Z.xr (RpS Z.cl) W0 σ4 φ5 H5 (evE Z.G Z.C ρ1 h5 e) _
            cases ee : evE Z.G Z.C ρ1 h5 e with
            | ex c fs hh => rw [ee] at m'; exact m'.elim
            | bad => rw [ee] at m'; exact m'.elim
            | ok sv h6 =>
              rw [ee] at m'
              simp only [R.bind_ok] at m'
              intro φ6 H6 z g6 hs6 rz
              cases su with
              | r _ => exact m'.elim
              | t tu =>
              cases tu <;> first
                | exact m'.elim
                | skip
              rename_i xk
              cases sv with
              | r _ => exact m'.elim
              | t v =>
              simp only [R.bind_ok] at m'
              have ey : y = kV (.inr xk) := by
                have q : RpF Z.cl φ5 H5 (.str xk) y := ry
                rw [RpF, Rp] at q
                exact q
              have gB : Grow φ' H2 φ6 H6 := ((g3.trans g4).trans g5).trans g6
              have er6 : φ6.r = D :: φ1.r := gB.res.trans er
              have hD6 : D ∈ φ6.r := by rw [er6]; exact List.mem_cons_self
              have hlen : p.1.length ≤ sizeLine := wk.len
              have pd := putD_ok (k := .inr xk) (kvs := kvs) (gB.rps rA) (show Rp Z.cl (Off φ6) H6 v z from rz)
              have hl := length_putK kvs (.inr xk) z
              refine ⟨kvs, .inr xk, ey, gB.keep D _ hDm eD, by omega, hlt, rfl, φ6, h6, putK kvs (.inr xk) z, _, (mv.trans gB.mv).trans (Mv.writeD hD6), hs6.writeR hD6, er6, upd_same, Rps.move (Mv.writeD hD6).mv pd.2, by omega, Grow.writeD (gr.trans gB.dropD) nD, ?_⟩
              rw [pd.1]
              revert m'
              cases compL p.2 (turnD Z.G Z.C ρ own tg k e) (p.1.drop (i + 1)) h6 with
              | ok ys h7 => exact id
              | ex c fs hh => exact id
              | bad => exact id
    · rw [if_neg gd] at m'; exact m'.elim
  · have hi : i = p.1.length := by omega
    subst hi
    rw [List.drop_length] at m'
    simp only [compL] at m'
    by_cases gd : gOk p.2 h' = true
    · rw [if_pos gd] at m'
      refine .inl ⟨wk.stop φ' h' H2 mv gr.keep hs' gd, ?_⟩
      have m2 : MW Z.cl Z.xr (RpS Z.cl) W σ φ1 H1 (.ok (.t (.dct (kvs.map fun p => keyT p.1) us)) h') Q := m'
      refine m2 φ'.drop H2 _ gr hs'.drop ?_
      show RpF Z.cl φ'.drop H2 (.dct _ us) (.ref D)
      rw [RpF, Rp]
      exact ⟨D, kvs, rfl, ⟨hDm, by show D ∉ φ'.r.tail; rw [er]; exact nDr⟩, .inl eD, rfl, Rps.move (fun b u ob r => ⟨off_drop ob, r⟩) rA⟩
    · rw [if_neg gd] at m'; exact m'.elim
theorem s_dcomp {own : List (Str × Nat)} {tg : Tg} {it : It} {k e : E} {kx vx tgE iter : Expr} {scope : Scope} {pos : Pos} (hc : X.calm = true) (hN : X.N.Nodup) (hi : PI X tgE iter (tI Z W it)) (ok : BlkOk X.N X.env.scope scope own)
    (hg : ∀ (s : Shared) (H : Hp) (C : Addr) (cl : List (Str × Addr)) (fp : List Addr), PG (X.blk s H scope (compEnvC scope cl C X.env) fp) tgE (tTg Z W0 tg))
    (hk : ∀ (s : Shared) (H : Hp) (C : Addr) (cl : List (Str × Addr)) (fp : List Addr), PE (X.blk s H scope (compEnvC scope cl C X.env) fp) kx (tE Z W0 k))
    (he : ∀ (s : Shared) (H : Hp) (C : Addr) (cl : List (Str × Addr)) (fp : List Addr), PE (X.blk s H scope (compEnvC scope cl C X.env) fp) vx (tE Z W0 e))
    (hsl : ∀ i ∈ tg.slots, i ∈ own.map (·.2)) (hf : ∀ x, foldedSetIterable iter X.env x = pure x) :
    PE X (.DictComp kx vx [⟨tgE, iter, [], 0⟩] scope pos) (tE Z W (.dcomp (own.map (·.2)) tg it k e)) := pe_weak (pe_dc hc hN hi ok hg (fun _ _ _ _ _ => pts_nil) hk he hf) fun _ _ _ t => evDcomp hsl t
end
/-! ### an object is called -/
section
variable {M : Model} {A : Around} {E : Value → Shared → Prop} {s : Shared} {K : PySem.W.Frag} {env : Env} {pos : Pos} {x C : Addr} {Q : Value → Shared → Prop}
theorem inst_callWith {e : Expr} {rest : List Expr} (h : wpAny M A (spliced (backTo pos (starEach (e :: rest) env))) (fun vs s₁ => (∃ ox od, ox.data = .plain ∧ PySem.W.InstAt s₁.heap x ox C od) ∧ wpAny M A (call (.ref x) vs) Q E s₁) E s)
    (he : starEach (e :: rest) env = (false, eval e env) :: starEach rest env) (hplain : (backTo pos (starEach rest env)).any (·.1) = false) :
    wpAny M A (callWith pos (.ref x) [] (backTo pos (starEach (e :: rest) env)) []) Q E s := by
  rw [he] at h ⊢
  have hp : (((false, eval e env) :: backTo pos (starEach rest env)).any (·.1) || ([] : List (Option Str × Sem Value)).any (·.1.isNone)) = false := by
    show ((false || (backTo pos (starEach rest env)).any (·.1)) || false) = false; rw [hplain]; rfl
  have h2 := PySem.Calls.evalArgs_plain (f := .ref x) (Q := fun a s₁ => (∃ ox od, ox.data = .plain ∧ PySem.W.InstAt s₁.heap x ox C od) ∧ wpAny M A (call (.ref x) a.pos a.kw) Q E s₁) h
  show wpAny M A (callWith pos (.ref x) [] ((false, eval e env) :: backTo pos (starEach rest env)) []) Q E s
  unfold callWith
  refine wpAny_bind (wpAny_holding (wpAny_mono h2 (fun a s₁ h₁ => wpAny_bind (wpAny_standAt ?_)) fun _ _ y => y))
  obtain ⟨⟨ox, od, hd, I⟩, h₁⟩ := h₁
  have L := PySem.W.kco_keeper (M := M) I hd
  simp only [hp]
  refine wpAny_bind (L.here ?_)
  have tail : ∀ {t : Sem Value}, wpAny M A t Q E s₁ → wpAny M A (t >>= fun r => holding [r] point >>= fun _ => pure r) Q E s₁ :=
    fun ht => wpAny_bind (wpAny_mono ht (fun r s₂ hr => wpAny_bind (wpAny_holding (wpAny_point (wpAny_pure hr)))) fun _ _ y => y)
  exact tail (wpAny_operateT h₁)
end
/-- the class c has the method __call__ -/
structure CallO (B : Pk) (Z : Zs) (k c i n : Nat) : Prop where
  ex : ∃ (C f : Addr) (fd : FuncData) (ps : List Str), Z.cl c = some C ∧ Cls B.K C ∧ PySem.W.findIn B.K (.ref C) "__call__" = some (some (.ref f)) ∧ PySem.W.isFn B.K (.ref f) = true ∧ PySem.W.fnIn B.K f = true ∧ FnG B false k f fd ps (spF Z.cl Z.xr n (Z.C i)) ∧ ps.length = n ∧ Binds B.K fd ps []
section
variable {X : Cx} {Z : Zs} {W : WX} {o : Expr} {mo : E} {pos px : Pos} {x : Str} {es : List Expr} {ms : List E}
theorem ev_callo {c i : Nat} {C : Addr} (ec : Z.cl c = some C) {σ : L2.St} {H : Hp} {Q : VK} (t : tE Z W (.callo c i mo ms) σ H Q) : tE Z W mo σ H fun x H1 => ∃ a dx fs, x = .ref a ∧ H1 a = some (.ins C dx fs) ∧
    tL Z W ms σ H1 fun zs H2 => H2 a = some (.ins C dx fs) ∧ spF Z.cl Z.xr (ms.length + 1) (Z.C i) (x :: zs) H2 Q (WE W σ) := by
  refine t.seq (rel' := RpS Z.cl) (f := fun s ρ h1 => match s with
      | .t (.obj d ns us) => if c = d then (evS Z.G Z.C ρ h1 ms).bind fun ss h2 => Z.C i (.t (.obj d ns us) :: ss) h2 else .bad
      | _ => .bad) (fun ρ h => by simp only [evE] <;> rfl) fun s h1 φ1 H1 x ρ re hs r w => ?_
  cases s with
  | r _ => exact w.elim
  | t t =>
  cases t <;> first
    | exact w.elim
    | skip
  rename_i d ns us
  dsimp only at w
  by_cases hcd : c = d
  · subst hcd
    rw [if_pos rfl] at w
    have r' : RpF Z.cl φ1 H1 (.obj c ns us) x := r
    rw [RpF, Rp] at r'
    obtain ⟨a, C', dx, fs, ex, off, ec', rd, ef, q⟩ := r'
    have : C' = C := Option.some.inj (ec'.symm.trans ec)
    subst this
    refine ⟨a, dx, fs, ex, rd.ins, φ1, h1, ρ, re, hs, ?_⟩
    refine w.bind (rel' := RpSs Z.cl) fun ss h2 φ2 H2 zs ee g hs2 r2 w2 => ⟨g.keep a _ off.1 rd.ins, φ2, h2, .t (.obj c ns us) :: ss, ⟨x, zs, rfl, g.s r, r2⟩, hs2, by simp [← rps_len r2, evS_len ee], ?_⟩
    revert w2
    cases Z.C i (.t (.obj c ns us) :: ss) h2 <;> exact id
  · rw [if_neg hcd] at w; exact w.elim
theorem s_callo {k c i : Nat} {e : Expr} (M : CallO X.pk Z k c i (ms.length + 1)) (hr : Room k X.A) (tk : Takes X W) (ho : PE X (.Name x px) (tE Z W mo)) (ha : PA X (e :: es) (tL Z W ms))
    (he : starEach (e :: es) X.env = (false, eval e X.env) :: starEach es X.env) (hp : (backTo pos (starEach es X.env)).any (·.1) = false) : PE X (.Call (.Name x px) (e :: es) [] pos) (tE Z W (.callo c i mo ms)) := by
  refine ⟨fun pins s σ H Q I t => ?_⟩
  obtain ⟨C, f, fd, ps, ec, cC, hm, hf, hfn, F, _, hb⟩ := M.ex
  refine wpAny_Call_Name_kw (thn (ho.run pins s σ H _ I (ev_callo ec t)) fun u s1 ⟨xv, H1, J, rx, a, dx, fs, ex, ea, q⟩ => ?_)
  subst ex
  obtain rfl : u = Value.ref a := rx
  refine inst_callWith (C := C) (thn (ha.run pos pins s1 σ H1 _ J q) fun us s2 ⟨zs, H2, J2, r, ea2, q2⟩ => ?_) he hp
  obtain ⟨mA, O, _⟩ := ins_get J2.hok ea2
  obtain ⟨od, Ia, _⟩ := O.look
  refine ⟨⟨_, od, ?_, Ia⟩, ?_⟩
  · rfl
  · refine wpAny_call (PySem.W.kco_code J2.kIn Ia ?_ hm hf hfn ?_)
    · rfl
    · have r2 : Vals (V.ref a :: zs) (Value.ref a :: us) := .cons rfl r
      have n1 : (Value.ref a :: us).length = ps.length := by rw [← r2.length, F.len _ _ _ _ q2]
      have b := hb _ (Value.ref a :: us) J2.kIn (by rw [List.append_nil]; exact n1)
      rw [List.append_nil] at b
      refine codeAny_mono (F.run _ X.stack _ _ ⟨Value.ref a :: us, []⟩ _ _ _ (WE W σ) hr (fun h => Bool.noConfusion h) J2.env0 b r2 q2) fun res s' z => ?_
      match res, z with
      | .error e, z => exact passAt tk σ pins _ _ e s' J2 z
      | .ok (.ret u), z =>
        obtain ⟨v, H', J3, rv, q3⟩ := J2.after z
        exact ⟨v, H', J3, rv, q3⟩
      | .ok .next, z => exact z.elim
      | .ok .brk, z => exact z.elim
      | .ok .cont, z => exact z.elim
end
/-! ### a list's methods -/
theorem idxT_spec {x : T} : ∀ {ys : List T} {n j : Nat}, idxT x ys n = some j → ∃ m y, j = n + m ∧ ys[m]? = some y ∧ eqT y x = true ∧ ∀ (m' : Nat) (y' : T), m' < m → ys[m']? = some y' → eqT y' x = false
  | [], n, j, e => by cases e
  | y :: ys, n, j, e => by
    simp only [idxT] at e
    split at e
    · rename_i h
      cases e
      exact ⟨0, y, rfl, rfl, h, fun m' y' hm => absurd hm (Nat.not_lt_zero _)⟩
    · rename_i h
      obtain ⟨m, z, e1, e2, e3, e4⟩ := idxT_spec e
      refine ⟨m + 1, z, by omega, by simpa using e2, e3, fun m' y' hm hy => ?_⟩
      cases m' with
      | zero => simp at hy; subst hy; simpa using h
      | succ k => exact e4 k y' (by omega) (by simpa using hy)
theorem pys_get (ys : List T) (m : Nat) : (pys ys)[m]? = (ys[m]?).map T.py := by
  induction ys generalizing m with
  | nil => simp [pys]
  | cons y ys ih =>
    cases m with
    | zero => simp [pys]
    | succ k => simp [pys, ih]
section
variable {X : Cx} {Z : Zs} {W : WX}
theorem evIdx {o e : E} {σ : L2.St} {H : Hp} {Q : VK} (t : tE Z W (.idxof o e) σ H Q) : tBM X.K "list" (rIndexD X.K) (tE Z W o) (tL Z W [e]) σ H Q := by
  refine t.seq (rel' := RpS Z.cl) (f := fun s ρ h1 => (isL s h1).bind fun _ h1 => (evE Z.G Z.C ρ h1 e).bind fun u h2 => (liftO (dref h2 s) h2).bind fun v h2 => (liftO (dref h2 u) h2).bind fun w h2 => (liftO (sem2 .index v w) h2).bind fun z h2 => .ok (.t z) h2) (fun ρ h => by simp only [evE]) fun s h1 φ1 H1 x ρ re hs r m => ?_
  obtain ⟨ks, e0, m⟩ := m.isL
  refine ⟨sql_of hs r e0, φ1, h1, ρ, re, hs, ?_⟩
  simp only [evS]
  have m' : MW Z.cl Z.xr (RpS Z.cl) W σ φ1 H1 ((evE Z.G Z.C ρ h1 e).bind fun u h2 => (liftO (dref h2 s) h2).bind fun v h2 => (liftO (dref h2 u) h2).bind fun w h2 => (liftO (sem2 .index v w) h2).bind fun z h2 => .ok (.t z) h2) Q := m
  cases ee : evE Z.G Z.C ρ h1 e with
  | bad => rw [ee] at m'; exact m'.elim
  | ex c fs h' => rw [ee] at m'; exact m'
  | ok u h2 =>
    rw [ee] at m'
    simp only [My.R.bind_ok] at m' ⊢
    intro φ2 H2 vs g hs2 r2
    obtain ⟨y, _, ev, r2, e2⟩ := r2
    cases e2
    subst ev
    have m2 := m'.grow g
    obtain ⟨v, ev, m3⟩ := m2.lift
    obtain ⟨w, ew, m4⟩ := m3.lift
    obtain ⟨z, ez, m5⟩ := m4.lift
    clear m2 m3 m4
    have q1 := RpS.dref hs2 (g.s r) ev
    have q2 := RpS.dref hs2 r2 ew
    cases v <;> first
      | (cases ez; done)
      | (cases w <;> cases ez; done)
      | skip
    rename_i xs
    simp only [sem2] at ez
    split at ez
    · rename_i hc
      simp only [Bool.and_eq_true] at hc
      rw [Option.map_eq_some_iff] at ez
      obtain ⟨j, ej, ez⟩ := ez
      subst ez
      obtain ⟨d1, s1⟩ := shp_data hc.1
      obtain ⟨d2, s2⟩ := shp_data hc.2
      obtain ⟨mm, yy, e1, e2, e3, e4⟩ := idxT_spec ej
      have ej : j = mm := by omega
      subst ej
      obtain ⟨a, us, ex, rd, rq⟩ := id q1
      subst ex
      refine ⟨a, y, w.py, pys xs, j, yy.py, rfl, rfl, Rp.dp d2 q1.d, Rp.dp d1 q2.d, s2, s1, by rw [pys_get, e2]; rfl, e3, fun m' z' hm hz => ?_, nowInt m5 hs2⟩
      rw [pys_get] at hz
      cases hy : xs[m']? with
      | none => rw [hy] at hz; cases hz
      | some y' => rw [hy] at hz; cases hz; exact e4 m' y' hm hy
    · cases ez
theorem s_idxof {a b : Expr} {ma mb : E} {apos cpos : Pos} (hu : X.A.units + 65 < cLine) (ha : PE X a (tE Z W ma)) (hb : PA X [b] (tL Z W [mb])) (hbase : attributeBase a "index" X.env (eval a X.env) = eval a X.env)
    (hfew : ((backTo cpos (starEach [b] X.env)).all (fun x => !x.1) && (backToKw cpos (keywordEach [] X.env)).all (fun x => x.1.isSome) && decide ([b].length + ([] : List Keyword).length + (if ([] : List Keyword).isEmpty then 0 else 1) < 30)) = true)
    (hline : (apos.endLine == cpos.line) = true) (hs : starEach [b] X.env = (false, eval b X.env) :: starEach [] X.env) (hp : (backTo cpos (starEach [] X.env)).any (·.1) = false) :
    PE X (.Call (.Attribute a "index" apos) [b] [] cpos) (tE Z W (.idxof ma mb)) :=
  pe_weak (pe_bm PySem.F.plainAttrs_list PySem.F.slot_list_index PySem.F.type_list_index (mt_indexD hu) ha hb hbase hfew hline hs hp) fun _ _ _ t => evIdx t
end
/-! ### a, b = e, e' by a tuple -/
def setVs : L2.St → List Nat → List V → L2.St
  | σ, i :: is, v :: vs => setVs (σ.set i (some v)) is vs
  | σ, _, _ => σ
abbrev tNs (is : List Nat) : TGs := fun vs σ H Q => vs.length = is.length ∧ Q (setVs σ is vs) H
section
variable {X : Cx} {Z : Zs} {W : WX} {es es2 : List Expr} {ms : List E} {is : List Nat}
theorem sns_nil : PGs X [] (tNs []) := pgs_weak pgs_nil fun vs σ H Q ⟨e, k⟩ => by
  cases vs with
  | cons _ _ => cases e
  | nil => exact ⟨rfl, k⟩
theorem sns_cons {i : Nat} {x : Str} {px : Pos} (hN : X.N.Nodup) (hi : X.N[i]? = some x) (hx : Loc X.env.scope x) (hf : X.fn x = true ∨ X.env.scope.names.lookup x = some .local) (h : PGs X es (tNs is)) :
    PGs X (.Name x px :: es) (tNs (i :: is)) := pgs_weak (pgs_cons (pg_name hN hi hx hf) h) fun vs σ H Q ⟨e, k⟩ => by
  cases vs with
  | nil => cases e
  | cons v vs => exact ⟨v, vs, rfl, by simpa using e, k⟩
theorem setAll_ok {cl : Cl} {φ : Phi} {H : Hp} : ∀ {is : List Nat} {ss : List S} {vs : List V} {ρ ρ1 : En} {σ : L2.St}, RpE cl φ H ρ σ → RpSs cl φ H ss vs → setAll ρ is ss = some ρ1 → vs.length = is.length ∧ RpE cl φ H ρ1 (setVs σ is vs)
  | [], [], vs, ρ, ρ1, σ, re, r, e => by
    cases e
    have : vs = [] := r
    subst this
    exact ⟨rfl, re⟩
  | i :: is, s :: ss, vs, ρ, ρ1, σ, re, r, e => by
    obtain ⟨v, ws, rfl, r1, r2⟩ := r
    have q := setAll_ok (re.set r1) r2 e
    exact ⟨by simp [q.1], q.2⟩
  | [], _ :: _, _, _, _, _, _, _, e => by cases e
  | _ :: _, [], _, _, _, _, _, _, e => by cases e
theorem s_parT {kk k2 : Nat} {px p2 pos : Pos} (hc : X.calm = true) (hl : ms.length ≤ 1000) (ha : PA X es2 (tL Z W ms)) (hg : PGs X es (tNs is)) (hn : (assignEach es X.env).length = is.length) (hst : (assignEach es X.env).findIdx? (·.1) = none)
    (hs : swapsWithSole [.Tuple es kk px] (.Tuple es2 k2 p2) pos.line X.env = pure false) (hw : swappedStores [.Tuple es kk px] (.Tuple es2 k2 p2) X.env = pure none)
    (h1 : (assignEach [.Tuple es kk px] X.env).map (·.2) = [assign (.Tuple es kk px) X.env]) : PS X (.Assign [.Tuple es kk px] (.Tuple es2 k2 p2) pos) (tS Z W (.par is ms)) :=
  ps_weak (ps_asg (pe_tup ha) (pg_tup (n := is.length) hc hg hn hst) hs hw h1) fun D σ H t => by
    refine t.with (rel' := RpSs Z.cl) (ev' := fun ρ h => evS Z.G Z.C ρ h ms) (f := fun ss ρ h1 => match setAll ρ is ss with | some ρ1 => .nx ρ1 h1 | none => .bad) (fun ρ h => by simp only [exS] <;> rfl) fun ss h0 h1 φ1 H1 vs ρ ee re hz r w => ?_
    have n1 : vs.length = ms.length := by rw [← rps_len r, evS_len ee]
    refine ⟨lim_of_len n1 hl, fun p np => ?_⟩
    cases es' : setAll ρ is ss with
    | none => rw [es'] at w; exact w.elim
    | some ρ1 =>
      rw [es'] at w
      have g : Grow φ1 H1 φ1 (upd H1 p (.tup vs)) := Grow.lay np
      obtain ⟨l1, re1⟩ := setAll_ok (g.e re) (g.ss r) es'
      exact ⟨p, vs, rfl, SqT.of upd_same, l1, l1, w φ1 _ _ g (hz.lay np) re1⟩
end
/-! ### isinstance(x, (A, B, ..)), built-in classes -/
def Ty.bi : Ty → Bool
  | .cls _ => false
  | _ => true
abbrev tTys (tys : List Ty) : TA := fun _ H Q => Q (tys.map fun t => V.ty t.name) H
section
variable {X : Cx} {Z : Zs} {W : WX}
theorem ty_nil : PA X [] (tTys []) := pa_weak pa_nil fun _ _ _ t => t
theorem ty_cons {ty : Ty} {tys : List Ty} {y : Str} {py : Pos} {es : List Expr} (h : PA X es (tTys tys)) (hgy : Gl X y) (hmy : X.mg y = none) (hvy : bootBuiltins y = some (.type ty.name)) (hny : y ≠ "__name__") (hdy : (y == ("__debug__" : Str)) = false)
    (he : starEach (.Name y py :: es) X.env = (false, eval (.Name y py) X.env) :: starEach es X.env) : PA X (.Name y py :: es) (tTys (ty :: tys)) :=
  pa_weak (pa_cons (pe_bltn (v := .ty ty.name) hgy hmy hvy rfl hny hdy) h he) fun _ _ _ t => t
theorem paired_tys : ∀ tys : List Ty, Paired ClsV (tys.map fun t => V.ty t.name) (tys.map fun t => Value.type t.name)
  | [] => .nil
  | t :: tys => .cons (.ty _) (paired_tys tys)
theorem s_isiT {a : Expr} {ma : E} {tys : List Ty} {es : List Expr} {p pt pos : Pos} {kk : Nat} (co : ClsOk X.K Z.cl Z.G.sub) (hg : Gl X "isinstance") (hm : X.mg "isinstance" = none) (ht : PA X es (tTys tys)) (hb : tys.all Ty.bi = true) (hl : tys.length ≤ 1000) (ha : PE X a (tE Z W ma))
    (he : starEach [a, .Tuple es kk pt] X.env = (false, eval a X.env) :: starEach [.Tuple es kk pt] X.env) (he2 : starEach [.Tuple es kk pt] X.env = (false, eval (.Tuple es kk pt) X.env) :: starEach [] X.env) (hp : (backTo pos (starEach [.Tuple es kk pt] X.env)).any (·.1) = false) :
    PE X (.Call (.Name "isinstance" p) [a, .Tuple es kk pt] [] pos) (tE Z W (.un (.isi tys) ma)) :=
  pe_weak (pe_callB call_isiT hg hm (by rfl) (pa_cons ha (pa_cons (pe_tup ht) pa_nil he2) he) (by decide) (by decide) he hp) fun σ H Q t => by
    obtain ⟨φ, h, ρ, re, hs, m⟩ := ev1 (X := X) t
    refine ⟨φ, h, ρ, re, hs, m.imp fun v H' q => ?_⟩
    obtain ⟨xr, W1, σ0, φ1, h1, t1, z, hs1, rt, e, m1⟩ := q
    cases e
    refine ⟨by rw [List.length_map]; exact Nat.le_trans hl (by decide), fun tp ntp => ?_⟩
    have g : Grow φ1 H' φ1 (upd H' tp (.tup (tys.map fun t => V.ty t.name))) := Grow.lay ntp
    have rt' : RpI Z.cl φ1 (upd H' tp (.tup (tys.map fun t => V.ty t.name))) t1 v := by
      cases t1 with
      | non | bl _ | int _ | str _ => exact rt
      | tup xs => obtain ⟨a, vs, e, o, rd, q⟩ := rt; exact ⟨a, vs, e, o, g.rx o.1 rd, g.rps q⟩
      | lst xs => obtain ⟨a, vs, e, rd, q⟩ := rt; exact ⟨a, vs, e, rd_upd ntp rd, g.rps q⟩
      | dct ks us => obtain ⟨a, vs, e, rd, f, q⟩ := rt; exact ⟨a, vs, e, rd_upd ntp rd, f, g.rps q⟩
      | obj c ns us => obtain ⟨a, C, dx, fs, e, ec, rd, f, q⟩ := rt; exact ⟨a, C, dx, fs, e, ec, rd_upd ntp rd, f, g.rps q⟩
    obtain ⟨tv, hty, hk⟩ := tyx_of co rt'
    have names : tys.map (Ty.val Z.cl) = (tys.map fun t => Value.type t.name).map some := by
      rw [List.map_map]
      refine List.map_congr_left fun t mt => ?_
      have := List.all_eq_true.mp hb t mt
      cases t <;> first | rfl | cases this
    exact ⟨v, tp, _, tv, _, tys.any (isTy Z.G.sub t1), rfl, upd_same, paired_tys tys, hty, kit_any (φ := φ1) (H := upd H' tp (.tup (tys.map fun t => V.ty t.name))) (v := v) co hk names, m1 φ1 _ _ g (hs1.lay ntp) (by show RpF Z.cl φ1 _ _ _; rw [RpF, Rp])⟩
end
end My

/-! MiniPy: more rules in short; what the head must say of classes, exceptions, constants. -/
namespace My
open PySem L2 PyProof.Rows
/-- an own class's name -/
structure IsC (B : Pk) (cl : Cl) (c : Nat) (x : Str) : Prop where
  ex : ∃ C, B.mg x = some (.ref C) ∧ cl c = some C
/-- an exception without, with one attribute -/
structure Rs0 (B : Pk) (xc : Xc) (c : Nat) (x : Str) : Prop where
  ex : ∃ C, xc c = some (C, none) ∧ Xc0 B.K C ∧ B.mg x = some (.ref C)
structure Rs1 (B : Pk) (xc : Xc) (k c : Nat) (x f : Str) : Prop where
  ex : ∃ C, xc c = some (C, some f) ∧ Xc1 B k C f ∧ B.mg x = some (.ref C)
/-- a module's constant -/
structure ConG (B : Pk) (G : Ctx) (g : Nat) (x : Str) : Prop where
  ex : ∃ v u, B.mg x = some u ∧ RelV v u ∧ conV (G.con g) = some v
/-- a class of sub: the classes' and exceptions' numbers -/
def subF (c d : Nat) : Bool := c == d || (d == 100 && decide (100 ≤ c))
/-- what is asked of the law's def -/
def spAll (G : Ctx) (D L : Nat) : Sp := fun zs H Q E => ∀ cl xr, spF cl xr 1 (callF G D L) zs H Q E
theorem FnG.weak {B : Pk} {gd : Bool} {k : Nat} {f : Addr} {fd : FuncData} {ps : List Str} {sp sp' : Sp} (F : FnG B gd k f fd ps sp) (h : ∀ zs H Q E, sp' zs H Q E → sp zs H Q E) : FnG B gd k f fd ps sp' :=
  ⟨fun zs H Q E q => F.len zs H Q E (h _ _ _ _ q), fun A fr s H a us zs Q E hr gu hl hb r q => F.run A fr s H a us zs Q E hr gu hl hb r (h _ _ _ _ q)⟩
theorem s_fz {X : Cx} {Z : Zs} {W : WX} {e : Expr} {m : E} (h : PE X e (tE Z W m)) : PE X e (tE Z W (.fz m)) := pe_weak h fun _ _ _ t => evFz t
namespace Q
section
variable {X : Cx} {Z : Zs} {W : WX} {a b e o : Expr} {ma mb mo m : E} {p p2 pos pos2 apos : Pos} {x f n : Str} {es : List Expr} {ms : List E} {xc : Xc}
theorem con {g : Nat} (h : ConG X.pk Z.G g x) (hg : Gl X x := by rfl) (hd : (x == ("__debug__" : Str)) = false := by decide) : PE X (.Name x pos) (tE Z W (.con g)) := by
  obtain ⟨v, u, hm, r, ev⟩ := h.ex
  exact s_con hg hm r ev hd
theorem raise0_ {c : Nat} (hz : Z.xr = xrOf Z.cl xc) (h : Rs0 X.pk xc c x) (tk : Takes X W) (hg : Gl X x := by rfl) (hd : (x == ("__debug__" : Str)) = false := by decide) (hc : X.calm = true := by rfl) :
    PS X (.Raise (some (.Call (.Name x p) [] [] pos)) none pos2) (tS Z W (.rais c [])) := by
  obtain ⟨C, ex, T, gC⟩ := h.ex
  exact s_raise0 hz ex T gC hg hd hc tk
theorem raise1_ {c k j : Nat} {f : Str} (hz : Z.xr = xrOf Z.cl xc) (h : Rs1 X.pk xc j c x f) (hr : Room k X.A) (tk : Takes X W) (ha : PE X e (tE Z W m)) (hj : j + 1 ≤ k := by omega) (hg : Gl X x := by rfl) (hd : (x == ("__debug__" : Str)) = false := by decide)
    (hc : X.calm = true := by rfl) (he : starEach [e] X.env = (false, eval e X.env) :: starEach [] X.env := by rfl) (hp : (backTo pos (starEach [] X.env)).any (·.1) = false := by rfl) :
    PS X (.Raise (some (.Call (.Name x p) [e] [] pos)) none pos2) (tS Z W (.rais c [m])) := by
  obtain ⟨C, ex, T, gC⟩ := h.ex
  exact s_raise1 hz ex T gC hg (hr.mono hj) hd hc tk (slT_cons ha slT_nil he) he hp
theorem isC (c : Nat) {y : Str} {py : Pos} (h : IsC X.pk Z.cl c y) (co : ClsOk X.K Z.cl Z.G.sub) (hm : X.mg "isinstance" = none) (ha : PE X a (tE Z W ma)) (hg : Gl X "isinstance" := by rfl) (hgy : Gl X y := by rfl) (hdy : (y == ("__debug__" : Str)) = false := by decide)
    (he : starEach [a, .Name y py] X.env = (false, eval a X.env) :: starEach [.Name y py] X.env := by rfl) (he2 : starEach [.Name y py] X.env = (false, eval (.Name y py) X.env) :: starEach [] X.env := by rfl) (hp : (backTo pos (starEach [.Name y py] X.env)).any (·.1) = false := by rfl) :
    PE X (.Call (.Name "isinstance" p) [a, .Name y py] [] pos) (tE Z W (.un (.isi [.cls c]) ma)) := by
  obtain ⟨C, hmy, ec⟩ := h.ex
  exact s_isiC co hg hm hgy hmy ec ha hdy he he2 hp
theorem compF (own : List (Str × Nat)) (i : Nat) {c : Nat} {tg : Tg} {cs : List E} {e : E} {elt tgE : Expr} {ifs : List Expr} {scope : Scope} {px pf : Pos} (nat : NoAt X.K Z.cl c f) (hN : X.N.Nodup) (ok : BlkOk X.N X.env.scope scope own)
    (hg : ∀ (s : Shared) (H : Hp) (C : Addr) (cl : List (Str × Addr)) (fp : List Addr), PG (X.blk s H scope (compEnvC scope cl C X.env) fp) tgE (tTg Z W0 tg))
    (ht : ∀ (s : Shared) (H : Hp) (C : Addr) (cl : List (Str × Addr)) (fp : List Addr), PTs (X.blk s H scope (compEnvC scope cl C X.env) fp) ifs (tCs Z W0 cs))
    (he : ∀ (s : Shared) (H : Hp) (C : Addr) (cl : List (Str × Addr)) (fp : List Addr), PE (X.blk s H scope (compEnvC scope cl C X.env) fp) elt (tE Z W0 e))
    (hi : X.N[i]? = some x := by rfl) (hv : Vis X.env.scope x := by first | exact Or.inl rfl | exact Or.inr (Or.inl rfl) | exact Or.inr (Or.inr rfl)) (hd : (x == ("__debug__" : Str)) = false := by decide) (hcd : (x == ("__classdict__" : Str)) = false := by decide)
    (hb : attributeBase (.Name x px) f X.env (eval (.Name x px) X.env) = eval (.Name x px) X.env := by rfl)
    (hc : X.calm = true := by rfl) (hsl : ∀ i ∈ tg.slots, i ∈ own.map (·.2) := by decide) (hf : ∀ y, foldedSetIterable (.Attribute (.Name x px) f pf) X.env y = pure y := by intro _; rfl) :
    PE X (.ListComp elt [⟨tgE, .Attribute (.Name x px) f pf, ifs, 0⟩] scope pos) (tE Z W (.compF (own.map (·.2)) tg i c f cs e)) := s_compF hc hN hi hv hd hcd nat hb ok hg ht he hsl hf
theorem dcomp (own : List (Str × Nat)) {tg : Tg} {it : It} {k e : E} {kx vx tgE iter : Expr} {scope : Scope} (hN : X.N.Nodup) (hi : PI X tgE iter (tI Z W it)) (ok : BlkOk X.N X.env.scope scope own)
    (hg : ∀ (s : Shared) (H : Hp) (C : Addr) (cl : List (Str × Addr)) (fp : List Addr), PG (X.blk s H scope (compEnvC scope cl C X.env) fp) tgE (tTg Z W0 tg))
    (hk : ∀ (s : Shared) (H : Hp) (C : Addr) (cl : List (Str × Addr)) (fp : List Addr), PE (X.blk s H scope (compEnvC scope cl C X.env) fp) kx (tE Z W0 k))
    (he : ∀ (s : Shared) (H : Hp) (C : Addr) (cl : List (Str × Addr)) (fp : List Addr), PE (X.blk s H scope (compEnvC scope cl C X.env) fp) vx (tE Z W0 e))
    (hc : X.calm = true := by rfl) (hsl : ∀ i ∈ tg.slots, i ∈ own.map (·.2) := by decide) (hf : ∀ x, foldedSetIterable iter X.env x = pure x := by intro _; rfl) :
    PE X (.DictComp kx vx [⟨tgE, iter, [], 0⟩] scope pos) (tE Z W (.dcomp (own.map (·.2)) tg it k e)) := s_dcomp hc hN hi ok hg hk he hsl hf
theorem callo {k j c i : Nat} {px : Pos} (M : CallO X.pk Z j c i (ms.length + 1)) (hr : Room k X.A) (tk : Takes X W) (ho : PE X (.Name x px) (tE Z W mo)) (ha : PA X (e :: es) (tL Z W ms)) (hj : j ≤ k := by omega)
    (he : starEach (e :: es) X.env = (false, eval e X.env) :: starEach es X.env := by rfl) (hp : (backTo pos (starEach es X.env)).any (·.1) = false := by rfl) : PE X (.Call (.Name x px) (e :: es) [] pos) (tE Z W (.callo c i mo ms)) := s_callo M (hr.mono hj) tk ho ha he hp
theorem tyc {ty : Ty} {tys : List Ty} {y : Str} {py : Pos} {es : List Expr} (hmy : X.mg y = none) (h : PA X es (tTys tys)) (hgy : Gl X y := by rfl) (hvy : bootBuiltins y = some (.type ty.name) := by rfl) (hny : y ≠ "__name__" := by decide) (hdy : (y == ("__debug__" : Str)) = false := by decide)
    (he : starEach (.Name y py :: es) X.env = (false, eval (.Name y py) X.env) :: starEach es X.env := by rfl) : PA X (.Name y py :: es) (tTys (ty :: tys)) := ty_cons h hgy hmy hvy hny hdy he
theorem isiT {tys : List Ty} {es : List Expr} {pt : Pos} {kk : Nat} (co : ClsOk X.K Z.cl Z.G.sub) (hm : X.mg "isinstance" = none) (ht : PA X es (tTys tys)) (ha : PE X a (tE Z W ma)) (hg : Gl X "isinstance" := by rfl) (hb : tys.all Ty.bi = true := by rfl) (hl : tys.length ≤ 1000 := by decide)
    (he : starEach [a, .Tuple es kk pt] X.env = (false, eval a X.env) :: starEach [.Tuple es kk pt] X.env := by rfl) (he2 : starEach [.Tuple es kk pt] X.env = (false, eval (.Tuple es kk pt) X.env) :: starEach [] X.env := by rfl) (hp : (backTo pos (starEach [.Tuple es kk pt] X.env)).any (·.1) = false := by rfl) :
    PE X (.Call (.Name "isinstance" p) [a, .Tuple es kk pt] [] pos) (tE Z W (.un (.isi tys) ma)) := s_isiT co hg hm ht hb hl ha he he2 hp
theorem nns (i : Nat) {is : List Nat} {px : Pos} {x : Str} {es : List Expr} (hN : X.N.Nodup) (h : PGs X es (tNs is)) (hi : X.N[i]? = some x := by rfl) (hx : Loc X.env.scope x := by first | exact Or.inl rfl | exact Or.inr rfl) (hf : X.fn x = true ∨ X.env.scope.names.lookup x = some .local := by first | exact Or.inl rfl | exact Or.inr rfl) :
    PGs X (.Name x px :: es) (tNs (i :: is)) := sns_cons hN hi hx hf h
theorem parT {es2 : List Expr} {is : List Nat} {kk k2 : Nat} {px p2 pos : Pos} (hg : PGs X es (tNs is)) (ha : PA X es2 (tL Z W ms)) (hl : ms.length ≤ 1000 := by decide) (hc : X.calm = true := by rfl) (hn : (assignEach es X.env).length = is.length := by rfl) (hst : (assignEach es X.env).findIdx? (·.1) = none := by rfl)
    (hs : swapsWithSole [.Tuple es kk px] (.Tuple es2 k2 p2) pos.line X.env = pure false := by rfl) (hw : swappedStores [.Tuple es kk px] (.Tuple es2 k2 p2) X.env = pure none := by rfl)
    (h1 : (assignEach [.Tuple es kk px] X.env).map (·.2) = [assign (.Tuple es kk px) X.env] := by rfl) : PS X (.Assign [.Tuple es kk px] (.Tuple es2 k2 p2) pos) (tS Z W (.par is ms)) := s_parT hc hl ha hg hn hst hs hw h1
theorem idxof {k : Nat} {apos cpos : Pos} (hr : Room k X.A) (ha : PE X a (tE Z W ma)) (hb : PE X b (tE Z W mb)) (hbase : attributeBase a "index" X.env (eval a X.env) = eval a X.env := by rfl)
    (hfew : ((backTo cpos (starEach [b] X.env)).all (fun x => !x.1) && (backToKw cpos (keywordEach [] X.env)).all (fun x => x.1.isSome) && decide ([b].length + ([] : List Keyword).length + (if ([] : List Keyword).isEmpty then 0 else 1) < 30)) = true := by rfl)
    (hline : (apos.endLine == cpos.line) = true := by rfl) (hs : starEach [b] X.env = (false, eval b X.env) :: starEach [] X.env := by rfl) (hp : (backTo cpos (starEach [] X.env)).any (·.1) = false := by rfl) :
    PE X (.Call (.Attribute a "index" apos) [b] [] cpos) (tE Z W (.idxof ma mb)) := s_idxof (u65 hr) ha (sl_cons hb sl_nil hs) hbase hfew hline hs hp
theorem zip_ {tpos : Pos} {elts : List Expr} {kk : Nat} (hm : X.mg "zip" = none) (ha : PE X a (tE Z W ma)) (hb : PE X b (tE Z W mb)) (hg : Gl X "zip" := by rfl) (hs : starEach [a, b] X.env = (false, eval a X.env) :: starEach [b] X.env := by rfl) (hs2 : starEach [b] X.env = (false, eval b X.env) :: starEach [] X.env := by rfl)
    (hpl : (backTo pos (starEach [b] X.env)).any (·.1) = false := by rfl) : PI X (.Tuple elts kk tpos) (.Call (.Name "zip" p) [a, b] [] pos) (tI Z W (.zip ma mb)) := si_zip hg hm (sl_cons ha (sl_cons hb sl_nil hs2) hs) hs hpl
theorem ez {tpos : Pos} {elts : List Expr} {kk : Nat} (hme : X.mg "enumerate" = none) (hm : X.mg "zip" = none) (ha : PE X a (tE Z W ma)) (hb : PE X b (tE Z W mb)) (hge : Gl X "enumerate" := by rfl) (hg : Gl X "zip" := by rfl)
    (hs : starEach [a, b] X.env = (false, eval a X.env) :: starEach [b] X.env := by rfl) (hs2 : starEach [b] X.env = (false, eval b X.env) :: starEach [] X.env := by rfl) (hpl : (backTo pos2 (starEach [b] X.env)).any (·.1) = false := by rfl)
    (hse : starEach [.Call (.Name "zip" p2) [a, b] [] pos2] X.env = (false, eval (.Call (.Name "zip" p2) [a, b] [] pos2) X.env) :: starEach [] X.env := by rfl) :
    PI X (.Tuple elts kk tpos) (.Call (.Name "enumerate" p) [.Call (.Name "zip" p2) [a, b] [] pos2] [] pos) (tI Z W (.enumzip ma mb)) := si_ez hge hme hg hm (sl_cons ha (sl_cons hb sl_nil hs2) hs) hs hpl hse
end
end Q
end My

/-! MiniPy: lists made anew that change later; == and != of own classes; list(d.items()). -/
namespace My
open PySem L2 PyProof.Rows
section
variable {X : Cx} {Z : Zs} {W : WX} {a b e : Expr} {ma mb m : E} {p pos apos cpos : Pos} {x : Str}
/-! ### list(e), sorted(e), changed later -/
abbrev rNw (cl : Cl) (sub : Nat → Nat → Bool) (o : U) : List V → Hp → VK → Prop := fun vs H Q => ∃ x φ h t xs, vs = [x] ∧ Hs cl φ h H ∧ RpI cl φ H t x ∧ newQ sub o t = some xs ∧ ∀ p ws, H p = none → Rps cl (Off φ) H xs ws → Q (.ref p) (upd H p (.lst ws))
theorem newQ_list {sub : Nat → Nat → Bool} {t : T} {xs : List T} (e : newQ sub .list t = some xs) : sem1 sub .list t = some (.lst xs) := by
  unfold newQ at e
  split at e
  · rename_i h1 h2; cases e; assumption
  · rename_i h1 h2 h3; cases h2
  · cases e
theorem newQ_sorted {sub : Nat → Nat → Bool} {t : T} {xs : List T} (e : newQ sub .sorted t = some xs) : sem1 sub .sorted t = some (.lst xs) := by
  unfold newQ at e
  split at e
  · rename_i h1 h2; cases h1
  · rename_i h1 h2; cases e; assumption
  · cases e
theorem nw_list {cl : Cl} {sub : Nat → Nat → Bool} (hc : X.calm = true) : CallR X (.type "list") (rNw cl sub .list) := by
  intro pins s σ H xs us Q I r ⟨x, φ, h, t, ws, ex, hs, rt, e, q⟩
  subst ex
  have e := newQ_list e
  cases t with
  | non | bl _ | int _ | obj _ _ _ => cases e
  | str y =>
    simp only [sem1] at e
    split at e
    · rename_i hl
      cases e; cases rt
      refine call_list_text hc pins s σ H _ us Q I r ⟨y, rfl, lim_le hl, fun p np => q p _ np ?_⟩
      have go : ∀ l : List Nat, Rps cl (Off φ) H (l.map fun c => T.str ⟨#[c]⟩) (l.map fun c => V.str ⟨#[c]⟩) := fun l => by
        induction l with
        | nil => exact .nil
        | cons c l ih => exact .cons rfl ih
      exact go _
    · cases e
  | tup ys =>
    cases e
    obtain ⟨a, vs, e1, _, rd, q1⟩ := rt
    subst e1
    exact call_list_of pins s σ H _ us Q I r ⟨a, vs, rfl, .inr (.inl rd.rd), fun p np => q p _ np q1⟩
  | lst ys =>
    cases e
    obtain ⟨a, vs, e1, rd, q1⟩ := rt
    subst e1
    exact call_list_of pins s σ H _ us Q I r ⟨a, vs, rfl, .inl (.inl rd.rd), fun p np => q p _ np q1⟩
  | dct ks ys =>
    cases e
    obtain ⟨a, kvs, e1, rd, ek, q1⟩ := rt
    subst e1; subst ek
    refine call_listD hc pins s σ H _ us Q I r ⟨a, kvs, rfl, rd.rd, fun p np => q p _ np ?_⟩
    have go : ∀ l : List (Key × V), Rps cl (Off φ) H (l.map fun p => keyT p.1) (l.map fun kv => kV kv.1) := fun l => by
      induction l with
      | nil => exact .nil
      | cons p l ih => exact .cons (by obtain ⟨k, v⟩ := p; cases k <;> exact rp_key _) ih
    exact go kvs
theorem nw_sorted {cl : Cl} {sub : Nat → Nat → Bool} : CallR X (.builtin "sorted") (rNw cl sub .sorted) := by
  intro pins s σ H xs us Q I r ⟨x, φ, h, t, ws, ex, hs, rt, e, q⟩
  subst ex
  have e := newQ_sorted e
  cases t with
  | non | bl _ | int _ | obj _ _ _ | str _ | tup _ | dct _ _ => cases e
  | lst ys =>
    simp only [sem1] at e
    cases e2 : strsOf ys with
    | none => rw [e2] at e; cases e
    | some ss =>
      rw [e2] at e
      dsimp only at e
      split at e
      · rename_i hl
        cases e
        obtain ⟨a, vs, e1, rd, q1⟩ := rt
        subst e1
        have hv := q1.strs e2
        subst hv
        refine cr_sortedS pins s σ H _ us Q I r ⟨a, ss, rfl, .inl rd.rd, hl, fun ys p pm so n => q p _ n ?_⟩
        rw [sortS_eq pm so]
        exact Rps.ofStrs _
      · cases e
theorem nw_arg {u : U} {σ : L2.St} {H : Hp} {Q : VK} (t : tE Z W (.nw u ma) σ H Q) : tL Z W [ma] σ H fun vs H1 => rNw Z.cl Z.G.sub u vs H1 Q := by
  refine t.seq (rel' := RpSs Z.cl) (f := fun ss ρ h1 => match ss with | [s] => (liftO (dref h1 s) h1).bind fun v h1 => (liftO (newQ Z.G.sub u v) h1).bind fun xs h1 => .ok (.r h1.length) (h1 ++ [.lst xs]) | _ => .bad) (fun ρ h => ?_) fun ss h1 φ1 H1 vs ρ re hs r m => ?_
  · simp only [evE, evS]
    cases evE Z.G Z.C ρ h ma <;> rfl
  · match ss, vs, r, m with
    | [s], _, ⟨v, _, rfl, r1, rfl⟩, m =>
      obtain ⟨t, e1, m⟩ := m.lift
      obtain ⟨xs, e2, m⟩ := m.lift
      refine ⟨v, φ1, h1, t, xs, rfl, hs, RpS.dref hs r1 e1, e2, fun q ws nq pp => ?_⟩
      have mv : ∀ b w, Off φ1 b → Rx H1 b w → Off (φ1.push q) b ∧ Rx (upd H1 q (.lst ws)) b w := fun b w ob r => ⟨off_push nq ob r, rd_upd nq r⟩
      have qq := Rps.move mv pp
      refine m (φ1.push q) _ _ (Grow.push nq) (hs.push nq ⟨ws, upd_same, qq⟩) ⟨by simp [hs.len], fun a e => ?_⟩
      rw [← hs.len] at e
      simpa using e
    | [], _, _, m => exact m.elim
    | _ :: _ :: _, _, _, m => exact m.elim
/-! ### list(d.items()) -/
theorem pe_listItemsR {te : TE} (hc : X.calm = true) (he : PE X e te) (hg : Gl X "list") (hm : X.mg "list" = none) (hv : bootBuiltins "list" = some (.type "list")) (hbase : attributeBase e "items" X.env (eval e X.env) = eval e X.env := by rfl) (hline : (apos.endLine == cpos.line) = true := by rfl)
    (hs : starEach [.Call (.Attribute e "items" apos) [] [] cpos] X.env = (false, eval (.Call (.Attribute e "items" apos) [] [] cpos) X.env) :: starEach [] X.env := by rfl) :
    PE X (.Call (.Name "list" p) [.Call (.Attribute e "items" apos) [] [] cpos] [] pos) (fun σ H Q => te σ H fun x H1 => ∃ (d : Addr) (kvs : List (Key × V)), x = .ref d ∧ Rd H1 d (.dK kvs) ∧
      ∀ (H' : Hp) (p : Addr) (ts : List Addr), (∀ b o, H1 b = some o → H' b = some o) → H1 p = none → (∀ t ∈ ts, H1 t = none) → p ∉ ts → H' p = some (.lst (ts.map V.ref)) → Paired (fun (t : Addr) (q : Key × V) => H' t = some (.tup [kV q.1, q.2])) ts kvs → Q (.ref p) H') := by
  refine ⟨fun pins s σ H Q I hq => ?_⟩
  refine wpAny_Call_Name_kw (ld_blt I hg hm hv ?_)
  refine PyProof.Rows.callWith_type1 ?_ hs rfl
  rw [hs]
  show wpAny _ _ (spliced ((false, eval (.Call (.Attribute e "items" apos) [] [] cpos) X.env) :: backTo pos (starEach [] X.env))) _ _ s
  refine Calls.spliced_cons ?_
  refine wpAny_Call_method (T := "dict") (id := "dict.items") hbase rfl hline F.plainAttrs_dict F.slot_dict_items F.type_dict_items (thn (he.run pins s σ H _ I hq) fun u s1 ⟨x, H1, I1, rx, d, kvs, ex, hd, q⟩ => ?_)
  subst ex
  obtain rfl : u = Value.ref d := rx
  obtain ⟨hz, hs0, vs, kv, hdo⟩ := hd.ok I1.hok
  obtain ⟨ep, hat⟩ := hdo.dictAt
  have lk : kvs.length = vs.length := Paired.length kv
  have I2 : Inv X pins σ H1 { s1 with heap := s1.heap.push { cls := .type "dict_items", data := .fields #[.ref d] } } := I1.kept (t' := s1.toks) fun b ob q => Heap.get?_push_of_some _ q
  refine ⟨hdo.typeIs, hdo.mapOf.noDict, ?_⟩
  show wpAny _ _ (callWith cpos (.builtin "dict.items") [.ref d] [] []) _ X.xe s1
  refine method_meetsIn F.slot_dict_items F.entry_dict_items rfl (PySem.evalArgs_none ⟨rfl, hdo.typeIs, F.args_dict_items_1 _, _, meets_dict_items (mixKind X.prog X.w) d hs0, ⟨vs, hdo⟩, ?_⟩)
  refine Calls.spliced_nil ?_
  refine PySem.W.kdx_call (knd := mixKind X.prog X.w) (kvs := vs) (ep := ep) (I1.ok.hd hc) ⟨_, Heap.get?_push_size _ rfl, rfl, rfl⟩ (hat.push _) (by omega) fun h' tk acc c as hk hS hl hG hacc => ?_
  obtain ⟨H', k1, k2, k3, k4, k5, k6, J⟩ := LiI.items_laid (tk := tk) I2 hz kv hk hS hl hG hacc
  exact ⟨.ref _, H', J, rfl, q H' _ as k1 k2 k3 k4 k5 k6⟩

theorem Grow.ext {φ : Phi} {H H' : Hp} (kp : ∀ b o, H b = some o → H' b = some o) : Grow φ H φ H' := ⟨Nat.le_refl _, fun _ _ _ h => h, fun _ h => .inl h, fun a u _ e => kp a u e, rfl⟩
theorem Rx.ext {H H' : Hp} (kp : ∀ b o, H b = some o → H' b = some o) {a : Addr} {u : HO} (r : Rx H a u) : Rx H' a u := r.elim (fun q => .inl (kp a u q)) fun ⟨l, o, q⟩ => .inr ⟨l, o, kp a _ q⟩
theorem Hs.ext {cl : Cl} {φ : Phi} {h : Hm} {H H' : Hp} (x : Hs cl φ h H) (kp : ∀ b o, H b = some o → H' b = some o) : Hs cl φ h H' where
  len := x.len
  get := fun m u e => by
    rcases x.get m u e with q | ⟨a, q, r⟩
    · exact .inl q
    · refine .inr ⟨a, q, RpO.move (fun b w ob r => ⟨ob, Rx.ext kp r⟩) ?_ r⟩
      cases z : H a with
      | none => exact (r.some z).elim
      | some o => rw [kp a o z]
  inj := x.inj
  res := fun a h => ⟨by
    cases z : H a with
    | none => exact ((x.res a h).1 z).elim
    | some o => rw [kp a o z]; simp, (x.res a h).2⟩
theorem items_rp {cl : Cl} {φ : Phi} {H' : Hp} : ∀ {us : List T} {kvs : List (Key × V)} {ts : List Addr}, Rps cl (Off φ) H' us (kvs.map (·.2)) → Paired (fun (t : Addr) (q : Key × V) => H' t = some (.tup [kV q.1, q.2])) ts kvs → (∀ t ∈ ts, Off φ t) →
    Rps cl (Off φ) H' (List.zipWith (fun k v => T.tup [k, v]) (kvs.map fun p => keyT p.1) us) (ts.map V.ref)
  | us, [], [], r, .nil, _ => by
    have := r.length
    have := List.eq_nil_of_length_eq_zero this
    subst this
    exact .nil
  | us, (k, v) :: kvs, t :: ts, r, .cons p ps, off => by
    cases us with
    | nil => have := r.length; simp at this
    | cons u us =>
      obtain ⟨w, ws, e, r1, r2⟩ := r.inv
      cases e
      refine .cons ?_ (items_rp r2 ps fun x m => off x (List.mem_cons_of_mem _ m))
      rw [Rp]
      exact ⟨t, _, rfl, off t List.mem_cons_self, .inl p, .cons (rp_key k) (.cons r1 .nil)⟩
theorem s_items (hc : X.calm = true) (he : PE X e (tE Z W m)) (hg : Gl X "list") (hm : X.mg "list" = none) (hbase : attributeBase e "items" X.env (eval e X.env) = eval e X.env := by rfl) (hline : (apos.endLine == cpos.line) = true := by rfl)
    (hs : starEach [.Call (.Attribute e "items" apos) [] [] cpos] X.env = (false, eval (.Call (.Attribute e "items" apos) [] [] cpos) X.env) :: starEach [] X.env := by rfl) :
    PE X (.Call (.Name "list" p) [.Call (.Attribute e "items" apos) [] [] cpos] [] pos) (tE Z W (.un .items m)) := pe_weak (pe_listItemsR hc he hg hm (by rfl) hbase hline hs) fun σ H Q t => by
  refine t.seq (rel' := RpS Z.cl) (f := fun s ρ h1 => (liftO (dref h1 s) h1).bind fun v h1 => (liftO (sem1 Z.G.sub .items v) h1).bind fun w h1 => .ok (.t w) h1) (fun ρ h => by simp only [evE]) fun s h1 φ1 H1 x ρ re hs1 r m => ?_
  obtain ⟨v, e1, m⟩ := m.lift
  obtain ⟨w, e2, m⟩ := m.lift
  have rt := RpS.dref hs1 r e1
  cases v <;> first
    | (cases e2; done)
    | skip
  cases e2
  obtain ⟨d, kvs, ex, rd, ek, q⟩ := rt
  subst ek
  refine ⟨d, kvs, ex, rd.rd, fun H' p ts kp np nts pn hp prs => ?_⟩
  have off : ∀ a, H1 a = none → Off φ1 a := fun a n => hs1.offNone n
  have q' : Rps Z.cl (Off φ1) H' _ (kvs.map (·.2)) := Rps.move (fun b w ob r => ⟨ob, Rx.ext kp r⟩) q
  refine m φ1 H' (.ref p) (Grow.ext kp) (hs1.ext kp) ?_
  show RpF Z.cl φ1 H' _ _
  rw [RpF, Rp]
  exact ⟨p, _, rfl, off p np, .inl hp, items_rp q' prs fun t mt => off t (nts t mt)⟩
/-! ### == and != of own classes -/
/-- what the head must say for != -/
structure NeC (B : Pk) (cl : Cl) (c : Nat) : Prop where
  ex : ∀ C, cl c = some C → PySem.W.findIn B.K (.ref C) "__ne__" = some (some (.builtin "object.__ne__")) ∧ PySem.W.mroIn B.K C (.type "object") = some true
def Oth (C : Addr) (y : V) (H : Hp) : Prop := ∃ b, y = .ref b ∧ ((∃ dy gs, H b = some (.ins C dy gs)) ∨ (∃ vs, Rd H b (.lst vs)) ∨ ∃ vs, Rd H b (.tup vs))
theorem sub_bi {K : PySem.W.Frag} {C : Addr} {T : String} {l : List Value} (e : fastBuiltinMro T = some l) (h : l.contains (.ref C) = false) : PySem.W.subIn K (.type T) (.ref C) = some false := by
  show (fastBuiltinMro T).map (·.contains (.ref C)) = some false
  rw [e, Option.map_some, h]
theorem Oth.looks {pins : List (Addr × Obj)} {σ : L2.St} {H : Hp} {s : Shared} {C : Addr} {y : V} {u : Value} (I : Inv X pins σ H s) (ry : RelV y u) (o : Oth C y H) : ∃ tb, PySem.W.Looks (model X.prog X.w) s.heap (typeOf u) tb ∧ PySem.W.notFirst X.K C tb = true := by
  obtain ⟨b, ey, o⟩ := o
  subst ey
  cases (show u = Value.ref b from ry)
  have lk : ∀ {ob : Obj} {tb : Value}, s.heap.get? b = some ob → ob.cls = tb → PySem.W.Looks (model X.prog X.w) s.heap (typeOf (.ref b)) tb := fun {ob tb} e c A Q E s' k q => wpAny_typeOf_ref (k _ _ e) (by rw [c]; exact q)
  rcases o with ⟨dy, gs, e⟩ | ⟨vs, rd⟩ | ⟨vs, rd⟩
  · obtain ⟨ox, od, J⟩ := ins_at I e
    exact ⟨_, J.type, by simp [PySem.W.notFirst]⟩
  · obtain ⟨_, its, n, r1, e1⟩ := rd.ok I.hok
    refine ⟨_, lk e1 rfl, ?_⟩
    have e := sub_bi (K := X.K) (C := C) (T := "list") (l := [.type "list", .type "object"]) (by decide +kernel) (by first | rfl | simp)
    simp [PySem.W.notFirst, e]
  · obtain ⟨_, its, r1, ⟨ob, e1, c1, _⟩⟩ := rd.ok I.hok
    refine ⟨_, lk e1 c1, ?_⟩
    have e := sub_bi (K := X.K) (C := C) (T := "tuple") (l := [.type "tuple", .type "object"]) (by decide +kernel) (by first | rfl | simp)
    simp [PySem.W.notFirst, e]

end
section
variable {M : Model} {prog : Program} {w : World} {A : Around} {E : Value → Shared → Prop} {s : Shared} {K : PySem.W.Frag} {x C f : Addr} {ox : Obj} {od : Option Obj} {u tb : Value}
theorem ifBound_objNe {args : List Value} {Q : Option Value → Shared → Prop} (X : K.In s.heap) (I : PySem.W.InstAt s.heap x ox C od) (hs : PySem.W.findIn K (.ref C) "__ne__" = some (some (.builtin "object.__ne__")))
    (h : wpAny M A (call (.builtin "object.__ne__") (.ref x :: args)) (fun v => Q (some v)) E s) : wpAny M A (callSpecialIfBound? (.ref x) "__ne__" args) Q E s := by
  simp only [callSpecialIfBound?, bindSpecialIfBound?]
  refine wpAny_holding (wpAny_bind (wpAny_bind (wpAny_bind (I.type.here ((PySem.W.looks_findIn X hs).here ?_)))))
  refine wpAny_bind (wpAny_askSetting (wpAny_ite ?_))
  have fin : wpAny M A (call (.builtin "object.__ne__") ([.ref x] ++ args) >>= fun v => pure (some v)) Q E s := wpAny_bind (wpAny_mono h (fun v s' h' => wpAny_pure h') fun _ _ h' => h')
  split
  · exact wpAny_bind (wpAny_of_eq (F.cmp_object.ne.bind _) (wpAny_pure (by exact fin)))
  · exact wpAny_tryCatch (wpAny_bind (wpAny_of_eq (F.cmp_object.ne.bind _) (wpAny_pure (by exact fin))))
theorem entry_ne (X : K.In s.heap) (I : PySem.W.InstAt s.heap x ox C od) (hu : A.units < cLine) (hs : PySem.W.findIn K (.ref C) "__eq__" = some (some (.ref f))) (hf : PySem.W.isFn K (.ref f) = true) {Q : Fin → Shared → Prop}
    (hcall : wpAny (model prog w) A (call (.ref f) [.ref x, u]) (fun v s' => ∃ b, v = .bool b ∧ Q (.done (.ret (.bool (!b)))) s') E s) : wpAny (model prog w) A (Builtin.«object.__ne__» ⟨[.ref x, u], []⟩) Q E s := by
  unfold Builtin.«object.__ne__»
  repeat (first
    | with_reducible refine wpAny_cRoomFor hu ?_
    | (refine wpAny_bind (m := callSpecialIfBound? (.ref x) (Str.ofString "__eq__") [u])
        (PySem.W.ifBound_K X I hs hf (wpAny_mono hcall (fun r s' hr => by
          obtain ⟨b, rfl, hq⟩ := hr
          repeat (first | exact hq | exact wpAny_pure hq | exact wpAny_truthy_bool hq | (refine wpAny_bind (m := truthy (.bool _)) (wpAny_truthy_bool ?_)) | wp_step)) fun _ _ e => e)))
    | wp_step)
theorem ne_K {L : Addr} {h₀ : Heap} {m : Str → Option Value} {Q : Value → Shared → Prop} (hu : A.units + 1 < cLine) (hF0 : Fr h₀ L s.heap m) (X₀ : K.In h₀) (I : PySem.W.InstAt s.heap x ox C od) (hb : PySem.W.Looks (model prog w) s.heap (typeOf u) tb) (hn : PySem.W.notFirst K C tb = true)
    (hs : PySem.W.findIn K (.ref C) "__eq__" = some (some (.ref f))) (hf : PySem.W.isFn K (.ref f) = true) (hne : PySem.W.findIn K (.ref C) "__ne__" = some (some (.builtin "object.__ne__"))) (hm : PySem.W.mroIn K C (.type "object") = some true)
    (h : wpAny (model prog w) A.in1 (call (.ref f) [.ref x, u]) (fun v s' => ∃ b, v = .bool b ∧ Q (.bool (!b)) s') E s) : wpAny (model prog w) A (richCompare .NotEq (.ref x) u) Q E s := by
  have X := X₀.keeps hF0.keep
  have one : wpAny (model prog w) A (tryCompare (.ref x) "__ne__" u) (fun r s' => ∃ v, r = some v ∧ Q v s') E s := by
    unfold tryCompare
    refine wpAny_bind (ifBound_objNe X I hne (wpAny_call (codeAny_call_builtin F.cmp_object.ne.plain F.cmpEntry_ne (PySem.W.check_slot F.cmpKind_ne F.cmpSplit_ne (I.type.andThen (PySem.W.looks_mroIn X hm)) (F.cmpArgs_ne _ _) (entry_ne (A := A.in1) X I hu hs hf (wpAny_mono h (fun v s' hv => ?_) fun _ _ e => e))))))
    obtain ⟨b, rfl, hq⟩ := hv
    first
      | exact ⟨b, rfl, _, rfl, wpAny_pure ⟨_, rfl, hq⟩⟩
      | exact ⟨b, rfl, wpAny_pure ⟨_, rfl, hq⟩⟩
      | exact ⟨b, rfl, wpAny_pure (wpAny_pure ⟨_, rfl, hq⟩)⟩
  unfold richCompare
  simp only [oneThing_ref]
  refine wpAny_holding (wpAny_bind (wpAny_cRoomFor (Nat.lt_of_succ_lt hu) ?_))
  rw [cmpInfo_NotEq]
  dsimp only
  refine wpAny_bind (I.type.here (wpAny_bind (hb.here ?_)))
  split
  · rename_i q
    have e : PySem.W.subIn K tb (.ref C) = some false := by
      rcases Bool.or_eq_true_iff.mp hn with e | e
      · rw [beq_iff_eq.mp e] at q; simp at q
      · exact beq_iff_eq.mp e
    refine wpAny_bind ((PySem.W.looks_subIn X e).here ?_)
    simp only [Bool.false_eq_true, if_false]
    refine wpAny_bind (wpAny_mono one (fun r s' z => ?_) fun _ _ e => e)
    obtain ⟨v, rfl, hq⟩ := z
    exact wpAny_pure hq
  · refine wpAny_bind (wpAny_pure ?_)
    simp only [Bool.false_eq_true, if_false]
    refine wpAny_bind (wpAny_mono one (fun r s' z => ?_) fun _ _ e => e)
    obtain ⟨v, rfl, hq⟩ := z
    exact wpAny_pure hq
end
section
variable {X : Cx} {Z : Zs} {W : WX} {a b : Expr} {ma mb : E} {pos : Pos}
abbrev rQ (X : Cx) (Z : Zs) (C : Addr) (i : Nat) (g : Bool → Bool) : R2 := fun x y H Q => ∃ a dx fs, x = .ref a ∧ H a = some (.ins C dx fs) ∧ Oth C y H ∧ spF Z.cl Z.xr 2 (Z.C i) [x, y] H (fun v H' => ∃ k, v = .bl k ∧ Q (.bl (g k)) H') fun _ _ _ => False
theorem op_eqQ {k i : Nat} {C f : Addr} {fd : FuncData} {ps : List Str} (hl : PySem.W.findIn X.K (.ref C) "__eq__" = some (some (.ref f))) (hf : PySem.W.isFn X.K (.ref f) = true) (F : FnG X.pk false k f fd ps (spF Z.cl Z.xr 2 (Z.C i))) (bd : Binds X.K fd ps []) (hr : Room k X.A) : OpR X (compareOp .Eq) (rQ X Z C i fun b => b) := by
  intro pins s σ H x y v u Q I rx ry ⟨a, dx, fs, ex, ea, ot, sp⟩
  subst ex
  cases (show v = Value.ref a from rx)
  obtain ⟨ox, od, J⟩ := ins_at I ea
  obtain ⟨m, hF⟩ := I.fr
  obtain ⟨tb, lk, nf⟩ := ot.looks I ry
  have hu : X.A.units < cLine := by have := hr.un; omega
  show wpAny _ _ (richCompare .Eq (.ref a) u) _ _ _
  refine PySem.W.cmp_K (op := .Eq) (tb := tb) hu hF I.ok.mod.kin J lk nf hl hf ?_
  refine wpAny_mono (run_G (W := W0) (σ := σ) F hr (fun h => Bool.noConfusion h) bd takes0 I (us := [.ref a, u]) (zs := [.ref a, y]) (.cons rfl (.cons ry .nil)) sp) (fun r s' z => ?_) fun _ _ z => z
  obtain ⟨w, H1, J1, rv, k', ev, q⟩ := z
  subst ev
  cases (show r = Value.bool k' from rv)
  exact ⟨.bl k', H1, J1, rfl, q⟩
theorem op_neQ {k c i : Nat} {C f : Addr} {fd : FuncData} {ps : List Str} (N : NeC X.pk Z.cl c) (ec : Z.cl c = some C) (hl : PySem.W.findIn X.K (.ref C) "__eq__" = some (some (.ref f))) (hf : PySem.W.isFn X.K (.ref f) = true) (F : FnG X.pk false k f fd ps (spF Z.cl Z.xr 2 (Z.C i))) (hps : ps.length = 2) (bd : Binds X.K fd ps []) (hr : Room (k + 1) X.A) : OpR X (compareOp .NotEq) (rQ X Z C i fun b => !b) := by
  intro pins s σ H x y v u Q I rx ry ⟨a, dx, fs, ex, ea, ot, sp⟩
  subst ex
  cases (show v = Value.ref a from rx)
  obtain ⟨ox, od, J⟩ := ins_at I ea
  obtain ⟨m, hF⟩ := I.fr
  obtain ⟨tb, lk, nf⟩ := ot.looks I ry
  obtain ⟨n1, n2⟩ := N.ex C ec
  have hu : X.A.units + 1 < cLine := by have := hr.un; omega
  show wpAny _ _ (richCompare .NotEq (.ref a) u) _ _ _
  refine ne_K (tb := tb) hu hF I.ok.mod.kin J lk nf hl hf n1 n2 ?_
  have b := bd s [.ref a, u] I.kIn (by simpa using hps.symm)
  refine wpAny_call (codeAny_mono (F.run X.A.in1 X.stack s H ⟨[.ref a, u], []⟩ [.ref a, u] [.ref a, y] _ _ hr.in1 (fun h => Bool.noConfusion h) I.env0.in1 b (.cons rfl (.cons ry .nil)) sp) fun res s' z => ?_)
  match res, z with
  | .error e, ⟨_, _, _, _, _, _, _, _, _, _, _, _, z⟩ => exact z.elim
  | .ok (.ret u'), z =>
    obtain ⟨v', H', J2, rv, j, ev, q⟩ := I.after z
    subst ev
    cases (show u' = Value.bool j from rv)
    exact ⟨j, rfl, .bl (!j), H', J2, rfl, q⟩
  | .ok .next, z => exact z.elim
  | .ok .brk, z => exact z.elim
  | .ok .cont, z => exact z.elim
theorem othQ_is {φ : Phi} {h : Hm} {H : Hp} {c : Nat} {C : Addr} {s : S} {y : V} {z : Unit} (ec : Z.cl c = some C) (hs : Hs Z.cl φ h H) (r : RpS Z.cl φ H s y) (e : othQ c s h = some z) : Oth C y H := by
  unfold othQ at e
  cases e1 : dref h s with
  | none => rw [e1] at e; cases e
  | some t =>
    rw [e1] at e
    have q := RpS.dref hs r e1
    cases t <;> first
      | (cases e; done)
      | skip
    · obtain ⟨b, vs, ey, _, rd, _⟩ := q
      exact ⟨b, ey, .inr (.inr ⟨vs, rd.rd⟩)⟩
    · obtain ⟨b, vs, ey, rd, _⟩ := q
      exact ⟨b, ey, .inr (.inl ⟨vs, rd.rd⟩)⟩
    · rename_i d ns us
      dsimp only at e
      split at e
      · rename_i hc
        subst hc
        obtain ⟨b, C', dx, fs, ey, ec', rd, _⟩ := q
        have : C' = C := Option.some.inj (ec'.symm.trans ec)
        subst this
        exact ⟨b, ey, .inl ⟨dx, fs, rd.ins⟩⟩
      · cases e
theorem ev_ownq {neg : Bool} {c i : Nat} {C : Addr} (ec : Z.cl c = some C) {σ : L2.St} {H : Hp} {Q : VK} (t : tE Z W (.ownq neg c i ma mb) σ H Q) : tE Z W ma σ H fun x H1 => tE Z W mb σ H1 fun y H2 => rQ X Z C i (fun b => b != neg) x y H2 Q := by
  refine t.seq (rel' := RpS Z.cl) (f := fun s ρ h1 => (evE Z.G Z.C ρ h1 mb).bind fun u h2 => (liftO (isO c s h2) h2).bind fun _ h2 => (liftO (othQ c u h2) h2).bind fun _ h2 => (noEx (Z.C i [s, u] h2)).bind fun r h3 => (asB r h3).bind fun k h3 => .ok (.t (.bl (k != neg))) h3) (fun ρ h => by simp only [evE]) fun s h1 φ1 H1 x ρ re hs r m => ?_
  refine ⟨φ1, h1, ρ, re, hs, m.bind fun u h2 φ2 H2 y _ g hs2 r2 m2 => ?_⟩
  obtain ⟨p, e1, m2⟩ := m2.lift
  obtain ⟨p', e2, m2⟩ := m2.lift
  obtain ⟨a, C', dx, fs, ex, ec', ea, ef, q⟩ := isO_is hs2 (g.s r) e1
  have z1 : C' = C := Option.some.inj (ec'.symm.trans ec)
  subst z1
  refine ⟨a, dx, fs, ex, ea, othQ_is ec hs2 r2 e2, φ2, h2, [s, u], ⟨_, _, rfl, g.s r, ⟨_, _, rfl, r2, rfl⟩⟩, hs2, rfl, ?_⟩
  revert m2
  cases Z.C i [s, u] h2 with
  | bad => exact fun w => w.elim
  | ex _ _ _ => exact fun w => w.elim
  | ok rr h3 =>
    intro m2 φ' H' v g' hs' rv
    simp only [noEx, R.bind_ok] at m2
    cases rr with
    | r _ => exact m2.elim
    | t tt =>
      cases tt <;> first
        | exact m2.elim
        | skip
      rename_i k
      have ev : v = .bl k := by
        have q : RpF Z.cl φ' H' (.bl k) v := rv
        rw [RpF, Rp] at q
        exact q
      exact ⟨k, ev, nowBl (m2.grow g') hs'⟩
theorem rQ_same {C : Addr} {i : Nat} : rQ X Z C i (fun b => b != false) = rQ X Z C i (fun b => b) := by
  have e : (fun b : Bool => b != false) = fun b => b := by funext b; cases b <;> rfl
  rw [e]
theorem rQ_not {C : Addr} {i : Nat} : rQ X Z C i (fun b => b != true) = rQ X Z C i (fun b => !b) := by
  have e : (fun b : Bool => b != true) = fun b => !b := by funext b; cases b <;> rfl
  rw [e]
end
namespace Q
section
variable {X : Cx} {Z : Zs} {W : WX} {a b e : Expr} {ma mb m : E} {p pos apos cpos : Pos} {x : Str}
theorem eqQ {k j c i : Nat} (M : OwnG X.pk Z j c "__eq__" i 2) (hr : Room k X.A) (ha : PE X a (tE Z W ma)) (hb : PE X b (tE Z W mb)) (hj : j ≤ k := by omega) (hm : behindInMarks .Eq b = false := by rfl) : PE X (.Compare a [.Eq] [b] pos) (tE Z W (.ownq false c i ma mb)) := by
  obtain ⟨C, f, fd, ps, ec, hl, hf, F, _, bd⟩ := M.ex
  exact pe_weak (pe_cmpR (op_eqQ (X := X) (Z := Z) (i := i) hl hf F bd (hr.mono hj)) ha hb hm) fun σ H Q t => by have z := ev_ownq (X := X) ec t; rw [rQ_same] at z; exact z
theorem teqQ {k j c i : Nat} (M : OwnG X.pk Z j c "__eq__" i 2) (hr : Room k X.A) (ha : PE X a (tE Z W ma)) (hb : PE X b (tE Z W mb)) (hj : j ≤ k := by omega) (hm : behindInMarks .Eq b = false := by rfl) : PT X (.Compare a [.Eq] [b] pos) (tB' Z W (.ownq false c i ma mb)) := by
  obtain ⟨C, f, fd, ps, ec, hl, hf, F, _, bd⟩ := M.ex
  exact pt_weak (pt_cmpR (op_eqQ (X := X) (Z := Z) (i := i) hl hf F bd (hr.mono hj)) ha hb hm) fun σ H Q t => by have z := ev_ownq (X := X) ec (toB t); rw [rQ_same] at z; exact z
theorem neQ {k j c i : Nat} (N : NeC X.pk Z.cl c) (M : OwnG X.pk Z j c "__eq__" i 2) (hr : Room k X.A) (ha : PE X a (tE Z W ma)) (hb : PE X b (tE Z W mb)) (hj : j + 1 ≤ k := by omega) (hm : behindInMarks .NotEq b = false := by rfl) : PE X (.Compare a [.NotEq] [b] pos) (tE Z W (.ownq true c i ma mb)) := by
  obtain ⟨C, f, fd, ps, ec, hl, hf, F, hps, bd⟩ := M.ex
  exact pe_weak (pe_cmpR (op_neQ (X := X) (Z := Z) (i := i) N ec hl hf F hps bd (hr.mono hj)) ha hb hm) fun σ H Q t => by have z := ev_ownq (X := X) ec t; rw [rQ_not] at z; exact z
theorem tneQ {k j c i : Nat} (N : NeC X.pk Z.cl c) (M : OwnG X.pk Z j c "__eq__" i 2) (hr : Room k X.A) (ha : PE X a (tE Z W ma)) (hb : PE X b (tE Z W mb)) (hj : j + 1 ≤ k := by omega) (hm : behindInMarks .NotEq b = false := by rfl) : PT X (.Compare a [.NotEq] [b] pos) (tB' Z W (.ownq true c i ma mb)) := by
  obtain ⟨C, f, fd, ps, ec, hl, hf, F, hps, bd⟩ := M.ex
  exact pt_weak (pt_cmpR (op_neQ (X := X) (Z := Z) (i := i) N ec hl hf F hps bd (hr.mono hj)) ha hb hm) fun σ H Q t => by have z := ev_ownq (X := X) ec (toB t); rw [rQ_not] at z; exact z
theorem items (hm : X.mg "list" = none) (he : PE X e (tE Z W m)) (hc : X.calm = true := by rfl) (hg : Gl X "list" := by rfl) (hbase : attributeBase e "items" X.env (eval e X.env) = eval e X.env := by rfl) (hline : (apos.endLine == cpos.line) = true := by rfl)
    (hs : starEach [.Call (.Attribute e "items" apos) [] [] cpos] X.env = (false, eval (.Call (.Attribute e "items" apos) [] [] cpos) X.env) :: starEach [] X.env := by rfl) :
    PE X (.Call (.Name "list" p) [.Call (.Attribute e "items" apos) [] [] cpos] [] pos) (tE Z W (.un .items m)) := s_items hc he hg hm hbase hline hs
theorem nwL (hm : X.mg "list" = none) (ha : PE X a (tE Z W ma)) (hc : X.calm = true := by rfl) (hg : Gl X "list" := by rfl) (he : starEach [a] X.env = (false, eval a X.env) :: starEach [] X.env := by rfl) (hp : (backTo pos (starEach [] X.env)).any (·.1) = false := by rfl) :
    PE X (.Call (.Name "list" p) [a] [] pos) (tE Z W (.nw .list ma)) := pe_weak (pe_callTy (nw_list (cl := Z.cl) (sub := Z.G.sub) hc) hg hm (by rfl) (sl_cons ha sl_nil he) (by decide) (by decide) he hp) fun _ _ _ t => nw_arg t
theorem nwS (hm : X.mg "sorted" = none) (ha : PE X a (tE Z W ma)) (hg : Gl X "sorted" := by rfl) (he : starEach [a] X.env = (false, eval a X.env) :: starEach [] X.env := by rfl) (hp : (backTo pos (starEach [] X.env)).any (·.1) = false := by rfl) :
    PE X (.Call (.Name "sorted" p) [a] [] pos) (tE Z W (.nw .sorted ma)) := pe_weak (pe_callB (nw_sorted (cl := Z.cl) (sub := Z.G.sub)) hg hm (by rfl) (sl_cons ha sl_nil he) (by decide) (by decide) he hp) fun _ _ _ t => nw_arg t
end
end Q
end My

/-! try, in short. -/
namespace My
open PySem L2 PyProof.Rows
/-- what the head must say of a clause's class -/
structure HdC (B : Pk) (G : Ctx) (xc : Xc) (c : Nat) (x : Str) : Prop where
  ex : ∃ C', B.mg x = some (.ref C') ∧ ∀ c2 C2 o, xc c2 = some (C2, o) → PySem.W.exmOne B.K (.ref C2) (.ref C') = some (G.sub c2 c)
/-- .. of a class whose attribute is told -/
structure XvC (B : Pk) (G : Ctx) (xc : Xc) (c : Nat) (f : Str) : Prop where
  ex : ∃ C, XfC B.K C ∧ PySem.W.findIn B.K (.ref C) f = some none ∧ ∀ c2, G.sub c2 c = true → xc c2 = some (C, some f)
def HdsE (X : Cx) (Z : Zs) (xc : Xc) (hds : List ExceptHandler) (cs : List (Nat × Option Nat)) (ms : List (List St)) : Prop := ∃ l, HdsM X Z xc hds l cs ms
namespace Q
section
variable {X : Cx} {Z : Zs} {W : WX} {xc : Xc} {x n f : Str} {p1 p2 np hp pos : Pos} {hds : List ExceptHandler} {cs : List (Nat × Option Nat)} {ms : List (List St)} {m : List St} {s0 : Stmt} {suite : List Stmt}
theorem heNil : HdsE X Z xc [] [] [] := ⟨_, .nil⟩
theorem hePlain {c : Nat} (h : HdC X.pk Z.G xc c x) (ok : SuiteOk X (s0 :: suite) (tX Z none c m)) (r : HdsE X Z xc hds cs ms) (hg : Gl X x := by rfl) (hd : (x == ("__debug__" : Str)) = false := by decide) :
    HdsE X Z xc (.ExceptHandler (some (.Name x np)) none (s0 :: suite) hp :: hds) ((c, none) :: cs) (m :: ms) := by
  obtain ⟨C', hm, sub⟩ := h.ex
  obtain ⟨l, r⟩ := r
  exact ⟨_, .plain (C' := C') ⟨hg, hd, .inl hm⟩ sub ok r⟩
theorem heNamed {c : Nat} (i : Nat) (hN : X.N.Nodup) (h : HdC X.pk Z.G xc c x) (ok : SuiteOk X (s0 :: suite) (tX Z (some i) c m)) (r : HdsE X Z xc hds cs ms) (hi : X.N[i]? = some n := by rfl) (hl : X.env.kindOf n = some .local := by rfl) (hg : Gl X x := by rfl) (hd : (x == ("__debug__" : Str)) = false := by decide) :
    HdsE X Z xc (.ExceptHandler (some (.Name x np)) (some n) (s0 :: suite) hp :: hds) ((c, some i) :: cs) (m :: ms) := by
  obtain ⟨C', hm, sub⟩ := h.ex
  obtain ⟨l, r⟩ := r
  exact ⟨_, .named (C' := C') hN hi hl ⟨hg, hd, .inl hm⟩ sub ok r⟩
theorem tryE {body : List Stmt} {h0 : ExceptHandler} {bm : List St} (hz : Z.xr = xrOf Z.cl xc) (tk : Takes X W)
    (hb : ∀ (W : WX) (pn : List (Addr × Obj)) (xe : Value → Shared → Prop), Takes (X.tr pn xe) W → PassesOwn (model X.prog X.w) X.A X.env xe → PSs (X.tr pn xe) body (tSs Z W bm)) (hh : HdsE X Z xc (h0 :: hds) cs ms) (stk : X.stack = X.env :: X.outer := by rfl)
    (frm : X.env.frame = some X.env.locals := by rfl) : PS X (.Try body (h0 :: hds) [] [] pos) (tS Z W (.tryx bm cs ms)) := by
  obtain ⟨l, hh⟩ := hh
  exact s_try hz stk frm tk hb hh
theorem suAny {i : Option Nat} {k : Nat} (h : ∀ (e : Addr) (oe : Obj) (pn : List (Addr × Obj)), PSs (X.suite e ((e, oe) :: pn)) suite (tSs Z W0 m)) (nox : ∀ w rp, m ≠ [.retx w rp] := by intro _ _ z; cases z) : SuiteOk X suite (tX Z i k m) := su_any nox h
theorem xvF (i : Nat) {c : Nat} (hz : Z.xr = xrOf Z.cl xc) (v : XvC X.pk Z.G xc c f) (hi : X.N[i]? = some n := by rfl) (hv : Vis X.env.scope n := by first | exact Or.inl rfl | exact Or.inr (Or.inl rfl) | exact Or.inr (Or.inr rfl)) (hd : (n == ("__debug__" : Str)) = false := by decide) (hcd : (n == ("__classdict__" : Str)) = false := by decide)
    (hb : attributeBase (.Name n p1) f X.env (eval (.Name n p1) X.env) = eval (.Name n p1) X.env := by rfl) (e : Addr) (oe : Obj) (cls : Value) (d : Option Addr) (pn : List (Addr × Obj)) (z : Zc cls d oe) (hf : ∃ vs, oe.data = .fields vs) :
    PE (X.suite e ((e, oe) :: pn)) (.Attribute (.Name n p1) f p2) (tXv Z i c false e cls d) := by
  obtain ⟨C, T, hno, uq⟩ := v.ex
  exact xv_plain hz hi hv hd hcd T hno uq hb e oe cls d pn z hf
end
end Q
end My

/-! The mini language, step by step: what an expression, a statement gives from what its parts give. -/
namespace My
mutual
/-- what is written out -/
def cE : E → Option T
  | .non => some .non
  | .bl b => some (.bl b)
  | .int i => some (.int i)
  | .str x => some (.str x)
  | .tup es => (cEs es).map .tup
  | .lst es => (cEs es).map .lst
  | _ => none
def cEs : List E → Option (List T)
  | [] => some []
  | e :: es => (cE e).bind fun v => (cEs es).map fun vs => v :: vs
end
mutual
theorem cE_ev {G : Ctx} {C : Orc} {ρ : En} {h : Hm} : ∀ {e : E} {v : T}, cE e = some v → evE G C ρ h e = .ok (.t v) h
  | .non, v, e => by simp only [cE] at e; cases e; simp [evE]
  | .bl _, v, e => by simp only [cE] at e; cases e; simp [evE]
  | .int _, v, e => by simp only [cE] at e; cases e; simp [evE]
  | .str _, v, e => by simp only [cE] at e; cases e; simp [evE]
  | .tup es, v, e => by
    simp only [cE, Option.map_eq_some_iff] at e
    obtain ⟨vs, e1, rfl⟩ := e
    simp [evE, cEs_ev e1]
  | .lst es, v, e => by
    simp only [cE, Option.map_eq_some_iff] at e
    obtain ⟨vs, e1, rfl⟩ := e
    simp [evE, cEs_ev e1]
  | .var _, v, e | .con _, v, e | .newl _, v, e | .newd, v, e | .dct0, v, e | .un _ _, v, e | .bin _ _ _, v, e | .not _, v, e | .and _ _, v, e | .or _ _, v, e | .ch _ _ _ _ _, v, e | .ite _ _ _, v, e | .slf _ _, v, e | .slt _ _, v, e | .slb _ _ _, v, e
  | .get _ _ _, v, e | .call _ _, v, e | .app _ _, v, e | .popat _ _, v, e | .comp _ _ _ _ _, v, e | .fz _, v, e | .catn _ _, v, e | .fld _ _ _, v, e | .make _ _ _, v, e | .meth _ _ _ _ _, v, e | .prop _ _ _, v, e | .clr _, v, e | .join _ _, v, e | .own2 _ _ _ _ _, v, e | .ownl _ _ _, v, e | .owne _ _ _ _, v, e | .ownq _ _ _ _ _, v, e | .nw _ _, v, e | .compF _ _ _ _ _ _ _, v, e | .dcomp _ _ _ _ _, v, e | .rem _ _, v, e | .callo _ _ _ _, v, e | .idxof _ _, v, e => by simp [cE] at e
theorem cEs_ev {G : Ctx} {C : Orc} {ρ : En} {h : Hm} : ∀ {es : List E} {vs : List T}, cEs es = some vs → evTs G C ρ h es = .ok vs h
  | [], vs, e => by simp only [cEs] at e; cases e; simp [evTs]
  | x :: es, vs, e => by
    simp only [cEs, Option.bind_eq_some_iff, Option.map_eq_some_iff] at e
    obtain ⟨v, e1, us, e2, rfl⟩ := e
    simp [evTs, cE_ev e1, cEs_ev e2, asT]
end
namespace B
section
variable {G : Ctx} {C : Orc} {ρ ρ1 : En} {h h1 h2 h3 : Hm} {a b c e : E} {s u w : S} {v v2 z : T} {es : List E} {ss : List S} {vs : List T}
theorem var {i : Nat} (e : ρ[i]? = some (some s)) : evE G C ρ h (.var i) = .ok s h := by simp [evE, e]
theorem tup (e : evTs G C ρ h es = .ok vs h1) : evE G C ρ h (.tup es) = .ok (.t (.tup vs)) h1 := by simp [evE, e]
theorem lst (e : evTs G C ρ h es = .ok vs h1) : evE G C ρ h (.lst es) = .ok (.t (.lst vs)) h1 := by simp [evE, e]
theorem newl (e : evTs G C ρ h es = .ok vs h1) : evE G C ρ h (.newl es) = .ok (.r h1.length) (h1 ++ [.lst vs]) := by simp [evE, e]
theorem tnil : evTs G C ρ h [] = .ok [] h := by simp [evTs]
theorem tcons (e1 : evE G C ρ h e = .ok (.t v) h1) (e2 : evTs G C ρ h1 es = .ok vs h2) : evTs G C ρ h (e :: es) = .ok (v :: vs) h2 := by simp [evTs, e1, e2, asT]
theorem nil : evS G C ρ h [] = .ok [] h := by simp [evS]
theorem cons (e1 : evE G C ρ h e = .ok s h1) (e2 : evS G C ρ h1 es = .ok ss h2) : evS G C ρ h (e :: es) = .ok (s :: ss) h2 := by simp [evS, e1, e2]
theorem un {o : U} (e1 : evE G C ρ h e = .ok s h1) (d : dref h1 s = some v) (m : sem1 G.sub o v = some z) : evE G C ρ h (.un o e) = .ok (.t z) h1 := by simp [evE, e1, d, m]
theorem bin {o : Bo} (e1 : evE G C ρ h a = .ok s h1) (e2 : evE G C ρ h1 b = .ok u h2) (d1 : dref h2 s = some v) (d2 : dref h2 u = some v2) (m : sem2 o v v2 = some z) : evE G C ρ h (.bin o a b) = .ok (.t z) h2 := by simp [evE, e1, e2, d1, d2, m]
theorem catn {xs : List T} (e1 : evE G C ρ h a = .ok s h1) (e2 : evE G C ρ h1 b = .ok u h2) (d1 : dref h2 s = some v) (d2 : dref h2 u = some v2) (m : catL v v2 = some xs) : evE G C ρ h (.catn a b) = .ok (.r h2.length) (h2 ++ [.lst xs]) := by simp [evE, e1, e2, d1, d2, m]
theorem not {k : Bool} (e1 : evE G C ρ h a = .ok (.t (.bl k)) h1) : evE G C ρ h (.not a) = .ok (.t (.bl (!k))) h1 := by simp [evE, e1, asB]
theorem and1 (e1 : evE G C ρ h a = .ok (.t (.bl true)) h1) (e2 : evE G C ρ h1 b = .ok s h2) : evE G C ρ h (.and a b) = .ok s h2 := by simp [evE, e1, e2, asB]
theorem and0 (e1 : evE G C ρ h a = .ok (.t (.bl false)) h1) : evE G C ρ h (.and a b) = .ok (.t (.bl false)) h1 := by simp [evE, e1, asB]
theorem or1 (e1 : evE G C ρ h a = .ok (.t (.bl true)) h1) : evE G C ρ h (.or a b) = .ok (.t (.bl true)) h1 := by simp [evE, e1, asB]
theorem or0 (e1 : evE G C ρ h a = .ok (.t (.bl false)) h1) (e2 : evE G C ρ h1 b = .ok s h2) : evE G C ρ h (.or a b) = .ok s h2 := by simp [evE, e1, e2, asB]
theorem and {k l : Bool} (e1 : evE G C ρ h a = .ok (.t (.bl k)) h1) (e2 : evE G C ρ h1 b = .ok (.t (.bl l)) h1) : evE G C ρ h (.and a b) = .ok (.t (.bl (k && l))) h1 := by cases k <;> simp [evE, e1, e2, asB]
theorem or {k l : Bool} (e1 : evE G C ρ h a = .ok (.t (.bl k)) h1) (e2 : evE G C ρ h1 b = .ok (.t (.bl l)) h1) : evE G C ρ h (.or a b) = .ok (.t (.bl (k || l))) h1 := by cases k <;> simp [evE, e1, e2, asB]
theorem ite1 (e1 : evE G C ρ h c = .ok (.t (.bl true)) h1) (e2 : evE G C ρ h1 a = .ok s h2) : evE G C ρ h (.ite c a b) = .ok s h2 := by simp [evE, e1, e2, asB]
theorem ite0 (e1 : evE G C ρ h c = .ok (.t (.bl false)) h1) (e2 : evE G C ρ h1 b = .ok s h2) : evE G C ρ h (.ite c a b) = .ok s h2 := by simp [evE, e1, e2, asB]
theorem call {f : Nat} (e1 : evS G C ρ h es = .ok ss h1) (e2 : C f ss h1 = .ok s h2) : evE G C ρ h (.call f es) = .ok s h2 := by simp [evE, e1, e2]
theorem slfT {xs : List T} {n : Nat} (e1 : evE G C ρ h e = .ok s h1) (d : dref h1 s = some (.tup xs)) : evE G C ρ h (.slf e (.int n)) = .ok (.t (.tup (cutL xs (some n) none))) h1 := by simp [evE, e1, asI, cutE, d]
theorem sltT {xs : List T} {n : Nat} (e1 : evE G C ρ h e = .ok s h1) (d : dref h1 s = some (.tup xs)) : evE G C ρ h (.slt e (.int n)) = .ok (.t (.tup (cutL xs none (some n)))) h1 := by simp [evE, e1, asI, cutE, d]
theorem get {ks us : List T} {k : L2.Key} (e1 : evE G C ρ h a = .ok s h1) (e2 : evE G C ρ h1 b = .ok (.t v) h2) (e3 : evE G C ρ h2 c = .ok (.t v2) h3) (d1 : dref h1 s = some (.dct ks us)) (d : dref h3 s = some (.dct ks us)) (hk : keyOf v = some k) :
    evE G C ρ h (.get a b c) = .ok (.t ((getD k ks us).getD v2)) h3 := by simp [evE, e1, e2, e3, isD, d1, d, asT, getF, hk]
theorem app {n : Nat} {xs : List T} (e1 : evE G C ρ h a = .ok (.r n) h1) (d1 : ∃ ys, h1[n]? = some (.lst ys)) (e2 : evE G C ρ h1 b = .ok (.t v) h2) (d : h2[n]? = some (.lst xs)) (hl : lim (xs.length + 1) = true) : evE G C ρ h (.app a b) = .ok (.t .non) (h2.set n (.lst (xs ++ [v]))) := by
  obtain ⟨ys, d1⟩ := d1
  simp [evE, e1, e2, isL, dref, d1, asT, appF, d, hl]
theorem itOf {p : List T × Option (Nat × MO)} (e1 : evE G C ρ h e = .ok s h1) (i : itemsOf s h1 = some p) : evIt G C ρ h (.of e) = .ok p h1 := by simp [evIt, e1, i]
theorem itRng {p : List T × Option (Nat × MO)} {n : Int} (e1 : evE G C ρ h e = .ok (.t (.int n)) h1) (i : rngO 0 n = some p) : evIt G C ρ h (.rng1 e) = .ok p h1 := by simp [evIt, e1, i]
/-! statements -/
variable {o : Out} {st : St} {sts sts2 : List St} {i : Nat} {tg : Tg} {it : It}
theorem sn : exSs G C ρ h [] = .nx ρ h := by simp [exSs]
theorem sc (e1 : exS G C ρ h st = .nx ρ1 h1) (e2 : exSs G C ρ1 h1 sts = o) : exSs G C ρ h (st :: sts) = o := by simp [exSs, e1, e2]
theorem sr (e1 : exS G C ρ h st = .rt s h1) : exSs G C ρ h (st :: sts) = .rt s h1 := by simp [exSs, e1]
theorem asg (e1 : evE G C ρ h e = .ok s h1) : exS G C ρ h (.asg (.name i) e) = .nx (ρ.set i (some s)) h1 := by simp [exS, e1, setTg]
theorem asgT (e1 : evE G C ρ h e = .ok s h1) (e2 : setTg tg s ρ = some ρ1) : exS G C ρ h (.asg tg e) = .nx ρ1 h1 := by simp [exS, e1, e2]
theorem par {is : List Nat} (e1 : evS G C ρ h es = .ok ss h1) (e2 : setAll ρ is ss = some ρ1) : exS G C ρ h (.par is es) = .nx ρ1 h1 := by simp [exS, e1, e2]
theorem ex (e1 : evE G C ρ h e = .ok s h1) : exS G C ρ h (.ex e) = .nx ρ h1 := by simp [exS, e1]
theorem ret (e1 : evE G C ρ h e = .ok s h1) : exS G C ρ h (.ret e) = .rt s h1 := by simp [exS, e1]
theorem if1 (e1 : evE G C ρ h c = .ok (.t (.bl true)) h1) (e2 : exSs G C ρ h1 sts = o) : exS G C ρ h (.ife c sts sts2) = o := by simp [exS, e1, e2, asB]
theorem if0 (e1 : evE G C ρ h c = .ok (.t (.bl false)) h1) (e2 : exSs G C ρ h1 sts2 = o) : exS G C ρ h (.ife c sts sts2) = o := by simp [exS, e1, e2, asB]
theorem setL {n k : Nat} {xs : List T} {j : Int} (e1 : evE G C ρ h c = .ok (.t v) h1) (e2 : evE G C ρ h1 a = .ok (.r n) h2) (e3 : evE G C ρ h2 b = .ok (.t (.int j)) h3) (d : h3[n]? = some (.lst xs)) (hk : L2.ixN xs.length j = some k) :
    exS G C ρ h (.seti a b c) = .nx ρ (h3.set n (.lst (xs.set k v))) := by simp [exS, e1, e2, e3, d, hk]
theorem setD {n : Nat} {ks us : List T} {k : L2.Key} (e1 : evE G C ρ h c = .ok (.t v) h1) (e2 : evE G C ρ h1 a = .ok (.r n) h2) (e3 : evE G C ρ h2 b = .ok (.t v2) h3) (d : h3[n]? = some (.dct ks us)) (hk : keyOf v2 = some k) (hl : lim (ks.length + 1) = true) :
    exS G C ρ h (.seti a b c) = .nx ρ (h3.set n (.dct (putD k v ks us).1 (putD k v ks us).2)) := by simp [exS, e1, e2, e3, d, hk, hl]
theorem fr {p : List T × Option (Nat × MO)} (e1 : evIt G C ρ h it = .ok p h1) (e2 : forL p.2 (fun x ρ h => match setTg tg (.t x) ρ with | some ρ1 => exSs G C ρ1 h sts | none => .bad) p.1 ρ h1 = o) : exS G C ρ h (.for tg it sts) = o := by
  simp only [exS, e1, R.out_ok]; exact e2
/-- a loop that goes to its end, by an invariant over what is left -/
theorem loop {g : Option (Nat × MO)} {f : T → En → Hm → Out} {I : List T → En → Hm → Prop} (gd : ∀ xs ρ h, I xs ρ h → gOk g h = true) (step : ∀ x xs ρ h, I (x :: xs) ρ h → ∃ ρ' h', f x ρ h = .nx ρ' h' ∧ I xs ρ' h') :
    ∀ {its : List T} {ρ : En} {h : Hm}, I its ρ h → ∃ ρ' h', forL g f its ρ h = .nx ρ' h' ∧ I [] ρ' h'
  | [], ρ, h, i => ⟨ρ, h, by simp [forL, gd _ _ _ i], i⟩
  | x :: xs, ρ, h, i => by
    obtain ⟨ρ1, h1, e1, i1⟩ := step x xs ρ h i
    obtain ⟨ρ2, h2, e2, i2⟩ := loop gd step i1
    exact ⟨ρ2, h2, by simp [forL, gd _ _ _ i, e1, e2], i2⟩
theorem def_ {d f : Nat} {fd : Fd} (e : G.fs f = some fd) (hl : ss.length = fd.np) (b : exSs G (callF G d) (startE fd.ns ss) h fd.body = o) : callF G (d + 1) f ss h = runF h.length o := by simp [callF, e, hl, b]
theorem int {i : Int} : evE G C ρ h (.int i) = .ok (.t (.int i)) h := by simp [evE]
theorem str {x : PySem.Str} : evE G C ρ h (.str x) = .ok (.t (.str x)) h := by simp [evE]
theorem bl {x : Bool} : evE G C ρ h (.bl x) = .ok (.t (.bl x)) h := by simp [evE]
theorem newd : evE G C ρ h .newd = .ok (.r h.length) (h ++ [.dct [] []]) := by simp [evE]
theorem dct0 : evE G C ρ h .dct0 = .ok (.t (.dct [] [])) h := by simp [evE]
theorem non : evE G C ρ h .non = .ok (.t .non) h := by simp [evE]
theorem dret {d f : Nat} {fd : Fd} (e : G.fs f = some fd) (hl : ss.length = fd.np) (b : exSs G (callF G d) (startE fd.ns ss) h fd.body = .rt (.t v) h1) : callF G (d + 1) f ss h = .ok (.t v) (h1.take h.length) := by
  rw [def_ e hl b]; rfl
theorem dret0 {d f : Nat} {fd : Fd} (e : G.fs f = some fd) (hl : ss.length = fd.np) (b : exSs G (callF G d) (startE fd.ns ss) h fd.body = .rt (.t v) h) : callF G (d + 1) f ss h = .ok (.t v) h := by
  rw [dret e hl b, List.take_length]
theorem drr {d f n : Nat} {fd : Fd} {xs : List T} (e : G.fs f = some fd) (hl : ss.length = fd.np) (b : exSs G (callF G d) (startE fd.ns ss) h fd.body = .rt (.r n) h1) (le : h.length ≤ n) (at_ : h1[n]? = some (.lst xs)) : callF G (d + 1) f ss h = .ok (.r h.length) (h1.take h.length ++ [.lst xs]) := by
  rw [def_ e hl b]
  simp only [runF, retS, if_neg (Nat.not_lt.mpr le), at_]
end
end B
theorem compL_pure {g : Option (Nat × MO)} {f : T → Hm → R (Option T)} {k : T → Option T} {h : Hm} (hg : gOk g h = true) : ∀ {its : List T}, (∀ x ∈ its, f x h = .ok (k x) h) → compL g f its h = .ok (its.filterMap k) h
  | [], _ => by simp [compL, hg]
  | x :: xs, hf => by
    simp only [compL, hg, if_true, hf x List.mem_cons_self, R.bind_ok, compL_pure hg fun y m => hf y (List.mem_cons_of_mem _ m), List.filterMap_cons]
    cases k x <;> rfl
section
variable {G : Ctx} {C : Orc} {ρ : En} {h h1 : Hm} {own : List Nat} {tg : Tg} {it : It} {cs : List E} {e : E} {p : List T × Option (Nat × MO)}
theorem comp_filter {c : T → Bool} (hit : evIt G C ρ h it = .ok p h1) (hg : gOk p.2 h1 = true) (ht : ∀ x ∈ p.1, ∃ ρ', setTg tg (.t x) (wipeE ρ own) = some ρ' ∧ evCs G C ρ' h1 cs = .ok (c x) h1 ∧ evE G C ρ' h1 e = .ok (.t x) h1) :
    evE G C ρ h (.comp own tg it cs e) = .ok (.t (.lst (p.1.filter c))) h1 := by
  rw [evE, hit, R.bind_ok, compL_pure (k := fun x => if c x then some x else none) hg fun x hx => ?_]
  · have : p.1.filterMap (fun x => if c x then some x else none) = p.1.filter c := by
      induction p.1 with
      | nil => rfl
      | cons x xs ih => simp only [List.filterMap_cons, List.filter_cons]; cases c x <;> simp_all
    rw [this]
    rfl
  · obtain ⟨ρ', e1, e2, e3⟩ := ht x hx
    rw [e1, liftO_some, R.bind_ok, e2, R.bind_ok]
    cases c x with
    | false => rfl
    | true => simp only [if_true]; rw [e3]; rfl
theorem comp_map {k : T → T} (hit : evIt G C ρ h it = .ok p h1) (hg : gOk p.2 h1 = true) (ht : ∀ x ∈ p.1, ∃ ρ', setTg tg (.t x) (wipeE ρ own) = some ρ' ∧ evE G C ρ' h1 e = .ok (.t (k x)) h1) :
    evE G C ρ h (.comp own tg it [] e) = .ok (.t (.lst (p.1.map k))) h1 := by
  rw [evE, hit, R.bind_ok, compL_pure (k := fun x => some (k x)) hg fun x hx => ?_]
  · have : p.1.filterMap (fun x => some (k x)) = p.1.map k := by
      induction p.1 with
      | nil => rfl
      | cons x xs ih => simp [ih]
    rw [this]
    rfl
  · obtain ⟨ρ', e1, e3⟩ := ht x hx
    rw [e1, liftO_some, R.bind_ok, evCs, R.bind_ok]
    simp only [if_true]
    rw [e3]
    rfl
theorem cs1 {c : E} {k : Bool} (e : evE G C ρ h c = .ok (.t (.bl k)) h1) : evCs G C ρ h [c] = .ok k h1 := by cases k <;> simp [evCs, e, asB]
theorem lim_small {n : Nat} (h : n ≤ 100000) : lim n = true := decide_eq_true (Nat.le_trans h (by decide))
theorem sem2_notin {x : T} {ys : List T} (hx : x.shp = true) (hy : (T.lst ys).shp = true) : sem2 .notin x (.lst ys) = some (.bl (!inT x ys)) := by
  simp only [sem2, membT, hx, hy, Bool.and_self, if_true, Option.map_some]
end
end My

namespace My.M
open PySem L2 PyProof.Rows
def m__law_feed : Fd := ⟨2, 5, [(.asg (.name 2) (.ite (.bin .lt (.var 1) (.un .len (.var 0))) (.bin .idx (.var 0) (.var 1)) (.bin .add (.bin .mul (.int 61) (.var 1)) (.int 17)))),
      (.asg (.name 3) (.bin .max (.int 0) (.bin .sub (.un .abs (.var 2)) (.bin .pow (.int 10) (.int 18))))),
      (.asg (.name 4) (.bin .mod (.un .int (.bin .add (.bin .add (.bin .mul (.var 2) (.int 6364136223846793005)) (.bin .mul (.int 7919) (.var 1))) (.int 1442695040888963407))) (.int 2305843009213693951))),
      (.ret (.newl [(.var 3), (.var 4)]))]⟩
def m__law_pick : Fd := ⟨2, 2, [(.ret (.bin .idx (.var 1) (.call 108 [(.var 0), (.un .len (.var 1))])))]⟩
def m_Order___init__ : Fd := ⟨4, 4, [(.ife (.or (.not (.call 110 [(.var 2), (.prop 0 109 (.var 1))])) (.bin .ne (.un .len (.var 2)) (.ownl 0 111 (.var 1)))) [(.rais 107 [])] []),
      (.ife (.not (.call 110 [(.var 3), (.prop 0 112 (.var 1))])) [(.rais 108 [])] []),
      (.setf 1 (.var 0) "signs" (.var 1)),
      (.setf 1 (.var 0) "row" (.un .list (.var 2))),
      (.setf 1 (.var 0) "as_lots" (.un .sorted (.var 3)))]⟩
def m_Signs___init__ : Fd := ⟨2, 5, [(.ife (.not (.un (.isi [.tlist]) (.var 1))) [(.rais 101 [])] []),
      (.ife (.not (.ch .le .le (.int 1) (.un .len (.var 1)) (.con 0))) [(.rais 103 [])] []),
      (.asg (.name 2) .newd),
      (.for (.tup [3, 4]) (.enum (.var 1)) [(.ife (.or (.not (.un (.isi [.ttuple]) (.var 4))) (.or (.bin .ne (.un .len (.var 4)) (.int 2)) (.not (.call 113 [(.bin .idx (.var 4) (.int 0)), (.con 3)])))) [(.rais 104 [(.var 3)])] []),
      (.ife (.or (.not (.call 114 [(.bin .idx (.var 4) (.int 1)), (.int 0), (.con 1)])) (.bin .inn (.bin .idx (.var 4) (.int 0)) (.var 2))) [(.rais 104 [(.var 3)])] []),
      (.seti (.var 2) (.bin .idx (.var 4) (.int 0)) (.bin .idx (.var 4) (.int 1)))]),
      (.setf 0 (.var 0) "held" (.fz (.var 2)))]⟩
def m_Order___call__ : Fd := ⟨3, 3, [(.ex (.call 115 [(.fld 1 (.var 0) "signs"), (.var 1)])),
      (.ex (.call 115 [(.fld 1 (.var 0) "signs"), (.var 2)])),
      (.ret (.bin .isnot (.call 116 [(.var 0), (.var 1), (.var 2)]) .non))]⟩
def m_steps : Fd := ⟨3, 3, [(.ex (.call 115 [(.fld 1 (.var 0) "signs"), (.var 1)])),
      (.ex (.call 115 [(.fld 1 (.var 0) "signs"), (.var 2)])),
      (.ret (.call 116 [(.var 0), (.var 1), (.var 2)]))]⟩
def m__law_take : Fd := ⟨2, 3, [(.ife (.bin .gt (.bin .idx (.var 0) (.int 0)) (.int 0)) [(.asg (.name 2) (.bin .mod (.un .int (.bin .idx (.var 0) (.int 0))) (.var 1))),
      (.seti (.var 0) (.int 0) (.bin .fdiv (.bin .idx (.var 0) (.int 0)) (.var 1))),
      (.ret (.var 2))] []),
      (.seti (.var 0) (.int 1) (.bin .mod (.un .int (.bin .add (.bin .mul (.bin .idx (.var 0) (.int 1)) (.int 6364136223846793005)) (.int 1442695040888963407))) (.int 2305843009213693951))),
      (.ret (.bin .mod (.un .int (.bin .fdiv (.bin .idx (.var 0) (.int 1)) (.int 65536))) (.var 1)))]⟩
def m_Signs_names : Fd := ⟨1, 1, [(.ret (.un .list (.fld 0 (.var 0) "held")))]⟩
def m_are_names : Fd := ⟨2, 3, [(.ife (.or (.not (.un (.isi [.tlist]) (.var 0))) (.not (.un .all (.comp [2] (.name 2) (.of (.var 0)) [] (.and (.un (.isi [.tstr]) (.var 2)) (.bin .inn (.var 2) (.var 1))))))) [(.ret (.bl false))] []),
      (.ret (.bin .eq (.un .len (.dcomp [2] (.name 2) (.of (.var 0)) (.var 2) (.bl true))) (.un .len (.var 0))))]⟩
def m_Signs___len__ : Fd := ⟨1, 1, [(.ret (.un .len (.fld 0 (.var 0) "held")))]⟩
def m_Signs_ways : Fd := ⟨1, 2, [(.ret (.un .sorted (.compF [1] (.name 1) 0 0 "held" [(.bin .ge (.bin .idx (.fld 0 (.var 0) "held") (.var 1)) (.int 2))] (.var 1))))]⟩
def m_is_word : Fd := ⟨2, 3, [(.ife (.or (.not (.un (.isi [.tstr]) (.var 0))) (.not (.ch .le .le (.int 1) (.un .len (.var 0)) (.con 2)))) [(.ret (.bl false))] []),
      (.ret (.un .all (.comp [2] (.name 2) (.of (.var 0)) [] (.bin .inn (.var 2) (.var 1)))))]⟩
def m_within : Fd := ⟨3, 3, [(.ret (.and (.un (.isi [.tint]) (.var 0)) (.and (.not (.un (.isi [.tbool]) (.var 0))) (.ch .le .le (.var 1) (.var 0) (.var 2)))))]⟩
def m_check_term : Fd := ⟨2, 2, [(.ife (.not (.call 117 [(.var 0), (.var 1)])) [(.rais 106 [(.var 1)])] [])]⟩
def m_steps_of : Fd := ⟨3, 7, [(.ife (.or (.un (.isi [.tstr]) (.var 1)) (.bin .eq (.var 1) (.var 2))) [(.ret .non)] []),
      (.for (.tup [3, 4]) (.enum (.slf (.var 1) (.int 1))) [(.ife (.bin .eq (.var 4) (.var 2)) [(.ret (.tup [(.str "part"), (.var 3), .non]))] []),
      (.asg (.name 5) (.call 116 [(.var 0), (.var 4), (.var 2)])),
      (.ife (.bin .isnot (.var 5) .non) [(.ret (.tup [(.str "part"), (.var 3), (.var 5)]))] [])]),
      (.ife (.un (.isi [.tstr]) (.var 2)) [(.ret .non)] []),
      (.ife (.bin .eq (.bin .idx (.var 1) (.int 0)) (.bin .idx (.var 2) (.int 0))) [(.ret (.call 118 [(.var 0), (.var 1), (.var 2)]))] []),
      (.asg (.name 6) (.ite (.meth 1 119 "higher" (.var 0) [(.bin .idx (.var 1) (.int 0)), (.bin .idx (.var 2) (.int 0))]) (.call 120 [(.var 0), (.var 1), (.slf (.var 2) (.int 1))]) .non)),
      (.ret (.ite (.bin .is (.var 6) .non) .non (.tup [(.str "sign"), (.var 6)])))]⟩
def m_is_term : Fd := ⟨2, 3, [(.ife (.un (.isi [.tstr]) (.var 1)) [(.ret (.call 113 [(.var 1), (.con 4)]))] []),
      (.ife (.or (.not (.un (.isi [.ttuple]) (.var 1))) (.or (.bin .eq (.var 1) (.tup [])) (.own2 true 0 121 (.bin .idx (.var 1) (.int 0)) (.var 0)))) [(.ret (.bl false))] []),
      (.ife (.bin .ne (.un .len (.var 1)) (.bin .add (.meth 0 122 "arity" (.var 0) [(.bin .idx (.var 1) (.int 0))]) (.int 1))) [(.ret (.bl false))] []),
      (.ret (.un .all (.comp [2] (.name 2) (.of (.slf (.var 1) (.int 1))) [] (.call 117 [(.var 0), (.var 2)]))))]⟩
def m_same_steps : Fd := ⟨3, 7, [(.asg (.name 3) (.call 120 [(.var 0), (.var 1), (.slf (.var 2) (.int 1))])),
      (.ife (.bin .is (.var 3) .non) [(.ret .non)] []),
      (.ife (.bin .inn (.bin .idx (.var 1) (.int 0)) (.fld 1 (.var 0) "as_lots")) [(.asg (.name 4) (.call 123 [(.var 0), (.var 1), (.var 2)])),
      (.ret (.ite (.bin .is (.var 4) .non) .non (.tup [(.str "lots"), (.var 4), (.var 3)])))] []),
      (.asg (.name 5) (.call 124 [(.slf (.var 1) (.int 1)), (.slf (.var 2) (.int 1))])),
      (.ife (.bin .is (.var 5) .non) [(.ret .non)] []),
      (.asg (.name 6) (.call 116 [(.var 0), (.bin .idx (.var 1) (.bin .add (.var 5) (.int 1))), (.bin .idx (.var 2) (.bin .add (.var 5) (.int 1)))])),
      (.ret (.ite (.bin .is (.var 6) .non) .non (.tup [(.str "left"), (.var 5), (.var 6), (.var 3)])))]⟩
def m_Order_higher : Fd := ⟨3, 3, [(.ret (.bin .lt (.idxof (.fld 1 (.var 0) "row") (.var 1)) (.idxof (.fld 1 (.var 0) "row") (.var 2))))]⟩
def m_all_steps : Fd := ⟨3, 5, [(.asg (.name 3) (.comp [4] (.name 4) (.of (.var 2)) [] (.call 116 [(.var 0), (.var 1), (.var 4)]))),
      (.ret (.ite (.bin .inn .non (.var 3)) .non (.var 3)))]⟩
def m_Signs___contains__ : Fd := ⟨2, 2, [(.ret (.and (.un (.isi [.tstr]) (.var 1)) (.bin .inn (.var 1) (.fld 0 (.var 0) "held"))))]⟩
def m_Signs_arity : Fd := ⟨2, 2, [(.ife (.own2 true 0 121 (.var 1) (.var 0)) [(.rais 105 [(.var 1)])] []),
      (.ret (.bin .idx (.fld 0 (.var 0) "held") (.var 1)))]⟩
def m_rows_of_lots : Fd := ⟨3, 10, [(.asg (.tup [3, 4]) (.call 125 [(.slf (.var 1) (.int 1)), (.slf (.var 2) (.int 1))])),
      (.ife (.bin .eq (.var 3) (.lst [])) [(.ret .non)] []),
      (.asg (.name 5) (.newl [])),
      (.for (.name 6) (.of (.var 4)) [(.asg (.name 7) (.comp [8] (.name 8) (.of (.var 3)) [] (.tup [(.var 8), (.call 116 [(.var 0), (.bin .idx (.var 1) (.bin .add (.var 8) (.int 1))), (.bin .idx (.var 2) (.bin .add (.var 6) (.int 1)))])]))),
      (.asg (.name 7) (.comp [9] (.name 9) (.of (.var 7)) [(.bin .isnot (.bin .idx (.var 9) (.int 1)) .non)] (.var 9))),
      (.ife (.bin .eq (.var 7) (.lst [])) [(.ret .non)] []),
      (.ex (.app (.var 5) (.tup [(.var 6), (.bin .idx (.bin .idx (.var 7) (.int 0)) (.int 0)), (.bin .idx (.bin .idx (.var 7) (.int 0)) (.int 1))])))]),
      (.ret (.fz (.var 5)))]⟩
def m_first_unlike : Fd := ⟨2, 4, [(.for (.tup [2, 3]) (.enumzip (.var 0) (.var 1)) [(.ife (.bin .ne (.bin .idx (.var 3) (.int 0)) (.bin .idx (.var 3) (.int 1))) [(.ret (.var 2))] [])]),
      (.ret .non)]⟩
def m_left_over : Fd := ⟨2, 9, [(.par [2, 3] [(.newl []), (.newl [])]),
      (.for (.tup [4, 5]) (.enum (.var 1)) [(.asg (.name 6) (.comp [7, 8] (.tup [7, 8]) (.enum (.var 0)) [(.and (.bin .eq (.var 8) (.var 5)) (.bin .notin (.var 7) (.var 2)))] (.var 7))),
      (.ife (.bin .eq (.var 6) (.lst [])) [(.ex (.app (.var 3) (.var 4)))] [(.ex (.app (.var 2) (.bin .idx (.var 6) (.int 0))))])]),
      (.ret (.tup [(.comp [7] (.name 7) (.rng1 (.un .len (.var 0))) [(.bin .notin (.var 7) (.var 2))] (.var 7)), (.fz (.var 3))]))]⟩
def m__law_drawn_signs : Fd := ⟨1, 7, [(.ife (.bin .gt (.call 108 [(.var 0), (.int 3)]) (.int 0)) [(.ret (.call 102 [(.var 0), (.call 130 [])]))] []),
      (.asg (.name 1) (.call 102 [(.var 0), (.lst [(.lst [(.str "f"), (.str "g"), (.str "h"), (.str "k")]), (.lst [(.str "k"), (.str "f"), (.str "a"), (.str "g")]), (.lst [(.str "z"), (.str "ab"), (.str "b"), (.str "abcdefgh")])])])),
      (.par [2, 3, 4] [(.bin .add (.int 1) (.call 108 [(.var 0), (.int 4)])), (.newl []), (.int 0)]),
      (.for (.name 5) (.rng1 (.var 2)) [(.asg (.name 6) (.call 108 [(.var 0), (.ite (.bin .lt (.var 4) (.int 2)) (.int 4) (.int 2))])),
      (.asg (.name 4) (.bin .add (.var 4) (.un .int (.bin .ge (.var 6) (.int 2))))),
      (.ex (.app (.var 3) (.tup [(.bin .idx (.var 1) (.var 5)), (.var 6)])))]),
      (.ret (.fz (.var 3)))]⟩
def m__law_term : Fd := ⟨4, 10, [(.ife (.and (.bin .ne (.var 3) (.lst [])) (.or (.bin .eq (.var 2) (.int 0)) (.bin .eq (.call 108 [(.var 0), (.int 3)]) (.int 0)))) [(.ret (.call 102 [(.var 0), (.var 3)]))] []),
      (.asg (.name 4) (.comp [8] (.name 8) (.of (.var 1)) [(.or (.bin .eq (.bin .idx (.var 8) (.int 1)) (.int 0)) (.bin .gt (.var 2) (.int 0)))] (.var 8))),
      (.ife (.bin .eq (.var 4) (.lst [])) [(.ret (.str "X"))] []),
      (.asg (.tup [5, 6]) (.call 102 [(.var 0), (.var 4)])),
      (.asg (.name 7) (.ite (.bin .eq (.var 6) (.int 3)) (.bin .max (.int 0) (.bin .sub (.var 2) (.int 2))) (.bin .sub (.var 2) (.int 1)))),
      (.ret (.bin .add (.tup [(.var 5)]) (.un .tuple (.comp [9] (.name 9) (.rng1 (.var 6)) [] (.call 127 [(.var 0), (.var 1), (.var 7), (.var 3)])))))]⟩
def m__law_known_signs : Fd := ⟨0, 1, [(.asg (.name 0) (.lst [(.lst [(.tup [(.str "plus"), (.int 2)]), (.tup [(.str "s"), (.int 1)]), (.tup [(.str "zero"), (.int 0)])]), (.lst [(.tup [(.str "f"), (.int 2)]), (.tup [(.str "g"), (.int 1)]), (.tup [(.str "a"), (.int 0)])]), (.lst [(.tup [(.str "f"), (.int 2)]), (.tup [(.str "a"), (.int 0)]), (.tup [(.str "b"), (.int 0)])])])),
      (.asg (.name 0) (.bin .add (.var 0) (.lst [(.lst [(.tup [(.str "g"), (.int 1)]), (.tup [(.str "f"), (.int 2)]), (.tup [(.str "h"), (.int 2)])]), (.lst [(.tup [(.str "a"), (.int 0)]), (.tup [(.str "b"), (.int 0)]), (.tup [(.str "c"), (.int 0)])]), (.lst [(.tup [(.str "f"), (.int 3)]), (.tup [(.str "a"), (.int 0)]), (.tup [(.str "b"), (.int 0)])])]))),
      (.asg (.name 0) (.bin .add (.var 0) (.lst [(.lst [(.tup [(.str "f"), (.int 1)]), (.tup [(.str "g"), (.int 1)]), (.tup [(.str "h"), (.int 1)])]), (.lst [(.tup [(.str "times"), (.int 2)]), (.tup [(.str "plus"), (.int 2)]), (.tup [(.str "s"), (.int 1)]), (.tup [(.str "zero"), (.int 0)])])]))),
      (.asg (.name 0) (.bin .add (.var 0) (.lst [(.lst [(.tup [(.str "left"), (.int 2)]), (.tup [(.str "above"), (.int 2)]), (.tup [(.str "lots"), (.int 0)])]), (.lst [(.tup [(.str "order"), (.int 1)]), (.tup [(.str "rule"), (.int 0)]), (.tup [(.str "sign"), (.int 2)])])]))),
      (.ret (.bin .add (.var 0) (.lst [(.lst [(.tup [(.str "b"), (.int 0)]), (.tup [(.str "f"), (.int 2)])]), (.lst [(.tup [(.str "f"), (.int 2)]), (.tup [(.str "g"), (.int 1)]), (.tup [(.str "a"), (.int 0)]), (.tup [(.str "b"), (.int 0)])]), (.lst [(.tup [(.str "f"), (.int 3)])])])))]⟩
end My.M

/-! What the laws draw from their scripts. -/
namespace My
open PySem (Str PyData)
open My.M
structure HasFeed (G : Ctx) : Prop where
  feed : G.fs 100 = some m__law_feed
  pick : G.fs 102 = some m__law_pick
  take : G.fs 108 = some m__law_take
variable {G : Ctx}
/-- a feed lies at n -/
def isFeed (h : Hm) (n : Nat) : Prop := ∃ a s : Int, h[n]? = some (.lst [.int a, .int s])
/-- more lies on the heap; the feed at n may have gone on, the rest is as it was -/
structure Ext (n : Nat) (h h' : Hm) : Prop where
  len : h.length ≤ h'.length
  old : ∀ m, m ≠ n → m < h.length → h'[m]? = h[m]?
  feed : isFeed h' n
structure Adv (n : Nat) (h h' : Hm) : Prop where
  len : h'.length = h.length
  old : ∀ m, m ≠ n → h'[m]? = h[m]?
  feed : isFeed h' n
theorem Adv.refl {n : Nat} {h : Hm} (f : isFeed h n) : Adv n h h := ⟨rfl, fun _ _ => rfl, f⟩
theorem Adv.trans {n : Nat} {h h1 h2 : Hm} (a : Adv n h h1) (b : Adv n h1 h2) : Adv n h h2 := ⟨b.len.trans a.len, fun m k => (b.old m k).trans (a.old m k), b.feed⟩
theorem Adv.ext {n : Nat} {h h1 : Hm} (a : Adv n h h1) : Ext n h h1 := ⟨Nat.le_of_eq a.len.symm, fun m k _ => a.old m k, a.feed⟩
theorem Ext.refl {n : Nat} {h : Hm} (f : isFeed h n) : Ext n h h := ⟨Nat.le_refl _, fun _ _ _ => rfl, f⟩
theorem Ext.trans {n : Nat} {h h1 h2 : Hm} (a : Ext n h h1) (b : Ext n h1 h2) : Ext n h h2 := ⟨Nat.le_trans a.len b.len, fun m k l => (b.old m k (Nat.lt_of_lt_of_le l a.len)).trans (a.old m k l), b.feed⟩
theorem isFeed.lt {h : Hm} {n : Nat} (f : isFeed h n) : n < h.length := by
  obtain ⟨_, _, e⟩ := f
  exact (List.getElem?_eq_some_iff.mp e).1
theorem Ext.cut {n : Nat} {h h1 : Hm} (hn : n < h.length) (a : Ext n h h1) : Adv n h (h1.take h.length) := by
  refine ⟨by rw [List.length_take, Nat.min_eq_left a.len], fun m k => ?_, ?_⟩
  · by_cases l : m < h.length
    · rw [List.getElem?_take_of_lt l]; exact a.old m k l
    · rw [List.getElem?_eq_none (by rw [List.length_take]; omega), List.getElem?_eq_none (by omega)]
  · obtain ⟨x, y, e⟩ := a.feed
    exact ⟨x, y, by rw [List.getElem?_take_of_lt hn]; exact e⟩
theorem Ext.push {n : Nat} {h : Hm} {o : MO} (f : isFeed h n) : Ext n h (h ++ [o]) := by
  have hn := f.lt
  refine ⟨by simp, fun m _ l => by rw [List.getElem?_append_left l], ?_⟩
  obtain ⟨x, y, e⟩ := f
  exact ⟨x, y, by rw [List.getElem?_append_left hn]; exact e⟩
/-- a value that is not the feed -/
def offF (n : Nat) (s : S) (h : Hm) (xs : List T) : Prop := dref h s = some (.lst xs) ∧ ∀ m, s = .r m → m ≠ n ∧ m < h.length
theorem offF.t {n : Nat} {h : Hm} {xs : List T} : offF n (.t (.lst xs)) h xs := ⟨rfl, fun _ e => by cases e⟩
theorem offF.ext {n : Nat} {s : S} {h h' : Hm} {xs : List T} (o : offF n s h xs) (a : Ext n h h') : offF n s h' xs := by
  refine ⟨?_, fun m e => ⟨(o.2 m e).1, Nat.lt_of_lt_of_le (o.2 m e).2 a.len⟩⟩
  cases s with
  | t v => exact o.1
  | r m =>
    have h1 := o.1
    have h2 := o.2 m rfl
    simp only [dref] at h1 ⊢
    rw [a.old m h2.1 h2.2]; exact h1
theorem idx0 {x y : T} : sem2 .idx (.lst [x, y]) (.int 0) = some x := by simp [sem2, L2.atI, L2.ixN]
theorem idx1 {x y : T} : sem2 .idx (.lst [x, y]) (.int 1) = some y := by simp [sem2, L2.atI, L2.ixN]
theorem run_take (hG : HasFeed G) {d n : Nat} {h : Hm} {m : Int} (f : isFeed h n) (h0 : 0 < m) (h1 : m < 1073741824) : ∃ (r : Int) (h' : Hm), 0 ≤ r ∧ r < m ∧ Adv n h h' ∧ callF G (d + 1) 108 [.r n, .t (.int m)] h = .ok (.t (.int r)) h' := by
  obtain ⟨a, s, e⟩ := f
  have hn : n < h.length := (List.getElem?_eq_some_iff.mp e).1
  have dr : dref h (.r n) = some (.lst [.int a, .int s]) := by simp only [dref, e]
  have fin : ∀ x y : Int, Adv n h (h.set n (.lst [.int x, .int y])) := fun x y => ⟨by simp, fun k hk => by rw [List.getElem?_set_ne (Ne.symm hk)], x, y, by rw [List.getElem?_set_self hn]⟩
  have md : ∀ x : Int, sem2 .mod (.int x) (.int m) = some (.int (x % m)) := fun x => by simp [sem2, arith, h0]
  have fd : ∀ x : Int, sem2 .fdiv (.int x) (.int m) = some (.int (x / m)) := fun x => by simp [sem2, arith, h0, h1]
  by_cases ha : 0 < a
  · refine ⟨a % m, h.set n (.lst [.int (a / m), .int s]), Int.emod_nonneg _ (by omega), Int.emod_lt_of_pos _ h0, fin _ _, ?_⟩
    have z := B.dret (G := G) (f := 108) (d := d) (fd := m__law_take) (h := h) (ss := [.r n, .t (.int m)]) hG.take rfl (B.sr (B.if1 (B.bin (z := .bl true) (B.bin (z := .int a) (B.var (i := 0) rfl) B.int dr rfl idx0) B.int rfl rfl (by simp [sem2, arith, cmpI, ha])) (B.sc (B.asg (i := 2) (B.bin (B.un (o := .int) (z := .int a) (B.bin (B.var (i := 0) rfl) B.int dr rfl idx0) rfl rfl) (B.var (i := 1) rfl) rfl rfl (md a)))
      (B.sc (B.setL (k := 0) (B.bin (B.bin (z := .int a) (B.var (i := 0) rfl) B.int dr rfl idx0) (B.var (i := 1) rfl) rfl rfl (fd a)) (B.var (i := 0) rfl) B.int e rfl) (B.sr (B.ret (B.var (i := 2) rfl)))))))
    rw [z, List.take_of_length_le (by simp)]
    rfl
  · obtain ⟨b, hb⟩ : ∃ b : Int, b = (s * 6364136223846793005 + 1442695040888963407) % 2305843009213693951 := ⟨_, rfl⟩
    refine ⟨(b / 65536) % m, h.set n (.lst [.int a, .int b]), Int.emod_nonneg _ (by omega), Int.emod_lt_of_pos _ h0, fin _ _, ?_⟩
    have e2 : (h.set n (.lst [.int a, .int b]))[n]? = some (.lst [.int a, .int b]) := by rw [List.getElem?_set_self hn]
    have dr2 : dref (h.set n (.lst [.int a, .int b])) (.r n) = some (.lst [.int a, .int b]) := by simp only [dref, e2]
    have z := B.dret (G := G) (f := 108) (d := d) (fd := m__law_take) (h := h) (ss := [.r n, .t (.int m)]) hG.take rfl (B.sc (B.if0 (B.bin (z := .bl false) (B.bin (z := .int a) (B.var (i := 0) rfl) B.int dr rfl idx0) B.int rfl rfl (by simp [sem2, arith, cmpI, ha])) B.sn)
      (B.sc (B.setL (k := 1) (v := .int b) (B.bin (B.un (o := .int) (z := .int (s * 6364136223846793005 + 1442695040888963407)) (B.bin (B.bin (z := .int (s * 6364136223846793005)) (B.bin (B.var (i := 0) rfl) B.int dr rfl idx1) B.int rfl rfl (by simp [sem2, arith, small64])) B.int rfl rfl rfl) rfl rfl) B.int rfl rfl (by rw [hb]; simp [sem2, arith])) (B.var (i := 0) rfl) B.int e rfl)
      (B.sr (B.ret (B.bin (v := .int (b / 65536)) (B.un (o := .int) (v := .int (b / 65536)) (z := .int (b / 65536)) (B.bin (B.bin (z := .int b) (B.var (i := 0) rfl) B.int dr2 rfl idx1) B.int rfl rfl (by simp [sem2, arith])) rfl rfl) (B.var (i := 1) rfl) rfl rfl (md _))))))
    rw [z]
    have : ([T.int a, T.int s].set 1 (T.int b)) = [T.int a, T.int b] := rfl
    rw [List.take_of_length_le (by simp)]
    rfl
theorem atI_get {xs : List T} {r : Int} (h0 : 0 ≤ r) (h1 : r < xs.length) : ∃ x ∈ xs, L2.atI xs r = some x := by
  have hl : r.toNat < xs.length := by omega
  refine ⟨xs[r.toNat], List.getElem_mem _, ?_⟩
  simp [L2.atI, L2.ixN, h0, h1]
theorem run_pick (hG : HasFeed G) {d n : Nat} {h : Hm} {s : S} {xs : List T} (f : isFeed h n) (o : offF n s h xs) (h0 : xs ≠ []) (h1 : xs.length < 1073741824) : ∃ (x : T) (h' : Hm), x ∈ xs ∧ Adv n h h' ∧ callF G (d + 2) 102 [.r n, s] h = .ok (.t x) h' := by
  have hl : 0 < xs.length := List.length_pos_iff.mpr h0
  obtain ⟨r, h', r0, r1, adv, e⟩ := run_take hG (d := d) (m := (xs.length : Int)) f (by omega) (by omega)
  obtain ⟨x, mx, ex⟩ := atI_get r0 r1
  refine ⟨x, h', mx, adv, ?_⟩
  have z := B.dret (G := G) (f := 102) (d := d + 1) (fd := m__law_pick) (h := h) (ss := [.r n, s]) hG.pick rfl (B.sr (B.ret (B.bin (B.var (i := 1) rfl) (B.call (B.cons (B.var (i := 0) rfl) (B.cons (B.un (o := .len) (z := .int xs.length) (B.var (i := 1) rfl) o.1 rfl) B.nil)) e) (o.ext adv.ext).1 rfl (by simp only [sem2]; exact ex))))
  rw [z, List.take_of_length_le (by rw [adv.len]; exact Nat.le_refl _)]

theorem run_feed (hG : HasFeed G) {d : Nat} {h : Hm} (ns : List Int) (k : Nat) : ∃ a b : Int, callF G (d + 1) 100 [.t (.lst (ns.map .int)), .t (.int k)] h = .ok (.r h.length) (h ++ [.lst [.int a, .int b]]) := by
  have cell : ∃ c : Int, evE G (callF G d) [some (.t (.lst (ns.map .int))), some (.t (.int k)), none, none, none] h (.ite (.bin .lt (.var 1) (.un .len (.var 0))) (.bin .idx (.var 0) (.var 1)) (.bin .add (.bin .mul (.int 61) (.var 1)) (.int 17))) = .ok (.t (.int c)) h := by
    by_cases hk : k < ns.length
    · refine ⟨ns[k], B.ite1 (B.bin (z := .bl true) (B.var (i := 1) rfl) (B.un (o := .len) (z := .int (ns.map T.int).length) (B.var (i := 0) rfl) rfl rfl) rfl rfl ?_) (B.bin (o := .idx) (B.var (i := 0) rfl) (B.var (i := 1) rfl) rfl rfl ?_)⟩
      · simp only [sem2, arith, cmpI, List.length_map, Option.map_some]
        simp [hk]
      · simp [sem2, L2.atI, L2.ixN, hk]
    · refine ⟨61 * k + 17, B.ite0 (B.bin (z := .bl false) (B.var (i := 1) rfl) (B.un (o := .len) (z := .int (ns.map T.int).length) (B.var (i := 0) rfl) rfl rfl) rfl rfl ?_) (B.bin (o := .add) (B.bin (o := .mul) (z := .int (61 * k)) B.int (B.var (i := 1) rfl) rfl rfl (by simp [sem2, arith, small64])) B.int rfl rfl rfl)⟩
      simp only [sem2, arith, cmpI, List.length_map, Option.map_some]
      simp [hk]
  obtain ⟨c, ec⟩ := cell
  let x : Int := (if c < 0 then -c else c) - 10 ^ 18
  let y : Int := (c * 6364136223846793005 + 7919 * k + 1442695040888963407) % 2305843009213693951
  refine ⟨if x > 0 then x else 0, y, ?_⟩
  have z := B.drr (G := G) (f := 100) (d := d) (fd := m__law_feed) (h := h) (ss := [.t (.lst (ns.map .int)), .t (.int k)]) hG.feed rfl (B.sc (B.asg (i := 2) ec)
    (B.sc (B.asg (i := 3) (B.bin (o := .max) (v2 := .int x) (z := .int (if x > 0 then x else 0)) B.int (B.bin (o := .sub) (z := .int x) (B.un (o := .abs) (B.var (i := 2) rfl) rfl rfl) (B.bin (o := .pow) (z := .int (10 ^ 18)) B.int B.int rfl rfl (by simp [sem2, arith])) rfl rfl rfl) rfl rfl rfl))
    (B.sc (B.asg (i := 4) (B.bin (o := .mod) (v := .int (c * 6364136223846793005 + 7919 * k + 1442695040888963407)) (z := .int y) (B.un (o := .int) (B.bin (o := .add) (z := .int (c * 6364136223846793005 + 7919 * k + 1442695040888963407)) (B.bin (o := .add) (z := .int (c * 6364136223846793005 + 7919 * k)) (B.bin (o := .mul) (z := .int (c * 6364136223846793005)) (B.var (i := 2) rfl) B.int rfl rfl (by simp [sem2, arith, small64]))
      (B.bin (o := .mul) (z := .int (7919 * k)) B.int (B.var (i := 1) rfl) rfl rfl (by simp [sem2, arith, small64])) rfl rfl rfl) B.int rfl rfl rfl) rfl rfl) B.int rfl rfl (by simp [sem2, arith]; rfl))) (B.sr (B.ret (B.newl (B.tcons (B.var (i := 3) rfl) (B.tcons (B.var (i := 4) rfl) B.tnil)))))))) (Nat.le_refl _) (by rw [List.getElem?_append_right (Nat.le_refl _), Nat.sub_self]; rfl)
  rw [z]
  simp
/-- a heap with nothing but the feed -/
theorem Adv.one {n : Nat} {x y : Int} {h' : Hm} (hn : n = 0) (a : Adv n [.lst [.int x, .int y]] h') : ∃ u v : Int, h' = [.lst [.int u, .int v]] := by
  subst hn
  obtain ⟨u, v, e⟩ := a.feed
  have l := a.len
  match h', l with
  | [o], _ => simp at e; exact ⟨u, v, by rw [e]⟩
theorem rng_small {n : Int} (h0 : 0 ≤ n) (h1 : n ≤ 100000) : rngO 0 n = some (rngT 0 n.toNat, none) := by
  unfold rngO
  rw [if_pos (by simp; exact ⟨by omega, lim_small (by omega)⟩)]
  simp
end My

/-! Small trees of plain data: what can be compared and shown. -/
namespace My
open PySem (Str PyData piled piled_cons listText tupleText textFrom reprText)
theorem strLenB (a b : Str) : (a ++ b).length = a.length + b.length := PySem.strLen_append a b
theorem joinB_le (ts : List Str) : (PySem.Str.join ", " ts).length ≤ piled ts := by
  by_cases h : ts = []
  · subst h; exact Nat.zero_le _
  · have := PySem.join_length_add ts h; omega
theorem tupleB_le (ts : List Str) : (tupleText ts).length ≤ piled ts + 3 := by
  unfold tupleText
  have h1 := joinB_le ts
  have h2 : ((("(" : String) : Str)).length = 1 := rfl
  have h3 : (((if ts.length == 1 then ",)" else ")" : String) : Str)).length ≤ 2 := by
    split
    · exact Nat.le_refl 2
    · exact (by decide : 1 ≤ 2)
  rw [strLenB, strLenB, h2]; omega
theorem textFromB_le : ∀ (ts : List Str) (k : Nat) (acc : Str), (textFrom k acc ts).length ≤ acc.length + piled ts
  | [], k, acc => by simp [textFrom, piled]
  | t :: ts, k, acc => by
    have h := textFromB_le ts (k + 1) (acc ++ (if k > 0 then ", " else "" : String) ++ t)
    have e : (acc ++ (if k > 0 then ", " else "" : String) ++ t).length ≤ acc.length + 2 + t.length := by
      rw [strLenB, strLenB]
      have : (((if k > 0 then ", " else "" : String) : Str)).length ≤ 2 := by
        split
        · exact Nat.le_refl 2
        · exact Nat.zero_le 2
      omega
    rw [textFrom, piled_cons]; omega
theorem listB_le (ts : List Str) : (listText ts).length ≤ piled ts + 2 := by
  unfold listText
  have h := textFromB_le ts 0 ("[" : String)
  have h1 : ((("[" : String) : Str)).length = 1 := rfl
  have h2 : ((("]" : String) : Str)).length = 1 := rfl
  rw [strLenB, h2]; omega
/-! ### good data -/
def sOk (x : Str) : Bool := PyData.strOk x && decide (x.length ≤ 40)
mutual
def gd : T → Bool
  | .non | .bl _ => true
  | .int i => decide (i.natAbs ≤ 9) || decide (i = 10 ^ 30)
  | .str x => sOk x
  | .tup xs | .lst xs => gds xs
  | .dct _ _ | .obj _ _ _ => false
def gds : List T → Bool
  | [] => true
  | x :: xs => gd x && gds xs
end
mutual
def dpt : T → Nat
  | .tup xs | .lst xs => dpts xs + 1
  | _ => 0
def dpts : List T → Nat
  | [] => 0
  | a :: as => max (dpt a) (dpts as)
end
mutual
def szt : T → Nat
  | .tup xs | .lst xs => 1 + szts xs
  | _ => 1
def szts : List T → Nat
  | [] => 0
  | a :: as => szt a + szts as
end
theorem gds_all : ∀ {as : List T}, gds as = true ↔ ∀ a ∈ as, gd a = true
  | [] => by simp [gds]
  | a :: as => by simp [gds, gds_all (as := as)]
theorem dpts_le : ∀ {as : List T} {n : Nat}, dpts as ≤ n ↔ ∀ a ∈ as, dpt a ≤ n
  | [], n => by simp [dpts]
  | a :: as, n => by simp only [dpts, List.mem_cons, forall_eq_or_imp, Nat.max_le, dpts_le (as := as)]
theorem szts_app : ∀ (as bs : List T), szts (as ++ bs) = szts as + szts bs
  | [], bs => by simp [szts]
  | a :: as, bs => by simp only [List.cons_append, szts, szts_app as bs]; omega
theorem szts_mem : ∀ {as : List T} {a : T}, a ∈ as → szt a ≤ szts as
  | b :: as, a, m => by
    simp only [szts]
    rcases List.mem_cons.mp m with rfl | m
    · omega
    · have := szts_mem m; omega
theorem szts_le {xs : List T} {m : Nat} (h : ∀ x ∈ xs, szt x ≤ m) : szts xs ≤ xs.length * m := by
  induction xs with
  | nil => simp [szts]
  | cons x xs ih =>
    simp only [szts, List.length_cons, Nat.succ_mul]
    have := h x List.mem_cons_self
    have := ih fun y hy => h y (List.mem_cons_of_mem _ hy)
    omega
theorem szt_pos (t : T) : 1 ≤ szt t := by cases t <;> simp [szt] <;> omega
theorem len_szts (xs : List T) : xs.length ≤ szts xs := by
  induction xs with
  | nil => simp [szts]
  | cons x xs ih => simp only [szts, List.length_cons]; have := szt_pos x; omega
theorem szts_take (xs : List T) (n : Nat) : szts (xs.take n) + szts (xs.drop n) = szts xs := by rw [← szts_app, List.take_append_drop]
theorem small_int {i : Int} (h : i.natAbs ≤ 9) : i = -9 ∨ i = -8 ∨ i = -7 ∨ i = -6 ∨ i = -5 ∨ i = -4 ∨ i = -3 ∨ i = -2 ∨ i = -1 ∨ i = 0 ∨ i = 1 ∨ i = 2 ∨ i = 3 ∨ i = 4 ∨ i = 5 ∨ i = 6 ∨ i = 7 ∨ i = 8 ∨ i = 9 := by omega
mutual
theorem gd_data : ∀ t : T, gd t = true → t.data = true ∧ t.py.canLay0 = true ∧ t.py.depth = dpt t ∧ t.py.showable = true
  | .non, _ => ⟨rfl, rfl, rfl, rfl⟩
  | .bl _, _ => ⟨rfl, rfl, rfl, rfl⟩
  | .int i, h => by
    simp only [gd, Bool.or_eq_true, decide_eq_true_eq] at h
    rcases h with h | h
    · exact ⟨rfl, rfl, rfl, by have := Nat.log2_le_self i.natAbs; simp only [T.py, PyData.showable, decide_eq_true_eq]; omega⟩
    · subst h; exact ⟨rfl, rfl, rfl, by decide +kernel⟩
  | .str x, h => by
    simp only [gd, sOk, Bool.and_eq_true] at h
    simp [T.data, T.py, PyData.canLay0, PyData.depth, dpt, h.1, PyData.showable]
  | .tup xs, h => by
    have ih := gds_data xs (by simpa [gd] using h)
    simp [T.data, T.py, PyData.canLay0, PyData.depth, dpt, PyData.showable, ih]
  | .lst xs, h => by
    have ih := gds_data xs (by simpa [gd] using h)
    simp [T.data, T.py, PyData.canLay0, PyData.depth, dpt, PyData.showable, ih]
  | .dct _ _, h | .obj _ _ _, h => by simp [gd] at h
theorem gds_data : ∀ as : List T, gds as = true → datas as = true ∧ PyData.canLayAll0 (pys as) = true ∧ PyData.depthAll (pys as) = dpts as ∧ PyData.showableAll (pys as) = true
  | [], _ => by simp [datas, pys, PyData.canLayAll0, PyData.depthAll, dpts, PyData.showableAll]
  | a :: as, h => by
    simp only [gds, Bool.and_eq_true] at h
    have h1 := gd_data a h.1
    have h2 := gds_data as h.2
    simp [datas, pys, PyData.canLayAll0, PyData.depthAll, dpts, PyData.showableAll, h1, h2]
end
theorem gd_shp {t : T} (h : gd t = true) (hd : dpt t ≤ 60) : t.shp = true := by
  obtain ⟨h1, h3, h4, _⟩ := gd_data t h
  unfold T.shp PySem.SeqAt.shaped
  simp [h1, h3, h4]; omega
mutual
theorem gd_shown : ∀ t : T, gd t = true → t.py.shown.length + 2 ≤ 450 * szt t
  | .non, _ => by simp only [T.py, PyData.shown, szt]; decide
  | .bl b, _ => by cases b <;> simp only [T.py, PyData.shown, szt] <;> decide
  | .int i, h => by
    simp only [gd, Bool.or_eq_true, decide_eq_true_eq] at h
    rcases h with h | h
    · rcases small_int h with h | h | h | h | h | h | h | h | h | h | h | h | h | h | h | h | h | h | h <;> subst h <;> simp only [T.py, PyData.shown, szt] <;> decide +kernel
    · subst h; simp only [T.py, PyData.shown, szt]; decide +kernel
  | .str x, h => by
    simp only [gd, sOk, Bool.and_eq_true, decide_eq_true_eq] at h
    have := PySem.StrLaws.reprText_len x (fun c m => by
      have q := h.1
      simp only [PyData.strOk, Array.all_eq_true', decide_eq_true_eq] at q
      have := q c (by simpa using m)
      omega)
    simp only [T.py, PyData.shown, szt]; omega
  | .tup xs, h => by
    have h2 := gds_shown xs (by simpa [gd] using h)
    have h3 := tupleB_le (PyData.shownAll (pys xs))
    simp only [T.py, PyData.shown, szt]; omega
  | .lst xs, h => by
    have h2 := gds_shown xs (by simpa [gd] using h)
    have h3 := listB_le (PyData.shownAll (pys xs))
    simp only [T.py, PyData.shown, szt]; omega
  | .dct _ _, h | .obj _ _ _, h => by simp [gd] at h
theorem gds_shown : ∀ as : List T, gds as = true → piled (PyData.shownAll (pys as)) ≤ 450 * szts as
  | [], _ => by simp [pys, PyData.shownAll, piled, szts]
  | a :: as, h => by
    simp only [gds, Bool.and_eq_true] at h
    have h1 := gd_shown a h.1
    have h2 := gds_shown as h.2
    simp only [pys, PyData.shownAll, piled_cons, szts]; omega
end
theorem repr_gd {sub : Nat → Nat → Bool} {t : T} (h : gd t = true) (hd : dpt t ≤ 60) (hs : szt t ≤ 2000) : ∃ y, sem1 sub .repr t = some (.str y) := by
  obtain ⟨h1, h3, h4, h5⟩ := gd_data t h
  have h6 := gd_shown t h
  refine ⟨t.py.shown, ?_⟩
  cases t <;> first
    | (simp [gd] at h; done)
    | (simp only [sem1, h1, h5, h4, Bool.true_and, Bool.and_eq_true, decide_eq_true_eq]; exact if_pos ⟨decide_eq_true (Nat.le_trans (m := 1000000) (by omega) (by decide)), by omega⟩)
/-- good, not deeper than n, not larger than m -/
structure Gd (n m : Nat) (t : T) : Prop where
  gd : gd t = true
  dp : dpt t ≤ n
  sz : szt t ≤ m
theorem Gd.le {n m n' m' : Nat} {t : T} (g : Gd n m t) (h1 : n ≤ n') (h2 : m ≤ m') : Gd n' m' t := ⟨g.gd, Nat.le_trans g.dp h1, Nat.le_trans g.sz h2⟩
theorem Gd.tup {n m : Nat} {xs : List T} (h : ∀ x ∈ xs, My.gd x = true ∧ dpt x ≤ n) (hs : szts xs + 1 ≤ m) : Gd (n + 1) m (.tup xs) := ⟨by simp only [My.gd]; exact gds_all.mpr fun x m => (h x m).1, by simp only [dpt]; exact Nat.succ_le_succ (dpts_le.mpr fun x m => (h x m).2), by simp only [szt]; omega⟩
theorem Gd.lst {n m : Nat} {xs : List T} (h : ∀ x ∈ xs, My.gd x = true ∧ dpt x ≤ n) (hs : szts xs + 1 ≤ m) : Gd (n + 1) m (.lst xs) := ⟨by simp only [My.gd]; exact gds_all.mpr fun x m => (h x m).1, by simp only [dpt]; exact Nat.succ_le_succ (dpts_le.mpr fun x m => (h x m).2), by simp only [szt]; omega⟩
/-! ### operators -/
theorem eq_int (a b : Int) : sem2 .eq (.int a) (.int b) = some (.bl (a == b)) := rfl
theorem ne_int' (a b : Int) : sem2 .ne (.int a) (.int b) = some (.bl (!(a == b))) := rfl
theorem ne_str (y : Str) : sem2 .ne (.str y) (.str y) = some (.bl false) := by simp [sem2, eq2]
theorem eq_nil {xs : List T} (h : (T.lst xs).shp = true) : sem2 .eq (.lst xs) (.lst []) = some (.bl xs.isEmpty) := by
  have h2 : (T.lst []).shp = true := rfl
  simp only [sem2, eq2, h, h2, Bool.and_self, if_true]
  cases xs <;> simp [eqT, T.py, pys, PyData.eqv, PyData.eqvAll]
theorem eq_nilT {xs : List T} (h : (T.tup xs).shp = true) : sem2 .eq (.tup xs) (.tup []) = some (.bl xs.isEmpty) := by
  have h2 : (T.tup []).shp = true := rfl
  simp only [sem2, eq2, h, h2, Bool.and_self, if_true]
  cases xs <;> simp [eqT, T.py, pys, PyData.eqv, PyData.eqvAll]
theorem ne_nil {xs : List T} (h : (T.lst xs).shp = true) : sem2 .ne (.lst xs) (.lst []) = some (.bl (!xs.isEmpty)) := by
  have h2 : (T.lst []).shp = true := rfl
  simp only [sem2, eq2, h, h2, Bool.and_self, if_true]
  cases xs <;> simp [eqT, T.py, pys, PyData.eqv, PyData.eqvAll]
theorem blsOf_map (f : T → Bool) (xs : List T) : blsOf (xs.map fun x => T.bl (f x)) = some (xs.map f) := by
  induction xs with
  | nil => rfl
  | cons x xs ih => simp [blsOf, ih]
theorem all_map {sub : Nat → Nat → Bool} (f : T → Bool) (xs : List T) : sem1 sub .all (.lst (xs.map fun x => T.bl (f x))) = some (.bl (xs.all f)) := by
  simp only [sem1, blsOf_map, Option.map_some]
  congr 2
  induction xs with
  | nil => rfl
  | cons x xs ih => simp [ih]
theorem empty_filter (f : T → Bool) (xs : List T) : (xs.filter fun x => !f x).isEmpty = xs.all f := by
  induction xs with
  | nil => rfl
  | cons x xs ih => rw [List.filter_cons]; cases h : f x <;> simp_all
theorem cutB_from (xs : List T) (n : Nat) : cutL xs (some (n : Int)) none = xs.drop n := by
  unfold cutL
  rw [HT.sIx_nat, HT.sIx_none]
  rcases Nat.le_total n xs.length with h | h
  · rw [Nat.min_eq_left h]
    exact List.take_of_length_le (by rw [List.length_drop]; exact Nat.le_refl _)
  · rw [Nat.min_eq_right h, List.drop_eq_nil_of_le h]
    simp
theorem cutB_to (xs : List T) (n : Nat) : cutL xs none (some (n : Int)) = xs.take n := by
  unfold cutL
  rw [HT.sIx_nat, HT.sIx_none]
  simp only [List.drop_zero, Nat.sub_zero]
  rcases Nat.le_total n xs.length with h | h
  · rw [Nat.min_eq_left h]
  · rw [Nat.min_eq_right h, List.take_of_length_le h, List.take_of_length_le (Nat.le_refl _)]
mutual
theorem gd_eqv : ∀ t : T, gd t = true → PyData.eqv t.py t.py = true
  | .non, _ => by simp [T.py, PyData.eqv]
  | .bl _, _ => by simp [T.py, PyData.eqv]
  | .int _, _ => by simp [T.py, PyData.eqv]
  | .str x, _ => by simp [T.py, PyData.eqv]
  | .tup xs, h => by simpa [T.py, PyData.eqv] using gds_eqv xs (by simpa [gd] using h)
  | .lst xs, h => by simpa [T.py, PyData.eqv] using gds_eqv xs (by simpa [gd] using h)
  | .dct _ _, h | .obj _ _ _, h => by simp [gd] at h
theorem gds_eqv : ∀ as : List T, gds as = true → PyData.eqvAll (pys as) (pys as) = true
  | [], _ => by simp [pys, PyData.eqvAll]
  | a :: as, h => by
    simp only [gds, Bool.and_eq_true] at h
    simp [pys, PyData.eqvAll, gd_eqv a h.1, gds_eqv as h.2]
end
theorem ne_gd {t : T} (h : gd t = true) (hd : dpt t ≤ 60) : sem2 .ne t t = some (.bl false) := by
  have hs := gd_shp h hd
  have e : eq2 t t = some true := by
    unfold eq2
    split
    · simp
    · rw [hs]; simp [eqT, gd_eqv t h]
  simp [sem2, e]
end My

/-! Signs, and whether a value is a term over them. -/
namespace My
open PySem (Str PyData)
open My.M
namespace B
section
variable {G : Ctx} {C : Orc} {ρ ρ1 : En} {h h1 h2 h3 : Hm} {a b c e : E} {s u w x : S} {v v2 z y : T} {es : List E} {ss : List S} {vs : List T}
theorem itEnum {xs : List T} (e1 : evE G C ρ h a = .ok (.t (.lst xs)) h1) (l : lim xs.length = true) : evIt G C ρ h (.enum a) = .ok (enumT xs, none) h1 := by simp [evIt, e1, enumOf, l]
theorem con {g : Nat} {v : T} (e : G.con g = v) : evE G C ρ h (.con g) = .ok (.t v) h := by simp [evE, e]
theorem ch {o p : Bo} {k l : Bool} (e1 : evE G C ρ h a = .ok s h) (e2 : evE G C ρ h b = .ok u h) (e3 : evE G C ρ h c = .ok x h) (d1 : dref h s = some v) (d2 : dref h u = some v2) (d3 : dref h x = some y) (m : sem2 o v v2 = some (.bl k)) (m2 : sem2 p v2 y = some (.bl l)) :
    evE G C ρ h (.ch o p a b c) = .ok (.t (.bl (k && l))) h := by cases k <;> simp [evE, e1, e2, e3, d1, d2, d3, m, m2, asB]
theorem fld {c : Nat} {f : Str} {ns : List Str} {us : List T} (e1 : evE G C ρ h a = .ok s h1) (o : isO c s h1 = some (ns, us)) (l : lookN f ns us = some v) : evE G C ρ h (.fld c a f) = .ok (.t v) h1 := by simp [evE, e1, o, l]
theorem own2 {neg : Bool} {c f : Nat} {p : List Str × List T} {k : Bool} (e1 : evE G C ρ h a = .ok s h1) (e2 : evE G C ρ h1 b = .ok u h2) (o : isO c u h2 = some p) (e3 : C f [u, s] h2 = .ok (.t (.bl k)) h3) : evE G C ρ h (.own2 neg c f a b) = .ok (.t (.bl (k != neg))) h3 := by simp [evE, e1, e2, o, e3, noEx, asB]
theorem meth {c f : Nat} {m : Str} {p : List Str × List T} (e1 : evE G C ρ h a = .ok s h1) (o : isO c s h1 = some p) (hm : p.1.contains m = false) (e2 : evS G C ρ h1 es = .ok ss h2) (e3 : C f (s :: ss) h2 = .ok u h3) : evE G C ρ h (.meth c f m a es) = .ok u h3 := by
  simp only [evE, e1, R.bind_ok, o, liftO_some, hm, Bool.false_eq_true, if_false, e2, e3]
end
end B
def lowZ : Str := "abcdefghijklmnopqrstuvwxyz"
def topZ : Str := "ABCDEFGHIJKLMNOPQRSTUVWXYZ"
structure HasSigns (G : Ctx) : Prop where
  init : G.fs 104 = some m_Signs___init__
  word : G.fs 113 = some m_is_word
  wth : G.fs 114 = some m_within
  inn : G.fs 121 = some m_Signs___contains__
  arity : G.fs 122 = some m_Signs_arity
  c0 : G.con 0 = .int 5
  c1 : G.con 1 = .int 3
  c2 : G.con 2 = .int 8
  c3 : G.con 3 = .str lowZ
structure HasTerms (G : Ctx) : Prop extends HasSigns G where
  isT : G.fs 117 = some m_is_term
  c4 : G.con 4 = .str topZ
variable {G : Ctx}
/-! ### words -/
def hasC (z : Str) : T → Bool
  | .str y => !(PySem.Builtin.Str.occurrences z y 0 z.length 1).isEmpty
  | _ => false
def wrd (z x : Str) : Bool := (decide (1 ≤ x.length) && decide (x.length ≤ 8)) && (chrs x).all (hasC z)
theorem chrs_is {x : Str} {t : T} (m : t ∈ chrs x) : ∃ c ∈ x.cps.toList, t = .str ⟨#[c]⟩ := by
  simp only [chrs, List.mem_map] at m
  obtain ⟨c, hc, rfl⟩ := m
  exact ⟨c, hc, rfl⟩
theorem len_ch (x : Str) (n m : Nat) : sem2 .le (.int n) (.int (x.length : Nat)) = some (.bl (decide (n ≤ x.length))) := by
  simp only [sem2, arith, cmpI, Option.map_some]
  congr 3
  exact propext Int.ofNat_le
theorem run_word (hG : HasSigns G) {d : Nat} {h : Hm} {x z : Str} (hl : lim x.length = true) : callF G (d + 1) 113 [.t (.str x), .t (.str z)] h = .ok (.t (.bl (wrd z x))) h := by
  have lenE : evE G (callF G d) [some (.t (.str x)), some (.t (.str z)), none] h (.un .len (.var 0)) = .ok (.t (.int (x.length : Nat))) h := B.un (o := .len) (v := .str x) (B.var (i := 0) rfl) rfl (by simp only [sem1, hl, if_true])
  have chE := B.ch (G := G) (C := callF G d) (ρ := [some (.t (.str x)), some (.t (.str z)), none]) (h := h) (o := .le) (p := .le) (k := decide (1 ≤ x.length)) (l := decide (x.length ≤ 8)) (B.int (i := 1)) lenE (B.con hG.c2) rfl rfl rfl (len_ch x 1 0) (by
    simp only [sem2, arith, cmpI, Option.map_some]
    congr 3
    exact propext (Int.ofNat_le (m := x.length) (n := 8)))
  have isE : evE G (callF G d) [some (.t (.str x)), some (.t (.str z)), none] h (.un (.isi [.tstr]) (.var 0)) = .ok (.t (.bl true)) h := B.un (o := .isi [.tstr]) (v := .str x) (B.var (i := 0) rfl) rfl rfl
  have orE := B.or0 (B.not isE) (B.not chE)
  cases hb : (decide (1 ≤ x.length) && decide (x.length ≤ 8)) with
  | false =>
    rw [hb] at orE
    have e0 : wrd z x = false := by unfold wrd; rw [hb]; rfl
    rw [e0]
    exact B.dret0 (G := G) (f := 113) (d := d) (fd := m_is_word) hG.word rfl (B.sr (B.if1 orE (B.sr (B.ret B.bl))))
  | true =>
    rw [hb] at orE
    have e0 : wrd z x = (chrs x).all (hasC z) := by unfold wrd; rw [hb]; rfl
    rw [e0]
    refine B.dret0 (G := G) (f := 113) (d := d) (fd := m_is_word) hG.word rfl (B.sc (B.if0 orE B.sn) (B.sr (B.ret (B.un (o := .all) (comp_map (k := fun c => .bl (hasC z c)) (p := (chrs x, none)) (B.itOf (B.var (i := 0) rfl) (by simp only [itemsOf, hl, if_true])) rfl fun t mt => ?_) rfl (all_map _ _)))))
    obtain ⟨c, _, rfl⟩ := chrs_is mt
    exact ⟨_, rfl, B.bin (o := .inn) (B.var (i := 2) rfl) (B.var (i := 1) rfl) rfl rfl rfl⟩
theorem run_within (hG : HasSigns G) {d : Nat} {h : Hm} {a : Int} (h0 : 0 ≤ a) (h3 : a ≤ 3) : callF G (d + 1) 114 [.t (.int a), .t (.int 0), .t (.int 3)] h = .ok (.t (.bl true)) h := by
  refine B.dret0 (G := G) (f := 114) (d := d) (fd := m_within) hG.wth rfl (B.sr (B.ret (B.and1 (B.un (o := .isi [.tint]) (B.var (i := 0) rfl) rfl rfl) (B.and1 (B.not (k := false) (B.un (o := .isi [.tbool]) (B.var (i := 0) rfl) rfl rfl)) ?_))))
  have := B.ch (G := G) (C := callF G d) (ρ := [some (.t (.int a)), some (.t (.int 0)), some (.t (.int 3))]) (h := h) (o := .le) (p := .le) (k := true) (l := true) (a := .var 1) (b := .var 0) (c := .var 2) (B.var rfl) (B.var rfl) (B.var rfl) rfl rfl rfl (by simp [sem2, arith, cmpI, h0]) (by simp [sem2, arith, cmpI, h3])
  exact this
/-! ### signs -/
abbrev Sg := List (Str × Int)
def pT (p : Str × Int) : T := .tup [.str p.1, .int p.2]
def sgT (sg : Sg) : List T := sg.map pT
def nmT (sg : Sg) : List T := sg.map fun p => .str p.1
def arT (sg : Sg) : List T := sg.map fun p => .int p.2
def sigT (sg : Sg) : T := .obj 0 ["held"] [.dct (nmT sg) (arT sg)]
structure SgOk (sg : Sg) : Prop where
  ne : sg ≠ []
  len : sg.length ≤ 5
  all : ∀ p ∈ sg, wrd lowZ p.1 = true ∧ sOk p.1 = true ∧ 0 ≤ p.2 ∧ p.2 ≤ 3
  nd : (sg.map (·.1)).Nodup
def look : Sg → Str → Option Int
  | [], _ => none
  | (n, a) :: r, x => if n = x then some a else look r x
theorem getD_sg : ∀ (sg : Sg) (x : Str), getD (.inr x) (nmT sg) (arT sg) = (look sg x).map .int
  | [], x => rfl
  | (n, a) :: r, x => by
    have e : (keyOf (.str n) = some (.inr x : L2.Key)) ↔ n = x := by simp [keyOf]
    simp only [nmT, arT, List.map_cons, getD, look, e]
    split
    · rfl
    · exact getD_sg r x
theorem look_none : ∀ {sg : Sg} {x : Str}, x ∉ sg.map (·.1) → look sg x = none
  | [], x, _ => rfl
  | (n, a) :: r, x, h => by
    simp only [List.map_cons, List.mem_cons, not_or] at h
    simp only [look, if_neg (Ne.symm h.1), look_none h.2]
theorem look_mem : ∀ {sg : Sg} {x : Str} {a : Int}, look sg x = some a → (x, a) ∈ sg
  | [], x, a, h => by cases h
  | (n, b) :: r, x, a, h => by
    simp only [look] at h
    split at h
    · rename_i e; cases h; subst e; exact List.mem_cons_self
    · exact List.mem_cons_of_mem _ (look_mem h)
theorem look_of : ∀ {sg : Sg} {x : Str} {a : Int}, (sg.map (·.1)).Nodup → (x, a) ∈ sg → look sg x = some a
  | (n, b) :: r, x, a, nd, m => by
    simp only [List.map_cons, List.nodup_cons] at nd
    rcases List.mem_cons.mp m with e | m
    · cases e; simp [look]
    · have : n ≠ x := fun e => nd.1 (e ▸ List.mem_map.mpr ⟨_, m, rfl⟩)
      simp only [look, if_neg this, look_of nd.2 m]
theorem sOk_lim {x : Str} (h : sOk x = true) : lim x.length = true := lim_small (by simp only [sOk, Bool.and_eq_true, decide_eq_true_eq] at h; omega)
def sgBody : List St := [(.ife (.or (.not (.un (.isi [.ttuple]) (.var 4))) (.or (.bin .ne (.un .len (.var 4)) (.int 2)) (.not (.call 113 [(.bin .idx (.var 4) (.int 0)), (.con 3)])))) [(.rais 104 [(.var 3)])] []),
      (.ife (.or (.not (.call 114 [(.bin .idx (.var 4) (.int 1)), (.int 0), (.con 1)])) (.bin .inn (.bin .idx (.var 4) (.int 0)) (.var 2))) [(.rais 104 [(.var 3)])] []),
      (.seti (.var 2) (.bin .idx (.var 4) (.int 0)) (.bin .idx (.var 4) (.int 1)))]
theorem runs_init (hG : HasSigns G) {d : Nat} {h : Hm} {sg : Sg} (ok : SgOk sg) : callF G (d + 2) 104 [.r h.length, .t (.lst (sgT sg))] (h ++ [.obj 0 [] []]) = .ok (.t .non) (h ++ [.obj 0 ["held"] [.dct (nmT sg) (arT sg)]]) := by
  have hlen : (sgT sg).length = sg.length := by simp [sgT]
  have ln : 1 ≤ sg.length := List.length_pos_iff.mpr ok.ne
  have l5 := ok.len
  obtain ⟨h0, eh0⟩ : ∃ h0, h0 = h ++ [MO.obj 0 [] []] := ⟨_, rfl⟩
  have l0 : h0.length = h.length + 1 := by rw [eh0]; simp
  have at0 : h0[h.length]? = some (.obj 0 [] []) := by rw [eh0]; simp
  have isl : evE G (callF G (d + 1)) [some (.r h.length), some (.t (.lst (sgT sg))), none, none, none] h0 (.not (.un (.isi [.tlist]) (.var 1))) = .ok (.t (.bl false)) h0 := B.not (k := true) (B.un (o := .isi [.tlist]) (B.var (i := 1) rfl) rfl rfl)
  have chE := B.not (k := true) (B.ch (G := G) (C := callF G (d + 1)) (ρ := [some (.r h.length), some (.t (.lst (sgT sg))), none, none, none]) (h := h0) (o := .le) (p := .le) (k := true) (l := true) (a := .int 1) (b := .un .len (.var 1)) (c := .con 0) B.int (B.un (o := .len) (v := .lst (sgT sg)) (z := .int (sgT sg).length) (B.var (i := 1) rfl) rfl rfl) (B.con hG.c0) rfl rfl rfl
    (by simp [sem2, arith, cmpI, hlen]; omega) (by simp [sem2, arith, cmpI, hlen]; omega))
  have walk := B.loop (g := none) (f := fun y ρ hh => match setTg (.tup [3, 4]) (.t y) ρ with | some ρ1 => exSs G (callF G (d + 1)) ρ1 hh sgBody | none => .bad)
    (I := fun left ρ hh => ∃ (dn rest : Sg) (k : Nat) (x3 x4 : Option S), dn ++ rest = sg ∧ left = ((rest.map pT).zipIdx k).map (fun p => T.tup [.int (p.2 : Nat), p.1]) ∧ ρ = [some (.r h.length), some (.t (.lst (sgT sg))), some (.r h0.length), x3, x4] ∧ hh = h0 ++ [.dct (nmT dn) (arT dn)])
    (fun _ _ _ _ => rfl) (fun y left ρ hh inv => ?_) (its := enumT (sgT sg)) (ρ := [some (.r h.length), some (.t (.lst (sgT sg))), some (.r h0.length), none, none]) (h := h0 ++ [.dct [] []])
    ⟨[], sg, 0, none, none, rfl, rfl, rfl, rfl⟩
  · obtain ⟨ρ', hh, e1, dn, rest, k, x3, x4, es, el, rfl, rfl⟩ := walk
    have rn : rest = [] := by cases rest with | nil => rfl | cons _ _ => simp [List.zipIdx_cons] at el
    subst rn
    rw [List.append_nil] at es
    subst es
    rw [eh0] at *
    have nn : ((h ++ [MO.obj 0 [] []]) ++ [MO.dct (nmT dn) (arT dn)])[(h ++ [MO.obj 0 [] []]).length]? = some (.dct (nmT dn) (arT dn)) := by simp
    have b := B.def_ (G := G) (f := 104) (d := d + 1) (fd := m_Signs___init__) (h := h ++ [MO.obj 0 [] []]) (ss := [.r h.length, .t (.lst (sgT dn))]) hG.init rfl (B.sc (B.if0 isl B.sn) (B.sc (B.if0 chE B.sn) (B.sc (B.asg (i := 2) B.newd) (B.sc (B.fr (it := .enum (.var 1)) (p := (enumT (sgT dn), none)) (B.itEnum (B.var (i := 1) rfl) (lim_small (by rw [hlen]; omega))) e1)
      (B.sc (ρ1 := [some (.r h.length), some (.t (.lst (sgT dn))), some (.r (h ++ [MO.obj 0 [] []]).length), x3, x4]) (h1 := (h ++ [MO.obj 0 ["held"] [T.dct (nmT dn) (arT dn)]]) ++ [MO.dead]) (by
        have v2 : evE G (callF G (d + 1)) [some (.r h.length), some (.t (.lst (sgT dn))), some (.r (h ++ [MO.obj 0 [] []]).length), x3, x4] ((h ++ [MO.obj 0 [] []]) ++ [MO.dct (nmT dn) (arT dn)]) (.var 2) = .ok (.r (h ++ [MO.obj 0 [] []]).length) ((h ++ [MO.obj 0 [] []]) ++ [MO.dct (nmT dn) (arT dn)]) := B.var rfl
        have v0 : evE G (callF G (d + 1)) [some (.r h.length), some (.t (.lst (sgT dn))), some (.r (h ++ [MO.obj 0 [] []]).length), x3, x4] ((h ++ [MO.obj 0 [] []]) ++ [MO.dead]) (.var 0) = .ok (.r h.length) ((h ++ [MO.obj 0 [] []]) ++ [MO.dead]) := B.var rfl
        have st : ((h ++ [MO.obj 0 [] []]) ++ [MO.dct (nmT dn) (arT dn)]).set (h ++ [MO.obj 0 [] []]).length .dead = (h ++ [MO.obj 0 [] []]) ++ [MO.dead] := by rw [List.set_append_right _ _ (Nat.le_refl _), Nat.sub_self]; rfl
        have fz : evE G (callF G (d + 1)) [some (.r h.length), some (.t (.lst (sgT dn))), some (.r (h ++ [MO.obj 0 [] []]).length), x3, x4] ((h ++ [MO.obj 0 [] []]) ++ [MO.dct (nmT dn) (arT dn)]) (.fz (.var 2)) = .ok (.t (.dct (nmT dn) (arT dn))) ((h ++ [MO.obj 0 [] []]) ++ [MO.dead]) := by
          simp only [evE, R.bind_ok]
          rw [show ([some (S.r h.length), some (.t (.lst (sgT dn))), some (.r (h ++ [MO.obj 0 [] []]).length), x3, x4] : En)[2]?.join = some (.r (h ++ [MO.obj 0 [] []]).length) from rfl, liftO_some, R.bind_ok]
          simp only [fzF, dref, nn, liftO_some, R.bind_ok]
          rw [if_neg (by simp), st]
        have at1 : ((h ++ [MO.obj 0 [] []]) ++ [MO.dead])[h.length]? = some (.obj 0 [] []) := by simp
        simp only [exS, fz, R.out_ok, v0, at1, List.length_nil, putN]
        rw [if_pos (by decide)]
        congr 1
        rw [List.append_assoc, List.set_append_right _ _ (Nat.le_refl _), Nat.sub_self]
        simp) B.sn)))))
    rw [b]
    simp only [runF]
    congr 1
    rw [List.take_append_of_le_length (by simp), List.take_of_length_le (by simp)]
  · obtain ⟨dn, rest, k, x3, x4, es, el, rfl, rfl⟩ := inv
    cases rest with
    | nil => simp at el
    | cons p rest =>
      obtain ⟨m, a⟩ := p
      simp only [List.map_cons, List.zipIdx_cons, List.cons.injEq] at el
      obtain ⟨rfl, rfl⟩ := el
      obtain ⟨w1, w2, w3, w4⟩ := ok.all (m, a) (es ▸ List.mem_append_right _ List.mem_cons_self)
      have nd := ok.nd
      rw [← es, List.map_append, List.nodup_append] at nd
      have fresh : look dn m = none := look_none fun mm => nd.2.2 m mm m (by simp) rfl
      have ln5 : dn.length + 1 ≤ 5 := by have := congrArg List.length es; simp at this; omega
      have at1 : (h0 ++ [MO.dct (nmT dn) (arT dn)])[h0.length]? = some (.dct (nmT dn) (arT dn)) := by simp
      have dr : dref (h0 ++ [MO.dct (nmT dn) (arT dn)]) (.r h0.length) = some (.dct (nmT dn) (arT dn)) := by simp only [dref, at1]
      have i0 : sem2 .idx (pT (m, a)) (.int 0) = some (.str m) := by simp [pT, sem2, L2.atI, L2.ixN]
      have i1 : sem2 .idx (pT (m, a)) (.int 1) = some (.int a) := by simp [pT, sem2, L2.atI, L2.ixN]
      have kg : (getD (.inr m) (nmT dn) (arT dn)).isSome = false := by rw [getD_sg, fresh]; rfl
      refine ⟨[some (.r h.length), some (.t (.lst (sgT sg))), some (.r h0.length), some (.t (.int (k : Nat))), some (.t (pT (m, a)))], h0 ++ [.dct (nmT (dn ++ [(m, a)])) (arT (dn ++ [(m, a)]))], ?_, dn ++ [(m, a)], rest, k + 1, _, _, by simp [es], rfl, rfl, rfl⟩
      refine B.sc (B.if0 (B.or0 (B.not (k := true) (B.un (o := .isi [.ttuple]) (B.var (i := 4) rfl) rfl rfl)) (B.or0 (B.bin (o := .ne) (z := .bl false) (B.un (o := .len) (z := .int 2) (B.var (i := 4) rfl) rfl rfl) B.int rfl rfl rfl) (B.not (k := true) (B.call (B.cons (B.bin (z := .str m) (B.var (i := 4) rfl) B.int rfl rfl i0) (B.cons (B.con hG.c3) B.nil)) (by rw [run_word hG (sOk_lim w2), w1]))))) B.sn) ?_
      refine B.sc (B.if0 (B.or0 (B.not (k := true) (B.call (B.cons (B.bin (z := .int a) (B.var (i := 4) rfl) B.int rfl rfl i1) (B.cons B.int (B.cons (B.con hG.c1) B.nil))) (run_within hG w3 w4))) (B.bin (o := .inn) (z := .bl false) (B.bin (z := .str m) (B.var (i := 4) rfl) B.int rfl rfl i0) (B.var (i := 2) rfl) rfl dr (by simp [sem2, membT, keyOf, kg]))) B.sn) ?_
      refine B.sc (h1 := h0 ++ [.dct (nmT (dn ++ [(m, a)])) (arT (dn ++ [(m, a)]))]) ?_ B.sn
      rw [B.setD (k := .inr m) (B.bin (z := .int a) (B.var (i := 4) rfl) B.int rfl rfl i1) (B.var (i := 2) rfl) (B.bin (z := .str m) (B.var (i := 4) rfl) B.int rfl rfl i0) at1 rfl (lim_small (by simp [nmT]; omega))]
      congr 1
      rw [List.set_append_right _ _ (Nat.le_refl _), Nat.sub_self]
      have e : putD (.inr m) (.int a) (nmT dn) (arT dn) = (nmT dn ++ [.str m], arT dn ++ [.int a]) := by unfold putD; rw [kg]; rfl
      rw [e]; simp [nmT, arT]
/-- Signs(xs) -/
theorem runs_made (hG : HasSigns G) {d : Nat} {ρ : En} {h : Hm} {sg : Sg} {es : List E} (ok : SgOk sg) (e : evS G (callF G (d + 2)) ρ h es = .ok [.t (.lst (sgT sg))] h) : evE G (callF G (d + 2)) ρ h (.fz (.make 0 104 es)) = .ok (.t (sigT sg)) h := by
  have i := runs_init hG (d := d) (h := h) ok
  have at1 : (h ++ [MO.obj 0 ["held"] [.dct (nmT sg) (arT sg)]])[h.length]? = some (.obj 0 ["held"] [.dct (nmT sg) (arT sg)]) := by simp
  simp only [evE, e, R.bind_ok, i]
  rw [if_pos (by simp)]
  simp only [R.bind_ok, fzF, dref, at1, liftO_some]
  rw [if_pos (by simp)]
  simp [sigT]
theorem isO_sig {sg : Sg} {h : Hm} : isO 0 (.t (sigT sg)) h = some ([("held" : Str)], [T.dct (nmT sg) (arT sg)]) := rfl
theorem fld_sig {C : Orc} {ρ : En} {h : Hm} {sg : Sg} {a : E} (e : evE G C ρ h a = .ok (.t (sigT sg)) h) : evE G C ρ h (.fld 0 a "held") = .ok (.t (.dct (nmT sg) (arT sg))) h := B.fld e isO_sig (by simp [lookN])
def inS (sg : Sg) : T → Bool
  | .str x => (look sg x).isSome
  | _ => false
theorem runs_in (hG : HasSigns G) {d : Nat} {h : Hm} {sg : Sg} {v : T} : callF G (d + 1) 121 [.t (sigT sg), .t v] h = .ok (.t (.bl (inS sg v))) h := by
  have no : isTy G.sub v .tstr = false → inS sg v = false := fun e => by cases v <;> first | rfl | cases e
  cases hv : isTy G.sub v .tstr with
  | false =>
    rw [no hv]
    exact B.dret0 (G := G) (f := 121) (d := d) (fd := m_Signs___contains__) hG.inn rfl (B.sr (B.ret (B.and0 (B.un (o := .isi [.tstr]) (v := v) (B.var (i := 1) rfl) rfl (by simp [sem1, hv])))))
  | true =>
    cases v <;> first
      | (cases hv; done)
      | skip
    rename_i x
    refine B.dret0 (G := G) (f := 121) (d := d) (fd := m_Signs___contains__) hG.inn rfl (B.sr (B.ret (B.and1 (B.un (o := .isi [.tstr]) (B.var (i := 1) rfl) rfl rfl) (B.bin (o := .inn) (B.var (i := 1) rfl) (fld_sig (B.var (i := 0) rfl)) rfl rfl ?_))))
    simp [sem2, membT, keyOf, getD_sg, inS]
theorem runs_arity (hG : HasSigns G) {d : Nat} {h : Hm} {sg : Sg} {x : Str} {a : Int} (l : look sg x = some a) : callF G (d + 2) 122 [.t (sigT sg), .t (.str x)] h = .ok (.t (.int a)) h := by
  refine B.dret0 (G := G) (f := 122) (d := d + 1) (fd := m_Signs_arity) hG.arity rfl (B.sc (B.if0 ?_ B.sn) (B.sr (B.ret (B.bin (o := .idx) (fld_sig (B.var (i := 0) rfl)) (B.var (i := 1) rfl) rfl rfl ?_))))
  · have := B.own2 (G := G) (C := callF G (d + 1)) (ρ := [some (.t (sigT sg)), some (.t (.str x))]) (neg := true) (a := .var 1) (b := .var 0) (B.var (h := h) rfl) (B.var rfl) isO_sig (runs_in hG (d := d) (sg := sg) (v := .str x))
    simp only [inS, l] at this
    exact this
  · simp [sem2, keyOf, getD_sg, l]
/-! ### terms -/
mutual
def isTm (sg : Sg) : T → Bool
  | .str x => wrd topZ x
  | .tup (.str n :: as) => decide (look sg n = some (as.length : Int)) && isTms sg as
  | _ => false
def isTms (sg : Sg) : List T → Bool
  | [] => true
  | a :: as => isTm sg a && isTms sg as
end
theorem isTms_all (sg : Sg) : ∀ as : List T, isTms sg as = as.all (isTm sg)
  | [] => rfl
  | a :: as => by simp [isTms, isTms_all sg as]
theorem runs_isT (hG : HasTerms G) {sg : Sg} (ok : SgOk sg) : ∀ (d : Nat) (v : T) (h : Hm), dpt v + 3 ≤ d → dpt v ≤ 50 → gd v = true → callF G d 117 [.t (sigT sg), .t v] h = .ok (.t (.bl (isTm sg v))) h
  | 0, _, _, hd, _, _ => absurd hd (by omega)
  | d + 1, v, h, hd, h50, g => by
    have nostr : isTy G.sub v .tstr = false → exS G (callF G d) [some (.t (sigT sg)), some (.t v), none] h (.ife (.un (.isi [.tstr]) (.var 1)) [(.ret (.call 113 [(.var 1), (.con 4)]))] []) = .nx [some (.t (sigT sg)), some (.t v), none] h := fun e => B.if0 (B.un (o := .isi [.tstr]) (v := v) (B.var (i := 1) rfl) rfl (by simp [sem1, e])) B.sn
    have notup : isTy G.sub v .tstr = false → isTy G.sub v .ttuple = false → callF G (d + 1) 117 [.t (sigT sg), .t v] h = .ok (.t (.bl false)) h := fun e1 e2 =>
      B.dret0 (G := G) (f := 117) (d := d) (fd := m_is_term) hG.isT rfl (B.sc (nostr e1) (B.sr (B.if1 (B.or1 (B.not (k := false) (B.un (o := .isi [.ttuple]) (v := v) (B.var (i := 1) rfl) rfl (by simp [sem1, e2])))) (B.sr (B.ret B.bl)))))
    cases v with
    | non => exact notup rfl rfl
    | bl _ => exact notup rfl rfl
    | int _ => exact notup rfl rfl
    | lst _ => exact notup rfl rfl
    | dct _ _ => exact notup rfl rfl
    | obj _ _ _ => exact notup rfl rfl
    | str x =>
      obtain ⟨d, rfl⟩ : ∃ d', d = d' + 1 := ⟨d - 1, by omega⟩
      refine B.dret0 (G := G) (f := 117) (d := d + 1) (fd := m_is_term) hG.isT rfl (B.sr (B.if1 (B.un (o := .isi [.tstr]) (B.var (i := 1) rfl) rfl rfl) (B.sr (B.ret (B.call (B.cons (B.var (i := 1) rfl) (B.cons (B.con hG.c4) B.nil)) ?_)))))
      rw [run_word hG.toHasSigns (sOk_lim (by simpa [gd] using g))]
      simp only [isTm]
    | tup xs =>
      have istup : evE G (callF G d) [some (.t (sigT sg)), some (.t (.tup xs)), none] h (.not (.un (.isi [.ttuple]) (.var 1))) = .ok (.t (.bl false)) h := B.not (k := true) (B.un (o := .isi [.ttuple]) (B.var (i := 1) rfl) rfl rfl)
      have em := eq_nilT (gd_shp g (by omega))
      have emE : evE G (callF G d) [some (.t (sigT sg)), some (.t (.tup xs)), none] h (.bin .eq (.var 1) (.tup [])) = .ok (.t (.bl xs.isEmpty)) h := B.bin (B.var (i := 1) rfl) (B.tup B.tnil) rfl rfl em
      cases xs with
      | nil => exact B.dret0 (G := G) (f := 117) (d := d) (fd := m_is_term) hG.isT rfl (B.sc (nostr rfl) (B.sr (B.if1 (B.or0 istup (B.or1 emE)) (B.sr (B.ret B.bl)))))
      | cons x as =>
        have i0 : sem2 .idx (.tup (x :: as)) (.int 0) = some x := by simp [sem2, L2.atI, L2.ixN]
        have x0 : evE G (callF G d) [some (.t (sigT sg)), some (.t (.tup (x :: as))), none] h (.bin .idx (.var 1) (.int 0)) = .ok (.t x) h := B.bin (B.var (i := 1) rfl) B.int rfl rfl i0
        obtain ⟨d, rfl⟩ : ∃ d', d = d' + 2 := ⟨d - 2, by omega⟩
        have inE := B.own2 (G := G) (C := callF G (d + 2)) (ρ := [some (.t (sigT sg)), some (.t (.tup (x :: as))), none]) (neg := true) (b := .var 0) x0 (B.var rfl) isO_sig (runs_in hG.toHasSigns (d := d + 1) (sg := sg) (v := x))
        cases hin : inS sg x with
        | false =>
          rw [hin] at inE
          have e0 : isTm sg (.tup (x :: as)) = false := by
            cases x <;> first
              | rfl
              | (rename_i n
                 simp only [inS, Option.isSome_eq_false_iff, Option.isNone_iff_eq_none] at hin
                 simp [isTm, hin])
          rw [e0]
          exact B.dret0 (G := G) (f := 117) (d := d + 2) (fd := m_is_term) hG.isT rfl (B.sc (nostr rfl) (B.sr (B.if1 (B.or0 istup (B.or0 emE inE)) (B.sr (B.ret B.bl)))))
        | true =>
          rw [hin] at inE
          cases x <;> first
            | (cases hin; done)
            | skip
          rename_i n
          obtain ⟨a, la⟩ := Option.isSome_iff_exists.mp (show (look sg n).isSome = true from hin)
          have arE : evE G (callF G (d + 2)) [some (.t (sigT sg)), some (.t (.tup (.str n :: as))), none] h (.meth 0 122 "arity" (.var 0) [(.bin .idx (.var 1) (.int 0))]) = .ok (.t (.int a)) h := B.meth (B.var rfl) isO_sig (show ([("held" : Str)] : List Str).contains "arity" = false by decide +kernel) (B.cons x0 B.nil) (runs_arity hG.toHasSigns la)
          have neE : evE G (callF G (d + 2)) [some (.t (sigT sg)), some (.t (.tup (.str n :: as))), none] h (.bin .ne (.un .len (.var 1)) (.bin .add (.meth 0 122 "arity" (.var 0) [(.bin .idx (.var 1) (.int 0))]) (.int 1))) = .ok (.t (.bl (!(((as.length + 1 : Nat) : Int) == a + 1)))) h :=
            B.bin (o := .ne) (v := .int (as.length + 1 : Nat)) (v2 := .int (a + 1)) (B.un (o := .len) (z := .int (as.length + 1 : Nat)) (B.var (i := 1) rfl) rfl rfl) (B.bin (o := .add) (z := .int (a + 1)) arE B.int rfl rfl rfl) rfl rfl rfl
          by_cases hlen : a = (as.length : Int)
          · subst hlen
            have e0 : isTm sg (.tup (.str n :: as)) = as.all (isTm sg) := by simp [isTm, la, isTms_all]
            rw [e0]
            have ne0 : (!(((as.length + 1 : Nat) : Int) == (as.length : Int) + 1)) = false := by simp
            rw [ne0] at neE
            refine B.dret0 (G := G) (f := 117) (d := d + 2) (fd := m_is_term) hG.isT rfl (B.sc (nostr rfl) (B.sc (B.if0 (B.or0 istup (B.or0 emE inE)) B.sn) (B.sc (B.if0 neE B.sn) (B.sr (B.ret (B.un (o := .all) (comp_map (k := fun c => .bl (isTm sg c)) (p := (as, none)) (B.itOf (B.slfT (n := 1) (B.var (i := 1) rfl) rfl) (by rw [cutB_from]; rfl)) rfl fun t mt => ?_) rfl (all_map _ _)))))))
            simp only [gd, gds, Bool.and_eq_true] at g
            simp only [dpt, dpts] at hd h50
            have dt : dpt t ≤ dpts as := dpts_le.mp (Nat.le_refl _) t mt
            exact ⟨_, rfl, B.call (B.cons (B.var (i := 0) rfl) (B.cons (B.var (i := 2) rfl) B.nil)) (runs_isT hG ok (d + 2) t h (by omega) (by omega) (gds_all.mp g.2 t mt))⟩
          · have e0 : isTm sg (.tup (.str n :: as)) = false := by
              simp only [isTm, la, Option.some.injEq, hlen, decide_false, Bool.false_and]
            rw [e0]
            have ne0 : (!(((as.length + 1 : Nat) : Int) == a + 1)) = true := by simp; omega
            rw [ne0] at neE
            exact B.dret0 (G := G) (f := 117) (d := d + 2) (fd := m_is_term) hG.isT rfl (B.sc (nostr rfl) (B.sc (B.if0 (B.or0 istup (B.or0 emE inE)) B.sn) (B.sr (B.if1 neE (B.sr (B.ret B.bl))))))
end My

/-! Drawn signs, drawn terms over them. -/
namespace My
open PySem (Str PyData)
open My.M
structure HasDrawn (G : Ctx) : Prop extends HasFeed G where
  drawn : G.fs 126 = some m__law_drawn_signs
  known : G.fs 130 = some m__law_known_signs
structure HasTermD (G : Ctx) : Prop extends HasDrawn G where
  term : G.fs 127 = some m__law_term
variable {G : Ctx}
/-! ### signs -/
def sgOf : List T → Option Sg
  | [] => some []
  | .tup [.str n, .int a] :: r => (sgOf r).map ((n, a) :: ·)
  | _ :: _ => none
theorem sgOf_eq : ∀ {xs : List T} {sg : Sg}, sgOf xs = some sg → xs = sgT sg
  | [], sg, e => by simp only [sgOf] at e; cases e; rfl
  | x :: r, sg, e => by
    unfold sgOf at e
    split at e
    · rename_i h; cases h
    · rename_i n a r' h
      cases h
      simp only [Option.map_eq_some_iff] at e
      obtain ⟨s, e1, rfl⟩ := e
      rw [sgOf_eq e1]; rfl
    · cases e
def nodupB : List Str → Bool
  | [] => true
  | x :: xs => !(xs.contains x) && nodupB xs
theorem nodupB_ok : ∀ {xs : List Str}, nodupB xs = true → xs.Nodup
  | [], _ => .nil
  | x :: xs, h => by
    simp only [nodupB, Bool.and_eq_true, Bool.not_eq_true'] at h
    refine List.nodup_cons.mpr ⟨fun m => ?_, nodupB_ok h.2⟩
    have := List.contains_iff_mem.mpr m
    rw [h.1] at this
    cases this
def sgChk (sg : Sg) : Bool := !sg.isEmpty && decide (sg.length ≤ 5) && (sg.all fun p => wrd lowZ p.1 && sOk p.1 && decide (0 ≤ p.2) && decide (p.2 ≤ 3)) && nodupB (sg.map (·.1)) && (decide (sg.length ≤ 4) && sg.all fun p => decide (p.1 ≠ "q"))
/-- what is drawn has at most four signs, none of them q -/
structure DrOk (sg : Sg) : Prop extends SgOk sg where
  four : sg.length ≤ 4
  noq : ∀ p ∈ sg, p.1 ≠ "q"
theorem sgChk_dr {sg : Sg} (h : sgChk sg = true) : DrOk sg := by
  simp only [sgChk, Bool.and_eq_true, Bool.not_eq_true', List.isEmpty_eq_false_iff, decide_eq_true_eq, List.all_eq_true] at h
  exact ⟨⟨h.1.1.1.1, h.1.1.1.2, fun p m => let q := h.1.1.2 p m; ⟨q.1.1.1, q.1.1.2, q.1.2, q.2⟩, nodupB_ok h.1.2⟩, h.2.1, h.2.2⟩
theorem sgChk_ok {sg : Sg} (h : sgChk sg = true) : SgOk sg := (sgChk_dr h).toSgOk
def sgB : T → Bool
  | .lst xs => match sgOf xs with | some sg => sgChk sg | none => false
  | _ => false
theorem sgB_is {t : T} (h : sgB t = true) : ∃ sg, t = .lst (sgT sg) ∧ DrOk sg := by
  unfold sgB at h
  split at h
  · rename_i xs
    split at h
    · rename_i sg e
      exact ⟨sg, by rw [sgOf_eq e], sgChk_dr h⟩
    · cases h
  · cases h
def known : List T := [.lst [.tup [.str "plus", .int 2], .tup [.str "s", .int 1], .tup [.str "zero", .int 0]],
  .lst [.tup [.str "f", .int 2], .tup [.str "g", .int 1], .tup [.str "a", .int 0]],
  .lst [.tup [.str "f", .int 2], .tup [.str "a", .int 0], .tup [.str "b", .int 0]],
  .lst [.tup [.str "g", .int 1], .tup [.str "f", .int 2], .tup [.str "h", .int 2]],
  .lst [.tup [.str "a", .int 0], .tup [.str "b", .int 0], .tup [.str "c", .int 0]],
  .lst [.tup [.str "f", .int 3], .tup [.str "a", .int 0], .tup [.str "b", .int 0]],
  .lst [.tup [.str "f", .int 1], .tup [.str "g", .int 1], .tup [.str "h", .int 1]],
  .lst [.tup [.str "times", .int 2], .tup [.str "plus", .int 2], .tup [.str "s", .int 1], .tup [.str "zero", .int 0]],
  .lst [.tup [.str "left", .int 2], .tup [.str "above", .int 2], .tup [.str "lots", .int 0]],
  .lst [.tup [.str "order", .int 1], .tup [.str "rule", .int 0], .tup [.str "sign", .int 2]],
  .lst [.tup [.str "b", .int 0], .tup [.str "f", .int 2]],
  .lst [.tup [.str "f", .int 2], .tup [.str "g", .int 1], .tup [.str "a", .int 0], .tup [.str "b", .int 0]],
  .lst [.tup [.str "f", .int 3]]]
theorem known_ok : known.all sgB = true := by decide +kernel
theorem run_known (hG : HasDrawn G) {d : Nat} {h : Hm} : callF G (d + 1) 130 [] h = .ok (.t (.lst known)) h :=
  B.dret0 (f := 130) (fd := m__law_known_signs) hG.known rfl (B.sc (B.asg (i := 0) (cE_ev rfl)) (B.sc (B.asg (i := 0) (B.bin (B.var (i := 0) rfl) (cE_ev rfl) rfl rfl rfl)) (B.sc (B.asg (i := 0) (B.bin (B.var (i := 0) rfl) (cE_ev rfl) rfl rfl rfl)) (B.sc (B.asg (i := 0) (B.bin (B.var (i := 0) rfl) (cE_ev rfl) rfl rfl rfl)) (B.sr (B.ret (B.bin (B.var (i := 0) rfl) (cE_ev rfl) rfl rfl rfl)))))))
def named : List T := [.lst [.str "f", .str "g", .str "h", .str "k"], .lst [.str "k", .str "f", .str "a", .str "g"], .lst [.str "z", .str "ab", .str "b", .str "abcdefgh"]]
def nmB : T → Bool
  | .lst xs => match strsOf xs with | some ws => decide (ws.length = 4) && nodupB ws && ws.all fun x => wrd lowZ x && sOk x && decide (x ≠ "q") | none => false
  | _ => false
theorem named_ok : named.all nmB = true := by decide +kernel
theorem strsOf_eq : ∀ {xs : List T} {ws : List Str}, strsOf xs = some ws → xs = ws.map .str
  | [], ws, e => by simp only [strsOf] at e; cases e; rfl
  | .str x :: r, ws, e => by
    simp only [strsOf, Option.map_eq_some_iff] at e
    obtain ⟨s, e1, rfl⟩ := e
    rw [strsOf_eq e1]; rfl
  | .non :: _, ws, e | .bl _ :: _, ws, e | .int _ :: _, ws, e | .tup _ :: _, ws, e | .lst _ :: _, ws, e | .dct _ _ :: _, ws, e | .obj _ _ _ :: _, ws, e => by simp [strsOf] at e
theorem nmB_is {t : T} (h : nmB t = true) : ∃ ws : List Str, t = .lst (ws.map .str) ∧ ws.length = 4 ∧ ws.Nodup ∧ ∀ x ∈ ws, (wrd lowZ x = true ∧ sOk x = true) ∧ x ≠ "q" := by
  unfold nmB at h
  split at h
  · rename_i xs
    split at h
    · rename_i ws e
      simp only [Bool.and_eq_true, decide_eq_true_eq, List.all_eq_true] at h
      exact ⟨ws, by rw [strsOf_eq e], h.1.1, nodupB_ok h.1.2, h.2⟩
    · cases h
  · cases h
def dwBody : List St := [(.asg (.name 6) (.call 108 [(.var 0), (.ite (.bin .lt (.var 4) (.int 2)) (.int 4) (.int 2))])),
      (.asg (.name 4) (.bin .add (.var 4) (.un .int (.bin .ge (.var 6) (.int 2))))), (.ex (.app (.var 3) (.tup [(.bin .idx (.var 1) (.var 5)), (.var 6)])))]
theorem run_drawn (hG : HasDrawn G) {d n : Nat} {h : Hm} (f : isFeed h n) : ∃ (sg : Sg) (h' : Hm), DrOk sg ∧ Adv n h h' ∧ callF G (d + 3) 126 [.r n] h = .ok (.t (.lst (sgT sg))) h' := by
  have hn := f.lt
  obtain ⟨r, h1, _, _, a1, e1⟩ := run_take hG.toHasFeed (d := d + 1) (m := 3) f (by omega) (by omega)
  let ρ0 : En := [some (.r n), none, none, none, none, none, none]
  have test : ∀ b : Bool, decide (0 < r) = b → evE G (callF G (d + 2)) ρ0 h (.bin .gt (.call 108 [(.var 0), (.int 3)]) (.int 0)) = .ok (.t (.bl b)) h1 := fun b e => B.bin (B.call (B.cons (B.var (i := 0) rfl) (B.cons B.int B.nil)) e1) B.int rfl rfl (by simp [sem2, arith, cmpI, e])
  by_cases hr : 0 < r
  · obtain ⟨x, h2, mx, a2, e2⟩ := run_pick hG.toHasFeed (d := d) a1.feed (offF.t (n := n) (xs := known)) (by decide) (by decide)
    obtain ⟨sg, rfl, ok⟩ := sgB_is (List.all_eq_true.mp known_ok x mx)
    refine ⟨sg, h2, ok, a1.trans a2, ?_⟩
    have z := B.dret (G := G) (f := 126) (d := d + 2) (fd := m__law_drawn_signs) (h := h) (ss := [.r n]) hG.drawn rfl (B.sr (B.if1 (test true (by simp [hr])) (B.sr (B.ret (B.call (B.cons (B.var (i := 0) rfl) (B.cons (B.call B.nil (run_known hG)) B.nil)) e2)))))
    rw [z, List.take_of_length_le (by rw [a2.len, a1.len]; exact Nat.le_refl _)]
  · obtain ⟨x, h2, mx, a2, e2⟩ := run_pick hG.toHasFeed (d := d) a1.feed (offF.t (n := n) (xs := named)) (by decide) (by decide)
    obtain ⟨ws, rfl, w4, wnd, wok⟩ := nmB_is (List.all_eq_true.mp named_ok x mx)
    obtain ⟨r2, h3, r20, r21, a3, e3⟩ := run_take hG.toHasFeed (d := d + 1) (m := 4) a2.feed (by omega) (by omega)
    have adv := (a1.trans a2).trans a3
    let ρ2 : En := [some (.r n), some (.t (.lst (ws.map .str))), some (.t (.int (1 + r2))), some (.r h3.length), some (.t (.int 0)), none, none]
    have walk := B.loop (g := none) (f := fun y ρ hh => match setTg (.name 5) (.t y) ρ with | some ρ1 => exSs G (callF G (d + 2)) ρ1 hh dwBody | none => .bad)
      (I := fun left ρ hh => ∃ (w : Int) (y z : Option S) (dn : Sg) (m : Nat), ρ = [some (.r n), some (.t (.lst (ws.map .str))), some (.t (.int (1 + r2))), some (.r h3.length), some (.t (.int w)), y, z] ∧ hh[h3.length]? = some (.lst (sgT dn)) ∧ dn.map (·.1) = ws.take dn.length ∧ (∀ p ∈ dn, 0 ≤ p.2 ∧ p.2 ≤ 3) ∧
        dn.length + m = (1 + r2).toNat ∧ Ext n h3 hh ∧ left = (List.range' dn.length m).map fun i : Nat => T.int i)
      (fun _ _ _ _ => rfl) (fun x left ρ hh inv => by
        obtain ⟨w, y, z, dn, m, rfl, e4, nm, ar, le, ex, el⟩ := inv
        cases m with
        | zero => simp at el
        | succ m =>
        rw [List.range'_succ, List.map_cons] at el
        obtain ⟨rfl, rfl⟩ := List.cons.inj el
        have hdn : dn.length < ws.length := by omega
        have hat : L2.atI (ws.map T.str) (dn.length : Int) = some (.str ws[dn.length]) := by simp [L2.atI, L2.ixN, hdn]
        have four : ∃ m : Int, (m = 4 ∨ m = 2) ∧ evE G (callF G (d + 2)) [some (.r n), some (.t (.lst (ws.map .str))), some (.t (.int (1 + r2))), some (.r h3.length), some (.t (.int w)), some (.t (.int (dn.length : Nat))), z] hh (.ite (.bin .lt (.var 4) (.int 2)) (.int 4) (.int 2)) = .ok (.t (.int m)) hh := by
          by_cases hw : w < 2
          · exact ⟨4, .inl rfl, B.ite1 (B.bin (z := .bl true) (B.var (i := 4) rfl) B.int rfl rfl (by simp [sem2, arith, cmpI, hw])) B.int⟩
          · exact ⟨2, .inr rfl, B.ite0 (B.bin (z := .bl false) (B.var (i := 4) rfl) B.int rfl rfl (by simp [sem2, arith, cmpI]; omega)) B.int⟩
        obtain ⟨m4, hm, em⟩ := four
        obtain ⟨ar4, h5, ar0, ar1, a5, e5⟩ := run_take hG.toHasFeed (d := d + 1) (m := m4) ex.feed (by omega) (by omega)
        have hlt : h3.length < hh.length := (List.getElem?_eq_some_iff.mp e4).1
        have nn : h3.length ≠ n := by have := adv.len; omega
        have e6 : h5[h3.length]? = some (.lst (sgT dn)) := by rw [a5.old _ nn]; exact e4
        have zz := B.sc (G := G) (C := callF G (d + 2)) (ρ := [some (.r n), some (.t (.lst (ws.map .str))), some (.t (.int (1 + r2))), some (.r h3.length), some (.t (.int w)), some (.t (.int (dn.length : Nat))), z]) (h := hh) (B.asg (i := 6) (B.call (B.cons (B.var (i := 0) rfl) (B.cons em B.nil)) e5))
          (B.sc (B.asg (i := 4) (B.bin (o := .add) (z := .int (w + if decide (2 ≤ ar4) then 1 else 0)) (B.var (i := 4) rfl) (B.un (o := .int) (v := .bl (decide (2 ≤ ar4))) (z := .int (if decide (2 ≤ ar4) then 1 else 0)) (B.bin (o := .ge) (B.var (i := 6) rfl) B.int rfl rfl rfl) rfl rfl) rfl rfl rfl))
          (B.sc (B.ex (B.app (B.var (i := 3) rfl) ⟨sgT dn, e6⟩ (B.tup (B.tcons (v := .str ws[dn.length]) (B.bin (o := .idx) (B.var (i := 1) rfl) (B.var (i := 5) rfl) rfl rfl (by simp only [sem2]; exact hat)) (B.tcons (v := .int ar4) (B.var (i := 6) rfl) B.tnil))) e6 (lim_small (by simp [sgT]; omega)))) B.sn))
        refine ⟨_, _, zz, _, _, _, dn ++ [(ws[dn.length], ar4)], m, rfl, ?_, ?_, fun p mp => ?_, by simp; omega, ?_, by simp⟩
        · rw [List.getElem?_set_self (by rw [a5.len]; exact hlt)]
          simp [sgT, pT]
        · rw [List.map_append, nm, List.length_append, List.length_singleton, List.take_add_one, List.getElem?_eq_getElem hdn]; rfl
        · rcases List.mem_append.mp mp with mp | mp
          · exact ar p mp
          · simp at mp
            subst mp
            exact ⟨ar0, by show ar4 ≤ 3; omega⟩
        · refine ⟨by simp [a5.len]; exact ex.len, fun k hk lk => ?_, ?_⟩
          · rw [List.getElem?_set_ne (by omega), a5.old k hk, ex.old k hk lk]
          · obtain ⟨u, v, e8⟩ := a5.feed
            exact ⟨u, v, by rw [List.getElem?_set_ne nn]; exact e8⟩) (its := rngT 0 (1 + r2).toNat) (ρ := ρ2) (h := h3 ++ [.lst []])
      ⟨0, none, none, [], (1 + r2).toNat, rfl, by simp [sgT], by simp, fun p mp => (by cases mp), by simp, Ext.push a3.feed, by simp [rngT, List.range_eq_range']⟩
    obtain ⟨ρ3, hh, e4, w, y, z, dn, m, rfl, e5, nm, ar, le, ex, el⟩ := walk
    have m0 : m = 0 := by cases m with | zero => rfl | succ m => simp [List.range'_succ] at el
    subst m0
    have hdl : dn.length = (1 + r2).toNat := by omega
    have hlt : h3.length < hh.length := (List.getElem?_eq_some_iff.mp e5).1
    have nn : h3.length ≠ n := by have := adv.len; omega
    have mw : ∀ p ∈ dn, p.1 ∈ ws := fun p mp => List.mem_of_mem_take (nm ▸ List.mem_map.mpr ⟨p, mp, rfl⟩)
    have ok : DrOk dn := by
      refine ⟨⟨fun e => by rw [e] at hdl; simp at hdl; omega, by omega, fun p mp => ?_, by rw [nm]; exact List.Nodup.sublist (List.take_sublist _ _) wnd⟩, by omega, fun p mp => (wok _ (mw p mp)).2⟩
      have : p.1 ∈ ws := List.mem_of_mem_take (nm ▸ List.mem_map.mpr ⟨p, mp, rfl⟩)
      exact ⟨(wok _ this).1.1, (wok _ this).1.2, (ar p mp).1, (ar p mp).2⟩
    have fz : ∃ h6, evE G (callF G (d + 2)) [some (.r n), some (.t (.lst (ws.map .str))), some (.t (.int (1 + r2))), some (.r h3.length), some (.t (.int w)), y, z] hh (.fz (.var 3)) = .ok (.t (.lst (sgT dn))) h6 ∧ Ext n h h6 := by
      have v3 : evE G (callF G (d + 2)) [some (.r n), some (.t (.lst (ws.map .str))), some (.t (.int (1 + r2))), some (.r h3.length), some (.t (.int w)), y, z] hh (.var 3) = .ok (.r h3.length) hh := B.var rfl
      refine ⟨hh.set h3.length .dead, ?_, ?_⟩
      · rw [evE, v3, R.bind_ok]
        simp only [fzF, dref, e5, liftO_some, R.bind_ok]
        rw [if_neg (by omega)]
      · have e := adv.ext.trans ex
        refine ⟨by simp; exact e.len, fun k hk lk => ?_, ?_⟩
        · rw [List.getElem?_set_ne (by have := adv.len; omega)]; exact e.old k hk lk
        · obtain ⟨u, v, e8⟩ := e.feed
          exact ⟨u, v, by rw [List.getElem?_set_ne nn]; exact e8⟩
    obtain ⟨h6, efz, ext⟩ := fz
    have zz := B.dret (G := G) (f := 126) (d := d + 2) (fd := m__law_drawn_signs) (h := h) (ss := [.r n]) hG.drawn rfl (B.sc (B.if0 (test false (by simp [hr])) B.sn) (B.sc (B.asg (i := 1) (B.call (B.cons (B.var (i := 0) rfl) (B.cons (cE_ev rfl) B.nil)) e2))
      (B.sc (B.par (ρ1 := ρ2) (B.cons (B.bin (z := .int (1 + r2)) B.int (B.call (B.cons (B.var (i := 0) rfl) (B.cons B.int B.nil)) e3) rfl rfl rfl) (B.cons (B.newl B.tnil) (B.cons B.int B.nil))) rfl) (B.sc (B.fr (B.itRng (B.var (i := 2) rfl) (rng_small (by omega) (by omega))) e4) (B.sr (B.ret efz))))))
    exact ⟨dn, _, ok, ext.cut hn, zz⟩
end My

/-! Drawn words, drawn terms. -/
namespace My
open PySem (Str PyData)
open My.M
variable {G : Ctx}
theorem compB_inv {g : Option (Nat × MO)} {f : T → Hm → R (Option T)} {I : Hm → Prop} {P : T → Prop} (gd : ∀ h, I h → gOk g h = true) : ∀ {its : List T} {h : Hm}, (∀ x ∈ its, ∀ h, I h → ∃ y h', f x h = .ok (some y) h' ∧ I h' ∧ P y) → I h →
    ∃ ys h', compL g f its h = .ok ys h' ∧ I h' ∧ (∀ y ∈ ys, P y) ∧ ys.length = its.length
  | [], h, _, i => ⟨[], h, by simp [compL, gd h i], i, fun _ m => (by cases m), rfl⟩
  | x :: xs, h, st, i => by
    obtain ⟨y, h1, e1, i1, p1⟩ := st x List.mem_cons_self h i
    obtain ⟨ys, h2, e2, i2, p2, n2⟩ := compB_inv gd (fun z m => st z (List.mem_cons_of_mem _ m)) i1
    exact ⟨y :: ys, h2, by simp [compL, gd h i, e1, e2], i2, fun z m => (List.mem_cons.mp m).elim (fun e => e ▸ p1) (p2 z), by simp [n2]⟩
/-- a comprehension that draws -/
theorem comp_inv {C : Orc} {ρ : En} {h h1 : Hm} {own : List Nat} {tg : Tg} {it : It} {e : E} {p : List T × Option (Nat × MO)} {I : Hm → Prop} {P : T → Prop} (hit : evIt G C ρ h it = .ok p h1) (gd : ∀ h, I h → gOk p.2 h = true)
    (st : ∀ x ∈ p.1, ∀ h, I h → ∃ ρ' y h', setTg tg (.t x) (wipeE ρ own) = some ρ' ∧ evE G C ρ' h e = .ok (.t y) h' ∧ I h' ∧ P y) (i : I h1) : ∃ ys h', evE G C ρ h (.comp own tg it [] e) = .ok (.t (.lst ys)) h' ∧ I h' ∧ (∀ y ∈ ys, P y) ∧ ys.length = p.1.length := by
  have key : ∀ x ∈ p.1, ∀ h, I h → ∃ y h', ((liftO (setTg tg (.t x) (wipeE ρ own)) h).bind fun ρ1 h => (evCs G C ρ1 h []).bind fun k h1 => if k then (evE G C ρ1 h1 e).bind fun s h2 => (asT s h2).bind fun v h2 => .ok (some v) h2 else .ok none h1) = .ok (some y) h' ∧ I h' ∧ P y := fun x hx h ih => by
    obtain ⟨ρ', y, h', e1, e2, i2, p2⟩ := st x hx h ih
    exact ⟨y, h', by rw [e1, liftO_some, R.bind_ok, evCs, R.bind_ok]; simp only [if_true]; rw [e2]; rfl, i2, p2⟩
  obtain ⟨ys, h', e1, i1, p1, n1⟩ := compB_inv (g := p.2) (P := P) gd key i
  exact ⟨ys, h', by rw [evE, hit, R.bind_ok, e1]; rfl, i1, p1, n1⟩
theorem rngB_len (n : Nat) : (rngT 0 n).length = n := by simp [rngT]
/-! ### letters and words -/
theorem run_pickS (hG : HasFeed G) {d n : Nat} {h : Hm} {z : Str} (f : isFeed h n) (h0 : 0 < z.length) (h1 : z.length < 1000) : ∃ (c : Nat) (h' : Hm), c ∈ z.cps.toList ∧ Adv n h h' ∧ callF G (d + 2) 102 [.r n, .t (.str z)] h = .ok (.t (.str ⟨#[c]⟩)) h' := by
  obtain ⟨r, h', r0, r1, adv, e⟩ := run_take hG (d := d) (m := (z.length : Int)) f (by omega) (by omega)
  have hl : r.toNat < z.cps.toList.length := by rw [Array.length_toList]; show r.toNat < z.length; omega
  have lm : lim z.length = true := lim_small (by omega)
  have hl2 : r < z.cps.toList.length := by omega
  refine ⟨z.cps.toList[r.toNat], h', List.getElem_mem _, adv, ?_⟩
  have zz := B.dret (G := G) (f := 102) (d := d + 1) (fd := m__law_pick) (h := h) (ss := [.r n, .t (.str z)]) hG.pick rfl (B.sr (B.ret (B.bin (z := .str ⟨#[z.cps.toList[r.toNat]]⟩) (B.var (i := 1) rfl) (B.call (B.cons (B.var (i := 0) rfl) (B.cons (B.un (o := .len) (v := .str z) (z := .int z.length) (B.var (i := 1) rfl) rfl (by simp only [sem1, lm, if_true])) B.nil)) e) rfl rfl (by
    simp only [sem2, lm, if_true]
    simp only [L2.atI, L2.ixN, r0, hl2, and_self, decide_true, Bool.and_self, if_true, Option.bind_some, List.getElem?_eq_getElem hl, Option.map_some]))))
  rw [zz, List.take_of_length_le (by rw [adv.len]; exact Nat.le_refl _)]
def ones (z : Str) : Bool := (decide (0 < z.length) && decide (z.length < 1000)) && z.cps.toList.all (fun c => hasC z (.str ⟨#[c]⟩) && decide (c < 0x110000))
theorem top_ones : ones topZ = true := by decide +kernel
theorem low_ones : ones lowZ = true := by decide +kernel
theorem ones_len {z : Str} (h : ones z = true) : 0 < z.length ∧ z.length < 1000 := by simp only [ones, Bool.and_eq_true, decide_eq_true_eq] at h; exact h.1
theorem ones_all {z : Str} (h : ones z = true) : z.cps.toList.all (fun c => hasC z (.str ⟨#[c]⟩) && decide (c < 0x110000)) = true := by simp only [ones, Bool.and_eq_true] at h; exact h.2
def one (c : Nat) : Str := ⟨#[c]⟩
theorem joinOnes : ∀ cs : List Nat, PySem.Str.join "" (cs.map one) = ⟨cs.toArray⟩
  | [] => rfl
  | [c] => rfl
  | c :: e :: r => by
    have h := joinOnes (e :: r)
    rw [List.map_cons] at h
    show one c ++ ("" : String) ++ PySem.Str.join "" (one e :: r.map one) = _
    rw [h]
    show (⟨(#[c] ++ #[]) ++ (e :: r).toArray⟩ : Str) = _
    simp
/-- a drawn word -/
theorem ones_of {z : Str} : ∀ {ys : List T}, (∀ y ∈ ys, ∃ c, y = .str (one c) ∧ c ∈ z.cps.toList) → ∃ cs : List Nat, ys = cs.map (fun c => T.str (one c)) ∧ ∀ c ∈ cs, c ∈ z.cps.toList
  | [], _ => ⟨[], rfl, fun _ m => (by cases m)⟩
  | y :: ys, h => by
    obtain ⟨c, rfl, mc⟩ := h y List.mem_cons_self
    obtain ⟨cs, rfl, a⟩ := ones_of fun z m => h z (List.mem_cons_of_mem _ m)
    exact ⟨c :: cs, rfl, fun x m => (List.mem_cons.mp m).elim (fun e => e ▸ mc) (a x)⟩
theorem strs_ones (cs : List Nat) : strsOf (cs.map fun c => T.str (one c)) = some (cs.map one) := by
  induction cs with
  | nil => rfl
  | cons c cs ih => simp [strsOf, ih]
theorem sum_ones (cs : List Nat) : ((cs.map one).map (·.length)).sum = cs.length := by
  induction cs with
  | nil => rfl
  | cons c cs ih =>
    simp only [List.map_cons, List.sum_cons, ih, List.length_cons]
    have : (one c).length = 1 := rfl
    omega
theorem run_word_drawn (hG : HasFeed G) {d n : Nat} {z : Str} {ez : E} (hz : ones z = true) {h : Hm} {ρ : En} {i j : Nat} (f : isFeed h n) (hi : ρ[i]? = some (some (.r n))) (hij : i ≠ j) (he : ∀ (y : Option S) (h : Hm), evE G (callF G (d + 2)) ((ρ.set j none).set j y) h ez = .ok (.t (.str z)) h) :
    ∃ (w : Str) (h' : Hm), wrd z w = true ∧ sOk w = true ∧ Adv n h h' ∧ evE G (callF G (d + 2)) ρ h (.join (.str "") (.comp [j] (.name j) (.rng1 (.bin .add (.int 1) (.call 108 [(.var i), (.int 8)]))) [] (.call 102 [(.var i), ez]))) = .ok (.t (.str w)) h' := by
  obtain ⟨r, h1, r0, r1, a1, e1⟩ := run_take hG (d := d + 1) (m := 8) f (by omega) (by omega)
  obtain ⟨ys, h2, ec, ⟨a2, _⟩, pys, nys⟩ := comp_inv (G := G) (C := callF G (d + 2)) (ρ := ρ) (h := h) (h1 := h1) (own := [j]) (tg := .name j) (it := .rng1 (.bin .add (.int 1) (.call 108 [(.var i), (.int 8)]))) (e := .call 102 [(.var i), ez]) (p := (rngT 0 (1 + r).toNat, none)) (I := fun h => Adv n h1 h ∧ True) (P := fun y => ∃ c, y = .str (one c) ∧ c ∈ z.cps.toList)
    (B.itRng (B.bin (o := .add) (z := .int (1 + r)) B.int (B.call (B.cons (B.var hi) (B.cons B.int B.nil)) e1) rfl rfl rfl) (rng_small (by omega) (by omega))) (fun _ _ => rfl) (fun x hx h4 ⟨a4, _⟩ => by
      obtain ⟨c, h5, mc, a5, e5⟩ := run_pickS hG (d := d) (z := z) a4.feed (ones_len hz).1 (ones_len hz).2
      refine ⟨_, .str ⟨#[c]⟩, h5, rfl, B.call (B.cons (B.var (s := .r n) ?_) (B.cons (he _ _) B.nil)) e5, ⟨a4.trans a5, trivial⟩, c, rfl, mc⟩
      simp only [wipeE]
      rw [List.getElem?_set_ne (Ne.symm hij), List.getElem?_set_ne (Ne.symm hij)]
      exact hi) ⟨Adv.refl a1.feed, trivial⟩
  obtain ⟨cs, rfl, mcs⟩ := ones_of pys
  have ncs : cs.length = (1 + r).toNat := by simpa [rngB_len] using nys
  have all := List.all_eq_true.mp (ones_all hz)
  refine ⟨⟨cs.toArray⟩, h2, ?_, ?_, a1.trans a2, ?_⟩
  · have l1 : (⟨cs.toArray⟩ : Str).length = cs.length := by simp [PySem.Str.length]
    unfold wrd
    rw [l1]
    simp only [Bool.and_eq_true, decide_eq_true_eq, List.all_eq_true]
    refine ⟨⟨by omega, by omega⟩, fun t mt => ?_⟩
    obtain ⟨c, mc, rfl⟩ := chrs_is mt
    have := all c (mcs c (by simpa using mc))
    simp only [Bool.and_eq_true] at this
    exact this.1
  · have l1 : (⟨cs.toArray⟩ : Str).length = cs.length := by simp [PySem.Str.length]
    unfold sOk
    rw [l1]
    simp only [Bool.and_eq_true, decide_eq_true_eq, PyData.strOk, Array.all_eq_true']
    refine ⟨fun c mc => ?_, by omega⟩
    have := all c (mcs c (by simpa using mc))
    simp only [Bool.and_eq_true, decide_eq_true_eq] at this
    exact this.2
  · rw [evE, B.str (G := G), R.bind_ok]
    simp only [ec, R.bind_ok, dref, liftO_some, joinT, strs_ones, Option.bind_some]
    rw [if_pos (by
      rw [sum_ones, List.length_map]
      have : (("" : String) : Str).length = 0 := rfl
      rw [this]; omega)]
    simp only [liftO_some, R.bind_ok, joinOnes]
theorem run_word_top (hG : HasFeed G) {d n : Nat} {h : Hm} {ρ : En} {i j : Nat} (f : isFeed h n) (hi : ρ[i]? = some (some (.r n))) (hij : i ≠ j) :
    ∃ (w : Str) (h' : Hm), wrd topZ w = true ∧ sOk w = true ∧ Adv n h h' ∧ evE G (callF G (d + 2)) ρ h (.join (.str "") (.comp [j] (.name j) (.rng1 (.bin .add (.int 1) (.call 108 [(.var i), (.int 8)]))) [] (.call 102 [(.var i), (.str "ABCDEFGHIJKLMNOPQRSTUVWXYZ")]))) = .ok (.t (.str w)) h' :=
  run_word_drawn hG top_ones f hi hij fun _ _ => B.str
/-! ### terms -/
def sb : Nat → Nat
  | 0 => 2 | 1 => 8 | 2 => 18 | _ => 38
structure LtOk (ls : List T) : Prop where
  ne : ls ≠ []
  len : ls.length ≤ 100
  all : ∀ x ∈ ls, ∃ y, x = .str y ∧ sOk y = true ∧ wrd topZ y = true
theorem LtOk.gd {ls : List T} (l : LtOk ls) : gds ls = true := gds_all.mpr fun x m => by obtain ⟨y, rfl, e, _⟩ := l.all x m; simpa [My.gd] using e
theorem LtOk.shp {ls : List T} (l : LtOk ls) : (T.lst ls).shp = true := gd_shp (by simpa [My.gd] using l.gd) (by simp only [dpt]; exact Nat.succ_le_succ (dpts_le.mpr fun x m => by obtain ⟨y, rfl, _⟩ := l.all x m; simp [dpt]))
theorem pairs_shp {sg : Sg} (ok : SgOk sg) : (T.lst (sgT sg)).shp = true := by
  have key : ∀ l : Sg, (∀ p ∈ l, sOk p.1 = true) → datas (sgT l) = true ∧ PyData.canLayAll0 (pys (sgT l)) = true ∧ PyData.depthAll (pys (sgT l)) ≤ 2 := fun l => by
    induction l with
    | nil => intro _; exact ⟨rfl, rfl, by simp [sgT, pys, PyData.depthAll]⟩
    | cons p xs ih =>
      intro hp
      obtain ⟨h1, h2, h3⟩ := ih fun y m => hp y (List.mem_cons_of_mem _ m)
      have o := hp p List.mem_cons_self
      simp only [sOk, Bool.and_eq_true] at o
      simp only [sgT, List.map_cons] at h1 h2 h3 ⊢
      refine ⟨by simp [datas, pT, T.data, h1], by simp [pys, pT, T.py, PyData.canLayAll0, PyData.canLay0, h2, o.1], ?_⟩
      simp only [pys, pT, T.py, PyData.depthAll, PyData.depth]
      omega
  obtain ⟨k1, k2, k3⟩ := key sg fun p m => (ok.all p m).2.1
  unfold T.shp PySem.SeqAt.shaped
  simp [T.data, T.py, PyData.canLay0, PyData.depth, k1, k2]
  omega
theorem pt1 (p : Str × Int) : sem2 .idx (pT p) (.int 1) = some (.int p.2) := by simp [pT, sem2, L2.atI, L2.ixN]
theorem run_term (hG : HasTermD G) {n : Nat} {sg : Sg} {ls : List T} (l : LtOk ls) (g : SgOk sg) : ∀ (k d : Nat) (h : Hm), k ≤ 3 → k + 3 ≤ d → isFeed h n →
    ∃ (t : T) (h' : Hm), isTm sg t = true ∧ Gd (k + 1) (sb k) t ∧ Adv n h h' ∧ callF G d 127 [.r n, .t (.lst (sgT sg)), .t (.int k), .t (.lst ls)] h = .ok (.t t) h' := by
  intro k
  induction k using Nat.strongRecOn with
  | _ k ih =>
  intro d h hk hd f
  obtain ⟨d, rfl⟩ : ∃ d', d = d' + 1 := ⟨d - 1, by omega⟩
  have hsb : 1 ≤ sb k := by unfold sb; split <;> omega
  let ρ0 : En := [some (.r n), some (.t (.lst (sgT sg))), some (.t (.int k)), some (.t (.lst ls)), none, none, none, none, none, none]
  have test : ∃ (b : Bool) (h1 : Hm), evE G (callF G d) ρ0 h (.and (.bin .ne (.var 3) (.lst [])) (.or (.bin .eq (.var 2) (.int 0)) (.bin .eq (.call 108 [(.var 0), (.int 3)]) (.int 0)))) = .ok (.t (.bl b)) h1 ∧ Adv n h h1 ∧ (b = false → k ≠ 0) := by
    have e1 : evE G (callF G d) ρ0 h (.bin .ne (.var 3) (.lst [])) = .ok (.t (.bl true)) h := B.bin (B.var (i := 3) rfl) (B.lst B.tnil) rfl rfl (by rw [ne_nil l.shp]; cases ls with | nil => exact absurd rfl l.ne | cons _ _ => rfl)
    by_cases k0 : k = 0
    · subst k0
      exact ⟨true, h, B.and1 e1 (B.or1 (B.bin (B.var (i := 2) rfl) B.int rfl rfl (eq_int _ _))), Adv.refl f, fun e => by cases e⟩
    · obtain ⟨r, h1, _, _, adv, e2⟩ := run_take hG.toHasFeed (d := d - 1) (m := 3) f (by omega) (by omega)
      rw [show d - 1 + 1 = d by omega] at e2
      refine ⟨r == 0, h1, B.and1 e1 (B.or0 (B.bin (B.var (i := 2) rfl) B.int rfl rfl ?_) (B.bin (B.call (B.cons (B.var (i := 0) rfl) (B.cons B.int B.nil)) e2) B.int rfl rfl (eq_int _ _))), adv, fun _ => k0⟩
      rw [eq_int]
      simp [k0]
  obtain ⟨b, h1, et, a1, hb⟩ := test
  have f1 := a1.feed
  cases b with
  | true =>
    obtain ⟨x, h2, mx, a2, e2⟩ := run_pick hG.toHasFeed (d := d - 2) f1 (offF.t (n := n) (xs := ls)) l.ne (by have := l.len; omega)
    rw [show d - 2 + 2 = d by omega] at e2
    obtain ⟨y, rfl, oy, wy⟩ := l.all x mx
    refine ⟨.str y, h2, by simpa [isTm] using wy, ⟨by simpa [gd] using oy, by simp [dpt], by simpa [szt] using hsb⟩, a1.trans a2, ?_⟩
    have z := B.dret (G := G) (f := 127) (d := d) (fd := m__law_term) (h := h) (ss := [.r n, .t (.lst (sgT sg)), .t (.int k), .t (.lst ls)]) hG.term rfl (B.sr (B.if1 et (B.sr (B.ret (B.call (B.cons (B.var (i := 0) rfl) (B.cons (B.var (i := 3) rfl) B.nil)) e2)))))
    rw [z, List.take_of_length_le (by rw [a2.len, a1.len]; exact Nat.le_refl _)]
  | false =>
    have k0 : k ≠ 0 := hb rfl
    have hsh := pairs_shp g
    have gts : sem2 .gt (.int k) (.int 0) = some (.bl true) := by simp [sem2, arith, cmpI]; omega
    have comp := comp_filter (G := G) (C := callF G d) (ρ := ρ0) (h := h1) (own := [8]) (tg := .name 8) (cs := [(.or (.bin .eq (.bin .idx (.var 8) (.int 1)) (.int 0)) (.bin .gt (.var 2) (.int 0)))]) (e := .var 8) (c := fun _ => true) (p := (sgT sg, none))
      (B.itOf (B.var (i := 1) rfl) rfl) rfl fun x hx => by
        obtain ⟨p, _, rfl⟩ := List.mem_map.mp hx
        refine ⟨_, rfl, cs1 ?_, B.var (i := 8) rfl⟩
        have q := B.or (G := G) (C := callF G d) (ρ := (wipeE ρ0 [8]).set 8 (some (.t (pT p)))) (h := h1) (h1 := h1) (B.bin (B.bin (z := .int p.2) (B.var (i := 8) rfl) B.int rfl rfl (pt1 p)) B.int rfl rfl (eq_int p.2 0)) (B.bin (o := .gt) (B.var (i := 2) rfl) B.int rfl rfl gts)
        rw [Bool.or_true] at q
        exact q
    rw [List.filter_eq_self.mpr fun _ _ => rfl] at comp
    have pe : sgT sg ≠ [] := fun e => g.ne (List.map_eq_nil_iff.mp e)
    have slen : (sgT sg).length = sg.length := by simp [sgT]
    obtain ⟨x, h2, mx, a2, e2⟩ := run_pick hG.toHasFeed (d := d - 2) f1 (offF.t (n := n) (xs := sgT sg)) pe (by have := g.len; omega)
    rw [show d - 2 + 2 = d by omega] at e2
    obtain ⟨⟨m, a⟩, mp, rfl⟩ := List.mem_map.mp mx
    obtain ⟨_, om, a0, a3⟩ := g.all _ mp
    have lk := look_of g.nd mp
    simp only at om a0 a3
    obtain ⟨u, hu⟩ : ∃ u : Nat, u = if a = 3 then k - 2 else k - 1 := ⟨_, rfl⟩
    have huk : u + 1 ≤ k := by rw [hu]; split <;> omega
    let ρ2 : En := [some (.r n), some (.t (.lst (sgT sg))), some (.t (.int k)), some (.t (.lst ls)), some (.t (.lst (sgT sg))), some (.t (.str m)), some (.t (.int a)), none, none, none]
    have eu : evE G (callF G d) ρ2 h2 (.ite (.bin .eq (.var 6) (.int 3)) (.bin .max (.int 0) (.bin .sub (.var 2) (.int 2))) (.bin .sub (.var 2) (.int 1))) = .ok (.t (.int u)) h2 := by
      by_cases ha : a = 3
      · refine B.ite1 (B.bin (z := .bl true) (B.var (i := 6) rfl) B.int rfl rfl (by rw [eq_int, ha]; rfl)) (B.bin (v := .int 0) (v2 := .int (k - 2)) B.int (B.bin (z := .int (k - 2)) (B.var (i := 2) rfl) B.int rfl rfl rfl) rfl rfl ?_)
        simp only [sem2, arith]
        rw [hu, if_pos ha]
        congr 2
        split <;> omega
      · refine B.ite0 (B.bin (z := .bl false) (B.var (i := 6) rfl) B.int rfl rfl (by rw [eq_int]; simp [ha])) (B.bin (B.var (i := 2) rfl) B.int rfl rfl ?_)
        simp only [sem2, arith]
        rw [hu, if_neg ha]
        congr 2
        omega
    let ρ3 : En := [some (.r n), some (.t (.lst (sgT sg))), some (.t (.int k)), some (.t (.lst ls)), some (.t (.lst (sgT sg))), some (.t (.str m)), some (.t (.int a)), some (.t (.int u)), none, none]
    obtain ⟨ys, h3, ec, ⟨a4, _⟩, pys, nys⟩ := comp_inv (G := G) (C := callF G d) (ρ := ρ3) (h := h2) (h1 := h2) (own := [9]) (tg := .name 9) (it := .rng1 (.var 6)) (e := .call 127 [(.var 0), (.var 1), (.var 7), (.var 3)]) (p := (rngT 0 a.toNat, none)) (I := fun h => Adv n h2 h ∧ True) (P := fun y => isTm sg y = true ∧ Gd (u + 1) (sb u) y)
      (B.itRng (B.var (i := 6) rfl) (rng_small a0 (by omega))) (fun _ _ => rfl) (fun x hx h4 ⟨a4, _⟩ => by
        obtain ⟨y, h5, ty, py, a5, e5⟩ := ih u (by omega) d h4 (by omega) (by omega) a4.feed
        exact ⟨_, y, h5, rfl, B.call (B.cons (B.var (i := 0) rfl) (B.cons (B.var (i := 1) rfl) (B.cons (B.var (i := 7) rfl) (B.cons (B.var (i := 3) rfl) B.nil)))) e5, ⟨a4.trans a5, trivial⟩, ty, py⟩) ⟨Adv.refl a2.feed, trivial⟩
    have nys' : ys.length = a.toNat := nys.trans (rngB_len _)
    have szy := szts_le fun y my => (pys y my).2.sz
    refine ⟨.tup (.str m :: ys), h3, ?_, ⟨?_, ?_, ?_⟩, (a1.trans a2).trans a4, ?_⟩
    · simp only [isTm, lk, isTms_all, Bool.and_eq_true, decide_eq_true_eq, List.all_eq_true]
      exact ⟨by rw [nys']; congr 1; omega, fun y my => (pys y my).1⟩
    · simp only [gd, gds, om, Bool.true_and]
      exact gds_all.mpr fun y my => (pys y my).2.gd
    · have := dpts_le.mpr fun y my => (pys y my).2.dp
      simp only [dpt, dpts]; omega
    · rw [nys'] at szy
      simp only [szt, szts]
      have hk3 : k = 1 ∨ k = 2 ∨ k = 3 := by omega
      have ha3 : a = 0 ∨ a = 1 ∨ a = 2 ∨ a = 3 := by omega
      rcases hk3 with rfl | rfl | rfl <;> rcases ha3 with rfl | rfl | rfl | rfl <;> simp at hu <;> subst hu <;> simp [sb] at szy ⊢ <;> omega
    · have z := B.dret (G := G) (f := 127) (d := d) (fd := m__law_term) (h := h) (ss := [.r n, .t (.lst (sgT sg)), .t (.int k), .t (.lst ls)]) hG.term rfl (B.sc (B.if0 et B.sn) (B.sc (B.asg (i := 4) comp) (B.sc (B.if0 (B.bin (z := .bl false) (B.var (i := 4) rfl) (B.lst B.tnil) rfl rfl (by rw [eq_nil hsh]; cases hh : sgT sg with | nil => exact absurd hh pe | cons _ _ => rfl)) B.sn)
        (B.sc (B.asgT (ρ1 := ρ2) (B.call (B.cons (B.var (i := 0) rfl) (B.cons (B.var (i := 4) rfl) B.nil)) e2) rfl) (B.sc (B.asg (i := 7) eu) (B.sr (B.ret (B.bin (v := .tup [.str m]) (v2 := .tup ys) (z := .tup (.str m :: ys)) (B.tup (B.tcons (B.var (i := 5) rfl) B.tnil)) (B.un (o := .tuple) ec rfl rfl) rfl rfl
          (by simp only [sem2]; rw [if_pos (lim_small (by rw [nys']; simp; omega))]; rfl)))))))))
      rw [z, List.take_of_length_le (by rw [a4.len, a2.len, a1.len]; exact Nat.le_refl _)]
end My

/-! Signs(xs), whatever xs is. -/
namespace My
open PySem (Str PyData)
open My.M
namespace B
section
variable {G : Ctx} {C : Orc} {ρ ρ1 : En} {h h1 : Hm} {st : St} {sts : List St} {es : List E} {vs fs : List T} {c : Nat}
theorem sx (e : exS G C ρ h st = .ex c fs ρ1 h1) : exSs G C ρ h (st :: sts) = .ex c fs ρ1 h1 := by simp [exSs, e]
theorem rais (e : evTs G C ρ h es = .ok vs h1) : exS G C ρ h (.rais c es) = .ex c vs ρ h1 := by simp [exS, e]
theorem dex {d f : Nat} {fd : Fd} {ss : List S} (e : G.fs f = some fd) (hl : ss.length = fd.np) (b : exSs G (callF G d) (startE fd.ns ss) h fd.body = .ex c fs ρ1 h1) : callF G (d + 1) f ss h = .ex c fs (h1.take h.length) := by
  rw [def_ e hl b]; rfl
end
end B
variable {G : Ctx}
/-- an argument that stands -/
structure Arg (h : Hm) (s : S) (v : T) : Prop where
  at_ : dref h s = some v
  lt : ∀ m, s = .r m → m < h.length
theorem Arg.t {h : Hm} {v : T} : Arg h (.t v) v := ⟨rfl, fun _ e => by cases e⟩
theorem Arg.ext {h : Hm} {s : S} {v : T} (a : Arg h s v) (k : Hm) : dref (h ++ k) s = some v := by
  cases s with
  | t u => exact a.at_
  | r m =>
    have h1 := a.at_
    have h2 := a.lt m rfl
    simp only [dref] at h1 ⊢
    rw [List.getElem?_append_left h2]; exact h1
theorem Arg.enum {h k : Hm} {s : S} {xs : List T} (a : Arg h s (.lst xs)) (l : lim xs.length = true) : ∃ g, enumOf s (h ++ k) = some (enumT xs, g) ∧ ∀ k', gOk g (h ++ k') = true := by
  cases s with
  | t u =>
    have h1 := a.at_
    cases h1
    exact ⟨none, by simp [enumOf, l], fun _ => rfl⟩
  | r m =>
    have h1 := a.at_
    have h2 := a.lt m rfl
    simp only [dref] at h1
    cases em : h[m]? with
    | none => rw [em] at h1; cases h1
    | some ob =>
      rw [em] at h1
      cases ob <;> first
        | (cases h1; done)
        | skip
      cases h1
      exact ⟨some (m, .lst xs), by simp [enumOf, List.getElem?_append_left h2, em, l], fun k' => by simp [gOk, List.getElem?_append_left h2, em]⟩
theorem init_nolist (hG : HasSigns G) {d : Nat} {h : Hm} {s : S} {v : T} (a : Arg h s v) (hv : isTy G.sub v .tlist = false) : callF G (d + 1) 104 [.r h.length, s] (h ++ [.obj 0 [] []]) = .ex 101 [] (h ++ [.obj 0 [] []]) := by
  have e := B.dex (G := G) (f := 104) (d := d) (fd := m_Signs___init__) (h := h ++ [MO.obj 0 [] []]) (ss := [.r h.length, s]) (c := 101) (fs := []) hG.init rfl (B.sx (B.if1 (B.not (k := false) (B.un (o := .isi [.tlist]) (v := v) (B.var (i := 1) rfl) (a.ext _) (by simp [sem1, hv]))) (B.sx (B.rais B.tnil))))
  rw [e, List.take_of_length_le (Nat.le_refl _)]
theorem init_count (hG : HasSigns G) {d : Nat} {h : Hm} {s : S} {xs : List T} (a : Arg h s (.lst xs)) (hl : xs.length = 0 ∨ 5 < xs.length) : callF G (d + 1) 104 [.r h.length, s] (h ++ [.obj 0 [] []]) = .ex 103 [] (h ++ [.obj 0 [] []]) := by
  have chE := B.not (B.ch (G := G) (C := callF G d) (ρ := [some (.r h.length), some s, none, none, none]) (h := h ++ [MO.obj 0 [] []]) (o := .le) (p := .le) (k := decide ((1 : Int) ≤ xs.length)) (l := decide ((xs.length : Int) ≤ 5)) (a := .int 1) (b := .un .len (.var 1)) (c := .con 0) B.int (B.un (o := .len) (v := .lst xs) (z := .int xs.length) (B.var (i := 1) rfl) (a.ext _) rfl) (B.con hG.c0) rfl rfl rfl (by simp [sem2, arith, cmpI]) (by simp [sem2, arith, cmpI]))
  have eb : (!(decide ((1 : Int) ≤ xs.length) && decide ((xs.length : Int) ≤ 5))) = true := by
    simp only [Bool.not_eq_true', Bool.and_eq_false_iff, decide_eq_false_iff_not]
    rcases hl with h | h
    · exact .inl (by omega)
    · exact .inr (by omega)
  rw [eb] at chE
  have e := B.dex (G := G) (f := 104) (d := d) (fd := m_Signs___init__) (h := h ++ [MO.obj 0 [] []]) (ss := [.r h.length, s]) (c := 103) (fs := []) hG.init rfl (B.sc (B.if0 (B.not (k := true) (B.un (o := .isi [.tlist]) (v := .lst xs) (B.var (i := 1) rfl) (a.ext _) rfl)) B.sn) (B.sx (B.if1 chE (B.sx (B.rais B.tnil)))))
  rw [e, List.take_of_length_le (Nat.le_refl _)]
/-- one turn -/
theorem sg_step (hG : HasSigns G) {d : Nat} {h0 : Hm} {s0 s1 x3 x4 : Option S} {dn : Sg} {k : Nat} {m : Str} {a : Int} (w1 : wrd lowZ m = true) (w2 : sOk m = true) (w3 : 0 ≤ a) (w4 : a ≤ 3) (fresh : look dn m = none) (ln5 : dn.length + 1 ≤ 100) :
    exSs G (callF G (d + 1)) [s0, s1, some (.r h0.length), some (.t (.int (k : Nat))), some (.t (pT (m, a)))] (h0 ++ [.dct (nmT dn) (arT dn)]) sgBody = .nx [s0, s1, some (.r h0.length), some (.t (.int (k : Nat))), some (.t (pT (m, a)))] (h0 ++ [.dct (nmT (dn ++ [(m, a)])) (arT (dn ++ [(m, a)]))]) := by
  have at1 : (h0 ++ [MO.dct (nmT dn) (arT dn)])[h0.length]? = some (.dct (nmT dn) (arT dn)) := by simp
  have dr : dref (h0 ++ [MO.dct (nmT dn) (arT dn)]) (.r h0.length) = some (.dct (nmT dn) (arT dn)) := by simp only [dref, at1]
  have i0 : sem2 .idx (pT (m, a)) (.int 0) = some (.str m) := by simp [pT, sem2, L2.atI, L2.ixN]
  have i1 : sem2 .idx (pT (m, a)) (.int 1) = some (.int a) := by simp [pT, sem2, L2.atI, L2.ixN]
  have kg : (getD (.inr m) (nmT dn) (arT dn)).isSome = false := by rw [getD_sg, fresh]; rfl
  refine B.sc (B.if0 (B.or0 (B.not (k := true) (B.un (o := .isi [.ttuple]) (B.var (i := 4) rfl) rfl rfl)) (B.or0 (B.bin (o := .ne) (z := .bl false) (B.un (o := .len) (z := .int 2) (B.var (i := 4) rfl) rfl rfl) B.int rfl rfl rfl) (B.not (k := true) (B.call (B.cons (B.bin (z := .str m) (B.var (i := 4) rfl) B.int rfl rfl i0) (B.cons (B.con hG.c3) B.nil)) (by rw [run_word hG (sOk_lim w2), w1]))))) B.sn) ?_
  refine B.sc (B.if0 (B.or0 (B.not (k := true) (B.call (B.cons (B.bin (z := .int a) (B.var (i := 4) rfl) B.int rfl rfl i1) (B.cons B.int (B.cons (B.con hG.c1) B.nil))) (run_within hG w3 w4))) (B.bin (o := .inn) (z := .bl false) (B.bin (z := .str m) (B.var (i := 4) rfl) B.int rfl rfl i0) (B.var (i := 2) rfl) rfl dr (by simp [sem2, membT, keyOf, kg]))) B.sn) ?_
  refine B.sc (h1 := h0 ++ [.dct (nmT (dn ++ [(m, a)])) (arT (dn ++ [(m, a)]))]) ?_ B.sn
  rw [B.setD (k := .inr m) (B.bin (z := .int a) (B.var (i := 4) rfl) B.int rfl rfl i1) (B.var (i := 2) rfl) (B.bin (z := .str m) (B.var (i := 4) rfl) B.int rfl rfl i0) at1 rfl (lim_small (by simp [nmT]; omega))]
  congr 1
  rw [List.set_append_right _ _ (Nat.le_refl _), Nat.sub_self]
  have e : putD (.inr m) (.int a) (nmT dn) (arT dn) = (nmT dn ++ [.str m], arT dn ++ [.int a]) := by unfold putD; rw [kg]; rfl
  rw [e]; simp [nmT, arT]
/-- a name that is there already -/
theorem sg_twice (hG : HasSigns G) {d : Nat} {h0 : Hm} {s0 s1 : Option S} {dn : Sg} {k : Nat} {m : Str} {a b : Int} (w1 : wrd lowZ m = true) (w2 : sOk m = true) (w3 : 0 ≤ a) (w4 : a ≤ 3) (old : look dn m = some b) :
    exSs G (callF G (d + 1)) [s0, s1, some (.r h0.length), some (.t (.int (k : Nat))), some (.t (pT (m, a)))] (h0 ++ [.dct (nmT dn) (arT dn)]) sgBody = .ex 104 [.int (k : Nat)] [s0, s1, some (.r h0.length), some (.t (.int (k : Nat))), some (.t (pT (m, a)))] (h0 ++ [.dct (nmT dn) (arT dn)]) := by
  have at1 : (h0 ++ [MO.dct (nmT dn) (arT dn)])[h0.length]? = some (.dct (nmT dn) (arT dn)) := by simp
  have dr : dref (h0 ++ [MO.dct (nmT dn) (arT dn)]) (.r h0.length) = some (.dct (nmT dn) (arT dn)) := by simp only [dref, at1]
  have i0 : sem2 .idx (pT (m, a)) (.int 0) = some (.str m) := by simp [pT, sem2, L2.atI, L2.ixN]
  have i1 : sem2 .idx (pT (m, a)) (.int 1) = some (.int a) := by simp [pT, sem2, L2.atI, L2.ixN]
  have kg : (getD (.inr m) (nmT dn) (arT dn)).isSome = true := by rw [getD_sg, old]; rfl
  refine B.sc (B.if0 (B.or0 (B.not (k := true) (B.un (o := .isi [.ttuple]) (B.var (i := 4) rfl) rfl rfl)) (B.or0 (B.bin (o := .ne) (z := .bl false) (B.un (o := .len) (z := .int 2) (B.var (i := 4) rfl) rfl rfl) B.int rfl rfl rfl) (B.not (k := true) (B.call (B.cons (B.bin (z := .str m) (B.var (i := 4) rfl) B.int rfl rfl i0) (B.cons (B.con hG.c3) B.nil)) (by rw [run_word hG (sOk_lim w2), w1]))))) B.sn) ?_
  exact B.sx (B.if1 (B.or0 (B.not (k := true) (B.call (B.cons (B.bin (z := .int a) (B.var (i := 4) rfl) B.int rfl rfl i1) (B.cons B.int (B.cons (B.con hG.c1) B.nil))) (run_within hG w3 w4))) (B.bin (o := .inn) (z := .bl true) (B.bin (z := .str m) (B.var (i := 4) rfl) B.int rfl rfl i0) (B.var (i := 2) rfl) rfl dr (by simp [sem2, membT, keyOf, kg]))) (B.sx (B.rais (B.tcons (B.var (i := 3) rfl) B.tnil))))
def numd (k : Nat) (xs : List T) : List T := (xs.zipIdx k).map fun p => T.tup [.int (p.2 : Nat), p.1]
theorem numd_cons (k : Nat) (x : T) (xs : List T) : numd k (x :: xs) = .tup [.int (k : Nat), x] :: numd (k + 1) xs := by simp [numd, List.zipIdx_cons]
theorem numd_app (k : Nat) (xs ys : List T) : numd k (xs ++ ys) = numd k xs ++ numd (k + xs.length) ys := by simp [numd, List.zipIdx_append]
abbrev sgF (G : Ctx) (d : Nat) : T → En → Hm → Out := fun y ρ hh => match setTg (.tup [3, 4]) (.t y) ρ with | some ρ1 => exSs G (callF G (d + 1)) ρ1 hh sgBody | none => .bad
theorem sg_walk (hG : HasSigns G) {d : Nat} {h0 : Hm} {s0 s1 : Option S} {g : Option (Nat × MO)} (gk : ∀ k, gOk g (h0 ++ k) = true) : ∀ (rest dn : Sg) (x3 x4 : Option S) (post : List T), (∀ p ∈ rest, wrd lowZ p.1 = true ∧ sOk p.1 = true ∧ 0 ≤ p.2 ∧ p.2 ≤ 3) → ((dn ++ rest).map (·.1)).Nodup → dn.length + rest.length ≤ 50 →
    ∃ y3 y4, forL g (sgF G d) (numd dn.length (sgT rest) ++ post) [s0, s1, some (.r h0.length), x3, x4] (h0 ++ [.dct (nmT dn) (arT dn)]) = forL g (sgF G d) post [s0, s1, some (.r h0.length), y3, y4] (h0 ++ [.dct (nmT (dn ++ rest)) (arT (dn ++ rest))])
  | [], dn, x3, x4, post, _, _, _ => ⟨x3, x4, by simp [numd, sgT]⟩
  | (m, a) :: rest, dn, x3, x4, post, ok, nd, l => by
    obtain ⟨w1, w2, w3, w4⟩ := ok (m, a) List.mem_cons_self
    have nd0 := nd
    rw [List.map_append, List.nodup_append] at nd
    have fresh : look dn m = none := look_none fun mm => nd.2.2 m mm m (by simp) rfl
    simp only [List.length_cons] at l
    obtain ⟨y3, y4, e⟩ := sg_walk hG (d := d) gk rest (dn ++ [(m, a)]) (some (.t (.int (dn.length : Nat)))) (some (.t (pT (m, a)))) post (fun p mp => ok p (List.mem_cons_of_mem _ mp)) (by simpa using nd0) (by simp; omega)
    refine ⟨y3, y4, ?_⟩
    have st := sg_step hG (d := d) (h0 := h0) (s0 := s0) (s1 := s1) (x3 := x3) (x4 := x4) (dn := dn) (k := dn.length) w1 w2 w3 w4 fresh (by omega)
    rw [List.append_assoc, List.cons_append, List.nil_append, List.length_append, List.length_singleton] at e
    simp only [sgT, List.map_cons]
    rw [numd_cons, List.cons_append, forL, if_pos (gk _)]
    show (match exSs G (callF G (d + 1)) [s0, s1, some (.r h0.length), some (.t (.int (dn.length : Nat))), some (.t (pT (m, a)))] (h0 ++ [.dct (nmT dn) (arT dn)]) sgBody with | .nx ρ1 h1 => forL g (sgF G d) (numd (dn.length + 1) (List.map pT rest) ++ post) ρ1 h1 | .ct ρ1 h1 => _ | .bk ρ1 h1 => _ | o => o) = _
    rw [st]
    exact e
/-- the first part of __init__ -/
theorem init_head (hG : HasSigns G) {d : Nat} {h : Hm} {s : S} {xs : List T} {o : Out} {g : Option (Nat × MO)} (a : Arg h s (.lst xs)) (h1 : 1 ≤ xs.length) (h5 : xs.length ≤ 5) (eg : enumOf s (h ++ [MO.obj 0 [] []] ++ [.dct [] []]) = some (enumT xs, g))
    (e : (match forL g (sgF G d) (enumT xs) [some (.r h.length), some s, some (.r (h ++ [MO.obj 0 [] []]).length), none, none] (h ++ [MO.obj 0 [] []] ++ [.dct [] []]) with | .nx ρ1 h1 => exSs G (callF G (d + 1)) ρ1 h1 [.setf 0 (.var 0) "held" (.fz (.var 2))] | o => o) = o) :
    callF G (d + 2) 104 [.r h.length, s] (h ++ [.obj 0 [] []]) = runF (h ++ [MO.obj 0 [] []]).length o := by
  have chE := B.not (k := true) (B.ch (G := G) (C := callF G (d + 1)) (ρ := [some (.r h.length), some s, none, none, none]) (h := h ++ [MO.obj 0 [] []]) (o := .le) (p := .le) (k := true) (l := true) (a := .int 1) (b := .un .len (.var 1)) (c := .con 0) B.int (B.un (o := .len) (v := .lst xs) (z := .int xs.length) (B.var (i := 1) rfl) (a.ext _) rfl) (B.con hG.c0) rfl rfl rfl (by simp [sem2, arith, cmpI]; omega) (by simp [sem2, arith, cmpI]; omega))
  have v1 : evE G (callF G (d + 1)) [some (.r h.length), some s, some (.r (h ++ [MO.obj 0 [] []]).length), none, none] (h ++ [MO.obj 0 [] []] ++ [.dct [] []]) (.var 1) = .ok s (h ++ [MO.obj 0 [] []] ++ [.dct [] []]) := B.var rfl
  refine B.def_ (G := G) (f := 104) (d := d + 1) (fd := m_Signs___init__) (h := h ++ [MO.obj 0 [] []]) (ss := [.r h.length, s]) hG.init rfl (B.sc (B.if0 (B.not (k := true) (B.un (o := .isi [.tlist]) (v := .lst xs) (B.var (i := 1) rfl) (a.ext _) rfl)) B.sn) (B.sc (B.if0 chE B.sn) (B.sc (B.asg (i := 2) B.newd) ?_)))
  show exSs G (callF G (d + 1)) [some (.r h.length), some s, some (.r (h ++ [MO.obj 0 [] []]).length), none, none] (h ++ [MO.obj 0 [] []] ++ [.dct [] []]) (.for (.tup [3, 4]) (.enum (.var 1)) sgBody :: [.setf 0 (.var 0) "held" (.fz (.var 2))]) = o
  rw [exSs, exS, evIt, v1]
  simp only [R.bind_ok, eg, liftO_some, R.out_ok]
  exact e
theorem init_bad (hG : HasSigns G) {d : Nat} {h : Hm} {s : S} {dn : Sg} {one : T} {rest : List T} (a : Arg h s (.lst (sgT dn ++ one :: rest))) (ok : ∀ p ∈ dn, wrd lowZ p.1 = true ∧ sOk p.1 = true ∧ 0 ≤ p.2 ∧ p.2 ≤ 3) (nd : (dn.map (·.1)).Nodup) (h5 : dn.length + 1 + rest.length ≤ 5)
    (hb : ∀ (s0 s1 : Option S) (h0 : Hm), exSs G (callF G (d + 1)) [s0, s1, some (.r h0.length), some (.t (.int (dn.length : Nat))), some (.t one)] (h0 ++ [.dct (nmT dn) (arT dn)]) sgBody = .ex 104 [.int (dn.length : Nat)] [s0, s1, some (.r h0.length), some (.t (.int (dn.length : Nat))), some (.t one)] (h0 ++ [.dct (nmT dn) (arT dn)])) :
    callF G (d + 2) 104 [.r h.length, s] (h ++ [.obj 0 [] []]) = .ex 104 [.int (dn.length : Nat)] (h ++ [.obj 0 [] []]) := by
  have len : (sgT dn ++ one :: rest).length = dn.length + 1 + rest.length := by simp [sgT]; omega
  obtain ⟨g, eg, gk⟩ := a.enum (k := [.obj 0 [] []] ++ [.dct [] []]) (lim_small (by rw [len]; omega))
  rw [← List.append_assoc] at eg
  obtain ⟨y3, y4, w⟩ := sg_walk hG (d := d) (h0 := h ++ [.obj 0 [] []]) (s0 := some (.r h.length)) (s1 := some s) (g := g) (fun k => by rw [List.append_assoc]; exact gk _) dn [] none none (numd dn.length (one :: rest)) ok (by simpa using nd) (by simp; omega)
  have en : enumT (sgT dn ++ one :: rest) = numd 0 (sgT dn) ++ numd dn.length (one :: rest) := by
    show numd 0 _ = _
    rw [numd_app]; simp [sgT]
  rw [init_head hG (o := .ex 104 [.int (dn.length : Nat)] [some (.r h.length), some s, some (.r (h ++ [MO.obj 0 [] []]).length), some (.t (.int (dn.length : Nat))), some (.t one)] (h ++ [.obj 0 [] []] ++ [.dct (nmT dn) (arT dn)])) a (by rw [len]; omega) (by rw [len]; omega) eg ?_]
  · simp only [runF]
    congr 1
    rw [List.take_append_of_le_length (by simp), List.take_of_length_le (by simp)]
  · rw [en]
    have w' := w
    simp only [List.length_nil, List.nil_append] at w'
    have nil1 : nmT [] = [] := rfl
    have nil2 : arT [] = [] := rfl
    rw [nil1, nil2] at w'
    rw [w', numd_cons, forL, if_pos (by rw [List.append_assoc]; exact gk _)]
    show (match (match exSs G (callF G (d + 1)) [some (.r h.length), some s, some (.r (h ++ [MO.obj 0 [] []]).length), some (.t (.int (dn.length : Nat))), some (.t one)] (h ++ [.obj 0 [] []] ++ [.dct (nmT dn) (arT dn)]) sgBody with | .nx ρ1 h1 => forL g (sgF G d) (numd (dn.length + 1) rest) ρ1 h1 | .ct ρ1 h1 => _ | .bk ρ1 h1 => _ | o => o) with | .nx ρ1 h1 => _ | o => o) = _
    rw [hb]
end My

namespace My.M
open PySem L2 PyProof.Rows
def m_law01 : Fd := ⟨1, 16, [(.for (.name 1) (.rng1 (.bin .max (.int 1) (.bin .min (.int 3) (.un .len (.var 0))))) [(.asg (.name 2) (.call 100 [(.var 0), (.var 1)])),
      (.asg (.name 3) (.un .list (.call 126 [(.var 2)]))),
      (.asg (.name 4) (.nw .list (.var 3))),
      (.asg (.name 5) (.call 132 [(.var 4)])),
      (.ife (.bin .ne (.var 4) (.var 3)) [(.ret (.bl false))] []),
      (.ex (.clr (.var 4))),
      (.ife (.not (.call 133 [(.var 5), (.var 3)])) [(.ret (.bl false))] []),
      (.asg (.name 6) (.call 108 [(.var 2), (.bin .add (.un .len (.var 3)) (.int 1))])),
      (.asg (.name 7) (.comp [13, 14] (.tup [13, 14]) (.of (.slt (.var 3) (.var 6))) [] (.tup [(.var 13), (.un .int (.bin .eq (.var 14) (.int 0)))]))),
      (.for (.name 8) (.of (.bin .add (.bin .add (.bin .add (.call 134 [(.str "q")]) (.slt (.slt (.var 3) (.var 6)) (.int 1))) (.slt (.var 7) (.int 1))) (.slf (.var 7) (.un .neg (.int 1))))) [(.asg (.name 9) (.bin .add (.bin .add (.slt (.var 3) (.var 6)) (.lst [(.var 8)])) (.slf (.var 3) (.var 6)))),
      (.ife (.bin .le (.un .len (.var 9)) (.int 4)) [(.asg (.name 9) (.bin .add (.var 9) (.lst [.non])))] []),
      (.asg (.name 10) (.un .repr (.var 9))),
      (.ife (.or (.bin .ne (.call 132 [(.var 9)]) (.tup [(.str "sign"), (.var 6)])) (.bin .ne (.un .repr (.var 9)) (.var 10))) [(.ret (.bl false))] [])]),
      (.ife (.bin .ne (.comp [15] (.name 15) (.of (.tup [(.lst []), (.bin .mul (.lst [(.tup [(.str "q"), (.int 0)])]) (.int 6)), (.bin .mul (.lst [.non]) (.int 6))])) [] (.call 132 [(.var 15)])) (.bin .mul (.lst [(.tup [(.str "count"), (.int 0)])]) (.int 3))) [(.ret (.bl false))] []),
      (.for (.name 11) (.of (.lst [.non, (.un .tuple (.var 3)), (.str "signs"), (.int 0), (.tup [])])) [(.ife (.bin .ne (.call 132 [(.var 11)]) (.tup [(.str "list"), (.int 0)])) [(.ret (.bl false))] [])]),
      (.for (.name 11) (.of (.lst [(.str "q"), (.str ""), (.str "F"), .non, (.int 0), (.tup [(.str "f")]), (.lst [(.str "f")]), (.bl true)])) [(.ife (.or (.bin .ne (.call 135 [(.var 5), (.var 11)]) (.tup [(.str "none"), (.un .repr (.var 11))])) (.own2 false 0 121 (.var 11) (.var 5))) [(.ret (.bl false))] [])]),
      (.ife (.not (.call 136 [(.var 2), (.var 5), (.var 3)])) [(.ret (.bl false))] []),
      (.asg (.name 12) (.un .list (.call 126 [(.var 2)]))),
      (.ife (.or (.bin .ne (.ownq false 0 137 (.var 5) (.fz (.make 0 104 [(.var 12)]))) (.bin .eq (.var 3) (.var 12))) (.bin .ne (.ownq false 0 137 (.var 5) (.fz (.make 0 104 [(.un .rev (.var 3))]))) (.bin .eq (.var 3) (.un .rev (.var 3))))) [(.ret (.bl false))] [])]),
      (.ret (.bl true))]⟩
def m__law_made : Fd := ⟨1, 2, [(.tryx [(.ret (.fz (.make 0 104 [(.var 0)])))] [(101, none), (103, none), (104, some 1)] [[(.ret (.tup [(.str "list"), (.int 0)]))], [(.ret (.tup [(.str "count"), (.int 0)]))], [.retx (some "sign") false]])]⟩
def m__law_is_2 : Fd := ⟨2, 6, [(.ife (.or (.not (.un (.isi [.cls 0]) (.var 0))) (.bin .ne (.ownl 0 111 (.var 0)) (.un .len (.var 1)))) [(.ret (.bl false))] []),
      (.par [2, 3] [(.prop 0 138 (.var 0)), (.prop 0 139 (.var 0))]),
      (.ife (.or (.bin .ne (.var 2) (.comp [4, 5] (.tup [4, 5]) (.of (.var 1)) [] (.var 4))) (.bin .ne (.var 3) (.call 140 [(.var 1)]))) [(.ret (.bl false))] []),
      (.ex (.app (.var 2) .non)),
      (.ex (.app (.var 3) .non)),
      (.ife (.or (.bin .ne (.prop 0 138 (.var 0)) (.comp [4, 5] (.tup [4, 5]) (.of (.var 1)) [] (.var 4))) (.bin .ne (.prop 0 139 (.var 0)) (.call 140 [(.var 1)]))) [(.ret (.bl false))] []),
      (.for (.tup [4, 5]) (.of (.var 1)) [(.ife (.or (.bin .ne (.call 135 [(.var 0), (.var 4)]) (.var 5)) (.own2 true 0 121 (.var 4) (.var 0))) [(.ret (.bl false))] [])]),
      (.ret (.and (.ownq false 0 137 (.var 0) (.fz (.make 0 104 [(.un .list (.var 1))]))) (.ownq true 0 137 (.var 0) (.var 1))))]⟩
def m__law_odd_pairs : Fd := ⟨1, 2, [(.asg (.name 1) (.lst [.non, (.tup []), (.tup [(.var 0)]), (.lst [(.var 0), (.int 1)]), (.tup [(.var 0), (.int 1), (.int 0)]), (.tup [(.var 0), (.int 4)]), (.tup [(.var 0), (.un .neg (.int 1))]), (.tup [(.var 0), (.bl true)]), (.tup [(.var 0), .non]), (.var 0), (.int 0)])),
      (.asg (.name 1) (.bin .add (.var 1) (.lst [(.tup [(.str ""), (.int 1)]), (.tup [(.str "F"), (.int 1)]), (.tup [(.str "f1"), (.int 1)]), (.tup [(.str "abcdefghi"), (.int 1)]), (.tup [.non, (.int 1)]), (.tup [(.int 0), (.int 1)]), (.tup [(.tup [(.str "f")]), (.int 1)]), (.tup [(.lst [(.str "f")]), (.int 1)]), (.tup [(.str "f g"), (.int 1)])]))),
      (.asg (.name 1) (.bin .add (.var 1) (.lst [(.tup [(.str "fG"), (.int 1)]), (.tup [(.str "Fg"), (.int 1)]), (.tup [(.str "a b"), (.int 0)]), (.tup [(.bin .mul (.str "q") (.int 9)), (.int 1)])]))),
      (.ret (.bin .add (.var 1) (.lst [(.tup [(.var 0), (.str "1")]), (.tup [(.var 0), (.tup [(.int 1)])]), (.tup [(.var 0), (.lst [(.int 1)])]), (.tup [(.var 0), (.bl false)]), (.tup [(.str "f_"), (.int 0)]), (.tup [(.str "X"), (.int 0)]), (.tup [(.var 0), (.bin .pow (.int 10) (.int 30))])])))]⟩
def m__law_arity : Fd := ⟨2, 3, [(.tryx [(.ret (.meth 0 122 "arity" (.var 0) [(.var 1)]))] [(105, some 2)] [[.retx (some "none") true]])]⟩
def m__law_near_right : Fd := ⟨3, 7, [(.ife (.bin .ne (.comp [5] (.name 5) (.of (.call 141 [(.var 2)])) [(.ownq false 0 137 (.var 1) (.fz (.make 0 104 [(.un .list (.var 5))])))] (.var 5)) (.lst [])) [(.ret (.bl false))] []),
      (.asg (.name 3) (.str "abcdefghijklmnopqrstuvwxyz")),
      (.asg (.name 4) (.join (.str "") (.comp [6] (.name 6) (.rng1 (.bin .add (.int 1) (.call 108 [(.var 0), (.int 8)]))) [] (.call 102 [(.var 0), (.var 3)])))),
      (.ret (.and (.ownq true 0 137 (.fz (.make 0 104 [(.lst [(.tup [(.str "f"), (.int 1)])])])) (.fz (.make 0 104 [(.lst [(.tup [(.str "f"), (.int 0)])])]))) (.call 133 [(.call 132 [(.lst [(.tup [(.var 4), (.int 3)])])]), (.lst [(.tup [(.var 4), (.int 3)])])])))]⟩
def m_Signs___eq__ : Fd := ⟨2, 2, [(.ret (.and (.un (.isi [.cls 0]) (.var 1)) (.bin .eq (.un .items (.fld 0 (.var 0) "held")) (.un .items (.fld 0 (.var 1) "held")))))]⟩
def m_Signs_names_2 : Fd := ⟨1, 1, [(.ret (.nw .list (.fld 0 (.var 0) "held")))]⟩
def m_Signs_ways_2 : Fd := ⟨1, 2, [(.ret (.nw .sorted (.compF [1] (.name 1) 0 0 "held" [(.bin .ge (.bin .idx (.fld 0 (.var 0) "held") (.var 1)) (.int 2))] (.var 1))))]⟩
def m__law_ways : Fd := ⟨1, 3, [(.ret (.un .sorted (.comp [1, 2] (.tup [1, 2]) (.of (.var 0)) [(.bin .ge (.var 2) (.int 2))] (.var 1))))]⟩
def m__law_near_signs : Fd := ⟨1, 5, [(.asg (.name 1) (.comp [2, 3] (.tup [2, 3]) (.of (.var 0)) [] (.tup [(.var 2), (.bin .idx (.lst [(.int 1), (.int 0), (.int 3), (.int 2)]) (.var 3))]))),
      (.ret (.comp [4] (.name 4) (.of (.tup [(.var 1), (.bin .add (.slt (.var 1) (.int 1)) (.slf (.var 0) (.int 1))), (.un .rev (.var 0))])) [(.bin .ne (.var 4) (.var 0))] (.var 4)))]⟩
end My.M

namespace My.M01
open PySem L2 PyProof.Rows My.M
def fsT : Nat → Option Fd
  | 900001 => some m_law01
  | 100 => some m__law_feed
  | 126 => some m__law_drawn_signs
  | 132 => some m__law_made
  | 133 => some m__law_is_2
  | 108 => some m__law_take
  | 134 => some m__law_odd_pairs
  | 135 => some m__law_arity
  | 121 => some m_Signs___contains__
  | 136 => some m__law_near_right
  | 104 => some m_Signs___init__
  | 137 => some m_Signs___eq__
  | 130 => some m__law_known_signs
  | 102 => some m__law_pick
  | 111 => some m_Signs___len__
  | 138 => some m_Signs_names_2
  | 139 => some m_Signs_ways_2
  | 140 => some m__law_ways
  | 122 => some m_Signs_arity
  | 141 => some m__law_near_signs
  | 113 => some m_is_word
  | 114 => some m_within
  | _ => none
def conT : Nat → T
  | 1 => .int 3
  | 2 => .int 8
  | 0 => .int 5
  | 3 => .str "abcdefghijklmnopqrstuvwxyz"
  | _ => .non
def G : Ctx := ⟨fsT, conT, subF⟩
end My.M01

/-! k01: what Signs tell. -/
namespace My
open PySem (Str PyData)
open My.M My.M01
namespace B
section
variable {G : Ctx} {C : Orc} {ρ ρ1 : En} {h h1 h2 h3 : Hm} {a b c e : E} {s u w x : S} {v v2 z y : T} {es : List E} {ss : List S} {vs : List T}
theorem nw {o : U} {xs : List T} (e1 : evE G C ρ h e = .ok s h1) (d : dref h1 s = some v) (m : newQ G.sub o v = some xs) : evE G C ρ h (.nw o e) = .ok (.r h1.length) (h1 ++ [.lst xs]) := by simp [evE, e1, d, m]
theorem methx {c f c' : Nat} {m : Str} {p : List Str × List T} {fs : List T} (e1 : evE G C ρ h a = .ok s h1) (o : isO c s h1 = some p) (hm : p.1.contains m = false) (e2 : evS G C ρ h1 es = .ok ss h2) (e3 : C f (s :: ss) h2 = .ex c' fs h3) : evE G C ρ h (.meth c f m a es) = .ex c' fs h3 := by
  simp only [evE, e1, R.bind_ok, o, liftO_some, hm, Bool.false_eq_true, if_false, e2, e3]
theorem retx {c : Nat} {fs : List T} (e1 : evE G C ρ h a = .ex c fs h1) : exS G C ρ h (.ret a) = .ex c fs ρ h1 := by simp [exS, e1]
theorem prop {c f : Nat} {p : List Str × List T} (e1 : evE G C ρ h a = .ok s h1) (o : isO c s h1 = some p) (e2 : C f [s] h1 = .ok u h2) : evE G C ρ h (.prop c f a) = .ok u h2 := by simp [evE, e1, o, e2, noEx]
theorem ownl {c f : Nat} {p : List Str × List T} {i : Int} (e1 : evE G C ρ h a = .ok s h1) (o : isO c s h1 = some p) (e2 : C f [s] h1 = .ok (.t (.int i)) h2) (h0 : 0 ≤ i ∧ i < 2 ^ 63) : evE G C ρ h (.ownl c f a) = .ok (.t (.int i)) h2 := by
  simp only [evE, e1, R.bind_ok, o, liftO_some, e2, noEx, asI]
  rw [if_pos h0]
theorem ownq {neg : Bool} {c f : Nat} {p : List Str × List T} {k : Bool} (e1 : evE G C ρ h a = .ok s h1) (e2 : evE G C ρ h1 b = .ok u h2) (o : isO c s h2 = some p) (o2 : othQ c u h2 = some ()) (e3 : C f [s, u] h2 = .ok (.t (.bl k)) h3) : evE G C ρ h (.ownq neg c f a b) = .ok (.t (.bl (k != neg))) h3 := by simp [evE, e1, e2, o, o2, e3, noEx, asB]
theorem compF {own : List Nat} {tg : Tg} {i c : Nat} {f : Str} {cs : List E} {ks : List T} {q : T → Bool} (hv : ρ[i]? = some (some s)) (hk : fldKeys c f s h = some ks) (ht : ∀ x ∈ ks, ∃ ρ', setTg tg (.t x) (wipeE ρ own) = some ρ' ∧ evCs G C ρ' h cs = .ok (q x) h ∧ evE G C ρ' h e = .ok (.t x) h) :
    evE G C ρ h (.compF own tg i c f cs e) = .ok (.t (.lst (ks.filter q))) h := by
  rw [evE, hv, Option.join_some, liftO_some, R.bind_ok, hk, liftO_some, R.bind_ok, compL_pure (k := fun x => if q x then some x else none) rfl fun x hx => ?_]
  · have key : ∀ l : List T, l.filterMap (fun x => if q x then some x else none) = l.filter q := fun l => by
      induction l with
      | nil => rfl
      | cons x xs ih => simp only [List.filterMap_cons, List.filter_cons]; cases q x <;> simp_all
    rw [key]
    rfl
  · obtain ⟨ρ', e1, e2, e3⟩ := ht x hx
    rw [e1, liftO_some, R.bind_ok, e2, R.bind_ok]
    cases q x with
    | false => rfl
    | true => simp only [if_true]; rw [e3]; rfl
/-- a comprehension that draws nothing -/
theorem compK {own : List Nat} {tg : Tg} {it : It} {cs : List E} {p : List T × Option (Nat × MO)} {q : T → Bool} {k : T → T} (hit : evIt G C ρ h it = .ok p h1) (hg : gOk p.2 h1 = true) (ht : ∀ x ∈ p.1, ∃ ρ', setTg tg (.t x) (wipeE ρ own) = some ρ' ∧ evCs G C ρ' h1 cs = .ok (q x) h1 ∧ evE G C ρ' h1 e = .ok (.t (k x)) h1) :
    evE G C ρ h (.comp own tg it cs e) = .ok (.t (.lst ((p.1.filter q).map k))) h1 := by
  rw [evE, hit, R.bind_ok, compL_pure (k := fun x => if q x then some (k x) else none) hg fun x hx => ?_]
  · have : p.1.filterMap (fun x => if q x then some (k x) else none) = (p.1.filter q).map k := by
      induction p.1 with
      | nil => rfl
      | cons x xs ih => simp only [List.filterMap_cons, List.filter_cons]; cases q x <;> simp_all
    rw [this]
    rfl
  · obtain ⟨ρ', e1, e2, e3⟩ := ht x hx
    rw [e1, liftO_some, R.bind_ok, e2, R.bind_ok]
    cases q x with
    | false => rfl
    | true => simp only [if_true]; rw [e3]; rfl
end
end B
theorem hs01 : HasSigns M01.G := ⟨rfl, rfl, rfl, rfl, rfl, rfl, rfl, rfl, rfl⟩
theorem hd01 : HasDrawn M01.G := ⟨⟨rfl, rfl, rfl⟩, rfl, rfl⟩
/-! ### pairs -/
theorem pT_gd {p : Str × Int} (h : sOk p.1 = true) (h0 : 0 ≤ p.2) (h3 : p.2 ≤ 3) : Gd 1 3 (pT p) := ⟨by simp only [pT, gd, gds, h]; simp; left; omega, by simp [pT, dpt, dpts], by simp [pT, szt, szts]⟩
theorem sgT_all {sg : Sg} (h : ∀ p ∈ sg, sOk p.1 = true ∧ 0 ≤ p.2 ∧ p.2 ≤ 3) : ∀ t ∈ sgT sg, Gd 1 3 t := fun t mt => by
  obtain ⟨p, mp, rfl⟩ := List.mem_map.mp mt
  obtain ⟨a, b, c⟩ := h p mp
  exact pT_gd a b c
theorem lstG {xs : List T} {n m : Nat} (h : ∀ x ∈ xs, Gd n m x) : gd (.lst xs) = true ∧ dpt (.lst xs) ≤ n + 1 ∧ szt (.lst xs) ≤ 1 + xs.length * m := ⟨by simp only [gd]; exact gds_all.mpr fun x mx => (h x mx).gd, by simp only [dpt]; exact Nat.succ_le_succ (dpts_le.mpr fun x mx => (h x mx).dp), by simp only [szt]; have := szts_le fun x mx => (h x mx).sz; omega⟩
theorem nm_all {l : List Str} (h : ∀ x ∈ l, sOk x = true) : ∀ t ∈ l.map T.str, Gd 0 1 t := fun t mt => by
  obtain ⟨x, mx, rfl⟩ := List.mem_map.mp mt
  exact ⟨by simpa [gd] using h x mx, by simp [dpt], by simp [szt]⟩
theorem SgOk.g {sg : Sg} (ok : SgOk sg) : ∀ p ∈ sg, sOk p.1 = true ∧ 0 ≤ p.2 ∧ p.2 ≤ 3 := fun p mp => (ok.all p mp).2
theorem pairs_inj {sg sg' : Sg} (h : sgT sg = sgT sg') : sg = sg' := by
  induction sg generalizing sg' with
  | nil => cases sg' with | nil => rfl | cons _ _ => simp [sgT] at h
  | cons p sg ih =>
    cases sg' with
    | nil => simp [sgT] at h
    | cons p' sg' =>
      simp only [sgT, List.map_cons, List.cons.injEq, pT, T.tup.injEq, T.str.injEq, T.int.injEq, and_true] at h
      rw [ih h.2, Prod.ext h.1.1 h.1.2]
theorem eqv_sg : ∀ (sg sg' : Sg), PyData.eqvAll (pys (sgT sg)) (pys (sgT sg')) = decide (sg = sg')
  | [], [] => by simp [sgT, pys, PyData.eqvAll]
  | [], _ :: _ => by simp [sgT, pys, PyData.eqvAll]
  | _ :: _, [] => by simp [sgT, pys, PyData.eqvAll]
  | p :: sg, p' :: sg' => by
    have ih := eqv_sg sg sg'
    simp only [sgT] at ih
    simp only [sgT, List.map_cons, pys, PyData.eqvAll, ih, pT, T.py, PyData.eqv, Bool.and_true]
    rw [Bool.eq_iff_iff]
    simp only [Bool.and_eq_true, beq_iff_eq, decide_eq_true_eq, List.cons.injEq, Prod.ext_iff]
theorem eq_sg {sg sg' : Sg} (h : (T.lst (sgT sg)).shp = true) (h' : (T.lst (sgT sg')).shp = true) : sem2 .eq (.lst (sgT sg)) (.lst (sgT sg')) = some (.bl (decide (sg = sg'))) := by
  simp only [sem2, eq2, h, h', Bool.and_self, if_true, Option.map_some, eqT, T.py, PyData.eqv, eqv_sg]
theorem ne_sg {sg sg' : Sg} (h : (T.lst (sgT sg)).shp = true) (h' : (T.lst (sgT sg')).shp = true) : sem2 .ne (.lst (sgT sg)) (.lst (sgT sg')) = some (.bl (!decide (sg = sg'))) := by
  simp only [sem2, eq2, h, h', Bool.and_self, if_true, Option.map_some, eqT, T.py, PyData.eqv, eqv_sg]
theorem zip_sg (sg : Sg) : List.zipWith (fun k v => T.tup [k, v]) (nmT sg) (arT sg) = sgT sg := by
  induction sg with
  | nil => rfl
  | cons p sg ih => simp only [nmT, arT, sgT, List.map_cons, List.zipWith_cons_cons] at ih ⊢; rw [ih]; rfl
/-! ### ==, len, names, ways, arity -/
theorem run_eq {sg sg' : Sg} (ok : SgOk sg) (ok' : SgOk sg') {d : Nat} {h : Hm} : callF M01.G (d + 1) 137 [.t (sigT sg), .t (sigT sg')] h = .ok (.t (.bl (decide (sg = sg')))) h := by
  have i0 : sem1 M01.G.sub .items (.dct (nmT sg) (arT sg)) = some (.lst (sgT sg)) := by simp only [sem1, zip_sg]
  have i1 : sem1 M01.G.sub .items (.dct (nmT sg') (arT sg')) = some (.lst (sgT sg')) := by simp only [sem1, zip_sg]
  exact B.dret0 (G := M01.G) (f := 137) (d := d) (fd := m_Signs___eq__) rfl rfl (B.sr (B.ret (B.and1 (B.un (o := .isi [.cls 0]) (v := sigT sg') (z := .bl true) (B.var (i := 1) rfl) rfl rfl) (B.bin (o := .eq) (B.un (o := .items) (fld_sig (B.var (i := 0) rfl)) rfl i0) (B.un (o := .items) (fld_sig (B.var (i := 1) rfl)) rfl i1) rfl rfl (eq_sg (pairs_shp ok) (pairs_shp ok'))))))
theorem run_eqL {sg : Sg} {xs : List T} {d : Nat} {h : Hm} : callF M01.G (d + 1) 137 [.t (sigT sg), .t (.lst xs)] h = .ok (.t (.bl false)) h :=
  B.dret0 (G := M01.G) (f := 137) (d := d) (fd := m_Signs___eq__) rfl rfl (B.sr (B.ret (B.and0 (B.un (o := .isi [.cls 0]) (v := .lst xs) (z := .bl false) (B.var (i := 1) rfl) rfl rfl))))
theorem run_len {sg : Sg} {d : Nat} {h : Hm} : callF M01.G (d + 1) 111 [.t (sigT sg)] h = .ok (.t (.int sg.length)) h :=
  B.dret0 (G := M01.G) (f := 111) (d := d) (fd := m_Signs___len__) rfl rfl (B.sr (B.ret (B.un (o := .len) (v := .dct (nmT sg) (arT sg)) (z := .int sg.length) (fld_sig (B.var (i := 0) rfl)) rfl (by simp [sem1, nmT]))))
theorem run_names {sg : Sg} {d : Nat} {h : Hm} : callF M01.G (d + 1) 138 [.t (sigT sg)] h = .ok (.r h.length) (h ++ [.lst (nmT sg)]) := by
  have z := B.drr (G := M01.G) (f := 138) (d := d) (fd := m_Signs_names_2) (h := h) (ss := [.t (sigT sg)]) (n := h.length) (xs := nmT sg) rfl rfl (B.sr (B.ret (B.nw (o := .list) (xs := nmT sg) (fld_sig (B.var (i := 0) rfl)) rfl rfl))) (Nat.le_refl _) (by simp)
  rw [z]; simp
def waysL (sg : Sg) : List Str := (sg.filter fun p => decide (2 ≤ p.2)).map (·.1)
def waysT (sg : Sg) : List T := (sortS (waysL sg)).map .str
theorem strs_map (l : List Str) : strsOf (l.map .str) = some l := by
  induction l with
  | nil => rfl
  | cons x l ih => simp [strsOf, ih]
theorem waysL_len (sg : Sg) : (waysL sg).length ≤ sg.length := by simp only [waysL, List.length_map]; exact List.length_filter_le _ _
theorem sorted_ways {sg : Sg} (l : sg.length ≤ 50) : sem1 M01.G.sub .sorted (.lst ((waysL sg).map .str)) = some (.lst (waysT sg)) := by
  have := waysL_len sg
  simp only [sem1, strs_map]
  rw [if_pos (by omega)]; rfl
def wayB (sg : Sg) : T → Bool
  | .str n => match look sg n with | some a => decide (2 ≤ a) | none => false
  | _ => false
theorem filter_ways {sg : Sg} (nd : (sg.map (·.1)).Nodup) : (nmT sg).filter (wayB sg) = (waysL sg).map .str := by
  simp only [nmT, waysL, List.filter_map, List.map_map]
  congr 1
  refine List.filter_congr fun p mp => ?_
  simp [wayB, look_of nd (show (p.1, p.2) ∈ sg from mp)]
theorem run_ways {sg : Sg} (ok : SgOk sg) {d : Nat} {h : Hm} : callF M01.G (d + 1) 139 [.t (sigT sg)] h = .ok (.r h.length) (h ++ [.lst (waysT sg)]) := by
  have l5 := ok.len
  have cf := B.compF (G := M01.G) (C := callF M01.G d) (ρ := [some (.t (sigT sg)), none]) (h := h) (own := [1]) (tg := .name 1) (i := 0) (c := 0) (f := "held") (cs := [(.bin .ge (.bin .idx (.fld 0 (.var 0) "held") (.var 1)) (.int 2))]) (e := .var 1) (s := .t (sigT sg)) (ks := nmT sg) (q := wayB sg) rfl (by
    have : lim (nmT sg).length = true := lim_small (by simp [nmT]; omega)
    simp only [fldKeys, isO_sig, Option.bind_some, lookN]
    simp [this]) fun x mx => by
    obtain ⟨p, mp, rfl⟩ := List.mem_map.mp mx
    have lk := look_of ok.nd (show (p.1, p.2) ∈ sg from mp)
    refine ⟨_, rfl, cs1 ?_, B.var (i := 1) rfl⟩
    have := B.bin (G := M01.G) (C := callF M01.G d) (ρ := [some (.t (sigT sg)), some (.t (.str p.1))]) (h := h) (o := .ge) (z := .bl (decide (2 ≤ p.2))) (B.bin (o := .idx) (z := .int p.2) (fld_sig (B.var (i := 0) rfl)) (B.var (i := 1) rfl) rfl rfl (by simp [sem2, keyOf, getD_sg, lk])) (B.int (i := 2)) rfl rfl (by simp [sem2, arith, cmpI])
    simp only [wayB, lk]
    exact this
  rw [filter_ways ok.nd] at cf
  have z := B.drr (G := M01.G) (f := 139) (d := d) (fd := m_Signs_ways_2) (h := h) (ss := [.t (sigT sg)]) (n := h.length) (xs := waysT sg) rfl rfl (B.sr (B.ret (B.nw (o := .sorted) (xs := waysT sg) cf rfl (by simp only [newQ, sorted_ways (sg := sg) (by omega)])))) (Nat.le_refl _) (by simp)
  rw [z]; simp
theorem run_lways {sg : Sg} (l : sg.length ≤ 50) {d : Nat} {h : Hm} : callF M01.G (d + 1) 140 [.t (.lst (sgT sg))] h = .ok (.t (.lst (waysT sg))) h := by
  have c := B.compK (G := M01.G) (C := callF M01.G d) (ρ := [some (.t (.lst (sgT sg))), none, none]) (h := h) (own := [1, 2]) (tg := .tup [1, 2]) (it := .of (.var 0)) (cs := [(.bin .ge (.var 2) (.int 2))]) (e := .var 1) (p := (sgT sg, none)) (q := fun t => match t with | .tup [_, .int a] => decide (2 ≤ a) | _ => false) (k := fun t => match t with | .tup [n, _] => n | t => t) (B.itOf (B.var (i := 0) rfl) rfl) rfl fun x mx => by
    obtain ⟨p, mp, rfl⟩ := List.mem_map.mp mx
    exact ⟨_, rfl, cs1 (B.bin (o := .ge) (B.var (i := 2) rfl) B.int rfl rfl (by simp [pT, sem2, arith, cmpI])), B.var (i := 1) rfl⟩
  have e : ((sgT sg).filter (fun t => match t with | .tup [_, .int a] => decide (2 ≤ a) | _ => false)).map (fun t => match t with | .tup [n, _] => n | t => t) = (waysL sg).map .str := by
    simp only [sgT, waysL, List.filter_map, List.map_map]
    rfl
  rw [e] at c
  exact B.dret0 (G := M01.G) (f := 140) (d := d) (fd := m__law_ways) rfl rfl (B.sr (B.ret (B.un (o := .sorted) c rfl (sorted_ways l))))
theorem run_larity {sg : Sg} {d : Nat} {h : Hm} {x : Str} {a : Int} (l : look sg x = some a) : callF M01.G (d + 3) 135 [.t (sigT sg), .t (.str x)] h = .ok (.t (.int a)) h := by
  refine B.dret0 (G := M01.G) (f := 135) (d := d + 2) (fd := m__law_arity) rfl rfl (B.sr ?_)
  have e : exSs M01.G (callF M01.G (d + 2)) [some (.t (sigT sg)), some (.t (.str x)), none] h [(.ret (.meth 0 122 "arity" (.var 0) [(.var 1)]))] = .rt (.t (.int a)) h := B.sr (B.ret (B.meth (B.var (i := 0) rfl) isO_sig (show ([("held" : Str)] : List Str).contains "arity" = false by decide +kernel) (B.cons (B.var (i := 1) rfl) B.nil) (runs_arity hs01 l)))
  show exS M01.G (callF M01.G (d + 2)) [some (.t (sigT sg)), some (.t (.str x)), none] h (.tryx [(.ret (.meth 0 122 "arity" (.var 0) [(.var 1)]))] [(105, some 2)] [[.retx (some "none") true]]) = _
  rw [exS, e]
theorem run_larity_no {sg : Sg} {d : Nat} {h : Hm} {v : T} {y : Str} (l : inS sg v = false) (ry : sem1 M01.G.sub .repr v = some (.str y)) : callF M01.G (d + 3) 135 [.t (sigT sg), .t v] h = .ok (.t (.tup [.str "none", .str y])) h := by
  refine B.dret0 (G := M01.G) (f := 135) (d := d + 2) (fd := m__law_arity) rfl rfl (B.sr ?_)
  have inE := B.own2 (G := M01.G) (C := callF M01.G (d + 1)) (ρ := [some (.t (sigT sg)), some (.t v)]) (neg := true) (a := .var 1) (b := .var 0) (B.var (h := h) rfl) (B.var rfl) isO_sig (runs_in hs01 (d := d) (sg := sg) (v := v))
  rw [l] at inE
  have ar : callF M01.G (d + 2) 122 [.t (sigT sg), .t v] h = .ex 105 [v] h := by
    have := B.dex (G := M01.G) (f := 122) (d := d + 1) (fd := m_Signs_arity) (h := h) (ss := [.t (sigT sg), .t v]) (c := 105) (fs := [v]) rfl rfl (B.sx (B.if1 inE (B.sx (B.rais (B.tcons (B.var (i := 1) rfl) B.tnil)))))
    rw [this, List.take_length]
  have e : exSs M01.G (callF M01.G (d + 2)) [some (.t (sigT sg)), some (.t v), none] h [(.ret (.meth 0 122 "arity" (.var 0) [(.var 1)]))] = .ex 105 [v] [some (.t (sigT sg)), some (.t v), none] h := by
    exact B.sx (B.retx (B.methx (B.var (i := 0) rfl) isO_sig (show ([("held" : Str)] : List Str).contains "arity" = false by decide +kernel) (B.cons (B.var (i := 1) rfl) B.nil) ar))
  show exS M01.G (callF M01.G (d + 2)) [some (.t (sigT sg)), some (.t v), none] h (.tryx [(.ret (.meth 0 122 "arity" (.var 0) [(.var 1)]))] [(105, some 2)] [[.retx (some "none") true]]) = _
  rw [exS, e]
  have sb : M01.G.sub 105 105 = true := rfl
  simp only [exHs, sb, if_true, retX, ry]
end My

/-! k01: what is made, and whether it is right. -/
namespace My
open PySem (Str PyData)
open My.M My.M01
variable {G : Ctx}
/-- Signs(xs), xs right -/
theorem init_ok (hG : HasSigns G) {d : Nat} {h : Hm} {s : S} {sg : Sg} (a : Arg h s (.lst (sgT sg))) (ok : SgOk sg) : callF G (d + 2) 104 [.r h.length, s] (h ++ [.obj 0 [] []]) = .ok (.t .non) (h ++ [.obj 0 ["held"] [.dct (nmT sg) (arT sg)]]) := by
  have len : (sgT sg).length = sg.length := by simp [sgT]
  have l5 := ok.len
  have l1 : 1 ≤ sg.length := List.length_pos_iff.mpr ok.ne
  obtain ⟨g, eg, gk⟩ := a.enum (k := [.obj 0 [] []] ++ [.dct [] []]) (lim_small (by rw [len]; omega))
  rw [← List.append_assoc] at eg
  obtain ⟨y3, y4, w⟩ := sg_walk hG (d := d) (h0 := h ++ [.obj 0 [] []]) (s0 := some (.r h.length)) (s1 := some s) (g := g) (fun k => by rw [List.append_assoc]; exact gk _) sg [] none none [] ok.all (by simpa using ok.nd) (by simp; omega)
  rw [init_head hG (o := .nx [some (.r h.length), some s, some (.r (h ++ [MO.obj 0 [] []]).length), y3, y4] ((h ++ [MO.obj 0 ["held"] [T.dct (nmT sg) (arT sg)]]) ++ [MO.dead])) a (by rw [len]; omega) (by rw [len]; omega) eg ?_]
  · simp only [runF]
    congr 1
    rw [List.take_append_of_le_length (by simp), List.take_of_length_le (by simp)]
  · have w' := w
    simp only [List.length_nil, List.nil_append, List.append_nil] at w'
    have nil1 : nmT [] = [] := rfl
    have nil2 : arT [] = [] := rfl
    rw [nil1, nil2] at w'
    have en : enumT (sgT sg) = numd 0 (sgT sg) := rfl
    rw [en, w', forL, if_pos (by rw [List.append_assoc]; exact gk _)]
    have nn : ((h ++ [MO.obj 0 [] []]) ++ [MO.dct (nmT sg) (arT sg)])[(h ++ [MO.obj 0 [] []]).length]? = some (.dct (nmT sg) (arT sg)) := by simp
    have v2 : evE G (callF G (d + 1)) [some (.r h.length), some s, some (.r (h ++ [MO.obj 0 [] []]).length), y3, y4] ((h ++ [MO.obj 0 [] []]) ++ [MO.dct (nmT sg) (arT sg)]) (.var 2) = .ok (.r (h ++ [MO.obj 0 [] []]).length) ((h ++ [MO.obj 0 [] []]) ++ [MO.dct (nmT sg) (arT sg)]) := B.var rfl
    have v0 : evE G (callF G (d + 1)) [some (.r h.length), some s, some (.r (h ++ [MO.obj 0 [] []]).length), y3, y4] ((h ++ [MO.obj 0 [] []]) ++ [MO.dead]) (.var 0) = .ok (.r h.length) ((h ++ [MO.obj 0 [] []]) ++ [MO.dead]) := B.var rfl
    have st : ((h ++ [MO.obj 0 [] []]) ++ [MO.dct (nmT sg) (arT sg)]).set (h ++ [MO.obj 0 [] []]).length .dead = (h ++ [MO.obj 0 [] []]) ++ [MO.dead] := by rw [List.set_append_right _ _ (Nat.le_refl _), Nat.sub_self]; rfl
    have fz : evE G (callF G (d + 1)) [some (.r h.length), some s, some (.r (h ++ [MO.obj 0 [] []]).length), y3, y4] ((h ++ [MO.obj 0 [] []]) ++ [MO.dct (nmT sg) (arT sg)]) (.fz (.var 2)) = .ok (.t (.dct (nmT sg) (arT sg))) ((h ++ [MO.obj 0 [] []]) ++ [MO.dead]) := by
      rw [evE, v2, R.bind_ok]
      simp only [fzF, dref, nn, liftO_some, R.bind_ok]
      rw [if_neg (by simp), st]
    have at1 : ((h ++ [MO.obj 0 [] []]) ++ [MO.dead])[h.length]? = some (.obj 0 [] []) := by simp
    show exSs G (callF G (d + 1)) [some (.r h.length), some s, some (.r (h ++ [MO.obj 0 [] []]).length), y3, y4] (h ++ [MO.obj 0 [] []] ++ [MO.dct (nmT sg) (arT sg)]) [.setf 0 (.var 0) "held" (.fz (.var 2))] = _
    refine B.sc ?_ B.sn
    simp only [exS, fz, R.out_ok, v0, at1, List.length_nil, putN]
    rw [if_pos (by decide)]
    congr 1
    rw [List.append_assoc, List.set_append_right _ _ (Nat.le_refl _), Nat.sub_self]
    simp
theorem make_ok (hG : HasSigns G) {d : Nat} {ρ : En} {h : Hm} {s : S} {sg : Sg} {es : List E} (a : Arg h s (.lst (sgT sg))) (ok : SgOk sg) (e : evS G (callF G (d + 2)) ρ h es = .ok [s] h) : evE G (callF G (d + 2)) ρ h (.fz (.make 0 104 es)) = .ok (.t (sigT sg)) h := by
  have i := init_ok hG (d := d) a ok
  have at1 : (h ++ [MO.obj 0 ["held"] [.dct (nmT sg) (arT sg)]])[h.length]? = some (.obj 0 ["held"] [.dct (nmT sg) (arT sg)]) := by simp
  simp only [evE, e, R.bind_ok, i]
  rw [if_pos (by simp)]
  simp only [R.bind_ok, fzF, dref, at1, liftO_some]
  rw [if_pos (by simp)]
  simp [sigT]
theorem make_ex {C : Orc} {ρ : En} {h : Hm} {s : S} {es : List E} {c : Nat} {fs : List T} (i : C 104 [.r h.length, s] (h ++ [.obj 0 [] []]) = .ex c fs (h ++ [.obj 0 [] []])) (e : evS G C ρ h es = .ok [s] h) : evE G C ρ h (.fz (.make 0 104 es)) = .ex c fs (h ++ [.obj 0 [] []]) := by
  simp only [evE, e, R.bind_ok, i, R.bind_ex]
/-! ### _law_made -/
def madeH : List (List St) := [[(.ret (.tup [(.str "list"), (.int 0)]))], [(.ret (.tup [(.str "count"), (.int 0)]))], [.retx (some "sign") false]]
theorem made_ok {d : Nat} {h : Hm} {s : S} {sg : Sg} (a : Arg h s (.lst (sgT sg))) (ok : SgOk sg) : callF M01.G (d + 3) 132 [s] h = .ok (.t (sigT sg)) h := by
  refine B.dret0 (G := M01.G) (f := 132) (d := d + 2) (fd := m__law_made) rfl rfl (B.sr ?_)
  have e : exSs M01.G (callF M01.G (d + 2)) [some s, none] h [(.ret (.fz (.make 0 104 [(.var 0)])))] = .rt (.t (sigT sg)) h := B.sr (B.ret (make_ok hs01 a ok (B.cons (B.var (i := 0) rfl) B.nil)))
  show exS M01.G (callF M01.G (d + 2)) [some s, none] h (.tryx [(.ret (.fz (.make 0 104 [(.var 0)])))] [(101, none), (103, none), (104, some 1)] madeH) = _
  rw [exS, e]
theorem made_ex {d : Nat} {h : Hm} {s : S} {c : Nat} {fs : List T} {r : T} (i : callF M01.G (d + 2) 104 [.r h.length, s] (h ++ [.obj 0 [] []]) = .ex c fs (h ++ [.obj 0 [] []]))
    (hr : exHs M01.G (callF M01.G (d + 2)) c fs [some s, none] (h ++ [.obj 0 [] []]) [(101, none), (103, none), (104, some 1)] madeH = .rt (.t r) (h ++ [.obj 0 [] []])) : callF M01.G (d + 3) 132 [s] h = .ok (.t r) h := by
  have e : exSs M01.G (callF M01.G (d + 2)) [some s, none] h [(.ret (.fz (.make 0 104 [(.var 0)])))] = .ex c fs [some s, none] (h ++ [.obj 0 [] []]) := B.sx (B.retx (make_ex i (B.cons (B.var (i := 0) rfl) B.nil)))
  have z := B.dret (G := M01.G) (f := 132) (d := d + 2) (fd := m__law_made) (h := h) (ss := [s]) (v := r) (h1 := h ++ [.obj 0 [] []]) rfl rfl (B.sr (by
    show exS M01.G (callF M01.G (d + 2)) [some s, none] h (.tryx [(.ret (.fz (.make 0 104 [(.var 0)])))] [(101, none), (103, none), (104, some 1)] madeH) = _
    rw [exS, e]
    exact hr))
  rw [z]; simp
theorem made_list {d : Nat} {h : Hm} {s : S} {v : T} (a : Arg h s v) (hv : isTy M01.G.sub v .tlist = false) : callF M01.G (d + 3) 132 [s] h = .ok (.t (.tup [.str "list", .int 0])) h := made_ex (init_nolist hs01 a hv) (by kernel_rfl)
theorem made_count {d : Nat} {h : Hm} {s : S} {xs : List T} (a : Arg h s (.lst xs)) (hl : xs.length = 0 ∨ 5 < xs.length) : callF M01.G (d + 3) 132 [s] h = .ok (.t (.tup [.str "count", .int 0])) h := made_ex (init_count hs01 a hl) (by kernel_rfl)
theorem made_sign {d k : Nat} {h : Hm} {s : S} (i : callF M01.G (d + 2) 104 [.r h.length, s] (h ++ [.obj 0 [] []]) = .ex 104 [.int (k : Nat)] (h ++ [.obj 0 [] []])) : callF M01.G (d + 3) 132 [s] h = .ok (.t (.tup [.str "sign", .int (k : Nat)])) h := made_ex i (by kernel_rfl)
/-! ### _law_is -/
structure Pre (h hh : Hm) : Prop where
  eq : hh.take h.length = h
  le : h.length ≤ hh.length
theorem Pre.refl (h : Hm) : Pre h h := ⟨by simp, Nat.le_refl _⟩
theorem Pre.push {h hh : Hm} {o : MO} (p : Pre h hh) : Pre h (hh ++ [o]) := ⟨by rw [List.take_append_of_le_length p.le]; exact p.eq, by simp; have := p.le; omega⟩
theorem Pre.set {h hh : Hm} {o : MO} {m : Nat} (p : Pre h hh) (hm : h.length ≤ m) : Pre h (hh.set m o) := ⟨by
  conv => rhs; rw [← p.eq]
  apply List.ext_getElem?
  intro i
  by_cases hi : i < h.length
  · rw [List.getElem?_take_of_lt hi, List.getElem?_take_of_lt hi, List.getElem?_set_ne (by omega)]
  · rw [List.getElem?_take_eq_none (by omega), List.getElem?_take_eq_none (by omega)], by simp; exact p.le⟩
theorem run_lis {sg : Sg} (ok : SgOk sg) {d : Nat} {h : Hm} : callF M01.G (d + 5) 133 [.t (sigT sg), .t (.lst (sgT sg))] h = .ok (.t (.bl true)) h := by
  have l5 := ok.len
  have len : (sgT sg).length = sg.length := by simp [sgT]
  have gn : gd (.lst (nmT sg)) = true ∧ dpt (.lst (nmT sg)) ≤ 1 := by
    have e : nmT sg = (sg.map (·.1)).map T.str := by simp [nmT]
    obtain ⟨a, b, _⟩ := lstG (nm_all (l := sg.map (·.1)) fun x mx => by obtain ⟨p, mp, rfl⟩ := List.mem_map.mp mx; exact (ok.g p mp).1)
    rw [e]; exact ⟨a, b⟩
  have mem_ins : ∀ (x y : Str) (l : List Str), y ∈ insS x l → y = x ∨ y ∈ l := fun x y l => by
    induction l with
    | nil => intro m; simpa [insS] using m
    | cons z l ih =>
      intro m
      unfold insS at m
      split at m
      · rcases List.mem_cons.mp m with m | m
        · exact .inr (m ▸ List.mem_cons_self)
        · exact (ih m).imp id (List.mem_cons_of_mem _)
      · simpa using m
  have mem_sort : ∀ (l : List Str) (y : Str), y ∈ sortS l → y ∈ l := fun l => by
    induction l with
    | nil => intro y m; simpa [sortS] using m
    | cons x l ih => intro y m; rcases mem_ins _ _ _ m with h | h
                     · exact h ▸ List.mem_cons_self
                     · exact List.mem_cons_of_mem _ (ih y h)
  have gw : gd (.lst (waysT sg)) = true ∧ dpt (.lst (waysT sg)) ≤ 1 := by
    obtain ⟨a, b, _⟩ := lstG (nm_all (l := sortS (waysL sg)) fun x mx => by
      obtain ⟨p, mp, rfl⟩ := List.mem_map.mp (mem_sort _ _ mx)
      exact (ok.g p (List.mem_filter.mp mp).1).1)
    exact ⟨a, b⟩
  have wl : (waysT sg).length ≤ 100 := by
    have li : ∀ (x : Str) (l : List Str), (insS x l).length = l.length + 1 := fun x l => by
      induction l with
      | nil => rfl
      | cons y l ih => unfold insS; split <;> simp [ih]
    have ls : ∀ l : List Str, (sortS l).length = l.length := fun l => by
      induction l with
      | nil => rfl
      | cons x l ih => simp [sortS, li, ih]
    have := waysL_len sg
    simp only [waysT, List.length_map, ls]; omega
  let hA : Hm := h ++ [.lst (nmT sg)]
  let hB : Hm := hA ++ [.lst (waysT sg)]
  let hC : Hm := hB.set h.length (.lst (nmT sg ++ [.non]))
  let hD : Hm := hC.set hA.length (.lst (waysT sg ++ [.non]))
  have lA : hA.length = h.length + 1 := by simp [hA]
  have lB : hB.length = h.length + 2 := by simp [hB, hA]
  have B0 : hB[h.length]? = some (.lst (nmT sg)) := by simp [hB, hA]
  have B1 : hB[hA.length]? = some (.lst (waysT sg)) := by simp [hB]
  have C1 : hC[hA.length]? = some (.lst (waysT sg)) := by simp only [hC]; rw [List.getElem?_set_ne (by omega)]; exact B1
  have pB : Pre h hB := ((Pre.refl h).push).push
  have pD : Pre h hD := (pB.set (Nat.le_refl _)).set (by omega)
  let ρ (x2 x3 x4 x5 : Option S) : En := [some (.t (sigT sg)), some (.t (.lst (sgT sg))), x2, x3, x4, x5]
  have nmC : ∀ (x2 x3 x4 x5 : Option S) (hh : Hm), evE M01.G (callF M01.G (d + 4)) (ρ x2 x3 x4 x5) hh (.comp [4, 5] (.tup [4, 5]) (.of (.var 1)) [] (.var 4)) = .ok (.t (.lst (nmT sg))) hh := fun x2 x3 x4 x5 hh => by
    have c := comp_map (G := M01.G) (C := callF M01.G (d + 4)) (ρ := ρ x2 x3 x4 x5) (h := hh) (own := [4, 5]) (tg := .tup [4, 5]) (it := .of (.var 1)) (e := .var 4) (k := fun t => match t with | .tup [n, _] => n | t => t) (p := (sgT sg, none)) (B.itOf (B.var (i := 1) rfl) rfl) rfl fun x mx => by
      obtain ⟨p, mp, rfl⟩ := List.mem_map.mp mx
      exact ⟨_, rfl, B.var (i := 4) rfl⟩
    have e : (sgT sg).map (fun t => match t with | .tup [n, _] => n | t => t) = nmT sg := by simp only [sgT, nmT, List.map_map]; rfl
    rw [e] at c
    exact c
  have wyC : ∀ (x2 x3 x4 x5 : Option S) (hh : Hm), evE M01.G (callF M01.G (d + 4)) (ρ x2 x3 x4 x5) hh (.call 140 [(.var 1)]) = .ok (.t (.lst (waysT sg))) hh := fun x2 x3 x4 x5 hh => B.call (B.cons (B.var (i := 1) rfl) B.nil) (run_lways (by omega))
  have c1 : exS M01.G (callF M01.G (d + 4)) (ρ none none none none) h (.ife (.or (.not (.un (.isi [.cls 0]) (.var 0))) (.bin .ne (.ownl 0 111 (.var 0)) (.un .len (.var 1)))) [(.ret (.bl false))] []) = .nx (ρ none none none none) h :=
    B.if0 (B.or0 (B.not (k := true) (B.un (o := .isi [.cls 0]) (v := sigT sg) (z := .bl true) (B.var (i := 0) rfl) rfl rfl)) (B.bin (o := .ne) (B.ownl (i := sg.length) (B.var (i := 0) rfl) isO_sig run_len (by omega)) (B.un (o := .len) (v := .lst (sgT sg)) (z := .int sg.length) (B.var (i := 1) rfl) rfl (by simp [sem1, len])) rfl rfl (by rw [ne_int']; simp))) B.sn
  have c2 : exS M01.G (callF M01.G (d + 4)) (ρ none none none none) h (.par [2, 3] [(.prop 0 138 (.var 0)), (.prop 0 139 (.var 0))]) = .nx (ρ (some (.r h.length)) (some (.r hA.length)) none none) hB :=
    B.par (B.cons (B.prop (B.var (i := 0) rfl) isO_sig run_names) (B.cons (B.prop (B.var (i := 0) rfl) isO_sig (run_ways ok)) B.nil)) rfl
  have c3 : exS M01.G (callF M01.G (d + 4)) (ρ (some (.r h.length)) (some (.r hA.length)) none none) hB (.ife (.or (.bin .ne (.var 2) (.comp [4, 5] (.tup [4, 5]) (.of (.var 1)) [] (.var 4))) (.bin .ne (.var 3) (.call 140 [(.var 1)]))) [(.ret (.bl false))] []) = .nx (ρ (some (.r h.length)) (some (.r hA.length)) none none) hB :=
    B.if0 (B.or0 (B.bin (o := .ne) (B.var (i := 2) rfl) (nmC _ _ _ _ _) (by simp only [dref, B0]) rfl (ne_gd gn.1 (by omega))) (B.bin (o := .ne) (B.var (i := 3) rfl) (wyC _ _ _ _ _) (by simp only [dref, B1]) rfl (ne_gd gw.1 (by omega)))) B.sn
  have c4 : exS M01.G (callF M01.G (d + 4)) (ρ (some (.r h.length)) (some (.r hA.length)) none none) hB (.ex (.app (.var 2) .non)) = .nx (ρ (some (.r h.length)) (some (.r hA.length)) none none) hC := B.ex (B.app (B.var (i := 2) rfl) ⟨_, B0⟩ B.non B0 (lim_small (by simp [nmT]; omega)))
  have c5 : exS M01.G (callF M01.G (d + 4)) (ρ (some (.r h.length)) (some (.r hA.length)) none none) hC (.ex (.app (.var 3) .non)) = .nx (ρ (some (.r h.length)) (some (.r hA.length)) none none) hD := B.ex (B.app (B.var (i := 3) rfl) ⟨_, C1⟩ B.non C1 (lim_small (by omega)))
  have c6 : ∃ hE, Pre h hE ∧ exS M01.G (callF M01.G (d + 4)) (ρ (some (.r h.length)) (some (.r hA.length)) none none) hD (.ife (.or (.bin .ne (.prop 0 138 (.var 0)) (.comp [4, 5] (.tup [4, 5]) (.of (.var 1)) [] (.var 4))) (.bin .ne (.prop 0 139 (.var 0)) (.call 140 [(.var 1)]))) [(.ret (.bl false))] []) = .nx (ρ (some (.r h.length)) (some (.r hA.length)) none none) hE :=
    ⟨_, (pD.push).push, B.if0 (B.or0 (B.bin (o := .ne) (B.prop (B.var (i := 0) rfl) isO_sig run_names) (nmC _ _ _ _ _) (by simp [dref]) rfl (ne_gd gn.1 (by omega))) (B.bin (o := .ne) (B.prop (B.var (i := 0) rfl) isO_sig (run_ways ok)) (wyC _ _ _ _ _) (by simp [dref]) rfl (ne_gd gw.1 (by omega)))) B.sn⟩
  obtain ⟨hE, pE, c6⟩ := c6
  have walk := B.loop (g := none) (f := fun y ρ hh => match setTg (.tup [4, 5]) (.t y) ρ with | some ρ1 => exSs M01.G (callF M01.G (d + 4)) ρ1 hh [(.ife (.or (.bin .ne (.call 135 [(.var 0), (.var 4)]) (.var 5)) (.own2 true 0 121 (.var 4) (.var 0))) [(.ret (.bl false))] [])] | none => .bad)
    (I := fun left ρ' hh => hh = hE ∧ (∃ x4 x5, ρ' = ρ (some (.r h.length)) (some (.r hA.length)) x4 x5) ∧ ∀ x ∈ left, ∃ p ∈ sg, x = pT p) (fun _ _ _ _ => rfl) (fun x left ρ' hh inv => by
      obtain ⟨rfl, ⟨x4, x5, rfl⟩, lf⟩ := inv
      obtain ⟨p, mp, rfl⟩ := lf x List.mem_cons_self
      have lk := look_of ok.nd (show (p.1, p.2) ∈ sg from mp)
      have inE := B.own2 (G := M01.G) (C := callF M01.G (d + 4)) (ρ := ρ (some (.r h.length)) (some (.r hA.length)) (some (.t (.str p.1))) (some (.t (.int p.2)))) (neg := true) (a := .var 4) (b := .var 0) (B.var (h := hh) rfl) (B.var rfl) isO_sig (runs_in hs01 (d := d + 3) (sg := sg) (v := .str p.1))
      simp only [inS, lk] at inE
      exact ⟨_, hh, B.sc (B.if0 (B.or0 (B.bin (o := .ne) (B.call (B.cons (B.var (i := 0) rfl) (B.cons (B.var (i := 4) rfl) B.nil)) (run_larity (d := d + 1) lk)) (B.var (i := 5) rfl) rfl rfl (by rw [ne_int']; simp)) inE) B.sn) B.sn, rfl, ⟨_, _, rfl⟩, fun y my => lf y (List.mem_cons_of_mem _ my)⟩)
    (its := sgT sg) (ρ := ρ (some (.r h.length)) (some (.r hA.length)) none none) (h := hE) ⟨rfl, ⟨_, _, rfl⟩, fun x mx => by obtain ⟨p, mp, rfl⟩ := List.mem_map.mp mx; exact ⟨p, mp, rfl⟩⟩
  obtain ⟨ρ', hh, e1, rfl, ⟨x4, x5, rfl⟩, _⟩ := walk
  have c7 : exS M01.G (callF M01.G (d + 4)) (ρ (some (.r h.length)) (some (.r hA.length)) x4 x5) hh (.ret (.and (.ownq false 0 137 (.var 0) (.fz (.make 0 104 [(.un .list (.var 1))]))) (.ownq true 0 137 (.var 0) (.var 1)))) = .rt (.t (.bl true)) hh := by
    have q1 := B.ownq (G := M01.G) (C := callF M01.G (d + 4)) (ρ := ρ (some (.r h.length)) (some (.r hA.length)) x4 x5) (h := hh) (neg := false) (a := .var 0) (b := .fz (.make 0 104 [(.un .list (.var 1))])) (B.var rfl) (make_ok hs01 (d := d + 2) (s := .t (.lst (sgT sg))) Arg.t ok (B.cons (B.un (o := .list) (v := .lst (sgT sg)) (z := .lst (sgT sg)) (B.var (i := 1) rfl) rfl rfl) B.nil)) isO_sig rfl (run_eq ok ok (d := d + 3))
    have q2 := B.ownq (G := M01.G) (C := callF M01.G (d + 4)) (ρ := ρ (some (.r h.length)) (some (.r hA.length)) x4 x5) (h := hh) (neg := true) (a := .var 0) (b := .var 1) (B.var rfl) (B.var rfl) isO_sig rfl (run_eqL (d := d + 3))
    simp only [decide_true] at q1
    exact B.ret (B.and1 q1 q2)
  have z := B.dret (G := M01.G) (f := 133) (d := d + 4) (fd := m__law_is_2) (h := h) (ss := [.t (sigT sg), .t (.lst (sgT sg))]) rfl rfl (B.sc c1 (B.sc c2 (B.sc c3 (B.sc c4 (B.sc c5 (B.sc c6 (B.sc (B.fr (p := (sgT sg, none)) (B.itOf (B.var (i := 1) rfl) rfl) e1) (B.sr c7))))))))
  rw [z, pE.eq]
end My

/-! k01: signs nearby; wrong lists. -/
namespace My
open PySem (Str PyData)
open My.M My.M01
def nearA (a : Int) : Int := if a = 0 then 1 else if a = 1 then 0 else if a = 2 then 3 else 2
def nearK : T → T
  | .tup [n, .int a] => .tup [n, .int (nearA a)]
  | t => t
def nearS (sg : Sg) : Sg := sg.map fun p => (p.1, nearA p.2)
theorem nearK_sg (sg : Sg) : (sgT sg).map nearK = sgT (nearS sg) := by simp only [sgT, nearS, List.map_map]; rfl
theorem near_fst (sg : Sg) : (nearS sg).map (·.1) = sg.map (·.1) := by simp only [nearS, List.map_map]; rfl
theorem near_ok {sg : Sg} (ok : SgOk sg) : SgOk (nearS sg) := ⟨fun e => ok.ne (List.map_eq_nil_iff.mp e), by simp only [nearS, List.length_map]; exact ok.len, fun p mp => by
  obtain ⟨q, mq, rfl⟩ := List.mem_map.mp mp
  obtain ⟨a, b, c, e⟩ := ok.all q mq
  exact ⟨a, b, by show 0 ≤ nearA q.2; unfold nearA; split <;> (try split) <;> (try split) <;> omega, by show nearA q.2 ≤ 3; unfold nearA; split <;> (try split) <;> (try split) <;> omega⟩, by rw [near_fst]; exact ok.nd⟩
theorem mix_ok {sg : Sg} (ok : SgOk sg) : SgOk ((nearS sg).take 1 ++ sg.drop 1) := by
  have on := near_ok ok
  have lm : (nearS sg).length = sg.length := by simp [nearS]
  have l1 : 1 ≤ sg.length := List.length_pos_iff.mpr ok.ne
  refine ⟨fun e => ?_, ?_, fun p mp => ?_, ?_⟩
  · have h1 : ((nearS sg).take 1 ++ sg.drop 1).length = sg.length := by rw [List.length_append, List.length_take, List.length_drop, lm]; omega
    rw [e] at h1
    simp only [List.length_nil] at h1
    omega
  · have := ok.len
    simp [lm]; omega
  · rcases List.mem_append.mp mp with m | m
    · exact on.all p (List.mem_of_mem_take m)
    · exact ok.all p (List.mem_of_mem_drop m)
  · have e : ((nearS sg).take 1 ++ sg.drop 1).map (·.1) = sg.map (·.1) := by
      rw [List.map_append, List.map_take, near_fst, ← List.map_take, ← List.map_append, List.take_append_drop]
    rw [e]; exact ok.nd
theorem rev_ok {sg : Sg} (ok : SgOk sg) : SgOk sg.reverse := ⟨fun e => ok.ne (List.reverse_eq_nil_iff.mp e), by simpa using ok.len, fun p mp => ok.all p (List.mem_reverse.mp mp), by rw [List.map_reverse]; exact (List.reverse_perm _).nodup_iff.mpr ok.nd⟩
theorem rev_sgT (sg : Sg) : (sgT sg).reverse = sgT sg.reverse := by simp [sgT]
def unB (sg : Sg) (t : T) : Bool := !(t.beq (.lst (sgT sg)))
theorem unB_sg (sg sg' : Sg) : unB sg (.lst (sgT sg')) = !decide (sg' = sg) := by
  unfold unB
  congr 1
  rw [Bool.eq_iff_iff]
  simp only [decide_eq_true_eq]
  constructor
  · intro h
    have := T.beq_eq _ _ h
    simp only [T.lst.injEq] at this
    exact pairs_inj this
  · intro h; rw [h]; exact T.beq_refl _
theorem run_near {sg : Sg} (ok : SgOk sg) {d : Nat} {h : Hm} : ∃ ns : List T, callF M01.G (d + 1) 141 [.t (.lst (sgT sg))] h = .ok (.t (.lst ns)) h ∧ ∀ t ∈ ns, ∃ sg', t = .lst (sgT sg') ∧ SgOk sg' ∧ sg ≠ sg' := by
  have l5 := ok.len
  have ls : (sgT sg).length = sg.length := by simp [sgT]
  have c1 := comp_map (G := M01.G) (C := callF M01.G d) (ρ := [some (.t (.lst (sgT sg))), none, none, none, none]) (h := h) (own := [2, 3]) (tg := .tup [2, 3]) (it := .of (.var 0)) (e := .tup [(.var 2), (.bin .idx (.lst [(.int 1), (.int 0), (.int 3), (.int 2)]) (.var 3))]) (k := nearK) (p := (sgT sg, none)) (B.itOf (B.var (i := 0) rfl) rfl) rfl fun x mx => by
    obtain ⟨p, mp, rfl⟩ := List.mem_map.mp mx
    obtain ⟨_, _, a0, a3⟩ := ok.all p mp
    refine ⟨_, rfl, B.tup (B.tcons (B.var (i := 2) rfl) (B.tcons (B.bin (o := .idx) (v := .lst [.int 1, .int 0, .int 3, .int 2]) (z := .int (nearA p.2)) (cE_ev rfl) (B.var (i := 3) rfl) rfl rfl ?_) B.tnil))⟩
    have : p.2 = 0 ∨ p.2 = 1 ∨ p.2 = 2 ∨ p.2 = 3 := by omega
    rcases this with e | e | e | e <;> rw [e] <;> rfl
  rw [nearK_sg] at c1
  let ρ1 : En := [some (.t (.lst (sgT sg))), some (.t (.lst (sgT (nearS sg)))), none, none, none]
  have ln : (sgT (nearS sg)).length = sg.length := by simp [sgT, nearS]
  have t1 : evE M01.G (callF M01.G d) ρ1 h (.slt (.var 1) (.int 1)) = .ok (.t (.lst ((sgT (nearS sg)).take 1))) h := by
    have v1 : evE M01.G (callF M01.G d) ρ1 h (.var 1) = .ok (.t (.lst (sgT (nearS sg)))) h := B.var rfl
    have := cutB_to (sgT (nearS sg)) 1
    simp only [evE, v1, R.bind_ok, asI, cutE, dref, liftO_some]
    rw [← this]; rfl
  have t2 : evE M01.G (callF M01.G d) ρ1 h (.slf (.var 0) (.int 1)) = .ok (.t (.lst ((sgT sg).drop 1))) h := by
    have v1 : evE M01.G (callF M01.G d) ρ1 h (.var 0) = .ok (.t (.lst (sgT sg))) h := B.var rfl
    have := cutB_from (sgT sg) 1
    simp only [evE, v1, R.bind_ok, asI, cutE, dref, liftO_some]
    rw [← this]; rfl
  have add3 : sem2 .add (.lst ((sgT (nearS sg)).take 1)) (.lst ((sgT sg).drop 1)) = some (.lst ((sgT (nearS sg)).take 1 ++ (sgT sg).drop 1)) := by
    simp only [sem2]
    rw [if_pos (lim_small (by simp; omega))]
  have em : (sgT (nearS sg)).take 1 ++ (sgT sg).drop 1 = sgT ((nearS sg).take 1 ++ sg.drop 1) := by simp only [sgT, List.map_append, List.map_take, List.map_drop]
  rw [em] at add3
  let three : List T := [.lst (sgT (nearS sg)), .lst (sgT ((nearS sg).take 1 ++ sg.drop 1)), .lst (sgT sg.reverse)]
  have all3 : ∀ t ∈ three, ∃ sg', t = .lst (sgT sg') ∧ SgOk sg' := fun t mt => by
    simp only [three, List.mem_cons, List.not_mem_nil, or_false] at mt
    rcases mt with rfl | rfl | rfl
    · exact ⟨_, rfl, near_ok ok⟩
    · exact ⟨_, rfl, mix_ok ok⟩
    · exact ⟨_, rfl, rev_ok ok⟩
  have it : evE M01.G (callF M01.G d) ρ1 h (.tup [(.var 1), (.bin .add (.slt (.var 1) (.int 1)) (.slf (.var 0) (.int 1))), (.un .rev (.var 0))]) = .ok (.t (.tup three)) h :=
    B.tup (B.tcons (B.var (i := 1) rfl) (B.tcons (B.bin (o := .add) t1 t2 rfl rfl add3) (B.tcons (B.un (o := .rev) (v := .lst (sgT sg)) (z := .lst (sgT sg.reverse)) (B.var (i := 0) rfl) rfl (by simp only [sem1, rev_sgT])) B.tnil)))
  have c2 := comp_filter (G := M01.G) (C := callF M01.G d) (ρ := ρ1) (h := h) (own := [4]) (tg := .name 4) (cs := [(.bin .ne (.var 4) (.var 0))]) (e := .var 4) (c := unB sg) (p := (three, none)) (B.itOf it rfl) rfl fun t mt => by
    obtain ⟨sg', rfl, ok'⟩ := all3 t mt
    refine ⟨_, rfl, cs1 (B.bin (o := .ne) (B.var (i := 4) rfl) (B.var (i := 0) rfl) rfl rfl ?_), B.var (i := 4) rfl⟩
    rw [unB_sg]
    exact ne_sg (pairs_shp ok') (pairs_shp ok)
  refine ⟨three.filter (unB sg), B.dret0 (G := M01.G) (f := 141) (d := d) (fd := m__law_near_signs) rfl rfl (B.sc (B.asg (i := 1) c1) (B.sr (B.ret c2))), fun t mt => ?_⟩
  obtain ⟨m1, m2⟩ := List.mem_filter.mp mt
  obtain ⟨sg', rfl, ok'⟩ := all3 t m1
  rw [unB_sg] at m2
  exact ⟨sg', rfl, ok', fun e => by rw [e] at m2; simp at m2⟩
def sf1 : Sg := [("f", 1)]
def sf0 : Sg := [("f", 0)]
theorem sf1_ok : SgOk sf1 := sgChk_ok (by decide +kernel)
theorem sf0_ok : SgOk sf0 := sgChk_ok (by decide +kernel)
theorem run_near_right {sg : Sg} (ok : SgOk sg) {d n : Nat} {h : Hm} (f : isFeed h n) : ∃ h', callF M01.G (d + 7) 136 [.r n, .t (sigT sg), .t (.lst (sgT sg))] h = .ok (.t (.bl true)) h' ∧ Adv n h h' := by
  let ρ0 : En := [some (.r n), some (.t (sigT sg)), some (.t (.lst (sgT sg))), none, none, none, none]
  obtain ⟨ns, en, nall⟩ := run_near ok (d := d + 5) (h := h)
  have c1 := comp_filter (G := M01.G) (C := callF M01.G (d + 6)) (ρ := ρ0) (h := h) (own := [5]) (tg := .name 5) (it := .of (.call 141 [(.var 2)])) (cs := [(.ownq false 0 137 (.var 1) (.fz (.make 0 104 [(.un .list (.var 5))])))]) (e := .var 5) (c := fun _ => false) (p := (ns, none)) (B.itOf (B.call (B.cons (B.var (i := 2) rfl) B.nil) en) rfl) rfl fun t mt => by
    obtain ⟨sg', rfl, ok', ne⟩ := nall t mt
    have q := B.ownq (G := M01.G) (C := callF M01.G (d + 6)) (ρ := [some (.r n), some (.t (sigT sg)), some (.t (.lst (sgT sg))), none, none, some (.t (.lst (sgT sg'))), none]) (h := h) (neg := false) (a := .var 1) (b := .fz (.make 0 104 [(.un .list (.var 5))])) (B.var rfl) (make_ok hs01 (d := d + 4) (s := .t (.lst (sgT sg'))) Arg.t ok' (B.cons (B.un (o := .list) (v := .lst (sgT sg')) (z := .lst (sgT sg')) (B.var (i := 5) rfl) rfl rfl) B.nil)) isO_sig rfl (run_eq ok ok' (d := d + 5))
    rw [decide_eq_false ne] at q
    exact ⟨_, rfl, cs1 q, B.var (i := 5) rfl⟩
  rw [List.filter_eq_nil_iff.mpr fun _ _ => Bool.false_ne_true] at c1
  let ρ1 : En := [some (.r n), some (.t (sigT sg)), some (.t (.lst (sgT sg))), some (.t (.str lowZ)), none, none, none]
  obtain ⟨w, h1, ww, sw, a1, e1⟩ := run_word_drawn hd01.toHasFeed (d := d + 4) (n := n) (h := h) (ρ := ρ1) (z := lowZ) (ez := .var 3) low_ones (i := 0) (j := 6) f rfl (by decide) fun y h => B.var rfl
  let sw1 : Sg := [(w, 3)]
  have okw : SgOk sw1 := ⟨by simp [sw1], by simp [sw1], fun p mp => by simp [sw1] at mp; subst mp; exact ⟨ww, sw, (by decide : (0 : Int) ≤ 3), (by decide : (3 : Int) ≤ 3)⟩, by simp [sw1]⟩
  let ρ2 : En := [some (.r n), some (.t (sigT sg)), some (.t (.lst (sgT sg))), some (.t (.str lowZ)), some (.t (.str w)), none, none]
  have q1 := B.ownq (G := M01.G) (C := callF M01.G (d + 6)) (ρ := ρ2) (h := h1) (neg := true) (a := .fz (.make 0 104 [(.lst [(.tup [(.str "f"), (.int 1)])])])) (b := .fz (.make 0 104 [(.lst [(.tup [(.str "f"), (.int 0)])])])) (make_ok hs01 (d := d + 4) (s := .t (.lst (sgT sf1))) Arg.t sf1_ok (B.cons (cE_ev rfl) B.nil)) (make_ok hs01 (d := d + 4) (s := .t (.lst (sgT sf0))) Arg.t sf0_ok (B.cons (cE_ev rfl) B.nil)) isO_sig rfl (run_eq sf1_ok sf0_ok (d := d + 5))
  rw [show decide (sf1 = sf0) = false by decide +kernel] at q1
  have lw : evE M01.G (callF M01.G (d + 6)) ρ2 h1 (.lst [(.tup [(.var 4), (.int 3)])]) = .ok (.t (.lst (sgT sw1))) h1 := B.lst (B.tcons (B.tup (B.tcons (B.var (i := 4) rfl) (B.tcons B.int B.tnil))) B.tnil)
  have q2 : evE M01.G (callF M01.G (d + 6)) ρ2 h1 (.call 133 [(.call 132 [(.lst [(.tup [(.var 4), (.int 3)])])]), (.lst [(.tup [(.var 4), (.int 3)])])]) = .ok (.t (.bl true)) h1 := B.call (B.cons (B.call (B.cons lw B.nil) (made_ok (d := d + 3) Arg.t okw)) (B.cons lw B.nil)) (run_lis okw (d := d + 1))
  have z := B.dret (G := M01.G) (f := 136) (d := d + 6) (fd := m__law_near_right) (h := h) (ss := [.r n, .t (sigT sg), .t (.lst (sgT sg))]) rfl rfl (B.sc (B.if0 (B.bin (o := .ne) c1 (B.lst B.tnil) rfl rfl rfl) B.sn) (B.sc (B.asg (i := 3) B.str) (B.sc (B.asg (i := 4) e1) (B.sr (B.ret (B.and1 q1 q2))))))
  refine ⟨h1, ?_, a1⟩
  rw [z, List.take_of_length_le (by rw [a1.len]; exact Nat.le_refl _)]
/-! ### odd pairs -/
def oddP : List T := match callF M01.G 5 134 [.t (.str "q")] [] with | .ok (.t (.lst xs)) _ => xs | _ => []
theorem odd_body {C : Orc} {h : Hm} : exSs M01.G C [some (.t (.str "q")), none] h m__law_odd_pairs.body = .rt (.t (.lst oddP)) h := by kernel_rfl
theorem run_odd {d : Nat} {h : Hm} : callF M01.G (d + 1) 134 [.t (.str "q")] h = .ok (.t (.lst oddP)) h := B.dret0 (G := M01.G) (f := 134) (d := d) (fd := m__law_odd_pairs) rfl rfl odd_body
def wordA : T → Bool
  | .str x => wrd lowZ x
  | _ => false
def withA : T → Bool
  | .int a => decide (0 ≤ a) && decide (a ≤ 3)
  | _ => false
def limA : T → Bool
  | .str x => decide (x.length ≤ 1000)
  | _ => true
theorem run_wordA {d : Nat} {h : Hm} {v : T} (hl : limA v = true) : callF M01.G (d + 1) 113 [.t v, .t (.str lowZ)] h = .ok (.t (.bl (wordA v))) h := by
  have no : isTy M01.G.sub v .tstr = false → wordA v = false → callF M01.G (d + 1) 113 [.t v, .t (.str lowZ)] h = .ok (.t (.bl (wordA v))) h := fun e e0 => by
    rw [e0]
    exact B.dret0 (G := M01.G) (f := 113) (d := d) (fd := m_is_word) rfl rfl (B.sr (B.if1 (B.or1 (B.not (k := false) (B.un (o := .isi [.tstr]) (v := v) (B.var (i := 0) rfl) rfl (by simp [sem1, e])))) (B.sr (B.ret B.bl))))
  cases v with
  | str x => exact run_word hs01 (lim_small (by simp only [limA, decide_eq_true_eq] at hl; omega))
  | non => exact no rfl rfl
  | bl _ => exact no rfl rfl
  | int _ => exact no rfl rfl
  | tup _ => exact no rfl rfl
  | lst _ => exact no rfl rfl
  | dct _ _ => exact no rfl rfl
  | obj _ _ _ => exact no rfl rfl
theorem run_withA {d : Nat} {h : Hm} {v : T} : callF M01.G (d + 1) 114 [.t v, .t (.int 0), .t (.int 3)] h = .ok (.t (.bl (withA v))) h := by
  have no : isTy M01.G.sub v .tint = false → withA v = false → callF M01.G (d + 1) 114 [.t v, .t (.int 0), .t (.int 3)] h = .ok (.t (.bl (withA v))) h := fun e e0 => by
    rw [e0]
    exact B.dret0 (G := M01.G) (f := 114) (d := d) (fd := m_within) rfl rfl (B.sr (B.ret (B.and0 (B.un (o := .isi [.tint]) (v := v) (B.var (i := 0) rfl) rfl (by simp [sem1, e])))))
  cases v with
  | int a =>
    refine B.dret0 (G := M01.G) (f := 114) (d := d) (fd := m_within) rfl rfl (B.sr (B.ret (B.and1 (B.un (o := .isi [.tint]) (B.var (i := 0) rfl) rfl rfl) (B.and1 (B.not (k := false) (B.un (o := .isi [.tbool]) (B.var (i := 0) rfl) rfl rfl)) ?_))))
    exact B.ch (G := M01.G) (C := callF M01.G d) (ρ := [some (.t (.int a)), some (.t (.int 0)), some (.t (.int 3))]) (h := h) (o := .le) (p := .le) (k := decide (0 ≤ a)) (l := decide (a ≤ 3)) (a := .var 1) (b := .var 0) (c := .var 2) (B.var rfl) (B.var rfl) (B.var rfl) rfl rfl rfl (by simp [sem2, arith, cmpI]) (by simp [sem2, arith, cmpI])
  | bl b => exact B.dret0 (G := M01.G) (f := 114) (d := d) (fd := m_within) rfl rfl (B.sr (B.ret (B.and1 (B.un (o := .isi [.tint]) (B.var (i := 0) rfl) rfl rfl) (B.and0 (B.not (k := true) (B.un (o := .isi [.tbool]) (B.var (i := 0) rfl) rfl rfl))))))
  | str x => exact no rfl rfl
  | non => exact no rfl rfl
  | tup _ => exact no rfl rfl
  | lst _ => exact no rfl rfl
  | dct _ _ => exact no rfl rfl
  | obj _ _ _ => exact no rfl rfl
def badOne : T → Bool
  | .tup [a, b] => limA a && (!wordA a || !withA b)
  | .tup _ => true
  | .obj _ _ _ => false
  | _ => true
theorem odd_badB : oddP.all badOne = true := by decide +kernel
theorem bad_step {one : T} (hb : badOne one = true) {d k : Nat} {s0 s1 : Option S} {r : Nat} {hh : Hm} : exSs M01.G (callF M01.G (d + 1)) [s0, s1, some (.r r), some (.t (.int (k : Nat))), some (.t one)] hh sgBody = .ex 104 [.int (k : Nat)] [s0, s1, some (.r r), some (.t (.int (k : Nat))), some (.t one)] hh := by
  have rz : exSs M01.G (callF M01.G (d + 1)) [s0, s1, some (.r r), some (.t (.int (k : Nat))), some (.t one)] hh [(.rais 104 [(.var 3)])] = .ex 104 [.int (k : Nat)] [s0, s1, some (.r r), some (.t (.int (k : Nat))), some (.t one)] hh := B.sx (B.rais (B.tcons (B.var (i := 3) rfl) B.tnil))
  have no : isTy M01.G.sub one .ttuple = false → exSs M01.G (callF M01.G (d + 1)) [s0, s1, some (.r r), some (.t (.int (k : Nat))), some (.t one)] hh sgBody = .ex 104 [.int (k : Nat)] [s0, s1, some (.r r), some (.t (.int (k : Nat))), some (.t one)] hh := fun e =>
    B.sx (B.if1 (B.or1 (B.not (k := false) (B.un (o := .isi [.ttuple]) (v := one) (B.var (i := 4) rfl) rfl (by simp [sem1, e])))) rz)
  cases one with
  | non => exact no rfl
  | bl _ => exact no rfl
  | int _ => exact no rfl
  | str _ => exact no rfl
  | lst _ => exact no rfl
  | dct _ _ => exact no rfl
  | obj _ _ _ => cases hb
  | tup xs =>
    have isT : evE M01.G (callF M01.G (d + 1)) [s0, s1, some (.r r), some (.t (.int (k : Nat))), some (.t (.tup xs))] hh (.not (.un (.isi [.ttuple]) (.var 4))) = .ok (.t (.bl false)) hh := B.not (k := true) (B.un (o := .isi [.ttuple]) (B.var (i := 4) rfl) rfl rfl)
    have lenE : evE M01.G (callF M01.G (d + 1)) [s0, s1, some (.r r), some (.t (.int (k : Nat))), some (.t (.tup xs))] hh (.bin .ne (.un .len (.var 4)) (.int 2)) = .ok (.t (.bl (!((xs.length : Int) == 2)))) hh := B.bin (o := .ne) (B.un (o := .len) (z := .int xs.length) (B.var (i := 4) rfl) rfl rfl) B.int rfl rfl (by rw [ne_int'])
    have ne2 : xs.length ≠ 2 → exSs M01.G (callF M01.G (d + 1)) [s0, s1, some (.r r), some (.t (.int (k : Nat))), some (.t (.tup xs))] hh sgBody = .ex 104 [.int (k : Nat)] [s0, s1, some (.r r), some (.t (.int (k : Nat))), some (.t (.tup xs))] hh := fun hn => by
      rw [show (!((xs.length : Int) == 2)) = true by simp; omega] at lenE
      exact B.sx (B.if1 (B.or0 isT (B.or1 lenE)) rz)
    match xs, hb, isT, lenE, ne2, rz with
    | [], _, _, _, ne2, _ => exact ne2 (by simp)
    | [_], _, _, _, ne2, _ => exact ne2 (by simp)
    | _ :: _ :: _ :: _, _, _, _, ne2, _ => exact ne2 (by simp)
    | [a, b], hb, isT, lenE, _, rz =>
      simp only [badOne, Bool.and_eq_true, Bool.or_eq_true, Bool.not_eq_true'] at hb
      have i0 : sem2 .idx (.tup [a, b]) (.int 0) = some a := by simp [sem2, L2.atI, L2.ixN]
      have i1 : sem2 .idx (.tup [a, b]) (.int 1) = some b := by simp [sem2, L2.atI, L2.ixN]
      have w : evE M01.G (callF M01.G (d + 1)) [s0, s1, some (.r r), some (.t (.int (k : Nat))), some (.t (.tup [a, b]))] hh (.not (.call 113 [(.bin .idx (.var 4) (.int 0)), (.con 3)])) = .ok (.t (.bl (!wordA a))) hh := B.not (B.call (B.cons (B.bin (z := a) (B.var (i := 4) rfl) B.int rfl rfl i0) (B.cons (B.con hs01.c3) B.nil)) (run_wordA hb.1))
      have len0 : evE M01.G (callF M01.G (d + 1)) [s0, s1, some (.r r), some (.t (.int (k : Nat))), some (.t (.tup [a, b]))] hh (.bin .ne (.un .len (.var 4)) (.int 2)) = .ok (.t (.bl false)) hh := lenE
      cases hw : wordA a with
      | false =>
        rw [hw] at w
        exact B.sx (B.if1 (B.or0 isT (B.or0 len0 w)) rz)
      | true =>
        rw [hw] at w
        have hv : withA b = false := hb.2.elim (fun z => by rw [hw] at z; cases z) id
        have v : evE M01.G (callF M01.G (d + 1)) [s0, s1, some (.r r), some (.t (.int (k : Nat))), some (.t (.tup [a, b]))] hh (.not (.call 114 [(.bin .idx (.var 4) (.int 1)), (.int 0), (.con 1)])) = .ok (.t (.bl (!withA b))) hh := B.not (B.call (B.cons (B.bin (z := b) (B.var (i := 4) rfl) B.int rfl rfl i1) (B.cons B.int (B.cons (B.con hs01.c1) B.nil))) run_withA)
        rw [hv] at v
        exact B.sc (B.if0 (B.or0 isT (B.or0 len0 w)) B.sn) (B.sx (B.if1 (B.or1 v) rz))
theorem odd_gd : oddP.all (fun t => gd t && decide (dpt t ≤ 3) && decide (szt t ≤ 12)) = true := by decide +kernel
theorem odd_len : oddP.length ≤ 100 := by decide +kernel
end My

/-! k01: the law says True. -/
namespace My
open PySem (Str PyData)
open My.M My.M01
namespace B
section
variable {G : Ctx} {C : Orc} {ρ : En} {h h1 : Hm} {e u : E} {s : S} {xs : List T} {k m : Nat}
theorem sltL (e1 : evE G C ρ h e = .ok s h1) (e2 : evE G C ρ h1 u = .ok (.t (.int (k : Nat))) h1) (d : dref h1 s = some (.lst xs)) : evE G C ρ h (.slt e u) = .ok (.t (.lst (xs.take k))) h1 := by
  rw [← cutB_to]; simp [evE, e1, e2, asI, cutE, d]
theorem slfL (e1 : evE G C ρ h e = .ok s h1) (e2 : evE G C ρ h1 u = .ok (.t (.int (k : Nat))) h1) (d : dref h1 s = some (.lst xs)) : evE G C ρ h (.slf e u) = .ok (.t (.lst (xs.drop k))) h1 := by
  rw [← cutB_from]; simp [evE, e1, e2, asI, cutE, d]
theorem slfN {i : Int} (e1 : evE G C ρ h e = .ok s h1) (e2 : evE G C ρ h1 u = .ok (.t (.int i)) h1) (d : dref h1 s = some (.lst xs)) : evE G C ρ h (.slf e u) = .ok (.t (.lst (cutL xs (some i) none))) h1 := by simp [evE, e1, e2, asI, cutE, d]
theorem clr (e1 : evE G C ρ h e = .ok (.r m) h1) (d : h1[m]? = some (.lst xs)) : evE G C ρ h (.clr e) = .ok (.t .non) (h1.set m (.lst [])) := by simp [evE, e1, d]
end
end B
theorem cutA_mem {xs : List T} {lo hi : Option Int} {t : T} (m : t ∈ cutL xs lo hi) : t ∈ xs := by unfold cutL at m; exact List.mem_of_mem_drop (List.mem_of_mem_take m)
theorem cutA_len (xs : List T) (lo hi : Option Int) : (cutL xs lo hi).length ≤ xs.length := by unfold cutL; simp; omega
theorem addL {xs ys : List T} (h : xs.length + ys.length ≤ 100000) : sem2 .add (.lst xs) (.lst ys) = some (.lst (xs ++ ys)) := by simp only [sem2, lim_small h, if_true]
theorem ne_bl (b : Bool) : sem2 .ne (.bl b) (.bl b) = some (.bl false) := by cases b <;> rfl
/-- a wrong element, behind dn -/
structure Wrong (dn : Sg) (one : T) : Prop where
  bad : ∀ (d : Nat) (s0 s1 : Option S) (h0 : Hm), exSs M01.G (callF M01.G (d + 1)) [s0, s1, some (.r h0.length), some (.t (.int (dn.length : Nat))), some (.t one)] (h0 ++ [.dct (nmT dn) (arT dn)]) sgBody = .ex 104 [.int (dn.length : Nat)] [s0, s1, some (.r h0.length), some (.t (.int (dn.length : Nat))), some (.t one)] (h0 ++ [.dct (nmT dn) (arT dn)])
  gd : Gd 3 12 one
theorem wrong_odd {dn : Sg} {one : T} (m : one ∈ oddP) : Wrong dn one := by
  have g := List.all_eq_true.mp odd_gd one m
  simp only [Bool.and_eq_true, decide_eq_true_eq] at g
  exact ⟨fun d s0 s1 h0 => bad_step (List.all_eq_true.mp odd_badB one m), g.1.1, g.1.2, g.2⟩
theorem wrong_twice {dn : Sg} {p : Str × Int} {a : Int} (ok : ∀ p ∈ dn, wrd lowZ p.1 = true ∧ sOk p.1 = true ∧ 0 ≤ p.2 ∧ p.2 ≤ 3) (nd : (dn.map (·.1)).Nodup) (m : p ∈ dn) (a0 : 0 ≤ a) (a3 : a ≤ 3) : Wrong dn (pT (p.1, a)) := by
  obtain ⟨w1, w2, _, _⟩ := ok p m
  exact ⟨fun d s0 s1 h0 => sg_twice hs01 w1 w2 a0 a3 (look_of nd (show (p.1, p.2) ∈ dn from m)), (pT_gd (p := (p.1, a)) w2 a0 a3).le (n' := 3) (m' := 12) (by decide) (by decide)⟩
def againA (a : Int) : Int := if a = 0 then 1 else 0
def againK : T → T
  | .tup [n, .int a] => .tup [n, .int (againA a)]
  | t => t
def againS (sg : Sg) : Sg := sg.map fun p => (p.1, againA p.2)
theorem againK_sg (sg : Sg) : (sgT sg).map againK = sgT (againS sg) := by simp only [sgT, againS, List.map_map]; rfl
def turn01 : List St := [(.asg (.name 9) (.bin .add (.bin .add (.slt (.var 3) (.var 6)) (.lst [(.var 8)])) (.slf (.var 3) (.var 6)))),
      (.ife (.bin .le (.un .len (.var 9)) (.int 4)) [(.asg (.name 9) (.bin .add (.var 9) (.lst [.non])))] []),
      (.asg (.name 10) (.un .repr (.var 9))),
      (.ife (.or (.bin .ne (.call 132 [(.var 9)]) (.tup [(.str "sign"), (.var 6)])) (.bin .ne (.un .repr (.var 9)) (.var 10))) [(.ret (.bl false))] [])]
def list01 : List St := [(.ife (.bin .ne (.call 132 [(.var 11)]) (.tup [(.str "list"), (.int 0)])) [(.ret (.bl false))] [])]
def name01 : List St := [(.ife (.or (.bin .ne (.call 135 [(.var 5), (.var 11)]) (.tup [(.str "none"), (.un .repr (.var 11))])) (.own2 false 0 121 (.var 11) (.var 5))) [(.ret (.bl false))] [])]
def headA : List St := [(.asg (.name 2) (.call 100 [(.var 0), (.var 1)])),
      (.asg (.name 3) (.un .list (.call 126 [(.var 2)]))),
      (.asg (.name 4) (.nw .list (.var 3))),
      (.asg (.name 5) (.call 132 [(.var 4)])),
      (.ife (.bin .ne (.var 4) (.var 3)) [(.ret (.bl false))] []),
      (.ex (.clr (.var 4))),
      (.ife (.not (.call 133 [(.var 5), (.var 3)])) [(.ret (.bl false))] []),
      (.asg (.name 6) (.call 108 [(.var 2), (.bin .add (.un .len (.var 3)) (.int 1))]))]
def ones01 : E := (.bin .add (.bin .add (.bin .add (.call 134 [(.str "q")]) (.slt (.slt (.var 3) (.var 6)) (.int 1))) (.slt (.var 7) (.int 1))) (.slf (.var 7) (.un .neg (.int 1))))
def s7 : St := (.asg (.name 7) (.comp [13, 14] (.tup [13, 14]) (.of (.slt (.var 3) (.var 6))) [] (.tup [(.var 13), (.un .int (.bin .eq (.var 14) (.int 0)))])))
def s11 : St := (.ife (.bin .ne (.comp [15] (.name 15) (.of (.tup [(.lst []), (.bin .mul (.lst [(.tup [(.str "q"), (.int 0)])]) (.int 6)), (.bin .mul (.lst [.non]) (.int 6))])) [] (.call 132 [(.var 15)])) (.bin .mul (.lst [(.tup [(.str "count"), (.int 0)])]) (.int 3))) [(.ret (.bl false))] [])
def names01 : E := (.lst [(.str "q"), (.str ""), (.str "F"), .non, (.int 0), (.tup [(.str "f")]), (.lst [(.str "f")]), (.bl true)])
def tail01 : List St := [(.ife (.not (.call 136 [(.var 2), (.var 5), (.var 3)])) [(.ret (.bl false))] []),
      (.asg (.name 12) (.un .list (.call 126 [(.var 2)]))),
      (.ife (.or (.bin .ne (.ownq false 0 137 (.var 5) (.fz (.make 0 104 [(.var 12)]))) (.bin .eq (.var 3) (.var 12))) (.bin .ne (.ownq false 0 137 (.var 5) (.fz (.make 0 104 [(.un .rev (.var 3))]))) (.bin .eq (.var 3) (.un .rev (.var 3))))) [(.ret (.bl false))] [])]
def body01 : List St := headA ++ ([s7, (.for (.name 8) (.of ones01) turn01), s11, (.for (.name 11) (.of (.lst [.non, (.un .tuple (.var 3)), (.str "signs"), (.int 0), (.tup [])])) list01), (.for (.name 11) (.of names01) name01)] ++ tail01)
theorem law01_body : m_law01.body = [(.for (.name 1) (.rng1 (.bin .max (.int 1) (.bin .min (.int 3) (.un .len (.var 0))))) body01), (.ret (.bl true))] := rfl
theorem exSs_app {G : Ctx} {C : Orc} : ∀ {xs ys : List St} {ρ ρ1 : En} {h h1 : Hm} {o : Out}, exSs G C ρ h xs = .nx ρ1 h1 → exSs G C ρ1 h1 ys = o → exSs G C ρ h (xs ++ ys) = o
  | [], ys, ρ, ρ1, h, h1, o, e, e2 => by simp only [exSs] at e; cases e; exact e2
  | x :: xs, ys, ρ, ρ1, h, h1, o, e, e2 => by
    simp only [List.cons_append, exSs] at e ⊢
    cases q : exS G C ρ h x with
    | nx ρ2 h2 => rw [q] at e; exact exSs_app e e2
    | rt _ _ => rw [q] at e; cases e
    | bk _ _ => rw [q] at e; cases e
    | ct _ _ => rw [q] at e; cases e
    | ex _ _ _ _ => rw [q] at e; cases e
    | bad => rw [q] at e; cases e
section
variable {a b x4 x7 x8 x9 x10 x11 x12 x13 x14 x15 : Option S} {n at_ : Nat} {sg : Sg} {h : Hm}
theorem run_turn01 (ok : SgOk sg) (l4 : sg.length ≤ 4) (ha : at_ ≤ sg.length) {one : T} (w : Wrong (sg.take at_) one) : ∃ y9 y10, exSs M01.G (callF M01.G 19) [a, b, some (.r n), some (.t (.lst (sgT sg))), x4, some (.t (sigT sg)), some (.t (.int (at_ : Nat))), x7, some (.t one), x9, x10, x11, x12, x13, x14, x15] h turn01 =
    .nx [a, b, some (.r n), some (.t (.lst (sgT sg))), x4, some (.t (sigT sg)), some (.t (.int (at_ : Nat))), x7, some (.t one), y9, y10, x11, x12, x13, x14, x15] h := by
  let ρ (y9 y10 : Option S) : En := [a, b, some (.r n), some (.t (.lst (sgT sg))), x4, some (.t (sigT sg)), some (.t (.int (at_ : Nat))), x7, some (.t one), y9, y10, x11, x12, x13, x14, x15]
  have ls : (sgT sg).length = sg.length := by simp [sgT]
  have ldn : (sg.take at_).length = at_ := by rw [List.length_take]; omega
  have tk : (sgT sg).take at_ = sgT (sg.take at_) := by simp only [sgT, List.map_take]
  have dk : (sgT sg).drop at_ = sgT (sg.drop at_) := by simp only [sgT, List.map_drop]
  have ltk : (sgT (sg.take at_)).length = at_ := by simp only [sgT, List.length_map]; exact ldn
  have ldk : (sgT (sg.drop at_)).length = sg.length - at_ := by simp [sgT]
  have e1 : evE M01.G (callF M01.G 19) (ρ x9 x10) h (.bin .add (.bin .add (.slt (.var 3) (.var 6)) (.lst [(.var 8)])) (.slf (.var 3) (.var 6))) = .ok (.t (.lst (sgT (sg.take at_) ++ one :: sgT (sg.drop at_)))) h := by
    have q1 := B.sltL (G := M01.G) (C := callF M01.G 19) (ρ := ρ x9 x10) (h := h) (e := .var 3) (u := .var 6) (s := .t (.lst (sgT sg))) (k := at_) (B.var rfl) (B.var rfl) rfl
    have q2 := B.slfL (G := M01.G) (C := callF M01.G 19) (ρ := ρ x9 x10) (h := h) (e := .var 3) (u := .var 6) (s := .t (.lst (sgT sg))) (k := at_) (B.var rfl) (B.var rfl) rfl
    rw [tk] at q1
    rw [dk] at q2
    have ea : sgT (sg.take at_) ++ one :: sgT (sg.drop at_) = (sgT (sg.take at_) ++ [one]) ++ sgT (sg.drop at_) := by simp
    rw [ea]
    exact B.bin (o := .add) (B.bin (o := .add) (z := .lst (sgT (sg.take at_) ++ [one])) q1 (B.lst (B.tcons (B.var (i := 8) rfl) B.tnil)) rfl rfl (addL (by simp [ltk]; omega))) q2 rfl rfl (addL (by simp [ltk, ldk]; omega))
  have second : ∃ rest : List T, exS M01.G (callF M01.G 19) (ρ (some (.t (.lst (sgT (sg.take at_) ++ one :: sgT (sg.drop at_))))) x10) h (.ife (.bin .le (.un .len (.var 9)) (.int 4)) [(.asg (.name 9) (.bin .add (.var 9) (.lst [.non])))] []) = .nx (ρ (some (.t (.lst (sgT (sg.take at_) ++ one :: rest)))) x10) h ∧ (sg.take at_).length + 1 + rest.length ≤ 5 ∧ ∀ t ∈ rest, Gd 3 12 t := by
    have gs : ∀ t ∈ sgT (sg.drop at_), Gd 3 12 t := fun t mt => (sgT_all (sg := sg.drop at_) (fun p mp => ok.g p (List.mem_of_mem_drop mp)) t mt).le (by decide) (by decide)
    have len : (sgT (sg.take at_) ++ one :: sgT (sg.drop at_)).length = sg.length + 1 := by rw [List.length_append, List.length_cons, ltk, ldk]; omega
    have le : evE M01.G (callF M01.G 19) (ρ (some (.t (.lst (sgT (sg.take at_) ++ one :: sgT (sg.drop at_))))) x10) h (.bin .le (.un .len (.var 9)) (.int 4)) = .ok (.t (.bl (decide (((sg.length + 1 : Nat) : Int) ≤ 4)))) h := B.bin (o := .le) (v := .int (sg.length + 1 : Nat)) (B.un (o := .len) (z := .int (sg.length + 1 : Nat)) (B.var (i := 9) rfl) rfl (by simp only [sem1, len])) B.int rfl rfl rfl
    by_cases hl : sg.length + 1 ≤ 4
    · rw [decide_eq_true (by omega)] at le
      refine ⟨sgT (sg.drop at_) ++ [.non], ?_, by rw [List.length_append, ldn, ldk, List.length_singleton]; omega, fun t mt => (List.mem_append.mp mt).elim (gs t) fun q => by simp at q; subst q; exact ⟨rfl, by decide, by decide⟩⟩
      have q : sgT (sg.take at_) ++ one :: (sgT (sg.drop at_) ++ [.non]) = (sgT (sg.take at_) ++ one :: sgT (sg.drop at_)) ++ [.non] := by simp
      rw [q]
      exact B.if1 le (B.sc (B.asg (i := 9) (B.bin (o := .add) (B.var (i := 9) rfl) (B.lst (B.tcons B.non B.tnil)) rfl rfl (addL (by rw [len]; simp; omega)))) B.sn)
    · rw [decide_eq_false (by omega)] at le
      exact ⟨sgT (sg.drop at_), B.if0 le B.sn, by rw [ldn, ldk]; omega, gs⟩
  obtain ⟨rest, e2, lr, gr⟩ := second
  have gw : ∀ t ∈ sgT (sg.take at_) ++ one :: rest, Gd 3 12 t := fun t mt => by
    rcases List.mem_append.mp mt with m | m
    · exact (sgT_all (sg := sg.take at_) (fun p mp => ok.g p (List.mem_of_mem_take mp)) t m).le (by decide) (by decide)
    · rcases List.mem_cons.mp m with m | m
      · exact m ▸ w.gd
      · exact gr t m
  obtain ⟨g1, g2, g3⟩ := lstG gw
  have lw : (sgT (sg.take at_) ++ one :: rest).length ≤ 5 := by rw [List.length_append, List.length_cons, ltk]; omega
  obtain ⟨y, ry⟩ := repr_gd (sub := M01.G.sub) g1 (by omega) (by omega)
  have okd : ∀ p ∈ sg.take at_, wrd lowZ p.1 = true ∧ sOk p.1 = true ∧ 0 ≤ p.2 ∧ p.2 ≤ 3 := fun p mp => ok.all p (List.mem_of_mem_take mp)
  have ndd : ((sg.take at_).map (·.1)).Nodup := by rw [List.map_take]; exact List.Nodup.sublist (List.take_sublist _ _) ok.nd
  have mk := made_sign (d := 16) (k := (sg.take at_).length) (h := h) (s := .t (.lst (sgT (sg.take at_) ++ one :: rest))) (init_bad hs01 (d := 16) Arg.t okd ndd lr (fun s0 s1 h0 => w.bad 16 s0 s1 h0))
  rw [ldn] at mk
  have gt : gd (.tup [.str "sign", .int (at_ : Nat)]) = true := by
    have : sOk "sign" = true := by decide +kernel
    simp only [gd, gds, this, Bool.true_and, Bool.and_true, Bool.or_eq_true, decide_eq_true_eq]
    left; omega
  refine ⟨some (.t (.lst (sgT (sg.take at_) ++ one :: rest))), some (.t (.str y)), ?_⟩
  refine B.sc (B.asg (i := 9) e1) (B.sc e2 (B.sc (B.asg (i := 10) (B.un (o := .repr) (B.var (i := 9) rfl) rfl ry)) (B.sc (B.if0 (B.or0 (B.bin (o := .ne) (v := .tup [.str "sign", .int (at_ : Nat)]) (v2 := .tup [.str "sign", .int (at_ : Nat)]) (B.call (B.cons (B.var (i := 9) rfl) B.nil) mk) (B.tup (B.tcons B.str (B.tcons (B.var (i := 6) rfl) B.tnil))) rfl rfl (ne_gd gt (by simp [dpt, dpts]))) (B.bin (o := .ne) (B.un (o := .repr) (B.var (i := 9) rfl) rfl ry) (B.var (i := 10) rfl) rfl rfl (ne_str _))) B.sn) B.sn)))
end
def badN : List T := [.str "q", .str "", .str "F", .non, .int 0, .tup [.str "f"], .lst [.str "f"], .bl true]
theorem badN_ok : badN.all (fun t => match sem1 M01.G.sub .repr t with | some (.str y) => sOk y | _ => false) = true := by decide +kernel
theorem badN_in {sg : Sg} (ok : DrOk sg) : ∀ t ∈ badN, inS sg t = false := fun t mt => by
  have no : ∀ x : Str, (wrd lowZ x = false ∨ x = "q") → inS sg (.str x) = false := fun x hx => by
    cases e : look sg x with
    | none => simp [inS, e]
    | some a =>
      have m := look_mem e
      rcases hx with hx | hx
      · have := (ok.all _ m).1; rw [hx] at this; cases this
      · exact absurd hx (ok.noq _ m)
  simp only [badN, List.mem_cons, List.not_mem_nil, or_false] at mt
  rcases mt with rfl | rfl | rfl | rfl | rfl | rfl | rfl | rfl
  · exact no _ (.inr rfl)
  · exact no _ (.inl (by decide +kernel))
  · exact no _ (.inl (by decide +kernel))
  all_goals rfl
def cntT : T := .tup [.str "count", .int 0]
def threeC : List T := [.lst [], .lst (List.replicate 6 (.tup [.str "q", .int 0])), .lst (List.replicate 6 .non)]
section
variable {a b x4 x7 x8 x9 x10 x11 x12 x13 x14 x15 : Option S} {n at_ : Nat} {sg : Sg} {h : Hm}
theorem three_ev {C : Orc} {ρ : En} : evE M01.G C ρ h (.tup [(.lst []), (.bin .mul (.lst [(.tup [(.str "q"), (.int 0)])]) (.int 6)), (.bin .mul (.lst [.non]) (.int 6))]) = .ok (.t (.tup threeC)) h := by kernel_rfl
theorem cnt_ev {C : Orc} {ρ : En} : evE M01.G C ρ h (.bin .mul (.lst [(.tup [(.str "count"), (.int 0)])]) (.int 3)) = .ok (.t (.lst [cntT, cntT, cntT])) h := by kernel_rfl
theorem run_mid01 (ok : DrOk sg) (ha : at_ ≤ sg.length) (f : isFeed h n) : ∃ (h' : Hm) (y7 y8 y9 y10 y11 y12 : Option S), exSs M01.G (callF M01.G 19) [a, b, some (.r n), some (.t (.lst (sgT sg))), x4, some (.t (sigT sg)), some (.t (.int (at_ : Nat))), x7, x8, x9, x10, x11, x12, x13, x14, x15] h ([s7, (.for (.name 8) (.of ones01) turn01), s11, (.for (.name 11) (.of (.lst [.non, (.un .tuple (.var 3)), (.str "signs"), (.int 0), (.tup [])])) list01), (.for (.name 11) (.of names01) name01)] ++ tail01) =
    .nx [a, b, some (.r n), some (.t (.lst (sgT sg))), x4, some (.t (sigT sg)), some (.t (.int (at_ : Nat))), y7, y8, y9, y10, y11, y12, x13, x14, x15] h' ∧ Adv n h h' := by
  have ls : (sgT sg).length = sg.length := by simp [sgT]
  have l4 := ok.four
  have tk : (sgT sg).take at_ = sgT (sg.take at_) := by simp only [sgT, List.map_take]
  have okd : ∀ p ∈ sg.take at_, wrd lowZ p.1 = true ∧ sOk p.1 = true ∧ 0 ≤ p.2 ∧ p.2 ≤ 3 := fun p mp => ok.all p (List.mem_of_mem_take mp)
  have ndd : ((sg.take at_).map (·.1)).Nodup := by rw [List.map_take]; exact List.Nodup.sublist (List.take_sublist _ _) ok.nd
  let ρ (y7 y8 y9 y10 y11 y12 : Option S) : En := [a, b, some (.r n), some (.t (.lst (sgT sg))), x4, some (.t (sigT sg)), some (.t (.int (at_ : Nat))), y7, y8, y9, y10, y11, y12, x13, x14, x15]
  have sl : ∀ y7 y8 y9 y10 y11 y12, evE M01.G (callF M01.G 19) (ρ y7 y8 y9 y10 y11 y12) h (.slt (.var 3) (.var 6)) = .ok (.t (.lst (sgT (sg.take at_)))) h := fun y7 y8 y9 y10 y11 y12 => by
    have q := B.sltL (G := M01.G) (C := callF M01.G 19) (ρ := ρ y7 y8 y9 y10 y11 y12) (h := h) (e := .var 3) (u := .var 6) (s := .t (.lst (sgT sg))) (k := at_) (B.var rfl) (B.var rfl) rfl
    rw [tk] at q; exact q
  -- again
  have c7 := comp_map (G := M01.G) (C := callF M01.G 19) (ρ := ρ x7 x8 x9 x10 x11 x12) (h := h) (own := [13, 14]) (tg := .tup [13, 14]) (it := .of (.slt (.var 3) (.var 6))) (e := .tup [(.var 13), (.un .int (.bin .eq (.var 14) (.int 0)))]) (k := againK) (p := (sgT (sg.take at_), none)) (B.itOf (sl _ _ _ _ _ _) rfl) rfl fun x mx => by
    obtain ⟨p, mp, rfl⟩ := List.mem_map.mp mx
    refine ⟨_, rfl, B.tup (B.tcons (B.var (i := 13) rfl) (B.tcons (B.un (o := .int) (v := .bl (p.2 == 0)) (z := .int (againA p.2)) (B.bin (o := .eq) (B.var (i := 14) rfl) B.int rfl rfl (eq_int _ _)) rfl ?_) B.tnil))⟩
    by_cases e : p.2 = 0 <;> simp [sem1, againA, e]
  rw [againK_sg] at c7
  let ag : Sg := againS (sg.take at_)
  have lag : (sgT ag).length ≤ 4 := by simp only [ag, sgT, againS, List.length_map]; rw [List.length_take]; omega
  have agW : ∀ t ∈ sgT ag, Wrong (sg.take at_) t := fun t mt => by
    obtain ⟨q, mq, rfl⟩ := List.mem_map.mp mt
    obtain ⟨p, mp, rfl⟩ := List.mem_map.mp mq
    exact wrong_twice okd ndd mp (by show 0 ≤ againA p.2; unfold againA; split <;> omega) (by show againA p.2 ≤ 3; unfold againA; split <;> omega)
  let its : List T := ((oddP ++ (sgT (sg.take at_)).take 1) ++ (sgT ag).take 1) ++ cutL (sgT ag) (some (-1)) none
  have itsW : ∀ t ∈ its, Wrong (sg.take at_) t := fun t mt => by
    rcases List.mem_append.mp mt with m | m
    · rcases List.mem_append.mp m with m | m
      · rcases List.mem_append.mp m with m | m
        · exact wrong_odd m
        · obtain ⟨p, mp, rfl⟩ := List.mem_map.mp (List.mem_of_mem_take m)
          exact wrong_twice okd ndd mp (okd p mp).2.2.1 (okd p mp).2.2.2
      · exact agW t (List.mem_of_mem_take m)
    · exact agW t (cutA_mem m)
  have ol := odd_len
  have tl1 := List.length_take_le 1 (sgT (sg.take at_))
  have tl2 := List.length_take_le 1 (sgT ag)
  have cl := cutA_len (sgT ag) (some (-1)) none
  have eI : evE M01.G (callF M01.G 19) (ρ (some (.t (.lst (sgT ag)))) x8 x9 x10 x11 x12) h ones01 = .ok (.t (.lst its)) h := by
    have q1 := B.sltL (G := M01.G) (C := callF M01.G 19) (ρ := ρ (some (.t (.lst (sgT ag)))) x8 x9 x10 x11 x12) (h := h) (e := .slt (.var 3) (.var 6)) (u := .int 1) (k := 1) (sl _ _ _ _ _ _) B.int rfl
    have q2 := B.sltL (G := M01.G) (C := callF M01.G 19) (ρ := ρ (some (.t (.lst (sgT ag)))) x8 x9 x10 x11 x12) (h := h) (e := .var 7) (u := .int 1) (s := .t (.lst (sgT ag))) (k := 1) (B.var rfl) B.int rfl
    have q3 := B.slfN (G := M01.G) (C := callF M01.G 19) (ρ := ρ (some (.t (.lst (sgT ag)))) x8 x9 x10 x11 x12) (h := h) (e := .var 7) (u := .un .neg (.int 1)) (s := .t (.lst (sgT ag))) (i := -1) (B.var rfl) (B.un (o := .neg) (z := .int (-1)) B.int rfl rfl) rfl
    exact B.bin (o := .add) (B.bin (o := .add) (z := .lst ((oddP ++ (sgT (sg.take at_)).take 1) ++ (sgT ag).take 1)) (B.bin (o := .add) (z := .lst (oddP ++ (sgT (sg.take at_)).take 1)) (B.call (B.cons B.str B.nil) (run_odd (d := 18))) q1 rfl rfl (addL (by omega))) q2 rfl rfl (addL (by rw [List.length_append]; omega))) q3 rfl rfl (addL (by rw [List.length_append, List.length_append]; omega))
  have walk := B.loop (g := none) (f := fun y ρ hh => match setTg (.name 8) (.t y) ρ with | some ρ1 => exSs M01.G (callF M01.G 19) ρ1 hh turn01 | none => .bad)
    (I := fun left ρ' hh => hh = h ∧ (∃ y8 y9 y10, ρ' = ρ (some (.t (.lst (sgT ag)))) y8 y9 y10 x11 x12) ∧ ∀ t ∈ left, Wrong (sg.take at_) t) (fun _ _ _ _ => rfl) (fun y left ρ' hh inv => by
      obtain ⟨rfl, ⟨y8, y9, y10, rfl⟩, lf⟩ := inv
      obtain ⟨z9, z10, e⟩ := run_turn01 (a := a) (b := b) (x4 := x4) (x7 := some (.t (.lst (sgT ag)))) (x9 := y9) (x10 := y10) (x11 := x11) (x12 := x12) (x13 := x13) (x14 := x14) (x15 := x15) (n := n) (at_ := at_) (h := hh) ok.toSgOk l4 ha (lf y List.mem_cons_self)
      exact ⟨_, hh, e, rfl, ⟨_, _, _, rfl⟩, fun t mt => lf t (List.mem_cons_of_mem _ mt)⟩)
    (its := its) (ρ := ρ (some (.t (.lst (sgT ag)))) x8 x9 x10 x11 x12) (h := h) ⟨rfl, ⟨_, _, _, rfl⟩, itsW⟩
  obtain ⟨_, hh8, e8, eh8, ⟨y8, y9, y10, rfl⟩, _⟩ := walk
  rw [eh8] at e8
  -- counts
  have c11 := comp_map (G := M01.G) (C := callF M01.G 19) (ρ := ρ (some (.t (.lst (sgT ag)))) y8 y9 y10 x11 x12) (h := h) (own := [15]) (tg := .name 15) (it := .of (.tup [(.lst []), (.bin .mul (.lst [(.tup [(.str "q"), (.int 0)])]) (.int 6)), (.bin .mul (.lst [.non]) (.int 6))])) (e := .call 132 [(.var 15)]) (k := fun _ => cntT) (p := (threeC, none)) (B.itOf three_ev rfl) rfl fun x mx => by
    refine ⟨_, rfl, B.call (B.cons (B.var (i := 15) rfl) B.nil) ?_⟩
    simp only [threeC, List.mem_cons, List.not_mem_nil, or_false] at mx
    rcases mx with rfl | rfl | rfl
    · exact made_count (d := 16) Arg.t (.inl rfl)
    · exact made_count (d := 16) Arg.t (.inr (by decide))
    · exact made_count (d := 16) Arg.t (.inr (by decide))
  have e11 : exS M01.G (callF M01.G 19) (ρ (some (.t (.lst (sgT ag)))) y8 y9 y10 x11 x12) h s11 = .nx (ρ (some (.t (.lst (sgT ag)))) y8 y9 y10 x11 x12) h := B.if0 (B.bin (o := .ne) c11 cnt_ev rfl rfl (ne_gd (by decide +kernel) (by decide +kernel))) B.sn
  -- no lists
  have walk2 := B.loop (g := none) (f := fun y ρ hh => match setTg (.name 11) (.t y) ρ with | some ρ1 => exSs M01.G (callF M01.G 19) ρ1 hh list01 | none => .bad)
    (I := fun left ρ' hh => hh = h ∧ (∃ y11, ρ' = ρ (some (.t (.lst (sgT ag)))) y8 y9 y10 y11 x12) ∧ ∀ t ∈ left, isTy M01.G.sub t .tlist = false) (fun _ _ _ _ => rfl) (fun y left ρ' hh inv => by
      obtain ⟨rfl, ⟨y11, rfl⟩, lf⟩ := inv
      have mk := made_list (d := 16) (h := hh) (s := .t y) Arg.t (lf y List.mem_cons_self)
      exact ⟨_, hh, B.sc (B.if0 (B.bin (o := .ne) (v := .tup [.str "list", .int 0]) (v2 := .tup [.str "list", .int 0]) (B.call (B.cons (B.var (i := 11) rfl) B.nil) mk) (cE_ev rfl) rfl rfl (ne_gd (by decide +kernel) (by decide +kernel))) B.sn) B.sn, rfl, ⟨_, rfl⟩, fun t mt => lf t (List.mem_cons_of_mem _ mt)⟩)
    (its := [.non, .tup (sgT sg), .str "signs", .int 0, .tup []]) (ρ := ρ (some (.t (.lst (sgT ag)))) y8 y9 y10 x11 x12) (h := h) ⟨rfl, ⟨_, rfl⟩, fun t mt => by
      simp only [List.mem_cons, List.not_mem_nil, or_false] at mt
      rcases mt with rfl | rfl | rfl | rfl | rfl <;> rfl⟩
  obtain ⟨_, hh12, e12, eh12, ⟨y11, rfl⟩, _⟩ := walk2
  rw [eh12] at e12
  have i12 : evE M01.G (callF M01.G 19) (ρ (some (.t (.lst (sgT ag)))) y8 y9 y10 x11 x12) h (.lst [.non, (.un .tuple (.var 3)), (.str "signs"), (.int 0), (.tup [])]) = .ok (.t (.lst [.non, .tup (sgT sg), .str "signs", .int 0, .tup []])) h := B.lst (B.tcons B.non (B.tcons (B.un (o := .tuple) (z := .tup (sgT sg)) (B.var (i := 3) rfl) rfl rfl) (B.tcons B.str (B.tcons B.int (B.tcons (B.tup B.tnil) B.tnil)))))
  -- no names
  have walk3 := B.loop (g := none) (f := fun y ρ hh => match setTg (.name 11) (.t y) ρ with | some ρ1 => exSs M01.G (callF M01.G 19) ρ1 hh name01 | none => .bad)
    (I := fun left ρ' hh => hh = h ∧ (∃ y11, ρ' = ρ (some (.t (.lst (sgT ag)))) y8 y9 y10 y11 x12) ∧ ∀ t ∈ left, t ∈ badN) (fun _ _ _ _ => rfl) (fun y left ρ' hh inv => by
      obtain ⟨rfl, ⟨y11, rfl⟩, lf⟩ := inv
      have my := lf y List.mem_cons_self
      have q := List.all_eq_true.mp badN_ok y my
      have ni := badN_in ok y my
      obtain ⟨z, rz, oz⟩ : ∃ z, sem1 M01.G.sub .repr y = some (.str z) ∧ sOk z = true := by
        revert q
        cases e : sem1 M01.G.sub .repr y with
        | none => intro q; cases q
        | some u =>
          cases u <;> intro q <;> first
            | (cases q; done)
            | exact ⟨_, rfl, q⟩
      have ar := run_larity_no (d := 16) (h := hh) (sg := sg) (v := y) ni rz
      have inE := B.own2 (G := M01.G) (C := callF M01.G 19) (ρ := ρ (some (.t (.lst (sgT ag)))) y8 y9 y10 (some (.t y)) x12) (neg := false) (a := .var 11) (b := .var 5) (B.var (h := hh) rfl) (B.var rfl) isO_sig (runs_in hs01 (d := 18) (sg := sg) (v := y))
      rw [ni] at inE
      have gz : gd (.tup [.str "none", .str z]) = true := by
        have : sOk "none" = true := by decide +kernel
        simp [gd, gds, this, oz]
      exact ⟨_, hh, B.sc (B.if0 (B.or0 (B.bin (o := .ne) (v := .tup [.str "none", .str z]) (v2 := .tup [.str "none", .str z]) (B.call (B.cons (B.var (i := 5) rfl) (B.cons (B.var (i := 11) rfl) B.nil)) ar) (B.tup (B.tcons B.str (B.tcons (B.un (o := .repr) (B.var (i := 11) rfl) rfl rz) B.tnil))) rfl rfl (ne_gd gz (by simp [dpt, dpts]))) inE) B.sn) B.sn, rfl, ⟨_, rfl⟩, fun t mt => lf t (List.mem_cons_of_mem _ mt)⟩)
    (its := badN) (ρ := ρ (some (.t (.lst (sgT ag)))) y8 y9 y10 y11 x12) (h := h) ⟨rfl, ⟨_, rfl⟩, fun t mt => mt⟩
  obtain ⟨_, hh13, e13, eh13, ⟨z11, rfl⟩, _⟩ := walk3
  rw [eh13] at e13
  -- the tail
  obtain ⟨h1, e14, a1⟩ := run_near_right ok.toSgOk (d := 12) f
  obtain ⟨sg2, h2, ok2, a2, e15⟩ := run_drawn hd01 (d := 16) a1.feed
  have q1 := B.ownq (G := M01.G) (C := callF M01.G 19) (ρ := ρ (some (.t (.lst (sgT ag)))) y8 y9 y10 z11 (some (.t (.lst (sgT sg2))))) (h := h2) (neg := false) (a := .var 5) (b := .fz (.make 0 104 [(.var 12)])) (B.var rfl) (make_ok hs01 (d := 17) (s := .t (.lst (sgT sg2))) Arg.t ok2.toSgOk (B.cons (B.var (i := 12) rfl) B.nil)) isO_sig rfl (run_eq ok.toSgOk ok2.toSgOk (d := 18))
  have q2 := B.ownq (G := M01.G) (C := callF M01.G 19) (ρ := ρ (some (.t (.lst (sgT ag)))) y8 y9 y10 z11 (some (.t (.lst (sgT sg2))))) (h := h2) (neg := false) (a := .var 5) (b := .fz (.make 0 104 [(.un .rev (.var 3))])) (B.var rfl) (make_ok hs01 (d := 17) (s := .t (.lst (sgT sg.reverse))) Arg.t (rev_ok ok.toSgOk) (B.cons (B.un (o := .rev) (v := .lst (sgT sg)) (z := .lst (sgT sg.reverse)) (B.var (i := 3) rfl) rfl (by simp only [sem1, rev_sgT])) B.nil)) isO_sig rfl (run_eq ok.toSgOk (rev_ok ok.toSgOk) (d := 18))
  have same : ∀ k : Bool, (k != false) = k := fun k => by cases k <;> rfl
  rw [same] at q1 q2
  refine ⟨h2, some (.t (.lst (sgT ag))), y8, y9, y10, z11, some (.t (.lst (sgT sg2))), exSs_app (B.sc (B.asg (i := 7) c7) (B.sc (B.fr (B.itOf eI rfl) e8) (B.sc e11 (B.sc (B.fr (B.itOf i12 rfl) e12) (B.sc (B.fr (p := (badN, none)) (B.itOf (cE_ev rfl) rfl) e13) B.sn))))) ?_, a1.trans a2⟩
  refine B.sc (B.if0 (B.not (k := true) (B.call (B.cons (B.var (i := 2) rfl) (B.cons (B.var (i := 5) rfl) (B.cons (B.var (i := 3) rfl) B.nil))) e14)) B.sn) ?_
  refine B.sc (B.asg (i := 12) (B.un (o := .list) (z := .lst (sgT sg2)) (B.call (B.cons (B.var (i := 2) rfl) B.nil) e15) rfl rfl)) ?_
  refine B.sc (B.if0 (B.or0 (B.bin (o := .ne) q1 (B.bin (o := .eq) (B.var (i := 3) rfl) (B.var (i := 12) rfl) rfl rfl (eq_sg (pairs_shp ok.toSgOk) (pairs_shp ok2.toSgOk))) rfl rfl (ne_bl _)) (B.bin (o := .ne) q2 (B.bin (o := .eq) (B.var (i := 3) rfl) (B.un (o := .rev) (v := .lst (sgT sg)) (z := .lst (sgT sg.reverse)) (B.var (i := 3) rfl) rfl (by simp only [sem1, rev_sgT])) rfl rfl (eq_sg (pairs_shp ok.toSgOk) (pairs_shp (rev_ok ok.toSgOk)))) rfl rfl (ne_bl _))) B.sn) B.sn
end
theorem K01.main (ns : List Int) (hl : ns.length ≤ 63) : ∃ h', callF M01.G 20 900001 [.t (.lst (ns.map .int))] [] = .ok (.t (.bl true)) h' := by
  obtain ⟨k, hk, hk2⟩ : ∃ k : Int, (k = 1 ∨ k = 2 ∨ k = 3) ∧ evE M01.G (callF M01.G 19) (startE 16 [.t (.lst (ns.map .int))]) [] (.bin .max (.int 1) (.bin .min (.int 3) (.un .len (.var 0)))) = .ok (.t (.int k)) [] := by
    refine ⟨_, ?_, B.bin (o := .max) B.int (B.bin (o := .min) (B.int) (B.un (o := .len) (z := .int (ns.map T.int).length) (B.var (i := 0) rfl) rfl rfl) rfl rfl rfl) rfl rfl rfl⟩
    split <;> split <;> simp at * <;> omega
  have walk := B.loop (g := none) (f := fun x ρ h => match setTg (.name 1) (.t x) ρ with | some ρ1 => exSs M01.G (callF M01.G 19) ρ1 h body01 | none => .bad)
    (I := fun left ρ h => (∃ x1 x2 x3 x4 x5 x6 x7 x8 x9 x10 x11 x12 x13 x14 x15, ρ = [some (.t (.lst (ns.map .int))), x1, x2, x3, x4, x5, x6, x7, x8, x9, x10, x11, x12, x13, x14, x15]) ∧ ∀ x ∈ left, ∃ i : Nat, x = .int i) (fun _ _ _ _ => rfl) (fun x left ρ h inv => ?_)
    (its := rngT 0 k.toNat) (ρ := startE 16 [.t (.lst (ns.map .int))]) (h := []) ⟨⟨_, _, _, _, _, _, _, _, _, _, _, _, _, _, _, rfl⟩, fun x mx => by simp only [rngT, List.mem_map, List.mem_range] at mx; obtain ⟨i, _, rfl⟩ := mx; exact ⟨i, by simp⟩⟩
  · obtain ⟨ρ', h', e, ⟨_, _, _, _, _, _, _, _, _, _, _, _, _, _, _, rfl⟩, _⟩ := walk
    exact ⟨_, B.dret (G := M01.G) (f := 900001) (d := 19) (fd := m_law01) rfl rfl (by rw [law01_body]; exact B.sc (B.fr (B.itRng hk2 (rng_small (by omega) (by omega))) e) (B.sr (B.ret B.bl)))⟩
  · obtain ⟨⟨x1, x2, x3, x4, x5, x6, x7, x8, x9, x10, x11, x12, x13, x14, x15, rfl⟩, lf⟩ := inv
    obtain ⟨i, rfl⟩ := lf _ List.mem_cons_self
    obtain ⟨u, v, e1⟩ := run_feed hd01.toHasFeed (d := 18) (h := h) ns i
    have fd : isFeed (h ++ [.lst [.int u, .int v]]) h.length := ⟨u, v, by simp⟩
    obtain ⟨sg, h2, ok, a2, e2⟩ := run_drawn hd01 (d := 16) fd
    have ls : (sgT sg).length = sg.length := by simp [sgT]
    have l4 := ok.four
    have f2 := a2.feed
    have n2 := f2.lt
    let hA : Hm := h2 ++ [.lst (sgT sg)]
    have A0 : hA[h2.length]? = some (.lst (sgT sg)) := by simp [hA]
    have fA : isFeed hA h.length := (Ext.push f2).feed
    let hB : Hm := hA.set h2.length (.lst [])
    have fB : isFeed hB h.length := by
      obtain ⟨u', v', e⟩ := fA
      exact ⟨u', v', by simp only [hB]; rw [List.getElem?_set_ne (by omega)]; exact e⟩
    have mk := made_ok (d := 16) (h := hA) (s := .r h2.length) (sg := sg) ⟨by simp only [dref, A0], fun m e => by cases e; simp [hA]⟩ ok.toSgOk
    have li := run_lis ok.toSgOk (d := 14) (h := hB)
    obtain ⟨r, h3, r0, r1, a3, e6⟩ := run_take hd01.toHasFeed (d := 18) (m := (sg.length : Int) + 1) fB (by omega) (by omega)
    obtain ⟨at_, hat⟩ : ∃ at_ : Nat, r = at_ := ⟨r.toNat, by omega⟩
    subst hat
    obtain ⟨h4, y7, y8, y9, y10, y11, y12, e7, a4⟩ := run_mid01 (a := some (.t (.lst (ns.map .int)))) (b := some (.t (.int (i : Nat)))) (x4 := some (.r h2.length)) (x7 := x7) (x8 := x8) (x9 := x9) (x10 := x10) (x11 := x11) (x12 := x12) (x13 := x13) (x14 := x14) (x15 := x15) (n := h.length) (at_ := at_) (sg := sg) (h := h3) ok (by omega) a3.feed
    refine ⟨_, h4, exSs_app ?_ e7, ⟨_, _, _, _, _, _, _, _, _, _, _, _, _, _, _, rfl⟩, fun x mx => lf x (List.mem_cons_of_mem _ mx)⟩
    refine B.sc (B.asg (i := 2) (B.call (B.cons (B.var (i := 0) rfl) (B.cons (B.var (i := 1) rfl) B.nil)) e1)) ?_
    refine B.sc (B.asg (i := 3) (B.un (o := .list) (z := .lst (sgT sg)) (B.call (B.cons (B.var (i := 2) rfl) B.nil) e2) rfl rfl)) ?_
    refine B.sc (B.asg (i := 4) (B.nw (o := .list) (xs := sgT sg) (B.var (i := 3) rfl) rfl rfl)) ?_
    refine B.sc (B.asg (i := 5) (B.call (B.cons (B.var (i := 4) rfl) B.nil) mk)) ?_
    refine B.sc (B.if0 (B.bin (o := .ne) (v := .lst (sgT sg)) (v2 := .lst (sgT sg)) (B.var (i := 4) rfl) (B.var (i := 3) rfl) (by simp only [dref]; rw [A0]) rfl (by rw [ne_sg (pairs_shp ok.toSgOk) (pairs_shp ok.toSgOk)]; simp)) B.sn) ?_
    refine B.sc (B.ex (B.clr (B.var (i := 4) rfl) A0)) ?_
    refine B.sc (B.if0 (B.not (k := true) (B.call (B.cons (B.var (i := 5) rfl) (B.cons (B.var (i := 3) rfl) B.nil)) li)) B.sn) ?_
    exact B.sc (B.asg (i := 6) (B.call (B.cons (B.var (i := 2) rfl) (B.cons (B.bin (o := .add) (z := .int ((sg.length : Int) + 1)) (B.un (o := .len) (v := .lst (sgT sg)) (z := .int sg.length) (B.var (i := 3) rfl) rfl (by simp only [sem1, ls])) B.int rfl rfl rfl) B.nil)) e6)) B.sn
end My

namespace My.K01
open PySem L2 PyProof.Rows My.M My.M01
abbrev P0 : Program := PySem.Challenge.pw_shutbyrings_k01_what_are_signs
def top (i : Nat) : Stmt := P0.main.body.getD i (.Pass ⟨0, 0, 0, 0⟩)
def LL : List (Str × Nat × Nat × Bool) := [("law", 900001, 1, true), ("_law_feed", 100, 2, false), ("_law_drawn_signs", 126, 1, false), ("_law_made", 132, 1, false), ("_law_is", 133, 2, true), ("_law_take", 108, 2, false), ("_law_odd_pairs", 134, 1, false), ("_law_arity", 135, 2, true), ("_law_near_right", 136, 3, true), ("_law_known_signs", 130, 0, false), ("_law_pick", 102, 2, false), ("_law_ways", 140, 1, false), ("_law_near_signs", 141, 1, false), ("is_word", 113, 2, false), ("within", 114, 3, false)]
structure Bi (mg : Str → Option Value) : Prop where
  b_abs : mg "abs" = none
  b_all : mg "all" = none
  b_bool : mg "bool" = none
  b_enumerate : mg "enumerate" = none
  b_int : mg "int" = none
  b_isinstance : mg "isinstance" = none
  b_len : mg "len" = none
  b_list : mg "list" = none
  b_max : mg "max" = none
  b_min : mg "min" = none
  b_range : mg "range" = none
  b_repr : mg "repr" = none
  b_sorted : mg "sorted" = none
  b_str : mg "str" = none
  b_tuple : mg "tuple" = none
abbrev Z0 (cl : Cl) (xc : Xc) (d : Nat) : Zs := ⟨cl, xrOf cl xc, G, callF G d⟩
structure Kls (B : Pk) (Z : Zs) (xc : Xc) (k : Nat) : Prop where
  c_MOST_ARITY : ConG B Z.G 1 "MOST_ARITY"
  c_MOST_LETTERS : ConG B Z.G 2 "MOST_LETTERS"
  c_MOST_SIGNS : ConG B Z.G 0 "MOST_SIGNS"
  c_SMALL : ConG B Z.G 3 "SMALL"
  h_BadCount : HdC B G xc 103 "BadCount"
  h_BadSign : HdC B G xc 104 "BadSign"
  h_NoList : HdC B G xc 101 "NoList"
  h_NoSign : HdC B G xc 105 "NoSign"
  is_Signs : IsC B Z.cl 0 "Signs"
  m_Signs_arity : MethG B Z false k 0 "arity" 122 2
  mk_Signs : MakeG B Z k "Signs" 0 104 2
  n_Signs_held : NoAt B.K Z.cl 0 "held"
  ne_Signs : NeC B Z.cl 0
  o_Signs__contains__ : OwnG B Z k 0 "__contains__" 121 2
  o_Signs__eq__ : OwnG B Z k 0 "__eq__" 137 2
  o_Signs__len__ : OwnG B Z k 0 "__len__" 111 1
  p_Signs_names : PropG B Z k 0 "names" 138
  p_Signs_ways : PropG B Z k 0 "ways" 139
  v_BadSign_number : XvC B G xc 104 "number"
  v_NoSign_name : XvC B G xc 105 "name"
  x_BadCount : Rs0 B xc 103 "BadCount"
  x_BadSign : Rs1 B xc k 104 "BadSign" "number"
  x_NoList : Rs0 B xc 101 "NoList"
  x_NoSign : Rs1 B xc k 105 "NoSign" "name"
def clf (CSigns : Addr) : Cl := fun c => match c with | 0 => some CSigns | _ => none
def xcf (CNoList CBadCount CBadSign CNoSign : Addr) : Xc := fun c => match c with | 101 => some (CNoList, none) | 103 => some (CBadCount, none) | 104 => some (CBadSign, some "number") | 105 => some (CNoSign, some "name") | _ => none
abbrev st_law : Stmt := top 27
abbrev N_law : List Str := ["script", "k", "feed", "pairs", "handed", "signs", "at", "again", "one", "wrong", "held", "bad", "other", "name", "arity", "some"]
theorem sc_law : FnScope N_law ["script"] (defScope st_law) := ⟨rfl, rfl, rfl, by decide +kernel, rfl, by decide +kernel, by decide +kernel⟩
abbrev st__law_feed : Stmt := top 15
abbrev N__law_feed : List Str := ["script", "k", "cell", "digits", "state"]
theorem sc__law_feed : FnScope N__law_feed ["script", "k"] (defScope st__law_feed) := ⟨rfl, rfl, rfl, by decide +kernel, rfl, by decide +kernel, by decide +kernel⟩
abbrev st__law_drawn_signs : Stmt := top 19
abbrev N__law_drawn_signs : List Str := ["feed", "names", "many", "found", "ways", "at", "arity"]
theorem sc__law_drawn_signs : FnScope N__law_drawn_signs ["feed"] (defScope st__law_drawn_signs) := ⟨rfl, rfl, rfl, by decide +kernel, rfl, by decide +kernel, by decide +kernel⟩
abbrev st__law_made : Stmt := top 22
abbrev N__law_made : List Str := ["pairs", "e"]
theorem sc__law_made : FnScope N__law_made ["pairs"] (defScope st__law_made) := ⟨rfl, rfl, rfl, by decide +kernel, rfl, by decide +kernel, by decide +kernel⟩
abbrev st__law_is : Stmt := top 24
abbrev N__law_is : List Str := ["signs", "pairs", "names", "ways", "name", "arity"]
theorem sc__law_is : FnScope N__law_is ["signs", "pairs"] (defScope st__law_is) := ⟨rfl, rfl, rfl, by decide +kernel, rfl, by decide +kernel, by decide +kernel⟩
abbrev st__law_take : Stmt := top 16
abbrev N__law_take : List Str := ["feed", "many", "digit"]
theorem sc__law_take : FnScope N__law_take ["feed", "many"] (defScope st__law_take) := ⟨rfl, rfl, rfl, by decide +kernel, rfl, by decide +kernel, by decide +kernel⟩
abbrev st__law_odd_pairs : Stmt := top 25
abbrev N__law_odd_pairs : List Str := ["name", "odd"]
theorem sc__law_odd_pairs : FnScope N__law_odd_pairs ["name"] (defScope st__law_odd_pairs) := ⟨rfl, rfl, rfl, by decide +kernel, rfl, by decide +kernel, by decide +kernel⟩
abbrev st__law_arity : Stmt := top 23
abbrev N__law_arity : List Str := ["signs", "name", "e"]
theorem sc__law_arity : FnScope N__law_arity ["signs", "name"] (defScope st__law_arity) := ⟨rfl, rfl, rfl, by decide +kernel, rfl, by decide +kernel, by decide +kernel⟩
abbrev st_Signs___contains__ : Stmt := inClass (top 13) 4
abbrev N_Signs___contains__ : List Str := ["self", "name"]
theorem sc_Signs___contains__ : FnScope N_Signs___contains__ ["self", "name"] (defScope st_Signs___contains__) := ⟨rfl, rfl, rfl, by decide +kernel, rfl, by decide +kernel, by decide +kernel⟩
abbrev st__law_near_right : Stmt := top 26
abbrev N__law_near_right : List Str := ["feed", "signs", "pairs", "letters", "word", "some", "turn"]
theorem sc__law_near_right : FnScope N__law_near_right ["feed", "signs", "pairs"] (defScope st__law_near_right) := ⟨rfl, rfl, rfl, by decide +kernel, rfl, by decide +kernel, by decide +kernel⟩
abbrev st_Signs___init__ : Stmt := inClass (top 13) 0
abbrev N_Signs___init__ : List Str := ["self", "pairs", "found", "number", "pair"]
theorem sc_Signs___init__ : FnScope N_Signs___init__ ["self", "pairs"] (defScope st_Signs___init__) := ⟨rfl, rfl, rfl, by decide +kernel, rfl, by decide +kernel, by decide +kernel⟩
abbrev st_Signs___eq__ : Stmt := inClass (top 13) 6
abbrev N_Signs___eq__ : List Str := ["self", "other"]
theorem sc_Signs___eq__ : FnScope N_Signs___eq__ ["self", "other"] (defScope st_Signs___eq__) := ⟨rfl, rfl, rfl, by decide +kernel, rfl, by decide +kernel, by decide +kernel⟩
abbrev st__law_known_signs : Stmt := top 18
abbrev N__law_known_signs : List Str := ["found"]
theorem sc__law_known_signs : FnScope N__law_known_signs [] (defScope st__law_known_signs) := ⟨rfl, rfl, rfl, by decide +kernel, rfl, by decide +kernel, by decide +kernel⟩
abbrev st__law_pick : Stmt := top 17
abbrev N__law_pick : List Str := ["feed", "some"]
theorem sc__law_pick : FnScope N__law_pick ["feed", "some"] (defScope st__law_pick) := ⟨rfl, rfl, rfl, by decide +kernel, rfl, by decide +kernel, by decide +kernel⟩
abbrev st_Signs___len__ : Stmt := inClass (top 13) 5
abbrev N_Signs___len__ : List Str := ["self"]
theorem sc_Signs___len__ : FnScope N_Signs___len__ ["self"] (defScope st_Signs___len__) := ⟨rfl, rfl, rfl, by decide +kernel, rfl, by decide +kernel, by decide +kernel⟩
abbrev st_Signs_names : Stmt := inClass (top 13) 1
abbrev N_Signs_names : List Str := ["self"]
theorem sc_Signs_names : FnScope N_Signs_names ["self"] (defScope st_Signs_names) := ⟨rfl, rfl, rfl, by decide +kernel, rfl, by decide +kernel, by decide +kernel⟩
abbrev st_Signs_ways : Stmt := inClass (top 13) 2
abbrev N_Signs_ways : List Str := ["self", "name"]
theorem sc_Signs_ways : FnScope N_Signs_ways ["self"] (defScope st_Signs_ways) := ⟨rfl, rfl, rfl, by decide +kernel, rfl, by decide +kernel, by decide +kernel⟩
abbrev st__law_ways : Stmt := top 20
abbrev N__law_ways : List Str := ["pairs", "name", "arity"]
theorem sc__law_ways : FnScope N__law_ways ["pairs"] (defScope st__law_ways) := ⟨rfl, rfl, rfl, by decide +kernel, rfl, by decide +kernel, by decide +kernel⟩
abbrev st_Signs_arity : Stmt := inClass (top 13) 3
abbrev N_Signs_arity : List Str := ["self", "name"]
theorem sc_Signs_arity : FnScope N_Signs_arity ["self", "name"] (defScope st_Signs_arity) := ⟨rfl, rfl, rfl, by decide +kernel, rfl, by decide +kernel, by decide +kernel⟩
abbrev st__law_near_signs : Stmt := top 21
abbrev N__law_near_signs : List Str := ["pairs", "near", "name", "arity", "some"]
theorem sc__law_near_signs : FnScope N__law_near_signs ["pairs"] (defScope st__law_near_signs) := ⟨rfl, rfl, rfl, by decide +kernel, rfl, by decide +kernel, by decide +kernel⟩
abbrev st_is_word : Stmt := top 12
abbrev N_is_word : List Str := ["value", "letters", "letter"]
theorem sc_is_word : FnScope N_is_word ["value", "letters"] (defScope st_is_word) := ⟨rfl, rfl, rfl, by decide +kernel, rfl, by decide +kernel, by decide +kernel⟩
abbrev st_within : Stmt := top 11
abbrev N_within : List Str := ["value", "low", "high"]
theorem sc_within : FnScope N_within ["value", "low", "high"] (defScope st_within) := ⟨rfl, rfl, rfl, by decide +kernel, rfl, by decide +kernel, by decide +kernel⟩
abbrev st_BadSign___init__ : Stmt := inClass (top 4) 0
theorem sc_BadSign___init__ : FnScope ["self", "number"] ["self", "number"] (defScope st_BadSign___init__) := ⟨rfl, rfl, rfl, by decide +kernel, rfl, by decide +kernel, by decide +kernel⟩
abbrev st_NoSign___init__ : Stmt := inClass (top 5) 0
theorem sc_NoSign___init__ : FnScope ["self", "name"] ["self", "name"] (defScope st_NoSign___init__) := ⟨rfl, rfl, rfl, by decide +kernel, rfl, by decide +kernel, by decide +kernel⟩
section
variable {B : Pk} {d : Nat} {cl : Cl} {xc : Xc}
theorem b_law (bi : Bi B.mg) (co : ClsOk B.K cl G.sub) (hC : Cals B (Z0 cl xc d) (2 * d + 1) LL) (kk : Kls B (Z0 cl xc d) xc (2 * d + 1)) {f : Addr} {cdv : Value} {A : Around} {fr : List Env} {s : Shared} {H : Hp} {E : XK}
    (hr : Room (2 * d + 2) (A.deeper (envOfC "law" (defScope st_law) s.heap.objs.size f cdv))) (gu : (A.deeper (envOfC "law" (defScope st_law) s.heap.objs.size f cdv)).guards = some []) :
    PSs (cxOf (L2.CX B.P B.w) B.P B.w B.K B.mg B.base N_law "law" (defScope st_law) f cdv A fr s H E) (defBody st_law) (tSs (Z0 cl xc d) (WF E) m_law01.body) := by
  have tk : Takes (cxOf (L2.CX B.P B.w) B.P B.w B.K B.mg B.base N_law "law" (defScope st_law) f cdv A fr s H E) (WF E) := takes_of rfl rfl rfl rfl
  have pw : PassesOwn (model B.P B.w) (A.deeper (envOfC "law" (defScope st_law) s.heap.objs.size f cdv)) (envOfC "law" (defScope st_law) s.heap.objs.size f cdv) (cxOf (L2.CX B.P B.w) B.P B.w B.K B.mg B.base N_law "law" (defScope st_law) f cdv A fr s H E).xe := passes_of (X := (cxOf (L2.CX B.P B.w) B.P B.w B.K B.mg B.base N_law "law" (defScope st_law) f cdv A fr s H E)) rfl
  have nd := sc_law.nd
  exact (ss_cons (Q.fr pw (Q.nm 1 nd) (Q.rng1 bi.b_range (Q.cons (Q.bf2 (fn_max rfl) bi.b_max (Q.cons s_int (Q.cons (Q.bf2 (fn_min rfl) bi.b_min (Q.cons s_int (Q.cons (Q.bf one_len bi.b_len (Q.cons (Q.v 0) sl_nil)) sl_nil))) sl_nil))) sl_nil)) (ss_cons (Q.asg (Q.nm 2 nd) (Q.call (hC 1 ("_law_feed", 100, 2, false) rfl) hr (fun h => Bool.noConfusion h) tk (Q.cons (Q.v 0) (Q.cons (Q.v 1) sl_nil))))
      (ss_cons (Q.asg (Q.nm 3 nd) (Q.bt (one_list rfl) bi.b_list (Q.cons (Q.call (hC 2 ("_law_drawn_signs", 126, 1, false) rfl) hr (fun h => Bool.noConfusion h) tk (Q.cons (Q.v 2) sl_nil)) sl_nil)))
      (ss_cons (Q.asg (Q.nm 4 nd) (Q.nwL bi.b_list (Q.v 3)))
      (ss_cons (Q.asg (Q.nm 5 nd) (Q.call (hC 3 ("_law_made", 132, 1, false) rfl) hr (fun h => Bool.noConfusion h) tk (Q.cons (Q.v 4) sl_nil)))
      (ss_cons (s_if (Q.tcmp (two_ne (u64 hr)) (Q.v 4) (Q.v 3)) (ss_cons (s_ret s_bl)
      ss_nil) ss_nil)
      (ss_cons (Q.ex (s_clr (Q.v 4) rfl rfl))
      (ss_cons (s_if (st_not (Q.tv (Q.call (hC 4 ("_law_is", 133, 2, true) rfl) hr (fun _ => gu) tk (Q.cons (Q.v 5) (Q.cons (Q.v 3) sl_nil))))) (ss_cons (s_ret s_bl)
      ss_nil) ss_nil)
      (ss_cons (Q.asg (Q.nm 6 nd) (Q.call (hC 5 ("_law_take", 108, 2, false) rfl) hr (fun h => Bool.noConfusion h) tk (Q.cons (Q.v 2) (Q.cons (Q.op two_add (Q.bf one_len bi.b_len (Q.cons (Q.v 3) sl_nil)) s_int) sl_nil))))
      (ss_cons (Q.asgC 7 [("name", 13), ("arity", 14)] nd (si_of (s_slt (Q.v 3) (Q.v 6))) (blkOk_by (N := N_law) (sc := defScope st_law) (own := [("name", 13), ("arity", 14)]) (by decide +kernel)) (fun _ _ _ _ _ => (Q.gtup (Q.nms 13 nd (Q.nms 14 nd sgs_nil)))) (fun _ _ _ _ _ => spt_nil) (fun _ _ _ _ _ => (Q.tup (Q.consT (Q.v 13) (Q.consT (Q.bt one_int bi.b_int (Q.cons (Q.cmp (two_eq (u64 hr)) (Q.v 14) s_int) sl_nil)) slT_nil)))))
      (ss_cons (Q.fr pw (Q.nm 8 nd) (si_of (Q.op two_add (Q.op two_add (Q.op two_add (Q.call (hC 6 ("_law_odd_pairs", 134, 1, false) rfl) hr (fun h => Bool.noConfusion h) tk (Q.cons s_str sl_nil)) (s_slt (s_slt (Q.v 3) (Q.v 6)) s_int)) (s_slt (Q.v 7) s_int)) (s_slf (Q.v 7) (Q.neg s_int)))) (ss_cons (Q.asg (Q.nm 9 nd) (Q.op two_add (Q.op two_add (s_slt (Q.v 3) (Q.v 6)) (Q.lst (Q.consT (Q.v 8) slT_nil))) (s_slf (Q.v 3) (Q.v 6))))
      (ss_cons (s_if (Q.tcmp two_le (Q.bf one_len bi.b_len (Q.cons (Q.v 9) sl_nil)) s_int) (ss_cons (Q.asg (Q.nm 9 nd) (Q.op two_add (Q.v 9) (Q.lst (Q.consT s_non slT_nil))))
      ss_nil) ss_nil)
      (ss_cons (Q.asg (Q.nm 10 nd) (Q.bf (one_repr gu (u70 hr)) bi.b_repr (Q.cons (Q.v 9) sl_nil)))
      (ss_cons (s_if (Q.tpw (sw_or2 (Q.tcmp (two_ne (u64 hr)) (Q.call (hC 3 ("_law_made", 132, 1, false) rfl) hr (fun h => Bool.noConfusion h) tk (Q.cons (Q.v 9) sl_nil)) (Q.tup (Q.consT s_str (Q.consT (Q.v 6) slT_nil)))) (Q.tcmp (two_ne (u64 hr)) (Q.bf (one_repr gu (u70 hr)) bi.b_repr (Q.cons (Q.v 9) sl_nil)) (Q.v 10)))) (ss_cons (s_ret s_bl)
      ss_nil) ss_nil)
      ss_nil)))))
      (ss_cons (s_if (Q.tcmp (two_ne (u64 hr)) (Q.comp [("some", 15)] nd (si_of (Q.tup (Q.consT (Q.lst slT_nil) (Q.consT (Q.op two_mul (Q.lst (Q.consT (Q.tup (Q.consT s_str (Q.consT s_int slT_nil))) slT_nil)) s_int) (Q.consT (Q.op two_mul (Q.lst (Q.consT s_non slT_nil)) s_int) slT_nil))))) (blkOk_by (N := N_law) (sc := defScope st_law) (own := [("some", 15)]) (by decide +kernel)) (fun _ _ _ _ _ => (Q.nm 15 nd)) (fun _ _ _ _ _ => spt_nil) (fun _ _ _ _ _ => (Q.call (hC 3 ("_law_made", 132, 1, false) rfl) hr (fun h => Bool.noConfusion h) takes0 (Q.cons (Q.v 15) sl_nil)))) (Q.op two_mul (Q.lst (Q.consT (Q.tup (Q.consT s_str (Q.consT s_int slT_nil))) slT_nil)) s_int)) (ss_cons (s_ret s_bl)
      ss_nil) ss_nil)
      (ss_cons (Q.fr pw (Q.nm 11 nd) (si_of (Q.lst (Q.consT s_non (Q.consT (Q.bt one_tuple bi.b_tuple (Q.cons (Q.v 3) sl_nil)) (Q.consT s_str (Q.consT s_int (Q.consT (Q.tup slT_nil) slT_nil))))))) (ss_cons (s_if (Q.tcmp (two_ne (u64 hr)) (Q.call (hC 3 ("_law_made", 132, 1, false) rfl) hr (fun h => Bool.noConfusion h) tk (Q.cons (Q.v 11) sl_nil)) (Q.tup (Q.consT s_str (Q.consT s_int slT_nil)))) (ss_cons (s_ret s_bl)
      ss_nil) ss_nil)
      ss_nil))
      (ss_cons (Q.fr pw (Q.nm 11 nd) (si_of (Q.lst (Q.consT s_str (Q.consT s_str (Q.consT s_str (Q.consT s_non (Q.consT s_int (Q.consT (Q.tup (Q.consT s_str slT_nil)) (Q.consT (Q.lst (Q.consT s_str slT_nil)) (Q.consT s_bl slT_nil)))))))))) (ss_cons (s_if (Q.tpw (sw_or2 (Q.tcmp (two_ne (u64 hr)) (Q.call (hC 7 ("_law_arity", 135, 2, true) rfl) hr (fun _ => gu) tk (Q.cons (Q.v 5) (Q.cons (Q.v 11) sl_nil))) (Q.tup (Q.consT s_str (Q.consT (Q.bf (one_repr gu (u70 hr)) bi.b_repr (Q.cons (Q.v 11) sl_nil)) slT_nil)))) (Q.tinO kk.o_Signs__contains__ hr (Q.v 11) (Q.v 5)))) (ss_cons (s_ret s_bl)
      ss_nil) ss_nil)
      ss_nil))
      (ss_cons (s_if (st_not (Q.tv (Q.call (hC 8 ("_law_near_right", 136, 3, true) rfl) hr (fun _ => gu) tk (Q.cons (Q.v 2) (Q.cons (Q.v 5) (Q.cons (Q.v 3) sl_nil)))))) (ss_cons (s_ret s_bl)
      ss_nil) ss_nil)
      (ss_cons (Q.asg (Q.nm 12 nd) (Q.bt (one_list rfl) bi.b_list (Q.cons (Q.call (hC 2 ("_law_drawn_signs", 126, 1, false) rfl) hr (fun h => Bool.noConfusion h) tk (Q.cons (Q.v 2) sl_nil)) sl_nil)))
      (ss_cons (s_if (Q.tpw (sw_or2 (Q.tcmp (two_ne (u64 hr)) (Q.eqQ kk.o_Signs__eq__ hr (Q.v 5) (s_fz (Q.make kk.mk_Signs hr tk (Q.cons (Q.v 12) sl_nil)))) (Q.cmp (two_eq (u64 hr)) (Q.v 3) (Q.v 12))) (Q.tcmp (two_ne (u64 hr)) (Q.eqQ kk.o_Signs__eq__ hr (Q.v 5) (s_fz (Q.make kk.mk_Signs hr tk (Q.cons (s_rev (Q.v 3)) sl_nil)))) (Q.cmp (two_eq (u64 hr)) (Q.v 3) (s_rev (Q.v 3)))))) (ss_cons (s_ret s_bl)
      ss_nil) ss_nil)
      ss_nil)))))))))))))))))
      (ss_cons (s_ret s_bl)
      ss_nil))
theorem b__law_feed (bi : Bi B.mg) (co : ClsOk B.K cl G.sub) (hC : Cals B (Z0 cl xc d) (2 * d + 1) LL) (kk : Kls B (Z0 cl xc d) xc (2 * d + 1)) {f : Addr} {cdv : Value} {A : Around} {fr : List Env} {s : Shared} {H : Hp} {E : XK}
    (hr : Room (2 * d + 2) (A.deeper (envOfC "_law_feed" (defScope st__law_feed) s.heap.objs.size f cdv))) :
    PSs (cxOf (L2.CX B.P B.w) B.P B.w B.K B.mg B.base N__law_feed "_law_feed" (defScope st__law_feed) f cdv A fr s H E) (defBody st__law_feed) (tSs (Z0 cl xc d) (WF E) m__law_feed.body) := by
  have tk : Takes (cxOf (L2.CX B.P B.w) B.P B.w B.K B.mg B.base N__law_feed "_law_feed" (defScope st__law_feed) f cdv A fr s H E) (WF E) := takes_of rfl rfl rfl rfl
  have pw : PassesOwn (model B.P B.w) (A.deeper (envOfC "_law_feed" (defScope st__law_feed) s.heap.objs.size f cdv)) (envOfC "_law_feed" (defScope st__law_feed) s.heap.objs.size f cdv) (cxOf (L2.CX B.P B.w) B.P B.w B.K B.mg B.base N__law_feed "_law_feed" (defScope st__law_feed) f cdv A fr s H E).xe := passes_of (X := (cxOf (L2.CX B.P B.w) B.P B.w B.K B.mg B.base N__law_feed "_law_feed" (defScope st__law_feed) f cdv A fr s H E)) rfl
  have nd := sc__law_feed.nd
  exact (ss_cons (Q.asg (Q.nm 2 nd) (s_ite (Q.tcmp two_lt (Q.v 1) (Q.bf one_len bi.b_len (Q.cons (Q.v 0) sl_nil))) (Q.idx hr (Q.v 0) (Q.v 1)) (Q.op two_add (Q.op two_mul s_int (Q.v 1)) s_int)))
      (ss_cons (Q.asg (Q.nm 3 nd) (Q.bf2 (fn_max rfl) bi.b_max (Q.cons s_int (Q.cons (Q.op two_sub (Q.bf one_abs bi.b_abs (Q.cons (Q.v 2) sl_nil)) (Q.op two_pow s_int s_int)) sl_nil))))
      (ss_cons (Q.asg (Q.nm 4 nd) (Q.op two_mod (Q.bt one_int bi.b_int (Q.cons (Q.op two_add (Q.op two_add (Q.op two_mul (Q.v 2) s_int) (Q.op two_mul s_int (Q.v 1))) s_int) sl_nil)) s_int))
      (ss_cons (s_ret (Q.newl (Q.consT (Q.v 3) (Q.consT (Q.v 4) slT_nil))))
      ss_nil))))
theorem b__law_drawn_signs (bi : Bi B.mg) (co : ClsOk B.K cl G.sub) (hC : Cals B (Z0 cl xc d) (2 * d + 1) LL) (kk : Kls B (Z0 cl xc d) xc (2 * d + 1)) {f : Addr} {cdv : Value} {A : Around} {fr : List Env} {s : Shared} {H : Hp} {E : XK}
    (hr : Room (2 * d + 2) (A.deeper (envOfC "_law_drawn_signs" (defScope st__law_drawn_signs) s.heap.objs.size f cdv))) :
    PSs (cxOf (L2.CX B.P B.w) B.P B.w B.K B.mg B.base N__law_drawn_signs "_law_drawn_signs" (defScope st__law_drawn_signs) f cdv A fr s H E) (defBody st__law_drawn_signs) (tSs (Z0 cl xc d) (WF E) m__law_drawn_signs.body) := by
  have tk : Takes (cxOf (L2.CX B.P B.w) B.P B.w B.K B.mg B.base N__law_drawn_signs "_law_drawn_signs" (defScope st__law_drawn_signs) f cdv A fr s H E) (WF E) := takes_of rfl rfl rfl rfl
  have pw : PassesOwn (model B.P B.w) (A.deeper (envOfC "_law_drawn_signs" (defScope st__law_drawn_signs) s.heap.objs.size f cdv)) (envOfC "_law_drawn_signs" (defScope st__law_drawn_signs) s.heap.objs.size f cdv) (cxOf (L2.CX B.P B.w) B.P B.w B.K B.mg B.base N__law_drawn_signs "_law_drawn_signs" (defScope st__law_drawn_signs) f cdv A fr s H E).xe := passes_of (X := (cxOf (L2.CX B.P B.w) B.P B.w B.K B.mg B.base N__law_drawn_signs "_law_drawn_signs" (defScope st__law_drawn_signs) f cdv A fr s H E)) rfl
  have nd := sc__law_drawn_signs.nd
  exact (ss_cons (s_if (Q.tcmp two_gt (Q.call (hC 5 ("_law_take", 108, 2, false) rfl) hr (fun h => Bool.noConfusion h) tk (Q.cons (Q.v 0) (Q.cons s_int sl_nil))) s_int) (ss_cons (s_ret (Q.call (hC 10 ("_law_pick", 102, 2, false) rfl) hr (fun h => Bool.noConfusion h) tk (Q.cons (Q.v 0) (Q.cons (Q.call0 (hC 9 ("_law_known_signs", 130, 0, false) rfl) hr (fun h => Bool.noConfusion h) tk) sl_nil))))
      ss_nil) ss_nil)
      (ss_cons (Q.asg (Q.nm 1 nd) (Q.call (hC 10 ("_law_pick", 102, 2, false) rfl) hr (fun h => Bool.noConfusion h) tk (Q.cons (Q.v 0) (Q.cons (Q.lst (Q.consT (Q.lst (Q.consT s_str (Q.consT s_str (Q.consT s_str (Q.consT s_str slT_nil))))) (Q.consT (Q.lst (Q.consT s_str (Q.consT s_str (Q.consT s_str (Q.consT s_str slT_nil))))) (Q.consT (Q.lst (Q.consT s_str (Q.consT s_str (Q.consT s_str (Q.consT s_str slT_nil))))) slT_nil)))) sl_nil))))
      (ss_cons (Q.par3 2 3 4 nd (Q.cons (Q.op two_add s_int (Q.call (hC 5 ("_law_take", 108, 2, false) rfl) hr (fun h => Bool.noConfusion h) tk (Q.cons (Q.v 0) (Q.cons s_int sl_nil)))) (Q.cons (Q.newl slT_nil) (Q.cons s_int sl_nil))))
      (ss_cons (Q.fr pw (Q.nm 5 nd) (Q.rng1 bi.b_range (Q.cons (Q.v 2) sl_nil)) (ss_cons (Q.asg (Q.nm 6 nd) (Q.call (hC 5 ("_law_take", 108, 2, false) rfl) hr (fun h => Bool.noConfusion h) tk (Q.cons (Q.v 0) (Q.cons (s_ite (Q.tcmp two_lt (Q.v 4) s_int) s_int s_int) sl_nil))))
      (ss_cons (Q.asg (Q.nm 4 nd) (Q.op two_add (Q.v 4) (Q.bt one_int bi.b_int (Q.cons (Q.cmp two_ge (Q.v 6) s_int) sl_nil))))
      (ss_cons (Q.ex (Q.app (Q.v 3) (Q.tup (Q.consT (Q.idx hr (Q.v 1) (Q.v 5)) (Q.consT (Q.v 6) slT_nil)))))
      ss_nil))))
      (ss_cons (s_ret (s_fz (Q.v 3)))
      ss_nil)))))
theorem b__law_made (bi : Bi B.mg) (co : ClsOk B.K cl G.sub) (hC : Cals B (Z0 cl xc d) (2 * d + 1) LL) (kk : Kls B (Z0 cl xc d) xc (2 * d + 1)) {f : Addr} {cdv : Value} {A : Around} {fr : List Env} {s : Shared} {H : Hp} {E : XK}
    (hr : Room (2 * d + 2) (A.deeper (envOfC "_law_made" (defScope st__law_made) s.heap.objs.size f cdv))) :
    PSs (cxOf (L2.CX B.P B.w) B.P B.w B.K B.mg B.base N__law_made "_law_made" (defScope st__law_made) f cdv A fr s H E) (defBody st__law_made) (tSs (Z0 cl xc d) (WF E) m__law_made.body) := by
  have tk : Takes (cxOf (L2.CX B.P B.w) B.P B.w B.K B.mg B.base N__law_made "_law_made" (defScope st__law_made) f cdv A fr s H E) (WF E) := takes_of rfl rfl rfl rfl
  have pw : PassesOwn (model B.P B.w) (A.deeper (envOfC "_law_made" (defScope st__law_made) s.heap.objs.size f cdv)) (envOfC "_law_made" (defScope st__law_made) s.heap.objs.size f cdv) (cxOf (L2.CX B.P B.w) B.P B.w B.K B.mg B.base N__law_made "_law_made" (defScope st__law_made) f cdv A fr s H E).xe := passes_of (X := (cxOf (L2.CX B.P B.w) B.P B.w B.K B.mg B.base N__law_made "_law_made" (defScope st__law_made) f cdv A fr s H E)) rfl
  have nd := sc__law_made.nd
  exact (ss_cons (Q.tryE rfl tk (fun W pn xe tk pw => (ss_cons (s_ret (s_fz (Q.make kk.mk_Signs hr tk (Q.cons (Q.v 0) sl_nil))))
      ss_nil)) (Q.hePlain kk.h_NoList (Q.suAny (fun _ _ _ => (ss_cons (s_ret (Q.tup (Q.consT s_str (Q.consT s_int slT_nil))))
      ss_nil))) (Q.hePlain kk.h_BadCount (Q.suAny (fun _ _ _ => (ss_cons (s_ret (Q.tup (Q.consT s_str (Q.consT s_int slT_nil))))
      ss_nil))) (Q.heNamed 1 nd kk.h_BadSign (su_retw (Q.xvF 1 rfl kk.v_BadSign_number) (fun _ h => by subst h; rfl) (fun _ h => by subst h; rfl)) Q.heNil))))
      ss_nil)
theorem b__law_is (bi : Bi B.mg) (co : ClsOk B.K cl G.sub) (hC : Cals B (Z0 cl xc d) (2 * d + 1) LL) (kk : Kls B (Z0 cl xc d) xc (2 * d + 1)) {f : Addr} {cdv : Value} {A : Around} {fr : List Env} {s : Shared} {H : Hp} {E : XK}
    (hr : Room (2 * d + 2) (A.deeper (envOfC "_law_is" (defScope st__law_is) s.heap.objs.size f cdv))) (gu : (A.deeper (envOfC "_law_is" (defScope st__law_is) s.heap.objs.size f cdv)).guards = some []) :
    PSs (cxOf (L2.CX B.P B.w) B.P B.w B.K B.mg B.base N__law_is "_law_is" (defScope st__law_is) f cdv A fr s H E) (defBody st__law_is) (tSs (Z0 cl xc d) (WF E) m__law_is_2.body) := by
  have tk : Takes (cxOf (L2.CX B.P B.w) B.P B.w B.K B.mg B.base N__law_is "_law_is" (defScope st__law_is) f cdv A fr s H E) (WF E) := takes_of rfl rfl rfl rfl
  have pw : PassesOwn (model B.P B.w) (A.deeper (envOfC "_law_is" (defScope st__law_is) s.heap.objs.size f cdv)) (envOfC "_law_is" (defScope st__law_is) s.heap.objs.size f cdv) (cxOf (L2.CX B.P B.w) B.P B.w B.K B.mg B.base N__law_is "_law_is" (defScope st__law_is) f cdv A fr s H E).xe := passes_of (X := (cxOf (L2.CX B.P B.w) B.P B.w B.K B.mg B.base N__law_is "_law_is" (defScope st__law_is) f cdv A fr s H E)) rfl
  have nd := sc__law_is.nd
  exact (ss_cons (s_if (Q.tpw (sw_or2 (st_not (Q.tv (Q.isC 0 kk.is_Signs co bi.b_isinstance (Q.v 0)))) (Q.tcmp (two_ne (u64 hr)) (Q.lenO kk.o_Signs__len__ hr bi.b_len (Q.v 0)) (Q.bf one_len bi.b_len (Q.cons (Q.v 1) sl_nil))))) (ss_cons (s_ret s_bl)
      ss_nil) ss_nil)
      (ss_cons (Q.par2 2 3 nd (Q.cons (Q.prop kk.p_Signs_names hr (Q.v 0)) (Q.cons (Q.prop kk.p_Signs_ways hr (Q.v 0)) sl_nil)))
      (ss_cons (s_if (Q.tpw (sw_or2 (Q.tcmp (two_ne (u64 hr)) (Q.v 2) (Q.comp [("name", 4), ("arity", 5)] nd (si_of (Q.v 1)) (blkOk_by (N := N__law_is) (sc := defScope st__law_is) (own := [("name", 4), ("arity", 5)]) (by decide +kernel)) (fun _ _ _ _ _ => (Q.gtup (Q.nms 4 nd (Q.nms 5 nd sgs_nil)))) (fun _ _ _ _ _ => spt_nil) (fun _ _ _ _ _ => (Q.v 4)))) (Q.tcmp (two_ne (u64 hr)) (Q.v 3) (Q.call (hC 11 ("_law_ways", 140, 1, false) rfl) hr (fun h => Bool.noConfusion h) tk (Q.cons (Q.v 1) sl_nil))))) (ss_cons (s_ret s_bl)
      ss_nil) ss_nil)
      (ss_cons (Q.ex (Q.app (Q.v 2) s_non))
      (ss_cons (Q.ex (Q.app (Q.v 3) s_non))
      (ss_cons (s_if (Q.tpw (sw_or2 (Q.tcmp (two_ne (u64 hr)) (Q.prop kk.p_Signs_names hr (Q.v 0)) (Q.comp [("name", 4), ("arity", 5)] nd (si_of (Q.v 1)) (blkOk_by (N := N__law_is) (sc := defScope st__law_is) (own := [("name", 4), ("arity", 5)]) (by decide +kernel)) (fun _ _ _ _ _ => (Q.gtup (Q.nms 4 nd (Q.nms 5 nd sgs_nil)))) (fun _ _ _ _ _ => spt_nil) (fun _ _ _ _ _ => (Q.v 4)))) (Q.tcmp (two_ne (u64 hr)) (Q.prop kk.p_Signs_ways hr (Q.v 0)) (Q.call (hC 11 ("_law_ways", 140, 1, false) rfl) hr (fun h => Bool.noConfusion h) tk (Q.cons (Q.v 1) sl_nil))))) (ss_cons (s_ret s_bl)
      ss_nil) ss_nil)
      (ss_cons (Q.fr pw (Q.gtup (Q.nms 4 nd (Q.nms 5 nd sgs_nil))) (si_of (Q.v 1)) (ss_cons (s_if (Q.tpw (sw_or2 (Q.tcmp (two_ne (u64 hr)) (Q.call (hC 7 ("_law_arity", 135, 2, true) rfl) hr (fun _ => gu) tk (Q.cons (Q.v 0) (Q.cons (Q.v 4) sl_nil))) (Q.v 5)) (Q.tnotinO kk.o_Signs__contains__ hr (Q.v 4) (Q.v 0)))) (ss_cons (s_ret s_bl)
      ss_nil) ss_nil)
      ss_nil))
      (ss_cons (s_ret (s_and2 (Q.eqQ kk.o_Signs__eq__ hr (Q.v 0) (s_fz (Q.make kk.mk_Signs hr tk (Q.cons (Q.bt (one_list rfl) bi.b_list (Q.cons (Q.v 1) sl_nil)) sl_nil)))) (Q.neQ kk.ne_Signs kk.o_Signs__eq__ hr (Q.v 0) (Q.v 1))))
      ss_nil))))))))
theorem b__law_take (bi : Bi B.mg) (co : ClsOk B.K cl G.sub) (hC : Cals B (Z0 cl xc d) (2 * d + 1) LL) (kk : Kls B (Z0 cl xc d) xc (2 * d + 1)) {f : Addr} {cdv : Value} {A : Around} {fr : List Env} {s : Shared} {H : Hp} {E : XK}
    (hr : Room (2 * d + 2) (A.deeper (envOfC "_law_take" (defScope st__law_take) s.heap.objs.size f cdv))) :
    PSs (cxOf (L2.CX B.P B.w) B.P B.w B.K B.mg B.base N__law_take "_law_take" (defScope st__law_take) f cdv A fr s H E) (defBody st__law_take) (tSs (Z0 cl xc d) (WF E) m__law_take.body) := by
  have tk : Takes (cxOf (L2.CX B.P B.w) B.P B.w B.K B.mg B.base N__law_take "_law_take" (defScope st__law_take) f cdv A fr s H E) (WF E) := takes_of rfl rfl rfl rfl
  have pw : PassesOwn (model B.P B.w) (A.deeper (envOfC "_law_take" (defScope st__law_take) s.heap.objs.size f cdv)) (envOfC "_law_take" (defScope st__law_take) s.heap.objs.size f cdv) (cxOf (L2.CX B.P B.w) B.P B.w B.K B.mg B.base N__law_take "_law_take" (defScope st__law_take) f cdv A fr s H E).xe := passes_of (X := (cxOf (L2.CX B.P B.w) B.P B.w B.K B.mg B.base N__law_take "_law_take" (defScope st__law_take) f cdv A fr s H E)) rfl
  have nd := sc__law_take.nd
  exact (ss_cons (s_if (Q.tcmp two_gt (Q.idx hr (Q.v 0) s_int) s_int) (ss_cons (Q.asg (Q.nm 2 nd) (Q.op two_mod (Q.bt one_int bi.b_int (Q.cons (Q.idx hr (Q.v 0) s_int) sl_nil)) (Q.v 1)))
      (ss_cons (Q.seti hr (Q.v 0) s_int (Q.op two_fdiv (Q.idx hr (Q.v 0) s_int) (Q.v 1)))
      (ss_cons (s_ret (Q.v 2))
      ss_nil))) ss_nil)
      (ss_cons (Q.seti hr (Q.v 0) s_int (Q.op two_mod (Q.bt one_int bi.b_int (Q.cons (Q.op two_add (Q.op two_mul (Q.idx hr (Q.v 0) s_int) s_int) s_int) sl_nil)) s_int))
      (ss_cons (s_ret (Q.op two_mod (Q.bt one_int bi.b_int (Q.cons (Q.op two_fdiv (Q.idx hr (Q.v 0) s_int) s_int) sl_nil)) (Q.v 1)))
      ss_nil)))
theorem b__law_odd_pairs (bi : Bi B.mg) (co : ClsOk B.K cl G.sub) (hC : Cals B (Z0 cl xc d) (2 * d + 1) LL) (kk : Kls B (Z0 cl xc d) xc (2 * d + 1)) {f : Addr} {cdv : Value} {A : Around} {fr : List Env} {s : Shared} {H : Hp} {E : XK}
    (hr : Room (2 * d + 2) (A.deeper (envOfC "_law_odd_pairs" (defScope st__law_odd_pairs) s.heap.objs.size f cdv))) :
    PSs (cxOf (L2.CX B.P B.w) B.P B.w B.K B.mg B.base N__law_odd_pairs "_law_odd_pairs" (defScope st__law_odd_pairs) f cdv A fr s H E) (defBody st__law_odd_pairs) (tSs (Z0 cl xc d) (WF E) m__law_odd_pairs.body) := by
  have tk : Takes (cxOf (L2.CX B.P B.w) B.P B.w B.K B.mg B.base N__law_odd_pairs "_law_odd_pairs" (defScope st__law_odd_pairs) f cdv A fr s H E) (WF E) := takes_of rfl rfl rfl rfl
  have pw : PassesOwn (model B.P B.w) (A.deeper (envOfC "_law_odd_pairs" (defScope st__law_odd_pairs) s.heap.objs.size f cdv)) (envOfC "_law_odd_pairs" (defScope st__law_odd_pairs) s.heap.objs.size f cdv) (cxOf (L2.CX B.P B.w) B.P B.w B.K B.mg B.base N__law_odd_pairs "_law_odd_pairs" (defScope st__law_odd_pairs) f cdv A fr s H E).xe := passes_of (X := (cxOf (L2.CX B.P B.w) B.P B.w B.K B.mg B.base N__law_odd_pairs "_law_odd_pairs" (defScope st__law_odd_pairs) f cdv A fr s H E)) rfl
  have nd := sc__law_odd_pairs.nd
  exact (ss_cons (Q.asg (Q.nm 1 nd) (Q.lst (Q.consT s_non (Q.consT (Q.tup slT_nil) (Q.consT (Q.tup (Q.consT (Q.v 0) slT_nil)) (Q.consT (Q.lst (Q.consT (Q.v 0) (Q.consT s_int slT_nil))) (Q.consT (Q.tup (Q.consT (Q.v 0) (Q.consT s_int (Q.consT s_int slT_nil)))) (Q.consT (Q.tup (Q.consT (Q.v 0) (Q.consT s_int slT_nil))) (Q.consT (Q.tup (Q.consT (Q.v 0) (Q.consT (Q.neg s_int) slT_nil))) (Q.consT (Q.tup (Q.consT (Q.v 0) (Q.consT s_bl slT_nil))) (Q.consT (Q.tup (Q.consT (Q.v 0) (Q.consT s_non slT_nil))) (Q.consT (Q.v 0) (Q.consT s_int slT_nil)))))))))))))
      (ss_cons (Q.asg (Q.nm 1 nd) (Q.op two_add (Q.v 1) (Q.lst (Q.consT (Q.tup (Q.consT s_str (Q.consT s_int slT_nil))) (Q.consT (Q.tup (Q.consT s_str (Q.consT s_int slT_nil))) (Q.consT (Q.tup (Q.consT s_str (Q.consT s_int slT_nil))) (Q.consT (Q.tup (Q.consT s_str (Q.consT s_int slT_nil))) (Q.consT (Q.tup (Q.consT s_non (Q.consT s_int slT_nil))) (Q.consT (Q.tup (Q.consT s_int (Q.consT s_int slT_nil))) (Q.consT (Q.tup (Q.consT (Q.tup (Q.consT s_str slT_nil)) (Q.consT s_int slT_nil))) (Q.consT (Q.tup (Q.consT (Q.lst (Q.consT s_str slT_nil)) (Q.consT s_int slT_nil))) (Q.consT (Q.tup (Q.consT s_str (Q.consT s_int slT_nil))) slT_nil))))))))))))
      (ss_cons (Q.asg (Q.nm 1 nd) (Q.op two_add (Q.v 1) (Q.lst (Q.consT (Q.tup (Q.consT s_str (Q.consT s_int slT_nil))) (Q.consT (Q.tup (Q.consT s_str (Q.consT s_int slT_nil))) (Q.consT (Q.tup (Q.consT s_str (Q.consT s_int slT_nil))) (Q.consT (Q.tup (Q.consT (Q.op two_mul s_str s_int) (Q.consT s_int slT_nil))) slT_nil)))))))
      (ss_cons (s_ret (Q.op two_add (Q.v 1) (Q.lst (Q.consT (Q.tup (Q.consT (Q.v 0) (Q.consT s_str slT_nil))) (Q.consT (Q.tup (Q.consT (Q.v 0) (Q.consT (Q.tup (Q.consT s_int slT_nil)) slT_nil))) (Q.consT (Q.tup (Q.consT (Q.v 0) (Q.consT (Q.lst (Q.consT s_int slT_nil)) slT_nil))) (Q.consT (Q.tup (Q.consT (Q.v 0) (Q.consT s_bl slT_nil))) (Q.consT (Q.tup (Q.consT s_str (Q.consT s_int slT_nil))) (Q.consT (Q.tup (Q.consT s_str (Q.consT s_int slT_nil))) (Q.consT (Q.tup (Q.consT (Q.v 0) (Q.consT (Q.op two_pow s_int s_int) slT_nil))) slT_nil))))))))))
      ss_nil))))
theorem b__law_arity (bi : Bi B.mg) (co : ClsOk B.K cl G.sub) (hC : Cals B (Z0 cl xc d) (2 * d + 1) LL) (kk : Kls B (Z0 cl xc d) xc (2 * d + 1)) {f : Addr} {cdv : Value} {A : Around} {fr : List Env} {s : Shared} {H : Hp} {E : XK}
    (hr : Room (2 * d + 2) (A.deeper (envOfC "_law_arity" (defScope st__law_arity) s.heap.objs.size f cdv))) (gu : (A.deeper (envOfC "_law_arity" (defScope st__law_arity) s.heap.objs.size f cdv)).guards = some []) :
    PSs (cxOf (L2.CX B.P B.w) B.P B.w B.K B.mg B.base N__law_arity "_law_arity" (defScope st__law_arity) f cdv A fr s H E) (defBody st__law_arity) (tSs (Z0 cl xc d) (WF E) m__law_arity.body) := by
  have tk : Takes (cxOf (L2.CX B.P B.w) B.P B.w B.K B.mg B.base N__law_arity "_law_arity" (defScope st__law_arity) f cdv A fr s H E) (WF E) := takes_of rfl rfl rfl rfl
  have pw : PassesOwn (model B.P B.w) (A.deeper (envOfC "_law_arity" (defScope st__law_arity) s.heap.objs.size f cdv)) (envOfC "_law_arity" (defScope st__law_arity) s.heap.objs.size f cdv) (cxOf (L2.CX B.P B.w) B.P B.w B.K B.mg B.base N__law_arity "_law_arity" (defScope st__law_arity) f cdv A fr s H E).xe := passes_of (X := (cxOf (L2.CX B.P B.w) B.P B.w B.K B.mg B.base N__law_arity "_law_arity" (defScope st__law_arity) f cdv A fr s H E)) rfl
  have nd := sc__law_arity.nd
  exact (ss_cons (Q.tryE rfl tk (fun W pn xe tk pw => (ss_cons (s_ret (Q.meth kk.m_Signs_arity hr (fun h => Bool.noConfusion h) tk (Q.v 0) (Q.cons (Q.v 1) sl_nil)))
      ss_nil)) (Q.heNamed 2 nd kk.h_NoSign (su_retw (xv_repr gu (u70 hr) rfl bi.b_repr (Q.xvF 2 rfl kk.v_NoSign_name) (fun _ h => by subst h; rfl) (fun _ h => by subst h; rfl)) (fun _ h => by subst h; rfl) (fun _ h => by subst h; rfl)) Q.heNil))
      ss_nil)
theorem b_Signs___contains__ (bi : Bi B.mg) (co : ClsOk B.K cl G.sub) (hC : Cals B (Z0 cl xc d) (2 * d + 1) LL) (kk : Kls B (Z0 cl xc d) xc (2 * d + 1)) {f : Addr} {cdv : Value} {A : Around} {fr : List Env} {s : Shared} {H : Hp} {E : XK}
    (hr : Room (2 * d + 2) (A.deeper (envOfC "Signs.__contains__" (defScope st_Signs___contains__) s.heap.objs.size f cdv))) :
    PSs (cxOf (L2.CX B.P B.w) B.P B.w B.K B.mg B.base N_Signs___contains__ "Signs.__contains__" (defScope st_Signs___contains__) f cdv A fr s H E) (defBody st_Signs___contains__) (tSs (Z0 cl xc d) (WF E) m_Signs___contains__.body) := by
  have tk : Takes (cxOf (L2.CX B.P B.w) B.P B.w B.K B.mg B.base N_Signs___contains__ "Signs.__contains__" (defScope st_Signs___contains__) f cdv A fr s H E) (WF E) := takes_of rfl rfl rfl rfl
  have pw : PassesOwn (model B.P B.w) (A.deeper (envOfC "Signs.__contains__" (defScope st_Signs___contains__) s.heap.objs.size f cdv)) (envOfC "Signs.__contains__" (defScope st_Signs___contains__) s.heap.objs.size f cdv) (cxOf (L2.CX B.P B.w) B.P B.w B.K B.mg B.base N_Signs___contains__ "Signs.__contains__" (defScope st_Signs___contains__) f cdv A fr s H E).xe := passes_of (X := (cxOf (L2.CX B.P B.w) B.P B.w B.K B.mg B.base N_Signs___contains__ "Signs.__contains__" (defScope st_Signs___contains__) f cdv A fr s H E)) rfl
  have nd := sc_Signs___contains__.nd
  exact (ss_cons (s_ret (s_and2 (Q.isi .tstr co bi.b_isinstance bi.b_str (Q.v 1)) (Q.cmp (two_in (u65 hr)) (Q.v 1) (Q.fld kk.n_Signs_held (Q.v 0)))))
      ss_nil)
theorem b__law_near_right (bi : Bi B.mg) (co : ClsOk B.K cl G.sub) (hC : Cals B (Z0 cl xc d) (2 * d + 1) LL) (kk : Kls B (Z0 cl xc d) xc (2 * d + 1)) {f : Addr} {cdv : Value} {A : Around} {fr : List Env} {s : Shared} {H : Hp} {E : XK}
    (hr : Room (2 * d + 2) (A.deeper (envOfC "_law_near_right" (defScope st__law_near_right) s.heap.objs.size f cdv))) (gu : (A.deeper (envOfC "_law_near_right" (defScope st__law_near_right) s.heap.objs.size f cdv)).guards = some []) :
    PSs (cxOf (L2.CX B.P B.w) B.P B.w B.K B.mg B.base N__law_near_right "_law_near_right" (defScope st__law_near_right) f cdv A fr s H E) (defBody st__law_near_right) (tSs (Z0 cl xc d) (WF E) m__law_near_right.body) := by
  have tk : Takes (cxOf (L2.CX B.P B.w) B.P B.w B.K B.mg B.base N__law_near_right "_law_near_right" (defScope st__law_near_right) f cdv A fr s H E) (WF E) := takes_of rfl rfl rfl rfl
  have pw : PassesOwn (model B.P B.w) (A.deeper (envOfC "_law_near_right" (defScope st__law_near_right) s.heap.objs.size f cdv)) (envOfC "_law_near_right" (defScope st__law_near_right) s.heap.objs.size f cdv) (cxOf (L2.CX B.P B.w) B.P B.w B.K B.mg B.base N__law_near_right "_law_near_right" (defScope st__law_near_right) f cdv A fr s H E).xe := passes_of (X := (cxOf (L2.CX B.P B.w) B.P B.w B.K B.mg B.base N__law_near_right "_law_near_right" (defScope st__law_near_right) f cdv A fr s H E)) rfl
  have nd := sc__law_near_right.nd
  exact (ss_cons (s_if (Q.tcmp (two_ne (u64 hr)) (Q.comp [("some", 5)] nd (si_of (Q.call (hC 12 ("_law_near_signs", 141, 1, false) rfl) hr (fun h => Bool.noConfusion h) tk (Q.cons (Q.v 2) sl_nil))) (blkOk_by (N := N__law_near_right) (sc := defScope st__law_near_right) (own := [("some", 5)]) (by decide +kernel)) (fun _ _ _ _ _ => (Q.nm 5 nd)) (fun _ _ _ _ _ => (spt_one (Q.teqQ kk.o_Signs__eq__ hr (Q.v 1) (s_fz (Q.make kk.mk_Signs hr takes0 (Q.cons (Q.bt (one_list rfl) bi.b_list (Q.cons (Q.v 5) sl_nil)) sl_nil)))))) (fun _ _ _ _ _ => (Q.v 5))) (Q.lst slT_nil)) (ss_cons (s_ret s_bl)
      ss_nil) ss_nil)
      (ss_cons (Q.asg (Q.nm 3 nd) s_str)
      (ss_cons (Q.asg (Q.nm 4 nd) (Q.join s_str (Q.comp [("turn", 6)] nd (Q.rng1 bi.b_range (Q.cons (Q.op two_add s_int (Q.call (hC 5 ("_law_take", 108, 2, false) rfl) hr (fun h => Bool.noConfusion h) tk (Q.cons (Q.v 0) (Q.cons s_int sl_nil)))) sl_nil)) (blkOk_by (N := N__law_near_right) (sc := defScope st__law_near_right) (own := [("turn", 6)]) (by decide +kernel)) (fun _ _ _ _ _ => (Q.nm 6 nd)) (fun _ _ _ _ _ => spt_nil) (fun _ _ _ _ _ => (Q.call (hC 10 ("_law_pick", 102, 2, false) rfl) hr (fun h => Bool.noConfusion h) takes0 (Q.cons (Q.v 0) (Q.cons (Q.v 3) sl_nil)))))))
      (ss_cons (s_ret (s_and2 (Q.neQ kk.ne_Signs kk.o_Signs__eq__ hr (s_fz (Q.make kk.mk_Signs hr tk (Q.cons (Q.lst (Q.consT (Q.tup (Q.consT s_str (Q.consT s_int slT_nil))) slT_nil)) sl_nil))) (s_fz (Q.make kk.mk_Signs hr tk (Q.cons (Q.lst (Q.consT (Q.tup (Q.consT s_str (Q.consT s_int slT_nil))) slT_nil)) sl_nil)))) (Q.call (hC 4 ("_law_is", 133, 2, true) rfl) hr (fun _ => gu) tk (Q.cons (Q.call (hC 3 ("_law_made", 132, 1, false) rfl) hr (fun h => Bool.noConfusion h) tk (Q.cons (Q.lst (Q.consT (Q.tup (Q.consT (Q.v 4) (Q.consT s_int slT_nil))) slT_nil)) sl_nil)) (Q.cons (Q.lst (Q.consT (Q.tup (Q.consT (Q.v 4) (Q.consT s_int slT_nil))) slT_nil)) sl_nil)))))
      ss_nil))))
theorem b_Signs___init__ (bi : Bi B.mg) (co : ClsOk B.K cl G.sub) (hC : Cals B (Z0 cl xc d) (2 * d + 1) LL) (kk : Kls B (Z0 cl xc d) xc (2 * d + 1)) {f : Addr} {cdv : Value} {A : Around} {fr : List Env} {s : Shared} {H : Hp} {E : XK}
    (hr : Room (2 * d + 2) (A.deeper (envOfC "Signs.__init__" (defScope st_Signs___init__) s.heap.objs.size f cdv))) :
    PSs (cxOf (L2.CX B.P B.w) B.P B.w B.K B.mg B.base N_Signs___init__ "Signs.__init__" (defScope st_Signs___init__) f cdv A fr s H E) (defBody st_Signs___init__) (tSs (Z0 cl xc d) (WF E) m_Signs___init__.body) := by
  have tk : Takes (cxOf (L2.CX B.P B.w) B.P B.w B.K B.mg B.base N_Signs___init__ "Signs.__init__" (defScope st_Signs___init__) f cdv A fr s H E) (WF E) := takes_of rfl rfl rfl rfl
  have pw : PassesOwn (model B.P B.w) (A.deeper (envOfC "Signs.__init__" (defScope st_Signs___init__) s.heap.objs.size f cdv)) (envOfC "Signs.__init__" (defScope st_Signs___init__) s.heap.objs.size f cdv) (cxOf (L2.CX B.P B.w) B.P B.w B.K B.mg B.base N_Signs___init__ "Signs.__init__" (defScope st_Signs___init__) f cdv A fr s H E).xe := passes_of (X := (cxOf (L2.CX B.P B.w) B.P B.w B.K B.mg B.base N_Signs___init__ "Signs.__init__" (defScope st_Signs___init__) f cdv A fr s H E)) rfl
  have nd := sc_Signs___init__.nd
  exact (ss_cons (s_if (st_not (Q.tv (Q.isi .tlist co bi.b_isinstance bi.b_list (Q.v 1)))) (ss_cons (Q.raise0_ rfl kk.x_NoList tk)
      ss_nil) ss_nil)
      (ss_cons (s_if (st_not (Q.tch two_le two_le s_int (Q.bf one_len bi.b_len (Q.cons (Q.v 1) sl_nil)) (Q.con kk.c_MOST_SIGNS))) (ss_cons (Q.raise0_ rfl kk.x_BadCount tk)
      ss_nil) ss_nil)
      (ss_cons (Q.asg (Q.nm 2 nd) s_newd)
      (ss_cons (Q.fr pw (Q.gtup (Q.nms 3 nd (Q.nms 4 nd sgs_nil))) (Q.enum bi.b_enumerate (Q.v 1)) (ss_cons (s_if (Q.tpw (sw_or (st_not (Q.tv (Q.isi .ttuple co bi.b_isinstance bi.b_tuple (Q.v 4)))) (sw_or2 (Q.tcmp (two_ne (u64 hr)) (Q.bf one_len bi.b_len (Q.cons (Q.v 4) sl_nil)) s_int) (st_not (Q.tv (Q.call (hC 13 ("is_word", 113, 2, false) rfl) hr (fun h => Bool.noConfusion h) tk (Q.cons (Q.idx hr (Q.v 4) s_int) (Q.cons (Q.con kk.c_SMALL) sl_nil)))))))) (ss_cons (Q.raise1_ rfl kk.x_BadSign hr tk (Q.v 3))
      ss_nil) ss_nil)
      (ss_cons (s_if (Q.tpw (sw_or2 (st_not (Q.tv (Q.call (hC 14 ("within", 114, 3, false) rfl) hr (fun h => Bool.noConfusion h) tk (Q.cons (Q.idx hr (Q.v 4) s_int) (Q.cons s_int (Q.cons (Q.con kk.c_MOST_ARITY) sl_nil)))))) (Q.tcmp (two_in (u65 hr)) (Q.idx hr (Q.v 4) s_int) (Q.v 2)))) (ss_cons (Q.raise1_ rfl kk.x_BadSign hr tk (Q.v 3))
      ss_nil) ss_nil)
      (ss_cons (Q.seti hr (Q.v 2) (Q.idx hr (Q.v 4) s_int) (Q.idx hr (Q.v 4) s_int))
      ss_nil))))
      (ss_cons (Q.setf kk.n_Signs_held (Q.v 0) (s_fz (Q.v 2)))
      ss_nil)))))
theorem b_Signs___eq__ (bi : Bi B.mg) (co : ClsOk B.K cl G.sub) (hC : Cals B (Z0 cl xc d) (2 * d + 1) LL) (kk : Kls B (Z0 cl xc d) xc (2 * d + 1)) {f : Addr} {cdv : Value} {A : Around} {fr : List Env} {s : Shared} {H : Hp} {E : XK}
    (hr : Room (2 * d + 2) (A.deeper (envOfC "Signs.__eq__" (defScope st_Signs___eq__) s.heap.objs.size f cdv))) :
    PSs (cxOf (L2.CX B.P B.w) B.P B.w B.K B.mg B.base N_Signs___eq__ "Signs.__eq__" (defScope st_Signs___eq__) f cdv A fr s H E) (defBody st_Signs___eq__) (tSs (Z0 cl xc d) (WF E) m_Signs___eq__.body) := by
  have tk : Takes (cxOf (L2.CX B.P B.w) B.P B.w B.K B.mg B.base N_Signs___eq__ "Signs.__eq__" (defScope st_Signs___eq__) f cdv A fr s H E) (WF E) := takes_of rfl rfl rfl rfl
  have pw : PassesOwn (model B.P B.w) (A.deeper (envOfC "Signs.__eq__" (defScope st_Signs___eq__) s.heap.objs.size f cdv)) (envOfC "Signs.__eq__" (defScope st_Signs___eq__) s.heap.objs.size f cdv) (cxOf (L2.CX B.P B.w) B.P B.w B.K B.mg B.base N_Signs___eq__ "Signs.__eq__" (defScope st_Signs___eq__) f cdv A fr s H E).xe := passes_of (X := (cxOf (L2.CX B.P B.w) B.P B.w B.K B.mg B.base N_Signs___eq__ "Signs.__eq__" (defScope st_Signs___eq__) f cdv A fr s H E)) rfl
  have nd := sc_Signs___eq__.nd
  exact (ss_cons (s_ret (s_and2 (Q.isC 0 kk.is_Signs co bi.b_isinstance (Q.v 1)) (Q.cmp (two_eq (u64 hr)) (Q.items bi.b_list (Q.fld kk.n_Signs_held (Q.v 0))) (Q.items bi.b_list (Q.fld kk.n_Signs_held (Q.v 1))))))
      ss_nil)
theorem b__law_known_signs (bi : Bi B.mg) (co : ClsOk B.K cl G.sub) (hC : Cals B (Z0 cl xc d) (2 * d + 1) LL) (kk : Kls B (Z0 cl xc d) xc (2 * d + 1)) {f : Addr} {cdv : Value} {A : Around} {fr : List Env} {s : Shared} {H : Hp} {E : XK}
    (hr : Room (2 * d + 2) (A.deeper (envOfC "_law_known_signs" (defScope st__law_known_signs) s.heap.objs.size f cdv))) :
    PSs (cxOf (L2.CX B.P B.w) B.P B.w B.K B.mg B.base N__law_known_signs "_law_known_signs" (defScope st__law_known_signs) f cdv A fr s H E) (defBody st__law_known_signs) (tSs (Z0 cl xc d) (WF E) m__law_known_signs.body) := by
  have tk : Takes (cxOf (L2.CX B.P B.w) B.P B.w B.K B.mg B.base N__law_known_signs "_law_known_signs" (defScope st__law_known_signs) f cdv A fr s H E) (WF E) := takes_of rfl rfl rfl rfl
  have pw : PassesOwn (model B.P B.w) (A.deeper (envOfC "_law_known_signs" (defScope st__law_known_signs) s.heap.objs.size f cdv)) (envOfC "_law_known_signs" (defScope st__law_known_signs) s.heap.objs.size f cdv) (cxOf (L2.CX B.P B.w) B.P B.w B.K B.mg B.base N__law_known_signs "_law_known_signs" (defScope st__law_known_signs) f cdv A fr s H E).xe := passes_of (X := (cxOf (L2.CX B.P B.w) B.P B.w B.K B.mg B.base N__law_known_signs "_law_known_signs" (defScope st__law_known_signs) f cdv A fr s H E)) rfl
  have nd := sc__law_known_signs.nd
  exact (ss_cons (Q.asg (Q.nm 0 nd) (Q.lst (Q.consT (Q.lst (Q.consT (Q.tup (Q.consT s_str (Q.consT s_int slT_nil))) (Q.consT (Q.tup (Q.consT s_str (Q.consT s_int slT_nil))) (Q.consT (Q.tup (Q.consT s_str (Q.consT s_int slT_nil))) slT_nil)))) (Q.consT (Q.lst (Q.consT (Q.tup (Q.consT s_str (Q.consT s_int slT_nil))) (Q.consT (Q.tup (Q.consT s_str (Q.consT s_int slT_nil))) (Q.consT (Q.tup (Q.consT s_str (Q.consT s_int slT_nil))) slT_nil)))) (Q.consT (Q.lst (Q.consT (Q.tup (Q.consT s_str (Q.consT s_int slT_nil))) (Q.consT (Q.tup (Q.consT s_str (Q.consT s_int slT_nil))) (Q.consT (Q.tup (Q.consT s_str (Q.consT s_int slT_nil))) slT_nil)))) slT_nil)))))
      (ss_cons (Q.asg (Q.nm 0 nd) (Q.op two_add (Q.v 0) (Q.lst (Q.consT (Q.lst (Q.consT (Q.tup (Q.consT s_str (Q.consT s_int slT_nil))) (Q.consT (Q.tup (Q.consT s_str (Q.consT s_int slT_nil))) (Q.consT (Q.tup (Q.consT s_str (Q.consT s_int slT_nil))) slT_nil)))) (Q.consT (Q.lst (Q.consT (Q.tup (Q.consT s_str (Q.consT s_int slT_nil))) (Q.consT (Q.tup (Q.consT s_str (Q.consT s_int slT_nil))) (Q.consT (Q.tup (Q.consT s_str (Q.consT s_int slT_nil))) slT_nil)))) (Q.consT (Q.lst (Q.consT (Q.tup (Q.consT s_str (Q.consT s_int slT_nil))) (Q.consT (Q.tup (Q.consT s_str (Q.consT s_int slT_nil))) (Q.consT (Q.tup (Q.consT s_str (Q.consT s_int slT_nil))) slT_nil)))) slT_nil))))))
      (ss_cons (Q.asg (Q.nm 0 nd) (Q.op two_add (Q.v 0) (Q.lst (Q.consT (Q.lst (Q.consT (Q.tup (Q.consT s_str (Q.consT s_int slT_nil))) (Q.consT (Q.tup (Q.consT s_str (Q.consT s_int slT_nil))) (Q.consT (Q.tup (Q.consT s_str (Q.consT s_int slT_nil))) slT_nil)))) (Q.consT (Q.lst (Q.consT (Q.tup (Q.consT s_str (Q.consT s_int slT_nil))) (Q.consT (Q.tup (Q.consT s_str (Q.consT s_int slT_nil))) (Q.consT (Q.tup (Q.consT s_str (Q.consT s_int slT_nil))) (Q.consT (Q.tup (Q.consT s_str (Q.consT s_int slT_nil))) slT_nil))))) slT_nil)))))
      (ss_cons (Q.asg (Q.nm 0 nd) (Q.op two_add (Q.v 0) (Q.lst (Q.consT (Q.lst (Q.consT (Q.tup (Q.consT s_str (Q.consT s_int slT_nil))) (Q.consT (Q.tup (Q.consT s_str (Q.consT s_int slT_nil))) (Q.consT (Q.tup (Q.consT s_str (Q.consT s_int slT_nil))) slT_nil)))) (Q.consT (Q.lst (Q.consT (Q.tup (Q.consT s_str (Q.consT s_int slT_nil))) (Q.consT (Q.tup (Q.consT s_str (Q.consT s_int slT_nil))) (Q.consT (Q.tup (Q.consT s_str (Q.consT s_int slT_nil))) slT_nil)))) slT_nil)))))
      (ss_cons (s_ret (Q.op two_add (Q.v 0) (Q.lst (Q.consT (Q.lst (Q.consT (Q.tup (Q.consT s_str (Q.consT s_int slT_nil))) (Q.consT (Q.tup (Q.consT s_str (Q.consT s_int slT_nil))) slT_nil))) (Q.consT (Q.lst (Q.consT (Q.tup (Q.consT s_str (Q.consT s_int slT_nil))) (Q.consT (Q.tup (Q.consT s_str (Q.consT s_int slT_nil))) (Q.consT (Q.tup (Q.consT s_str (Q.consT s_int slT_nil))) (Q.consT (Q.tup (Q.consT s_str (Q.consT s_int slT_nil))) slT_nil))))) (Q.consT (Q.lst (Q.consT (Q.tup (Q.consT s_str (Q.consT s_int slT_nil))) slT_nil)) slT_nil))))))
      ss_nil)))))
theorem b__law_pick (bi : Bi B.mg) (co : ClsOk B.K cl G.sub) (hC : Cals B (Z0 cl xc d) (2 * d + 1) LL) (kk : Kls B (Z0 cl xc d) xc (2 * d + 1)) {f : Addr} {cdv : Value} {A : Around} {fr : List Env} {s : Shared} {H : Hp} {E : XK}
    (hr : Room (2 * d + 2) (A.deeper (envOfC "_law_pick" (defScope st__law_pick) s.heap.objs.size f cdv))) :
    PSs (cxOf (L2.CX B.P B.w) B.P B.w B.K B.mg B.base N__law_pick "_law_pick" (defScope st__law_pick) f cdv A fr s H E) (defBody st__law_pick) (tSs (Z0 cl xc d) (WF E) m__law_pick.body) := by
  have tk : Takes (cxOf (L2.CX B.P B.w) B.P B.w B.K B.mg B.base N__law_pick "_law_pick" (defScope st__law_pick) f cdv A fr s H E) (WF E) := takes_of rfl rfl rfl rfl
  have pw : PassesOwn (model B.P B.w) (A.deeper (envOfC "_law_pick" (defScope st__law_pick) s.heap.objs.size f cdv)) (envOfC "_law_pick" (defScope st__law_pick) s.heap.objs.size f cdv) (cxOf (L2.CX B.P B.w) B.P B.w B.K B.mg B.base N__law_pick "_law_pick" (defScope st__law_pick) f cdv A fr s H E).xe := passes_of (X := (cxOf (L2.CX B.P B.w) B.P B.w B.K B.mg B.base N__law_pick "_law_pick" (defScope st__law_pick) f cdv A fr s H E)) rfl
  have nd := sc__law_pick.nd
  exact (ss_cons (s_ret (Q.idx hr (Q.v 1) (Q.call (hC 5 ("_law_take", 108, 2, false) rfl) hr (fun h => Bool.noConfusion h) tk (Q.cons (Q.v 0) (Q.cons (Q.bf one_len bi.b_len (Q.cons (Q.v 1) sl_nil)) sl_nil)))))
      ss_nil)
theorem b_Signs___len__ (bi : Bi B.mg) (co : ClsOk B.K cl G.sub) (hC : Cals B (Z0 cl xc d) (2 * d + 1) LL) (kk : Kls B (Z0 cl xc d) xc (2 * d + 1)) {f : Addr} {cdv : Value} {A : Around} {fr : List Env} {s : Shared} {H : Hp} {E : XK}
    (hr : Room (2 * d + 2) (A.deeper (envOfC "Signs.__len__" (defScope st_Signs___len__) s.heap.objs.size f cdv))) :
    PSs (cxOf (L2.CX B.P B.w) B.P B.w B.K B.mg B.base N_Signs___len__ "Signs.__len__" (defScope st_Signs___len__) f cdv A fr s H E) (defBody st_Signs___len__) (tSs (Z0 cl xc d) (WF E) m_Signs___len__.body) := by
  have tk : Takes (cxOf (L2.CX B.P B.w) B.P B.w B.K B.mg B.base N_Signs___len__ "Signs.__len__" (defScope st_Signs___len__) f cdv A fr s H E) (WF E) := takes_of rfl rfl rfl rfl
  have pw : PassesOwn (model B.P B.w) (A.deeper (envOfC "Signs.__len__" (defScope st_Signs___len__) s.heap.objs.size f cdv)) (envOfC "Signs.__len__" (defScope st_Signs___len__) s.heap.objs.size f cdv) (cxOf (L2.CX B.P B.w) B.P B.w B.K B.mg B.base N_Signs___len__ "Signs.__len__" (defScope st_Signs___len__) f cdv A fr s H E).xe := passes_of (X := (cxOf (L2.CX B.P B.w) B.P B.w B.K B.mg B.base N_Signs___len__ "Signs.__len__" (defScope st_Signs___len__) f cdv A fr s H E)) rfl
  have nd := sc_Signs___len__.nd
  exact (ss_cons (s_ret (Q.bf one_len bi.b_len (Q.cons (Q.fld kk.n_Signs_held (Q.v 0)) sl_nil)))
      ss_nil)
theorem b_Signs_names (bi : Bi B.mg) (co : ClsOk B.K cl G.sub) (hC : Cals B (Z0 cl xc d) (2 * d + 1) LL) (kk : Kls B (Z0 cl xc d) xc (2 * d + 1)) {f : Addr} {cdv : Value} {A : Around} {fr : List Env} {s : Shared} {H : Hp} {E : XK}
    (hr : Room (2 * d + 2) (A.deeper (envOfC "Signs.names" (defScope st_Signs_names) s.heap.objs.size f cdv))) :
    PSs (cxOf (L2.CX B.P B.w) B.P B.w B.K B.mg B.base N_Signs_names "Signs.names" (defScope st_Signs_names) f cdv A fr s H E) (defBody st_Signs_names) (tSs (Z0 cl xc d) (WF E) m_Signs_names_2.body) := by
  have tk : Takes (cxOf (L2.CX B.P B.w) B.P B.w B.K B.mg B.base N_Signs_names "Signs.names" (defScope st_Signs_names) f cdv A fr s H E) (WF E) := takes_of rfl rfl rfl rfl
  have pw : PassesOwn (model B.P B.w) (A.deeper (envOfC "Signs.names" (defScope st_Signs_names) s.heap.objs.size f cdv)) (envOfC "Signs.names" (defScope st_Signs_names) s.heap.objs.size f cdv) (cxOf (L2.CX B.P B.w) B.P B.w B.K B.mg B.base N_Signs_names "Signs.names" (defScope st_Signs_names) f cdv A fr s H E).xe := passes_of (X := (cxOf (L2.CX B.P B.w) B.P B.w B.K B.mg B.base N_Signs_names "Signs.names" (defScope st_Signs_names) f cdv A fr s H E)) rfl
  have nd := sc_Signs_names.nd
  exact (ss_cons (s_ret (Q.nwL bi.b_list (Q.fld kk.n_Signs_held (Q.v 0))))
      ss_nil)
theorem b_Signs_ways (bi : Bi B.mg) (co : ClsOk B.K cl G.sub) (hC : Cals B (Z0 cl xc d) (2 * d + 1) LL) (kk : Kls B (Z0 cl xc d) xc (2 * d + 1)) {f : Addr} {cdv : Value} {A : Around} {fr : List Env} {s : Shared} {H : Hp} {E : XK}
    (hr : Room (2 * d + 2) (A.deeper (envOfC "Signs.ways" (defScope st_Signs_ways) s.heap.objs.size f cdv))) :
    PSs (cxOf (L2.CX B.P B.w) B.P B.w B.K B.mg B.base N_Signs_ways "Signs.ways" (defScope st_Signs_ways) f cdv A fr s H E) (defBody st_Signs_ways) (tSs (Z0 cl xc d) (WF E) m_Signs_ways_2.body) := by
  have tk : Takes (cxOf (L2.CX B.P B.w) B.P B.w B.K B.mg B.base N_Signs_ways "Signs.ways" (defScope st_Signs_ways) f cdv A fr s H E) (WF E) := takes_of rfl rfl rfl rfl
  have pw : PassesOwn (model B.P B.w) (A.deeper (envOfC "Signs.ways" (defScope st_Signs_ways) s.heap.objs.size f cdv)) (envOfC "Signs.ways" (defScope st_Signs_ways) s.heap.objs.size f cdv) (cxOf (L2.CX B.P B.w) B.P B.w B.K B.mg B.base N_Signs_ways "Signs.ways" (defScope st_Signs_ways) f cdv A fr s H E).xe := passes_of (X := (cxOf (L2.CX B.P B.w) B.P B.w B.K B.mg B.base N_Signs_ways "Signs.ways" (defScope st_Signs_ways) f cdv A fr s H E)) rfl
  have nd := sc_Signs_ways.nd
  exact (ss_cons (s_ret (Q.nwS bi.b_sorted (Q.compF [("name", 1)] 0 kk.n_Signs_held nd (blkOk_by (N := N_Signs_ways) (sc := defScope st_Signs_ways) (own := [("name", 1)]) (by decide +kernel)) (fun _ _ _ _ _ => (Q.nm 1 nd)) (fun _ _ _ _ _ => (spt_one (Q.tcmp two_ge (Q.idx hr (Q.fld kk.n_Signs_held (Q.v 0)) (Q.v 1)) s_int))) (fun _ _ _ _ _ => (Q.v 1)))))
      ss_nil)
theorem b__law_ways (bi : Bi B.mg) (co : ClsOk B.K cl G.sub) (hC : Cals B (Z0 cl xc d) (2 * d + 1) LL) (kk : Kls B (Z0 cl xc d) xc (2 * d + 1)) {f : Addr} {cdv : Value} {A : Around} {fr : List Env} {s : Shared} {H : Hp} {E : XK}
    (hr : Room (2 * d + 2) (A.deeper (envOfC "_law_ways" (defScope st__law_ways) s.heap.objs.size f cdv))) :
    PSs (cxOf (L2.CX B.P B.w) B.P B.w B.K B.mg B.base N__law_ways "_law_ways" (defScope st__law_ways) f cdv A fr s H E) (defBody st__law_ways) (tSs (Z0 cl xc d) (WF E) m__law_ways.body) := by
  have tk : Takes (cxOf (L2.CX B.P B.w) B.P B.w B.K B.mg B.base N__law_ways "_law_ways" (defScope st__law_ways) f cdv A fr s H E) (WF E) := takes_of rfl rfl rfl rfl
  have pw : PassesOwn (model B.P B.w) (A.deeper (envOfC "_law_ways" (defScope st__law_ways) s.heap.objs.size f cdv)) (envOfC "_law_ways" (defScope st__law_ways) s.heap.objs.size f cdv) (cxOf (L2.CX B.P B.w) B.P B.w B.K B.mg B.base N__law_ways "_law_ways" (defScope st__law_ways) f cdv A fr s H E).xe := passes_of (X := (cxOf (L2.CX B.P B.w) B.P B.w B.K B.mg B.base N__law_ways "_law_ways" (defScope st__law_ways) f cdv A fr s H E)) rfl
  have nd := sc__law_ways.nd
  exact (ss_cons (s_ret (Q.bf one_sorted bi.b_sorted (Q.cons (Q.comp [("name", 1), ("arity", 2)] nd (si_of (Q.v 0)) (blkOk_by (N := N__law_ways) (sc := defScope st__law_ways) (own := [("name", 1), ("arity", 2)]) (by decide +kernel)) (fun _ _ _ _ _ => (Q.gtup (Q.nms 1 nd (Q.nms 2 nd sgs_nil)))) (fun _ _ _ _ _ => (spt_one (Q.tcmp two_ge (Q.v 2) s_int))) (fun _ _ _ _ _ => (Q.v 1))) sl_nil)))
      ss_nil)
theorem b_Signs_arity (bi : Bi B.mg) (co : ClsOk B.K cl G.sub) (hC : Cals B (Z0 cl xc d) (2 * d + 1) LL) (kk : Kls B (Z0 cl xc d) xc (2 * d + 1)) {f : Addr} {cdv : Value} {A : Around} {fr : List Env} {s : Shared} {H : Hp} {E : XK}
    (hr : Room (2 * d + 2) (A.deeper (envOfC "Signs.arity" (defScope st_Signs_arity) s.heap.objs.size f cdv))) :
    PSs (cxOf (L2.CX B.P B.w) B.P B.w B.K B.mg B.base N_Signs_arity "Signs.arity" (defScope st_Signs_arity) f cdv A fr s H E) (defBody st_Signs_arity) (tSs (Z0 cl xc d) (WF E) m_Signs_arity.body) := by
  have tk : Takes (cxOf (L2.CX B.P B.w) B.P B.w B.K B.mg B.base N_Signs_arity "Signs.arity" (defScope st_Signs_arity) f cdv A fr s H E) (WF E) := takes_of rfl rfl rfl rfl
  have pw : PassesOwn (model B.P B.w) (A.deeper (envOfC "Signs.arity" (defScope st_Signs_arity) s.heap.objs.size f cdv)) (envOfC "Signs.arity" (defScope st_Signs_arity) s.heap.objs.size f cdv) (cxOf (L2.CX B.P B.w) B.P B.w B.K B.mg B.base N_Signs_arity "Signs.arity" (defScope st_Signs_arity) f cdv A fr s H E).xe := passes_of (X := (cxOf (L2.CX B.P B.w) B.P B.w B.K B.mg B.base N_Signs_arity "Signs.arity" (defScope st_Signs_arity) f cdv A fr s H E)) rfl
  have nd := sc_Signs_arity.nd
  exact (ss_cons (s_if (Q.tnotinO kk.o_Signs__contains__ hr (Q.v 1) (Q.v 0)) (ss_cons (Q.raise1_ rfl kk.x_NoSign hr tk (Q.v 1))
      ss_nil) ss_nil)
      (ss_cons (s_ret (Q.idx hr (Q.fld kk.n_Signs_held (Q.v 0)) (Q.v 1)))
      ss_nil))
theorem b__law_near_signs (bi : Bi B.mg) (co : ClsOk B.K cl G.sub) (hC : Cals B (Z0 cl xc d) (2 * d + 1) LL) (kk : Kls B (Z0 cl xc d) xc (2 * d + 1)) {f : Addr} {cdv : Value} {A : Around} {fr : List Env} {s : Shared} {H : Hp} {E : XK}
    (hr : Room (2 * d + 2) (A.deeper (envOfC "_law_near_signs" (defScope st__law_near_signs) s.heap.objs.size f cdv))) :
    PSs (cxOf (L2.CX B.P B.w) B.P B.w B.K B.mg B.base N__law_near_signs "_law_near_signs" (defScope st__law_near_signs) f cdv A fr s H E) (defBody st__law_near_signs) (tSs (Z0 cl xc d) (WF E) m__law_near_signs.body) := by
  have tk : Takes (cxOf (L2.CX B.P B.w) B.P B.w B.K B.mg B.base N__law_near_signs "_law_near_signs" (defScope st__law_near_signs) f cdv A fr s H E) (WF E) := takes_of rfl rfl rfl rfl
  have pw : PassesOwn (model B.P B.w) (A.deeper (envOfC "_law_near_signs" (defScope st__law_near_signs) s.heap.objs.size f cdv)) (envOfC "_law_near_signs" (defScope st__law_near_signs) s.heap.objs.size f cdv) (cxOf (L2.CX B.P B.w) B.P B.w B.K B.mg B.base N__law_near_signs "_law_near_signs" (defScope st__law_near_signs) f cdv A fr s H E).xe := passes_of (X := (cxOf (L2.CX B.P B.w) B.P B.w B.K B.mg B.base N__law_near_signs "_law_near_signs" (defScope st__law_near_signs) f cdv A fr s H E)) rfl
  have nd := sc__law_near_signs.nd
  exact (ss_cons (Q.asgC 1 [("name", 2), ("arity", 3)] nd (si_of (Q.v 0)) (blkOk_by (N := N__law_near_signs) (sc := defScope st__law_near_signs) (own := [("name", 2), ("arity", 3)]) (by decide +kernel)) (fun _ _ _ _ _ => (Q.gtup (Q.nms 2 nd (Q.nms 3 nd sgs_nil)))) (fun _ _ _ _ _ => spt_nil) (fun _ _ _ _ _ => (Q.tup (Q.consT (Q.v 2) (Q.consT (Q.idx hr (Q.lst (Q.consT s_int (Q.consT s_int (Q.consT s_int (Q.consT s_int slT_nil))))) (Q.v 3)) slT_nil)))))
      (ss_cons (s_ret (Q.comp [("some", 4)] nd (si_of (Q.tup (Q.consT (Q.v 1) (Q.consT (Q.op two_add (s_slt (Q.v 1) s_int) (s_slf (Q.v 0) s_int)) (Q.consT (s_rev (Q.v 0)) slT_nil))))) (blkOk_by (N := N__law_near_signs) (sc := defScope st__law_near_signs) (own := [("some", 4)]) (by decide +kernel)) (fun _ _ _ _ _ => (Q.nm 4 nd)) (fun _ _ _ _ _ => (spt_one (Q.tcmp (two_ne (u64 hr)) (Q.v 4) (Q.v 0)))) (fun _ _ _ _ _ => (Q.v 4))))
      ss_nil))
theorem b_is_word (bi : Bi B.mg) (co : ClsOk B.K cl G.sub) (hC : Cals B (Z0 cl xc d) (2 * d + 1) LL) (kk : Kls B (Z0 cl xc d) xc (2 * d + 1)) {f : Addr} {cdv : Value} {A : Around} {fr : List Env} {s : Shared} {H : Hp} {E : XK}
    (hr : Room (2 * d + 2) (A.deeper (envOfC "is_word" (defScope st_is_word) s.heap.objs.size f cdv))) :
    PSs (cxOf (L2.CX B.P B.w) B.P B.w B.K B.mg B.base N_is_word "is_word" (defScope st_is_word) f cdv A fr s H E) (defBody st_is_word) (tSs (Z0 cl xc d) (WF E) m_is_word.body) := by
  have tk : Takes (cxOf (L2.CX B.P B.w) B.P B.w B.K B.mg B.base N_is_word "is_word" (defScope st_is_word) f cdv A fr s H E) (WF E) := takes_of rfl rfl rfl rfl
  have pw : PassesOwn (model B.P B.w) (A.deeper (envOfC "is_word" (defScope st_is_word) s.heap.objs.size f cdv)) (envOfC "is_word" (defScope st_is_word) s.heap.objs.size f cdv) (cxOf (L2.CX B.P B.w) B.P B.w B.K B.mg B.base N_is_word "is_word" (defScope st_is_word) f cdv A fr s H E).xe := passes_of (X := (cxOf (L2.CX B.P B.w) B.P B.w B.K B.mg B.base N_is_word "is_word" (defScope st_is_word) f cdv A fr s H E)) rfl
  have nd := sc_is_word.nd
  exact (ss_cons (s_if (Q.tpw (sw_or2 (st_not (Q.tv (Q.isi .tstr co bi.b_isinstance bi.b_str (Q.v 0)))) (st_not (Q.tch two_le two_le s_int (Q.bf one_len bi.b_len (Q.cons (Q.v 0) sl_nil)) (Q.con kk.c_MOST_LETTERS))))) (ss_cons (s_ret s_bl)
      ss_nil) ss_nil)
      (ss_cons (s_ret (Q.bf (one_all rfl) bi.b_all (Q.cons (Q.comp [("letter", 2)] nd (si_of (Q.v 0)) (blkOk_by (N := N_is_word) (sc := defScope st_is_word) (own := [("letter", 2)]) (by decide +kernel)) (fun _ _ _ _ _ => (Q.nm 2 nd)) (fun _ _ _ _ _ => spt_nil) (fun _ _ _ _ _ => (Q.cmp (two_in (u65 hr)) (Q.v 2) (Q.v 1)))) sl_nil)))
      ss_nil))
theorem b_within (bi : Bi B.mg) (co : ClsOk B.K cl G.sub) (hC : Cals B (Z0 cl xc d) (2 * d + 1) LL) (kk : Kls B (Z0 cl xc d) xc (2 * d + 1)) {f : Addr} {cdv : Value} {A : Around} {fr : List Env} {s : Shared} {H : Hp} {E : XK}
    (hr : Room (2 * d + 2) (A.deeper (envOfC "within" (defScope st_within) s.heap.objs.size f cdv))) :
    PSs (cxOf (L2.CX B.P B.w) B.P B.w B.K B.mg B.base N_within "within" (defScope st_within) f cdv A fr s H E) (defBody st_within) (tSs (Z0 cl xc d) (WF E) m_within.body) := by
  have tk : Takes (cxOf (L2.CX B.P B.w) B.P B.w B.K B.mg B.base N_within "within" (defScope st_within) f cdv A fr s H E) (WF E) := takes_of rfl rfl rfl rfl
  have pw : PassesOwn (model B.P B.w) (A.deeper (envOfC "within" (defScope st_within) s.heap.objs.size f cdv)) (envOfC "within" (defScope st_within) s.heap.objs.size f cdv) (cxOf (L2.CX B.P B.w) B.P B.w B.K B.mg B.base N_within "within" (defScope st_within) f cdv A fr s H E).xe := passes_of (X := (cxOf (L2.CX B.P B.w) B.P B.w B.K B.mg B.base N_within "within" (defScope st_within) f cdv A fr s H E)) rfl
  have nd := sc_within.nd
  exact (ss_cons (s_ret (s_and (Q.isi .tint co bi.b_isinstance bi.b_int (Q.v 0)) (s_and2 (s_not (Q.isi .tbool co bi.b_isinstance bi.b_bool (Q.v 0))) (Q.ch two_le two_le (Q.v 1) (Q.v 0) (Q.v 2)))))
      ss_nil)
end
section
set_option maxHeartbeats 0
theorem all_mk {P : Program} {w : World} {K : PySem.W.Frag} {h : Heap} {mg : Str → Option Value} {fa : Addr} (X : K.In h) (G' : h.Ns mainGlobals mg) (hfa : mg "law" = some (.ref fa))
    {f0 : Addr} {od0 an0 : Option Addr} {sl0 : Array (Option Value)} {oc0 kV0 dc0 pm0 cd0 ct0 : Value}
    {f1 : Addr} {od1 an1 : Option Addr} {sl1 : Array (Option Value)} {oc1 kV1 dc1 pm1 cd1 ct1 : Value}
    {f2 : Addr} {od2 an2 : Option Addr} {sl2 : Array (Option Value)} {oc2 kV2 dc2 pm2 cd2 ct2 : Value}
    {f3 : Addr} {od3 an3 : Option Addr} {sl3 : Array (Option Value)} {oc3 kV3 dc3 pm3 cd3 ct3 : Value}
    {f4 : Addr} {od4 an4 : Option Addr} {sl4 : Array (Option Value)} {oc4 kV4 dc4 pm4 cd4 ct4 : Value}
    {f5 : Addr} {od5 an5 : Option Addr} {sl5 : Array (Option Value)} {oc5 kV5 dc5 pm5 cd5 ct5 : Value}
    {f6 : Addr} {od6 an6 : Option Addr} {sl6 : Array (Option Value)} {oc6 kV6 dc6 pm6 cd6 ct6 : Value}
    {f7 : Addr} {od7 an7 : Option Addr} {sl7 : Array (Option Value)} {oc7 kV7 dc7 pm7 cd7 ct7 : Value}
    {f8 : Addr} {od8 an8 : Option Addr} {sl8 : Array (Option Value)} {oc8 kV8 dc8 pm8 cd8 ct8 : Value}
    {f9 : Addr} {od9 an9 : Option Addr} {sl9 : Array (Option Value)} {oc9 kV9 dc9 pm9 cd9 ct9 : Value}
    {f10 : Addr} {od10 an10 : Option Addr} {sl10 : Array (Option Value)} {oc10 kV10 dc10 pm10 cd10 ct10 : Value}
    {f11 : Addr} {od11 an11 : Option Addr} {sl11 : Array (Option Value)} {oc11 kV11 dc11 pm11 cd11 ct11 : Value}
    {f12 : Addr} {od12 an12 : Option Addr} {sl12 : Array (Option Value)} {oc12 kV12 dc12 pm12 cd12 ct12 : Value}
    {f13 : Addr} {od13 an13 : Option Addr} {sl13 : Array (Option Value)} {oc13 kV13 dc13 pm13 cd13 ct13 : Value}
    {f14 : Addr} {od14 an14 : Option Addr} {sl14 : Array (Option Value)} {oc14 kV14 dc14 pm14 cd14 ct14 : Value}
    {f15 : Addr} {od15 an15 : Option Addr} {sl15 : Array (Option Value)} {oc15 kV15 dc15 pm15 cd15 ct15 : Value}
    {f16 : Addr} {od16 an16 : Option Addr} {sl16 : Array (Option Value)} {oc16 kV16 dc16 pm16 cd16 ct16 : Value}
    {f17 : Addr} {od17 an17 : Option Addr} {sl17 : Array (Option Value)} {oc17 kV17 dc17 pm17 cd17 ct17 : Value}
    {f18 : Addr} {od18 an18 : Option Addr} {sl18 : Array (Option Value)} {oc18 kV18 dc18 pm18 cd18 ct18 : Value}
    {f19 : Addr} {od19 an19 : Option Addr} {sl19 : Array (Option Value)} {oc19 kV19 dc19 pm19 cd19 ct19 : Value}
    {f20 : Addr} {od20 an20 : Option Addr} {sl20 : Array (Option Value)} {oc20 kV20 dc20 pm20 cd20 ct20 : Value}
    {f21 : Addr} {od21 an21 : Option Addr} {sl21 : Array (Option Value)} {oc21 kV21 dc21 pm21 cd21 ct21 : Value}
    {CSigns : Addr}
    {CNoList : Addr}
    {CBadCount : Addr}
    {CBadSign : Addr}
    {CNoSign : Addr}
    {p15 : Addr} {rs15 : List Value}
    {p16 : Addr} {rs16 : List Value}
    {nmBadSign qBadSign : Str} {NBadSign : Addr} {bsBadSign bmBadSign : List Value} {snBadSign : List Str} {suBadSign : List Value} {abBadSign : Bool} {coBadSign : Option Bool} {ddBadSign : Option Addr} {m0BadSign m1BadSign m2BadSign m3BadSign m5BadSign : Option Value}
    {fiBadSign : Addr} {odxBadSign anxBadSign : Option Addr} {slxBadSign : Array (Option Value)} {ocxBadSign kVxBadSign dcxBadSign pmxBadSign cdxBadSign ctxBadSign : Value}
    {nmNoSign qNoSign : Str} {NNoSign : Addr} {bsNoSign bmNoSign : List Value} {snNoSign : List Str} {suNoSign : List Value} {abNoSign : Bool} {coNoSign : Option Bool} {ddNoSign : Option Addr} {m0NoSign m1NoSign m2NoSign m3NoSign m5NoSign : Option Value}
    {fiNoSign : Addr} {odxNoSign anxNoSign : Option Addr} {slxNoSign : Array (Option Value)} {ocxNoSign kVxNoSign dcxNoSign pmxNoSign cdxNoSign ctxNoSign : Value}
    {tMOST_ARITY : Tok}
    {tMOST_LETTERS : Tok}
    {tMOST_SIGNS : Tok}
    {tSMALL : Tok}
    (aSigns : PySem.W.nsIn K mainGlobals "Signs" = some (some (.ref CSigns)))
    (pgSigns : PySem.W.plainGet K CSigns Str.empty = true)
    (hdSigns : PySem.W.hasDictIn K CSigns = true)
    (poSigns : PySem.W.plainOver K CSigns = true)
    (saSigns : PySem.W.findIn K (.ref CSigns) "__setattr__" = some (some (.builtin "object.__setattr__")))
    (mkSigns : PySem.W.makesIn K CSigns = true)
    (kcSigns : PySem.W.keepIn K (.ref CSigns) = true)
    (ccSigns : PySem.W.findIn K (.ref CSigns) "__class__" = some (some (.builtin "object.__class__")))
    (mrSigns : PySem.W.mroIn K CSigns (.type "object") = some true)
    (ka_Signs_int : PySem.W.kitOne K (.ref CSigns) (.type "int") = some false)
    (ka_Signs_bool : PySem.W.kitOne K (.ref CSigns) (.type "bool") = some false)
    (ka_Signs_str : PySem.W.kitOne K (.ref CSigns) (.type "str") = some false)
    (ka_Signs_list : PySem.W.kitOne K (.ref CSigns) (.type "list") = some false)
    (ka_Signs_tuple : PySem.W.kitOne K (.ref CSigns) (.type "tuple") = some false)
    (ka_Signs_dict : PySem.W.kitOne K (.ref CSigns) (.type "dict") = some false)
    (kb_Signs_NoneType : PySem.W.kitOne K (.type "NoneType") (.ref CSigns) = some false)
    (kb_Signs_int : PySem.W.kitOne K (.type "int") (.ref CSigns) = some false)
    (kb_Signs_bool : PySem.W.kitOne K (.type "bool") (.ref CSigns) = some false)
    (kb_Signs_str : PySem.W.kitOne K (.type "str") (.ref CSigns) = some false)
    (kb_Signs_list : PySem.W.kitOne K (.type "list") (.ref CSigns) = some false)
    (kb_Signs_tuple : PySem.W.kitOne K (.type "tuple") (.ref CSigns) = some false)
    (kb_Signs_dict : PySem.W.kitOne K (.type "dict") (.ref CSigns) = some false)
    (cg : PySem.W.specialIn K (.builtin "object.__class__") "__get__" = some (some (.builtin "getset_descriptor.__get__")))
    (ct_ : PySem.W.takesIn K (.builtin "object.__class__") = some true)
    (kk_Signs_Signs : PySem.W.kitOne K (.ref CSigns) (.ref CSigns) = some true)
    (na_Signs_held : PySem.W.findIn K (.ref CSigns) "held" = some none)
    (a0 : PySem.W.nsIn K mainGlobals "law" = some (some (.ref f0)))
    (l0 : K.lookup f0 = some ⟨oc0, od0, .func (PySem.W.fnOf "law" "law" (defArgs st_law) (defBody st_law) (defScope st_law) .none kV0 dc0 pm0 an0 cd0 ct0), sl0⟩)
    (c0 : PySem.W.codeIn K cd0 "law" = true)
    (k0 : PySem.W.keepIn K (.ref f0) = true)
    (a1 : PySem.W.nsIn K mainGlobals "_law_feed" = some (some (.ref f1)))
    (l1 : K.lookup f1 = some ⟨oc1, od1, .func (PySem.W.fnOf "_law_feed" "_law_feed" (defArgs st__law_feed) (defBody st__law_feed) (defScope st__law_feed) .none kV1 dc1 pm1 an1 cd1 ct1), sl1⟩)
    (c1 : PySem.W.codeIn K cd1 "_law_feed" = true)
    (k1 : PySem.W.keepIn K (.ref f1) = true)
    (a2 : PySem.W.nsIn K mainGlobals "_law_drawn_signs" = some (some (.ref f2)))
    (l2 : K.lookup f2 = some ⟨oc2, od2, .func (PySem.W.fnOf "_law_drawn_signs" "_law_drawn_signs" (defArgs st__law_drawn_signs) (defBody st__law_drawn_signs) (defScope st__law_drawn_signs) .none kV2 dc2 pm2 an2 cd2 ct2), sl2⟩)
    (c2 : PySem.W.codeIn K cd2 "_law_drawn_signs" = true)
    (k2 : PySem.W.keepIn K (.ref f2) = true)
    (a3 : PySem.W.nsIn K mainGlobals "_law_made" = some (some (.ref f3)))
    (l3 : K.lookup f3 = some ⟨oc3, od3, .func (PySem.W.fnOf "_law_made" "_law_made" (defArgs st__law_made) (defBody st__law_made) (defScope st__law_made) .none kV3 dc3 pm3 an3 cd3 ct3), sl3⟩)
    (c3 : PySem.W.codeIn K cd3 "_law_made" = true)
    (k3 : PySem.W.keepIn K (.ref f3) = true)
    (a4 : PySem.W.nsIn K mainGlobals "_law_is" = some (some (.ref f4)))
    (l4 : K.lookup f4 = some ⟨oc4, od4, .func (PySem.W.fnOf "_law_is" "_law_is" (defArgs st__law_is) (defBody st__law_is) (defScope st__law_is) .none kV4 dc4 pm4 an4 cd4 ct4), sl4⟩)
    (c4 : PySem.W.codeIn K cd4 "_law_is" = true)
    (k4 : PySem.W.keepIn K (.ref f4) = true)
    (a5 : PySem.W.nsIn K mainGlobals "_law_take" = some (some (.ref f5)))
    (l5 : K.lookup f5 = some ⟨oc5, od5, .func (PySem.W.fnOf "_law_take" "_law_take" (defArgs st__law_take) (defBody st__law_take) (defScope st__law_take) .none kV5 dc5 pm5 an5 cd5 ct5), sl5⟩)
    (c5 : PySem.W.codeIn K cd5 "_law_take" = true)
    (k5 : PySem.W.keepIn K (.ref f5) = true)
    (a6 : PySem.W.nsIn K mainGlobals "_law_odd_pairs" = some (some (.ref f6)))
    (l6 : K.lookup f6 = some ⟨oc6, od6, .func (PySem.W.fnOf "_law_odd_pairs" "_law_odd_pairs" (defArgs st__law_odd_pairs) (defBody st__law_odd_pairs) (defScope st__law_odd_pairs) .none kV6 dc6 pm6 an6 cd6 ct6), sl6⟩)
    (c6 : PySem.W.codeIn K cd6 "_law_odd_pairs" = true)
    (k6 : PySem.W.keepIn K (.ref f6) = true)
    (a7 : PySem.W.nsIn K mainGlobals "_law_arity" = some (some (.ref f7)))
    (l7 : K.lookup f7 = some ⟨oc7, od7, .func (PySem.W.fnOf "_law_arity" "_law_arity" (defArgs st__law_arity) (defBody st__law_arity) (defScope st__law_arity) .none kV7 dc7 pm7 an7 cd7 ct7), sl7⟩)
    (c7 : PySem.W.codeIn K cd7 "_law_arity" = true)
    (k7 : PySem.W.keepIn K (.ref f7) = true)
    (a8 : PySem.W.findIn K (.ref CSigns) "__contains__" = some (some (.ref f8)))
    (i8 : PySem.W.isFn K (.ref f8) = true)
    (l8 : K.lookup f8 = some ⟨oc8, od8, .func (PySem.W.fnOf "__contains__" "Signs.__contains__" (defArgs st_Signs___contains__) (defBody st_Signs___contains__) (defScope st_Signs___contains__) .none kV8 dc8 pm8 an8 cd8 ct8), sl8⟩)
    (c8 : PySem.W.codeIn K cd8 "Signs.__contains__" = true)
    (k8 : PySem.W.keepIn K (.ref f8) = true)
    (a9 : PySem.W.nsIn K mainGlobals "_law_near_right" = some (some (.ref f9)))
    (l9 : K.lookup f9 = some ⟨oc9, od9, .func (PySem.W.fnOf "_law_near_right" "_law_near_right" (defArgs st__law_near_right) (defBody st__law_near_right) (defScope st__law_near_right) .none kV9 dc9 pm9 an9 cd9 ct9), sl9⟩)
    (c9 : PySem.W.codeIn K cd9 "_law_near_right" = true)
    (k9 : PySem.W.keepIn K (.ref f9) = true)
    (a10 : PySem.W.findIn K (.ref CSigns) "__init__" = some (some (.ref f10)))
    (i10 : PySem.W.isFn K (.ref f10) = true)
    (l10 : K.lookup f10 = some ⟨oc10, od10, .func (PySem.W.fnOf "__init__" "Signs.__init__" (defArgs st_Signs___init__) (defBody st_Signs___init__) (defScope st_Signs___init__) .none kV10 dc10 pm10 an10 cd10 ct10), sl10⟩)
    (c10 : PySem.W.codeIn K cd10 "Signs.__init__" = true)
    (k10 : PySem.W.keepIn K (.ref f10) = true)
    (a11 : PySem.W.findIn K (.ref CSigns) "__eq__" = some (some (.ref f11)))
    (i11 : PySem.W.isFn K (.ref f11) = true)
    (l11 : K.lookup f11 = some ⟨oc11, od11, .func (PySem.W.fnOf "__eq__" "Signs.__eq__" (defArgs st_Signs___eq__) (defBody st_Signs___eq__) (defScope st_Signs___eq__) .none kV11 dc11 pm11 an11 cd11 ct11), sl11⟩)
    (c11 : PySem.W.codeIn K cd11 "Signs.__eq__" = true)
    (k11 : PySem.W.keepIn K (.ref f11) = true)
    (a12 : PySem.W.nsIn K mainGlobals "_law_known_signs" = some (some (.ref f12)))
    (l12 : K.lookup f12 = some ⟨oc12, od12, .func (PySem.W.fnOf "_law_known_signs" "_law_known_signs" (defArgs st__law_known_signs) (defBody st__law_known_signs) (defScope st__law_known_signs) .none kV12 dc12 pm12 an12 cd12 ct12), sl12⟩)
    (c12 : PySem.W.codeIn K cd12 "_law_known_signs" = true)
    (k12 : PySem.W.keepIn K (.ref f12) = true)
    (a13 : PySem.W.nsIn K mainGlobals "_law_pick" = some (some (.ref f13)))
    (l13 : K.lookup f13 = some ⟨oc13, od13, .func (PySem.W.fnOf "_law_pick" "_law_pick" (defArgs st__law_pick) (defBody st__law_pick) (defScope st__law_pick) .none kV13 dc13 pm13 an13 cd13 ct13), sl13⟩)
    (c13 : PySem.W.codeIn K cd13 "_law_pick" = true)
    (k13 : PySem.W.keepIn K (.ref f13) = true)
    (a14 : PySem.W.findIn K (.ref CSigns) "__len__" = some (some (.ref f14)))
    (i14 : PySem.W.isFn K (.ref f14) = true)
    (l14 : K.lookup f14 = some ⟨oc14, od14, .func (PySem.W.fnOf "__len__" "Signs.__len__" (defArgs st_Signs___len__) (defBody st_Signs___len__) (defScope st_Signs___len__) .none kV14 dc14 pm14 an14 cd14 ct14), sl14⟩)
    (c14 : PySem.W.codeIn K cd14 "Signs.__len__" = true)
    (k14 : PySem.W.keepIn K (.ref f14) = true)
    (a15 : PySem.W.findIn K (.ref CSigns) "names" = some (some (.ref p15)))
    (g15 : PySem.W.specialIn K (.ref p15) "__get__" = some (some (.builtin "property.__get__")))
    (t15 : PySem.W.takesIn K (.ref p15) = some true)
    (r15 : PySem.W.recIn K p15 "property" = some (.ref f15 :: rs15))
    (l15 : K.lookup f15 = some ⟨oc15, od15, .func (PySem.W.fnOf "names" "Signs.names" (defArgs st_Signs_names) (defBody st_Signs_names) (defScope st_Signs_names) .none kV15 dc15 pm15 an15 cd15 ct15), sl15⟩)
    (c15 : PySem.W.codeIn K cd15 "Signs.names" = true)
    (k15 : PySem.W.keepIn K (.ref f15) = true)
    (a16 : PySem.W.findIn K (.ref CSigns) "ways" = some (some (.ref p16)))
    (g16 : PySem.W.specialIn K (.ref p16) "__get__" = some (some (.builtin "property.__get__")))
    (t16 : PySem.W.takesIn K (.ref p16) = some true)
    (r16 : PySem.W.recIn K p16 "property" = some (.ref f16 :: rs16))
    (l16 : K.lookup f16 = some ⟨oc16, od16, .func (PySem.W.fnOf "ways" "Signs.ways" (defArgs st_Signs_ways) (defBody st_Signs_ways) (defScope st_Signs_ways) .none kV16 dc16 pm16 an16 cd16 ct16), sl16⟩)
    (c16 : PySem.W.codeIn K cd16 "Signs.ways" = true)
    (k16 : PySem.W.keepIn K (.ref f16) = true)
    (a17 : PySem.W.nsIn K mainGlobals "_law_ways" = some (some (.ref f17)))
    (l17 : K.lookup f17 = some ⟨oc17, od17, .func (PySem.W.fnOf "_law_ways" "_law_ways" (defArgs st__law_ways) (defBody st__law_ways) (defScope st__law_ways) .none kV17 dc17 pm17 an17 cd17 ct17), sl17⟩)
    (c17 : PySem.W.codeIn K cd17 "_law_ways" = true)
    (k17 : PySem.W.keepIn K (.ref f17) = true)
    (a18 : PySem.W.findIn K (.ref CSigns) "arity" = some (some (.ref f18)))
    (i18 : PySem.W.isFn K (.ref f18) = true)
    (l18 : K.lookup f18 = some ⟨oc18, od18, .func (PySem.W.fnOf "arity" "Signs.arity" (defArgs st_Signs_arity) (defBody st_Signs_arity) (defScope st_Signs_arity) .none kV18 dc18 pm18 an18 cd18 ct18), sl18⟩)
    (c18 : PySem.W.codeIn K cd18 "Signs.arity" = true)
    (k18 : PySem.W.keepIn K (.ref f18) = true)
    (a19 : PySem.W.nsIn K mainGlobals "_law_near_signs" = some (some (.ref f19)))
    (l19 : K.lookup f19 = some ⟨oc19, od19, .func (PySem.W.fnOf "_law_near_signs" "_law_near_signs" (defArgs st__law_near_signs) (defBody st__law_near_signs) (defScope st__law_near_signs) .none kV19 dc19 pm19 an19 cd19 ct19), sl19⟩)
    (c19 : PySem.W.codeIn K cd19 "_law_near_signs" = true)
    (k19 : PySem.W.keepIn K (.ref f19) = true)
    (a20 : PySem.W.nsIn K mainGlobals "is_word" = some (some (.ref f20)))
    (l20 : K.lookup f20 = some ⟨oc20, od20, .func (PySem.W.fnOf "is_word" "is_word" (defArgs st_is_word) (defBody st_is_word) (defScope st_is_word) .none kV20 dc20 pm20 an20 cd20 ct20), sl20⟩)
    (c20 : PySem.W.codeIn K cd20 "is_word" = true)
    (k20 : PySem.W.keepIn K (.ref f20) = true)
    (a21 : PySem.W.nsIn K mainGlobals "within" = some (some (.ref f21)))
    (l21 : K.lookup f21 = some ⟨oc21, od21, .func (PySem.W.fnOf "within" "within" (defArgs st_within) (defBody st_within) (defScope st_within) .none kV21 dc21 pm21 an21 cd21 ct21), sl21⟩)
    (c21 : PySem.W.codeIn K cd21 "within" = true)
    (k21 : PySem.W.keepIn K (.ref f21) = true)
    (aNoList : PySem.W.nsIn K mainGlobals "NoList" = some (some (.ref CNoList)))
    (eNoList : PySem.W.subIn K (.ref CNoList) (.type "BaseException") = some true)
    (tNoList : PySem.W.typeIn K (.ref CNoList) = some (.type "type"))
    (kNoList : PySem.W.keepIn K (.ref CNoList) = true)
    (hNoList : PySem.W.excIn K CNoList [.type "ValueError", .type "Exception", .type "BaseException", .type "object"] "ValueError.__new__" = true)
    (aBadCount : PySem.W.nsIn K mainGlobals "BadCount" = some (some (.ref CBadCount)))
    (eBadCount : PySem.W.subIn K (.ref CBadCount) (.type "BaseException") = some true)
    (tBadCount : PySem.W.typeIn K (.ref CBadCount) = some (.type "type"))
    (kBadCount : PySem.W.keepIn K (.ref CBadCount) = true)
    (hBadCount : PySem.W.excIn K CBadCount [.type "ValueError", .type "Exception", .type "BaseException", .type "object"] "ValueError.__new__" = true)
    (aBadSign : PySem.W.nsIn K mainGlobals "BadSign" = some (some (.ref CBadSign)))
    (eBadSign : PySem.W.subIn K (.ref CBadSign) (.type "BaseException") = some true)
    (tBadSign : PySem.W.typeIn K (.ref CBadSign) = some (.type "type"))
    (kBadSign : PySem.W.keepIn K (.ref CBadSign) = true)
    (xBadSign : K.lookup CBadSign = some (excClassObj nmBadSign qBadSign CBadSign NBadSign bsBadSign bmBadSign true snBadSign suBadSign abBadSign coBadSign ddBadSign m0BadSign m1BadSign m2BadSign m3BadSign m5BadSign "ValueError.__new__"))
    (vBadSign : PySem.HandSPX.refsVE bmBadSign = true)
    (sBadSign : PySem.W.findIn K (.ref CBadSign) "__setattr__" = some (some (.builtin "object.__setattr__")))
    (nBadSign : PySem.W.findIn K (.ref CBadSign) "number" = some none)
    (iBadSign : PySem.W.findIn K (.ref CBadSign) "__init__" = some (some (.ref fiBadSign)))
    (yBadSign : PySem.W.typeIn K (.ref fiBadSign) = some (.type "function"))
    (lBadSign : K.lookup fiBadSign = some ⟨ocxBadSign, odxBadSign, .func (PySem.W.fnOf "__init__" "BadSign.__init__" (defArgs st_BadSign___init__) (defBody st_BadSign___init__) (defScope st_BadSign___init__) .none kVxBadSign dcxBadSign pmxBadSign anxBadSign cdxBadSign ctxBadSign), slxBadSign⟩)
    (cBadSign : PySem.W.codeIn K cdxBadSign "BadSign.__init__" = true)
    (pBadSign : PySem.W.keepIn K (.ref fiBadSign) = true)
    (aNoSign : PySem.W.nsIn K mainGlobals "NoSign" = some (some (.ref CNoSign)))
    (eNoSign : PySem.W.subIn K (.ref CNoSign) (.type "BaseException") = some true)
    (tNoSign : PySem.W.typeIn K (.ref CNoSign) = some (.type "type"))
    (kNoSign : PySem.W.keepIn K (.ref CNoSign) = true)
    (xNoSign : K.lookup CNoSign = some (excClassObj nmNoSign qNoSign CNoSign NNoSign bsNoSign bmNoSign true snNoSign suNoSign abNoSign coNoSign ddNoSign m0NoSign m1NoSign m2NoSign m3NoSign m5NoSign "ValueError.__new__"))
    (vNoSign : PySem.HandSPX.refsVE bmNoSign = true)
    (sNoSign : PySem.W.findIn K (.ref CNoSign) "__setattr__" = some (some (.builtin "object.__setattr__")))
    (nNoSign : PySem.W.findIn K (.ref CNoSign) "name" = some none)
    (iNoSign : PySem.W.findIn K (.ref CNoSign) "__init__" = some (some (.ref fiNoSign)))
    (yNoSign : PySem.W.typeIn K (.ref fiNoSign) = some (.type "function"))
    (lNoSign : K.lookup fiNoSign = some ⟨ocxNoSign, odxNoSign, .func (PySem.W.fnOf "__init__" "NoSign.__init__" (defArgs st_NoSign___init__) (defBody st_NoSign___init__) (defScope st_NoSign___init__) .none kVxNoSign dcxNoSign pmxNoSign anxNoSign cdxNoSign ctxNoSign), slxNoSign⟩)
    (cNoSign : PySem.W.codeIn K cdxNoSign "NoSign.__init__" = true)
    (pNoSign : PySem.W.keepIn K (.ref fiNoSign) = true)
    (hd_BadCount : PySem.W.hasDictIn K CBadCount = true)
    (hs_BadCount_NoList : PySem.W.subIn K (.ref CNoList) (.ref CBadCount) = some false)
    (hs_BadCount_BadCount : PySem.W.subIn K (.ref CBadCount) (.ref CBadCount) = some true)
    (hs_BadCount_BadSign : PySem.W.subIn K (.ref CBadSign) (.ref CBadCount) = some false)
    (hs_BadCount_NoSign : PySem.W.subIn K (.ref CNoSign) (.ref CBadCount) = some false)
    (hd_BadSign : PySem.W.hasDictIn K CBadSign = true)
    (hs_BadSign_NoList : PySem.W.subIn K (.ref CNoList) (.ref CBadSign) = some false)
    (hs_BadSign_BadCount : PySem.W.subIn K (.ref CBadCount) (.ref CBadSign) = some false)
    (hs_BadSign_BadSign : PySem.W.subIn K (.ref CBadSign) (.ref CBadSign) = some true)
    (hs_BadSign_NoSign : PySem.W.subIn K (.ref CNoSign) (.ref CBadSign) = some false)
    (hd_NoList : PySem.W.hasDictIn K CNoList = true)
    (hs_NoList_NoList : PySem.W.subIn K (.ref CNoList) (.ref CNoList) = some true)
    (hs_NoList_BadCount : PySem.W.subIn K (.ref CBadCount) (.ref CNoList) = some false)
    (hs_NoList_BadSign : PySem.W.subIn K (.ref CBadSign) (.ref CNoList) = some false)
    (hs_NoList_NoSign : PySem.W.subIn K (.ref CNoSign) (.ref CNoList) = some false)
    (hd_NoSign : PySem.W.hasDictIn K CNoSign = true)
    (hs_NoSign_NoList : PySem.W.subIn K (.ref CNoList) (.ref CNoSign) = some false)
    (hs_NoSign_BadCount : PySem.W.subIn K (.ref CBadCount) (.ref CNoSign) = some false)
    (hs_NoSign_BadSign : PySem.W.subIn K (.ref CBadSign) (.ref CNoSign) = some false)
    (hs_NoSign_NoSign : PySem.W.subIn K (.ref CNoSign) (.ref CNoSign) = some true)
    (qne_Signs : PySem.W.findIn K (.ref CSigns) "__ne__" = some (some (.builtin "object.__ne__")))
    (va_BadSign : PySem.W.findIn K (.ref CBadSign) "__getattribute__" = some (some (.builtin "BaseException.__getattribute__")))
    (vb_BadSign : PySem.W.findIn K (.ref CBadSign) "__getattr__" = some none)
    (va_NoSign : PySem.W.findIn K (.ref CNoSign) "__getattribute__" = some (some (.builtin "BaseException.__getattribute__")))
    (vb_NoSign : PySem.W.findIn K (.ref CNoSign) "__getattr__" = some none)
    (oMOST_ARITY : PySem.W.nsIn K mainGlobals "MOST_ARITY" = some (some (.int 3 tMOST_ARITY)))
    (oMOST_LETTERS : PySem.W.nsIn K mainGlobals "MOST_LETTERS" = some (some (.int 8 tMOST_LETTERS)))
    (oMOST_SIGNS : PySem.W.nsIn K mainGlobals "MOST_SIGNS" = some (some (.int 5 tMOST_SIGNS)))
    (oSMALL : PySem.W.nsIn K mainGlobals "SMALL" = some (some (.str "abcdefghijklmnopqrstuvwxyz" tSMALL)))
    (z0 : PySem.W.nsIn K mainGlobals "abs" = some none)
    (z1 : PySem.W.nsIn K mainGlobals "all" = some none)
    (z2 : PySem.W.nsIn K mainGlobals "bool" = some none)
    (z3 : PySem.W.nsIn K mainGlobals "enumerate" = some none)
    (z4 : PySem.W.nsIn K mainGlobals "int" = some none)
    (z5 : PySem.W.nsIn K mainGlobals "isinstance" = some none)
    (z6 : PySem.W.nsIn K mainGlobals "len" = some none)
    (z7 : PySem.W.nsIn K mainGlobals "list" = some none)
    (z8 : PySem.W.nsIn K mainGlobals "max" = some none)
    (z9 : PySem.W.nsIn K mainGlobals "min" = some none)
    (z10 : PySem.W.nsIn K mainGlobals "range" = some none)
    (z11 : PySem.W.nsIn K mainGlobals "repr" = some none)
    (z12 : PySem.W.nsIn K mainGlobals "sorted" = some none)
    (z13 : PySem.W.nsIn K mainGlobals "str" = some none)
    (z14 : PySem.W.nsIn K mainGlobals "tuple" = some none)
    :
    ∃ fd : FuncData, (∀ (s : Shared) (u : Value), BindsTo s fd ⟨[u], []⟩ [("script", u)]) ∧ ∀ base : Heap, K.In base → base.Ns mainGlobals mg → FnG ⟨P, w, K, mg, base⟩ true (2 * 20 + 1) fa fd ["script"] (spAll G 20 900001) := by
  have e := hfa.symm.trans (PySem.W.mg_of X G' a0)
  cases e
  have bi : Bi mg := ⟨PySem.W.mg_none_of X G' z0, PySem.W.mg_none_of X G' z1, PySem.W.mg_none_of X G' z2, PySem.W.mg_none_of X G' z3, PySem.W.mg_none_of X G' z4, PySem.W.mg_none_of X G' z5, PySem.W.mg_none_of X G' z6, PySem.W.mg_none_of X G' z7, PySem.W.mg_none_of X G' z8, PySem.W.mg_none_of X G' z9, PySem.W.mg_none_of X G' z10, PySem.W.mg_none_of X G' z11, PySem.W.mg_none_of X G' z12, PySem.W.mg_none_of X G' z13, PySem.W.mg_none_of X G' z14⟩
  have clSigns : Cls K CSigns := ⟨pgSigns, hdSigns, poSigns, saSigns⟩
  have ecSigns : (clf CSigns) 0 = some CSigns := rfl
  have uncl : ∀ c C, (clf CSigns) c = some C → (c = 0 ∧ C = CSigns) := by
    intro c C e
    unfold clf at e
    split at e <;> first | (cases e; done) | (cases e; simp)
  have co : ClsOk K (clf CSigns) G.sub := by
    refine ⟨fun c C e => ?_, fun c C n e hn => ?_, fun c C n e hn => ?_, fun c d C D' e e' => ?_⟩
    · rcases uncl c C e with ⟨rfl, rfl⟩
      · exact ⟨clSigns, ccSigns, cg, ct_, mrSigns⟩
    · rcases uncl c C e with ⟨rfl, rfl⟩
      · simp only [List.mem_cons, List.not_mem_nil, or_false] at hn; rcases hn with rfl | rfl | rfl | rfl | rfl | rfl
        · exact ka_Signs_int
        · exact ka_Signs_bool
        · exact ka_Signs_str
        · exact ka_Signs_list
        · exact ka_Signs_tuple
        · exact ka_Signs_dict
    · rcases uncl c C e with ⟨rfl, rfl⟩
      · simp only [List.mem_cons, List.not_mem_nil, or_false] at hn; rcases hn with rfl | rfl | rfl | rfl | rfl | rfl | rfl
        · exact kb_Signs_NoneType
        · exact kb_Signs_int
        · exact kb_Signs_bool
        · exact kb_Signs_str
        · exact kb_Signs_list
        · exact kb_Signs_tuple
        · exact kb_Signs_dict
    · rcases uncl c C e with ⟨rfl, rfl⟩ <;> rcases uncl d D' e' with ⟨rfl, rfl⟩
      · exact kk_Signs_Signs
  have F0 := fun_mk (st := st_law) l0 c0 k0
  have b0 := F0.binds (ps := ["script"]) fun _ _ _ _ _ _ us hl => match us, hl with | [_], _ => rfl
  have F1 := fun_mk (st := st__law_feed) l1 c1 k1
  have b1 := F1.binds (ps := ["script", "k"]) fun _ _ _ _ _ _ us hl => match us, hl with | [_, _], _ => rfl
  have F2 := fun_mk (st := st__law_drawn_signs) l2 c2 k2
  have b2 := F2.binds (ps := ["feed"]) fun _ _ _ _ _ _ us hl => match us, hl with | [_], _ => rfl
  have F3 := fun_mk (st := st__law_made) l3 c3 k3
  have b3 := F3.binds (ps := ["pairs"]) fun _ _ _ _ _ _ us hl => match us, hl with | [_], _ => rfl
  have F4 := fun_mk (st := st__law_is) l4 c4 k4
  have b4 := F4.binds (ps := ["signs", "pairs"]) fun _ _ _ _ _ _ us hl => match us, hl with | [_, _], _ => rfl
  have F5 := fun_mk (st := st__law_take) l5 c5 k5
  have b5 := F5.binds (ps := ["feed", "many"]) fun _ _ _ _ _ _ us hl => match us, hl with | [_, _], _ => rfl
  have F6 := fun_mk (st := st__law_odd_pairs) l6 c6 k6
  have b6 := F6.binds (ps := ["name"]) fun _ _ _ _ _ _ us hl => match us, hl with | [_], _ => rfl
  have F7 := fun_mk (st := st__law_arity) l7 c7 k7
  have b7 := F7.binds (ps := ["signs", "name"]) fun _ _ _ _ _ _ us hl => match us, hl with | [_, _], _ => rfl
  have F8 := fun_mk (st := st_Signs___contains__) l8 c8 k8
  have b8 := F8.binds (ps := ["self", "name"]) fun _ _ _ _ _ _ us hl => match us, hl with | [_, _], _ => rfl
  have F9 := fun_mk (st := st__law_near_right) l9 c9 k9
  have b9 := F9.binds (ps := ["feed", "signs", "pairs"]) fun _ _ _ _ _ _ us hl => match us, hl with | [_, _, _], _ => rfl
  have F10 := fun_mk (st := st_Signs___init__) l10 c10 k10
  have b10 := F10.binds (ps := ["self", "pairs"]) fun _ _ _ _ _ _ us hl => match us, hl with | [_, _], _ => rfl
  have F11 := fun_mk (st := st_Signs___eq__) l11 c11 k11
  have b11 := F11.binds (ps := ["self", "other"]) fun _ _ _ _ _ _ us hl => match us, hl with | [_, _], _ => rfl
  have F12 := fun_mk (st := st__law_known_signs) l12 c12 k12
  have b12 := F12.binds (ps := []) fun _ _ _ _ _ _ us hl => match us, hl with | [], _ => rfl
  have F13 := fun_mk (st := st__law_pick) l13 c13 k13
  have b13 := F13.binds (ps := ["feed", "some"]) fun _ _ _ _ _ _ us hl => match us, hl with | [_, _], _ => rfl
  have F14 := fun_mk (st := st_Signs___len__) l14 c14 k14
  have b14 := F14.binds (ps := ["self"]) fun _ _ _ _ _ _ us hl => match us, hl with | [_], _ => rfl
  have F15 := fun_mk (st := st_Signs_names) l15 c15 k15
  have b15 := F15.binds (ps := ["self"]) fun _ _ _ _ _ _ us hl => match us, hl with | [_], _ => rfl
  have F16 := fun_mk (st := st_Signs_ways) l16 c16 k16
  have b16 := F16.binds (ps := ["self"]) fun _ _ _ _ _ _ us hl => match us, hl with | [_], _ => rfl
  have F17 := fun_mk (st := st__law_ways) l17 c17 k17
  have b17 := F17.binds (ps := ["pairs"]) fun _ _ _ _ _ _ us hl => match us, hl with | [_], _ => rfl
  have F18 := fun_mk (st := st_Signs_arity) l18 c18 k18
  have b18 := F18.binds (ps := ["self", "name"]) fun _ _ _ _ _ _ us hl => match us, hl with | [_, _], _ => rfl
  have F19 := fun_mk (st := st__law_near_signs) l19 c19 k19
  have b19 := F19.binds (ps := ["pairs"]) fun _ _ _ _ _ _ us hl => match us, hl with | [_], _ => rfl
  have F20 := fun_mk (st := st_is_word) l20 c20 k20
  have b20 := F20.binds (ps := ["value", "letters"]) fun _ _ _ _ _ _ us hl => match us, hl with | [_, _], _ => rfl
  have F21 := fun_mk (st := st_within) l21 c21 k21
  have b21 := F21.binds (ps := ["value", "low", "high"]) fun _ _ _ _ _ _ us hl => match us, hl with | [_, _, _], _ => rfl
  have hx : XrOk (xrOf (clf CSigns) (xcf CNoList CBadCount CBadSign CNoSign)) := xrOf_ok
  have FxBadSign := fun_mk (st := st_BadSign___init__) lBadSign cBadSign pBadSign
  have bxBadSign := FxBadSign.binds (ps := ["self", "number"]) fun _ _ _ _ _ _ us hl => match us, hl with | [_, _], _ => rfl
  have oxBadSign : OexC K CBadSign := ⟨⟨_, _, _, _, _, _, _, _, _, _, _, _, _, _, _, xBadSign, vBadSign⟩, sBadSign, eBadSign, tBadSign, kBadSign⟩
  have FxNoSign := fun_mk (st := st_NoSign___init__) lNoSign cNoSign pNoSign
  have bxNoSign := FxNoSign.binds (ps := ["self", "name"]) fun _ _ _ _ _ _ us hl => match us, hl with | [_, _], _ => rfl
  have oxNoSign : OexC K CNoSign := ⟨⟨_, _, _, _, _, _, _, _, _, _, _, _, _, _, _, xNoSign, vNoSign⟩, sNoSign, eNoSign, tNoSign, kNoSign⟩
  have step : ∀ (d : Nat) (base : Heap), Cals ⟨P, w, K, mg, base⟩ (Z0 (clf CSigns) (xcf CNoList CBadCount CBadSign CNoSign) d) (2 * d + 1) LL ∧ Kls ⟨P, w, K, mg, base⟩ (Z0 (clf CSigns) (xcf CNoList CBadCount CBadSign CNoSign) d) (xcf CNoList CBadCount CBadSign CNoSign) (2 * d + 1) := by
    intro d base
    induction d with
    | zero =>
      refine ⟨fun j e hj => ?_, ?_⟩
      · match j, hj with
        | 0, rfl => exact ⟨_, _, ["script"], fnG_zero, rfl, PySem.W.mg_of X G' a0, k0, b0⟩
        | 1, rfl => exact ⟨_, _, ["script", "k"], fnG_zero, rfl, PySem.W.mg_of X G' a1, k1, b1⟩
        | 2, rfl => exact ⟨_, _, ["feed"], fnG_zero, rfl, PySem.W.mg_of X G' a2, k2, b2⟩
        | 3, rfl => exact ⟨_, _, ["pairs"], fnG_zero, rfl, PySem.W.mg_of X G' a3, k3, b3⟩
        | 4, rfl => exact ⟨_, _, ["signs", "pairs"], fnG_zero, rfl, PySem.W.mg_of X G' a4, k4, b4⟩
        | 5, rfl => exact ⟨_, _, ["feed", "many"], fnG_zero, rfl, PySem.W.mg_of X G' a5, k5, b5⟩
        | 6, rfl => exact ⟨_, _, ["name"], fnG_zero, rfl, PySem.W.mg_of X G' a6, k6, b6⟩
        | 7, rfl => exact ⟨_, _, ["signs", "name"], fnG_zero, rfl, PySem.W.mg_of X G' a7, k7, b7⟩
        | 8, rfl => exact ⟨_, _, ["feed", "signs", "pairs"], fnG_zero, rfl, PySem.W.mg_of X G' a9, k9, b9⟩
        | 9, rfl => exact ⟨_, _, [], fnG_zero, rfl, PySem.W.mg_of X G' a12, k12, b12⟩
        | 10, rfl => exact ⟨_, _, ["feed", "some"], fnG_zero, rfl, PySem.W.mg_of X G' a13, k13, b13⟩
        | 11, rfl => exact ⟨_, _, ["pairs"], fnG_zero, rfl, PySem.W.mg_of X G' a17, k17, b17⟩
        | 12, rfl => exact ⟨_, _, ["pairs"], fnG_zero, rfl, PySem.W.mg_of X G' a19, k19, b19⟩
        | 13, rfl => exact ⟨_, _, ["value", "letters"], fnG_zero, rfl, PySem.W.mg_of X G' a20, k20, b20⟩
        | 14, rfl => exact ⟨_, _, ["value", "low", "high"], fnG_zero, rfl, PySem.W.mg_of X G' a21, k21, b21⟩
      · exact ⟨⟨⟨_, _, PySem.W.mg_of X G' oMOST_ARITY, (show RelV (.int 3) _ from ⟨_, rfl⟩), rfl⟩⟩,
        ⟨⟨_, _, PySem.W.mg_of X G' oMOST_LETTERS, (show RelV (.int 8) _ from ⟨_, rfl⟩), rfl⟩⟩,
        ⟨⟨_, _, PySem.W.mg_of X G' oMOST_SIGNS, (show RelV (.int 5) _ from ⟨_, rfl⟩), rfl⟩⟩,
        ⟨⟨_, _, PySem.W.mg_of X G' oSMALL, (show RelV (.str "abcdefghijklmnopqrstuvwxyz") _ from ⟨_, rfl⟩), rfl⟩⟩,
        ⟨⟨_, PySem.W.mg_of X G' aBadCount, fun c2 C2 o e => by unfold xcf at e; split at e <;> cases e <;> first | exact PySem.W.exm_ref eBadCount hd_BadCount tBadCount hs_BadCount_NoList | exact PySem.W.exm_ref eBadCount hd_BadCount tBadCount hs_BadCount_BadCount | exact PySem.W.exm_ref eBadCount hd_BadCount tBadCount hs_BadCount_BadSign | exact PySem.W.exm_ref eBadCount hd_BadCount tBadCount hs_BadCount_NoSign⟩⟩,
        ⟨⟨_, PySem.W.mg_of X G' aBadSign, fun c2 C2 o e => by unfold xcf at e; split at e <;> cases e <;> first | exact PySem.W.exm_ref eBadSign hd_BadSign tBadSign hs_BadSign_NoList | exact PySem.W.exm_ref eBadSign hd_BadSign tBadSign hs_BadSign_BadCount | exact PySem.W.exm_ref eBadSign hd_BadSign tBadSign hs_BadSign_BadSign | exact PySem.W.exm_ref eBadSign hd_BadSign tBadSign hs_BadSign_NoSign⟩⟩,
        ⟨⟨_, PySem.W.mg_of X G' aNoList, fun c2 C2 o e => by unfold xcf at e; split at e <;> cases e <;> first | exact PySem.W.exm_ref eNoList hd_NoList tNoList hs_NoList_NoList | exact PySem.W.exm_ref eNoList hd_NoList tNoList hs_NoList_BadCount | exact PySem.W.exm_ref eNoList hd_NoList tNoList hs_NoList_BadSign | exact PySem.W.exm_ref eNoList hd_NoList tNoList hs_NoList_NoSign⟩⟩,
        ⟨⟨_, PySem.W.mg_of X G' aNoSign, fun c2 C2 o e => by unfold xcf at e; split at e <;> cases e <;> first | exact PySem.W.exm_ref eNoSign hd_NoSign tNoSign hs_NoSign_NoList | exact PySem.W.exm_ref eNoSign hd_NoSign tNoSign hs_NoSign_BadCount | exact PySem.W.exm_ref eNoSign hd_NoSign tNoSign hs_NoSign_BadSign | exact PySem.W.exm_ref eNoSign hd_NoSign tNoSign hs_NoSign_NoSign⟩⟩,
        ⟨⟨_, PySem.W.mg_of X G' aSigns, rfl⟩⟩,
        ⟨⟨_, _, _, ["self", "name"], rfl, clSigns, ⟨a18, i18, k18⟩, fnG_zero, rfl, b18⟩⟩,
        ⟨⟨_, _, _, ["self", "pairs"], rfl, ⟨mkSigns, a10, i10, kcSigns⟩, fnG_zero, rfl, PySem.W.mg_of X G' aSigns, b10⟩⟩,
        (fun C e => by cases e; exact ⟨clSigns, na_Signs_held⟩),
        ⟨fun C e => by cases e; exact ⟨qne_Signs, mrSigns⟩⟩,
        ⟨⟨_, _, _, ["self", "name"], rfl, a8, i8, fnG_zero, rfl, b8⟩⟩,
        ⟨⟨_, _, _, ["self", "other"], rfl, a11, i11, fnG_zero, rfl, b11⟩⟩,
        ⟨⟨_, _, _, ["self"], rfl, a14, i14, fnG_zero, rfl, b14⟩⟩,
        ⟨⟨_, _, _, _, ["self"], rfl, clSigns, ⟨a15, g15, t15, ⟨_, r15⟩⟩, fnG_zero, rfl, b15⟩⟩,
        ⟨⟨_, _, _, _, ["self"], rfl, clSigns, ⟨a16, g16, t16, ⟨_, r16⟩⟩, fnG_zero, rfl, b16⟩⟩,
        ⟨⟨_, ⟨va_BadSign, vb_BadSign, eBadSign, hd_BadSign⟩, nBadSign, fun c2 e => by have z : c2 = 104 := (by simpa [G, subF] using e); subst z; rfl⟩⟩,
        ⟨⟨_, ⟨va_NoSign, vb_NoSign, eNoSign, hd_NoSign⟩, nNoSign, fun c2 e => by have z : c2 = 105 := (by simpa [G, subF] using e); subst z; rfl⟩⟩,
        ⟨⟨_, rfl, ⟨⟨_, _, _, _, PySem.F.excBase_ValueError, hBadCount⟩, kBadCount, eBadCount, tBadCount⟩, PySem.W.mg_of X G' aBadCount⟩⟩,
        ⟨⟨_, rfl, ⟨oxBadSign, nBadSign, ⟨_, _, ["self", "number"], iBadSign, yBadSign, bxBadSign, ok_xinit (k := 2 * _) FxBadSign sc_BadSign___init__ rfl oxBadSign nBadSign rfl rfl (Or.inl rfl) (Or.inl rfl) (by decide) (by decide) (by decide) (by decide)⟩⟩, PySem.W.mg_of X G' aBadSign⟩⟩,
        ⟨⟨_, rfl, ⟨⟨_, _, _, _, PySem.F.excBase_ValueError, hNoList⟩, kNoList, eNoList, tNoList⟩, PySem.W.mg_of X G' aNoList⟩⟩,
        ⟨⟨_, rfl, ⟨oxNoSign, nNoSign, ⟨_, _, ["self", "name"], iNoSign, yNoSign, bxNoSign, ok_xinit (k := 2 * _) FxNoSign sc_NoSign___init__ rfl oxNoSign nNoSign rfl rfl (Or.inl rfl) (Or.inl rfl) (by decide) (by decide) (by decide) (by decide)⟩⟩, PySem.W.mg_of X G' aNoSign⟩⟩⟩
    | succ d ih =>
      obtain ⟨ih, kk⟩ := ih
      have R0 : FnG ⟨P, w, K, mg, base⟩ true (2 * (d + 1) + 1) fa _ ["script"] (spF (clf CSigns) (xrOf (clf CSigns) (xcf CNoList CBadCount CBadSign CNoSign)) 1 (callF G (d + 1) 900001)) := ok_mini (i := 900001) (fdm := m_law01) F0 sc_law hx rfl rfl rfl (fun cdv A fr s H E hr gu => b_law bi co ih kk hr (gu rfl))
      have R1 : FnG ⟨P, w, K, mg, base⟩ false (2 * (d + 1) + 1) f1 _ ["script", "k"] (spF (clf CSigns) (xrOf (clf CSigns) (xcf CNoList CBadCount CBadSign CNoSign)) 2 (callF G (d + 1) 100)) := ok_mini (i := 100) (fdm := m__law_feed) F1 sc__law_feed hx rfl rfl rfl (fun cdv A fr s H E hr gu => b__law_feed bi co ih kk hr)
      have R2 : FnG ⟨P, w, K, mg, base⟩ false (2 * (d + 1) + 1) f2 _ ["feed"] (spF (clf CSigns) (xrOf (clf CSigns) (xcf CNoList CBadCount CBadSign CNoSign)) 1 (callF G (d + 1) 126)) := ok_mini (i := 126) (fdm := m__law_drawn_signs) F2 sc__law_drawn_signs hx rfl rfl rfl (fun cdv A fr s H E hr gu => b__law_drawn_signs bi co ih kk hr)
      have R3 : FnG ⟨P, w, K, mg, base⟩ false (2 * (d + 1) + 1) f3 _ ["pairs"] (spF (clf CSigns) (xrOf (clf CSigns) (xcf CNoList CBadCount CBadSign CNoSign)) 1 (callF G (d + 1) 132)) := ok_mini (i := 132) (fdm := m__law_made) F3 sc__law_made hx rfl rfl rfl (fun cdv A fr s H E hr gu => b__law_made bi co ih kk hr)
      have R4 : FnG ⟨P, w, K, mg, base⟩ true (2 * (d + 1) + 1) f4 _ ["signs", "pairs"] (spF (clf CSigns) (xrOf (clf CSigns) (xcf CNoList CBadCount CBadSign CNoSign)) 2 (callF G (d + 1) 133)) := ok_mini (i := 133) (fdm := m__law_is_2) F4 sc__law_is hx rfl rfl rfl (fun cdv A fr s H E hr gu => b__law_is bi co ih kk hr (gu rfl))
      have R5 : FnG ⟨P, w, K, mg, base⟩ false (2 * (d + 1) + 1) f5 _ ["feed", "many"] (spF (clf CSigns) (xrOf (clf CSigns) (xcf CNoList CBadCount CBadSign CNoSign)) 2 (callF G (d + 1) 108)) := ok_mini (i := 108) (fdm := m__law_take) F5 sc__law_take hx rfl rfl rfl (fun cdv A fr s H E hr gu => b__law_take bi co ih kk hr)
      have R6 : FnG ⟨P, w, K, mg, base⟩ false (2 * (d + 1) + 1) f6 _ ["name"] (spF (clf CSigns) (xrOf (clf CSigns) (xcf CNoList CBadCount CBadSign CNoSign)) 1 (callF G (d + 1) 134)) := ok_mini (i := 134) (fdm := m__law_odd_pairs) F6 sc__law_odd_pairs hx rfl rfl rfl (fun cdv A fr s H E hr gu => b__law_odd_pairs bi co ih kk hr)
      have R7 : FnG ⟨P, w, K, mg, base⟩ true (2 * (d + 1) + 1) f7 _ ["signs", "name"] (spF (clf CSigns) (xrOf (clf CSigns) (xcf CNoList CBadCount CBadSign CNoSign)) 2 (callF G (d + 1) 135)) := ok_mini (i := 135) (fdm := m__law_arity) F7 sc__law_arity hx rfl rfl rfl (fun cdv A fr s H E hr gu => b__law_arity bi co ih kk hr (gu rfl))
      have R8 : FnG ⟨P, w, K, mg, base⟩ false (2 * (d + 1) + 1) f8 _ ["self", "name"] (spF (clf CSigns) (xrOf (clf CSigns) (xcf CNoList CBadCount CBadSign CNoSign)) 2 (callF G (d + 1) 121)) := ok_mini (i := 121) (fdm := m_Signs___contains__) F8 sc_Signs___contains__ hx rfl rfl rfl (fun cdv A fr s H E hr gu => b_Signs___contains__ bi co ih kk hr)
      have R9 : FnG ⟨P, w, K, mg, base⟩ true (2 * (d + 1) + 1) f9 _ ["feed", "signs", "pairs"] (spF (clf CSigns) (xrOf (clf CSigns) (xcf CNoList CBadCount CBadSign CNoSign)) 3 (callF G (d + 1) 136)) := ok_mini (i := 136) (fdm := m__law_near_right) F9 sc__law_near_right hx rfl rfl rfl (fun cdv A fr s H E hr gu => b__law_near_right bi co ih kk hr (gu rfl))
      have R10 : FnG ⟨P, w, K, mg, base⟩ false (2 * (d + 1) + 1) f10 _ ["self", "pairs"] (spF (clf CSigns) (xrOf (clf CSigns) (xcf CNoList CBadCount CBadSign CNoSign)) 2 (callF G (d + 1) 104)) := ok_mini (i := 104) (fdm := m_Signs___init__) F10 sc_Signs___init__ hx rfl rfl rfl (fun cdv A fr s H E hr gu => b_Signs___init__ bi co ih kk hr)
      have R11 : FnG ⟨P, w, K, mg, base⟩ false (2 * (d + 1) + 1) f11 _ ["self", "other"] (spF (clf CSigns) (xrOf (clf CSigns) (xcf CNoList CBadCount CBadSign CNoSign)) 2 (callF G (d + 1) 137)) := ok_mini (i := 137) (fdm := m_Signs___eq__) F11 sc_Signs___eq__ hx rfl rfl rfl (fun cdv A fr s H E hr gu => b_Signs___eq__ bi co ih kk hr)
      have R12 : FnG ⟨P, w, K, mg, base⟩ false (2 * (d + 1) + 1) f12 _ [] (spF (clf CSigns) (xrOf (clf CSigns) (xcf CNoList CBadCount CBadSign CNoSign)) 0 (callF G (d + 1) 130)) := ok_mini (i := 130) (fdm := m__law_known_signs) F12 sc__law_known_signs hx rfl rfl rfl (fun cdv A fr s H E hr gu => b__law_known_signs bi co ih kk hr)
      have R13 : FnG ⟨P, w, K, mg, base⟩ false (2 * (d + 1) + 1) f13 _ ["feed", "some"] (spF (clf CSigns) (xrOf (clf CSigns) (xcf CNoList CBadCount CBadSign CNoSign)) 2 (callF G (d + 1) 102)) := ok_mini (i := 102) (fdm := m__law_pick) F13 sc__law_pick hx rfl rfl rfl (fun cdv A fr s H E hr gu => b__law_pick bi co ih kk hr)
      have R14 : FnG ⟨P, w, K, mg, base⟩ false (2 * (d + 1) + 1) f14 _ ["self"] (spF (clf CSigns) (xrOf (clf CSigns) (xcf CNoList CBadCount CBadSign CNoSign)) 1 (callF G (d + 1) 111)) := ok_mini (i := 111) (fdm := m_Signs___len__) F14 sc_Signs___len__ hx rfl rfl rfl (fun cdv A fr s H E hr gu => b_Signs___len__ bi co ih kk hr)
      have R15 : FnG ⟨P, w, K, mg, base⟩ false (2 * (d + 1) + 1) f15 _ ["self"] (spF (clf CSigns) (xrOf (clf CSigns) (xcf CNoList CBadCount CBadSign CNoSign)) 1 (callF G (d + 1) 138)) := ok_mini (i := 138) (fdm := m_Signs_names_2) F15 sc_Signs_names hx rfl rfl rfl (fun cdv A fr s H E hr gu => b_Signs_names bi co ih kk hr)
      have R16 : FnG ⟨P, w, K, mg, base⟩ false (2 * (d + 1) + 1) f16 _ ["self"] (spF (clf CSigns) (xrOf (clf CSigns) (xcf CNoList CBadCount CBadSign CNoSign)) 1 (callF G (d + 1) 139)) := ok_mini (i := 139) (fdm := m_Signs_ways_2) F16 sc_Signs_ways hx rfl rfl rfl (fun cdv A fr s H E hr gu => b_Signs_ways bi co ih kk hr)
      have R17 : FnG ⟨P, w, K, mg, base⟩ false (2 * (d + 1) + 1) f17 _ ["pairs"] (spF (clf CSigns) (xrOf (clf CSigns) (xcf CNoList CBadCount CBadSign CNoSign)) 1 (callF G (d + 1) 140)) := ok_mini (i := 140) (fdm := m__law_ways) F17 sc__law_ways hx rfl rfl rfl (fun cdv A fr s H E hr gu => b__law_ways bi co ih kk hr)
      have R18 : FnG ⟨P, w, K, mg, base⟩ false (2 * (d + 1) + 1) f18 _ ["self", "name"] (spF (clf CSigns) (xrOf (clf CSigns) (xcf CNoList CBadCount CBadSign CNoSign)) 2 (callF G (d + 1) 122)) := ok_mini (i := 122) (fdm := m_Signs_arity) F18 sc_Signs_arity hx rfl rfl rfl (fun cdv A fr s H E hr gu => b_Signs_arity bi co ih kk hr)
      have R19 : FnG ⟨P, w, K, mg, base⟩ false (2 * (d + 1) + 1) f19 _ ["pairs"] (spF (clf CSigns) (xrOf (clf CSigns) (xcf CNoList CBadCount CBadSign CNoSign)) 1 (callF G (d + 1) 141)) := ok_mini (i := 141) (fdm := m__law_near_signs) F19 sc__law_near_signs hx rfl rfl rfl (fun cdv A fr s H E hr gu => b__law_near_signs bi co ih kk hr)
      have R20 : FnG ⟨P, w, K, mg, base⟩ false (2 * (d + 1) + 1) f20 _ ["value", "letters"] (spF (clf CSigns) (xrOf (clf CSigns) (xcf CNoList CBadCount CBadSign CNoSign)) 2 (callF G (d + 1) 113)) := ok_mini (i := 113) (fdm := m_is_word) F20 sc_is_word hx rfl rfl rfl (fun cdv A fr s H E hr gu => b_is_word bi co ih kk hr)
      have R21 : FnG ⟨P, w, K, mg, base⟩ false (2 * (d + 1) + 1) f21 _ ["value", "low", "high"] (spF (clf CSigns) (xrOf (clf CSigns) (xcf CNoList CBadCount CBadSign CNoSign)) 3 (callF G (d + 1) 114)) := ok_mini (i := 114) (fdm := m_within) F21 sc_within hx rfl rfl rfl (fun cdv A fr s H E hr gu => b_within bi co ih kk hr)
      refine ⟨fun j e hj => ?_, ?_⟩
      · match j, hj with
        | 0, rfl => exact ⟨_, _, ["script"], R0, rfl, PySem.W.mg_of X G' a0, k0, b0⟩
        | 1, rfl => exact ⟨_, _, ["script", "k"], R1, rfl, PySem.W.mg_of X G' a1, k1, b1⟩
        | 2, rfl => exact ⟨_, _, ["feed"], R2, rfl, PySem.W.mg_of X G' a2, k2, b2⟩
        | 3, rfl => exact ⟨_, _, ["pairs"], R3, rfl, PySem.W.mg_of X G' a3, k3, b3⟩
        | 4, rfl => exact ⟨_, _, ["signs", "pairs"], R4, rfl, PySem.W.mg_of X G' a4, k4, b4⟩
        | 5, rfl => exact ⟨_, _, ["feed", "many"], R5, rfl, PySem.W.mg_of X G' a5, k5, b5⟩
        | 6, rfl => exact ⟨_, _, ["name"], R6, rfl, PySem.W.mg_of X G' a6, k6, b6⟩
        | 7, rfl => exact ⟨_, _, ["signs", "name"], R7, rfl, PySem.W.mg_of X G' a7, k7, b7⟩
        | 8, rfl => exact ⟨_, _, ["feed", "signs", "pairs"], R9, rfl, PySem.W.mg_of X G' a9, k9, b9⟩
        | 9, rfl => exact ⟨_, _, [], R12, rfl, PySem.W.mg_of X G' a12, k12, b12⟩
        | 10, rfl => exact ⟨_, _, ["feed", "some"], R13, rfl, PySem.W.mg_of X G' a13, k13, b13⟩
        | 11, rfl => exact ⟨_, _, ["pairs"], R17, rfl, PySem.W.mg_of X G' a17, k17, b17⟩
        | 12, rfl => exact ⟨_, _, ["pairs"], R19, rfl, PySem.W.mg_of X G' a19, k19, b19⟩
        | 13, rfl => exact ⟨_, _, ["value", "letters"], R20, rfl, PySem.W.mg_of X G' a20, k20, b20⟩
        | 14, rfl => exact ⟨_, _, ["value", "low", "high"], R21, rfl, PySem.W.mg_of X G' a21, k21, b21⟩
      · exact ⟨⟨⟨_, _, PySem.W.mg_of X G' oMOST_ARITY, (show RelV (.int 3) _ from ⟨_, rfl⟩), rfl⟩⟩,
        ⟨⟨_, _, PySem.W.mg_of X G' oMOST_LETTERS, (show RelV (.int 8) _ from ⟨_, rfl⟩), rfl⟩⟩,
        ⟨⟨_, _, PySem.W.mg_of X G' oMOST_SIGNS, (show RelV (.int 5) _ from ⟨_, rfl⟩), rfl⟩⟩,
        ⟨⟨_, _, PySem.W.mg_of X G' oSMALL, (show RelV (.str "abcdefghijklmnopqrstuvwxyz") _ from ⟨_, rfl⟩), rfl⟩⟩,
        ⟨⟨_, PySem.W.mg_of X G' aBadCount, fun c2 C2 o e => by unfold xcf at e; split at e <;> cases e <;> first | exact PySem.W.exm_ref eBadCount hd_BadCount tBadCount hs_BadCount_NoList | exact PySem.W.exm_ref eBadCount hd_BadCount tBadCount hs_BadCount_BadCount | exact PySem.W.exm_ref eBadCount hd_BadCount tBadCount hs_BadCount_BadSign | exact PySem.W.exm_ref eBadCount hd_BadCount tBadCount hs_BadCount_NoSign⟩⟩,
        ⟨⟨_, PySem.W.mg_of X G' aBadSign, fun c2 C2 o e => by unfold xcf at e; split at e <;> cases e <;> first | exact PySem.W.exm_ref eBadSign hd_BadSign tBadSign hs_BadSign_NoList | exact PySem.W.exm_ref eBadSign hd_BadSign tBadSign hs_BadSign_BadCount | exact PySem.W.exm_ref eBadSign hd_BadSign tBadSign hs_BadSign_BadSign | exact PySem.W.exm_ref eBadSign hd_BadSign tBadSign hs_BadSign_NoSign⟩⟩,
        ⟨⟨_, PySem.W.mg_of X G' aNoList, fun c2 C2 o e => by unfold xcf at e; split at e <;> cases e <;> first | exact PySem.W.exm_ref eNoList hd_NoList tNoList hs_NoList_NoList | exact PySem.W.exm_ref eNoList hd_NoList tNoList hs_NoList_BadCount | exact PySem.W.exm_ref eNoList hd_NoList tNoList hs_NoList_BadSign | exact PySem.W.exm_ref eNoList hd_NoList tNoList hs_NoList_NoSign⟩⟩,
        ⟨⟨_, PySem.W.mg_of X G' aNoSign, fun c2 C2 o e => by unfold xcf at e; split at e <;> cases e <;> first | exact PySem.W.exm_ref eNoSign hd_NoSign tNoSign hs_NoSign_NoList | exact PySem.W.exm_ref eNoSign hd_NoSign tNoSign hs_NoSign_BadCount | exact PySem.W.exm_ref eNoSign hd_NoSign tNoSign hs_NoSign_BadSign | exact PySem.W.exm_ref eNoSign hd_NoSign tNoSign hs_NoSign_NoSign⟩⟩,
        ⟨⟨_, PySem.W.mg_of X G' aSigns, rfl⟩⟩,
        ⟨⟨_, _, _, ["self", "name"], rfl, clSigns, ⟨a18, i18, k18⟩, R18, rfl, b18⟩⟩,
        ⟨⟨_, _, _, ["self", "pairs"], rfl, ⟨mkSigns, a10, i10, kcSigns⟩, R10, rfl, PySem.W.mg_of X G' aSigns, b10⟩⟩,
        (fun C e => by cases e; exact ⟨clSigns, na_Signs_held⟩),
        ⟨fun C e => by cases e; exact ⟨qne_Signs, mrSigns⟩⟩,
        ⟨⟨_, _, _, ["self", "name"], rfl, a8, i8, R8, rfl, b8⟩⟩,
        ⟨⟨_, _, _, ["self", "other"], rfl, a11, i11, R11, rfl, b11⟩⟩,
        ⟨⟨_, _, _, ["self"], rfl, a14, i14, R14, rfl, b14⟩⟩,
        ⟨⟨_, _, _, _, ["self"], rfl, clSigns, ⟨a15, g15, t15, ⟨_, r15⟩⟩, R15, rfl, b15⟩⟩,
        ⟨⟨_, _, _, _, ["self"], rfl, clSigns, ⟨a16, g16, t16, ⟨_, r16⟩⟩, R16, rfl, b16⟩⟩,
        ⟨⟨_, ⟨va_BadSign, vb_BadSign, eBadSign, hd_BadSign⟩, nBadSign, fun c2 e => by have z : c2 = 104 := (by simpa [G, subF] using e); subst z; rfl⟩⟩,
        ⟨⟨_, ⟨va_NoSign, vb_NoSign, eNoSign, hd_NoSign⟩, nNoSign, fun c2 e => by have z : c2 = 105 := (by simpa [G, subF] using e); subst z; rfl⟩⟩,
        ⟨⟨_, rfl, ⟨⟨_, _, _, _, PySem.F.excBase_ValueError, hBadCount⟩, kBadCount, eBadCount, tBadCount⟩, PySem.W.mg_of X G' aBadCount⟩⟩,
        ⟨⟨_, rfl, ⟨oxBadSign, nBadSign, ⟨_, _, ["self", "number"], iBadSign, yBadSign, bxBadSign, ok_xinit (k := 2 * _) FxBadSign sc_BadSign___init__ rfl oxBadSign nBadSign rfl rfl (Or.inl rfl) (Or.inl rfl) (by decide) (by decide) (by decide) (by decide)⟩⟩, PySem.W.mg_of X G' aBadSign⟩⟩,
        ⟨⟨_, rfl, ⟨⟨_, _, _, _, PySem.F.excBase_ValueError, hNoList⟩, kNoList, eNoList, tNoList⟩, PySem.W.mg_of X G' aNoList⟩⟩,
        ⟨⟨_, rfl, ⟨oxNoSign, nNoSign, ⟨_, _, ["self", "name"], iNoSign, yNoSign, bxNoSign, ok_xinit (k := 2 * _) FxNoSign sc_NoSign___init__ rfl oxNoSign nNoSign rfl rfl (Or.inl rfl) (Or.inl rfl) (by decide) (by decide) (by decide) (by decide)⟩⟩, PySem.W.mg_of X G' aNoSign⟩⟩⟩
  refine ⟨_, fun s u => ?_, fun base _ _ => FnG.weak (ok_mini (i := 900001) (fdm := m_law01) F0 sc_law hx rfl rfl rfl (fun cdv A fr s H E hr gu => b_law bi co (step 19 base).1 (step 19 base).2 hr (gu rfl))) (fun zs H Q E q => q _ _)⟩
  exact .of_eq rfl
end
end My.K01

open PySem PySem.W PyProof.Rows
set_option maxRecDepth 100000 in
set_option maxHeartbeats 0 in
theorem PySem.Challenge.cw_shutbyrings_k01_what_are_signs_holds : PySem.Challenge.rw_shutbyrings_k01_what_are_signs.Holds := by
  w_on; o_law; k_head; (case hw => w_witness2)
  k_fill
  refine My.the_law (gd := true) (l := PySem.Challenge.rw_shutbyrings_k01_what_are_signs) (n := 63) (x := "script") (k := 2 * 20 + 1) (sp := fun _ => My.spAll My.M01.G 20 900001) rfl (by decide) rfl ⟨rfl, by decide, by decide⟩ (fun w h Y => PySem.W.kIn_of Y) ?noL ?theF (fun _ H a ns hl hS cl xr => My.law_sp hS (My.K01.main ns hl))
  case noL => intro w; rfl
  case theF =>
    intro w mg fa h KX G' hmg
    refine' My.K01.all_mk KX G' hmg ?aSigns ?pgSigns ?hdSigns ?poSigns ?saSigns ?mkSigns ?kcSigns ?ccSigns ?mrSigns ?ka_Signs_int ?ka_Signs_bool ?ka_Signs_str ?ka_Signs_list ?ka_Signs_tuple ?ka_Signs_dict ?kb_Signs_NoneType ?kb_Signs_int ?kb_Signs_bool ?kb_Signs_str ?kb_Signs_list ?kb_Signs_tuple ?kb_Signs_dict ?cg ?ct_ ?kk_Signs_Signs ?na_Signs_held ?a0 ?l0 ?c0 ?k0 ?a1 ?l1 ?c1 ?k1 ?a2 ?l2 ?c2 ?k2 ?a3 ?l3 ?c3 ?k3 ?a4 ?l4 ?c4 ?k4 ?a5 ?l5 ?c5 ?k5 ?a6 ?l6 ?c6 ?k6 ?a7 ?l7 ?c7 ?k7 ?a8 ?i8 ?l8 ?c8 ?k8 ?a9 ?l9 ?c9 ?k9 ?a10 ?i10 ?l10 ?c10 ?k10 ?a11 ?i11 ?l11 ?c11 ?k11 ?a12 ?l12 ?c12 ?k12 ?a13 ?l13 ?c13 ?k13 ?a14 ?i14 ?l14 ?c14 ?k14 ?a15 ?g15 ?t15 ?r15 ?l15 ?c15 ?k15 ?a16 ?g16 ?t16 ?r16 ?l16 ?c16 ?k16 ?a17 ?l17 ?c17 ?k17 ?a18 ?i18 ?l18 ?c18 ?k18 ?a19 ?l19 ?c19 ?k19 ?a20 ?l20 ?c20 ?k20 ?a21 ?l21 ?c21 ?k21 ?aNoList ?eNoList ?tNoList ?kNoList ?hNoList ?aBadCount ?eBadCount ?tBadCount ?kBadCount ?hBadCount ?aBadSign ?eBadSign ?tBadSign ?kBadSign ?xBadSign ?vBadSign ?sBadSign ?nBadSign ?iBadSign ?yBadSign ?lBadSign ?cBadSign ?pBadSign ?aNoSign ?eNoSign ?tNoSign ?kNoSign ?xNoSign ?vNoSign ?sNoSign ?nNoSign ?iNoSign ?yNoSign ?lNoSign ?cNoSign ?pNoSign ?hd_BadCount ?hs_BadCount_NoList ?hs_BadCount_BadCount ?hs_BadCount_BadSign ?hs_BadCount_NoSign ?hd_BadSign ?hs_BadSign_NoList ?hs_BadSign_BadCount ?hs_BadSign_BadSign ?hs_BadSign_NoSign ?hd_NoList ?hs_NoList_NoList ?hs_NoList_BadCount ?hs_NoList_BadSign ?hs_NoList_NoSign ?hd_NoSign ?hs_NoSign_NoList ?hs_NoSign_BadCount ?hs_NoSign_BadSign ?hs_NoSign_NoSign ?qne_Signs ?va_BadSign ?vb_BadSign ?va_NoSign ?vb_NoSign ?oMOST_ARITY ?oMOST_LETTERS ?oMOST_SIGNS ?oSMALL ?z0 ?z1 ?z2 ?z3 ?z4 ?z5 ?z6 ?z7 ?z8 ?z9 ?z10 ?z11 ?z12 ?z13 ?z14
    (case aSigns => k_is)
    (case pgSigns => k_is)
    (case hdSigns => k_is)
    (case poSigns => k_is)
    (case saSigns => k_is)
    (case mkSigns => k_is)
    (case kcSigns => k_is)
    (case ccSigns => k_is)
    (case mrSigns => k_is)
    (case ka_Signs_int => kit_is)
    (case ka_Signs_bool => kit_is)
    (case ka_Signs_str => kit_is)
    (case ka_Signs_list => kit_is)
    (case ka_Signs_tuple => kit_is)
    (case ka_Signs_dict => kit_is)
    (case kb_Signs_NoneType => kit_is)
    (case kb_Signs_int => kit_is)
    (case kb_Signs_bool => kit_is)
    (case kb_Signs_str => kit_is)
    (case kb_Signs_list => kit_is)
    (case kb_Signs_tuple => kit_is)
    (case kb_Signs_dict => kit_is)
    (case cg => k_is)
    (case ct_ => k_is)
    (case kk_Signs_Signs => kit_is)
    (case na_Signs_held => k_is)
    (case a0 => k_is)
    (case l0 => k_is)
    (case c0 => k_is)
    (case k0 => k_is)
    (case a1 => k_is)
    (case l1 => k_is)
    (case c1 => k_is)
    (case k1 => k_is)
    (case a2 => k_is)
    (case l2 => k_is)
    (case c2 => k_is)
    (case k2 => k_is)
    (case a3 => k_is)
    (case l3 => k_is)
    (case c3 => k_is)
    (case k3 => k_is)
    (case a4 => k_is)
    (case l4 => k_is)
    (case c4 => k_is)
    (case k4 => k_is)
    (case a5 => k_is)
    (case l5 => k_is)
    (case c5 => k_is)
    (case k5 => k_is)
    (case a6 => k_is)
    (case l6 => k_is)
    (case c6 => k_is)
    (case k6 => k_is)
    (case a7 => k_is)
    (case l7 => k_is)
    (case c7 => k_is)
    (case k7 => k_is)
    (case a8 => k_is)
    (case i8 => k_is)
    (case l8 => k_is)
    (case c8 => k_is)
    (case k8 => k_is)
    (case a9 => k_is)
    (case l9 => k_is)
    (case c9 => k_is)
    (case k9 => k_is)
    (case a10 => k_is)
    (case i10 => k_is)
    (case l10 => k_is)
    (case c10 => k_is)
    (case k10 => k_is)
    (case a11 => k_is)
    (case i11 => k_is)
    (case l11 => k_is)
    (case c11 => k_is)
    (case k11 => k_is)
    (case a12 => k_is)
    (case l12 => k_is)
    (case c12 => k_is)
    (case k12 => k_is)
    (case a13 => k_is)
    (case l13 => k_is)
    (case c13 => k_is)
    (case k13 => k_is)
    (case a14 => k_is)
    (case i14 => k_is)
    (case l14 => k_is)
    (case c14 => k_is)
    (case k14 => k_is)
    (case a15 => k_is)
    (case g15 => k_is)
    (case t15 => k_is)
    (case r15 => k_is)
    (case l15 => k_is)
    (case c15 => k_is)
    (case k15 => k_is)
    (case a16 => k_is)
    (case g16 => k_is)
    (case t16 => k_is)
    (case r16 => k_is)
    (case l16 => k_is)
    (case c16 => k_is)
    (case k16 => k_is)
    (case a17 => k_is)
    (case l17 => k_is)
    (case c17 => k_is)
    (case k17 => k_is)
    (case a18 => k_is)
    (case i18 => k_is)
    (case l18 => k_is)
    (case c18 => k_is)
    (case k18 => k_is)
    (case a19 => k_is)
    (case l19 => k_is)
    (case c19 => k_is)
    (case k19 => k_is)
    (case a20 => k_is)
    (case l20 => k_is)
    (case c20 => k_is)
    (case k20 => k_is)
    (case a21 => k_is)
    (case l21 => k_is)
    (case c21 => k_is)
    (case k21 => k_is)
    (case aNoList => k_is)
    (case eNoList => k_is)
    (case tNoList => k_is)
    (case kNoList => k_is)
    (case hNoList => k_exc)
    (case aBadCount => k_is)
    (case eBadCount => k_is)
    (case tBadCount => k_is)
    (case kBadCount => k_is)
    (case hBadCount => k_exc)
    (case aBadSign => k_is)
    (case eBadSign => k_is)
    (case tBadSign => k_is)
    (case kBadSign => k_is)
    (case xBadSign => k_is)
    (case vBadSign => rfl)
    (case sBadSign => k_is)
    (case nBadSign => k_is)
    (case iBadSign => k_is)
    (case yBadSign => k_is)
    (case lBadSign => k_is)
    (case cBadSign => k_is)
    (case pBadSign => k_is)
    (case aNoSign => k_is)
    (case eNoSign => k_is)
    (case tNoSign => k_is)
    (case kNoSign => k_is)
    (case xNoSign => k_is)
    (case vNoSign => rfl)
    (case sNoSign => k_is)
    (case nNoSign => k_is)
    (case iNoSign => k_is)
    (case yNoSign => k_is)
    (case lNoSign => k_is)
    (case cNoSign => k_is)
    (case pNoSign => k_is)
    (case hd_BadCount => k_is)
    (case hs_BadCount_NoList => k_is)
    (case hs_BadCount_BadCount => k_is)
    (case hs_BadCount_BadSign => k_is)
    (case hs_BadCount_NoSign => k_is)
    (case hd_BadSign => k_is)
    (case hs_BadSign_NoList => k_is)
    (case hs_BadSign_BadCount => k_is)
    (case hs_BadSign_BadSign => k_is)
    (case hs_BadSign_NoSign => k_is)
    (case hd_NoList => k_is)
    (case hs_NoList_NoList => k_is)
    (case hs_NoList_BadCount => k_is)
    (case hs_NoList_BadSign => k_is)
    (case hs_NoList_NoSign => k_is)
    (case hd_NoSign => k_is)
    (case hs_NoSign_NoList => k_is)
    (case hs_NoSign_BadCount => k_is)
    (case hs_NoSign_BadSign => k_is)
    (case hs_NoSign_NoSign => k_is)
    (case qne_Signs => k_is)
    (case va_BadSign => k_is)
    (case vb_BadSign => k_is)
    (case va_NoSign => k_is)
    (case vb_NoSign => k_is)
    (case oMOST_ARITY => k_is)
    (case oMOST_LETTERS => k_is)
    (case oMOST_SIGNS => k_is)
    (case oSMALL => k_is)
    (case z0 => k_is)
    (case z1 => k_is)
    (case z2 => k_is)
    (case z3 => k_is)
    (case z4 => k_is)
    (case z5 => k_is)
    (case z6 => k_is)
    (case z7 => k_is)
    (case z8 => k_is)
    (case z9 => k_is)
    (case z10 => k_is)
    (case z11 => k_is)
    (case z12 => k_is)
    (case z13 => k_is)
    (case z14 => k_is)


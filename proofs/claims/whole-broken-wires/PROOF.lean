import PyProof.Rows.All
import Wide.All
import OpenK.AllK
import Wide.FinOn
import HandS.ForMost
import HandS.IsInst
import HandS.Zip
import HandS.TupAny
import HandS.TupMul
import HandS.Style
import HandS.Deep
import HandS.Strs
import HandS.Flow
import HandS.Star
import HandS.Lambda
import HandS.ExcSuper
import HandS.ExcIs
import HandS.ExcField
import HandS.Walk
import HandS.Conv
import HandS.SetFor
import HandS.Evl
import KE.SortData
import KE.GoesEnum
import KE.KDictZip
import PyProof.ReprRoads
import KE.KExcSuper
import KE.KSuper
import KE.KTryMore
import KE.KExcIs
import PySem.Challenge.RW_bitswitches_k43_whole_broken_wires
import HandS.Small
import HandS.OwnEq
import HandS.Dict
import HandS.EndBits
set_option Elab.async false
set_option linter.all false
set_option maxRecDepth 100000
set_option maxHeartbeats 8000000
/-! Tuples that are known to be plain tuples (no dict of their own): the rules that make them. -/
namespace Kd
open PySem PySem.Spec PyProof.Rows L2
open Sem (wp)
/-- a fresh plain tuple -/
def NewT (Q : VK) (H : Hp) (xs : List V) : Prop := ∀ (p : Addr) (o : Obj), H p = none → o.dict = none → Q (.ref p) (upd H p (.frz o (.tup xs)))
section
variable {X : Cx} {pins : List (Addr × Obj)} {σ : L2.St} {H : Hp} {s : Shared}
theorem laidT {xs : List V} {its : List Value} {Q : VK} {t' : Nat} (I : Inv X pins σ H s) (r : Vals xs its) (hz : xs.length ≤ sizeLine) (q : NewT Q H xs) :
    EP X pins σ Q (.ref s.heap.objs.size) { s with heap := s.heap.push { cls := .type "tuple", data := .seq its.toArray }, toks := t' } := by
  have hg := Heap.get?_push_size s.heap (o := { cls := .type "tuple", data := .seq its.toArray }) rfl
  exact ⟨.ref s.heap.objs.size, _, I.laid (t' := t') (fun _ _ e => Heap.get?_push_of_some _ e) (Nat.le_refl _) (show ObjOk X.prog X.w _ _ _ (.frz _ (.tup xs)) from ⟨hg, hz, its, r, ⟨_, hg, rfl, _, rfl⟩⟩), rfl, q _ _ (I.hok.fresh (Nat.le_refl _)) rfl⟩
end
/-! ### (a, b, ..) -/
def tTupX (t : TA) : TE := fun σ H Q => t σ H fun xs H1 => xs.length ≤ sizeLine ∧ NewT Q H1 xs
theorem pe_tupX {X : Cx} {es : List Expr} {t : TA} {x1 : Nat} {pos : Pos} (h : PA X es t) : PE X (.Tuple es x1 pos) (tTupX t) :=
  ⟨fun pins s σ H Q I hq => wpAny_Tuple_spliced (thn (h.run pos pins s σ H _ I hq) fun us s1 ⟨xs, H1, I1, r, z, q⟩ => ⟨by rw [← r.length]; exact z, laidT (t' := s1.toks) I1 r z q⟩)⟩
/-! ### tuple(xs) -/
def rTupleX (K : PySem.W.Frag) : List V → Hp → VK → Prop := fun xs H Q => ∃ p ys, xs = [.ref p] ∧ ((SqL K H p ys ∧ NewT Q H ys) ∨ (SqT K H p ys ∧ Q (.ref p) H))
theorem call_tupleX {X : Cx} : CallR X (.type "tuple") (rTupleX X.K) := by
  intro pins s σ H xs us Q I r h
  obtain ⟨p, ys, rfl, h⟩ := h
  obtain ⟨u, rfl, rx⟩ := vals1 r
  cases rx
  rcases h with ⟨hq, q⟩ | ⟨hq, q⟩
  · obtain ⟨its, r', pl, hz⟩ := I.list hq
    have hlen := r'.length
    refine call_tuple_list pl.isList (fun h' kp => ?_) (by rw [List.size_toArray]; omega)
    have I1 : Inv X pins σ H { s with heap := h' } := I.kept (t' := s.toks) kp
    exact laidT (t' := s.toks) I1 r' hz q
  · obtain ⟨its, r', pl, hz⟩ := I.tuple hq
    exact call_tuple_same pl ⟨.ref p, H, I, rfl, q⟩
/-! ### t[lo:hi] -/
def rSlX (K : PySem.W.Frag) : V → Option Int → Option Int → Hp → VK → Prop := fun x lo hi H Q => ∃ a xs, x = .ref a ∧ SqT K H a xs ∧
  (HT.sIx xs.length 0 lo = 0 ∧ HT.sIx xs.length xs.length hi = xs.length → Q (.ref a) H) ∧ (¬ (HT.sIx xs.length 0 lo = 0 ∧ HT.sIx xs.length xs.length hi = xs.length) → NewT Q H (cutV xs lo hi))
theorem sl_tupX {X : Cx} : SlR X (rSlX X.K) := by
  intro pins s σ H x v vl vu lo hi sl Q I rx hs pl pu h
  obtain ⟨a, xs, rfl, hx, q1, q2⟩ := h
  cases rx
  obtain ⟨its, r, ht, hz⟩ := I.tuple hx
  have hl : its.toArray.size = xs.length := by rw [List.size_toArray, r.length]
  refine ⟨"tuple", _, PyProof.Rows.slot_tuple_getitem.lookup, ht.typeIs, ?_⟩
  by_cases hw : HT.sIx xs.length 0 lo = 0 ∧ HT.sIx xs.length xs.length hi = xs.length
  · exact getItem_tuple_whole ht hs pl pu (by rw [hl]; exact hw) ⟨.ref a, H, I, rfl, q1 hw⟩
  · refine HT.getItem_tuple_cut ht hs pl pu (by rw [hl]; exact hw) ?_ (by rw [hl]; exact hz)
    rw [hl]
    exact laidT (t' := s.toks) I ((r.drop (HT.sIx xs.length 0 lo)).take (HT.sIx xs.length xs.length hi - HT.sIx xs.length 0 lo)) (Nat.le_trans (cutV_length xs lo hi) hz) (q2 hw)
/-! ### t + u -/
def rCatX (K : PySem.W.Frag) : R2 := fun x y H Q => ∃ a b xs ys, x = .ref a ∧ y = .ref b ∧ SqT K H a xs ∧ SqT K H b ys ∧ xs.length + ys.length ≤ sizeLine ∧
  (xs = [] → Q (.ref b) H) ∧ (xs ≠ [] → ys = [] → Q (.ref a) H) ∧ (xs ≠ [] → ys ≠ [] → NewT Q H (xs ++ ys))
theorem op_catX {X : Cx} : OpR X (binaryOp .Add) (rCatX X.K) := by
  intro pins s σ H x y v u Q I rx ry h
  obtain ⟨a, b, xs, ys, rfl, rfl, ha, hb, hz, q0, q1, q2⟩ := h
  cases rx
  cases ry
  obtain ⟨its, r1, p1, _⟩ := I.tuple ha
  obtain ⟨its2, r2, p2, _⟩ := I.tuple hb
  by_cases hx : xs = []
  · subst hx
    cases r1
    exact cat_tup0 p1 p2 ⟨.ref b, H, I, rfl, q0 rfl⟩
  · refine HT.cat_tup p1 p2 (fun z => hx (r1.nil_iff.mp z)) (fun z => ⟨.ref a, H, I, rfl, q1 hx (r2.nil_iff.mp z)⟩) (fun z => ?_) (by rw [← r1.length, ← r2.length]; exact hz)
    exact laidT (t' := s.toks) I (r1.append r2) (by rw [List.length_append]; exact hz) (q2 hx fun w => z (r2.nil_iff.mpr w))
/-! ### t * k -/
def rRepX (K : PySem.W.Frag) : R2 := fun x y H Q => ∃ l k xs, x = .ref l ∧ y = .int k ∧ SqT K H l xs ∧ xs ≠ [] ∧ 1 ≤ k ∧ k ≤ 1000 ∧ xs.length ≤ 1000 ∧ (k = 1 → Q (.ref l) H) ∧ (2 ≤ k → NewT Q H (List.replicate k.toNat xs).flatten)
theorem tuple_mul1 (l : Addr) (items : Array Value) (n : Nat) (dd : Option Addr) (sl : Array (Option Value)) (u : Tok) :
    Meets (Builtin.«tuple.__mul__» ⟨[.ref l, .int 1 u], []⟩) (fun _ R s => s.heap.get? l = some { cls := .type "tuple", dict := dd, data := .seq items n, slots := sl } ∧ R (.ok (.ret (Value.ref l))) s) :=
  .of_wp fun prog w A R s h => by
    obtain ⟨hp, g, d, tk, os⟩ := s
    obtain ⟨hl, h⟩ := h
    have f1 := AutoSeq1.idx_int
    have c1 : (items.isEmpty || (1 : Int) == 1) = true := by rw [Bool.or_eq_true]; exact .inr rfl
    wp_walk using wpAny_loadPart' hl
    exact ⟨_, rfl, h⟩
theorem op_repX {X : Cx} : OpR X (binaryOp .Mult) (rRepX X.K) := by
  intro pins s σ H x y v u Q I rx ry h
  obtain ⟨l, k, xs, rfl, rfl, hT, hne, h1, h2, hz, qa, qb⟩ := h
  cases rx
  obtain ⟨t, rfl⟩ := ry
  obtain ⟨its, r, ⟨⟨cls, dd, data, sl⟩, ho, hc, n, hd⟩, hs⟩ := I.tuple hT
  simp only at hc hd
  subst hc hd
  have hle : its.length = xs.length := r.length.symm
  by_cases hk : k = 1
  · subst hk
    exact wpAny_binaryOp_repeat_ref (T := "tuple") (U := "int") (by decide) ⟨_, ho, rfl⟩ (fun s' => typeIs_int s' 1 t) noFill_tuple_mul F.fills_int_mul F.slot_int_rmul repeat_tuple F.slot_int_index.lookup
      (call_meets F.slot_int_rmul (typeIs_int s 1 t) F.entry_int_rmul (F.args_int_rmul_2 _ _) (int_rmul_tuple 1 t l its.toArray n dd sl)
        ⟨ho, rfl, ⟨_, ho, rfl⟩, call_meets F.slot_tuple_mul ⟨_, ho, rfl⟩ F.entry_tuple_mul (F.args_tuple_mul_2 _ _) (tuple_mul1 l its.toArray n dd sl t) ⟨ho, .ref l, H, I, rfl, qa rfl⟩⟩)
  · have hi : its.toArray.isEmpty = false := by
      cases its with
      | nil => exact absurd (List.eq_nil_of_length_eq_zero hle.symm) hne
      | cons a b => rfl
    have hm : ((its.toArray.size : Nat) : Int) * k ≤ 1000000 := by
      rw [List.size_toArray, hle]
      have a1 : ((xs.length : Nat) : Int) * k ≤ 1000 * k := Int.mul_le_mul_of_nonneg_right (by omega) (by omega)
      omega
    have fl : ∀ {α : Type} (zs : List α), zs.length = xs.length → (List.replicate k.toNat zs).flatten.length ≤ sizeLine := fun zs e => by
      rw [PyProof.Rows.lm_len_rep_flat, e, sizeLine_eq]
      have a1 : k.toNat * xs.length ≤ 1000 * 1000 := Nat.mul_le_mul (by omega) hz
      omega
    refine wpAny_binaryOp_repeat_ref (T := "tuple") (U := "int") (by decide) ⟨_, ho, rfl⟩ (fun s' => typeIs_int s' k t) noFill_tuple_mul F.fills_int_mul F.slot_int_rmul repeat_tuple F.slot_int_index.lookup
      (call_meets F.slot_int_rmul (typeIs_int s k t) F.entry_int_rmul (F.args_int_rmul_2 _ _) (int_rmul_tuple k t l its.toArray n dd sl)
        ⟨ho, rfl, ⟨_, ho, rfl⟩, call_meets F.slot_tuple_mul ⟨_, ho, rfl⟩ F.entry_tuple_mul (F.args_tuple_mul_2 _ _) (tuple_mulW l its.toArray n dd sl k t ?_ ?_ ?_ (by omega) ?_ (by rw [size_rep, List.size_toArray]; exact fl its hle)) ⟨ho, ?_⟩⟩)
    · rw [decide_eq_false (by omega), decide_eq_false (by omega)]; rfl
    · rw [hi, Bool.false_or]; exact beq_eq_false_iff_ne.mpr hk
    · rw [hi, Bool.or_false]; exact decide_eq_false (by omega)
    · unfold Builtin.Tuple.tupleTooMany
      rw [sizeLine_eq]
      exact decide_eq_false (by omega)
    · rw [size_rep]
      exact laidT (t' := s.toks) I (r.rep k.toNat) (fl xs rfl) (qb (by omega))
/-! ### t[::-1] -/
def rev1 (n : Nat) : List Nat := (List.range n).map fun k => n - 1 - k
theorem rev_pick (xs : List Value) : ((List.range xs.length).filterMap fun (m : Nat) => xs.toArray[((((xs.length : Nat) : Int) - 1) + (m : Int) * (-1)).toNat]?) = xs.reverse := by
  apply List.ext_getElem?
  intro i
  have e : ∀ m ∈ List.range xs.length, xs.toArray[((((xs.length : Nat) : Int) - 1) + (m : Int) * (-1)).toNat]? = some ((xs.reverse[m]?).getD .none) := fun m hm => by
    have h : m < xs.length := List.mem_range.mp hm
    have e1 : ((((xs.length : Nat) : Int) - 1) + (m : Int) * (-1)).toNat = xs.length - 1 - m := by omega
    rw [e1, List.getElem?_toArray, List.getElem?_reverse h, List.getElem?_eq_getElem (by omega)]
    rfl
  have aux : ∀ l : List Nat, (∀ m ∈ l, m ∈ List.range xs.length) → (l.filterMap fun (m : Nat) => xs.toArray[((((xs.length : Nat) : Int) - 1) + (m : Int) * (-1)).toNat]?) = l.map fun m => (xs.reverse[m]?).getD .none := by
    intro l
    induction l with
    | nil => intro _; rfl
    | cons m l ih =>
      intro hm
      rw [List.filterMap_cons, e m (hm m List.mem_cons_self), List.map_cons, ih fun k hk => hm k (List.mem_cons_of_mem _ hk)]
  rw [aux _ fun _ h => h, List.getElem?_map]
  by_cases h : i < xs.length
  · rw [List.getElem?_range h, List.getElem?_eq_getElem (by rw [List.length_reverse]; exact h)]
    rw [Option.map_some, List.getElem?_eq_getElem (by rw [List.length_reverse]; exact h)]
    rfl
  · rw [List.getElem?_eq_none_iff.mpr (by simpa using h), List.getElem?_eq_none_iff.mpr (by simpa using h)]; rfl
section
variable {prog : Program} {w : World} {A : Around} {E : Value → Shared → Prop} {s : Shared}
theorem getItem_tuple_rev {t sl : Addr} {its : List Value} {k : Tok} {Q : Value → Shared → Prop} (ht : IsTup s.heap t its.toArray) (hs : s.heap.IsSliceOf sl .none .none (.int (-1) k)) (hz : its.length ≤ sizeLine)
    (h : Q (.ref s.heap.objs.size) { s with heap := s.heap.push { cls := .type "tuple", data := .seq its.reverse.toArray } }) : wpAny (model prog w) A (getItem (.ref t) (.ref sl)) Q E s := by
  have hfit : sizeOk (.seq its.reverse.toArray) := by
    show its.reverse.toArray.size ≤ sizeLine
    rw [List.size_toArray, List.length_reverse]
    exact hz
  obtain ⟨os, hos, hcs, hds⟩ := id hs
  have hTs : s.TypeIs (.ref sl) "slice" := ⟨os, hos, hcs⟩
  unfold getItem
  try with_reducible refine wpAny_holding ?_
  first | refine wpAny_bind (wpAny_pure ?_) | skip
  refine wpAny_bind (wpAny_sequenceKey ht.typeIs (by decide) ?_)
  refine wpAny_bind (wpAny_callSpecial?_slot (name := Str.ofString "__getitem__") ht.typeIs PyProof.Rows.slot_tuple_getitem (wpAny_call_entry PyProof.Rows.slot_tuple_getitem ht.typeIs entry_tuple_getitem ?_ (args_tuple_getitem _ _)))
  show wpAny _ _ (Builtin.Tuple.tupleItemsOf (.ref t) >>= _) _ _ s
  refine wpAny_bind (tupleItemsOf_ ht ?_)
  refine wpAny_bind (wpAny_typeOf hTs ?_)
  rw [if_pos (by decide)]
  refine wpAny_bind (?_ : wpAny _ _ (Builtin.Slice.sliceApplied (.ref sl) (pure ((its.toArray.size : Nat) : Int))) _ _ s)
  unfold Builtin.Slice.sliceApplied Builtin.Slice.sliceFields
  refine wpAny_bind (wpAny_bind (wpAny_field hos hds (x := .none) rfl (wpAny_bind (wpAny_field hos hds (x := .none) rfl (wpAny_bind (wpAny_field hos hds (x := .int (-1) k) rfl (wpAny_pure ?_)))))))
  refine wpAny_bind (slicePart_int ?_)
  show wpAny _ _ (if ((-1 : Int) == 0) = true then _ else _) _ _ s
  rw [if_neg (by decide)]
  refine wpAny_bind (slicePart_none (wpAny_bind (slicePart_none (wpAny_bind (wpAny_pure ?_)))))
  have e0 : Builtin.Slice.sliceAdjust none none (-1) ((its.toArray.size : Nat) : Int) = (((its.toArray.size : Nat) : Int) - 1, -1) := by
    unfold Builtin.Slice.sliceAdjust
    rfl
  have e1 : Builtin.Slice.slicePlaces (((its.toArray.size : Nat) : Int) - 1) (-1) (-1) = its.length := by
    unfold Builtin.Slice.slicePlaces
    rw [if_neg (by decide), List.size_toArray]
    by_cases hp : ((its.length : Nat) : Int) - 1 > -1
    · rw [if_pos hp]; simp
    · rw [if_neg hp]; omega
  show wpAny _ _ (match Builtin.Slice.sliceAdjust none none (-1) ((its.toArray.size : Nat) : Int) with | (lo, hi) => pure (lo, (-1 : Int), Builtin.Slice.slicePlaces lo hi (-1))) _ _ s
  rw [e0]
  show wpAny _ _ (pure (((its.toArray.size : Nat) : Int) - 1, (-1 : Int), Builtin.Slice.slicePlaces (((its.toArray.size : Nat) : Int) - 1) (-1) (-1))) _ _ s
  rw [e1]
  refine wpAny_pure ?_
  show wpAny _ _ (if ((((its.toArray.size : Nat) : Int) - 1 == 0) && ((-1 : Int) == 1) && (its.length == its.toArray.size)) = true then _ else _) _ _ s
  rw [if_neg (by rw [show ((-1 : Int) == 1) = false from rfl, Bool.and_false, Bool.false_and]; exact Bool.false_ne_true)]
  have e2 := rev_pick its
  rw [List.size_toArray]
  rw [e2]
  first
    | exact wpAny_bind (m := Builtin.Tuple.tupleExact _) (wpAny_newObj_type (wpAny_pure ⟨_, rfl, wpAny_pure h⟩) hfit)
    | exact wpAny_bind (m := Builtin.Tuple.tupleExact _) (wpAny_newObj_type (wpAny_bind (wpAny_pure (wpAny_pure ⟨_, rfl, wpAny_pure h⟩))) hfit)
    | exact wpAny_bind (wpAny_bind (m := Builtin.Tuple.tupleExact _) (wpAny_newObj_type (wpAny_pure (wpAny_pure ⟨_, rfl, wpAny_pure h⟩)) hfit))
    | exact wpAny_bind (wpAny_bind (m := Builtin.Tuple.tupleExact _) (wpAny_newObj_type (wpAny_pure ⟨_, rfl, wpAny_pure h⟩) hfit))
end
def tRevT (K : PySem.W.Frag) (te : TE) : TE := fun σ H Q => te σ H fun x H1 => ∃ a xs, x = .ref a ∧ SqT K H1 a xs ∧ NewT Q H1 xs.reverse
theorem pe_revT {X : Cx} {e : Expr} {te : TE} {k : Nat} {p1 p2 p3 pos : Pos} (he : PE X e te) : PE X (.Subscript e (.Slice none none (some (.UnaryOp .USub (.Constant (.int 1) k p1) p2)) p3) pos) (tRevT X.K te) := by
  refine ⟨fun pins s σ H Q I h => Subscript_ (thn (he.run pins s σ H _ I h) fun v s1 ⟨x, H1, I1, r1, a, xs, ex, hx, q⟩ => ?_)⟩
  subst ex
  cases r1
  have hst : PO X (some (.UnaryOp .USub (.Constant (.int 1) k p1) p2)) (tPart (tUn (rU fun i => .int (-i)) (tC (.int 1)))) := po_some (pe_un un_neg pe_int)
  refine wpAny_Slice (thn (po_none.run pins s1 σ H1 (fun o H2 => o = none ∧ H2 = H1) I1 ⟨rfl, rfl⟩) fun vl s2 ⟨l, H2, I2, pl, el, e2⟩ => ?_)
  subst el e2
  refine thn (po_none.run pins s2 σ H2 (fun o H3 => o = none ∧ H3 = H2) I2 ⟨rfl, rfl⟩) fun vu s3 ⟨u, H3, I3, pu, eu, e3⟩ => ?_
  subst eu e3
  refine thn (hst.run pins s3 σ H3 (fun o H4 => o = some (-1) ∧ H4 = H3) I3 ⟨1, rfl, -1, rfl, rfl, rfl⟩) fun vs s4 ⟨o, H4, I4, ps, eo, e4⟩ => ?_
  subst eo e4
  cases pl
  cases pu
  rcases ps with _ | ⟨_, tt⟩
  have I5 : Inv X pins σ H4 { s4 with heap := s4.heap.push { cls := .type "slice", data := .fields #[.none, .none, .int (-1) tt] } } := I4.kept (t' := s4.toks) fun b ob q => Heap.get?_push_of_some _ q
  obtain ⟨its, r, ht, hz⟩ := I5.tuple hx
  have hlen := r.length
  show wpAny (model X.prog X.w) X.A (subscriptTail e (.Slice none none (some (.UnaryOp .USub (.Constant (.int 1) k p1) p2)) p3) (.ref a) (.ref s4.heap.objs.size)) (EP X pins σ Q) X.xe { s4 with heap := s4.heap.push { cls := .type "slice", data := .fields #[.none, .none, .int (-1) tt] } }
  refine tail_any (ops := [.ref a, .ref s4.heap.objs.size]) ht.typeIs PyProof.Rows.slot_tuple_getitem.lookup ?_ (by with_unfolding_all rfl)
  exact getItem_tuple_rev ht (Heap.IsSliceOf.new _ _ _ _) (by omega) (laidT (t' := s4.toks) I5 r.reverse (by rw [List.length_reverse]; exact hz) q)
end Kd
/-! The data layer: what is known of plain data (Dv), owned lists, the drawn-number state; expressions and statements over data. -/
namespace Kd
open PySem L2
abbrev Ex := @Evl.Ex

/-! ### data -/
/-- a tuple without a dict of its own -/
def TupAt (G : Hp) (a : Addr) (xs : List V) : Prop := ∃ o : Obj, o.dict = none ∧ G a = some (.frz o (.tup xs))
theorem TupAt.mono {G G' : Hp} {a : Addr} {xs : List V} (e : Ex G G') (h : TupAt G a xs) : TupAt G' a xs := let ⟨o, h1, h2⟩ := h; ⟨o, h1, e _ _ h2⟩
theorem TupAt.sq {K : PySem.W.Frag} {G : Hp} {a : Addr} {xs : List V} (h : TupAt G a xs) : SqT K G a xs := let ⟨o, _, h2⟩ := h; .inl (.inr ⟨o, h2⟩)
mutual
inductive Dv (G : Hp) : V → PyData → Prop
  | non : Dv G .non .none
  | bl (b : Bool) : Dv G (.bl b) (.bool b)
  | int (i : Int) : Dv G (.int i) (.int i)
  | str (x : Str) : Dv G (.str x) (.str x)
  | lst {a : Addr} {xs : List V} {ds : List PyData} : G a = some (.lst xs) → DvAll G xs ds → Dv G (.ref a) (.list ds)
  | tup {a : Addr} {xs : List V} {ds : List PyData} : TupAt G a xs → DvAll G xs ds → Dv G (.ref a) (.tuple ds)
inductive DvAll (G : Hp) : List V → List PyData → Prop
  | nil : DvAll G [] []
  | cons {v : V} {vs : List V} {d : PyData} {ds : List PyData} : Dv G v d → DvAll G vs ds → DvAll G (v :: vs) (d :: ds)
end

mutual
theorem Dv.mono {G G' : Hp} (e : Ex G G') : ∀ (d : PyData) (v : V), Dv G v d → Dv G' v d
  | .none, _, h => by cases h; exact .non
  | .bool b, _, h => by cases h; exact .bl b
  | .int i, _, h => by cases h; exact .int i
  | .str x, _, h => by cases h; exact .str x
  | .list ds, _, h => by
    cases h with
    | lst h1 h2 => exact .lst (e _ _ h1) (DvAll.mono e ds _ h2)
  | .tuple ds, _, h => by
    cases h with
    | tup h1 h2 => exact .tup (h1.mono e) (DvAll.mono e ds _ h2)
  | .dict _, _, h => by cases h
theorem DvAll.mono {G G' : Hp} (e : Ex G G') : ∀ (ds : List PyData) (vs : List V), DvAll G vs ds → DvAll G' vs ds
  | [], _, h => by cases h; exact .nil
  | d :: ds, _, h => by
    cases h with
    | cons h1 h2 => exact .cons (Dv.mono e d _ h1) (DvAll.mono e ds _ h2)
end
mutual
theorem Dv.dp {K : PySem.W.Frag} {G : Hp} : ∀ (d : PyData) (v : V), Dv G v d → Dp K G v d
  | .none, _, h => by cases h; exact .non
  | .bool b, _, h => by cases h; exact .bl b
  | .int i, _, h => by cases h; exact .int i
  | .str x, _, h => by cases h; exact .str x
  | .list ds, _, h => by
    cases h with
    | lst h1 h2 => exact .lst (SqL.of h1) (DvAll.dp ds _ h2)
  | .tuple ds, _, h => by
    cases h with
    | tup h1 h2 => exact .tup h1.sq (DvAll.dp ds _ h2)
  | .dict _, _, h => by cases h
theorem DvAll.dp {K : PySem.W.Frag} {G : Hp} : ∀ (ds : List PyData) (vs : List V), DvAll G vs ds → DpAll K G vs ds
  | [], _, h => by cases h; exact .nil
  | d :: ds, _, h => by
    cases h with
    | cons h1 h2 => exact .cons (Dv.dp d _ h1) (DvAll.dp ds _ h2)
end
theorem DvAll.length {G : Hp} : ∀ {vs : List V} {ds : List PyData}, DvAll G vs ds → vs.length = ds.length
  | _, _, .nil => rfl
  | _, _, .cons _ t => by rw [List.length_cons, List.length_cons, t.length]
theorem DvAll.get {G : Hp} : ∀ {vs : List V} {ds : List PyData}, DvAll G vs ds → ∀ {i : Nat} {d : PyData}, ds[i]? = some d → ∃ v, vs[i]? = some v ∧ Dv G v d
  | _, _, .nil, _, _, e => by simp at e
  | _, _, .cons h _, 0, _, e => by simp at e; subst e; exact ⟨_, rfl, h⟩
  | _, _, .cons _ t, i + 1, d, e => by
    obtain ⟨v, h1, h2⟩ := t.get (i := i) (d := d) (by simpa using e)
    exact ⟨v, by simpa using h1, h2⟩
theorem DvAll.get' {G : Hp} : ∀ {vs : List V} {ds : List PyData}, DvAll G vs ds → ∀ {i : Nat} {v : V}, vs[i]? = some v → ∃ d, ds[i]? = some d ∧ Dv G v d
  | _, _, .nil, _, _, e => by simp at e
  | _, _, .cons h _, 0, _, e => by simp at e; subst e; exact ⟨_, rfl, h⟩
  | _, _, .cons _ t, i + 1, d, e => by
    obtain ⟨v, h1, h2⟩ := t.get' (i := i) (v := d) (by simpa using e)
    exact ⟨v, by simpa using h1, h2⟩
theorem DvAll.append {G : Hp} : ∀ {vs : List V} {ds : List PyData}, DvAll G vs ds → ∀ {ws : List V} {es : List PyData}, DvAll G ws es → DvAll G (vs ++ ws) (ds ++ es)
  | _, _, .nil, _, _, s => s
  | _, _, .cons r t, _, _, s => .cons r (t.append s)
theorem DvAll.set {G : Hp} : ∀ {vs : List V} {ds : List PyData}, DvAll G vs ds → ∀ (i : Nat) {v : V} {d : PyData}, Dv G v d → DvAll G (vs.set i v) (ds.set i d)
  | _, _, .nil, _, _, _, _ => .nil
  | _, _, .cons _ t, 0, _, _, h => .cons h t
  | _, _, .cons r t, i + 1, _, _, h => .cons r (t.set i h)
theorem DvAll.take {G : Hp} : ∀ {vs : List V} {ds : List PyData}, DvAll G vs ds → ∀ (n : Nat), DvAll G (vs.take n) (ds.take n)
  | _, _, _, 0 => .nil
  | _, _, .nil, _ + 1 => .nil
  | _, _, .cons r t, n + 1 => .cons r (t.take n)
theorem DvAll.drop {G : Hp} : ∀ {vs : List V} {ds : List PyData}, DvAll G vs ds → ∀ (n : Nat), DvAll G (vs.drop n) (ds.drop n)
  | _, _, h, 0 => h
  | _, _, .nil, _ + 1 => .nil
  | _, _, .cons _ t, n + 1 => t.drop n
theorem DvAll.eraseIdx {G : Hp} : ∀ {vs : List V} {ds : List PyData}, DvAll G vs ds → ∀ (i : Nat), DvAll G (vs.eraseIdx i) (ds.eraseIdx i)
  | _, _, .nil, _ => .nil
  | _, _, .cons _ t, 0 => t
  | _, _, .cons r t, i + 1 => .cons r (t.eraseIdx i)
theorem DvAll.reverse {G : Hp} {vs : List V} {ds : List PyData} (h : DvAll G vs ds) : DvAll G vs.reverse ds.reverse := by
  have aux : ∀ {vs : List V} {ds : List PyData}, DvAll G vs ds → ∀ {ws : List V} {es : List PyData}, DvAll G ws es → DvAll G (vs.reverseAux ws) (ds.reverseAux es) := by
    intro vs
    induction vs with
    | nil => intro ds h ws es s; cases h; exact s
    | cons v vs ih => intro ds h ws es s; cases h with | cons r t => exact ih t (.cons r s)
  exact aux h .nil
theorem DvAll.rep {G : Hp} {vs : List V} {ds : List PyData} (h : DvAll G vs ds) : ∀ k : Nat, DvAll G (List.replicate k vs).flatten (List.replicate k ds).flatten
  | 0 => .nil
  | k + 1 => by
    rw [List.replicate_succ, List.replicate_succ, List.flatten_cons, List.flatten_cons]
    exact h.append (h.rep k)
/-- ints -/
theorem DvAll.ints {G : Hp} : ∀ ns : List Int, DvAll G (ns.map V.int) (ns.map PyData.int)
  | [] => .nil
  | n :: ns => .cons (.int n) (DvAll.ints ns)
theorem DvAll.ints_inv {G : Hp} : ∀ {ns : List Int} {vs : List V}, DvAll G vs (ns.map PyData.int) → vs = ns.map V.int
  | [], _, h => by cases h; rfl
  | n :: ns, _, h => by
    rw [List.map_cons] at h
    cases h with
    | cons h1 h2 => cases h1; rw [DvAll.ints_inv h2, List.map_cons]

/-! ### the state of the drawn numbers -/
structure MD where
  d : Addr
  c : Addr
  g : Addr
/-- the drawn numbers (if there are any as yet), the tables of code objects -/
structure MS where
  m : Option MD
  T : List (Addr × Str)
def addrsM : Option MD → List Addr
  | none => []
  | some m => [m.d, m.c, m.g]
def addrs (M : MS) : List Addr := addrsM M.m ++ M.T.map (·.1)
def mKvs (m : MD) (n : Int) : List (Key × V) := [(.inr "cells", .ref m.c), (.inr "great", .ref m.g), (.inr "spot", .int n)]
structure MIn (m : MD) (f : Nat) (n : Int) (cs gs : List Int) (H : Hp) : Prop where
  hd : H m.d = some (.dK (mKvs m n))
  hc : H m.c = some (.lst (cs.map V.int))
  hg : H m.g = some (.lst (gs.map V.int))
  cl : cs.length = 64
  cb : ∀ x ∈ cs, 0 ≤ x ∧ x < 2147483647
  gb : ∀ x ∈ gs, 0 ≤ x
  n0 : 0 ≤ n
  nf : n + (f : Int) ≤ 1000000
  gl : gs.length ≤ 63
def MOkM : Option MD → Nat → Hp → Prop
  | none, _, _ => True
  | some m, f, H => ∃ n cs gs, MIn m f n cs gs H
def MOk (M : MS) (f : Nat) (H : Hp) : Prop := MOkM M.m f H ∧ LamX.Tabs M.T H
theorem MOkM.mono {M : Option MD} {f : Nat} {H H' : Hp} (e : Ex H H') (h : MOkM M f H) : MOkM M f H' := by
  cases M with
  | none => trivial
  | some m =>
    obtain ⟨n, cs, gs, a⟩ := h
    exact ⟨n, cs, gs, e _ _ a.hd, e _ _ a.hc, e _ _ a.hg, a.cl, a.cb, a.gb, a.n0, a.nf, a.gl⟩
theorem MOkM.less {M : Option MD} {f f' : Nat} {H : Hp} (l : f' ≤ f) (h : MOkM M f H) : MOkM M f' H := by
  cases M with
  | none => trivial
  | some m =>
    obtain ⟨n, cs, gs, a⟩ := h
    exact ⟨n, cs, gs, a.hd, a.hc, a.hg, a.cl, a.cb, a.gb, a.n0, by have := a.nf; omega, a.gl⟩
theorem MOkM.there {M : Option MD} {f : Nat} {H : Hp} (h : MOkM M f H) {p : Addr} (hp : p ∈ addrsM M) : H p ≠ none := by
  cases M with
  | none => cases hp
  | some m =>
    obtain ⟨n, cs, gs, a⟩ := h
    have hp' : p = m.d ∨ p = m.c ∨ p = m.g := by simpa [addrsM] using hp
    rcases hp' with e | e | e
    · rw [e, a.hd]; simp
    · rw [e, a.hc]; simp
    · rw [e, a.hg]; simp
theorem MOk.mono {M : MS} {f : Nat} {H H' : Hp} (e : Ex H H') (h : MOk M f H) : MOk M f H' := ⟨h.1.mono e, h.2.ext e⟩
theorem MOk.less {M : MS} {f f' : Nat} {H : Hp} (l : f' ≤ f) (h : MOk M f H) : MOk M f' H := ⟨h.1.less l, h.2⟩
theorem MOk.there {M : MS} {f : Nat} {H : Hp} (h : MOk M f H) {p : Addr} (hp : p ∈ addrs M) : H p ≠ none := by
  rcases List.mem_append.mp hp with hp | hp
  · exact h.1.there hp
  · obtain ⟨q, hq, rfl⟩ := List.mem_map.mp hp
    obtain ⟨ps, e, _⟩ := h.2 q hq
    rw [e]; simp

/-! ### owned lists -/
abbrev Own := List (Addr × List PyData)
structure W (M : MS) (f : Nat) (L : Own) (G H : Hp) : Prop where
  ex : Ex G H
  own : ∀ p ds, (p, ds) ∈ L → ∃ xs, H p = some (.lst xs) ∧ DvAll G xs ds
  nog : ∀ a, a ∈ L.map (·.1) ++ addrs M → G a = none
  nd : (L.map (·.1) ++ addrs M).Nodup
  st : MOk M f H
  nt : ∀ a ps, G a ≠ some (.tbl ps)
section
variable {M : MS} {f : Nat} {L : Own} {G G' H H' : Hp} {p : Addr} {o : HO}
theorem W.less {f' : Nat} (w : W M f L G H) (l : f' ≤ f) : W M f' L G H := ⟨w.ex, w.own, w.nog, w.nd, w.st.less l, w.nt⟩
theorem W.fresh (w : W M f L G H) (hp : H p = none) : p ∉ L.map (·.1) ++ addrs M := fun hm => by
  rcases List.mem_append.mp hm with h | h
  · obtain ⟨⟨q, ds⟩, h1, h2⟩ := List.mem_map.mp h
    obtain ⟨xs, h3, _⟩ := w.own q ds h1
    have e : q = p := h2
    rw [e, hp] at h3
    cases h3
  · exact w.st.there h hp
theorem W.gnone (w : W M f L G H) (hp : H p = none) : G p = none := Evl.fresh_back w.ex hp
/-- new data -/
theorem W.new (w : W M f L G H) (hp : H p = none) (ho : ∀ ps, o ≠ .tbl ps := by intro ps h; cases h) : W M f L (upd G p o) (upd H p o) := by
  have gp := w.gnone hp
  refine ⟨fun a u e => ?_, fun q ds hq => ?_, fun a ha => ?_, w.nd, w.st.mono (Evl.Ex.new hp), fun a ps e => ?_⟩
  · by_cases h : a = p
    · subst h; rw [upd_same] at e ⊢; exact e
    · rw [upd_ne h] at e ⊢; exact w.ex a u e
  · obtain ⟨xs, h1, h2⟩ := w.own q ds hq
    exact ⟨xs, Evl.Ex.new hp _ _ h1, DvAll.mono (Evl.Ex.new gp) _ _ h2⟩
  · have ne : a ≠ p := fun e => w.fresh hp (e ▸ ha)
    rw [upd_ne ne]; exact w.nog a ha
  · by_cases h : a = p
    · subst h; rw [upd_same] at e; exact ho ps (Option.some.inj e)
    · rw [upd_ne h] at e; exact w.nt a ps e
/-- a new owned list -/
theorem W.newL {xs : List V} {ds : List PyData} (w : W M f L G H) (hp : H p = none) (hx : DvAll G xs ds) : W M f ((p, ds) :: L) G (upd H p (.lst xs)) := by
  have gp := w.gnone hp
  refine ⟨fun a u e => ?_, fun q es hq => ?_, fun a ha => ?_, List.nodup_cons.mpr ⟨w.fresh hp, w.nd⟩, w.st.mono (Evl.Ex.new hp), w.nt⟩
  · rw [upd_ne (ne_of_none (w.ex a u e) hp)]; exact w.ex a u e
  · rcases List.mem_cons.mp hq with h | h
    · cases h; exact ⟨xs, upd_same, hx⟩
    · obtain ⟨ys, h1, h2⟩ := w.own q es h
      exact ⟨ys, Evl.Ex.new hp _ _ h1, h2⟩
  · rcases List.mem_cons.mp ha with h | h
    · rw [show a = p from h]; exact gp
    · exact w.nog a h
theorem tabs_but {T : List (Addr × Str)} {H : Hp} {p : Addr} {o : HO} (h : LamX.Tabs T H) (hp : p ∉ T.map (·.1)) (hc : ∀ c q, H p ≠ some (LamX.CodeO c q)) : LamX.Tabs T (upd H p o) := fun t ht => by
  obtain ⟨ps, e1, e2, e3⟩ := h t ht
  refine ⟨ps, by rw [upd_ne (fun e => hp (List.mem_map.mpr ⟨t, ht, e⟩))]; exact e1, e2, fun pos cv q => ?_⟩
  obtain ⟨c, e4, e5⟩ := e3 pos cv q
  exact ⟨c, e4, by rw [upd_ne (fun e => hc c t.2 (by rw [← e]; exact e5))]; exact e5⟩
theorem MOk.but (h : MOk M f H) (hp : p ∉ addrs M) (hc : ∀ c q, H p ≠ some (LamX.CodeO c q)) : MOk M f (upd H p o) := by
  obtain ⟨h1, h2⟩ := h
  refine ⟨?_, tabs_but h2 (fun z => hp (List.mem_append_right _ z)) hc⟩
  unfold addrs at hp
  generalize M.m = mm at h1 hp
  cases mm with
  | none => trivial
  | some m =>
    obtain ⟨n, cs, gs, a⟩ := h1
    have h1 : m.d ≠ p := fun e => hp (by simp [addrsM, e])
    have h2 : m.c ≠ p := fun e => hp (by simp [addrsM, e])
    have h3 : m.g ≠ p := fun e => hp (by simp [addrsM, e])
    exact ⟨n, cs, gs, by rw [upd_ne h1]; exact a.hd, by rw [upd_ne h2]; exact a.hc, by rw [upd_ne h3]; exact a.hg, a.cl, a.cb, a.gb, a.n0, a.nf, a.gl⟩
/-- the first owned list is written -/
theorem W.set {xs : List V} {ds ds' : List PyData} (w : W M f ((p, ds) :: L) G H) (hx : DvAll G xs ds') : W M f ((p, ds') :: L) G (upd H p (.lst xs)) := by
  have nd := w.nd
  rw [List.map_cons, List.cons_append] at nd
  obtain ⟨n1, n2⟩ := List.nodup_cons.mp nd
  have gp : G p = none := w.nog p (by simp)
  refine ⟨fun a u e => ?_, fun q es hq => ?_, fun a ha => w.nog a ha, w.nd, MOk.but w.st (fun h => n1 (List.mem_append_right _ h)) fun c q z => ?_, w.nt⟩
  · have ne : a ≠ p := fun z => by rw [z, gp] at e; cases e
    rw [upd_ne ne]; exact w.ex a u e
  · rcases List.mem_cons.mp hq with h | h
    · cases h; exact ⟨xs, upd_same, hx⟩
    · obtain ⟨ys, h1, h2⟩ := w.own q es (List.mem_cons_of_mem _ h)
      have ne : q ≠ p := fun z => n1 (List.mem_append_left _ (List.mem_map.mpr ⟨(q, es), h, z⟩))
      exact ⟨ys, by rw [upd_ne ne]; exact h1, h2⟩
  · obtain ⟨ys, h1, _⟩ := w.own p ds List.mem_cons_self
    rw [h1] at z
    unfold LamX.CodeO at z
    cases z
theorem W.drop {ds : List PyData} (w : W M f ((p, ds) :: L) G H) : W M f L G H :=
  ⟨w.ex, fun q es h => w.own q es (List.mem_cons_of_mem _ h), fun a h => w.nog a (List.mem_cons_of_mem _ h), (List.nodup_cons.mp w.nd).2, w.st, w.nt⟩
/-- the first owned list becomes data -/
theorem W.freeze {ds : List PyData} (w : W M f ((p, ds) :: L) G H) : ∃ G', Ex G G' ∧ W M f L G' H ∧ Dv G' (.ref p) (.list ds) := by
  have nd := w.nd
  rw [List.map_cons, List.cons_append] at nd
  obtain ⟨n1, n2⟩ := List.nodup_cons.mp nd
  have gp : G p = none := w.nog p (by simp)
  obtain ⟨xs, hp, hx⟩ := w.own p ds List.mem_cons_self
  have eg : Ex G (upd G p (.lst xs)) := Evl.Ex.new gp
  refine ⟨upd G p (.lst xs), eg, ⟨fun a u e => ?_, fun q es hq => ?_, fun a ha => ?_, n2, w.st, fun a ps e => ?_⟩, .lst upd_same (DvAll.mono eg _ _ hx)⟩
  · by_cases h : a = p
    · subst h; rw [upd_same] at e; cases e; exact hp
    · rw [upd_ne h] at e; exact w.ex a u e
  · obtain ⟨ys, h1, h2⟩ := w.own q es (List.mem_cons_of_mem _ hq)
    exact ⟨ys, h1, DvAll.mono eg _ _ h2⟩
  · have ne : a ≠ p := fun e => n1 (e ▸ ha)
    rw [upd_ne ne]; exact w.nog a (List.mem_cons_of_mem _ ha)
  · by_cases h : a = p
    · subst h; rw [upd_same] at e; cases e
    · rw [upd_ne h] at e; exact w.nt a ps e
end

/-! ### slots -/
inductive SD where
  | dat (d : PyData)
  | raw (v : V)
  | kn (φ : Hp → V → Prop) (mono : ∀ G G' v, Ex G G' → φ G v → φ G' v)
def SdOk (G : Hp) (v : V) : SD → Prop
  | .dat d => Dv G v d
  | .raw u => v = u
  | .kn φ _ => φ G v
abbrev DS := List (Option SD)
structure Sl (G : Hp) (σ : St) (ds : DS) : Prop where
  len : σ.length = ds.length
  at_ : ∀ (i : Nat) (sd : SD), ds[i]? = some (some sd) → ∃ v : V, σ[i]? = some (some v) ∧ SdOk G v sd
theorem SdOk.mono {G G' : Hp} (e : Ex G G') {v : V} {sd : SD} (h : SdOk G v sd) : SdOk G' v sd := by
  cases sd with
  | dat d => exact Dv.mono e d v h
  | raw u => exact h
  | kn φ mono => exact mono _ _ _ e h
theorem Sl.mono {G G' : Hp} {σ : St} {ds : DS} (s : Sl G σ ds) (e : Ex G G') : Sl G' σ ds :=
  ⟨s.len, fun i sd h => let ⟨v, h1, h2⟩ := s.at_ i sd h; ⟨v, h1, h2.mono e⟩⟩
theorem Sl.set {G : Hp} {σ : St} {ds : DS} (s : Sl G σ ds) (i : Nat) {v : V} {sd : SD} (h : SdOk G v sd) : Sl G (σ.set i (some v)) (ds.set i (some sd)) := by
  refine ⟨by rw [List.length_set, List.length_set, s.len], fun j sd' e => ?_⟩
  by_cases hj : i = j
  · subst hj
    have hl : i < ds.length := by
      have := (List.getElem?_eq_some_iff.mp e).1
      rwa [List.length_set] at this
    rw [List.getElem?_set_self hl] at e
    cases e
    exact ⟨v, by rw [List.getElem?_set_self (by rw [s.len]; exact hl)], h⟩
  · rw [List.getElem?_set_ne hj] at e
    obtain ⟨u, h1, h2⟩ := s.at_ j sd' e
    exact ⟨u, by rw [List.getElem?_set_ne hj]; exact h1, h2⟩
theorem Sl.forget {G : Hp} {σ : St} {ds : DS} (s : Sl G σ ds) (i : Nat) (x : Option V) : Sl G (σ.set i x) (ds.set i none) := by
  refine ⟨by rw [List.length_set, List.length_set, s.len], fun j sd' e => ?_⟩
  by_cases hj : i = j
  · subst hj
    have hl : i < ds.length := by
      have := (List.getElem?_eq_some_iff.mp e).1
      rwa [List.length_set] at this
    rw [List.getElem?_set_self hl] at e
    cases e
  · rw [List.getElem?_set_ne hj] at e
    obtain ⟨u, h1, h2⟩ := s.at_ j sd' e
    exact ⟨u, by rw [List.getElem?_set_ne hj]; exact h1, h2⟩
def wipeD (ds : DS) : List Nat → DS
  | [] => ds
  | v :: vs => (wipeD ds vs).set v none
theorem Sl.wipe {G : Hp} {σ : St} {ds : DS} (s : Sl G σ ds) : ∀ vs : List Nat, Sl G (L2.wipe σ vs) (wipeD ds vs)
  | [] => s
  | v :: vs => (Sl.wipe s vs).forget v none
theorem wipe_get (σ : St) : ∀ (vs : List Nat) (i : Nat), (L2.wipe σ vs)[i]? = if i ∈ vs ∧ i < σ.length then some none else σ[i]?
  | [], i => by simp [L2.wipe]
  | v :: vs, i => by
    show ((L2.wipe σ vs).set v none)[i]? = _
    have hl := wipe_length σ vs
    by_cases h : v = i
    · subst h
      by_cases hi : v < σ.length
      · rw [List.getElem?_set_self (by rw [hl]; exact hi), if_pos ⟨List.mem_cons_self, hi⟩]
      · rw [if_neg (fun z => hi z.2)]
        rw [List.getElem?_eq_none_iff.mpr (by rw [List.length_set, hl]; omega), List.getElem?_eq_none_iff.mpr (by omega)]
    · rw [List.getElem?_set_ne h, wipe_get σ vs i]
      have e : (i ∈ v :: vs) ↔ i ∈ vs := by
        rw [List.mem_cons]
        exact ⟨fun z => z.elim (fun q => absurd q.symm h) id, .inr⟩
      by_cases c : i ∈ vs ∧ i < σ.length
      · rw [if_pos c, if_pos ⟨e.mpr c.1, c.2⟩]
      · rw [if_neg c, if_neg (fun z => c ⟨e.mp z.1, z.2⟩)]
/-- what is stored within the block is forgotten behind it -/
theorem wipe_set {σ : St} {vs : List Nat} {j : Nat} (x : Option V) (hj : j ∈ vs) {τ : St} (h : L2.wipe τ vs = L2.wipe σ vs) : L2.wipe (τ.set j x) vs = L2.wipe σ vs := by
  have hl : τ.length = σ.length := by
    have := congrArg List.length h
    rwa [wipe_length, wipe_length] at this
  apply List.ext_getElem?
  intro i
  have hi : (L2.wipe τ vs)[i]? = (L2.wipe σ vs)[i]? := by rw [h]
  rw [← hi, wipe_get, wipe_get]
  rw [List.length_set]
  by_cases c : i ∈ vs ∧ i < τ.length
  · rw [if_pos c, if_pos c]
  · rw [if_neg c, if_neg c]
    by_cases hij : j = i
    · subst hij
      have : ¬ j < τ.length := fun z => c ⟨hj, z⟩
      rw [List.getElem?_eq_none_iff.mpr (by rw [List.length_set]; omega), List.getElem?_eq_none_iff.mpr (by omega)]
    · rw [List.getElem?_set_ne hij]
theorem wipe_wipe (σ : St) (vs : List Nat) : L2.wipe (L2.wipe σ vs) vs = L2.wipe σ vs := by
  apply List.ext_getElem?
  intro i
  rw [wipe_get, wipe_length]
  by_cases c : i ∈ vs ∧ i < σ.length
  · rw [if_pos c, wipe_get, if_pos c]
  · rw [if_neg c]
def startD (N : List Str) (ds : List PyData) : DS := ds.map (fun d => some (.dat d)) ++ List.replicate (N.length - ds.length) none
theorem Sl.start {G : Hp} {N : List Str} {vs : List V} {ds : List PyData} (h : DvAll G vs ds) : Sl G (start N vs) (startD N ds) := by
  have hl := h.length
  unfold L2.start startD
  refine ⟨by simp [hl], fun i sd e => ?_⟩
  by_cases hi : i < ds.length
  · rw [List.getElem?_append_left (by simpa using hi), List.getElem?_map] at e
    cases q : ds[i]? with
    | none => rw [q] at e; cases e
    | some d =>
      rw [q] at e
      cases e
      obtain ⟨v, h1, h2⟩ := h.get q
      exact ⟨v, by rw [List.getElem?_append_left (by simpa [hl] using hi), List.getElem?_map, h1]; rfl, h2⟩
  · rw [List.getElem?_append_right (by simpa using Nat.le_of_not_lt hi)] at e
    rw [List.getElem?_replicate] at e
    split at e <;> cases e
end Kd
/-! Expressions over data. -/
namespace Kd
open PySem L2

/-! ### equality as Python sees it, shape -/
def Shp (n : Nat) (d : PyData) : Prop := d.canLay0 = true ∧ d.depth ≤ n
theorem Shp.shaped {n : Nat} {d : PyData} (h : Shp n d) (hn : n ≤ 64 := by decide) : SeqAt.shaped d = true := by
  unfold SeqAt.shaped
  rw [h.1, Bool.true_and, decide_eq_true_eq]
  exact Nat.le_trans h.2 hn
theorem Shp.le {n m : Nat} {d : PyData} (h : Shp n d) (l : n ≤ m) : Shp m d := ⟨h.1, Nat.le_trans h.2 l⟩
theorem Shp.int {n : Nat} (i : Int) : Shp n (.int i) := ⟨by simp [PyData.canLay0], by simp [PyData.depth]⟩
theorem Shp.non {n : Nat} : Shp n .none := ⟨by simp [PyData.canLay0], by simp [PyData.depth]⟩
theorem Shp.bl {n : Nat} (b : Bool) : Shp n (.bool b) := ⟨by simp [PyData.canLay0], by simp [PyData.depth]⟩
theorem Shp.str {n : Nat} {x : Str} (h : PyData.strOk x = true) : Shp n (.str x) := ⟨by simp [PyData.canLay0, h], by simp [PyData.depth]⟩
theorem shp_all {n : Nat} : ∀ {ds : List PyData}, (∀ d ∈ ds, Shp n d) → PyData.canLayAll0 ds = true ∧ PyData.depthAll ds ≤ n
  | [], _ => ⟨by simp [PyData.canLayAll0], by simp [PyData.depthAll]⟩
  | d :: ds, h => by
    obtain ⟨h1, h2⟩ := h d List.mem_cons_self
    obtain ⟨h3, h4⟩ := shp_all fun e he => h e (List.mem_cons_of_mem _ he)
    exact ⟨by simp [PyData.canLayAll0, h1, h3], by simp only [PyData.depthAll]; omega⟩
theorem Shp.list {n : Nat} {ds : List PyData} (h : ∀ d ∈ ds, Shp n d) : Shp (n + 1) (.list ds) := by
  obtain ⟨h1, h2⟩ := shp_all h
  exact ⟨by simp [PyData.canLay0, h1], by simp only [PyData.depth]; omega⟩
theorem Shp.tup {n : Nat} {ds : List PyData} (h : ∀ d ∈ ds, Shp n d) : Shp (n + 1) (.tuple ds) := by
  obtain ⟨h1, h2⟩ := shp_all h
  exact ⟨by simp [PyData.canLay0, h1], by simp only [PyData.depth]; omega⟩
theorem Shp.map {α : Type} {n : Nat} {f : α → PyData} {l : List α} (h : ∀ x ∈ l, Shp n (f x)) : ∀ d ∈ l.map f, Shp n d := fun d hd => by
  obtain ⟨x, hx, rfl⟩ := List.mem_map.mp hd
  exact h x hx
theorem eqv_ints : ∀ (xs ys : List Int), PyData.eqvAll (xs.map .int) (ys.map .int) = decide (xs = ys)
  | [], [] => by simp [PyData.eqvAll]
  | [], _ :: _ => by simp [PyData.eqvAll]
  | _ :: _, [] => by simp [PyData.eqvAll]
  | x :: xs, y :: ys => by
    rw [List.map_cons, List.map_cons, PyData.eqvAll, eqv_ints xs ys]
    simp only [PyData.eqv]
    by_cases h : x = y <;> simp [h]
theorem eqv_tints (xs ys : List Int) : PyData.eqv (.tuple (xs.map .int)) (.tuple (ys.map .int)) = decide (xs = ys) := by
  simp only [PyData.eqv]; exact eqv_ints xs ys

/-! ### the judgements -/
def Sub (L L' : Own) : Prop := ∀ q ∈ L, q ∈ L'
theorem Sub.refl (L : Own) : Sub L L := fun _ h => h
theorem Sub.cons {L L' : Own} (s : Sub L L') (q : Addr × List PyData) : Sub L (q :: L') := fun x h => List.mem_cons_of_mem _ (s x h)
/-- what may be read: data, or an owned list -/
def RdL (L : Own) (G : Hp) (v : V) (d : PyData) : Prop := Dv G v d ∨ ∃ p es, v = .ref p ∧ (p, es) ∈ L ∧ d = .list es
theorem RdL.mono {L : Own} {G G' : Hp} {v : V} {d : PyData} (e : Ex G G') (h : RdL L G v d) : RdL L G' v d := h.elim (fun h => .inl (Dv.mono e _ _ h)) .inr
theorem RdL.dv {M : MS} {f : Nat} {L : Own} {G H : Hp} {v : V} {d : PyData} (w : W M f L G H) (h : RdL L G v d) : Dv H v d := by
  rcases h with h | ⟨p, es, rfl, hm, rfl⟩
  · exact Dv.mono w.ex _ _ h
  · obtain ⟨xs, h1, h2⟩ := w.own p es hm
    exact .lst h1 (DvAll.mono w.ex _ _ h2)
theorem RdL.list {M : MS} {f : Nat} {L : Own} {G H : Hp} {v : V} {es : List PyData} (w : W M f L G H) (h : RdL L G v (.list es)) : ∃ a xs, v = .ref a ∧ H a = some (.lst xs) ∧ DvAll G xs es := by
  rcases h with h | ⟨p, es', rfl, hm, e⟩
  · cases h with
    | lst h1 h2 => exact ⟨_, _, rfl, w.ex _ _ h1, h2⟩
  · cases e
    obtain ⟨xs, h1, h2⟩ := w.own p _ hm
    exact ⟨p, xs, rfl, h1, h2⟩
theorem RdL.tup {M : MS} {f : Nat} {L : Own} {G H : Hp} {v : V} {es : List PyData} (w : W M f L G H) (h : RdL L G v (.tuple es)) : ∃ a xs, v = .ref a ∧ TupAt H a xs ∧ TupAt G a xs ∧ DvAll G xs es := by
  rcases h with h | ⟨p, es', rfl, hm, e⟩
  · cases h with
    | tup h1 h2 => exact ⟨_, _, rfl, h1.mono w.ex, h1, h2⟩
  · cases e
theorem RdL.int {L : Own} {G : Hp} {v : V} {i : Int} (h : RdL L G v (.int i)) : v = .int i := by
  rcases h with h | ⟨p, es', rfl, hm, e⟩
  · cases h; rfl
  · cases e
theorem RdL.bl {L : Own} {G : Hp} {v : V} {i : Bool} (h : RdL L G v (.bool i)) : v = .bl i := by
  rcases h with h | ⟨p, es', rfl, hm, e⟩
  · cases h; rfl
  · cases e
theorem RdL.str {L : Own} {G : Hp} {v : V} {i : Str} (h : RdL L G v (.str i)) : v = .str i := by
  rcases h with h | ⟨p, es', rfl, hm, e⟩
  · cases h; rfl
  · cases e
theorem Dv.int' {G : Hp} {v : V} {i : Int} (h : Dv G v (.int i)) : v = .int i := by cases h; rfl

/-- te gives some data of which P holds; f: what is left of the drawn numbers -/
def EvN (M : MS) (L : Own) (te : TE) (ds : DS) (f f' : Nat) (P : PyData → Prop) : Prop :=
  ∀ L', Sub L L' → ∀ σ G H, W M f L' G H → Sl G σ ds → ∀ Q : VK, (∀ v d G2 H2, Ex G G2 → W M f' L' G2 H2 → P d → Dv G2 v d → Q v H2) → te σ H Q
/-- te gives the data d -/
def EvD (M : MS) (L : Own) (te : TE) (ds : DS) (d : PyData) : Prop :=
  ∀ f L', Sub L L' → ∀ σ G H, W M f L' G H → Sl G σ ds → ∀ Q : VK, (∀ v G2 H2, Ex G G2 → W M f L' G2 H2 → Dv G2 v d → Q v H2) → te σ H Q
/-- te gives what may be read as d -/
def EvR (M : MS) (L : Own) (te : TE) (ds : DS) (d : PyData) : Prop :=
  ∀ f L', Sub L L' → ∀ σ G H, W M f L' G H → Sl G σ ds → ∀ Q : VK, (∀ v G2 H2, Ex G G2 → W M f L' G2 H2 → RdL L' G2 v d → Q v H2) → te σ H Q
/-- te gives the very value u -/
def EvV (M : MS) (L : Own) (te : TE) (ds : DS) (u : V) : Prop :=
  ∀ f L', Sub L L' → ∀ σ G H, W M f L' G H → Sl G σ ds → ∀ Q : VK, (∀ G2 H2, Ex G G2 → W M f L' G2 H2 → Q u H2) → te σ H Q
def EvB (M : MS) (L : Own) (tt : TT) (ds : DS) (b : Bool) : Prop :=
  ∀ f L', Sub L L' → ∀ σ G H, W M f L' G H → Sl G σ ds → ∀ Q : Bool → Hp → Prop, (∀ G2 H2, Ex G G2 → W M f L' G2 H2 → Q b H2) → tt σ H Q
def EvBN (M : MS) (L : Own) (tt : TT) (ds : DS) (f f' : Nat) (P : Bool → Prop) : Prop :=
  ∀ L', Sub L L' → ∀ σ G H, W M f L' G H → Sl G σ ds → ∀ Q : Bool → Hp → Prop, (∀ b G2 H2, Ex G G2 → W M f' L' G2 H2 → P b → Q b H2) → tt σ H Q
def EvA (M : MS) (L : Own) (ta : TA) (ds : DS) (es : List PyData) : Prop :=
  ∀ f L', Sub L L' → ∀ σ G H, W M f L' G H → Sl G σ ds → ∀ Q : List V → Hp → Prop, (∀ vs G2 H2, Ex G G2 → W M f L' G2 H2 → DvAll G2 vs es → Q vs H2) → ta σ H Q
def EvAN (M : MS) (L : Own) (ta : TA) (ds : DS) (f f' : Nat) (P : List PyData → Prop) : Prop :=
  ∀ L', Sub L L' → ∀ σ G H, W M f L' G H → Sl G σ ds → ∀ Q : List V → Hp → Prop, (∀ vs es G2 H2, Ex G G2 → W M f' L' G2 H2 → P es → DvAll G2 vs es → Q vs H2) → ta σ H Q
def EvO (M : MS) (L : Own) (to : TO) (ds : DS) (o : Option Int) : Prop :=
  ∀ f L', Sub L L' → ∀ σ G H, W M f L' G H → Sl G σ ds → ∀ Q : Option Int → Hp → Prop, (∀ G2 H2, Ex G G2 → W M f L' G2 H2 → Q o H2) → to σ H Q

section
variable {K : PySem.W.Frag} {M : MS} {L : Own} {ds : DS} {te ta tb tc : TE} {x y z d : PyData} {f f' f1 f2 : Nat}
theorem EvD.r (h : EvD M L te ds d) : EvR M L te ds d := fun f L' s σ G H w sl Q q => h f L' s σ G H w sl Q fun v G2 H2 e w2 r => q v G2 H2 e w2 (.inl r)
theorem EvD.n (h : EvD M L te ds d) {P : PyData → Prop} (hp : P d) (l : f' ≤ f := by omega) : EvN M L te ds f f' P := fun L' s σ G H w sl Q q => h f L' s σ G H w sl Q fun v G2 H2 e w2 r => q v d G2 H2 e (w2.less l) hp r
theorem EvN.imp {P P' : PyData → Prop} (h : EvN M L te ds f f' P) (i : ∀ d, P d → P' d) : EvN M L te ds f f' P' := fun L' s σ G H w sl Q q => h L' s σ G H w sl Q fun v d G2 H2 e w2 p r => q v d G2 H2 e w2 (i d p) r
theorem EvN.less {P : PyData → Prop} {g g' : Nat} (h : EvN M L te ds f f' P) (l1 : f ≤ g) (l2 : g' ≤ f') : EvN M L te ds g g' P := fun L' s σ G H w sl Q q => h L' s σ G H (w.less l1) sl Q fun v d G2 H2 e w2 p r => q v d G2 H2 e (w2.less l2) p r
theorem EvN.sub {P : PyData → Prop} {L' : Own} (h : EvN M L te ds f f' P) (s : Sub L L') : EvN M L' te ds f f' P := fun L2 s2 => h L2 fun q hq => s2 q (s q hq)
theorem EvD.sub {L' : Own} (h : EvD M L te ds d) (s : Sub L L') : EvD M L' te ds d := fun f L2 s2 => h f L2 fun q hq => s2 q (s q hq)
theorem EvD.is {e : PyData} (h : EvD M L te ds d) (q : d = e) : EvD M L te ds e := q ▸ h
theorem EvR.is {e : PyData} (h : EvR M L te ds d) (q : d = e) : EvR M L te ds e := q ▸ h
theorem EvD.ofN {d0 : PyData} (h : ∀ f, EvN M L te ds f f (· = d0)) : EvD M L te ds d0 := fun f L' s σ G H w sl Q q => h f L' s σ G H w sl Q fun v d G2 H2 e w2 p r => q v G2 H2 e w2 (p ▸ r)

/-! ### names, constants -/
theorem ev_var {i : Nat} (h : ds[i]? = some (some (.dat d))) : EvD M L (tVar i) ds d := fun f L' s σ G H w sl Q q => by
  obtain ⟨v, h1, h2⟩ := sl.at_ i _ h
  exact ⟨v, h1, q v G H (Evl.Ex.refl G) w h2⟩
theorem er_own {i : Nat} {p : Addr} {es : List PyData} (h : ds[i]? = some (some (.raw (.ref p)))) (hm : (p, es) ∈ L) : EvR M L (tVar i) ds (.list es) := fun f L' s σ G H w sl Q q => by
  obtain ⟨v, h1, h2⟩ := sl.at_ i _ h
  have e : v = .ref p := h2
  subst e
  exact ⟨_, h1, q _ G H (Evl.Ex.refl G) w (.inr ⟨p, es, rfl, s _ hm, rfl⟩)⟩
theorem evv_var {i : Nat} {u : V} (h : ds[i]? = some (some (.raw u))) : EvV M L (tVar i) ds u := fun f L' s σ G H w sl Q q => by
  obtain ⟨v, h1, h2⟩ := sl.at_ i _ h
  have e : v = u := h2
  subst e
  exact ⟨_, h1, q G H (Evl.Ex.refl G) w⟩
theorem evv_c {u : V} : EvV M L (tC u) ds u := fun f L' s σ G H w sl Q q => q G H (Evl.Ex.refl G) w
theorem ev_int {i : Int} : EvD M L (tC (.int i)) ds (.int i) := fun f L' s σ G H w sl Q q => q _ G H (Evl.Ex.refl G) w (.int i)
theorem ev_str {x : Str} : EvD M L (tC (.str x)) ds (.str x) := fun f L' s σ G H w sl Q q => q _ G H (Evl.Ex.refl G) w (.str x)
theorem ev_bl {b : Bool} : EvD M L (tC (.bl b)) ds (.bool b) := fun f L' s σ G H w sl Q q => q _ G H (Evl.Ex.refl G) w (.bl b)
theorem ev_non : EvD M L (tC .non) ds .none := fun f L' s σ G H w sl Q q => q _ G H (Evl.Ex.refl G) w .non

/-! ### operations by values -/
/-- the rule r gives data of which P holds -/
def ROk (M : MS) (L : Own) (r : R2) (x y : PyData) (z : PyData) : Prop :=
  ∀ f L', Sub L L' → ∀ G H a b, W M f L' G H → RdL L' G a x → RdL L' G b y → ∀ Q : VK, (∀ v G2 H2, Ex G G2 → W M f L' G2 H2 → Dv G2 v z → Q v H2) → r a b H Q
theorem ev_op {r : R2} (ha : EvR M L ta ds x) (hb : EvR M L tb ds y) (hr : ROk M L r x y z) : EvD M L (tOp r ta tb) ds z := fun f L' s σ G H w sl Q q =>
  ha f L' s σ G H w sl _ fun a G2 H2 e2 w2 r2 => hb f L' s σ G2 H2 w2 (sl.mono e2) _ fun b G3 H3 e3 w3 r3 =>
    hr f L' s G3 H3 a b w3 (r2.mono e3) r3 Q fun v G4 H4 e4 w4 d4 => q v G4 H4 ((e2.trans e3).trans e4) w4 d4
/-- the same where the operands are drawn -/
theorem en_op {r : R2} {P R : PyData → Prop} {T : PyData → Prop} (ha : EvN M L ta ds f f1 P) (hb : ∀ x, P x → EvN M L tb ds f1 f2 R) (hr : ∀ x y, P x → R y → ∃ z, ROk M L r x y z ∧ T z) : EvN M L (tOp r ta tb) ds f f2 T := fun L' s σ G H w sl Q q =>
  ha L' s σ G H w sl _ fun a x G2 H2 e2 w2 p2 r2 => hb x p2 L' s σ G2 H2 w2 (sl.mono e2) _ fun b y G3 H3 e3 w3 p3 r3 => by
    obtain ⟨z, hz, hT⟩ := hr x y p2 p3
    exact hz f2 L' s G3 H3 a b w3 (.inl (Dv.mono e3 _ _ r2)) (.inl r3) Q fun v G4 H4 e4 w4 d4 => q v z G4 H4 ((e2.trans e3).trans e4) w4 hT d4
/-- the first operand only read, the second drawn -/
theorem en_opR {r : R2} {R : PyData → Prop} {T : PyData → Prop} (ha : EvR M L ta ds x) (hb : EvN M L tb ds f f2 R) (hr : ∀ y, R y → ∃ z, ROk M L r x y z ∧ T z) : EvN M L (tOp r ta tb) ds f f2 T := fun L' s σ G H w sl Q q =>
  ha f L' s σ G H w sl _ fun a G2 H2 e2 w2 r2 => hb L' s σ G2 H2 w2 (sl.mono e2) _ fun b y G3 H3 e3 w3 p3 r3 => by
    obtain ⟨z, hz, hT⟩ := hr y p3
    exact hz f2 L' s G3 H3 a b w3 (r2.mono e3) (.inl r3) Q fun v G4 H4 e4 w4 d4 => q v z G4 H4 ((e2.trans e3).trans e4) w4 hT d4
theorem ROk.or1 {r r' : R2} (h : ROk M L r x y z) : ROk M L (fun a b H Q => r a b H Q ∨ r' a b H Q) x y z := fun f L' s G H a b w ra rb Q q => .inl (h f L' s G H a b w ra rb Q q)
theorem ROk.or2 {r r' : R2} (h : ROk M L r' x y z) : ROk M L (fun a b H Q => r a b H Q ∨ r' a b H Q) x y z := fun f L' s G H a b w ra rb Q q => .inr (h f L' s G H a b w ra rb Q q)
/-- ints -/
theorem ro_I0i {g : Int → Int → Int} {i j : Int} : ROk M L (rI0 fun i j => .int (g i j)) (.int i) (.int j) (.int (g i j)) := fun f L' s G H a b w ra rb Q q =>
  ⟨i, j, ra.int, rb.int, q _ G H (Evl.Ex.refl G) w (.int _)⟩
theorem ro_I0b {g : Int → Int → Bool} {i j : Int} : ROk M L (rI0 fun i j => .bl (g i j)) (.int i) (.int j) (.bool (g i j)) := fun f L' s G H a b w ra rb Q q =>
  ⟨i, j, ra.int, rb.int, q _ G H (Evl.Ex.refl G) w (.bl _)⟩
theorem ro_Ii {C : Int → Int → Prop} {g : Int → Int → Int} {i j : Int} (hc : C i j) : ROk M L (rI C fun i j => .int (g i j)) (.int i) (.int j) (.int (g i j)) := fun f L' s G H a b w ra rb Q q =>
  ⟨i, j, ra.int, rb.int, hc, q _ G H (Evl.Ex.refl G) w (.int _)⟩
/-- ==, != -/
theorem ro_eq {n m : Nat} (hx : Shp n x) (hy : Shp m y) (hn : n ≤ 64 := by decide) (hm : m ≤ 64 := by decide) : ROk M L (rEqD K) x y (.bool (PyData.eqv x y)) := fun f L' s G H a b w ra rb Q q =>
  ⟨x, y, Dv.dp _ _ (ra.dv w), Dv.dp _ _ (rb.dv w), hx.shaped hn, hy.shaped hm, q _ G H (Evl.Ex.refl G) w (.bl _)⟩
theorem ro_ne {n m : Nat} (hx : Shp n x) (hy : Shp m y) (hn : n ≤ 64 := by decide) (hm : m ≤ 64 := by decide) : ROk M L (rNeD K) x y (.bool (!PyData.eqv x y)) := fun f L' s G H a b w ra rb Q q =>
  ⟨x, y, Dv.dp _ _ (ra.dv w), Dv.dp _ _ (rb.dv w), hx.shaped hn, hy.shaped hm, q _ G H (Evl.Ex.refl G) w (.bl _)⟩
/-- a new list, a new tuple -/
theorem new_lst {G H : Hp} {L' : Own} {xs : List V} {es : List PyData} (w : W M f L' G H) (hx : DvAll G xs es) {p : Addr} (hp : H p = none) : Ex G (upd G p (.lst xs)) ∧ W M f L' (upd G p (.lst xs)) (upd H p (.lst xs)) ∧ Dv (upd G p (.lst xs)) (.ref p) (.list es) :=
  ⟨Evl.Ex.new (w.gnone hp), w.new hp, .lst upd_same (DvAll.mono (Evl.Ex.new (w.gnone hp)) _ _ hx)⟩
theorem new_tup {G H : Hp} {L' : Own} {xs : List V} {es : List PyData} (w : W M f L' G H) (hx : DvAll G xs es) {p : Addr} {o : Obj} (hp : H p = none) (ho : o.dict = none) : Ex G (upd G p (.frz o (.tup xs))) ∧ W M f L' (upd G p (.frz o (.tup xs))) (upd H p (.frz o (.tup xs))) ∧ Dv (upd G p (.frz o (.tup xs))) (.ref p) (.tuple es) :=
  ⟨Evl.Ex.new (w.gnone hp), w.new hp, .tup ⟨o, ho, upd_same⟩ (DvAll.mono (Evl.Ex.new (w.gnone hp)) _ _ hx)⟩
theorem sz_le {n : Nat} (h : n ≤ 100000) : n ≤ sizeLine := Evl.sz_of h
theorem ro_cat {es gs : List PyData} (hl : es.length + gs.length ≤ 100000) : ROk M L rCat (.list es) (.list gs) (.list (es ++ gs)) := fun f L' s G H a b w ra rb Q q => by
  obtain ⟨p, xs, rfl, h1, h2⟩ := ra.list w
  obtain ⟨p', ys, rfl, h3, h4⟩ := rb.list w
  refine ⟨p, p', xs, ys, rfl, rfl, h1, h3, sz_le (by rw [h2.length, h4.length]; exact hl), fun l hl => ?_⟩
  obtain ⟨e, w', d'⟩ := new_lst w (h2.append h4) hl
  exact q _ _ _ e w' d'
theorem ro_catT {es gs : List PyData} (hl : es.length + gs.length ≤ 100000) : ROk M L (rCatX K) (.tuple es) (.tuple gs) (.tuple (es ++ gs)) := fun f L' s G H a b w ra rb Q q => by
  obtain ⟨p, xs, rfl, h1, h1g, h2⟩ := ra.tup w
  obtain ⟨p', ys, rfl, h3, h3g, h4⟩ := rb.tup w
  refine ⟨p, p', xs, ys, rfl, rfl, h1.sq, h3.sq, sz_le (by rw [h2.length, h4.length]; exact hl), fun hx => ?_, fun _ hy => ?_, fun _ _ l o hl ho => ?_⟩
  · subst hx
    cases h2
    exact q _ G H (Evl.Ex.refl G) w (.tup h3g h4)
  · subst hy
    cases h4
    rw [List.append_nil] at q
    exact q _ G H (Evl.Ex.refl G) w (.tup h1g h2)
  · obtain ⟨e, w', d'⟩ := new_tup w (h2.append h4) hl ho
    exact q _ _ _ e w' d'
theorem ro_rep {es : List PyData} {k : Int} (h0 : -100000 ≤ k) (h1 : k ≤ 100000) (hl : es.length * k.toNat ≤ 100000) : ROk M L rRep (.list es) (.int k) (.list (List.replicate k.toNat es).flatten) := fun f L' s G H a b w ra rb Q q => by
  obtain ⟨p, xs, rfl, h3, h2⟩ := ra.list w
  refine ⟨p, k, xs, rfl, rb.int, h3, by omega, by omega, sz_le (by rw [h2.length]; exact hl), fun l hl => ?_⟩
  obtain ⟨e, w', d'⟩ := new_lst w (h2.rep _) hl
  exact q _ _ _ e w' d'
theorem ro_repT {es : List PyData} {k : Int} (h0 : 1 ≤ k) (h1 : k ≤ 1000) (hl : es.length ≤ 1000) (hne : es ≠ []) : ROk M L (rRepX K) (.tuple es) (.int k) (.tuple (List.replicate k.toNat es).flatten) := fun f L' s G H a b w ra rb Q q => by
  obtain ⟨p, xs, rfl, h3, h3g, h2⟩ := ra.tup w
  refine ⟨p, k, xs, rfl, rb.int, h3.sq, fun e => hne ?_, h0, h1, by rw [h2.length]; exact hl, fun e => ?_, fun _ l o hl ho => ?_⟩
  · subst e; cases h2; rfl
  · subst e
    have e1 : (List.replicate (1 : Int).toNat es).flatten = es := by simp
    rw [e1] at q
    exact q _ G H (Evl.Ex.refl G) w (.tup h3g h2)
  · obtain ⟨e, w', d'⟩ := new_tup w (h2.rep _) hl ho
    exact q _ _ _ e w' d'
/-- subscripts -/
theorem atI_len {α β : Type} {xs : List α} {ys : List β} (h : xs.length = ys.length) (i : Int) : ixN xs.length i = ixN ys.length i := by rw [h]
theorem atI_dv {G : Hp} {xs : List V} {es : List PyData} (h : DvAll G xs es) {i : Int} (hi : atI es i = some z) : ∃ v, atI xs i = some v ∧ Dv G v z := by
  unfold atI at hi ⊢
  rw [atI_len h.length]
  cases e : ixN es.length i with
  | none => rw [e] at hi; cases hi
  | some j =>
    rw [e] at hi
    exact h.get hi
theorem ro_ixL {es : List PyData} {i : Int} (hi : atI es i = some z) : ROk M L (rIxL K) (.list es) (.int i) z := fun f L' s G H a b w ra rb Q q => by
  obtain ⟨p, xs, rfl, h1, h2⟩ := ra.list w
  obtain ⟨v, hv, hd⟩ := atI_dv h2 hi
  exact ⟨p, xs, i, v, rfl, rb.int, SqL.of h1, hv, q _ G H (Evl.Ex.refl G) w hd⟩
theorem ro_ixT {es : List PyData} {i : Int} (hi : atI es i = some z) : ROk M L (rIxT K) (.tuple es) (.int i) z := fun f L' s G H a b w ra rb Q q => by
  obtain ⟨p, xs, rfl, h1, _, h2⟩ := ra.tup w
  obtain ⟨v, hv, hd⟩ := atI_dv h2 hi
  exact ⟨p, xs, i, v, rfl, rb.int, h1.sq, hv, q _ G H (Evl.Ex.refl G) w hd⟩
/-- is None -/
theorem ro_isN {b : Bool} (h : b = true ↔ x = .none) : ROk M L (fun x y H Q => y = .non ∧ Q (.bl (decide (x = .non))) H) x .none (.bool b) := fun f L' s G H a c w ra rb Q q => by
  refine ⟨?_, ?_⟩
  · rcases rb with rb | ⟨p, es', rfl, hm, e⟩
    · cases rb; rfl
    · cases e
  · have e : decide (a = V.non) = b := by
      rcases ra with ra | ⟨p, es', rfl, hm, e⟩
      · cases ra <;> cases b <;> simp_all
      · subst e; cases b <;> simp_all
    rw [e]
    exact q _ G H (Evl.Ex.refl G) w (.bl _)
theorem ro_notN {b : Bool} (h : b = false ↔ x = .none) : ROk M L (fun x y H Q => y = .non ∧ Q (.bl (!decide (x = .non))) H) x .none (.bool b) := fun f L' s G H a c w ra rb Q q => by
  refine ⟨?_, ?_⟩
  · rcases rb with rb | ⟨p, es', rfl, hm, e⟩
    · cases rb; rfl
    · cases e
  · have e : (!decide (a = V.non)) = b := by
      rcases ra with ra | ⟨p, es', rfl, hm, e⟩
      · cases ra <;> cases b <;> simp_all
      · subst e; cases b <;> simp_all
    rw [e]
    exact q _ G H (Evl.Ex.refl G) w (.bl _)
/-- t < u, tuples of ints -/
theorem ro_ltT {ns ms : List Int} : ROk M L (rLtT K) (.tuple (ns.map .int)) (.tuple (ms.map .int)) (.bool (HT.lexLt ns ms)) := fun f L' s G H a b w ra rb Q q => by
  obtain ⟨p, xs, rfl, h1, _, h2⟩ := ra.tup w
  obtain ⟨p', ys, rfl, h3, _, h4⟩ := rb.tup w
  have e1 := h2.ints_inv
  have e2 := h4.ints_inv
  subst e1 e2
  exact ⟨p, p', ns, ms, rfl, rfl, h1.sq, h3.sq, q _ G H (Evl.Ex.refl G) w (.bl _)⟩
end
end Kd
/-! Expressions over data: displays, tests, calls, slices, what is walked, comprehensions. -/
namespace Kd
open PySem L2
section
variable {K : PySem.W.Frag} {M : MS} {L : Own} {ds : DS} {te ta tb tc : TE} {tt tu : TT} {tA tB' : TA} {x y z d : PyData} {f f' f1 f2 : Nat} {es gs : List PyData}
/-! ### arguments, displays -/
theorem ea_nil : EvA M L tNil ds [] := fun f L' s σ G H w sl Q q => q [] G H (Evl.Ex.refl G) w .nil
theorem ea_cons (h : EvD M L te ds d) (hr : EvA M L tA ds es) : EvA M L (tCons te tA) ds (d :: es) := fun f L' s σ G H w sl Q q =>
  h f L' s σ G H w sl _ fun v G2 H2 e2 w2 d2 => hr f L' s σ G2 H2 w2 (sl.mono e2) _ fun vs G3 H3 e3 w3 d3 => q _ G3 H3 (e2.trans e3) w3 (.cons (Dv.mono e3 _ _ d2) d3)
theorem ea_one (h : EvD M L te ds d) : EvA M L (tCons te tNil) ds [d] := ea_cons h ea_nil
theorem ea_two (h : EvD M L ta ds x) (h2 : EvD M L tb ds y) : EvA M L (tCons ta (tCons tb tNil)) ds [x, y] := ea_cons h (ea_one h2)
theorem ea_three (h : EvD M L ta ds x) (h2 : EvD M L tb ds y) (h3 : EvD M L tc ds z) : EvA M L (tCons ta (tCons tb (tCons tc tNil))) ds [x, y, z] := ea_cons h (ea_two h2 h3)
theorem ea_starT (h : EvR M L te ds (.tuple gs)) (hr : EvA M L tA ds es) : EvA M L (StX.tStar K te tA) ds (gs ++ es) := fun f L' s σ G H w sl Q q =>
  h f L' s σ G H w sl _ fun v G2 H2 e2 w2 r2 => by
    obtain ⟨p, xs, rfl, h1, _, h2⟩ := r2.tup w2
    exact ⟨p, xs, rfl, .inl h1.sq, hr f L' s σ G2 H2 w2 (sl.mono e2) _ fun vs G3 H3 e3 w3 d3 => q _ G3 H3 (e2.trans e3) w3 ((DvAll.mono e3 _ _ h2).append d3)⟩
theorem EvA.n (h : EvA M L tA ds es) {P : List PyData → Prop} (hp : P es) (l : f' ≤ f := by omega) : EvAN M L tA ds f f' P := fun L' s σ G H w sl Q q => h f L' s σ G H w sl Q fun v G2 H2 e w2 r => q v es G2 H2 e (w2.less l) hp r
theorem ean_nil {P : List PyData → Prop} (hp : P []) : EvAN M L tNil ds f f P := fun L' s σ G H w sl Q q => q [] [] G H (Evl.Ex.refl G) w hp .nil
theorem ean_cons {P1 : PyData → Prop} {P : PyData → List PyData → Prop} (h : EvN M L te ds f f1 P1) (hr : ∀ x, P1 x → EvAN M L tA ds f1 f2 (P x)) : EvAN M L (tCons te tA) ds f f2 (fun l => ∃ x es, P1 x ∧ P x es ∧ l = x :: es) := fun L' s σ G H w sl Q q =>
  h L' s σ G H w sl _ fun v x G2 H2 e2 w2 p2 d2 => hr x p2 L' s σ G2 H2 w2 (sl.mono e2) _ fun vs es G3 H3 e3 w3 p3 d3 => q _ (x :: es) G3 H3 (e2.trans e3) w3 ⟨x, es, p2, p3, rfl⟩ (.cons (Dv.mono e3 _ _ d2) d3)
theorem ev_tup (h : EvA M L tA ds es) (hl : es.length ≤ 100000 := by first | decide | (simp only [List.length_cons, List.length_nil]; omega)) : EvD M L (tTupX tA) ds (.tuple es) := fun f L' s σ G H w sl Q q =>
  h f L' s σ G H w sl _ fun vs G2 H2 e2 w2 d2 => ⟨sz_le (by rw [d2.length]; exact hl), fun p o hp ho => by
    obtain ⟨e, w', d'⟩ := new_tup w2 d2 hp ho
    exact q _ _ _ (e2.trans e) w' d'⟩
theorem ev_lst (h : EvA M L tA ds es) (hl : es.length ≤ 100000 := by first | decide | (simp only [List.length_cons, List.length_nil]; omega)) : EvD M L (tLst tA) ds (.list es) := fun f L' s σ G H w sl Q q =>
  h f L' s σ G H w sl _ fun vs G2 H2 e2 w2 d2 => ⟨sz_le (by rw [d2.length]; exact hl), fun p hp => by
    obtain ⟨e, w', d'⟩ := new_lst w2 d2 hp
    exact q _ _ _ (e2.trans e) w' d'⟩
theorem en_tup {P : List PyData → Prop} (h : EvAN M L tA ds f f' P) (hl : ∀ es, P es → es.length ≤ 100000) : EvN M L (tTupX tA) ds f f' (fun d => ∃ es, P es ∧ d = .tuple es) := fun L' s σ G H w sl Q q =>
  h L' s σ G H w sl _ fun vs es G2 H2 e2 w2 p2 d2 => ⟨sz_le (by rw [d2.length]; exact hl es p2), fun p o hp ho => by
    obtain ⟨e, w', d'⟩ := new_tup w2 d2 hp ho
    exact q _ _ _ _ (e2.trans e) w' ⟨es, p2, rfl⟩ d'⟩
theorem en_lst {P : List PyData → Prop} (h : EvAN M L tA ds f f' P) (hl : ∀ es, P es → es.length ≤ 100000) : EvN M L (tLst tA) ds f f' (fun d => ∃ es, P es ∧ d = .list es) := fun L' s σ G H w sl Q q =>
  h L' s σ G H w sl _ fun vs es G2 H2 e2 w2 p2 d2 => ⟨sz_le (by rw [d2.length]; exact hl es p2), fun p hp => by
    obtain ⟨e, w', d'⟩ := new_lst w2 d2 hp
    exact q _ _ _ _ (e2.trans e) w' ⟨es, p2, rfl⟩ d'⟩

/-! ### tests -/
variable {a b c : Bool}
theorem eb_B (h : EvD M L te ds (.bool b)) : EvB M L (L2.tB te) ds b := fun f L' s σ G H w sl Q q => h f L' s σ G H w sl _ fun v G2 H2 e w2 d2 => by
  cases d2
  exact ⟨b, rfl, q G2 H2 e w2⟩
theorem eb_T (h : EvD M L te ds (.bool b)) : EvB M L (tTest te) ds b := fun f L' s σ G H w sl Q q => h f L' s σ G H w sl _ fun v G2 H2 e w2 d2 => by
  cases d2
  exact ⟨b, rfl, q G2 H2 e w2⟩
theorem ebn_T {P : PyData → Prop} {R : Bool → Prop} (h : EvN M L te ds f f' P) (hp : ∀ d, P d → ∃ b, d = .bool b ∧ R b) : EvBN M L (tTest te) ds f f' R := fun L' s σ G H w sl Q q => h L' s σ G H w sl _ fun v d G2 H2 e w2 p d2 => by
  obtain ⟨b, rfl, r⟩ := hp d p
  cases d2
  exact ⟨b, rfl, q b G2 H2 e w2 r⟩
theorem ebn_B {P : PyData → Prop} {R : Bool → Prop} (h : EvN M L te ds f f' P) (hp : ∀ d, P d → ∃ b, d = .bool b ∧ R b) : EvBN M L (L2.tB te) ds f f' R := fun L' s σ G H w sl Q q => h L' s σ G H w sl _ fun v d G2 H2 e w2 p d2 => by
  obtain ⟨b, rfl, r⟩ := hp d p
  cases d2
  exact ⟨b, rfl, q b G2 H2 e w2 r⟩
theorem EvB.n (h : EvB M L tt ds b) {P : Bool → Prop} (hp : P b) (l : f' ≤ f := by omega) : EvBN M L tt ds f f' P := fun L' s σ G H w sl Q q => h f L' s σ G H w sl Q fun G2 H2 e w2 => q b G2 H2 e (w2.less l) hp
theorem EvB.is (h : EvB M L tt ds a) (e : a = b) : EvB M L tt ds b := e ▸ h
theorem eb_yes : EvB M L tYes ds true := fun f L' s σ G H w sl Q q => q G H (Evl.Ex.refl G) w
theorem eb_and (h1 : EvB M L tt ds a) (h2 : a = true → EvB M L tu ds b) : EvB M L (tAnd tt tu) ds (a && b) := fun f L' s σ G H w sl Q q => h1 f L' s σ G H w sl _ fun G2 H2 e2 w2 => by
  cases a with
  | true => rw [if_pos rfl]; exact h2 rfl f L' s σ G2 H2 w2 (sl.mono e2) Q fun G3 H3 e3 w3 => q G3 H3 (e2.trans e3) w3
  | false => rw [if_neg Bool.false_ne_true]; exact q G2 H2 e2 w2
theorem eb_or (h1 : EvB M L tt ds a) (h2 : a = false → EvB M L tu ds b) : EvB M L (tOr tt tu) ds (a || b) := fun f L' s σ G H w sl Q q => h1 f L' s σ G H w sl _ fun G2 H2 e2 w2 => by
  cases a with
  | true => rw [if_pos rfl]; exact q G2 H2 e2 w2
  | false => rw [if_neg Bool.false_ne_true]; exact h2 rfl f L' s σ G2 H2 w2 (sl.mono e2) Q fun G3 H3 e3 w3 => q G3 H3 (e2.trans e3) w3
theorem eb_not (h1 : EvB M L tt ds a) : EvB M L (tNot tt) ds (!a) := fun f L' s σ G H w sl Q q => h1 f L' s σ G H w sl _ q
theorem ev_not (h1 : EvD M L ta ds (.bool a)) : EvD M L (tNotV ta) ds (.bool (!a)) := fun f L' s σ G H w sl Q q => h1 f L' s σ G H w sl _ fun v G2 H2 e2 w2 d2 => by
  cases d2
  exact ⟨a, rfl, q _ G2 H2 e2 w2 (.bl _)⟩
theorem ev_and (h1 : EvD M L ta ds (.bool a)) (h2 : a = true → EvD M L tb ds (.bool b)) : EvD M L (tAndV ta tb) ds (.bool (a && b)) := fun f L' s σ G H w sl Q q => h1 f L' s σ G H w sl _ fun v G2 H2 e2 w2 d2 => by
  cases d2
  refine ⟨a, rfl, ?_⟩
  cases a with
  | true => rw [if_pos rfl]; exact h2 rfl f L' s σ G2 H2 w2 (sl.mono e2) Q fun v G3 H3 e3 w3 => q v G3 H3 (e2.trans e3) w3
  | false => rw [if_neg Bool.false_ne_true]; exact q _ G2 H2 e2 w2 (.bl _)
theorem ev_or (h1 : EvD M L ta ds (.bool a)) (h2 : a = false → EvD M L tb ds (.bool b)) : EvD M L (tOrV ta tb) ds (.bool (a || b)) := fun f L' s σ G H w sl Q q => h1 f L' s σ G H w sl _ fun v G2 H2 e2 w2 d2 => by
  cases d2
  refine ⟨a, rfl, ?_⟩
  cases a with
  | true => rw [if_pos rfl]; exact q _ G2 H2 e2 w2 (.bl _)
  | false => rw [if_neg Bool.false_ne_true]; exact h2 rfl f L' s σ G2 H2 w2 (sl.mono e2) Q fun v G3 H3 e3 w3 => q v G3 H3 (e2.trans e3) w3
theorem ev_if (h : EvB M L tt ds b) (h1 : b = true → EvD M L ta ds z) (h2 : b = false → EvD M L tb ds z) : EvD M L (tIf tt ta tb) ds z := fun f L' s σ G H w sl Q q => h f L' s σ G H w sl _ fun G2 H2 e2 w2 => by
  cases b with
  | true => rw [if_pos rfl]; exact h1 rfl f L' s σ G2 H2 w2 (sl.mono e2) Q fun v G3 H3 e3 w3 => q v G3 H3 (e2.trans e3) w3
  | false => rw [if_neg Bool.false_ne_true]; exact h2 rfl f L' s σ G2 H2 w2 (sl.mono e2) Q fun v G3 H3 e3 w3 => q v G3 H3 (e2.trans e3) w3
theorem en_if {P : Bool → Prop} {T : PyData → Prop} (h : EvBN M L tt ds f f1 P) (h1 : P true → EvN M L ta ds f1 f2 T) (h2 : P false → EvN M L tb ds f1 f2 T) : EvN M L (tIf tt ta tb) ds f f2 T := fun L' s σ G H w sl Q q => h L' s σ G H w sl _ fun b G2 H2 e2 w2 p => by
  cases b with
  | true => rw [if_pos rfl]; exact h1 p L' s σ G2 H2 w2 (sl.mono e2) Q fun v d G3 H3 e3 w3 => q v d G3 H3 (e2.trans e3) w3
  | false => rw [if_neg Bool.false_ne_true]; exact h2 p L' s σ G2 H2 w2 (sl.mono e2) Q fun v d G3 H3 e3 w3 => q v d G3 H3 (e2.trans e3) w3
theorem ev_chain {r r' : R2} (ha : EvR M L ta ds x) (hb : EvR M L tb ds y) (hr : ROk M L r x y (.bool a)) (hc : a = true → EvR M L tc ds z ∧ ROk M L r' y z (.bool b)) : EvD M L (tChain r r' ta tb tc) ds (.bool (a && b)) := fun f L' s σ G H w sl Q q =>
  ha f L' s σ G H w sl _ fun u G2 H2 e2 w2 r2 => hb f L' s σ G2 H2 w2 (sl.mono e2) _ fun v G3 H3 e3 w3 r3 =>
    hr f L' s G3 H3 u v w3 (r2.mono e3) r3 _ fun k G4 H4 e4 w4 d4 => by
      cases d4
      refine ⟨a, rfl, ?_⟩
      cases a with
      | true =>
        rw [if_pos rfl]
        obtain ⟨hc1, hc2⟩ := hc rfl
        exact hc1 f L' s σ G4 H4 w4 (((sl.mono e2).mono e3).mono e4) _ fun w' G5 H5 e5 w5 r5 => hc2 f L' s G5 H5 v w' w5 ((r3.mono e4).mono e5) r5 Q fun v G6 H6 e6 w6 d6 => q v G6 H6 ((((e2.trans e3).trans e4).trans e5).trans e6) w6 d6
      | false => rw [if_neg Bool.false_ne_true]; exact q _ G4 H4 ((e2.trans e3).trans e4) w4 (.bl _)

/-! ### calls of built-ins -/
def C1Ok (M : MS) (L : Own) (r : List V → Hp → VK → Prop) (x z : PyData) : Prop :=
  ∀ f L', Sub L L' → ∀ G H u, W M f L' G H → RdL L' G u x → ∀ Q : VK, (∀ v G2 H2, Ex G G2 → W M f L' G2 H2 → Dv G2 v z → Q v H2) → r [u] H Q
theorem ev_cb1 {r : List V → Hp → VK → Prop} (h : EvR M L te ds x) (hr : C1Ok M L r x z) : EvD M L (tCB r (tCons te tNil)) ds z := fun f L' s σ G H w sl Q q =>
  h f L' s σ G H w sl _ fun u G2 H2 e2 w2 r2 => hr f L' s G2 H2 u w2 r2 Q fun v G3 H3 e3 w3 d3 => q v G3 H3 (e2.trans e3) w3 d3
theorem en_cb1 {r : List V → Hp → VK → Prop} {P T : PyData → Prop} (h : EvN M L te ds f f' P) (hr : ∀ x, P x → ∃ z, C1Ok M L r x z ∧ T z) : EvN M L (tCB r (tCons te tNil)) ds f f' T := fun L' s σ G H w sl Q q =>
  h L' s σ G H w sl _ fun u x G2 H2 e2 w2 p2 d2 => by
    obtain ⟨z, hz, ht⟩ := hr x p2
    exact hz f' L' s G2 H2 u w2 (.inl d2) Q fun v G3 H3 e3 w3 d3 => q v z G3 H3 (e2.trans e3) w3 ht d3
/-- two arguments, data -/
def C2Ok (M : MS) (L : Own) (r : List V → Hp → VK → Prop) (x y z : PyData) : Prop :=
  ∀ f L', Sub L L' → ∀ G H u v, W M f L' G H → RdL L' G u x → RdL L' G v y → ∀ Q : VK, (∀ v G2 H2, Ex G G2 → W M f L' G2 H2 → Dv G2 v z → Q v H2) → r [u, v] H Q
theorem ev_cb2 {r : List V → Hp → VK → Prop} (h : EvR M L ta ds x) (h2 : EvR M L tb ds y) (hr : C2Ok M L r x y z) : EvD M L (tCB r (tCons ta (tCons tb tNil))) ds z := fun f L' s σ G H w sl Q q =>
  h f L' s σ G H w sl _ fun u G2 H2 e2 w2 r2 => h2 f L' s σ G2 H2 w2 (sl.mono e2) _ fun v G3 H3 e3 w3 r3 => hr f L' s G3 H3 u v w3 (r2.mono e3) r3 Q fun v G4 H4 e4 w4 d4 => q v G4 H4 ((e2.trans e3).trans e4) w4 d4
/-- the second argument a very value (a class) -/
def CVOk (M : MS) (L : Own) (r : List V → Hp → VK → Prop) (x : PyData) (t : V) (z : PyData) : Prop :=
  ∀ f L', Sub L L' → ∀ G H u, W M f L' G H → RdL L' G u x → ∀ Q : VK, (∀ v G2 H2, Ex G G2 → W M f L' G2 H2 → Dv G2 v z → Q v H2) → r [u, t] H Q
theorem ev_cbv {r : List V → Hp → VK → Prop} {t : V} (h : EvR M L ta ds x) (hr : CVOk M L r x t z) : EvD M L (tCB r (tCons ta (tCons (tC t) tNil))) ds z := fun f L' s σ G H w sl Q q =>
  h f L' s σ G H w sl _ fun u G2 H2 e2 w2 r2 => hr f L' s G2 H2 u w2 r2 Q fun v G3 H3 e3 w3 d3 => q v G3 H3 (e2.trans e3) w3 d3
abbrev rLenG (K : PySem.W.Frag) : List V → Hp → VK → Prop := fun xs H Q => ∃ x n, xs = [x] ∧ LenV K x H n ∧ Q (.int n) H
theorem c1_lenL : C1Ok M L (rLenG K) (.list es) (.int (es.length : Nat)) := fun f L' s G H u w r Q q => by
  obtain ⟨p, xs, rfl, h1, h2⟩ := r.list w
  exact ⟨_, es.length, rfl, .inl ⟨xs, SqL.of h1, h2.length.symm⟩, q _ G H (Evl.Ex.refl G) w (.int _)⟩
theorem c1_lenT : C1Ok M L (rLenG K) (.tuple es) (.int (es.length : Nat)) := fun f L' s G H u w r Q q => by
  obtain ⟨p, xs, rfl, h1, _, h2⟩ := r.tup w
  exact ⟨_, es.length, rfl, .inr ⟨xs, h1.sq, h2.length.symm⟩, q _ G H (Evl.Ex.refl G) w (.int _)⟩
abbrev rIntG : List V → Hp → VK → Prop := fun xs H Q => (∃ i, xs = [.int i] ∧ Q (.int i) H) ∨ ∃ k, xs = [.bl k] ∧ Q (.int (if k then 1 else 0)) H
theorem c1_int {i : Int} : C1Ok M L rIntG (.int i) (.int i) := fun f L' s G H u w r Q q => .inl ⟨i, by rw [r.int], q _ G H (Evl.Ex.refl G) w (.int _)⟩
abbrev rMinG : List V → Hp → VK → Prop := fun xs H Q => ∃ i j, xs = [.int i, .int j] ∧ Q (.int (if j < i then j else i)) H
theorem c2_min {i j : Int} : C2Ok M L rMinG (.int i) (.int j) (.int (if j < i then j else i)) := fun f L' s G H u v w r r2 Q q => ⟨i, j, by rw [r.int, r2.int], q _ G H (Evl.Ex.refl G) w (.int _)⟩
theorem DvAll.bools {G : Hp} : ∀ {bs : List Bool} {vs : List V}, DvAll G vs (bs.map PyData.bool) → vs = bs.map V.bl
  | [], _, h => by cases h; rfl
  | n :: ns, _, h => by
    rw [List.map_cons] at h
    cases h with
    | cons h1 h2 => cases h1; rw [DvAll.bools h2, List.map_cons]
theorem c1_all {bs : List Bool} : C1Ok M L (rAll K) (.list (bs.map .bool)) (.bool (bs.all id)) := fun f L' s G H u w r Q q => by
  obtain ⟨p, xs, rfl, h1, h2⟩ := r.list w
  have e := h2.bools
  subst e
  exact ⟨p, bs, rfl, SqL.of h1, q _ G H (Evl.Ex.refl G) w (.bl _)⟩
theorem c1_any {bs : List Bool} : C1Ok M L (rAny K) (.list (bs.map .bool)) (.bool (bs.any id)) := fun f L' s G H u w r Q q => by
  obtain ⟨p, xs, rfl, h1, h2⟩ := r.list w
  have e := h2.bools
  subst e
  exact ⟨p, bs, rfl, SqL.of h1, q _ G H (Evl.Ex.refl G) w (.bl _)⟩
/-- tuple(xs) of a list, list(t) -/
theorem c1_tuple : C1Ok M L (rTupleX K) (.list es) (.tuple es) := fun f L' s G H u w r0 Q q => by
  obtain ⟨p, xs, rfl, h1, h2⟩ := r0.list w
  refine ⟨p, xs, rfl, .inl ⟨SqL.of h1, fun l o hl ho => ?_⟩⟩
  obtain ⟨e, w', d'⟩ := new_tup w h2 hl ho
  exact q _ _ _ e w' d'
/-- isinstance(x, T), T a built-in type -/
def tyN : PyData → String
  | .none => "NoneType"
  | .bool _ => "bool"
  | .int _ => "int"
  | .str _ => "str"
  | .list _ => "list"
  | .tuple _ => "tuple"
  | .dict _ => "dict"
theorem tyX_of {f : Nat} {L' : Own} {G H : Hp} {u : V} (w : W M f L' G H) (r : RdL L' G u x) : TyX K H u (.type (tyN x)) := by
  have h := r.dv w
  cases h with
  | non => exact .base .non
  | bl b => exact .base (.bl b)
  | int i => exact .base (.int i)
  | str y => exact .base (.str y)
  | lst h1 _ => exact .base (.lst h1)
  | tup h1 _ => obtain ⟨o, _, h2⟩ := h1; exact .fTuple h2
theorem cv_isi {T : String} (hk : kitB (tyN x) T = some b) : CVOk M L (rIsi K) x (.ty T) (.bool b) := fun f L' s G H u w r Q q =>
  ⟨u, .ty T, .type (tyN x), .type T, b, rfl, .ty T, tyX_of w r, kit_ty hk, q _ G H (Evl.Ex.refl G) w (.bl _)⟩
def isInt : PyData → Bool
  | .int _ => true
  | .bool _ => true
  | _ => false
def isBool : PyData → Bool
  | .bool _ => true
  | _ => false
def isTup : PyData → Bool
  | .tuple _ => true
  | _ => false
def isStr : PyData → Bool
  | .str _ => true
  | _ => false
theorem kit_int (x : PyData) (h : ∀ k, x ≠ .dict k) : kitB (tyN x) "int" = some (isInt x) := by
  cases x with
  | dict k => exact absurd rfl (h k)
  | _ => simp only [tyN, isInt]; decide +kernel
theorem kit_bool (x : PyData) (h : ∀ k, x ≠ .dict k) : kitB (tyN x) "bool" = some (isBool x) := by
  cases x with
  | dict k => exact absurd rfl (h k)
  | _ => simp only [tyN, isBool]; decide +kernel
theorem kit_tup (x : PyData) (h : ∀ k, x ≠ .dict k) : kitB (tyN x) "tuple" = some (isTup x) := by
  cases x with
  | dict k => exact absurd rfl (h k)
  | _ => simp only [tyN, isTup]; decide +kernel
theorem kit_str (x : PyData) (h : ∀ k, x ≠ .dict k) : kitB (tyN x) "str" = some (isStr x) := by
  cases x with
  | dict k => exact absurd rfl (h k)
  | _ => simp only [tyN, isStr]; decide +kernel
theorem Dv.nodict {G : Hp} {v : V} {x : PyData} (h : Dv G v x) : ∀ k, x ≠ .dict k := fun k e => by subst e; cases h
theorem cv_int : CVOk M L (rIsi K) x (.ty "int") (.bool (isInt x)) := fun f L' s G H u w r Q q => cv_isi (kit_int x (r.dv w).nodict) f L' s G H u w r Q q
theorem cv_bool : CVOk M L (rIsi K) x (.ty "bool") (.bool (isBool x)) := fun f L' s G H u w r Q q => cv_isi (kit_bool x (r.dv w).nodict) f L' s G H u w r Q q
theorem cv_tup : CVOk M L (rIsi K) x (.ty "tuple") (.bool (isTup x)) := fun f L' s G H u w r Q q => cv_isi (kit_tup x (r.dv w).nodict) f L' s G H u w r Q q
theorem cv_str : CVOk M L (rIsi K) x (.ty "str") (.bool (isStr x)) := fun f L' s G H u w r Q q => cv_isi (kit_str x (r.dv w).nodict) f L' s G H u w r Q q
/-- list(range(..)) -/
def rngD (a b : Int) : List PyData := (List.range (b - a).toNat).map fun i => .int (a + (i : Nat))
theorem rngD_dv {G : Hp} (a b : Int) : DvAll G (rgV a b) (rngD a b) := by
  unfold rgV rngD
  generalize List.range (b - a).toNat = l
  induction l with
  | nil => exact .nil
  | cons i l ih => exact .cons (.int _) ih
theorem ev_listRg1 {n : Int} (h : EvD M L ta ds (.int n)) (h0 : 0 ≤ n) (h1 : n ≤ 100000) : EvD M L (tLstRg (tRg1 ta)) ds (.list (rngD 0 n)) := fun f L' s σ G H w sl Q q =>
  h f L' s σ G H w sl _ fun u G2 H2 e2 w2 d2 => by
    have e := d2.int'
    subst e
    refine ⟨n, rfl, RgOk.of_le (by omega) (by omega) (by omega) (by omega), fun p hp => ?_⟩
    obtain ⟨e, w', d'⟩ := new_lst w2 (rngD_dv (G := G2) 0 n) hp
    exact q _ _ _ (e2.trans e) w' d'

/-! ### slices -/
theorem eo_none : EvO M L tNoPart ds none := fun f L' s σ G H w sl Q q => q G H (Evl.Ex.refl G) w
theorem eo_some {i : Int} (h : EvD M L te ds (.int i)) : EvO M L (tPart te) ds (some i) := fun f L' s σ G H w sl Q q => h f L' s σ G H w sl _ fun v G2 H2 e2 w2 d2 => by
  have e := d2.int'
  subst e
  exact ⟨i, rfl, q G2 H2 e2 w2⟩
def cutD {α : Type} (xs : List α) (lo hi : Option Int) : List α := (xs.drop (HT.sIx xs.length 0 lo)).take (HT.sIx xs.length xs.length hi - HT.sIx xs.length 0 lo)
theorem cut_dv {G : Hp} {xs : List V} (h : DvAll G xs es) (lo hi : Option Int) : DvAll G (cutV xs lo hi) (cutD es lo hi) := by
  unfold cutV cutD
  rw [h.length]
  exact (h.drop _).take _
def rSlG (K : PySem.W.Frag) : V → Option Int → Option Int → Hp → VK → Prop := fun x lo hi H Q => rSlL K x lo hi H Q ∨ rSlX K x lo hi H Q
theorem sl_G {X : Cx} : SlR X (rSlG X.K) := SlR.or sl_list sl_tupX
theorem ev_slL {tl th : TO} {lo hi : Option Int} (h : EvR M L te ds (.list es)) (hl : EvO M L tl ds lo) (hh : EvO M L th ds hi) : EvD M L (tSl (rSlG K) te tl th) ds (.list (cutD es lo hi)) := fun f L' s σ G H w sl Q q =>
  h f L' s σ G H w sl _ fun u G2 H2 e2 w2 r2 => hl f L' s σ G2 H2 w2 (sl.mono e2) _ fun G3 H3 e3 w3 => hh f L' s σ G3 H3 w3 ((sl.mono e2).mono e3) _ fun G4 H4 e4 w4 => by
    obtain ⟨p, xs, rfl, h1, h2⟩ := ((r2.mono e3).mono e4).list w4
    refine .inl ⟨p, xs, rfl, SqL.of h1, fun l hl => ?_⟩
    obtain ⟨e, w', d'⟩ := new_lst w4 (cut_dv h2 lo hi) hl
    exact q _ _ _ (((e2.trans e3).trans e4).trans e) w' d'
theorem ev_slT {tl th : TO} {lo hi : Option Int} (h : EvR M L te ds (.tuple es)) (hl : EvO M L tl ds lo) (hh : EvO M L th ds hi) : EvD M L (tSl (rSlG K) te tl th) ds (.tuple (cutD es lo hi)) := fun f L' s σ G H w sl Q q =>
  h f L' s σ G H w sl _ fun u G2 H2 e2 w2 r2 => hl f L' s σ G2 H2 w2 (sl.mono e2) _ fun G3 H3 e3 w3 => hh f L' s σ G3 H3 w3 ((sl.mono e2).mono e3) _ fun G4 H4 e4 w4 => by
    obtain ⟨p, xs, rfl, h1, h1g, h2⟩ := ((r2.mono e3).mono e4).tup w4
    refine .inr ⟨p, xs, rfl, h1.sq, fun hw => ?_, fun _ l o hl ho => ?_⟩
    · have e : cutD es lo hi = es := by
        unfold cutD
        rw [← h2.length, hw.1, hw.2, h2.length]
        simp
      rw [e] at q
      exact q _ G4 H4 ((e2.trans e3).trans e4) w4 (.tup h1g h2)
    · obtain ⟨e, w', d'⟩ := new_tup w4 (cut_dv h2 lo hi) hl ho
      exact q _ _ _ (((e2.trans e3).trans e4).trans e) w' d'
theorem ev_revL (h : EvR M L te ds (.list es)) : EvD M L (tRevL K te) ds (.list es.reverse) := fun f L' s σ G H w sl Q q =>
  h f L' s σ G H w sl _ fun u G2 H2 e2 w2 r2 => by
    obtain ⟨p, xs, rfl, h1, h2⟩ := r2.list w2
    refine ⟨p, xs, rfl, SqL.of h1, fun l hl => ?_⟩
    obtain ⟨e, w', d'⟩ := new_lst w2 h2.reverse hl
    exact q _ _ _ (e2.trans e) w' d'
theorem ev_revT (h : EvR M L te ds (.tuple es)) : EvD M L (tRevT K te) ds (.tuple es.reverse) := fun f L' s σ G H w sl Q q =>
  h f L' s σ G H w sl _ fun u G2 H2 e2 w2 r2 => by
    obtain ⟨p, xs, rfl, h1, _, h2⟩ := r2.tup w2
    refine ⟨p, xs, rfl, h1.sq, fun l o hl ho => ?_⟩
    obtain ⟨e, w', d'⟩ := new_tup w2 h2.reverse hl ho
    exact q _ _ _ (e2.trans e) w' d'
end
end Kd
/-! What is walked, targets, comprehensions. -/
namespace Kd
open PySem L2
/-- an item as a walk gives it: data, or (bw) a pair that is taken apart at once -/
def Wk (bw : Bool) (G : Hp) (v : V) (x : PyData) : Prop := Dv G v x ∨ (bw = true ∧ ∃ a xs es, v = .ref a ∧ G a = some (.tup xs) ∧ DvAll G xs es ∧ x = .tuple es)
/-- the walk J gives the items -/
def WalkD (bw : Bool) (M : MS) (J : It) (items : List PyData) (G : Hp) : Prop :=
  ∀ i f L' G3 H3, Ex G G3 → W M f L' G3 H3 → (i = items.length → J.stop i H3) ∧ ∀ x, items[i]? = some x → J.go i H3 ∧ ∀ v H4, J.yld i H3 v H4 → ∃ G4, Ex G3 G4 ∧ W M f L' G4 H4 ∧ Wk bw G4 v x
def EvI (bw : Bool) (M : MS) (L : Own) (wi : TI) (ds : DS) (items : List PyData) : Prop :=
  ∀ f L', Sub L L' → ∀ σ G H, W M f L' G H → Sl G σ ds → ∀ R : It → Hp → Prop, (∀ J G2 H2, Ex G G2 → W M f L' G2 H2 → WalkD bw M J items G2 → R J H2) → wi σ H R
section
variable {bw : Bool} {K : PySem.W.Frag} {M : MS} {L : Own} {ds : DS} {te ta tb tc : TE} {tt tu : TT} {tA tB' : TA} {x y z d : PyData} {f f' f1 f2 : Nat} {es gs items : List PyData} {wi : TI} {g : TG}
theorem ei_list (h : EvD M L te ds (.list items)) : EvI false M L (iList K te) ds items := fun f L' s σ G H w sl R r =>
  h f L' s σ G H w sl _ fun u G2 H2 e2 w2 d2 => by
    cases d2 with
    | @lst a xs _ h1 h2 =>
      refine ⟨a, rfl, ⟨xs, SqL.of (w2.ex _ _ h1)⟩, r _ G2 H2 e2 w2 fun i f3 L3 G3 H3 e3 w3 => ⟨fun hi => ?_, fun x hx => ?_⟩⟩
      · exact ⟨xs, SqL.of (w3.ex _ _ (e3 _ _ h1)), by rw [h2.length, hi]; exact Nat.le_refl _⟩
      · obtain ⟨v, hv, hd⟩ := h2.get hx
        refine ⟨⟨xs, v, SqL.of (w3.ex _ _ (e3 _ _ h1)), hv⟩, fun u H4 hy => ?_⟩
        obtain ⟨rfl, hy2⟩ := hy
        have := hy2 xs (SqL.of (w3.ex _ _ (e3 _ _ h1)))
        rw [hv] at this
        cases this
        exact ⟨G3, Evl.Ex.refl _, w3, .inl (Dv.mono e3 _ _ hd)⟩
theorem ei_tup (h : EvD M L te ds (.tuple items)) : EvI false M L (iTup K te) ds items := fun f L' s σ G H w sl R r =>
  h f L' s σ G H w sl _ fun u G2 H2 e2 w2 d2 => by
    cases d2 with
    | @tup a xs _ h1 h2 =>
      refine ⟨a, rfl, ⟨xs, (h1.mono w2.ex).sq⟩, r _ G2 H2 e2 w2 fun i f3 L3 G3 H3 e3 w3 => ⟨fun hi => ?_, fun x hx => ?_⟩⟩
      · exact ⟨xs, ((h1.mono e3).mono w3.ex).sq, by rw [h2.length, hi]; exact Nat.le_refl _⟩
      · obtain ⟨v, hv, hd⟩ := h2.get hx
        refine ⟨⟨xs, v, ((h1.mono e3).mono w3.ex).sq, hv⟩, fun u H4 hy => ?_⟩
        obtain ⟨rfl, hy2⟩ := hy
        have := hy2 xs (((h1.mono e3).mono w3.ex).sq)
        rw [hv] at this
        cases this
        exact ⟨G3, Evl.Ex.refl _, w3, .inl (Dv.mono e3 _ _ hd)⟩
/-- a list or a tuple: either -/
def iSeq (K : PySem.W.Frag) (te : TE) : TI := fun σ H R => iList K te σ H R ∨ iTup K te σ H R
theorem pi_seq {X : Cx} {tg l : Expr} (h : PE X l te) : PI X tg l (iSeq X.K te) := ⟨fun pins s σ H R I hw => hw.elim ((pi_list h).run pins s σ H R I) ((pi_tup h).run pins s σ H R I)⟩
theorem ei_seqL (h : EvD M L te ds (.list items)) : EvI false M L (iSeq K te) ds items := fun f L' s σ G H w sl R r => .inl (ei_list h f L' s σ G H w sl R r)
theorem ei_seqT (h : EvD M L te ds (.tuple items)) : EvI false M L (iSeq K te) ds items := fun f L' s σ G H w sl R r => .inr (ei_tup h f L' s σ G H w sl R r)
theorem rng_walk {a : Int} {n : Nat} {G2 : Hp} (hl : items = (List.range n).map fun i => PyData.int (a + (i : Nat))) : WalkD false M (Itr a n) items G2 := fun i f3 L3 G3 H3 e3 w3 => by
  subst hl
  refine ⟨fun hi => ?_, fun x hx => ?_⟩
  · rw [List.length_map, List.length_range] at hi
    exact Nat.le_of_eq hi.symm
  · rw [List.getElem?_map] at hx
    cases e : (List.range n)[i]? with
    | none => rw [e] at hx; cases hx
    | some j =>
      rw [e] at hx
      cases hx
      obtain ⟨hi, e'⟩ := List.getElem?_eq_some_iff.mp e
      rw [List.getElem_range] at e'
      subst e'
      rw [List.length_range] at hi
      exact ⟨hi, fun u H4 hy => ⟨G3, Evl.Ex.refl _, hy.1 ▸ w3, .inl (by rw [hy.2]; exact .int _)⟩⟩
theorem ei_rng1 {n : Int} (h : EvA M L tA ds [.int n]) (hn : -100000 ≤ n ∧ n ≤ 100000) : EvI false M L (iRng1 tA) ds (rngD 0 n) := fun f L' s σ G H w sl R r =>
  h f L' s σ G H w sl _ fun us G2 H2 e2 w2 d2 => by
    cases d2 with
    | cons d3 d4 =>
      cases d4
      cases d3
      exact ⟨n, rfl, by omega, by omega, r _ G2 H2 e2 w2 (rng_walk (by unfold rngD; rw [Int.sub_zero]))⟩
theorem ei_rng2 {a n : Int} (h : EvA M L tA ds [.int a, .int n]) (ha : -100000 ≤ a ∧ a ≤ 100000) (hn : -100000 ≤ n ∧ n ≤ 100000) : EvI false M L (iRng2 tA) ds (rngD a n) := fun f L' s σ G H w sl R r =>
  h f L' s σ G H w sl _ fun us G2 H2 e2 w2 d2 => by
    cases d2 with
    | cons d3 d4 =>
      cases d4 with
      | cons d5 d6 =>
        cases d6
        cases d3
        cases d5
        exact ⟨a, n, rfl, ⟨by omega, by omega, by omega, by omega⟩, r _ G2 H2 e2 w2 (rng_walk rfl)⟩
/-- pairs (i, x) -/
def enumFrom (k : Nat) : List PyData → List PyData
  | [] => []
  | x :: xs => .tuple [.int (k : Nat), x] :: enumFrom (k + 1) xs
theorem enum_get : ∀ {xs : List PyData} {k i : Nat} {d : PyData}, (enumFrom k xs)[i]? = some d → ∃ x, xs[i]? = some x ∧ d = .tuple [.int ((k + i : Nat) : Int), x]
  | [], _, _, _, h => by simp [enumFrom] at h
  | x :: xs, k, 0, d, h => by
    simp [enumFrom] at h
    exact ⟨x, rfl, by rw [← h]; simp⟩
  | x :: xs, k, i + 1, d, h => by
    obtain ⟨y, h1, h2⟩ := enum_get (xs := xs) (k := k + 1) (i := i) (d := d) (by simpa [enumFrom] using h)
    exact ⟨y, by simpa using h1, by rw [h2]; congr 3; omega⟩
theorem enum_len : ∀ (xs : List PyData) (k : Nat), (enumFrom k xs).length = xs.length
  | [], _ => rfl
  | x :: xs, k => by simp [enumFrom, enum_len xs]
theorem new_pair {G H : Hp} {L' : Own} {u v : V} (w : W M f L' G H) (h1 : Dv G u x) (h2 : Dv G v y) {p : Addr} (hp : H p = none) : Ex G (upd G p (.tup [u, v])) ∧ W M f L' (upd G p (.tup [u, v])) (upd H p (.tup [u, v])) ∧ Wk true (upd G p (.tup [u, v])) (.ref p) (.tuple [x, y]) :=
  ⟨Evl.Ex.new (w.gnone hp), w.new hp, .inr ⟨rfl, p, [u, v], [x, y], rfl, upd_same, DvAll.mono (Evl.Ex.new (w.gnone hp)) _ _ (.cons h1 (.cons h2 .nil)), rfl⟩⟩
theorem ei_enumL (h : EvD M L te ds (.list es)) : EvI true M L (iEnum K (tCons te tNil)) ds (enumFrom 0 es) := fun f L' s σ G H w sl R r =>
  h f L' s σ G H w sl _ fun u G2 H2 e2 w2 d2 => by
    cases d2 with
    | @lst a xs _ h1 h2 =>
      refine ⟨a, xs, rfl, SqL.of (w2.ex _ _ h1), r _ G2 H2 e2 w2 fun i f3 L3 G3 H3 e3 w3 => ?_⟩
      have h3 := SqL.of (K := K) (w3.ex _ _ (e3 _ _ h1))
      refine ⟨fun hi => ⟨xs, h3, by rw [h2.length, hi, enum_len]; exact Nat.le_refl _⟩, fun x hx => ?_⟩
      obtain ⟨y, hy, rfl⟩ := enum_get hx
      obtain ⟨v, hv, hd⟩ := h2.get hy
      refine ⟨⟨xs, v, h3, hv⟩, fun u H4 ⟨T, u', e1, hT, e4, hu⟩ => ?_⟩
      have := hu xs h3
      rw [hv] at this
      cases this
      subst e1 e4
      rw [Nat.zero_add]
      obtain ⟨a1, a2, a3⟩ := new_pair w3 (.int (i : Nat)) (Dv.mono e3 _ _ hd) hT
      exact ⟨_, a1, a2, a3⟩
theorem ei_zip {xs ys : List PyData} (h : EvD M L ta ds (.tuple xs)) (h' : EvD M L tb ds (.tuple ys)) : EvI true M L (RZ.iZipA K (tCons ta (tCons tb tNil))) ds (List.zipWith (fun x y => .tuple [x, y]) xs ys) := fun f L' s σ G H w sl R r =>
  h f L' s σ G H w sl _ fun u G2 H2 e2 w2 d2 => h' f L' s σ G2 H2 w2 (sl.mono e2) _ fun v G3 H3 e3 w3 d3 => by
    have d2' := Dv.mono e3 _ _ d2
    cases d2' with
    | @tup a us _ h1 h2 =>
      cases d3 with
      | @tup b vs _ h3 h4 =>
        refine ⟨a, b, us, vs, rfl, .inr ⟨(h1.mono w3.ex).sq, (h3.mono w3.ex).sq, r _ G3 H3 (e2.trans e3) w3 fun i f4 L4 G4 H4 e4 w4 => ?_⟩⟩
        have q1 := TupAt.sq (K := K) ((h1.mono e4).mono w4.ex)
        have q2 := TupAt.sq (K := K) ((h3.mono e4).mono w4.ex)
        refine ⟨fun hi => ⟨us, vs, q1, q2, ?_⟩, fun x hx => ?_⟩
        · rw [List.length_zipWith] at hi
          rw [h2.length, h4.length]
          omega
        · rw [List.getElem?_zipWith] at hx
          cases ex : xs[i]? with
          | none => rw [ex] at hx; cases hx
          | some x1 =>
            cases ey : ys[i]? with
            | none => rw [ex, ey] at hx; cases hx
            | some y1 =>
              rw [ex, ey] at hx
              cases hx
              obtain ⟨u1, hu1, du1⟩ := h2.get ex
              obtain ⟨v1, hv1, dv1⟩ := h4.get ey
              refine ⟨⟨us, vs, u1, v1, q1, q2, hu1, hv1⟩, fun u' H5 ⟨T, p, q, e1, hT, e5, hp, hq⟩ => ?_⟩
              have z1 := hp us q1
              have z2 := hq vs q2
              rw [hu1] at z1
              rw [hv1] at z2
              cases z1
              cases z2
              subst e1 e5
              obtain ⟨a1, a2, a3⟩ := new_pair w4 (Dv.mono e4 _ _ du1) (Dv.mono e4 _ _ dv1) hT
              exact ⟨_, a1, a2, a3⟩

/-! ### targets -/
def TgD (bw : Bool) (M : MS) (g : TG) (js : List Nat) (x : PyData) (F : DS → DS) : Prop :=
  ∀ f L G H σ ds v, W M f L G H → Sl G σ ds → Wk bw G v x → ∀ Q : St → Hp → Prop, (∀ σ2, Sl G σ2 (F ds) → (∀ vs τ, (∀ j ∈ js, j ∈ vs) → L2.wipe σ vs = L2.wipe τ vs → L2.wipe σ2 vs = L2.wipe τ vs) → Q σ2 H) → g v σ H Q
theorem tg_name {j : Nat} : TgD false M (gName j) [j] x (fun ds => ds.set j (some (.dat x))) := fun f L G H σ ds v w sl d Q q => by
  rcases d with d | ⟨e, _⟩
  · exact q (σ.set j (some v)) (sl.set j (sd := .dat x) d) fun vs τ hj e => wipe_set _ (hj j (by simp)) e
  · cases e
theorem tg_pair {i j : Nat} : TgD bw M (gTup K 2 (gCons (gName i) (gCons (gName j) gNil))) [i, j] (.tuple [x, y]) (fun ds => (ds.set i (some (.dat x))).set j (some (.dat y))) := fun f L G H σ ds v w sl d Q q => by
  have h : ∃ a u1 u2, v = .ref a ∧ SqT K H a [u1, u2] ∧ Dv G u1 x ∧ Dv G u2 y := by
    rcases d with d | ⟨_, a, xs, es, rfl, hx, h2, e⟩
    · cases d with
      | @tup a xs _ h1 h2 =>
        cases h2 with
        | cons d1 h3 =>
          cases h3 with
          | cons d2 h4 =>
            cases h4
            exact ⟨a, _, _, rfl, (h1.mono w.ex).sq, d1, d2⟩
    · cases e
      cases h2 with
      | cons d1 h3 =>
        cases h3 with
        | cons d2 h4 =>
          cases h4
          exact ⟨a, _, _, rfl, SqT.of (w.ex _ _ hx), d1, d2⟩
  obtain ⟨a, u1, u2, rfl, hs, d1, d2⟩ := h
  refine ⟨a, _, rfl, hs, rfl, _, _, rfl, _, _, rfl, rfl, q _ ((sl.set i (sd := .dat x) d1).set j (sd := .dat y) d2) fun vs τ hj e => ?_⟩
  exact wipe_set _ (hj j (by simp)) (wipe_set _ (hj i (by simp)) e)

/-! ### comprehensions -/
theorem en_lc {js vs : List Nat} {F : PyData → DS → DS} (hi : EvI bw M L wi ds items) (hj : ∀ j ∈ js, j ∈ vs) (tg : ∀ x ∈ items, TgD bw M g js x (F x)) (Iv : Nat → Nat → List PyData → Prop) (h0 : Iv 0 f []) (hlen : ∀ i f1 acc, Iv i f1 acc → acc.length < 50000)
    (hs : ∀ i x acc f1 D, items[i]? = some x → Iv i f1 acc → ∃ f2 PB, EvBN M ((D, acc) :: L) tt (F x (wipeD ds vs)) f1 f2 PB ∧ (PB false → Iv (i + 1) f2 acc) ∧ (PB true → ∃ f3 P, EvN M ((D, acc) :: L) te (F x (wipeD ds vs)) f2 f3 P ∧ ∀ r, P r → Iv (i + 1) f3 (acc ++ [r])))
    (hd : ∀ f1 acc, Iv items.length f1 acc → f' ≤ f1) : EvN M L (tLc wi g tt te vs) ds f f' (fun d => ∃ acc f1, d = .list acc ∧ Iv items.length f1 acc) := fun L' s σ G H w sl Q q =>
  hi f L' s σ G H w sl _ fun J G2 H2 e2 w2 wk => fun D hD => by
    refine ⟨fun i m H' => i + m = items.length ∧ ∃ f1 acc G3, Ex G2 G3 ∧ W M f1 ((D, acc) :: L') G3 H' ∧ Iv i f1 acc, ⟨items.length, Nat.zero_add _, f, [], G2, Evl.Ex.refl _, w2.newL hD .nil, h0⟩, ?_⟩
    rintro i m H' ⟨him, f1, acc, G3, e3, w3, iv⟩
    by_cases hlt : i < items.length
    · right
      obtain ⟨x, hx⟩ : ∃ x, items[i]? = some x := ⟨items[i], by simp [hlt]⟩
      obtain ⟨hgo, hy⟩ := (wk i f1 ((D, acc) :: L') G3 H' e3 w3).2 x hx
      refine ⟨hgo, fun H5 => ∃ f2 acc2 G5, Ex G2 G5 ∧ W M f2 ((D, acc2) :: L') G5 H5 ∧ Iv (i + 1) f2 acc2, fun H5 ⟨f2, acc2, G5, e5, w5, iv5⟩ => ⟨m - 1, by omega, by omega, f2, acc2, G5, e5, w5, iv5⟩, fun v H4 hv => ?_⟩
      obtain ⟨G4, e4, w4, d4⟩ := hy v H4 hv
      have sl4 : Sl G4 (L2.wipe σ vs) (wipeD ds vs) := (((sl.mono e2).mono e3).mono e4).wipe vs
      refine tg x (List.mem_of_getElem? hx) f1 _ G4 H4 _ _ v w4 sl4 d4 _ fun σ2 sl2 hw => ⟨(hw vs (L2.wipe σ vs) hj rfl).trans (wipe_wipe σ vs), ?_⟩
      obtain ⟨f2, PB, hb, hb0, hb1⟩ := hs i x acc f1 D hx iv
      have sb : Sub ((D, acc) :: L) ((D, acc) :: L') := fun q hq => (List.mem_cons.mp hq).elim (fun e => e ▸ List.mem_cons_self) fun h => List.mem_cons_of_mem _ (s q h)
      refine hb ((D, acc) :: L') sb σ2 G4 H4 w4 sl2 _ fun b G5 H5 e5 w5 pb => ?_
      cases b with
      | true =>
        rw [if_pos rfl]
        obtain ⟨f3, P, he, hP⟩ := hb1 pb
        refine he ((D, acc) :: L') sb σ2 G5 H5 w5 (sl2.mono e5) _ fun y r G6 H6 e6 w6 pr d6 => ?_
        obtain ⟨xs, hxs, hxd⟩ := w6.own D acc List.mem_cons_self
        refine ⟨xs, hxs, Evl.sz_lt (by rw [hxd.length]; have := hlen _ _ _ iv; omega), f3, acc ++ [r], G6, ((e3.trans e4).trans e5).trans e6, w6.set (hxd.append (.cons d6 .nil)), hP r pr⟩
      | false =>
        rw [if_neg Bool.false_ne_true]
        exact ⟨f2, acc, G5, (e3.trans e4).trans e5, w5, hb0 pb⟩
    · left
      have hi2 : i = items.length := by omega
      refine ⟨(wk i f1 ((D, acc) :: L') G3 H' e3 w3).1 hi2, ?_⟩
      subst hi2
      obtain ⟨G4, e4, w4, d4⟩ := w3.freeze
      exact q _ (.list acc) G4 H' ((e2.trans e3).trans e4) (w4.less (hd _ _ iv)) ⟨acc, f1, rfl, iv⟩ d4
/-- nothing is drawn in it -/
theorem ev_lc {js vs : List Nat} {F : PyData → DS → DS} (keep : PyData → Bool) (val : PyData → PyData) (hi : EvI bw M L wi ds items) (hj : ∀ j ∈ js, j ∈ vs) (tg : ∀ x ∈ items, TgD bw M g js x (F x)) (hl : items.length ≤ 40000)
    (hs : ∀ x ∈ items, EvB M L tt (F x (wipeD ds vs)) (keep x) ∧ (keep x = true → EvD M L te (F x (wipeD ds vs)) (val x))) : EvD M L (tLc wi g tt te vs) ds (.list ((items.filter keep).map val)) := EvD.ofN fun f => by
  refine (en_lc (f' := f) hi hj tg (fun i f1 acc => f1 = f ∧ acc = ((items.take i).filter keep).map val) ⟨rfl, by simp⟩ (fun i f1 acc h => ?_) (fun i x acc f1 D hx h => ?_) (fun f1 acc h => by omega)).imp ?_
  · rw [h.2, List.length_map]
    have h1 := List.length_filter_le keep (items.take i)
    have h2 := List.length_take_le i items
    rw [List.length_take] at h1
    omega
  · obtain ⟨rfl, rfl⟩ := h
    have hm := List.mem_of_getElem? hx
    obtain ⟨h1, h2⟩ := hs x hm
    have tk : items.take (i + 1) = items.take i ++ [x] := by
      obtain ⟨hi', e⟩ := List.getElem?_eq_some_iff.mp hx
      rw [← e, List.take_append_getElem hi']
    have hk : ∀ b, keep x = b → ((items.take (i + 1)).filter keep).map val = ((items.take i).filter keep).map val ++ (if b then [val x] else []) := fun b hb => by
      rw [tk, List.filter_append, List.map_append]
      congr 1
      cases b <;> simp [hb]
    refine ⟨f1, fun b => b = keep x, fun L' s => (h1.n (P := fun b => b = keep x) rfl) L' (fun q hq => s q (List.mem_cons_of_mem _ hq)), fun hb => ⟨rfl, ?_⟩, fun hb => ⟨f1, fun r => r = val x, fun L' s => ((h2 hb.symm).n (P := fun r => r = val x) rfl) L' (fun q hq => s q (List.mem_cons_of_mem _ hq)), fun r hr => ⟨rfl, ?_⟩⟩⟩
    · rw [hk false hb.symm]; simp
    · subst hr; rw [hk true hb.symm]; simp
  · rintro d ⟨acc, f1, rfl, _, h⟩
    rw [h, List.take_length]
theorem ev_lcAll {js vs : List Nat} {F : PyData → DS → DS} (val : PyData → PyData) (hi : EvI bw M L wi ds items) (hj : ∀ j ∈ js, j ∈ vs) (tg : ∀ x ∈ items, TgD bw M g js x (F x)) (hl : items.length ≤ 40000)
    (hs : ∀ x ∈ items, EvD M L te (F x (wipeD ds vs)) (val x)) : EvD M L (tLc wi g tYes te vs) ds (.list (items.map val)) :=
  (ev_lc (fun _ => true) val hi hj tg hl fun x hx => ⟨eb_yes, fun _ => hs x hx⟩).is (by rw [List.filter_eq_self.mpr fun _ _ => rfl])
/-- two clauses, no tests, nothing drawn -/
theorem ev_lc2 {bw1 : Bool} {js vs js1 vs1 : List Nat} {F F1 : PyData → DS → DS} {wi1 : TI} {g1 : TG} (items2 : PyData → List PyData) (val : PyData → PyData → PyData) (hi : EvI bw M L wi ds items) (hj : ∀ j ∈ js, j ∈ vs) (tg : ∀ x ∈ items, TgD bw M g js x (F x))
    (hi1 : ∀ x ∈ items, EvI bw1 M L wi1 (F x (wipeD ds vs)) (items2 x)) (hj1 : ∀ j ∈ js1, j ∈ vs1) (tg1 : ∀ x ∈ items, ∀ y ∈ items2 x, TgD bw1 M g1 js1 y (F1 y)) (hl : (items.flatMap fun x => (items2 x).map (val x)).length ≤ 40000)
    (hs : ∀ x ∈ items, ∀ y ∈ items2 x, EvD M L te (F1 y (wipeD (F x (wipeD ds vs)) vs1)) (val x y)) : EvD M L (tLc2 wi g tYes wi1 g1 tYes te vs vs1) ds (.list (items.flatMap fun x => (items2 x).map (val x))) := fun f L' s σ G H w sl Q q =>
  hi f L' s σ G H w sl _ fun J G2 H2 e2 w2 wk => fun D hD => by
    refine ⟨fun i m H' => i + m = items.length ∧ ∃ G3, Ex G2 G3 ∧ W M f ((D, (items.take i).flatMap fun x => (items2 x).map (val x)) :: L') G3 H', ⟨items.length, Nat.zero_add _, G2, Evl.Ex.refl _, w2.newL hD .nil⟩, ?_⟩
    rintro i m H' ⟨him, G3, e3, w3⟩
    by_cases hlt : i < items.length
    · right
      obtain ⟨x, hx⟩ : ∃ x, items[i]? = some x := ⟨items[i], by simp [hlt]⟩
      have hm := List.mem_of_getElem? hx
      have tk : items.take (i + 1) = items.take i ++ [x] := by
        obtain ⟨hi', e⟩ := List.getElem?_eq_some_iff.mp hx
        rw [← e, List.take_append_getElem hi']
      have hsub : ∀ {A B : List PyData}, items = A ++ B → (A.flatMap fun x => (items2 x).map (val x)).length ≤ (items.flatMap fun x => (items2 x).map (val x)).length := fun {A B} e => by
        rw [e, List.flatMap_append, List.length_append]
        omega
      have hfull := hsub (A := items.take (i + 1)) (B := items.drop (i + 1)) (List.take_append_drop _ _).symm
      rw [tk, List.flatMap_append, List.length_append] at hfull
      simp only [List.flatMap_cons, List.flatMap_nil, List.append_nil, List.length_map] at hfull
      obtain ⟨hgo, hy⟩ := (wk i f _ G3 H' e3 w3).2 x hx
      refine ⟨hgo, fun H5 => ∃ G5, Ex G2 G5 ∧ W M f ((D, (items.take (i + 1)).flatMap fun x => (items2 x).map (val x)) :: L') G5 H5, fun H5 ⟨G5, e5, w5⟩ => ⟨m - 1, by omega, by omega, G5, e5, w5⟩, fun v H4 hv => ?_⟩
      obtain ⟨G4, e4, w4, d4⟩ := hy v H4 hv
      have sl4 : Sl G4 (L2.wipe σ vs) (wipeD ds vs) := (((sl.mono e2).mono e3).mono e4).wipe vs
      refine tg x hm f _ G4 H4 _ _ v w4 sl4 d4 _ fun σ2 sl2 hw => ⟨(hw vs (L2.wipe σ vs) hj rfl).trans (wipe_wipe σ vs), ?_⟩
      have sb : ∀ acc, Sub L ((D, acc) :: L') := fun acc q hq => List.mem_cons_of_mem _ (s q hq)
      dsimp only [tYes]
      rw [if_pos rfl]
      refine hi1 x hm f _ (sb _) σ2 G4 H4 w4 sl2 _ fun J1 G5 H5 e5 w5 wk1 => ?_
      refine ⟨fun j k H' => j + k = (items2 x).length ∧ ∃ G6, Ex G5 G6 ∧ W M f ((D, ((items.take i).flatMap fun x => (items2 x).map (val x)) ++ ((items2 x).take j).map (val x)) :: L') G6 H', ⟨(items2 x).length, Nat.zero_add _, G5, Evl.Ex.refl _, by simpa using w5⟩, ?_⟩
      rintro j k H6 ⟨hjk, G6, e6, w6⟩
      by_cases hlt2 : j < (items2 x).length
      · right
        obtain ⟨y, hy2⟩ : ∃ y, (items2 x)[j]? = some y := ⟨(items2 x)[j], by simp [hlt2]⟩
        have hmy := List.mem_of_getElem? hy2
        have tk2 : (items2 x).take (j + 1) = (items2 x).take j ++ [y] := by
          obtain ⟨hi', e⟩ := List.getElem?_eq_some_iff.mp hy2
          rw [← e, List.take_append_getElem hi']
        obtain ⟨hgo1, hyy⟩ := (wk1 j f _ G6 H6 e6 w6).2 y hy2
        refine ⟨hgo1, fun H7 => ∃ G7, Ex G5 G7 ∧ W M f ((D, ((items.take i).flatMap fun x => (items2 x).map (val x)) ++ ((items2 x).take (j + 1)).map (val x)) :: L') G7 H7, fun H7 ⟨G7, e7, w7⟩ => ⟨k - 1, by omega, by omega, G7, e7, w7⟩, fun v2 H7 hv2 => ?_⟩
        obtain ⟨G7, e7, w7, d7⟩ := hyy v2 H7 hv2
        have sl7 : Sl G7 (L2.wipe σ2 vs1) (wipeD (F x (wipeD ds vs)) vs1) := (((sl2.mono e5).mono e6).mono e7).wipe vs1
        refine tg1 x hm y hmy f _ G7 H7 _ _ v2 w7 sl7 d7 _ fun σ3 sl3 hw3 => ⟨(hw3 vs1 (L2.wipe σ2 vs1) hj1 rfl).trans (wipe_wipe σ2 vs1), ?_⟩
        dsimp only
        rw [if_pos rfl]
        refine hs x hm y hmy f _ (sb _) σ3 G7 H7 w7 sl3 _ fun u G8 H8 e8 w8 d8 => ?_
        obtain ⟨xs, hxs, hxd⟩ := w8.own D _ List.mem_cons_self
        refine ⟨xs, hxs, Evl.sz_lt (by rw [hxd.length, List.length_append, List.length_map, List.length_take]; omega), G8, (e6.trans e7).trans e8, ?_⟩
        rw [tk2, List.map_append, ← List.append_assoc]
        exact w8.set (hxd.append (.cons d8 .nil))
      · left
        have hj2 : j = (items2 x).length := by omega
        refine ⟨(wk1 j f _ G6 H6 e6 w6).1 hj2, G6, ((e3.trans e4).trans e5).trans e6, ?_⟩
        subst hj2
        rw [List.take_length] at w6
        rw [tk, List.flatMap_append]
        simpa using w6
    · left
      have hi2 : i = items.length := by omega
      refine ⟨(wk i f _ G3 H' e3 w3).1 hi2, ?_⟩
      subst hi2
      rw [List.take_length] at w3
      obtain ⟨G4, e4, w4, d4⟩ := w3.freeze
      exact q _ G4 H' ((e2.trans e3).trans e4) w4 d4
end
end Kd
/-! Defs and their promises over data; statements. -/
namespace Kd
open PySem L2
open PyProof.Rows (envOfC)
/-! ### defs, where no repr is under way -/
structure FnG (P : Program) (w : World) (K : PySem.W.Frag) (mg : Str → Option Value) (base : Heap) (CX : CXT) (k : Nat) (f : Addr) (fd : FuncData) (ps : List Str) (sp : Sp) : Prop where
  len : ∀ vs H Q E, sp vs H Q E → vs.length = ps.length
  run : ∀ (A : Around) (outer : List Env) (s : Shared) (H : Hp) (us : List Value) (vs : List V) (Q : VK) (E : XK), A.guards = some [] → Room k A → Env0 P w K mg base A outer s H → BindsTo s fd ⟨us, []⟩ (ps.zip us) → Vals vs us → sp vs H Q E →
    codeAny (model P w) A (.call (.ref f) ⟨us, []⟩) (CR CX outer P w H s Q E) s
structure FunAt (K : PySem.W.Frag) (mg : Str → Option Value) (x : Str) (st : Stmt) (ps : List Str) (f : Addr) (fd : FuncData) : Prop where
  mg : mg x = some (.ref f)
  fn : Fun K x x st f fd
  bd : Binds K fd ps []
structure DefOk (P : Program) (w : World) (K : PySem.W.Frag) (mg : Str → Option Value) (base : Heap) (x : Str) (k : Nat) (ps : List Str) (sp : Sp) : Prop where
  ex : ∃ f fd, mg x = some (.ref f) ∧ PySem.W.keepIn K (.ref f) = true ∧ Binds K fd ps [] ∧ FnG P w K mg base CX0 k f fd ps sp
section
variable {P : Program} {w : World} {K : PySem.W.Frag} {mg : Str → Option Value} {base : Heap} {CX : CXT} {k : Nat} {f : Addr} {fd : FuncData} {ps N : List Str} {sp : Sp} {x : Str} {st : Stmt}
theorem FnG.of {qual : Str} (F : Fun K x qual st f fd) (S : FnScope N ps (defScope st)) (len : ∀ vs H Q E, sp vs H Q E → vs.length = ps.length)
    (hbody : ∀ (cdv : Value) (A : Around) (outer : List Env) (s : Shared) (H : Hp) (vs : List V) (Q : VK) (E : XK), A.guards = some [] → Room k (A.deeper (envOfC qual (defScope st) s.heap.objs.size f cdv)) → (A.deeper (envOfC qual (defScope st) s.heap.objs.size f cdv)).handled = none → sp vs H Q E →
      ∃ t, PSs (cxOf CX P w K mg base N qual (defScope st) f cdv A outer s H E) (defBody st) t ∧ t { nx := fun _ H' => Q .non H', rt := Q } (start N vs) H) : FnG P w K mg base CX (k + 1) f fd ps sp := by
  obtain ⟨oc, od, kV, doc, pm, an, cdv, ct, osl, rfl, lk, hcd⟩ := F.ex
  refine ⟨len, fun A outer s H us vs Q E hg hr e0 hb r hsp => ?_⟩
  have hl := len _ _ _ _ hsp
  refine StX.run_bnd lk hcd S hr e0 (G := fun vs' H2 => vs' = vs ∧ H2 = H) (fun A' Ex Q' h => hb _ _ _ _ (h s H vs us e0 Un.refl rfl (fun _ _ z => z) r hl ⟨rfl, rfl⟩)) fun s2 H2 vs' he hr' => ?_
  obtain ⟨rfl, rfl⟩ := he
  exact hbody cdv A outer s2 _ _ Q E hg hr' hr'.hd hsp
theorem FnG.mono {j : Nat} (F : FnG P w K mg base CX j f fd ps sp) (h : j ≤ k) : FnG P w K mg base CX k f fd ps sp := ⟨F.len, fun A outer s H us vs Q E hg hr => F.run A outer s H us vs Q E hg (hr.mono h)⟩
theorem DefOk.of (F : FunAt K mg x st ps f fd) (S : FnScope N ps (defScope st)) (len : ∀ vs H Q E, sp vs H Q E → vs.length = ps.length)
    (hbody : ∀ (cdv : Value) (A : Around) (outer : List Env) (s : Shared) (H : Hp) (vs : List V) (Q : VK) (E : XK), A.guards = some [] → Room k (A.deeper (envOfC x (defScope st) s.heap.objs.size f cdv)) → sp vs H Q E →
      ∃ t, PSs (cxOf CX0 P w K mg base N x (defScope st) f cdv A outer s H E).nox (defBody st) t ∧ t { nx := fun _ H' => Q .non H', rt := Q } (start N vs) H) : DefOk P w K mg base x (k + 1) ps sp :=
  ⟨f, fd, F.mg, F.fn.kp, F.bd, FnG.of F.fn S len fun cdv A outer s H vs Q E hg hr _ hsp => by
    obtain ⟨t, ht, q⟩ := hbody cdv A outer s H vs Q E hg hr hsp
    exact ⟨t, ht.nox, q⟩⟩
end
section
variable {X : Cx} {CX : CXT} {k : Nat} {f : Addr} {fd : FuncData} {ps : List Str} {sp : Sp} {E : XK} {x : Str} {p pos : Pos} {e : Expr} {es : List Expr} {t : TA}
theorem run_fnG {pins : List (Addr × Obj)} {σ : L2.St} {H : Hp} {s : Shared} {Q : VK} {us : List Value} {vs : List V} (F : FnG X.prog X.w X.K X.mg X.base CX k f fd ps sp) (hg : X.A.guards = some []) (hr : Room k X.A) (hb : Binds X.K fd ps []) (hx : Passes CX X E)
    (I : Inv X pins σ H s) (r : Vals vs us) (h : sp vs H Q E) : wpAny (model X.prog X.w) X.A (call (.ref f) us) (EP X pins σ Q) X.xe s := by
  have hl : us.length = ps.length := by rw [← r.length]; exact F.len _ _ _ _ h
  have hb2 : BindsTo s fd ⟨us, []⟩ (ps.zip us) := by
    have z := hb s us I.kIn (by simpa using hl)
    simpa using z
  refine wpAny_call (codeAny_mono (F.run X.A X.stack s H us vs Q E hg hr I.env0 hb2 r h) fun rr s' hq => ?_)
  cases rr with
  | error er => exact hx pins σ H s er s' I hq
  | ok fl =>
    cases fl with
    | ret u => exact I.after hq
    | _ => exact False.elim hq
theorem pe_callD (D : DefOk X.prog X.w X.K X.mg X.base x k ps sp) (hg : X.A.guards = some []) (hr : Room k X.A) (hgl : Gl X x) (ha : PA X (e :: es) t) (hdb : (x == ("__debug__" : Str)) = false := by decide)
    (he : starEach (e :: es) X.env = (false, eval e X.env) :: starEach es X.env := by rfl) (hpl : (backTo pos (starEach es X.env)).any (·.1) = false := by rfl) : PE X (.Call (.Name x p) (e :: es) [] pos) (tCall sp [] E0 t) := by
  obtain ⟨f, fd, hm, hk, hb, F⟩ := D.ex
  refine ⟨fun pins s σ H Q I h => wpAny_Call_Name_kw (ld_glob I hgl hm ?_ hdb)⟩
  refine PySem.W.callWith_K (h₀ := X.base) I.ok.mod.kin hk (thn (ha.run pos pins s σ H _ I h) fun us s1 ⟨vs, H1, I1, r, q⟩ => ⟨I1.kIn, ?_⟩) he hpl
  have q' : sp (vs ++ []) H1 Q E0 := q
  rw [List.append_nil] at q'
  exact run_fnG F hg hr hb pass0 I1 r q'
theorem pe_callD0 (D : DefOk X.prog X.w X.K X.mg X.base x k ps sp) (hg : X.A.guards = some []) (hr : Room k X.A) (hgl : Gl X x) (hdb : (x == ("__debug__" : Str)) = false := by decide) : PE X (.Call (.Name x p) [] [] pos) (tCall sp [] E0 tNil) := by
  obtain ⟨f, fd, hm, hk, hb, F⟩ := D.ex
  exact ⟨fun pins s σ H Q I h => wpAny_Call_Name_kw (ld_glob I hgl hm (PySem.W.callWith_K0 I.kIn hk (run_fnG (us := []) F hg hr hb pass0 I .nil h)) hdb)⟩
end

/-! ### promises over data -/
def spD (pre : List PyData → PyData → Prop) : Sp := fun vs H Q _ => ∃ M f L G ds r, W M f L G H ∧ DvAll G vs ds ∧ pre ds r ∧ ∀ v G2 H2, Ex G G2 → W M f L G2 H2 → Dv G2 v r → Q v H2
/-- the first argument the drawn numbers; c: how many are drawn at most -/
def spM (c : Nat) (inp : List PyData → Prop) (out : List PyData → PyData → Prop) : Sp := fun vs H Q _ => ∃ (m : MD) (T : List (Addr × Str)) (f : Nat) (L : Own) (G : Hp) (ws : List V) (ds : List PyData), vs = .ref m.d :: ws ∧ W ⟨some m, T⟩ (f + c) L G H ∧ DvAll G ws ds ∧ inp ds ∧
  ∀ v r G2 H2, out ds r → Ex G G2 → W ⟨some m, T⟩ f L G2 H2 → Dv G2 v r → Q v H2
section
variable {bw : Bool} {K : PySem.W.Frag} {M : MS} {L : Own} {ds : DS} {te ta tb tc : TE} {tt tu : TT} {tA tB' : TA} {x y z d r : PyData} {f f' f1 f2 : Nat} {es gs items : List PyData} {wi : TI} {g : TG} {pre : List PyData → PyData → Prop} {E : XK}
theorem ev_call (h : EvA M L tA ds es) (hp : pre es r) : EvD M L (tCall (spD pre) [] E tA) ds r := fun f L' s σ G H w sl Q q =>
  h f L' s σ G H w sl _ fun vs G2 H2 e2 w2 d2 => ⟨M, f, L', G2, es, r, w2, by rw [List.append_nil]; exact d2, hp, fun v G3 H3 e3 w3 d3 => q v G3 H3 (e2.trans e3) w3 d3⟩
theorem en_call {P : List PyData → Prop} {T : PyData → Prop} (h : EvAN M L tA ds f f' P) (hp : ∀ es, P es → ∃ r, pre es r ∧ T r) : EvN M L (tCall (spD pre) [] E tA) ds f f' T := fun L' s σ G H w sl Q q =>
  h L' s σ G H w sl _ fun vs es G2 H2 e2 w2 p2 d2 => by
    obtain ⟨r, hr, ht⟩ := hp es p2
    exact ⟨M, f', L', G2, es, r, w2, by rw [List.append_nil]; exact d2, hr, fun v G3 H3 e3 w3 d3 => q v r G3 H3 (e2.trans e3) w3 ht d3⟩
theorem en_callM {m : MD} {T' : List (Addr × Str)} {i c : Nat} {inp : List PyData → Prop} {out : List PyData → PyData → Prop} {P : List PyData → Prop} {T : PyData → Prop} (hm : ds[i]? = some (some (.raw (.ref m.d)))) (h : EvAN ⟨some m, T'⟩ L tA ds f (f' + c) P) (hp : ∀ es, P es → inp es ∧ ∀ r, out es r → T r) :
    EvN ⟨some m, T'⟩ L (tCall (spM c inp out) [] E (tCons (tVar i) tA)) ds f f' T := fun L' s σ G H w sl Q q => by
  obtain ⟨u, h1, h2⟩ := sl.at_ i _ hm
  have e : u = .ref m.d := h2
  subst e
  refine ⟨_, h1, h L' s σ G H w sl _ fun vs es G2 H2 e2 w2 p2 d2 => ?_⟩
  obtain ⟨hi, ho⟩ := hp es p2
  exact ⟨m, T', f', L', G2, vs, es, by rw [List.append_nil], w2, d2, hi, fun v r G3 H3 hr e3 w3 d3 => q v r G3 H3 (e2.trans e3) w3 (ho r hr) d3⟩

/-! ### a new list that stays ours -/
def EvF (M : MS) (L : Own) (te : TE) (ds : DS) (es : List PyData) : Prop :=
  ∀ f L', Sub L L' → ∀ σ G H, W M f L' G H → Sl G σ ds → ∀ Q : VK, (∀ p G2 H2, Ex G G2 → W M f ((p, es) :: L') G2 H2 → Q (.ref p) H2) → te σ H Q
theorem ef_lst (h : EvA M L tA ds es) (hl : es.length ≤ 100000 := by first | decide | (simp only [List.length_cons, List.length_nil]; omega)) : EvF M L (tLst tA) ds es := fun f L' s σ G H w sl Q q =>
  h f L' s σ G H w sl _ fun vs G2 H2 e2 w2 d2 => ⟨sz_le (by rw [d2.length]; exact hl), fun p hp => q p G2 _ e2 (w2.newL hp d2)⟩
theorem ef_rep {k : Int} (ha : EvR M L ta ds (.list es)) (hb : EvD M L tb ds (.int k)) (h0 : -100000 ≤ k) (h1 : k ≤ 100000) (hl : es.length * k.toNat ≤ 100000) {r' : R2} : EvF M L (tOp (fun a b H Q => r' a b H Q ∨ rRep a b H Q) ta tb) ds (List.replicate k.toNat es).flatten := fun f L' s σ G H w sl Q q =>
  ha f L' s σ G H w sl _ fun u G2 H2 e2 w2 r2 => hb f L' s σ G2 H2 w2 (sl.mono e2) _ fun v G3 H3 e3 w3 d3 => by
    obtain ⟨p, xs, rfl, h4, h5⟩ := (r2.mono e3).list w3
    have e := d3.int'
    subst e
    exact .inr ⟨p, k, xs, rfl, rfl, h4, by omega, by omega, sz_le (by rw [h5.length]; exact hl), fun l hl => q l G3 _ (e2.trans e3) (w3.newL hl (h5.rep _))⟩
theorem ef_listRg1 {n : Int} (h : EvD M L ta ds (.int n)) (h0 : 0 ≤ n) (h1 : n ≤ 100000) : EvF M L (tLstRg (tRg1 ta)) ds (rngD 0 n) := fun f L' s σ G H w sl Q q =>
  h f L' s σ G H w sl _ fun u G2 H2 e2 w2 d2 => by
    have e := d2.int'
    subst e
    exact ⟨n, rfl, RgOk.of_le (by omega) (by omega) (by omega) (by omega), fun p hp => q p G2 _ e2 (w2.newL hp (rngD_dv 0 n))⟩
/-- [.. for x in ..], nothing drawn, no test -/
theorem ef_lcAll {js vs : List Nat} {F : PyData → DS → DS} (val : PyData → PyData) (hi : EvI bw M L wi ds items) (hj : ∀ j ∈ js, j ∈ vs) (tg : ∀ x ∈ items, TgD bw M g js x (F x)) (hl : items.length ≤ 40000)
    (hs : ∀ x ∈ items, EvD M L te (F x (wipeD ds vs)) (val x)) : EvF M L (tLc wi g tYes te vs) ds (items.map val) := fun f L' s σ G H w sl Q q =>
  hi f L' s σ G H w sl _ fun J G2 H2 e2 w2 wk => fun D hD => by
    refine ⟨fun i m H' => i + m = items.length ∧ ∃ G3, Ex G2 G3 ∧ W M f ((D, (items.take i).map val) :: L') G3 H', ⟨items.length, Nat.zero_add _, G2, Evl.Ex.refl _, w2.newL hD .nil⟩, ?_⟩
    rintro i m H' ⟨him, G3, e3, w3⟩
    by_cases hlt : i < items.length
    · right
      obtain ⟨x, hx⟩ : ∃ x, items[i]? = some x := ⟨items[i], by simp [hlt]⟩
      have hm := List.mem_of_getElem? hx
      have tk : items.take (i + 1) = items.take i ++ [x] := by
        obtain ⟨hi', e⟩ := List.getElem?_eq_some_iff.mp hx
        rw [← e, List.take_append_getElem hi']
      obtain ⟨hgo, hy⟩ := (wk i f _ G3 H' e3 w3).2 x hx
      refine ⟨hgo, fun H5 => ∃ G5, Ex G2 G5 ∧ W M f ((D, (items.take (i + 1)).map val) :: L') G5 H5, fun H5 ⟨G5, e5, w5⟩ => ⟨m - 1, by omega, by omega, G5, e5, w5⟩, fun v H4 hv => ?_⟩
      obtain ⟨G4, e4, w4, d4⟩ := hy v H4 hv
      have sl4 : Sl G4 (L2.wipe σ vs) (wipeD ds vs) := (((sl.mono e2).mono e3).mono e4).wipe vs
      refine tg x hm f _ G4 H4 _ _ v w4 sl4 d4 _ fun σ2 sl2 hw => ⟨(hw vs (L2.wipe σ vs) hj rfl).trans (wipe_wipe σ vs), ?_⟩
      dsimp only [tYes]
      rw [if_pos rfl]
      refine hs x hm f _ (fun q hq => List.mem_cons_of_mem _ (s q hq)) σ2 G4 H4 w4 sl2 _ fun u G8 H8 e8 w8 d8 => ?_
      obtain ⟨xs, hxs, hxd⟩ := w8.own D _ List.mem_cons_self
      refine ⟨xs, hxs, Evl.sz_lt (by rw [hxd.length, List.length_map, List.length_take]; omega), G8, (e3.trans e4).trans e8, ?_⟩
      rw [tk, List.map_append]
      exact w8.set (hxd.append (.cons d8 .nil))
    · left
      have hi2 : i = items.length := by omega
      refine ⟨(wk i f _ G3 H' e3 w3).1 hi2, ?_⟩
      subst hi2
      rw [List.take_length] at w3
      exact q D G3 H' (e2.trans e3) w3
end

/-! ### statements -/
def Go (M : MS) (G0 : Hp) (D : Ends) (t : TS) (f : Nat) (L : Own) (ds : DS) : Prop := ∀ σ G H, Ex G0 G → W M f L G H → Sl G σ ds → t D σ H
def Nx (M : MS) (G0 : Hp) (D : Ends) (f : Nat) (L : Own) (ds : DS) : Prop := ∀ σ G H, Ex G0 G → W M f L G H → Sl G σ ds → D.nx σ H
/-- what is returned; f, L as the caller has them -/
def RtOk (M : MS) (G0 : Hp) (D : Ends) (f : Nat) (L : Own) (R : PyData → Prop) : Prop := ∀ v d G H, R d → Ex G0 G → W M f L G H → Dv G v d → D.rt v H
section
variable {bw : Bool} {K : PySem.W.Frag} {M : MS} {G0 : Hp} {D : Ends} {L : Own} {ds : DS} {te ta tb tc : TE} {tt : TT} {tA : TA} {t u : TS} {x y z d r : PyData} {f f' f1 f2 : Nat} {es gs items : List PyData} {wi : TI} {g : TG} {P R : PyData → Prop} {p : Addr}
theorem RtOk.drop {q : Addr × List PyData} (h : RtOk M G0 D f L R) : RtOk M G0 D f (q :: L) R := fun v d G H hr e w dv => h v d G H hr e (by cases q; exact w.drop) dv
theorem RtOk.less (h : RtOk M G0 D f L R) (l : f ≤ f') : RtOk M G0 D f' L R := fun v d G H hr e w dv => h v d G H hr e (w.less l) dv
theorem RtOk.imp {R' : PyData → Prop} (h : RtOk M G0 D f L R) (i : ∀ d, R' d → R d) : RtOk M G0 D f L R' := fun v d G H hr e w dv => h v d G H (i d hr) e w dv
theorem RtOk.nx {N' : L2.St → Hp → Prop} (h : RtOk M G0 D f L R) : RtOk M G0 { D with nx := N' } f L R := h
theorem RtOk.loop {N1 N2 N3 : L2.St → Hp → Prop} (h : RtOk M G0 D f L R) : RtOk M G0 { D with nx := N1, ct := N2, bk := N3 } f L R := h
theorem Go.less (h : Go M G0 D t f L ds) (l : f ≤ f') : Go M G0 D t f' L ds := fun σ G H e w sl => h σ G H e (w.less l) sl
theorem Nx.less (h : Nx M G0 D f L ds) (l : f ≤ f') : Nx M G0 D f' L ds := fun σ G H e w sl => h σ G H e (w.less l) sl
theorem Nx.drop {q : Addr × List PyData} (h : Nx M G0 D f L ds) : Nx M G0 D f (q :: L) ds := fun σ G H e w sl => h σ G H e (by cases q; exact w.drop) sl
theorem go_seq (h : Go M G0 { D with nx := u D } t f L ds) : Go M G0 D (tSeq t u) f L ds := h
theorem nx_go (h : Go M G0 D u f L ds) : Nx M G0 { D with nx := u D } f L ds := h
theorem go_next (h : Nx M G0 D f L ds) : Go M G0 D tNext f L ds := h
theorem go_asg {i : Nat} (h : EvD M L te ds d) (k : Nx M G0 D f L (ds.set i (some (.dat d)))) : Go M G0 D (tAsg te (gName i)) f L ds := fun σ G H e w sl =>
  h f L (Sub.refl L) σ G H w sl _ fun v G2 H2 e2 w2 d2 => k _ G2 H2 (e.trans e2) w2 ((sl.mono e2).set i (sd := .dat d) d2)
theorem q_asg {i : Nat} (h : EvD M L te ds d) (k : Go M G0 D u f L (ds.set i (some (.dat d)))) : Go M G0 D (tSeq (tAsg te (gName i)) u) f L ds := go_asg (D := { D with nx := u D }) h k
theorem go_asgN {i : Nat} (h : EvN M L te ds f f' P) (k : ∀ d, P d → Nx M G0 D f' L (ds.set i (some (.dat d)))) : Go M G0 D (tAsg te (gName i)) f L ds := fun σ G H e w sl =>
  h L (Sub.refl L) σ G H w sl _ fun v d G2 H2 e2 w2 p d2 => k d p _ G2 H2 (e.trans e2) w2 ((sl.mono e2).set i (sd := .dat d) d2)
theorem q_asgN {i : Nat} (h : EvN M L te ds f f' P) (k : ∀ d, P d → Go M G0 D u f' L (ds.set i (some (.dat d)))) : Go M G0 D (tSeq (tAsg te (gName i)) u) f L ds := go_asgN (D := { D with nx := u D }) h k
theorem go_asgF {i : Nat} (h : EvF M L te ds es) (k : ∀ p, Nx M G0 D f ((p, es) :: L) (ds.set i (some (.raw (.ref p))))) : Go M G0 D (tAsg te (gName i)) f L ds := fun σ G H e w sl =>
  h f L (Sub.refl L) σ G H w sl _ fun p G2 H2 e2 w2 => k p _ G2 H2 (e.trans e2) w2 ((sl.mono e2).set i (sd := .raw (.ref p)) rfl)
theorem q_asgF {i : Nat} (h : EvF M L te ds es) (k : ∀ p, Go M G0 D u f ((p, es) :: L) (ds.set i (some (.raw (.ref p))))) : Go M G0 D (tSeq (tAsg te (gName i)) u) f L ds := go_asgF (D := { D with nx := u D }) h k
theorem go_ret (h : EvD M L te ds d) (k : RtOk M G0 D f L R) (hr : R d) : Go M G0 D (tRet te) f L ds := fun σ G H e w sl =>
  h f L (Sub.refl L) σ G H w sl _ fun v G2 H2 e2 w2 d2 => k v d G2 H2 hr (e.trans e2) w2 d2
theorem go_retN (h : EvN M L te ds f f' P) (k : RtOk M G0 D f' L R) (hr : ∀ d, P d → R d) : Go M G0 D (tRet te) f L ds := fun σ G H e w sl =>
  h L (Sub.refl L) σ G H w sl _ fun v d G2 H2 e2 w2 p d2 => k v d G2 H2 (hr d p) (e.trans e2) w2 d2
/-- return xs, an owned list -/
theorem go_retO {i : Nat} (h : ds[i]? = some (some (.raw (.ref p)))) (k : RtOk M G0 D f L R) (hr : R (.list es)) : Go M G0 D (tRet (tVar i)) f ((p, es) :: L) ds := fun σ G H e w sl => by
  obtain ⟨v, h1, h2⟩ := sl.at_ i _ h
  have e' : v = .ref p := h2
  subst e'
  obtain ⟨G2, e2, w2, d2⟩ := w.freeze
  exact ⟨_, h1, k _ _ G2 H hr (e.trans e2) w2 d2⟩
theorem go_retNone (k : RtOk M G0 D f L R) (hr : R .none) : Go M G0 D tRetN f L ds := fun σ G H e w sl => k _ _ G H hr e w .non
theorem go_if {b : Bool} (h : EvB M L tt ds b) (h1 : b = true → Go M G0 D t f L ds) (h2 : b = false → Go M G0 D u f L ds) : Go M G0 D (tIfS tt t u) f L ds := fun σ G H e w sl =>
  h f L (Sub.refl L) σ G H w sl _ fun G2 H2 e2 w2 => by
    cases b with
    | true => rw [if_pos rfl]; exact h1 rfl σ G2 H2 (e.trans e2) w2 (sl.mono e2)
    | false => rw [if_neg Bool.false_ne_true]; exact h2 rfl σ G2 H2 (e.trans e2) w2 (sl.mono e2)
/-- if without else, something behind -/
theorem q_if {b : Bool} {v : TS} (h : EvB M L tt ds b) (h1 : b = true → Go M G0 { D with nx := v D } t f L ds) (h2 : b = false → Go M G0 D v f L ds) : Go M G0 D (tSeq (tIfS tt t tNext) v) f L ds :=
  go_if (D := { D with nx := v D }) h h1 h2
/-- a test that is known to fail -/
theorem q_skip {v : TS} (h : EvB M L tt ds false) (h2 : Go M G0 D v f L ds) : Go M G0 D (tSeq (tIfS tt t tNext) v) f L ds :=
  q_if h (fun e => Bool.noConfusion e) fun _ => h2
theorem go_skip (h : EvB M L tt ds false) (h2 : Nx M G0 D f L ds) : Go M G0 D (tIfS tt t tNext) f L ds :=
  go_if h (fun e => Bool.noConfusion e) fun _ => h2
theorem go_drop (h : EvD M L te ds d) (k : Nx M G0 D f L ds) : Go M G0 D (tDrop te) f L ds := fun σ G H e w sl =>
  h f L (Sub.refl L) σ G H w sl _ fun v G2 H2 e2 w2 d2 => k _ G2 H2 (e.trans e2) w2 (sl.mono e2)
theorem q_drop (h : EvD M L te ds d) (k : Go M G0 D u f L ds) : Go M G0 D (tSeq (tDrop te) u) f L ds := go_drop (D := { D with nx := u D }) h k
/-- xs.append(e) -/
theorem go_app {i : Nat} (hi : ds[i]? = some (some (.raw (.ref p)))) (h : EvD M ((p, es) :: L) te ds d) (hl : es.length < 50000) (k : Nx M G0 D f ((p, es ++ [d]) :: L) ds) : Go M G0 D (tDrop (tBM K "list" rAppend (tVar i) (tCons te tNil))) f ((p, es) :: L) ds := fun σ G H e w sl => by
  obtain ⟨v, h1, h2⟩ := sl.at_ i _ hi
  have e' : v = .ref p := h2
  subst e'
  obtain ⟨xs, hx, _⟩ := w.own p es List.mem_cons_self
  refine ⟨_, h1, .inl ⟨rfl, xs, SqL.of hx⟩, h f _ (Sub.refl _) σ G H w sl _ fun v G2 H2 e2 w2 d2 => ?_⟩
  obtain ⟨ys, hy, hyd⟩ := w2.own p es List.mem_cons_self
  exact ⟨p, ys, v, rfl, rfl, hy, Evl.sz_lt (by rw [hyd.length]; omega), k σ G2 _ (e.trans e2) (w2.set (hyd.append (.cons d2 .nil))) (sl.mono e2)⟩
theorem q_app {i : Nat} (hi : ds[i]? = some (some (.raw (.ref p)))) (h : EvD M ((p, es) :: L) te ds d) (hl : es.length < 50000) (k : Go M G0 D u f ((p, es ++ [d]) :: L) ds) : Go M G0 D (tSeq (tDrop (tBM K "list" rAppend (tVar i) (tCons te tNil))) u) f ((p, es) :: L) ds :=
  go_app (D := { D with nx := u D }) hi h hl k
/-- xs[j] = e -/
theorem go_set {i j : Nat} (hi : ds[i]? = some (some (.raw (.ref p)))) (h : EvD M ((p, es) :: L) te ds d) (hj : EvD M ((p, es) :: L) tb ds (.int (j : Nat))) (hl : j < es.length) (k : Nx M G0 D f ((p, es.set j d) :: L) ds) : Go M G0 D (tAsg te (gSub (tVar i) tb rSetL)) f ((p, es) :: L) ds := fun σ G H e w sl =>
  h f _ (Sub.refl _) σ G H w sl _ fun v G2 H2 e2 w2 d2 => by
    obtain ⟨u, h1, h2⟩ := (sl.mono e2).at_ i _ hi
    have e' : u = .ref p := h2
    subst e'
    refine ⟨_, h1, hj f _ (Sub.refl _) σ G2 H2 w2 (sl.mono e2) _ fun v2 G3 H3 e3 w3 d3 => ?_⟩
    have e4 := d3.int'
    subst e4
    obtain ⟨ys, hy, hyd⟩ := w3.own p es List.mem_cons_self
    exact ⟨p, ys, (j : Int), j, rfl, rfl, hy, Evl.ixN_nat (by rw [hyd.length]; exact hl), k σ G3 _ ((e.trans e2).trans e3) (w3.set (hyd.set j (Dv.mono e3 _ _ d2))) ((sl.mono e2).mono e3)⟩
/-- for: the word Iv by the turn, the drawn numbers left, what is owned, the slots -/
def IvP (M : MS) (G0 : Hp) (Iv : Nat → Nat → Own → DS → Prop) (i : Nat) : L2.St → Hp → Prop := fun σ H => ∃ G f L ds, Ex G0 G ∧ W M f L G H ∧ Sl G σ ds ∧ Iv i f L ds
theorem nx_iv {Iv : Nat → Nat → Own → DS → Prop} {i : Nat} {N2 N3 : L2.St → Hp → Prop} (h : Iv i f L ds) : Nx M G0 { D with nx := IvP M G0 Iv i, ct := N2, bk := N3 } f L ds := fun σ G H e w sl => ⟨G, f, L, ds, e, w, sl, h⟩
theorem go_for {js : List Nat} {F : PyData → DS → DS} (hi : EvI bw M L wi ds items) (tg : ∀ x ∈ items, TgD bw M g js x (F x)) (Iv : Nat → Nat → Own → DS → Prop) (h0 : Iv 0 f L ds)
    (hs : ∀ G1, Ex G0 G1 → ∀ i x f1 L1 ds1, items[i]? = some x → Iv i f1 L1 ds1 → Go M G1 { D with nx := IvP M G1 Iv (i + 1), ct := IvP M G1 Iv (i + 1), bk := D.nx } t f1 L1 (F x ds1))
    (hd : ∀ f1 L1 ds1, Iv items.length f1 L1 ds1 → Nx M G0 D f1 L1 ds1) : Go M G0 D (tFor wi g t) f L ds := fun σ G H e w sl =>
  hi f L (Sub.refl L) σ G H w sl _ fun J G2 H2 e2 w2 wk => by
    refine ⟨fun i m σ H => i + m = items.length ∧ IvP M G2 Iv i σ H, ⟨items.length, Nat.zero_add _, G2, f, L, ds, Evl.Ex.refl _, w2, sl.mono e2, h0⟩, ?_⟩
    rintro i m σ' H' ⟨him, G3, f1, L1, ds1, e3, w3, sl3, iv⟩
    by_cases hlt : i < items.length
    · right
      obtain ⟨x, hx⟩ : ∃ x, items[i]? = some x := ⟨items[i], by simp [hlt]⟩
      obtain ⟨hgo, hy⟩ := (wk i f1 L1 G3 H' e3 w3).2 x hx
      refine ⟨hgo, IvP M G2 Iv (i + 1), fun σ H q => ⟨m - 1, by omega, by omega, q⟩, fun v H4 hv => ?_⟩
      obtain ⟨G4, e4, w4, d4⟩ := hy v H4 hv
      exact tg x (List.mem_of_getElem? hx) f1 L1 G4 H4 σ' ds1 v w4 (sl3.mono e4) d4 _ fun σ2 sl2 _ => hs G2 (e.trans e2) i x f1 L1 ds1 hx iv σ2 G4 H4 (e3.trans e4) w4 sl2
    · left
      have hi2 : i = items.length := by omega
      subst hi2
      exact ⟨(wk _ f1 L1 G3 H' e3 w3).1 rfl, hd f1 L1 ds1 iv σ' G3 H' ((e.trans e2).trans e3) w3 sl3⟩
theorem RtOk.up {G1 : Hp} (h : RtOk M G0 D f L R) (e : Ex G0 G1) : RtOk M G1 D f L R := fun v d G H hr e1 w dv => h v d G H hr (e.trans e1) w dv
theorem Nx.up {G1 : Hp} (h : Nx M G0 D f L ds) (e : Ex G0 G1) : Nx M G1 D f L ds := fun σ G H e1 w sl => h σ G H (e.trans e1) w sl
theorem Go.up {G1 : Hp} (h : Go M G0 D t f L ds) (e : Ex G0 G1) : Go M G1 D t f L ds := fun σ G H e1 w sl => h σ G H (e.trans e1) w sl
end
end Kd
/-! Rules that serve several kinds of values; further rules. -/
namespace Kd
open PySem PySem.Spec PyProof.Rows L2
abbrev rAddI : R2 := rI0 fun i j => .int (i + j)
abbrev rMulI : R2 := rI CMul fun i j => .int (i * j)
def rAddG (K : PySem.W.Frag) : R2 := fun a b H Q => rAddI a b H Q ∨ (fun a b H Q => rCat a b H Q ∨ rCatX K a b H Q) a b H Q
/-- * : the list last (ef_rep) -/
def rMulG (K : PySem.W.Frag) : R2 := fun a b H Q => (fun a b H Q => rMulI a b H Q ∨ rRepX K a b H Q) a b H Q ∨ rRep a b H Q
def rIxG (K : PySem.W.Frag) : R2 := fun a b H Q => rIxL K a b H Q ∨ rIxT K a b H Q
abbrev rLtI : R2 := rI0 fun i j => .bl (decide (i < j))
def rLtG (K : PySem.W.Frag) : R2 := fun a b H Q => rLtI a b H Q ∨ rLtT K a b H Q
section
variable {X : Cx}
theorem op_addG : OpR X (binaryOp .Add) (rAddG X.K) := OpR.or op_add (OpR.or op_cat op_catX)
theorem op_mulG : OpR X (binaryOp .Mult) (rMulG X.K) := OpR.or (OpR.or op_mul op_repX) op_rep
theorem ix_G : IxR X (rIxG X.K) := IxR.or ix_list ix_tup
theorem op_ltG (hu : X.A.units < cLine) : OpR X (compareOp .Lt) (rLtG X.K) := OpR.or op_lt (op_ltT hu)
/-- a module's constant that is a text -/
theorem pe_cst {x z : Str} {pos : Pos} (hg : Gl X x) (h : ∃ t, X.mg x = some (.str z t)) (hd : (x == ("__debug__" : Str)) = false := by decide) : PE X (.Name x pos) (tC (.str z)) := by
  obtain ⟨t, h⟩ := h
  exact pe_glob hg h ⟨t, rfl⟩ hd
theorem pe_csti {x : Str} {i : Int} {pos : Pos} (hg : Gl X x) (h : ∃ t, X.mg x = some (.int i t)) (hd : (x == ("__debug__" : Str)) = false := by decide) : PE X (.Name x pos) (tC (.int i)) := by
  obtain ⟨t, h⟩ := h
  exact pe_glob hg h ⟨t, rfl⟩ hd
end
section
variable {K : PySem.W.Frag} {M : MS} {L : Own} {ds : DS} {te ta tb tc : TE} {x y z d r : PyData} {f f' f1 f2 : Nat} {es gs items : List PyData}
theorem ev_addI {i j : Int} (ha : EvR M L ta ds (.int i)) (hb : EvR M L tb ds (.int j)) : EvD M L (tOp (rAddG K) ta tb) ds (.int (i + j)) := ev_op ha hb (ROk.or1 ro_I0i)
theorem ev_addL (ha : EvR M L ta ds (.list es)) (hb : EvR M L tb ds (.list gs)) (hl : es.length + gs.length ≤ 100000) : EvD M L (tOp (rAddG K) ta tb) ds (.list (es ++ gs)) := ev_op ha hb (ROk.or2 (ROk.or1 (ro_cat hl)))
theorem ev_addT (ha : EvR M L ta ds (.tuple es)) (hb : EvR M L tb ds (.tuple gs)) (hl : es.length + gs.length ≤ 100000) : EvD M L (tOp (rAddG K) ta tb) ds (.tuple (es ++ gs)) := ev_op ha hb (ROk.or2 (ROk.or2 (ro_catT hl)))
theorem ev_sub {i j : Int} (ha : EvR M L ta ds (.int i)) (hb : EvR M L tb ds (.int j)) : EvD M L (tOp (rI0 fun i j => .int (i - j)) ta tb) ds (.int (i - j)) := ev_op ha hb ro_I0i
theorem ev_mulI {i j : Int} (ha : EvR M L ta ds (.int i)) (hb : EvR M L tb ds (.int j)) (hc : CMul i j) : EvD M L (tOp (rMulG K) ta tb) ds (.int (i * j)) := ev_op ha hb (ROk.or1 (ROk.or1 (ro_Ii hc)))
theorem ev_rep {k : Int} (ha : EvR M L ta ds (.list es)) (hb : EvR M L tb ds (.int k)) (h0 : -100000 ≤ k) (h1 : k ≤ 100000) (hl : es.length * k.toNat ≤ 100000) : EvD M L (tOp (rMulG K) ta tb) ds (.list (List.replicate k.toNat es).flatten) := ev_op ha hb (ROk.or2 (ro_rep h0 h1 hl))
theorem ev_mod {i j : Int} (ha : EvR M L ta ds (.int i)) (hb : EvR M L tb ds (.int j)) (hc : 0 < j) : EvD M L (tOp (rI (fun _ j => 0 < j) fun i j => .int (i % j)) ta tb) ds (.int (i % j)) := ev_op ha hb (ro_Ii hc)
theorem ev_fdiv {i j : Int} (ha : EvR M L ta ds (.int i)) (hb : EvR M L tb ds (.int j)) (hc : 0 < j ∧ j < 1073741824) : EvD M L (tOp (rI CDiv fun i j => .int (i / j)) ta tb) ds (.int (i / j)) := ev_op ha hb (ro_Ii hc)
theorem ev_pow {i j : Int} (ha : EvR M L ta ds (.int i)) (hb : EvR M L tb ds (.int j)) (hc : CPow i j) : EvD M L (tOp (rI CPow fun i j => .int (i ^ j.toNat)) ta tb) ds (.int (i ^ j.toNat)) := ev_op ha hb (ro_Ii hc)
theorem ev_shl {i j : Int} (ha : EvR M L ta ds (.int i)) (hb : EvR M L tb ds (.int j)) (hc : CPow i j) : EvD M L (tOp (rI CPow fun i j => .int (i * 2 ^ j.toNat)) ta tb) ds (.int (i * 2 ^ j.toNat)) := ev_op ha hb (ro_Ii hc)
theorem ev_neg {i : Int} (ha : EvD M L ta ds (.int i)) : EvD M L (tUn (rU fun i => .int (-i)) ta) ds (.int (-i)) := fun f L' s σ G H w sl Q q => ha f L' s σ G H w sl _ fun v G2 H2 e w2 d2 => by
  have e' := d2.int'
  subst e'
  exact ⟨i, rfl, q _ G2 H2 e w2 (.int _)⟩
theorem ev_ixL {i : Int} (ha : EvR M L ta ds (.list es)) (hb : EvR M L tb ds (.int i)) (hi : atI es i = some z) : EvD M L (tOp (rIxG K) ta tb) ds z := ev_op ha hb (ROk.or1 (ro_ixL hi))
theorem ev_ixT {i : Int} (ha : EvR M L ta ds (.tuple es)) (hb : EvR M L tb ds (.int i)) (hi : atI es i = some z) : EvD M L (tOp (rIxG K) ta tb) ds z := ev_op ha hb (ROk.or2 (ro_ixT hi))
theorem ev_eq {n m : Nat} (ha : EvR M L ta ds x) (hb : EvR M L tb ds y) (hx : Shp n x) (hy : Shp m y) (hn : n ≤ 64 := by decide) (hm : m ≤ 64 := by decide) : EvD M L (tOp (rEqD K) ta tb) ds (.bool (PyData.eqv x y)) := ev_op ha hb (ro_eq hx hy hn hm)
theorem ev_ne {n m : Nat} (ha : EvR M L ta ds x) (hb : EvR M L tb ds y) (hx : Shp n x) (hy : Shp m y) (hn : n ≤ 64 := by decide) (hm : m ≤ 64 := by decide) : EvD M L (tOp (rNeD K) ta tb) ds (.bool (!PyData.eqv x y)) := ev_op ha hb (ro_ne hx hy hn hm)
theorem ev_eqI {i j : Int} (ha : EvR M L ta ds (.int i)) (hb : EvR M L tb ds (.int j)) : EvD M L (tOp (rEqD K) ta tb) ds (.bool (decide (i = j))) := (ev_eq (n := 0) (m := 0) ha hb (.int _) (.int _)).is (by simp [PyData.eqv]; exact (Bool.beq_eq_decide_eq i j))
theorem ev_neI {i j : Int} (ha : EvR M L ta ds (.int i)) (hb : EvR M L tb ds (.int j)) : EvD M L (tOp (rNeD K) ta tb) ds (.bool (!decide (i = j))) := (ev_ne (n := 0) (m := 0) ha hb (.int _) (.int _)).is (by simp [PyData.eqv, Bool.beq_eq_decide_eq])
theorem ev_lt {i j : Int} (ha : EvR M L ta ds (.int i)) (hb : EvR M L tb ds (.int j)) : EvD M L (tOp (rLtG K) ta tb) ds (.bool (decide (i < j))) := ev_op ha hb (ROk.or1 ro_I0b)
theorem ev_ltT {ns ms : List Int} (ha : EvR M L ta ds (.tuple (ns.map .int))) (hb : EvR M L tb ds (.tuple (ms.map .int))) : EvD M L (tOp (rLtG K) ta tb) ds (.bool (HT.lexLt ns ms)) := ev_op ha hb (ROk.or2 ro_ltT)
theorem ev_gt {i j : Int} (ha : EvR M L ta ds (.int i)) (hb : EvR M L tb ds (.int j)) : EvD M L (tOp (rI0 fun i j => .bl (decide (j < i))) ta tb) ds (.bool (decide (j < i))) := ev_op ha hb (ro_I0b (g := fun i j => decide (j < i)))
theorem ev_ge {i j : Int} (ha : EvR M L ta ds (.int i)) (hb : EvR M L tb ds (.int j)) : EvD M L (tOp (rI0 fun i j => .bl (decide (j ≤ i))) ta tb) ds (.bool (decide (j ≤ i))) := ev_op ha hb (ro_I0b (g := fun i j => decide (j ≤ i)))
theorem ev_le {i j : Int} (ha : EvR M L ta ds (.int i)) (hb : EvR M L tb ds (.int j)) : EvD M L (tOp (rI0 fun i j => .bl (decide (i ≤ j))) ta tb) ds (.bool (decide (i ≤ j))) := ev_op ha hb ro_I0b
theorem ev_lenL (h : EvR M L te ds (.list es)) : EvD M L (tCB (rLenG K) (tCons te tNil)) ds (.int (es.length : Nat)) := ev_cb1 h c1_lenL
theorem ev_lenT (h : EvR M L te ds (.tuple es)) : EvD M L (tCB (rLenG K) (tCons te tNil)) ds (.int (es.length : Nat)) := ev_cb1 h c1_lenT
theorem ev_tupleL (h : EvR M L te ds (.list es)) : EvD M L (tCB (rTupleX K) (tCons te tNil)) ds (.tuple es) := ev_cb1 h c1_tuple
theorem ev_repT {k : Int} (ha : EvR M L ta ds (.tuple es)) (hb : EvR M L tb ds (.int k)) (h0 : 1 ≤ k) (h1 : k ≤ 1000) (hl : es.length ≤ 1000) (hne : es ≠ []) : EvD M L (tOp (rMulG K) ta tb) ds (.tuple (List.replicate k.toNat es).flatten) := ev_op ha hb (ROk.or1 (ROk.or2 (ro_repT h0 h1 hl hne)))
end
/-! ### what a def's proof takes -/
/-- the built-ins that are asked by their names -/
structure Bt (mg : Str → Option Value) : Prop where
  len : mg "len" = none
  range : mg "range" = none
  isinstance : mg "isinstance" = none
  int : mg "int" = none
  bool : mg "bool" = none
  tuple : mg "tuple" = none
  list : mg "list" = none
  str : mg "str" = none
  all : mg "all" = none
  any : mg "any" = none
  sorted : mg "sorted" = none
  set : mg "set" = none
  repr : mg "repr" = none
  min : mg "min" = none
  zip : mg "zip" = none
  enumerate : mg "enumerate" = none
section
variable {P : Program} {w : World} {K : PySem.W.Frag} {mg : Str → Option Value} {base : Heap} {k : Nat} {f : Addr} {fd : FuncData} {ps N : List Str} {x : Str} {st : Stmt} {pre : List PyData → PyData → Prop}
/-- a def without drawn numbers -/
theorem DefOk.pure (F : FunAt K mg x st ps f fd) (S : FnScope N ps (defScope st)) (hlen : ∀ ds r, pre ds r → ds.length = ps.length)
    (hbody : ∀ (cdv : Value) (A : Around) (outer : List Env) (s : Shared) (H : Hp) (E : XK), A.guards = some [] → Room k (A.deeper (envOfC x (defScope st) s.heap.objs.size f cdv)) →
      ∃ t, PSs (cxOf CX0 P w K mg base N x (defScope st) f cdv A outer s H E).nox (defBody st) t ∧ ∀ M fu L G0 D ds r, pre ds r → RtOk M G0 D fu L (· = r) → (r = .none → ∀ ds', Nx M G0 D fu L ds') → Go M G0 D t fu L (startD N ds)) : DefOk P w K mg base x (k + 1) ps (spD pre) :=
  DefOk.of F S (fun vs H Q E ⟨M, fu, L, G, ds, r, _, hv, hp, _⟩ => by rw [hv.length]; exact hlen ds r hp) fun cdv A outer s H vs Q E hg hr ⟨M, fu, L, G, ds, r, hw, hv, hp, hq⟩ => by
    obtain ⟨t, ht, hgo⟩ := hbody cdv A outer s H E hg hr
    refine ⟨t, ht, hgo M fu L G _ ds r hp (fun v d G2 H2 hd e w2 dv => ?_) (fun hn ds' σ G2 H2 e w2 sl => ?_) _ G H (Evl.Ex.refl G) hw (Sl.start hv)⟩
    · subst hd; exact hq v G2 H2 e w2 dv
    · subst hn; exact hq .non G2 H2 e w2 .non
end
end Kd
/-! Further rules: sorted of what is in order, repr, in. -/
namespace Kd
open PySem PySem.Spec PyProof.Rows L2
section
variable {X : Cx}
/-- sorted(xs), the list in order already: a new list of the same items -/
def rSortD (K : PySem.W.Frag) : List V → Hp → VK → Prop := fun us H Q => ∃ a vs ds, us = [.ref a] ∧ SqL K H a vs ∧ DpAll K H vs ds ∧ PySem.W.AllAlike ds ∧ PySem.W.Sortable ds ∧ (∀ d ∈ ds, d.depth ≤ 8) ∧ ds.Pairwise (fun a b => PySem.W.dataLe false id a b = true) ∧
  ∀ p, H p = none → Q (.ref p) (upd H p (.lst vs))
theorem zip_enc {vs : List V} {ds : List PyData} (h : vs.length = ds.length) : (vs.zip ds).map Prod.snd = ds := by rw [List.map_snd_zip]; omega
theorem dpAll_len {K : PySem.W.Frag} {H : Hp} : ∀ {vs : List V} {ds : List PyData}, DpAll K H vs ds → vs.length = ds.length
  | _, _, .nil => rfl
  | _, _, .cons _ t => by rw [List.length_cons, List.length_cons, dpAll_len t]
theorem each_zip {R : Value → PyData → Prop} : ∀ {us : List Value} {vs : List V} {ds : List PyData}, Vals vs us → PySem.W.EachIs R us ds → PySem.W.EachIs (fun u (b : V × PyData) => RelV b.1 u ∧ R u b.2) us (vs.zip ds)
  | _, _, _, .nil, h => by cases h; exact .nil
  | _, _, _, .cons r t, h => by
    cases h with
    | cons h1 h2 => exact .cons ⟨r, h1⟩ (each_zip t h2)
theorem vals_of_each {R : Value → V × PyData → Prop} (hR : ∀ u b, R u b → RelV b.1 u) : ∀ {us : List Value} {bs : List (V × PyData)}, PySem.W.EachIs R us bs → Vals (bs.map Prod.fst) us
  | _, _, .nil => .nil
  | _, _, .cons r t => .cons (hR _ _ r) (vals_of_each hR t)
theorem pair_zip : ∀ {vs : List V} {ds : List PyData}, vs.length = ds.length → ds.Pairwise (fun a b => PySem.W.dataLe false id a b = true) → (vs.zip ds).Pairwise (fun a b => PySem.W.dataLe false Prod.snd a b = true)
  | [], [], _, _ => .nil
  | v :: vs, d :: ds, hl, h => by
    obtain ⟨h1, h2⟩ := List.pairwise_cons.mp h
    rw [List.zip_cons_cons]
    refine List.pairwise_cons.mpr ⟨fun b hb => ?_, pair_zip (by simpa using hl) h2⟩
    exact h1 b.2 (List.of_mem_zip hb).2
  | [], _ :: _, hl, _ => by simp at hl
  | _ :: _, [], hl, _ => by simp at hl
theorem cr_sortedD {k : Nat} (hr : Room k X.A) : CallR X (.builtin "sorted") (rSortD X.K) := by
  intro pins s σ H us0 us Q I r h
  obtain ⟨a, vs, ds, rfl, hs, hd, hal, hso, hdp, hpw, q⟩ := h
  obtain ⟨its, rv, hl, hz⟩ := I.list hs
  obtain ⟨u, rfl, ru⟩ := vals1 r
  obtain rfl : u = Value.ref a := ru
  obtain ⟨as, hra⟩ := Dp.readsAll I ds vs its hd rv
  have hlen := dpAll_len hd
  have he : PySem.W.EachIs (fun v d => ∃ as, Reads s.heap v d as) its ds := PySem.W.readsAll_each (enc := id) (by rw [List.map_id]; exact hra)
  have hez := each_zip rv he
  have hm := zip_enc hlen
  refine PySem.W.sorted_data (bs := vs.zip ds) (enc := Prod.snd) hl.isList hez (hez.mono fun u b h => h.2) (by rw [hm]; exact hal) (by rw [hm]; exact hso) (by rw [List.length_zip, ← hlen, Nat.min_self]; exact hz) (fun b hb => ?_) fun out ho heo => ?_
  · have h8 := hdp b.2 (List.of_mem_zip hb).2
    have := hr.un
    omega
  · rw [List.mergeSort_of_pairwise (pair_zip hlen hpw)] at heo
    have hv : Vals ((vs.zip ds).map Prod.fst) out := vals_of_each (fun u b h => h.1) heo
    rw [List.map_fst_zip (by omega)] at hv
    obtain ⟨ep, he'⟩ := sortedAll_at s.heap its out.toArray
    exact ⟨.ref _, upd H (s.heap.objs.size + 1) (.lst vs), I.laid (t' := s.toks) (fun _ _ => sortedAll_old) (Nat.le_succ _) ⟨hz, out, ep, hv, he'⟩, rfl, q _ (I.hok.fresh (Nat.le_succ _))⟩
/-- repr(x), x data -/
def rRepr (K : PySem.W.Frag) : List V → Hp → VK → Prop := fun us H Q => ∃ v d, us = [v] ∧ Dp K H v d ∧ d.showable = true ∧ d.hasDict = false ∧ d.depth ≤ 64 ∧ d.shown.length ≤ sizeLine ∧ Q (.str d.shown) H
theorem call_reprD {k : Nat} (hg : X.A.guards = some []) (hr : Room k X.A) : CallR X (.builtin "repr") (rRepr X.K) := by
  intro pins s σ H us0 us Q I r h
  obtain ⟨v, d, rfl, hd, hs, hn, hdp, hz, q⟩ := h
  obtain ⟨u, rfl, ru⟩ := vals1 r
  have hu := hr.un
  cases hd with
  | non =>
    cases ru
    have q' : Q (.str "None") H := by simpa [PyData.shown] using q
    exact PySem.P.repr_of_none ⟨.str _, H, I.tok _, ⟨_, rfl⟩, q'⟩
  | bl b =>
    cases ru
    have q' : Q (.str (if b then "True" else "False")) H := by simpa [PyData.shown] using q
    exact PySem.P.repr_of_bool ⟨.str _, H, I.tok _, ⟨_, rfl⟩, q'⟩
  | int i =>
    obtain ⟨t, rfl⟩ := ru
    have q' : Q (.str (toString i)) H := by simpa [PyData.shown] using q
    exact PySem.P.repr_of_int (by simpa [PyData.showable] using hs) ⟨.str _, H, I.tok _, ⟨_, rfl⟩, q'⟩
  | str x =>
    obtain ⟨t, rfl⟩ := ru
    have q' : Q (.str (reprText x)) H := by simpa [PyData.shown] using q
    exact PySem.P.repr_of_str ⟨.str _, H, I.tok _, ⟨_, rfl⟩, q'⟩ (by simpa [PyData.shown] using hz)
  | lst h1 h2 =>
    have hd' := Dp.lst h1 h2
    obtain ⟨as, hra⟩ := Dp.reads I _ _ u hd' ru
    cases ru
    exact repr_of_reads' hra hs (PyData.noDict_hsm hn) hg (by omega) (fun _ _ e => e) (fun h' u' tk hk => ⟨.str _, H, I.kept hk, ⟨_, rfl⟩, q⟩) hz
  | tup h1 h2 =>
    have hd' := Dp.tup h1 h2
    obtain ⟨as, hra⟩ := Dp.reads I _ _ u hd' ru
    cases ru
    exact repr_of_reads' hra hs (PyData.noDict_hsm hn) hg (by omega) (fun _ _ e => e) (fun h' u' tk hk => ⟨.str _, H, I.kept hk, ⟨_, rfl⟩, q⟩) hz
/-- x in c, c a list or a tuple of data -/
def rInG (K : PySem.W.Frag) : R2 := fun x y H Q => (∃ d ds, Dp K H x d ∧ (Dp K H y (.list ds) ∨ Dp K H y (.tuple ds)) ∧ d.canLay0 = true ∧ PyData.canLayAll0 ds = true ∧ d.depth ≤ 64 ∧ Q (.bl (ds.any fun z => PyData.eqv z d)) H) ∨ rIn K false x y H Q
def rNiG (K : PySem.W.Frag) : R2 := fun x y H Q => (∃ d ds, Dp K H x d ∧ (Dp K H y (.list ds) ∨ Dp K H y (.tuple ds)) ∧ d.canLay0 = true ∧ PyData.canLayAll0 ds = true ∧ d.depth ≤ 64 ∧ Q (.bl (!ds.any fun z => PyData.eqv z d)) H) ∨ rIn K true x y H Q
theorem op_inG {k : Nat} (hr : Room k X.A) : OpR X (compareOp .In) (rInG X.K) := by
  intro pins s σ H x y v u Q I rx ry h
  rcases h with ⟨d, ds, hd, hy, cd, cs, hdp, q⟩ | h
  · obtain ⟨as, r1⟩ := Dp.reads I d x v hd rx
    have hu : X.A.units + 1 + min (PyData.depthAll ds) d.depth < cLine := by
      have := hr.un
      have := Nat.min_le_right (PyData.depthAll ds) d.depth
      omega
    rcases hy with hy | hy
    · obtain ⟨bs, r2⟩ := Dp.reads I _ y u hy ry
      exact SeqAt.in_list_reads r2 r1 cs cd hu ⟨.bl _, H, I, rfl, q⟩
    · obtain ⟨bs, r2⟩ := Dp.reads I _ y u hy ry
      exact SeqAt.in_tuple_reads r2 r1 cs cd hu ⟨.bl _, H, I, rfl, q⟩
  · exact op_in_seq pins s σ H x y v u Q I rx ry h
theorem op_notInG {k : Nat} (hr : Room k X.A) : OpR X (compareOp .NotIn) (rNiG X.K) := by
  intro pins s σ H x y v u Q I rx ry h
  rcases h with ⟨d, ds, hd, hy, cd, cs, hdp, q⟩ | h
  · obtain ⟨as, r1⟩ := Dp.reads I d x v hd rx
    have hu : X.A.units + 1 + min (PyData.depthAll ds) d.depth < cLine := by
      have := hr.un
      have := Nat.min_le_right (PyData.depthAll ds) d.depth
      omega
    rcases hy with hy | hy
    · obtain ⟨bs, r2⟩ := Dp.reads I _ y u hy ry
      exact SeqAt.notIn_list_reads r2 r1 cs cd hu ⟨.bl _, H, I, rfl, q⟩
    · obtain ⟨bs, r2⟩ := Dp.reads I _ y u hy ry
      exact SeqAt.notIn_tuple_reads r2 r1 cs cd hu ⟨.bl _, H, I, rfl, q⟩
  · exact op_notIn_seq pins s σ H x y v u Q I rx ry h
end
section
variable {K : PySem.W.Frag} {M : MS} {L : Own} {ds : DS} {te ta tb tc : TE} {x y z d r : PyData} {f f' f1 f2 : Nat} {es gs items : List PyData}
theorem ev_sorted (h : EvR M L te ds (.list es)) (hal : PySem.W.AllAlike es) (hso : PySem.W.Sortable es) (hdp : ∀ d ∈ es, d.depth ≤ 8) (hpw : es.Pairwise (fun a b => PySem.W.dataLe false id a b = true)) : EvD M L (tCB (rSortD K) (tCons te tNil)) ds (.list es) :=
  ev_cb1 h fun f L' s G H u w r Q q => by
    obtain ⟨p, xs, rfl, h1, h2⟩ := r.list w
    refine ⟨p, xs, es, rfl, SqL.of h1, DvAll.dp _ _ (DvAll.mono w.ex _ _ h2), hal, hso, hdp, hpw, fun l hl => ?_⟩
    obtain ⟨e, w', d'⟩ := new_lst w h2 hl
    exact q _ _ _ e w' d'
/-- what may be shown -/
structure Sw (n : Nat) (d : PyData) : Prop where
  sh : d.showable = true
  nd : d.hasDict = false
  dp : d.depth ≤ 64
  ln : d.shown.length ≤ n
theorem ev_repr {n : Nat} (h : EvR M L te ds x) (hs : Sw n x) (hn : n ≤ 10000000) : EvD M L (tCB (rRepr K) (tCons te tNil)) ds (.str x.shown) :=
  ev_cb1 h fun f L' s G H u w r Q q => ⟨u, x, rfl, Dv.dp _ _ (r.dv w), hs.sh, hs.nd, hs.dp, Nat.le_trans hs.ln (Nat.le_trans hn (by rw [sizeLine_eq]; decide)), q _ G H (Evl.Ex.refl G) w (.str _)⟩
theorem ev_inL {n m : Nat} (ha : EvR M L ta ds x) (hb : EvR M L tb ds (.list es)) (hx : Shp n x) (hy : ∀ e ∈ es, Shp m e) (hn : n ≤ 64 := by decide) : EvD M L (tOp (rInG K) ta tb) ds (.bool (es.any fun z => PyData.eqv z x)) :=
  ev_op ha hb fun f L' s G H a b w ra rb Q q => .inl ⟨x, es, Dv.dp _ _ (ra.dv w), .inl (Dv.dp _ _ (rb.dv w)), hx.1, (shp_all hy).1, Nat.le_trans hx.2 hn, q _ G H (Evl.Ex.refl G) w (.bl _)⟩
theorem ev_inT {n m : Nat} (ha : EvR M L ta ds x) (hb : EvR M L tb ds (.tuple es)) (hx : Shp n x) (hy : ∀ e ∈ es, Shp m e) (hn : n ≤ 64 := by decide) : EvD M L (tOp (rInG K) ta tb) ds (.bool (es.any fun z => PyData.eqv z x)) :=
  ev_op ha hb fun f L' s G H a b w ra rb Q q => .inl ⟨x, es, Dv.dp _ _ (ra.dv w), .inr (Dv.dp _ _ (rb.dv w)), hx.1, (shp_all hy).1, Nat.le_trans hx.2 hn, q _ G H (Evl.Ex.refl G) w (.bl _)⟩
theorem ev_niL {n m : Nat} (ha : EvR M L ta ds x) (hb : EvR M L tb ds (.list es)) (hx : Shp n x) (hy : ∀ e ∈ es, Shp m e) (hn : n ≤ 64 := by decide) : EvD M L (tOp (rNiG K) ta tb) ds (.bool (!es.any fun z => PyData.eqv z x)) :=
  ev_op ha hb fun f L' s G H a b w ra rb Q q => .inl ⟨x, es, Dv.dp _ _ (ra.dv w), .inl (Dv.dp _ _ (rb.dv w)), hx.1, (shp_all hy).1, Nat.le_trans hx.2 hn, q _ G H (Evl.Ex.refl G) w (.bl _)⟩
theorem ev_niT {n m : Nat} (ha : EvR M L ta ds x) (hb : EvR M L tb ds (.tuple es)) (hx : Shp n x) (hy : ∀ e ∈ es, Shp m e) (hn : n ≤ 64 := by decide) : EvD M L (tOp (rNiG K) ta tb) ds (.bool (!es.any fun z => PyData.eqv z x)) :=
  ev_op ha hb fun f L' s G H a b w ra rb Q q => .inl ⟨x, es, Dv.dp _ _ (ra.dv w), .inr (Dv.dp _ _ (rb.dv w)), hx.1, (shp_all hy).1, Nat.le_trans hx.2 hn, q _ G H (Evl.Ex.refl G) w (.bl _)⟩
/-- texts -/
theorem DvAll.strs {G : Hp} : ∀ {bs : List Str} {vs : List V}, DvAll G vs (bs.map PyData.str) → vs = bs.map V.str
  | [], _, h => by cases h; rfl
  | n :: ns, _, h => by
    rw [List.map_cons] at h
    cases h with
    | cons h1 h2 => cases h1; rw [DvAll.strs h2, List.map_cons]
theorem ev_niS {xs : List Str} {a : Str} (ha : EvR M L ta ds (.str a)) (hb : EvR M L tb ds (.list (xs.map .str))) : EvD M L (tOp (rNiG K) ta tb) ds (.bool (!decide (a ∈ xs))) :=
  ev_op ha hb fun f L' s G H u v w ra rb Q q => by
    obtain ⟨p, ys, rfl, h1, h2⟩ := rb.list w
    have e := h2.strs
    subst e
    rw [ra.str]
    have e2 : inV (.str a) (xs.map V.str) = decide (a ∈ xs) := by
      unfold inV
      rw [List.any_map]
      rw [Bool.eq_iff_iff, List.any_eq_true, decide_eq_true_eq]
      constructor
      · rintro ⟨y, hy, he⟩
        have : (y == a) = true := he
        rw [← eq_of_beq this]; exact hy
      · intro h
        exact ⟨a, h, show (a == a) = true from beq_self_eq_true a⟩
    refine .inr ⟨p, _, rfl, .inl (SqL.of h1), rfl, flat_strs xs, ?_⟩
    rw [if_pos rfl, e2]
    exact q _ G H (Evl.Ex.refl G) w (.bl _)
end
end Kd
/-! enumerate of a tuple, to two names or to one. -/
namespace Kd
open PySem PySem.Spec PyProof.Rows L2
open Sem (wp)
/-- an enumerate over the iterator it, at i; the tuple it gave out may be remembered -/
def EnT (h : Heap) (e it : Addr) (i : Int) : Prop := ∃ f0 b old, (f0 = Value.none ∨ ∃ T : Addr, f0 = rawInt T) ∧ h.get? e = some { cls := .type "enumerate", dict := none, data := .fields #[f0, .bool b, .ref it, rawInt i, .none, old], slots := #[] }
theorem EnT.of {h : Heap} {e it : Addr} {i : Int} {old : Value} (x : IsEnum h e it i old) : EnT h e it i := ⟨_, _, _, .inl rfl, x⟩
theorem same_trans {a : Addr} {h1 h2 h3 : Heap} (p : Heap.SameBut a h1 h2) (q : Heap.SameBut a h2 h3) : Heap.SameBut a h1 h3 := ⟨q.1.trans p.1, fun b hb => (q.2 b hb).trans (p.2 b hb)⟩
section
variable {prog : Program} {w : World} {A : Around} {E : Value → Shared → Prop} {s : Shared}
theorem enT_next {e it a : Addr} {i : Nat} {items : Array Value} {x : Value} {Q : Value → Shared → Prop} (he : EnT s.heap e it i) (hit : s.heap.IsTupleIter it a i) (ht : s.heap.IsTuple a items) (hx : items[i]? = some x) (hne : e ≠ it)
    (hQ : ∀ h' tk, EnT h' e it ((i : Int) + 1) → h'.IsTupleIter it a (i + 1) → h'.get? s.heap.objs.size = some { cls := .type "tuple", data := .seq #[.int i tk, x] } → h'.objs.size = s.heap.objs.size + 1 →
      (∀ b o, b ≠ e → b ≠ it → s.heap.get? b = some o → h'.get? b = some o) → Q (.ref s.heap.objs.size) { s with heap := h', toks := tk + 1 }) :
    wpAny (model prog w) A (Builtin.«enumerate.__next__» ⟨[.ref e], []⟩) (fun fin s' => ∃ v, fin = .done (.ret v) ∧ Q v s') E s := by
  obtain ⟨h0, gs, dr, tk, os⟩ := s
  obtain ⟨f0, b, old, hf0, he⟩ := he
  show wpAny _ _ (field (.ref e) 2 >>= _) _ _ _
  refine wpAny_bind (wpAny_field he rfl (x := .ref it) rfl (wpAny_bind (wpAny_nextOf_tuple_item hit ht hx fun h1 hit1 sb1 => ?_)))
  have he1 := (sb1.2 e hne).trans he
  show wpAny _ _ (field (.ref e) 3 >>= _) _ _ ⟨h1, gs, dr, tk, os⟩
  refine wpAny_bind (wpAny_field he1 rfl (x := rawInt i) rfl ?_)
  show wpAny _ _ (field (.ref e) 4 >>= _) _ _ ⟨h1, gs, dr, tk, os⟩
  refine wpAny_bind (wpAny_field he1 rfl (x := .none) rfl ?_)
  show wpAny _ _ (mkInt i >>= _) _ _ ⟨h1, gs, dr, tk, os⟩
  refine wpAny_bind (wpAny_mkInt ?_)
  show wpAny _ _ (setField (.ref e) 3 (rawInt ((i : Int) + 1)) >>= _) _ _ ⟨h1, gs, dr, tk + 1, os⟩
  refine wpAny_bind (wpAny_setField_rec he1 (by simp) fun h2 he2 sb2 => ?_)
  show wpAny _ _ (setField (.ref e) 4 .none >>= _) _ _ ⟨h2, gs, dr, tk + 1, os⟩
  refine wpAny_bind (wpAny_setField_rec (s := ⟨h2, gs, dr, tk + 1, os⟩) he2 (by simp) fun h3 he3 sb3 => ?_)
  have sb13 : Heap.SameBut e h1 h3 := same_trans sb2 sb3
  show wpAny _ _ (newTuple [.int i tk, x] >>= _) _ _ ⟨h3, gs, dr, tk + 1, os⟩
  refine wpAny_bind (wpAny_newTuple ?_)
  have sz3 : h3.objs.size = h0.objs.size := by rw [sb13.1, sb1.1]
  have elt : e < h0.objs.size := Heap.lt_size he
  have he4 : (h3.push { cls := .type "tuple", data := .seq #[.int i tk, x] }).get? e = some { cls := .type "enumerate", dict := none, data := .fields #[f0, .bool b, .ref it, rawInt ((i : Int) + 1), .none, old], slots := #[] } := Heap.get?_push_of_some _ (by simpa using he3)
  have t4 : (h3.push { cls := .type "tuple", data := .seq #[.int i tk, x] }).get? h0.objs.size = some { cls := .type "tuple", data := .seq #[.int i tk, x] } := by rw [← sz3]; exact Heap.get?_push_size _ rfl
  have z4 : (h3.push { cls := .type "tuple", data := .seq #[.int i tk, x] }).objs.size = h0.objs.size + 1 := by rw [Heap.size_push, sz3]
  have k4 : ∀ b o, b ≠ e → b ≠ it → h0.get? b = some o → (h3.push { cls := .type "tuple", data := .seq #[.int i tk, x] }).get? b = some o := fun b o n1 n2 q =>
    Heap.get?_push_of_some _ ((sb13.2 b n1).trans ((sb1.2 b n2).trans q))
  have i4 : (h3.push { cls := .type "tuple", data := .seq #[.int i tk, x] }).IsTupleIter it a (i + 1) := hit1.at fun o q => Heap.get?_push_of_some _ ((sb13.2 it (Ne.symm hne)).trans q)
  generalize hh4 : h3.push { cls := .type "tuple", data := .seq #[.int i tk, x] } = h4 at he4 t4 z4 k4 i4
  -- behind the tuple, the iterator's own object alone may change
  have fin : ∀ h5, EnT h5 e it ((i : Int) + 1) → Heap.SameBut e h4 h5 → Q (.ref h0.objs.size) ⟨h5, gs, dr, tk + 1, os⟩ := fun h5 he5 sb5 =>
    hQ h5 tk he5 (i4.at fun o q => (sb5.2 it (Ne.symm hne)).trans q) ((sb5.2 _ (Nat.ne_of_gt elt)).trans t4) (by rw [sb5.1, z4]) fun b o n1 n2 q => (sb5.2 b n1).trans (k4 b o n1 n2 q)
  have free : wpAny (model prog w) A (do
      rule "enumerate.__next__.owned-tuple-again"
      let o ← field (.ref e) 5
      setField (.ref e) 5 x
      Builtin.SmallTypes.ownedTupleHandOut (.ref e) (.ref h0.objs.size)
      letGo [o] [.ref h0.objs.size]
      ret (.ref h0.objs.size)) (fun r s' => ∃ v, r = .done (.ret v) ∧ Q v s') E ⟨h4, gs, dr, tk + 1, os⟩ := by
    refine wpAny_bind (wpAny_rule ?_)
    refine wpAny_bind (wpAny_field he4 rfl (x := old) rfl ?_)
    refine wpAny_bind (wpAny_setField_rec (s := ⟨h4, gs, dr, tk + 1, os⟩) he4 (by simp) fun h5 he5 sb5 => ?_)
    refine wpAny_bind ?_
    unfold Builtin.SmallTypes.ownedTupleHandOut
    refine wpAny_bind (wpAny_setField_rec (s := ⟨h5, gs, dr, tk + 1, os⟩) he5 (by simp) fun h6 he6 sb6 => ?_)
    refine wpAny_setField_rec (s := ⟨h6, gs, dr, tk + 1, os⟩) he6 (by simp) fun h7 he7 sb7 => wpAny_bind (wpAny_letGo (wpAny_pure ⟨_, rfl, fin h7 ⟨_, _, _, .inr ⟨h0.objs.size, rfl⟩, he7⟩ (same_trans (same_trans sb5 sb6) sb7)⟩))
  show wpAny _ _ (Builtin.SmallTypes.ownedTupleIsFree (.ref e) >>= _) _ _ ⟨h4, gs, dr, tk + 1, os⟩
  rw [sz3]
  refine wpAny_bind ?_
  unfold Builtin.SmallTypes.ownedTupleIsFree
  rcases hf0 with rfl | ⟨T, rfl⟩
  · refine wpAny_bind (wpAny_field he4 rfl (x := .none) rfl (wpAny_pure ?_))
    dsimp only
    rw [if_pos rfl]
    exact free
  · refine wpAny_bind (wpAny_field he4 rfl (x := rawInt T) rfl ?_)
    show wpAny _ _ (loadIfAlive ((T : Int).toNat) >>= _) _ _ _
    rw [Int.toNat_natCast]
    refine wpAny_bind ?_
    have alive : ∀ {R : Option Obj → Shared → Prop}, R (h4.get? T) ⟨h4, gs, dr, tk + 1, os⟩ → wpAny (model prog w) A (loadIfAlive T) R E ⟨h4, gs, dr, tk + 1, os⟩ := fun hR _ _ _ => hR
    refine alive ?_
    cases hT : h4.get? T with
    | none =>
      rw [if_pos (show (none : Option Obj).isNone = true from rfl)]
      refine wpAny_pure ?_
      rw [if_pos rfl]
      exact free
    | some oT =>
      rw [if_neg (show ¬ (some oT).isNone = true from Bool.false_ne_true)]
      refine wpAny_bind (wpAny_field he4 rfl (x := .bool b) rfl ?_)
      cases b with
      | true =>
        rw [if_neg (by decide)]
        refine wpAny_pure ?_
        rw [if_neg Bool.false_ne_true]
        exact wpAny_pure ⟨_, rfl, fin h4 ⟨_, _, _, .inr ⟨T, rfl⟩, he4⟩ (Heap.SameBut.refl _ _)⟩
      | false =>
        rw [if_pos (by decide)]
        refine wpAny_bind (wpAny_setField_rec (s := ⟨h4, gs, dr, tk + 1, os⟩) he4 (by simp) fun h5 he5 sb5 => ?_)
        refine wpAny_pure ?_
        rw [if_neg Bool.false_ne_true]
        exact wpAny_pure ⟨_, rfl, fin h5 ⟨_, _, _, .inr ⟨T, rfl⟩, he5⟩ sb5⟩
theorem enT_item {e it a : Addr} {i : Nat} {items : Array Value} {x : Value} {Q : Option Value → Shared → Prop} (he : EnT s.heap e it i) (hit : s.heap.IsTupleIter it a i) (ht : s.heap.IsTuple a items) (hx : items[i]? = some x) (hne : e ≠ it)
    (hQ : ∀ h' tk, EnT h' e it ((i : Int) + 1) → h'.IsTupleIter it a (i + 1) → h'.get? s.heap.objs.size = some { cls := .type "tuple", data := .seq #[.int i tk, x] } → h'.objs.size = s.heap.objs.size + 1 →
      (∀ b o, b ≠ e → b ≠ it → s.heap.get? b = some o → h'.get? b = some o) → Q (some (.ref s.heap.objs.size)) { s with heap := h', toks := tk + 1 }) :
    wpAny (model prog w) A (pyNext (.ref e)) Q E s := by
  have hTy : s.TypeIs (.ref e) "enumerate" := by
    obtain ⟨_, _, _, _, q⟩ := he
    exact ⟨_, q, rfl⟩
  unfold pyNext
  exact wpAny_bind (wpAny_attempt (wpAny_callSpecial?_slot (name := Str.ofString "__next__") hTy F.slot_enumerate_next
    (wpAny_call_entry F.slot_enumerate_next hTy F.entry_enumerate_next (enT_next he hit ht hx hne fun h' tk a1 a2 a3 a4 a5 => wpAny_pure (hQ h' tk a1 a2 a3 a4 a5)) (F.args_enumerate_next_1 _))))
theorem enT_end {e it a : Addr} {i : Nat} {c : Int} {items : Array Value} {Q : Option Value → Shared → Prop} (hh : A.handled = none) (he : EnT s.heap e it c) (hit : s.heap.IsTupleIter it a i) (ht : s.heap.IsTuple a items) (hx : items[i]? = none)
    (hQ : ∀ h', Heap.ExtBut it s.heap h' → Q none { s with heap := h' }) : wpAny (model prog w) A (pyNext (.ref e)) Q E s := by
  obtain ⟨f0, b, old, hf0, he⟩ := he
  have hTy : s.TypeIs (.ref e) "enumerate" := ⟨_, he, rfl⟩
  unfold pyNext
  refine wpAny_bind (wpAny_attempt (wpAny_callSpecial?_slot (name := Str.ofString "__next__") hTy F.slot_enumerate_next
    (wpAny_call_entry F.slot_enumerate_next hTy F.entry_enumerate_next ?_ (F.args_enumerate_next_1 _))))
  show wpAny _ _ (field (.ref e) 2 >>= _) _ _ _
  refine wpAny_bind (wpAny_field he rfl (x := .ref it) rfl ?_)
  refine wpAny_bind (wpAny_nextOf_tuple_end (A := A.in1) hh hit ht hx fun h' y he' hy => ?_)
  obtain ⟨o, ho, hc⟩ := hy
  refine wpAny_bind (wpAny_isInstance (T := "StopIteration") (b := true) ⟨o, ho, hc⟩ isSubtype_stop ?_)
  exact wpAny_pure (hQ _ he')
end
end Kd
/-! enumerate of a tuple: what is walked. -/
namespace Kd
open PySem PySem.Spec PyProof.Rows L2
open Sem (wp)
theorem enum_new1 {v : Value} {o : Obj} {Hq : Heap → Prop} (B : Begins v o Hq) :
    Meets (Builtin.«enumerate.__new__» ⟨[.type "enumerate", v], []⟩) (fun _ R s => Hq s.heap ∧
      R (.ok (.ret (.ref (s.heap.push o).objs.size))) { s with heap := (s.heap.push o).push { cls := .type "enumerate", data := .fields #[.none, .bool false, .ref s.heap.objs.size, rawInt 0, .none, .none] } }) :=
  .of_wp fun prog w A R s h => by
    obtain ⟨h0, gs, dr, tk, os⟩ := s
    obtain ⟨hq, hR⟩ := h
    have sub := sub_enumerate
    have itr : ∀ {A' : Around} {E : Value → Shared → Prop} {Q : Value → Shared → Prop}, Q (.ref h0.objs.size) ⟨h0.push o, gs, dr, tk, os⟩ → wpAny (model prog w) A' (pyIter v) Q E ⟨h0, gs, dr, tk, os⟩ :=
      fun q => B.iter prog w _ _ ⟨h0, gs, dr, tk, os⟩ _ hq q
    wp_walk using itr
    refine wpAny_stack_any fun st => wpAny_pure ?_
    split
    · rename_i c _ _ _ _ _
      cases (c == Value.type "enumerate") <;> (wp_walk using itr; exact ⟨_, rfl, hR⟩)
    · wp_walk using itr
      exact ⟨_, rfl, hR⟩
section
variable {prog : Program} {w : World} {A : Around} {E : Value → Shared → Prop} {s : Shared}
theorem call_enumT {t : Addr} {items : Array Value} {Q : Value → Shared → Prop} (hL : s.heap.IsTuple t items)
    (h : ∀ h', IsEnum h' (s.heap.objs.size + 1) s.heap.objs.size 0 .none → h'.IsTupleIter s.heap.objs.size t 0 → h'.objs.size = s.heap.objs.size + 2 →
      (∀ b o, s.heap.get? b = some o → h'.get? b = some o) → Q (.ref (s.heap.objs.size + 1)) { s with heap := h' }) :
    wpAny (model prog w) A (call (.type "enumerate") [.ref t]) Q E s := by
  refine callType_new F.called_enumerate (by decide) (F.typeCall_enumerate_1 _) (F.newCall_enumerate_1 _) (fun obj => F.args_object_init_2 obj _) F.entry_enumerate_new (enum_new1 (begins_tuple t items)) ⟨hL, ?_⟩
  have z1 : (s.heap.push { cls := .type "tuple_iterator", data := .fields #[.ref t, .int 0 0] }).objs.size = s.heap.objs.size + 1 := Heap.size_push ..
  show _ ∧ _
  rw [z1]
  have e1 : IsEnum ((s.heap.push { cls := .type "tuple_iterator", data := .fields #[.ref t, .int 0 0] }).push { cls := .type "enumerate", data := .fields #[.none, .bool false, .ref s.heap.objs.size, rawInt 0, .none, .none] }) (s.heap.objs.size + 1) s.heap.objs.size 0 .none := by
    have q := Heap.get?_push_size (s.heap.push { cls := .type "tuple_iterator", data := .fields #[.ref t, .int 0 0] }) (o := { cls := .type "enumerate", data := .fields #[.none, .bool false, .ref s.heap.objs.size, rawInt 0, .none, .none] }) rfl
    rw [z1] at q
    exact q
  exact ⟨⟨_, e1, rfl⟩, h _ e1 ⟨_, Heap.get?_push_of_some _ (Heap.get?_push_size _ rfl), rfl, rfl⟩ (by rw [Heap.size_push, z1]) fun b o q => Heap.get?_push_of_some _ (Heap.get?_push_of_some _ q)⟩
/-- the step ahead of the store: the remembered tuple may be let go -/
theorem enT_go {tg : Expr} {e it T : Addr} {i : Int} {Q : Unit → Shared → Prop} (he : EnT s.heap e it i) (hQ : ∀ h', EnT h' e it i → Heap.SameBut e s.heap h' → Q () { s with heap := h' }) : wpAny (model prog w) A (letOwnedTupleGo tg (.ref e) (.ref T)) Q E s := by
  have same : Q () s := hQ s.heap he (Heap.SameBut.refl _ _)
  obtain ⟨f0, b, old, hf0, h1⟩ := he
  have go : wpAny (model prog w) A (do
      let o ← load e
      match o.cls, o.data with
      | .type n, .fields vs =>
        if ["enumerate", "zip", "dict_itemiterator", "dict_reverseitemiterator", "odict_iterator", "itertools.zip_longest", "itertools.pairwise"].contains n && vs[0]? == some (rawInt T) then
          rule "for.unpacks-the-owned-tuple"
          updateField e 0 .none
      | _, _ => pure ()) Q E s := by
    refine wpAny_bind (wpAny_load h1 ?_)
    dsimp only
    split
    · refine wpAny_bind (wpAny_rule ?_)
      refine wpAny_setField_rec h1 (by simp) fun h2 q2 sb => hQ h2 ⟨_, _, _, .inl rfl, q2⟩ sb
    · exact wpAny_pure same
  unfold letOwnedTupleGo
  cases tg with
  | Tuple es k p => exact go
  | List es p => exact go
  | _ => exact wpAny_pure same
end
/-- pairs of the index and the item, the tuple at a -/
def IteX (K : PySem.W.Frag) (a : Addr) : It :=
  ⟨fun i H => ∃ (xs : List V) (x : V), SqT K H a xs ∧ xs[i]? = some x,
    fun i H v H' => ∃ (T : Addr) (x : V) (o : Obj), v = .ref T ∧ H T = none ∧ o.dict = none ∧ H' = upd H T (.frz o (.tup [.int (i : Nat), x])) ∧ ∀ ys, SqT K H a ys → ys[i]? = some x,
    fun i H => ∃ xs : List V, SqT K H a xs ∧ xs.length ≤ i⟩
theorem turn_enT {P : Program} {w : World} {K : PySem.W.Frag} {tg : Expr} (a e it : Addr) : Turn P w K tg (IteX K a) [e, it] e (fun i h => EnT h e it ((i : Nat) : Int) ∧ h.IsTupleIter it a i ∧ e ≠ it) where
  mem := by simp
  obj := fun i h st b hb => by
    obtain ⟨⟨_, _, _, _, he⟩, ⟨o, ho, hc, hd⟩, _⟩ := st
    rcases (show b = e ∨ b = it by simpa using hb) with z | z
    · rw [z]; exact ⟨_, he, fun v q => nomatch q⟩
    · rw [z]; exact ⟨o, ho, fun v q => by rw [hd] at q; cases q⟩
  keep := fun i h h' st k => by
    obtain ⟨⟨f0, b, old, hf, he⟩, hi, ne⟩ := st
    exact ⟨⟨f0, b, old, hf, k e (by simp) _ he⟩, hi.at fun o q => k it (by simp) o q, ne⟩
  item := by
    intro X hP hw hK hc i pins s σ H E I hf st hg
    subst hP hw hK
    obtain ⟨he, hit, hne⟩ := st
    obtain ⟨xs, x, hq, hx⟩ := hg
    obtain ⟨its, rv, p, hz⟩ := I.tuple hq
    obtain ⟨u, hu, ru⟩ := rv.get hx
    have hel : e < s.heap.objs.size := by obtain ⟨_, _, _, _, q⟩ := he; exact Heap.lt_size q
    have hil : it < s.heap.objs.size := by obtain ⟨_, q, _⟩ := hit; exact Heap.lt_size q
    refine enT_item he hit (show s.heap.IsTuple a its.toArray from p) (x := u) (by simpa using hu) hne fun h' tk a1 a2 a3 a4 a5 => ⟨_, rfl, enT_go a1 fun h2 b1 sb => ?_⟩
    have t2 : h2.get? s.heap.objs.size = some { cls := .type "tuple", data := .seq #[.int i tk, u] } := (sb.2 _ (Nat.ne_of_gt hel)).trans a3
    have new : ObjOk X.prog X.w (upd H s.heap.objs.size (.frz { cls := .type "tuple", data := .seq #[.int i tk, u] } (.tup [.int (i : Nat), x]))) h2 s.heap.objs.size (.frz { cls := .type "tuple", data := .seq #[.int i tk, u] } (.tup [.int (i : Nat), x])) :=
      ⟨t2, by show 2 ≤ sizeLine; decide, [.int i tk, u], .cons ⟨_, rfl⟩ (.cons ru .nil), ⟨_, t2, rfl, _, rfl⟩⟩
    have I1 : L2.Inv X pins σ (upd H s.heap.objs.size (.frz { cls := .type "tuple", data := .seq #[.int i tk, u] } (.tup [.int (i : Nat), x]))) { s with heap := h2, toks := tk + 1 } :=
      I.turnedNew (ch := [e, it]) (fun b ob hb q => (sb.2 b fun z => hb (by simp [z])).trans (a5 b ob (fun z => hb (by simp [z])) (fun z => hb (by simp [z])) q)) hf (Nat.le_refl _) new
    refine ⟨.ref s.heap.objs.size, _, I1, rfl, ⟨_, x, _, rfl, I.hok.fresh (Nat.le_refl _), rfl, rfl, fun ys hy => by rw [I.tuple_inj hy hq]; exact hx⟩, ⟨?_, a2.at fun o q => (sb.2 it (Ne.symm hne)).trans q, hne⟩, fun b hb => ?_⟩
    · rw [show ((i + 1 : Nat) : Int) = (i : Int) + 1 by omega]; exact b1
    · have hlt : b < s.heap.objs.size := by
        rcases (show b = e ∨ b = it by simpa using hb) with z | z
        · rw [z]; exact hel
        · rw [z]; exact hil
      rw [upd_ne (Nat.ne_of_lt hlt)]
      exact (hf b hb).1
  done := by
    intro X hP hw hK hc i pins s σ H E I hf st hg
    subst hP hw hK
    obtain ⟨he, hit, hne⟩ := st
    obtain ⟨xs, hq, hx⟩ := hg
    obtain ⟨its, rv, p, hz⟩ := I.tuple hq
    obtain ⟨f0, f1, f2, f3, f4, f5⟩ := hf it (by simp)
    have hl := rv.length
    exact enT_end (I.ok.hd hc) he hit (show s.heap.IsTuple a its.toArray from p) (by simp; omega) fun h' eb => ⟨rfl, I.turned (t' := s.toks) (fun b o hb q => eb b o hb q) f0 f1 f3 f4 f5⟩
  self := fun A i s Q E st h => by
    obtain ⟨⟨f0, b, old, hf, he⟩, _, _⟩ := st
    have hT : s.TypeIs (.ref e) "enumerate" := ⟨_, he, rfl⟩
    refine wpAny_pyIter_slot hT F.slot_enumerate_iter (wpAny_call_entry F.slot_enumerate_iter hT F.entry_enumerate_iter (show wpAny _ _ (ret (.ref e)) _ _ s from ?_) (F.args_enumerate_iter_1 _))
    exact wpAny_pure ⟨_, rfl, "enumerate", _, hT, F.slot_enumerate_next.lookup, h⟩
def iEnT (K : PySem.W.Frag) (ta : TA) : TI := fun σ H R => ta σ H fun vs H1 => ∃ a xs, vs = [.ref a] ∧ SqT K H1 a xs ∧ R (IteX K a) H1
theorem pi_enumT {X : Cx} {tg e : Expr} {ta : TA} {p pos : Pos} (hg : Gl X "enumerate") (hm : X.mg "enumerate" = none) (ha : PA X [e] ta) (hs : starEach [e] X.env = [(false, eval e X.env)] := by rfl) :
    PI X tg (.Call (.Name "enumerate" p) [e] [] pos) (iEnT X.K ta) := by
  refine ⟨fun pins s σ H R I h => Call_ (ld_blt I hg hm boot_enumerate (PyProof.Rows.callWith_type1 (thn (ha.run pos pins s σ H _ I h) fun us s1 ⟨vs, H1, I1, r1, q1⟩ => ?_) hs rfl))⟩
  obtain ⟨a, xs, rfl, hq, q⟩ := q1
  obtain ⟨u, rfl, ru⟩ := vals1 r1
  cases ru
  obtain ⟨its, rv, p', hz⟩ := I1.tuple hq
  refine call_enumT (show s1.heap.IsTuple a its.toArray from p') fun h' he hit hsz hk => wpAny_pyIter_enum he ?_
  have I2 : L2.Inv X pins σ H1 { s1 with heap := h' } := I1.kept (t' := s1.toks) hk
  refine ⟨s1.heap.objs.size + 1, [s1.heap.objs.size + 1, s1.heap.objs.size], _, _, H1, rfl, I2, turn_enT a (s1.heap.objs.size + 1) s1.heap.objs.size, ⟨EnT.of he, hit, Nat.succ_ne_self _⟩, fun b hb => ?_, q⟩
  have hle : s1.heap.objs.size ≤ b := by
    rcases (show b = s1.heap.objs.size + 1 ∨ b = s1.heap.objs.size by simpa using hb) with z | z
    · rw [z]; exact Nat.le_succ _
    · rw [z]; exact Nat.le_refl _
  exact I1.fpOk hle (I1.hok.fresh hle)
section
variable {K : PySem.W.Frag} {M : MS} {L : Own} {ds : DS} {te : TE} {es : List PyData}
theorem ei_enumT (h : EvD M L te ds (.tuple es)) : EvI false M L (iEnT K (tCons te tNil)) ds (enumFrom 0 es) := fun f L' s σ G H w sl R r =>
  h f L' s σ G H w sl _ fun u G2 H2 e2 w2 d2 => by
    cases d2 with
    | @tup a xs _ h1 h2 =>
      refine ⟨a, xs, rfl, (h1.mono w2.ex).sq, r _ G2 H2 e2 w2 fun i f3 L3 G3 H3 e3 w3 => ?_⟩
      have h3 := TupAt.sq (K := K) ((h1.mono e3).mono w3.ex)
      refine ⟨fun hi => ⟨xs, h3, by rw [h2.length, hi, enum_len]; exact Nat.le_refl _⟩, fun x hx => ?_⟩
      obtain ⟨y, hy, rfl⟩ := enum_get hx
      obtain ⟨v, hv, hd⟩ := h2.get hy
      refine ⟨⟨xs, v, h3, hv⟩, fun u H4 ⟨T, u', o, e1, hT, ho, e4, hu⟩ => ?_⟩
      have := hu xs h3
      rw [hv] at this
      cases this
      subst e1 e4
      rw [Nat.zero_add]
      obtain ⟨a1, a2, a3⟩ := new_tup w3 (.cons (.int (i : Nat)) (.cons (Dv.mono e3 _ _ hd) .nil)) hT ho
      exact ⟨_, a1, a2, .inl a3⟩
end
end Kd
/-! len(set(t)), t.index(x), t[::-1], of tuples. -/
namespace Kd
open PySem PySem.Spec PyProof.Rows L2
/-! ### len(set(t)), t of unlike ints -/
def tLenSetT (K : PySem.W.Frag) (ta : TE) : TE := fun σ H Q => ta σ H fun x H1 => ∃ (l : Addr) (ns : List Int), x = .ref l ∧ SqT K H1 l (ns.map V.int) ∧ ns.Nodup ∧ ns.length ≤ 1000 ∧ Q (.int (ns.length : Nat)) H1
theorem pe_lenSetT {X : Cx} {a : Expr} {ta : TE} {p p2 q pos : Pos} (hc : X.calm = true) (hg : Gl X "len") (hm : X.mg "len" = none) (hg2 : Gl X "set") (hm2 : X.mg "set" = none) (ha : PE X a ta)
    (na : starEach [a] X.env = (false, eval a X.env) :: starEach [] X.env := by rfl) : PE X (.Call (.Name "len" p) [.Call (.Name "set" p2) [a] [] q] [] pos) (tLenSetT X.K ta) := by
  refine ⟨fun pins s σ H Q I h => Call_ (ld_blt I hg hm boot_len (PyProof.Rows.callWith_builtin1 (PyProof.Rows.args_cons ?_ rfl) rfl rfl))⟩
  refine Call_ (ld_blt I hg2 hm2 boot_set (PyProof.Rows.callWith_type1 (PyProof.Rows.args_cons (thn (ha.run pins s σ H _ I h) fun v s1 ⟨x, H1, I1, r1, q1⟩ => PyProof.Rows.args_nil ?_) na) na rfl))
  obtain ⟨l, ns, rfl, hq, hnd, hl, q1⟩ := q1
  cases r1
  obtain ⟨its, r, pl, hz⟩ := I1.tuple hq
  refine call_set_tupI ns (I1.ok.hd hc) (show s1.heap.IsTuple l its.toArray from pl) (by simpa using intsAre_of r) (by unfold scanBound; omega) fun h' tk c hS hcn hk => PyProof.Rows.args_nil ?_
  obtain ⟨o, es, ep, t, ho, hex, hd, _, nd, hmem, _, hf, hn, _, _⟩ := hS
  have hlen : es.size = ns.length := by
    have p1 : (es.toList.map keyOf).Perm ns := (List.perm_ext_iff_of_nodup nd hnd).mpr fun k => by rw [← hmem k, decide_eq_true_eq]
    have := p1.length_eq
    rw [List.length_map, Array.length_toList] at this
    exact this
  have I2 : L2.Inv X pins σ H1 { s1 with heap := h', toks := tk } := I1.kept hk
  exact call_len_set ho hex hd hf (by rw [hlen]; omega) ⟨.int ns.length, H1, I2.tok _, ⟨_, by rw [hlen]⟩, q1⟩
/-! ### t.index(x), ints -/
theorem call_tupIndexI {prog : Program} {w : World} {A : Around} {E : Value → Shared → Prop} {s : Shared} {p : Addr} {its : List Value} {ns : List Int} {k : Int} {t : Tok} {j : Nat} {Q : Value → Shared → Prop} (pl : IsTup s.heap p its.toArray) (r : Vals (ns.map V.int) its) (hy : ns[j]? = some k) (hno : ∀ m, m < j → ns[m]? ≠ some k)
    (h : Q (.int j s.toks) { s with toks := s.toks + 1 }) : wpAny (model prog w) A (call (.builtin "tuple.index") [.ref p, .int k t]) Q E s := by
  obtain ⟨⟨cls, dd, dt, sl⟩, ho, hc, n, hd⟩ := pl
  simp only at hc hd
  subst hc
  subst hd
  have hl : its.toArray.size = ns.length := by rw [List.size_toArray, ← r.length, List.length_map]
  have hj : j < its.toArray.size := by rw [hl]; exact (List.getElem?_eq_some_iff.mp hy).1
  have at' : ∀ (m : Nat) (hm : m < its.toArray.size), ∃ y t', ns[m]? = some y ∧ its.toArray[m] = Value.int y t' := fun m hm => by
    have hm' : m < ns.length := by rw [← hl]; exact hm
    obtain ⟨w, hw, t', hw'⟩ := r.get (i := m) (x := .int ns[m]) (by simp [hm'])
    have e := (List.getElem?_eq_some_iff.mp hw).2
    exact ⟨ns[m], t', List.getElem?_eq_getElem hm', by rw [← hw', ← e]; simp⟩
  have flat : (ns.map V.int).all flatV = true := by rw [List.all_map]; exact List.all_eq_true.mpr fun _ _ => rfl
  refine call_meets PySem.F.slot_tuple_index ⟨_, ho, rfl⟩ PySem.F.entry_tuple_index (PySem.F.args_tuple_index_2 _ _) (TI.tuple_indexAt p its.toArray n dd sl (.int k t) (eqU (.int k)) j hj ?_ ?_)
    ⟨ho, fun w hw => mem_eqAt (x := .int k) ⟨t, rfl⟩ rfl r flat w (by simpa using hw), h⟩
  · obtain ⟨y, t', h1, h2⟩ := at' j hj
    rw [hy] at h1
    cases h1
    rw [h2]
    show (k == k) = true
    exact beq_self_eq_true k
  · intro m hm hmj
    obtain ⟨y, t', h1, h2⟩ := at' m hm
    rw [h2]
    show (y == k) = false
    exact beq_eq_false_iff_ne.mpr fun e => hno m hmj (e ▸ h1)
def tTupIx (K : PySem.W.Frag) (ta : TE) (tb : TA) : TE := fun σ H Q => ta σ H fun x H1 => ∃ (p : Addr) (o : Obj) (ns : List Int), x = .ref p ∧ o.dict = none ∧ H1 p = some (.frz o (.tup (ns.map V.int))) ∧
  tb σ H1 fun ys H2 => ∃ (k : Int) (j : Nat), ys = [.int k] ∧ SqT K H2 p (ns.map V.int) ∧ ns[j]? = some k ∧ (∀ m, m < j → ns[m]? ≠ some k) ∧ Q (.int (j : Nat)) H2
theorem pe_tupIndex {X : Cx} {o e : Expr} {to : TE} {t : TA} {apos cpos : Pos} (ho : PE X o to) (ha : PA X [e] t)
    (hbase : attributeBase o "index" X.env (eval o X.env) = eval o X.env := by rfl)
    (hfew : ((backTo cpos (starEach [e] X.env)).all (fun x => !x.1) && (backToKw cpos (keywordEach [] X.env)).all (fun x => x.1.isSome) && decide ([e].length + ([] : List Keyword).length + (if ([] : List Keyword).isEmpty then 0 else 1) < 30)) = true := by rfl)
    (hline : (apos.endLine == cpos.line) = true := by rfl) (hs : starEach [e] X.env = (false, eval e X.env) :: starEach [] X.env := by rfl) :
    PE X (.Call (.Attribute o "index" apos) [e] [] cpos) (tTupIx X.K to t) := by
  refine ⟨fun pins s σ H Q I h => wpAny_Call_method_late hbase hfew hline rfl (thn (ho.run pins s σ H _ I h) fun v s1 ⟨x, H1, I1, r1, q1⟩ => ?_)⟩
  obtain ⟨p, ob, ns, rfl, hob, hp, q1⟩ := q1
  cases r1
  have hok : ObjOk X.prog X.w H1 s1.heap p (.frz ob (.tup (ns.map V.int))) := I1.hok p _ hp
  obtain ⟨hg, _, its0, _, o2, ho2, hc2, _⟩ := hok
  have eo : ob = o2 := by rw [hg] at ho2; exact Option.some.inj ho2
  subst eo
  refine ⟨"tuple", "tuple.index", PySem.F.plainAttrs_tuple, PySem.F.slot_tuple_index, PySem.F.type_tuple_index, ⟨_, hg, hc2⟩, fun a ea => by cases ea; exact ⟨_, hg, hob⟩, ?_⟩
  have hA := ha.run cpos pins s1 σ H1 _ I1 q1
  rw [hs] at hA ⊢
  refine Calls.callWith_builtin rfl (Calls.evalArgs_plain (thn hA fun us s2 ⟨vs, H2, I2, r2, k, j, ev, hq, hj, hno, q⟩ => ?_))
  subst ev
  obtain ⟨u, rfl, t2, rfl⟩ := vals1 r2
  obtain ⟨its, r, pl, hz⟩ := I2.tuple hq
  exact call_tupIndexI (its := its) pl r hj hno ⟨.int j, H2, I2.tok _, ⟨_, rfl⟩, q⟩
section
variable {K : PySem.W.Frag} {M : MS} {L : Own} {ds : DS} {te ta tb tc : TE} {x y z d r : PyData} {f f' f1 f2 : Nat} {es gs items : List PyData}
theorem ev_tupIndex {ns : List Int} {k : Int} {j : Nat} (h : EvD M L te ds (.tuple (ns.map .int))) (h2 : EvD M L ta ds (.int k)) (hj : ns[j]? = some k) (hno : ∀ m, m < j → ns[m]? ≠ some k) : EvD M L (tTupIx K te (tCons ta tNil)) ds (.int (j : Nat)) := fun f L' s σ G H w sl Q q =>
  h f L' s σ G H w sl _ fun u G2 H2 e2 w2 d2 => by
    cases d2 with
    | @tup a xs _ h1 h3 =>
      have e := h3.ints_inv
      subst e
      obtain ⟨o, ho, hg⟩ := id h1
      refine ⟨a, o, ns, rfl, ho, w2.ex _ _ hg, h2 f L' s σ G2 H2 w2 (sl.mono e2) _ fun v G3 H3 e3 w3 d3 => ?_⟩
      have e := d3.int'
      subst e
      exact ⟨k, j, rfl, ((h1.mono e3).mono w3.ex).sq, hj, hno, q _ G3 H3 (e2.trans e3) w3 (.int _)⟩
theorem ev_lenSetT {ns : List Int} (h : EvD M L te ds (.tuple (ns.map .int))) (hn : ns.Nodup) (hl : ns.length ≤ 1000) : EvD M L (tLenSetT K te) ds (.int (ns.length : Nat)) := fun f L' s σ G H w sl Q q =>
  h f L' s σ G H w sl _ fun u G2 H2 e2 w2 d2 => by
    cases d2 with
    | @tup a xs _ h1 h3 =>
      have e := h3.ints_inv
      subst e
      exact ⟨a, ns, rfl, (h1.mono w2.ex).sq, hn, hl, q _ G2 H2 e2 w2 (.int _)⟩
end
end Kd
/-! Nets, ways, in plain words; as data. -/
namespace Kd
open PySem L2
abbrev Way := List Nat
def dI (n : Nat) : PyData := .int (n : Int)
def dT (l : List Nat) : PyData := .tuple (l.map dI)
structure Net where
  b : Nat
  os : List (List Nat)
def Net.k (n : Net) : Nat := 2 ^ n.b
def dN (n : Net) : PyData := .tuple [dI n.b, .tuple (n.os.map dT)]
structure IsOrd (k : Nat) (o : List Nat) : Prop where
  len : o.length = k
  nd : o.Nodup
  lt : ∀ x ∈ o, x < k
structure NetOk (n : Net) : Prop where
  b1 : 1 ≤ n.b
  b4 : n.b ≤ 4
  len : n.os.length ≤ 5
  os : ∀ o ∈ n.os, IsOrd n.k o
theorem NetOk.k2 {n : Net} (h : NetOk n) : ∃ j, n.k = 2 * j ∧ 1 ≤ j ∧ j ≤ 8 := by
  have h1 := h.b1
  have h4 := h.b4
  unfold Net.k
  have e : n.b = 1 ∨ n.b = 2 ∨ n.b = 3 ∨ n.b = 4 := by omega
  rcases e with e | e | e | e <;> rw [e]
  · exact ⟨1, by decide, by decide, by decide⟩
  · exact ⟨2, by decide, by decide, by decide⟩
  · exact ⟨4, by decide, by decide, by decide⟩
  · exact ⟨8, by decide, by decide, by decide⟩
theorem dT_ints (l : List Nat) : dT l = .tuple ((l.map Int.ofNat).map .int) := by
  unfold dT dI
  rw [List.map_map]
  rfl
theorem map_dI (l : List Nat) : l.map dI = (l.map Int.ofNat).map .int := by
  unfold dI
  rw [List.map_map]
  rfl
theorem dI_inj {a b : Nat} (h : dI a = dI b) : a = b := by
  unfold dI at h
  injection h with h
  omega
theorem map_dI_inj : ∀ {a b : List Nat}, a.map dI = b.map dI → a = b
  | [], [], _ => rfl
  | [], _ :: _, h => by simp at h
  | _ :: _, [], h => by simp at h
  | a :: as, b :: bs, h => by
    simp only [List.map_cons, List.cons.injEq] at h
    rw [dI_inj h.1, map_dI_inj h.2]
theorem eqv_dI (a b : Nat) : PyData.eqv (dI a) (dI b) = decide (a = b) := by
  unfold dI
  simp only [PyData.eqv]
  by_cases h : a = b
  · subst h; simp
  · have : ¬ ((a : Int) = b) := by omega
    simp [h, this]
theorem eqv_dIs : ∀ (a b : List Nat), PyData.eqvAll (a.map dI) (b.map dI) = decide (a = b)
  | [], [] => by simp [PyData.eqvAll]
  | [], _ :: _ => by simp [PyData.eqvAll]
  | _ :: _, [] => by simp [PyData.eqvAll]
  | x :: xs, y :: ys => by
    rw [List.map_cons, List.map_cons, PyData.eqvAll, eqv_dIs xs ys, eqv_dI]
    by_cases h : x = y <;> simp [h]
theorem eqv_dT (a b : List Nat) : PyData.eqv (dT a) (dT b) = decide (a = b) := by
  unfold dT
  simp only [PyData.eqv]
  exact eqv_dIs a b
theorem shp_dI {n : Nat} (a : Nat) : Shp n (dI a) := Shp.int _
theorem shp_dT {n : Nat} (a : List Nat) : Shp (n + 1) (dT a) := Shp.tup (Shp.map fun x _ => shp_dI x)
/-! ### places -/
theorem atI_map {α : Type} (g : α → PyData) {l : List α} {i : Nat} (h : i < l.length) : atI (l.map g) (i : Int) = some (g l[i]) := by
  unfold atI
  rw [List.length_map, Evl.ixN_nat h]
  show (l.map g)[i]? = _
  rw [List.getElem?_map, List.getElem?_eq_getElem h]
  rfl
theorem atI_get {l : List PyData} {i : Nat} {d : PyData} (h : l[i]? = some d) : atI l (i : Int) = some d := by
  unfold atI
  rw [Evl.ixN_nat (List.getElem?_eq_some_iff.mp h).1]
  exact h
theorem getLastD_eq (l : List Nat) (h : l ≠ []) : l[l.length - 1]? = some (l.getLastD 0) := by
  rw [List.getLastD_eq_getLast?, ← List.getLast?_eq_getElem?]
  cases e : l.getLast? with
  | none => rw [List.getLast?_eq_none_iff] at e; exact absurd e h
  | some x => rfl
theorem atI_last {l : List Nat} (h : l ≠ []) : atI (l.map dI) (-1) = some (dI (l.getLastD 0)) := by
  have hp : 0 < l.length := List.length_pos_iff.mpr h
  unfold atI ixN
  rw [List.length_map, if_neg (by decide), if_pos (by omega)]
  show (l.map dI)[((-1 : Int) + l.length).toNat]? = _
  rw [show ((-1 : Int) + l.length).toNat = l.length - 1 by omega, List.getElem?_map, getLastD_eq l h]
  rfl
/-! ### ways -/
def ev2 (x : Nat) : Nat := 2 * (x / 2)
def nextW (o : List Nat) (x : Nat) : List Nat := [ev2 (o.getD x 0), ev2 (o.getD x 0) + 1]
def stepW (o : List Nat) (rows : List Way) : List Way := rows.flatMap fun w => (nextW o (w.getLastD 0)).map fun x => w ++ [x]
def allFrom (os : List (List Nat)) (rows : List Way) : List Way := os.foldl (fun rows o => stepW o rows) rows
def begW (b : Nat) : List Way := [[ev2 b], [ev2 b + 1]]
def allW (n : Net) (b : Nat) : List Way := allFrom n.os (begW b)
def endsIn (e : Nat) (w : Way) : Bool := decide (w.getLastD 0 = e)
def Wn (n : Net) (b e : Nat) : List Way := (allW n b).filter (endsIn e)
structure WOk (k m : Nat) (w : Way) : Prop where
  len : w.length = m
  lt : ∀ x ∈ w, x < k
theorem ev2_lt {k x j : Nat} (hk : k = 2 * j) (h : x < k) : ev2 x + 1 < k := by
  unfold ev2
  omega
theorem last_mem {w : Way} (h : w ≠ []) : w.getLastD 0 ∈ w := by
  have := getLastD_eq w h
  exact List.mem_of_getElem? this
theorem IsOrd.get {k : Nat} {o : List Nat} (h : IsOrd k o) {x : Nat} (hx : x < k) : o[x]? = some (o.getD x 0) ∧ o.getD x 0 < k := by
  have hl : x < o.length := by rw [h.len]; exact hx
  have e : o[x]? = some (o.getD x 0) := by
    rw [List.getD_eq_getElem?_getD, List.getElem?_eq_getElem hl]
    rfl
  exact ⟨e, h.lt _ (List.mem_of_getElem? e)⟩
theorem step_ok {k m j : Nat} (hk : k = 2 * j) (hm : 0 < m) {o : List Nat} (ho : IsOrd k o) {rows : List Way} (h : ∀ w ∈ rows, WOk k m w) : ∀ w ∈ stepW o rows, WOk k (m + 1) w := fun w hw => by
  obtain ⟨v, hv, hw⟩ := List.mem_flatMap.mp hw
  obtain ⟨x, hx, rfl⟩ := List.mem_map.mp hw
  have ok := h v hv
  have hne : v ≠ [] := fun e => by rw [e] at ok; have := ok.len; simp at this; omega
  have hl := ok.lt _ (last_mem hne)
  have hlt := (ho.get hl).2
  have h2 := ev2_lt hk hlt
  refine ⟨by rw [List.length_append, ok.len]; rfl, fun y hy => ?_⟩
  rcases List.mem_append.mp hy with h' | h'
  · exact ok.lt y h'
  · have e : y = x := by simpa using h'
    subst e
    unfold nextW at hx
    rcases List.mem_cons.mp hx with e | hx
    · omega
    · have : y = _ := List.mem_singleton.mp hx
      omega
theorem from_ok {k j : Nat} (hk : k = 2 * j) : ∀ {os : List (List Nat)} {m : Nat} {rows : List Way}, 0 < m → (∀ o ∈ os, IsOrd k o) → (∀ w ∈ rows, WOk k m w) → ∀ w ∈ allFrom os rows, WOk k (m + os.length) w
  | [], m, rows, _, _, h => h
  | o :: os, m, rows, hm, ho, h => fun w hw => by
    have := from_ok hk (m := m + 1) (rows := stepW o rows) (Nat.succ_pos m) (fun o' h' => ho o' (List.mem_cons_of_mem _ h')) (step_ok hk hm (ho o List.mem_cons_self) h) w hw
    rw [List.length_cons]
    exact ⟨by rw [this.len]; omega, this.lt⟩
theorem beg_ok {k j b : Nat} (hk : k = 2 * j) (hb : b < k) : ∀ w ∈ begW b, WOk k 1 w := fun w hw => by
  have h2 := ev2_lt hk hb
  unfold begW at hw
  rcases List.mem_cons.mp hw with rfl | hw
  · exact ⟨rfl, fun x hx => by have : x = _ := List.mem_singleton.mp hx; omega⟩
  · have e : w = _ := List.mem_singleton.mp hw
    subst e
    exact ⟨rfl, fun x hx => by have : x = _ := List.mem_singleton.mp hx; omega⟩
theorem all_ok {n : Net} (h : NetOk n) {b : Nat} (hb : b < n.k) : ∀ w ∈ allW n b, WOk n.k (n.os.length + 1) w := fun w hw => by
  obtain ⟨j, hk, _⟩ := h.k2
  have := from_ok hk (Nat.succ_pos 0) h.os (beg_ok hk hb) w hw
  exact ⟨by rw [this.len]; omega, this.lt⟩
theorem step_len (o : List Nat) : ∀ rows : List Way, (stepW o rows).length = rows.length * 2
  | [] => rfl
  | w :: rows => by
    have := step_len o rows
    unfold stepW at this ⊢
    rw [List.flatMap_cons, List.length_append, this, List.length_cons, List.length_map]
    show 2 + _ = _
    omega
theorem from_len : ∀ (os : List (List Nat)) (rows : List Way), (allFrom os rows).length = rows.length * 2 ^ os.length
  | [], rows => by simp [allFrom]
  | o :: os, rows => by
    show (allFrom os (stepW o rows)).length = _
    rw [from_len os, step_len, List.length_cons, Nat.pow_succ]
    rw [Nat.mul_assoc, Nat.mul_comm 2]
theorem all_len {n : Net} (h : NetOk n) (b : Nat) : (allW n b).length ≤ 64 := by
  unfold allW
  rw [from_len]
  have h5 := h.len
  have : 2 ^ n.os.length ≤ 2 ^ 5 := Nat.pow_le_pow_right (by decide) h5
  show 2 * _ ≤ _
  omega
theorem W_len {n : Net} (h : NetOk n) (b e : Nat) : (Wn n b e).length ≤ 64 := Nat.le_trans (List.length_filter_le _ _) (all_len h b)
theorem W_ok {n : Net} (h : NetOk n) {b e : Nat} (hb : b < n.k) : ∀ w ∈ Wn n b e, WOk n.k (n.os.length + 1) w := fun w hw => all_ok h hb w (List.mem_filter.mp hw).1
theorem WOk.ne {k m : Nat} {w : Way} (h : WOk k (m + 1) w) : w ≠ [] := fun e => by have := h.len; rw [e] at this; simp at this
/-! ### in order -/
theorem lt_app : ∀ {w v : Way} {x y : Nat}, w.length = v.length → w < v → w ++ [x] < v ++ [y]
  | [], [], _, _, _, h => absurd h (List.lt_irrefl [])
  | [], _ :: _, _, _, hl, _ => by simp at hl
  | _ :: _, [], _, _, hl, _ => by simp at hl
  | a :: w, b :: v, x, y, hl, h => by
    rw [List.cons_append, List.cons_append, List.cons_lt_cons_iff]
    rw [List.cons_lt_cons_iff] at h
    rcases h with h | ⟨h1, h2⟩
    · exact .inl h
    · exact .inr ⟨h1, lt_app (by simpa using hl) h2⟩
theorem lt_snoc : ∀ {w : Way} {x y : Nat}, x < y → w ++ [x] < w ++ [y]
  | [], _, _, h => by simp [List.cons_lt_cons_iff, h]
  | a :: w, _, _, h => by
    rw [List.cons_append, List.cons_append, List.cons_lt_cons_iff]
    exact .inr ⟨rfl, lt_snoc h⟩
theorem lt_cast : ∀ {a b : List Nat}, a < b → ¬ (b.map Int.ofNat) < a.map Int.ofNat
  | [], [], h => absurd h (List.lt_irrefl [])
  | [], b :: bs, _ => by simp
  | a :: as, [], h => by simp at h
  | a :: as, b :: bs, h => by
    rw [List.map_cons, List.map_cons, List.cons_lt_cons_iff]
    rw [List.cons_lt_cons_iff] at h
    have c1 : Int.ofNat a = (a : Int) := rfl
    have c2 : Int.ofNat b = (b : Int) := rfl
    rw [c1, c2]
    rintro (q | ⟨q1, q2⟩)
    · rcases h with h | ⟨h1, _⟩ <;> omega
    · rcases h with h | ⟨_, h2⟩
      · omega
      · exact lt_cast h2 q2
theorem step_sort {o : List Nat} {m : Nat} : ∀ {rows : List Way}, (∀ w ∈ rows, w.length = m) → rows.Pairwise (· < ·) → (stepW o rows).Pairwise (· < ·)
  | [], _, _ => .nil
  | w :: rows, hl, h => by
    obtain ⟨h1, h2⟩ := List.pairwise_cons.mp h
    show (((nextW o (w.getLastD 0)).map fun x => w ++ [x]) ++ stepW o rows).Pairwise _
    rw [List.pairwise_append]
    refine ⟨?_, step_sort (fun v hv => hl v (List.mem_cons_of_mem _ hv)) h2, fun a ha b hb => ?_⟩
    · unfold nextW
      simp only [List.map_cons, List.map_nil]
      refine List.pairwise_cons.mpr ⟨fun b hb => ?_, List.pairwise_singleton _ _⟩
      have e : b = _ := List.mem_singleton.mp hb
      subst e
      exact lt_snoc (Nat.lt_succ_self _)
    · obtain ⟨x, _, rfl⟩ := List.mem_map.mp ha
      obtain ⟨v, hv, hb⟩ := List.mem_flatMap.mp hb
      obtain ⟨y, _, rfl⟩ := List.mem_map.mp hb
      exact lt_app (by rw [hl w List.mem_cons_self, hl v (List.mem_cons_of_mem _ hv)]) (h1 v hv)
theorem from_sort {k j : Nat} (hk : k = 2 * j) : ∀ {os : List (List Nat)} {m : Nat} {rows : List Way}, 0 < m → (∀ o ∈ os, IsOrd k o) → (∀ w ∈ rows, WOk k m w) → rows.Pairwise (· < ·) → (allFrom os rows).Pairwise (· < ·)
  | [], _, _, _, _, _, h => h
  | o :: os, m, rows, hm, ho, hr, h => from_sort hk (m := m + 1) (rows := stepW o rows) (Nat.succ_pos m) (fun o' h' => ho o' (List.mem_cons_of_mem _ h')) (step_ok hk hm (ho o List.mem_cons_self) hr) (step_sort (fun w hw => (hr w hw).len) h)
theorem all_sort {n : Net} (h : NetOk n) {b : Nat} (hb : b < n.k) : (allW n b).Pairwise (· < ·) := by
  obtain ⟨j, hk, _⟩ := h.k2
  refine from_sort hk (Nat.succ_pos 0) h.os (beg_ok hk hb) (List.pairwise_cons.mpr ⟨fun v hv => ?_, List.pairwise_singleton _ _⟩)
  have e : v = _ := List.mem_singleton.mp hv
  subst e
  exact lt_snoc (w := []) (Nat.lt_succ_self _)
theorem W_sort {n : Net} (h : NetOk n) {b e : Nat} (hb : b < n.k) : (Wn n b e).Pairwise (· < ·) := (all_sort h hb).filter _
theorem sorted_data_le {ws : List Way} (h : ws.Pairwise (· < ·)) : (ws.map dT).Pairwise (fun a b => PySem.W.dataLe false id a b = true) := by
  rw [List.pairwise_map]
  refine h.imp fun {a b} hab => ?_
  show (!PySem.W.dataLt (dT b) (dT a)) = true
  rw [dT_ints, dT_ints, PySem.W.dataLt_tuple]
  have e := PySem.W.dataLt_ints (b.map Int.ofNat) (a.map Int.ofNat)
  unfold PySem.W.rowLt at e
  rw [e, decide_eq_false (lt_cast hab)]
  rfl
theorem alike_ints : ∀ (a b : List Nat), PySem.W.alikeAll (a.map dI) (b.map dI) = true
  | [], _ => by simp [PySem.W.alikeAll]
  | _ :: _, [] => by simp [PySem.W.alikeAll]
  | x :: a, y :: b => by
    rw [List.map_cons, List.map_cons, PySem.W.alikeAll, alike_ints a b]
    simp [PySem.W.alike, dI]
theorem alike_ways (ws : List Way) : PySem.W.AllAlike (ws.map dT) := PySem.W.AllAlike.of fun a b => by
  unfold dT
  simp only [PySem.W.alike]
  exact alike_ints a b
theorem sortable_ways {ws : List Way} (h : ∀ w ∈ ws, w ≠ []) : PySem.W.Sortable (ws.map dT) := .inl fun d hd => by
  obtain ⟨w, hw, rfl⟩ := List.mem_map.mp hd
  cases w with
  | nil => exact absurd rfl (h [] hw)
  | cons x w => exact ⟨dI x, w.map dI, rfl⟩
theorem depth_ways {ws : List Way} : ∀ d ∈ ws.map dT, d.depth ≤ 8 := fun d hd => by
  obtain ⟨w, hw, rfl⟩ := List.mem_map.mp hd
  exact Nat.le_trans (shp_dT (n := 0) w).2 (by decide)
section
variable {K : PySem.W.Frag} {M : MS} {L : Own} {ds : DS} {te : TE}
theorem ev_sortedW {n : Net} (hn : NetOk n) {b e : Nat} (hb : b < n.k) (h : EvR M L te ds (.list ((Wn n b e).map dT))) : EvD M L (tCB (rSortD K) (tCons te tNil)) ds (.list ((Wn n b e).map dT)) :=
  ev_sorted h (alike_ways _) (sortable_ways fun w hw => (W_ok hn hb w hw).ne) depth_ways (sorted_data_le (W_sort hn hb))
end
end Kd
/-! Comprehensions over lists that stand for plain lists; ranges, enumerations as plain lists. -/
namespace Kd
open PySem L2
/-- the targets of a pair, of a name -/
def Fp (i j : Nat) (x : PyData) (ds : DS) : DS := match x with
  | .tuple [a, b] => (ds.set i (some (.dat a))).set j (some (.dat b))
  | _ => ds
def Fn (i : Nat) (x : PyData) (ds : DS) : DS := ds.set i (some (.dat x))
def enumN {α : Type} (k : Nat) : List α → List (Nat × α)
  | [] => []
  | x :: xs => (k, x) :: enumN (k + 1) xs
theorem enumN_map {α : Type} (enc : α → PyData) : ∀ (l : List α) (k : Nat), enumFrom k (l.map enc) = (enumN k l).map fun p => .tuple [dI p.1, enc p.2]
  | [], _ => rfl
  | x :: xs, k => by
    rw [List.map_cons, enumFrom, enumN, List.map_cons, enumN_map enc xs (k + 1)]
    rfl
theorem enumN_len {α : Type} : ∀ (l : List α) (k : Nat), (enumN k l).length = l.length
  | [], _ => rfl
  | x :: xs, k => by rw [enumN, List.length_cons, List.length_cons, enumN_len xs]
theorem enumN_get {α : Type} : ∀ (l : List α) (k i : Nat), (enumN k l)[i]? = (l[i]?).map fun x => (k + i, x)
  | [], _, _ => rfl
  | x :: xs, k, 0 => rfl
  | x :: xs, k, i + 1 => by
    rw [enumN, List.getElem?_cons_succ, List.getElem?_cons_succ, enumN_get xs (k + 1) i]
    congr 1
    funext y
    rw [show k + 1 + i = k + (i + 1) by omega]
theorem enumN_mem {α : Type} {l : List α} {k : Nat} {p : Nat × α} : p ∈ enumN k l ↔ ∃ i, l[i]? = some p.2 ∧ p.1 = k + i := by
  constructor
  · intro h
    obtain ⟨i, hi⟩ := List.mem_iff_getElem?.mp h
    rw [enumN_get] at hi
    cases e : l[i]? with
    | none => rw [e] at hi; cases hi
    | some x => rw [e] at hi; cases hi; exact ⟨i, e, rfl⟩
  · rintro ⟨i, h1, h2⟩
    refine List.mem_iff_getElem?.mpr ⟨i, ?_⟩
    rw [enumN_get, h1]
    obtain ⟨a, b⟩ := p
    cases h2
    rfl
theorem rng0 (k : Nat) : rngD 0 (k : Int) = (List.range k).map dI := by
  unfold rngD dI
  rw [show ((k : Int) - 0).toNat = k by omega]
  refine List.map_congr_left fun i _ => ?_
  rw [Int.zero_add]
theorem rng1 (a k : Nat) : rngD (a : Int) ((a + k : Nat) : Int) = (List.range k).map fun i => dI (a + i) := by
  unfold rngD dI
  rw [show (((a + k : Nat) : Int) - (a : Int)).toNat = k by omega]
  refine List.map_congr_left fun i _ => ?_
  rw [← Int.natCast_add]
def unI : PyData → Nat
  | .int i => i.toNat
  | _ => 0
def unT : PyData → List Nat
  | .tuple l => l.map unI
  | _ => []
theorem unI_dI (n : Nat) : unI (dI n) = n := rfl
theorem unT_dT (l : List Nat) : unT (dT l) = l := by
  show (l.map dI).map unI = l
  rw [List.map_map]
  show l.map (fun n => unI (dI n)) = l
  simp [unI_dI]
theorem filter_map {α β : Type} (p : β → Bool) (g : α → β) (l : List α) : (l.map g).filter p = (l.filter fun a => p (g a)).map g := by
  induction l with
  | nil => rfl
  | cons a l ih =>
    rw [List.map_cons, List.filter_cons, List.filter_cons, ih]
    by_cases h : p (g a) = true
    · rw [if_pos h, if_pos h, List.map_cons]
    · rw [if_neg h, if_neg h]
section
variable {bw : Bool} {K : PySem.W.Frag} {M : MS} {L : Own} {ds : DS} {te ta tb tc : TE} {tt tu : TT} {tA tB' : TA} {x y z d : PyData} {f f' f1 f2 : Nat} {es gs items : List PyData} {wi : TI} {g : TG}
theorem ev_lcM {α : Type} {enc : α → PyData} {l : List α} {js vs : List Nat} {F : PyData → DS → DS} (keep : α → Bool) (val : α → PyData) (hi : EvI bw M L wi ds (l.map enc)) (hj : ∀ j ∈ js, j ∈ vs) (tg : ∀ a ∈ l, TgD bw M g js (enc a) (F (enc a))) (hl : l.length ≤ 40000)
    (hs : ∀ a ∈ l, EvB M L tt (F (enc a) (wipeD ds vs)) (keep a) ∧ (keep a = true → EvD M L te (F (enc a) (wipeD ds vs)) (val a))) : EvD M L (tLc wi g tt te vs) ds (.list ((l.filter keep).map val)) := EvD.ofN fun f => by
  refine (en_lc (f' := f) hi hj (fun x hx => by obtain ⟨a, ha, rfl⟩ := List.mem_map.mp hx; exact tg a ha) (fun i f1 acc => f1 = f ∧ acc = ((l.take i).filter keep).map val) ⟨rfl, by simp⟩ (fun i f1 acc h => ?_) (fun i x acc f1 D hx h => ?_) (fun f1 acc h => by omega)).imp ?_
  · rw [h.2, List.length_map]
    have h1 := List.length_filter_le keep (l.take i)
    rw [List.length_take] at h1
    omega
  · obtain ⟨rfl, rfl⟩ := h
    rw [List.getElem?_map] at hx
    cases ea : l[i]? with
    | none => rw [ea] at hx; cases hx
    | some a =>
      rw [ea] at hx
      cases hx
      obtain ⟨h1, h2⟩ := hs a (List.mem_of_getElem? ea)
      have tk : l.take (i + 1) = l.take i ++ [a] := by
        obtain ⟨hi', e⟩ := List.getElem?_eq_some_iff.mp ea
        rw [← e, List.take_append_getElem hi']
      have hk : ∀ b, keep a = b → ((l.take (i + 1)).filter keep).map val = ((l.take i).filter keep).map val ++ (if b then [val a] else []) := fun b hb => by
        rw [tk, List.filter_append, List.map_append]
        congr 1
        cases b <;> simp [hb]
      refine ⟨f1, fun b => b = keep a, fun L' s => (h1.n (P := fun b => b = keep a) rfl) L' (fun q hq => s q (List.mem_cons_of_mem _ hq)), fun hb => ⟨rfl, ?_⟩, fun hb => ⟨f1, fun r => r = val a, fun L' s => ((h2 hb.symm).n (P := fun r => r = val a) rfl) L' (fun q hq => s q (List.mem_cons_of_mem _ hq)), fun r hr => ⟨rfl, ?_⟩⟩⟩
      · rw [hk false hb.symm]; simp
      · subst hr; rw [hk true hb.symm]; simp
  · rintro d ⟨acc, f1, rfl, _, h⟩
    rw [h, List.length_map, List.take_length]
theorem ev_lcAllM {α : Type} {enc : α → PyData} {l : List α} {js vs : List Nat} {F : PyData → DS → DS} (val : α → PyData) (hi : EvI bw M L wi ds (l.map enc)) (hj : ∀ j ∈ js, j ∈ vs) (tg : ∀ a ∈ l, TgD bw M g js (enc a) (F (enc a))) (hl : l.length ≤ 40000)
    (hs : ∀ a ∈ l, EvD M L te (F (enc a) (wipeD ds vs)) (val a)) : EvD M L (tLc wi g tYes te vs) ds (.list (l.map val)) :=
  (ev_lcM (fun _ => true) val hi hj tg hl fun x hx => ⟨eb_yes, fun _ => hs x hx⟩).is (by rw [List.filter_eq_self.mpr fun _ _ => rfl])
theorem ev_lc2M {α β : Type} {enc : α → PyData} {enc2 : β → PyData} (dec : PyData → α) (dec2 : PyData → β) (hd : ∀ a, dec (enc a) = a) (hd2 : ∀ a, dec2 (enc2 a) = a) {bw1 : Bool} {l : List α} {js vs js1 vs1 : List Nat} {F F1 : PyData → DS → DS} {wi1 : TI} {g1 : TG} (items2 : α → List β) (val : α → β → PyData)
    (hi : EvI bw M L wi ds (l.map enc)) (hj : ∀ j ∈ js, j ∈ vs) (tg : ∀ a ∈ l, TgD bw M g js (enc a) (F (enc a)))
    (hi1 : ∀ a ∈ l, EvI bw1 M L wi1 (F (enc a) (wipeD ds vs)) ((items2 a).map enc2)) (hj1 : ∀ j ∈ js1, j ∈ vs1) (tg1 : ∀ a ∈ l, ∀ y ∈ items2 a, TgD bw1 M g1 js1 (enc2 y) (F1 (enc2 y))) (hl : (l.flatMap fun x => (items2 x).map (val x)).length ≤ 40000)
    (hs : ∀ a ∈ l, ∀ y ∈ items2 a, EvD M L te (F1 (enc2 y) (wipeD (F (enc a) (wipeD ds vs)) vs1)) (val a y)) : EvD M L (tLc2 wi g tYes wi1 g1 tYes te vs vs1) ds (.list (l.flatMap fun x => (items2 x).map (val x))) := by
  have e : ((l.map enc).flatMap fun x => ((items2 (dec x)).map enc2).map fun y => val (dec x) (dec2 y)) = l.flatMap fun x => (items2 x).map (val x) := by
    rw [List.flatMap_map]
    congr 1
    funext a
    rw [List.map_map, hd]
    congr 1
    funext y
    show val a (dec2 (enc2 y)) = _
    rw [hd2]
  refine (ev_lc2 (bw1 := bw1) (F := F) (F1 := F1) (fun x => (items2 (dec x)).map enc2) (fun x y => val (dec x) (dec2 y)) hi hj (fun x hx => by obtain ⟨a, ha, rfl⟩ := List.mem_map.mp hx; exact tg a ha) (fun x hx => ?_) hj1 (fun x hx y hy => ?_) (by rw [e]; exact hl) (fun x hx y hy => ?_)).is (by rw [e])
  · obtain ⟨a, ha, rfl⟩ := List.mem_map.mp hx
    rw [hd]; exact hi1 a ha
  · obtain ⟨a, ha, rfl⟩ := List.mem_map.mp hx
    rw [hd] at hy
    obtain ⟨b, hb, rfl⟩ := List.mem_map.mp hy
    exact tg1 a ha b hb
  · obtain ⟨a, ha, rfl⟩ := List.mem_map.mp hx
    rw [hd] at hy ⊢
    obtain ⟨b, hb, rfl⟩ := List.mem_map.mp hy
    rw [hd2]; exact hs a ha b hb
end
end Kd
/-! The rules once more, the fragment named (within comprehensions it must be). -/
namespace Kd
open PySem PySem.Spec PyProof.Rows L2
section
variable {X : Cx} (K : PySem.W.Frag)
theorem kIx (h : X.K = K := by rfl) : IxR X (rIxG K) := by subst h; exact ix_G
theorem kAdd (h : X.K = K := by rfl) : OpR X (binaryOp .Add) (rAddG K) := by subst h; exact op_addG
theorem kMul (h : X.K = K := by rfl) : OpR X (binaryOp .Mult) (rMulG K) := by subst h; exact op_mulG
theorem kLt (hu : X.A.units < cLine) (h : X.K = K := by rfl) : OpR X (compareOp .Lt) (rLtG K) := by subst h; exact op_ltG hu
theorem kEq (hu : X.A.units + 64 < cLine) (h : X.K = K := by rfl) : OpR X (compareOp .Eq) (rEqD K) := by subst h; exact op_eqD hu
theorem kNe (hu : X.A.units + 64 < cLine) (h : X.K = K := by rfl) : OpR X (compareOp .NotEq) (rNeD K) := by subst h; exact op_neD hu
theorem kIn {k : Nat} (hr : Room k X.A) (h : X.K = K := by rfl) : OpR X (compareOp .In) (rInG K) := by subst h; exact op_inG hr
theorem kNi {k : Nat} (hr : Room k X.A) (h : X.K = K := by rfl) : OpR X (compareOp .NotIn) (rNiG K) := by subst h; exact op_notInG hr
theorem kLen (h : X.K = K := by rfl) : CallR X (.builtin "len") (rLenG K) := by subst h; exact call_len
theorem kRepr {k : Nat} (hg : X.A.guards = some []) (hr : Room k X.A) (h : X.K = K := by rfl) : CallR X (.builtin "repr") (rRepr K) := by subst h; exact call_reprD hg hr
theorem kAll (hc : X.calm = true) (h : X.K = K := by rfl) : CallR X (.builtin "all") (rAll K) := by subst h; exact cr_all hc
theorem kAny (hc : X.calm = true) (h : X.K = K := by rfl) : CallR X (.builtin "any") (rAny K) := by subst h; exact cr_any hc
theorem kSorted {k : Nat} (hr : Room k X.A) (h : X.K = K := by rfl) : CallR X (.builtin "sorted") (rSortD K) := by subst h; exact cr_sortedD hr
theorem kIsi (h : X.K = K := by rfl) : CallR X (.builtin "isinstance") (rIsi K) := by subst h; exact call_isi
theorem kTuple (h : X.K = K := by rfl) : CallR X (.type "tuple") (rTupleX K) := by subst h; exact call_tupleX
theorem kSl (h : X.K = K := by rfl) : SlR X (rSlG K) := by subst h; exact sl_G
variable {e e2 tg l : Expr} {te : TE} {ta : TA} {p pos tpos : Pos}
theorem kSeq (he : PE X l te) (h : X.K = K := by rfl) : PI X tg l (iSeq K te) := by subst h; exact pi_seq he
theorem kEnumT (hg : Gl X "enumerate") (hm : X.mg "enumerate" = none) (ha : PA X [e] ta) (h : X.K = K := by rfl) (hs : starEach [e] X.env = [(false, eval e X.env)] := by rfl) : PI X tg (.Call (.Name "enumerate" p) [e] [] pos) (iEnT K ta) := by
  subst h; exact pi_enumT hg hm ha hs
theorem kZip {elts : List Expr} {kk : Nat} (hg : Gl X "zip") (hm : X.mg "zip" = none) (ha : PA X [e, e2] ta) (h : X.K = K := by rfl) (hs : starEach [e, e2] X.env = (false, eval e X.env) :: starEach [e2] X.env := by rfl) (hpl : (backTo pos (starEach [e2] X.env)).any (·.1) = false := by rfl) :
    PI X (.Tuple elts kk tpos) (.Call (.Name "zip" p) [e, e2] [] pos) (RZ.iZipA K ta) := by subst h; exact RZ.pi_zipA hg hm ha hs hpl
theorem kLenSet {p2 q : Pos} (hc : X.calm = true) (hg : Gl X "len") (hm : X.mg "len" = none) (hg2 : Gl X "set") (hm2 : X.mg "set" = none) (ha : PE X e te) (h : X.K = K := by rfl) (na : starEach [e] X.env = (false, eval e X.env) :: starEach [] X.env := by rfl) :
    PE X (.Call (.Name "len" p) [.Call (.Name "set" p2) [e] [] q] [] pos) (tLenSetT K te) := by subst h; exact pe_lenSetT hc hg hm hg2 hm2 ha na
theorem kRevT {k : Nat} {p1 p2 p3 : Pos} (he : PE X e te) (h : X.K = K := by rfl) : PE X (.Subscript e (.Slice none none (some (.UnaryOp .USub (.Constant (.int 1) k p1) p2)) p3) pos) (tRevT K te) := by subst h; exact pe_revT he
theorem kRevL {k : Nat} {p1 p2 p3 : Pos} (he : PE X e te) (h : X.K = K := by rfl) : PE X (.Subscript e (.Slice none none (some (.UnaryOp .USub (.Constant (.int 1) k p1) p2)) p3) pos) (tRevL K te) := by subst h; exact pe_revL he
theorem kStar {es : List Expr} (he : PE X e te) (hr : PA X es ta) (h : X.K = K := by rfl) (hs : starEach (.Starred e p :: es) X.env = (true, eval e X.env) :: starEach es X.env := by rfl) : PA X (.Starred e p :: es) (StX.tStar K te ta) := by subst h; exact StX.pa_star he hr hs
theorem kTup {es : List Expr} {k : Nat} {t : TGs} {n : Nat} (hc : X.calm = true) (hp : PGs X es t) (h : X.K = K := by rfl) (hn : (assignEach es X.env).length = n := by rfl) (hst : (assignEach es X.env).findIdx? (·.1) = none := by rfl) : PG X (.Tuple es k pos) (gTup K n t) := by subst h; exact pg_tup hc hp hn hst
theorem kIndex {o : Expr} {to : TE} {apos cpos : Pos} (ho : PE X o to) (ha : PA X [e] ta) (h : X.K = K := by rfl)
    (hbase : attributeBase o "index" X.env (eval o X.env) = eval o X.env := by rfl)
    (hfew : ((backTo cpos (starEach [e] X.env)).all (fun x => !x.1) && (backToKw cpos (keywordEach [] X.env)).all (fun x => x.1.isSome) && decide ([e].length + ([] : List Keyword).length + (if ([] : List Keyword).isEmpty then 0 else 1) < 30)) = true := by rfl)
    (hline : (apos.endLine == cpos.line) = true := by rfl) (hs : starEach [e] X.env = (false, eval e X.env) :: starEach [] X.env := by rfl) :
    PE X (.Call (.Attribute o "index" apos) [e] [] cpos) (tTupIx K to ta) := by subst h; exact pe_tupIndex ho ha hbase hfew hline hs
end
end Kd
/-! Which words are ways. -/
namespace Kd
open PySem L2
/-- u goes on from x -/
def Pth : List (List Nat) → Nat → List Nat → Prop
  | [], _, u => u = []
  | o :: os, x, u => ∃ y u', u = y :: u' ∧ y ∈ nextW o x ∧ Pth os y u'
theorem last_snoc (v : Way) (y : Nat) : (v ++ [y]).getLastD 0 = y := by
  rw [List.getLastD_eq_getLast?, List.getLast?_append]
  rfl
theorem mem_from : ∀ (os : List (List Nat)) (rows : List Way) (w : Way), w ∈ allFrom os rows ↔ ∃ v ∈ rows, ∃ u, w = v ++ u ∧ Pth os (v.getLastD 0) u
  | [], rows, w => by
    constructor
    · intro h; exact ⟨w, h, [], by simp, rfl⟩
    · rintro ⟨v, hv, u, rfl, hu⟩
      have : u = [] := hu
      subst this
      show v ++ [] ∈ rows
      rw [List.append_nil]
      exact hv
  | o :: os, rows, w => by
    show w ∈ allFrom os (stepW o rows) ↔ _
    rw [mem_from os]
    constructor
    · rintro ⟨v', hv', u', rfl, hu'⟩
      obtain ⟨v, hv, h⟩ := List.mem_flatMap.mp hv'
      obtain ⟨y, hy, rfl⟩ := List.mem_map.mp h
      rw [last_snoc] at hu'
      exact ⟨v, hv, y :: u', by simp, y, u', rfl, hy, hu'⟩
    · rintro ⟨v, hv, u, rfl, y, u', rfl, hy, hu'⟩
      refine ⟨v ++ [y], List.mem_flatMap.mpr ⟨v, hv, List.mem_map.mpr ⟨y, hy, rfl⟩⟩, u', by simp, ?_⟩
      rw [last_snoc]
      exact hu'
theorem mem_all {n : Net} {b : Nat} {w : Way} : w ∈ allW n b ↔ ∃ x u, w = x :: u ∧ x / 2 = b / 2 ∧ Pth n.os x u := by
  unfold allW
  rw [mem_from]
  have e : ∀ v, v ∈ begW b ↔ ∃ x, v = [x] ∧ x / 2 = b / 2 := fun v => by
    unfold begW ev2
    constructor
    · intro h
      rcases List.mem_cons.mp h with rfl | h
      · exact ⟨_, rfl, by omega⟩
      · have := List.mem_singleton.mp h
        subst this
        exact ⟨_, rfl, by omega⟩
    · rintro ⟨x, rfl, hx⟩
      have : x = 2 * (b / 2) ∨ x = 2 * (b / 2) + 1 := by omega
      rcases this with h | h <;> rw [h] <;> simp
  constructor
  · rintro ⟨v, hv, u, rfl, hu⟩
    obtain ⟨x, rfl, hx⟩ := (e v).mp hv
    exact ⟨x, u, rfl, hx, hu⟩
  · rintro ⟨x, u, rfl, hx, hu⟩
    exact ⟨[x], (e _).mpr ⟨x, rfl, hx⟩, u, rfl, hu⟩
theorem pth_iff : ∀ (os : List (List Nat)) (x : Nat) (u : List Nat), Pth os x u ↔ u.length = os.length ∧ ∀ i, i < os.length → (x :: u).getD (i + 1) 0 ∈ nextW (os.getD i []) ((x :: u).getD i 0)
  | [], x, u => by
    constructor
    · intro h
      have : u = [] := h
      subst this
      exact ⟨rfl, fun i hi => absurd hi (Nat.not_lt_zero i)⟩
    · rintro ⟨h, _⟩
      exact List.eq_nil_of_length_eq_zero h
  | o :: os, x, u => by
    constructor
    · rintro ⟨y, u', rfl, hy, hu⟩
      obtain ⟨h1, h2⟩ := (pth_iff os y u').mp hu
      refine ⟨by simp [h1], fun i hi => ?_⟩
      cases i with
      | zero => exact hy
      | succ i =>
        have := h2 i (by simpa using hi)
        simpa using this
    · rintro ⟨h1, h2⟩
      cases u with
      | nil => simp at h1
      | cons y u' =>
        refine ⟨y, u', rfl, h2 0 (by simp), (pth_iff os y u').mpr ⟨by simpa using h1, fun i hi => ?_⟩⟩
        have := h2 (i + 1) (by simpa using hi)
        simpa using this
end Kd
/-! Broken out-wires, twins, wires of all ways, papers: in plain words and as data. -/
namespace Kd
open PySem L2
abbrev Spots := List (Nat × Nat)
def dP (p : Nat × Nat) : PyData := .tuple [dI p.1, dI p.2]
def dL (L : Spots) : PyData := .tuple (L.map dP)
def UpP (p q : Nat × Nat) : Prop := p.1 < q.1 ∨ p.1 = q.1 ∧ p.2 < q.2
structure BrkOk (n : Net) (L : Spots) : Prop where
  ok : ∀ p ∈ L, p.1 ≤ n.os.length ∧ p.2 < n.k
  up : L.Pairwise UpP
  len : L.length ≤ 1000
theorem dP_dT (p : Nat × Nat) : dP p = dT [p.1, p.2] := rfl
theorem eqv_dP (p q : Nat × Nat) : PyData.eqv (dP p) (dP q) = decide (p = q) := by
  rw [dP_dT, dP_dT, eqv_dT]
  by_cases h : p = q
  · subst h; simp
  · have : ¬ [p.1, p.2] = [q.1, q.2] := fun e => h (by
      obtain ⟨a, b⟩ := p
      obtain ⟨c, d⟩ := q
      simp at e
      rw [e.1, e.2])
    rw [decide_eq_false h, decide_eq_false this]
theorem shp_dP {n : Nat} (p : Nat × Nat) : Shp (n + 1) (dP p) := shp_dT [p.1, p.2]
theorem any_dP (L : Spots) (p : Nat × Nat) : ((L.map dP).any fun z => PyData.eqv z (dP p)) = decide (p ∈ L) := by
  rw [Bool.eq_iff_iff, List.any_eq_true, decide_eq_true_iff]
  constructor
  · rintro ⟨z, hz, he⟩
    obtain ⟨x, hx, rfl⟩ := List.mem_map.mp hz
    rw [eqv_dP, decide_eq_true_iff] at he
    exact he ▸ hx
  · intro h
    exact ⟨dP p, List.mem_map.mpr ⟨p, h, rfl⟩, by rw [eqv_dP]; simp⟩
theorem enum_way (w : Way) (k : Nat) : enumFrom k (w.map dI) = (enumN k w).map dP := by
  rw [enumN_map]
  rfl
def hitW (L : Spots) (w : Way) : Bool := (enumN 0 w).any fun p => decide (p ∈ L)
def leftW (n : Net) (L : Spots) (b e : Nat) : List Way := (Wn n b e).filter fun w => !hitW L w
def lostRow (n : Net) (L : Spots) (b : Nat) : Spots := ((List.range n.k).filter fun e => decide (Wn n b e ≠ []) && decide (leftW n L b e = [])).map fun e => (b, e)
def lostW (n : Net) (L : Spots) : Spots := (List.range n.k).flatMap (lostRow n L)
def apartW (w v : Way) : Bool := (w.dropLast.zip v.dropLast).all fun q => decide (q.1 ≠ q.2)
def twinsW (ws : List Way) : Option (Way × Way) := ws.findSome? fun w => (ws.find? (apartW w)).map fun v => (w, v)
def commonW (ws : List Way) : Spots := match ws with
  | [] => []
  | w :: _ => ((List.range (w.length - 1)).filter fun r => ws.all fun v => decide (v.getD r 0 = w.getD r 0)).map fun r => (r, w.getD r 0)
def twinsD : Option (Way × Way) → PyData
  | none => .none
  | some (w, v) => .tuple [dT w, dT v]
def paperD (n : Net) (b e : Nat) : PyData :=
  if Wn n b e = [] then .tuple [.str "none"] else match twinsW (Wn n b e) with
    | some (w, v) => .tuple [.str "two", dT w, dT v]
    | none => match commonW (Wn n b e) with
      | p :: _ => .tuple [.str "all", dI p.1, dI p.2]
      | [] => .none
/-- what Menger says of it -/
def MgOk (n : Net) (b e : Nat) : Prop := Wn n b e ≠ [] → twinsW (Wn n b e) = none → commonW (Wn n b e) ≠ []
/-! ### slices -/
theorem cut_from {α : Type} (l : List α) : cutD l (some 1) none = l.tail := by
  unfold cutD
  have e : HT.sIx l.length 0 (some 1) = min 1 l.length := HT.sIx_nat l.length 0 1
  rw [e, HT.sIx_none]
  cases l with
  | nil => rfl
  | cons x l =>
    rw [show min 1 (x :: l).length = 1 by simp, List.drop_one, List.tail_cons]
    exact List.take_of_length_le (by simp)
theorem cut_but {α : Type} (l : List α) : cutD l none (some (-1)) = l.dropLast := by
  unfold cutD
  rw [HT.sIx_none, List.drop_zero, List.dropLast_eq_take]
  congr 1
  show (if (-1 : Int) < 0 then ((-1 : Int) + (l.length : Int)).toNat else min (-1 : Int).toNat l.length) - 0 = _
  rw [if_pos (by decide)]
  omega
theorem tail_map {α β : Type} (g : α → β) (l : List α) : (l.map g).tail = l.tail.map g := by cases l <;> rfl
theorem dropLast_map {α β : Type} (g : α → β) (l : List α) : (l.map g).dropLast = l.dropLast.map g := by
  rw [List.dropLast_eq_take, List.dropLast_eq_take, List.length_map, List.map_take]
theorem zipWith_pairs {α : Type} (g : α → PyData) (l m : List α) : List.zipWith (fun x y => PyData.tuple [x, y]) (l.map g) (m.map g) = (l.zip m).map fun q => .tuple [g q.1, g q.2] := by
  rw [List.zipWith_map, List.zip_eq_zipWith, List.map_zipWith]
/-! ### found first -/
theorem some_at {α β : Type} {g : α → Option β} {l : List α} {i : Nat} {x : α} {y : β} (h : (l.take i).findSome? g = none) (hx : l[i]? = some x) (hy : g x = some y) : l.findSome? g = some y := by
  obtain ⟨hi, e⟩ := List.getElem?_eq_some_iff.mp hx
  have q : l = l.take i ++ x :: l.drop (i + 1) := by rw [← e, List.getElem_cons_drop, List.take_append_drop]
  rw [q, List.findSome?_append, h, List.findSome?_cons, hy]
  rfl
theorem none_at {α β : Type} {g : α → Option β} {l : List α} {i : Nat} {x : α} (h : (l.take i).findSome? g = none) (hx : l[i]? = some x) (hy : g x = none) : (l.take (i + 1)).findSome? g = none := by
  obtain ⟨hi, e⟩ := List.getElem?_eq_some_iff.mp hx
  rw [← List.take_append_getElem hi, List.findSome?_append, h, e, List.findSome?_cons, hy]
  rfl
theorem find_at {α : Type} {g : α → Bool} {l : List α} {i : Nat} {x : α} (h : (l.take i).find? g = none) (hx : l[i]? = some x) (hy : g x = true) : l.find? g = some x := by
  obtain ⟨hi, e⟩ := List.getElem?_eq_some_iff.mp hx
  have q : l = l.take i ++ x :: l.drop (i + 1) := by rw [← e, List.getElem_cons_drop, List.take_append_drop]
  rw [q, List.find?_append, h, List.find?_cons, hy]
  rfl
theorem find_no {α : Type} {g : α → Bool} {l : List α} {i : Nat} {x : α} (h : (l.take i).find? g = none) (hx : l[i]? = some x) (hy : g x = false) : (l.take (i + 1)).find? g = none := by
  obtain ⟨hi, e⟩ := List.getElem?_eq_some_iff.mp hx
  rw [← List.take_append_getElem hi, List.find?_append, h, e, List.find?_cons, hy]
  rfl
theorem shp_ways {n : Nat} (ws : List Way) : Shp (n + 2) (.list (ws.map dT)) := Shp.list (Shp.map fun w _ => shp_dT w)
theorem eqv_nil {α : Type} (g : α → PyData) (l : List α) : PyData.eqv (.list (l.map g)) (.list []) = l.isEmpty := by
  cases l <;> simp [PyData.eqv, PyData.eqvAll]
end Kd
/-! Further readings: int(x), pairs of names, drawn operands. -/
namespace Kd
open PySem L2
theorem dI_eq {z : Int} {n : Nat} (h : z = n) : PyData.int z = dI n := by subst h; rfl
section
variable {K : PySem.W.Frag} {M : MS} {G0 : Hp} {D : Ends} {L : Own} {ds : DS} {te ta tb tc : TE} {tA : TA} {u : TS} {x y z d : PyData} {f f' f1 f2 : Nat} {es gs : List PyData} {i j : Nat}
theorem ev_is {a b : PyData} (h : EvD M L te ds a) (e : a = b) : EvD M L te ds b := e ▸ h
theorem ev_int1 {a : Int} (h : EvR M L te ds (.int a)) : EvD M L (tCB rIntG (tCons te tNil)) ds (.int a) := ev_cb1 h c1_int
theorem go_par (h : EvA M L tA ds [x, y]) (k : Nx M G0 D f L ((ds.set i (some (.dat x))).set j (some (.dat y)))) : Go M G0 D (tPar i j tA) f L ds := fun σ G H e w sl =>
  h f L (Sub.refl L) σ G H w sl _ fun vs G2 H2 e2 w2 d2 => by
    cases d2 with
    | cons d3 d4 =>
      cases d4 with
      | cons d5 d6 =>
        cases d6
        exact ⟨_, _, rfl, k _ G2 H2 (e.trans e2) w2 (((sl.mono e2).set i (sd := .dat x) d3).set j (sd := .dat y) d5)⟩
theorem q_par (h : EvA M L tA ds [x, y]) (k : Go M G0 D u f L ((ds.set i (some (.dat x))).set j (some (.dat y)))) : Go M G0 D (tSeq (tPar i j tA) u) f L ds := go_par (D := { D with nx := u D }) h k
theorem go_parN {P : List PyData → Prop} (h : EvAN M L tA ds f f' P) (hp : ∀ es, P es → ∃ x y, es = [x, y]) (k : ∀ x y, P [x, y] → Nx M G0 D f' L ((ds.set i (some (.dat x))).set j (some (.dat y)))) : Go M G0 D (tPar i j tA) f L ds := fun σ G H e w sl =>
  h L (Sub.refl L) σ G H w sl _ fun vs es G2 H2 e2 w2 p2 d2 => by
    obtain ⟨x, y, rfl⟩ := hp es p2
    cases d2 with
    | cons d3 d4 =>
      cases d4 with
      | cons d5 d6 =>
        cases d6
        exact ⟨_, _, rfl, k x y p2 _ G2 H2 (e.trans e2) w2 (((sl.mono e2).set i (sd := .dat x) d3).set j (sd := .dat y) d5)⟩
theorem q_parN {P : List PyData → Prop} (h : EvAN M L tA ds f f' P) (hp : ∀ es, P es → ∃ x y, es = [x, y]) (k : ∀ x y, P [x, y] → Go M G0 D u f' L ((ds.set i (some (.dat x))).set j (some (.dat y)))) : Go M G0 D (tSeq (tPar i j tA) u) f L ds := go_parN (D := { D with nx := u D }) h hp k
/-- a pair of names, one of them drawn -/
theorem go_asgPN {P : PyData → Prop} {i j : Nat} (h : EvN M L te ds f f' P) (hp : ∀ d, P d → ∃ x y, d = .tuple [x, y]) (k : ∀ x y, P (.tuple [x, y]) → Nx M G0 D f' L ((ds.set i (some (.dat x))).set j (some (.dat y)))) : Go M G0 D (tAsg te (gTup K 2 (gCons (gName i) (gCons (gName j) gNil)))) f L ds := fun σ G H e w sl =>
  h L (Sub.refl L) σ G H w sl _ fun v d G2 H2 e2 w2 p2 d2 => by
    obtain ⟨x, y, rfl⟩ := hp d p2
    exact tg_pair (bw := false) f' L G2 H2 σ ds v w2 (sl.mono e2) (.inl d2) _ fun σ2 sl2 _ => k x y p2 σ2 G2 H2 (e.trans e2) w2 sl2
theorem q_asgPN {P : PyData → Prop} {i j : Nat} (h : EvN M L te ds f f' P) (hp : ∀ d, P d → ∃ x y, d = .tuple [x, y]) (k : ∀ x y, P (.tuple [x, y]) → Go M G0 D u f' L ((ds.set i (some (.dat x))).set j (some (.dat y)))) : Go M G0 D (tSeq (tAsg te (gTup K 2 (gCons (gName i) (gCons (gName j) gNil)))) u) f L ds := go_asgPN (D := { D with nx := u D }) h hp k
theorem go_asgP {te : TE} {i j f : Nat} {x y : PyData} (h : EvD M L te ds (.tuple [x, y])) (k : Nx M G0 D f L ((ds.set i (some (.dat x))).set j (some (.dat y)))) : Go M G0 D (tAsg te (gTup K 2 (gCons (gName i) (gCons (gName j) gNil)))) f L ds := fun σ G H e w sl =>
  h f L (Sub.refl L) σ G H w sl _ fun v G2 H2 e2 w2 d2 => tg_pair (bw := false) f L G2 H2 σ ds v w2 (sl.mono e2) (.inl d2) _ fun σ2 sl2 _ => k σ2 G2 H2 (e.trans e2) w2 sl2
theorem q_asgP {te : TE} {u : TS} {i j f : Nat} {x y : PyData} (h : EvD M L te ds (.tuple [x, y])) (k : Go M G0 D u f L ((ds.set i (some (.dat x))).set j (some (.dat y)))) : Go M G0 D (tSeq (tAsg te (gTup K 2 (gCons (gName i) (gCons (gName j) gNil)))) u) f L ds := go_asgP (D := { D with nx := u D }) h k
theorem q_for {bw : Bool} {items : List PyData} {wi : TI} {g : TG} {t v : TS} {js : List Nat} {F : PyData → DS → DS} (hi : EvI bw M L wi ds items) (tg : ∀ x ∈ items, TgD bw M g js x (F x)) (Iv : Nat → Nat → Own → DS → Prop) (h0 : Iv 0 f L ds)
    (hs : ∀ G1, Ex G0 G1 → ∀ i x f1 L1 ds1, items[i]? = some x → Iv i f1 L1 ds1 → Go M G1 { { D with nx := v D } with nx := IvP M G1 Iv (i + 1), ct := IvP M G1 Iv (i + 1), bk := v D } t f1 L1 (F x ds1))
    (hd : ∀ f1 L1 ds1, Iv items.length f1 L1 ds1 → Go M G0 D v f1 L1 ds1) : Go M G0 D (tSeq (tFor wi g t) v) f L ds := go_for (D := { D with nx := v D }) hi tg Iv h0 hs hd
end
theorem take_snoc {α : Type} {l : List α} {i : Nat} {x : α} (h : l[i]? = some x) : l.take (i + 1) = l.take i ++ [x] := by
  obtain ⟨hi, e⟩ := List.getElem?_eq_some_iff.mp h
  rw [← e, List.take_append_getElem hi]
end Kd
/-! Orders: what is a permutation, and stays one. -/
namespace Kd
theorem getD_of {l : List Nat} {i : Nat} (h : i < l.length) : l[i]? = some (l.getD i 0) := by
  rw [List.getD_eq_getElem?_getD, List.getElem?_eq_getElem h]; rfl
theorem nodup_get {o : List Nat} : o.Nodup ↔ ∀ i j, i < j → j < o.length → o[i]? ≠ o[j]? := by
  unfold List.Nodup
  rw [List.pairwise_iff_getElem]
  constructor
  · intro h i j hij hj e
    rw [List.getElem?_eq_getElem (by omega), List.getElem?_eq_getElem hj] at e
    exact h i j (by omega) hj hij (Option.some.inj e)
  · intro h i j hi hj hij e
    exact h i j hij hj (by rw [List.getElem?_eq_getElem hi, List.getElem?_eq_getElem hj, e])
theorem ord_of {k : Nat} {o : List Nat} (h1 : o.length = k) (h2 : ∀ i, i < k → o.getD i 0 < k) (h3 : ∀ i j, i < k → j < k → o.getD i 0 = o.getD j 0 → i = j) : IsOrd k o := by
  refine ⟨h1, ?_, fun x hx => ?_⟩
  · rw [nodup_get]
    intro i j hij hj
    rw [getD_of (show i < o.length by omega), getD_of hj]
    intro e
    have := h3 i j (by omega) (by omega) (Option.some.inj e)
    omega
  · obtain ⟨i, hi⟩ := List.mem_iff_getElem?.mp hx
    have hl := (List.getElem?_eq_some_iff.mp hi).1
    rw [getD_of hl] at hi
    rw [← Option.some.inj hi]
    exact h2 i (by omega)
theorem IsOrd.inj {k : Nat} {o : List Nat} (h : IsOrd k o) {i j : Nat} (hi : i < k) (hj : j < k) (e : o.getD i 0 = o.getD j 0) : i = j := by
  have hn := h.nd
  rw [nodup_get] at hn
  have hl := h.len
  rcases Nat.lt_trichotomy i j with q | q | q
  · exact absurd (by rw [getD_of (by omega), getD_of (by omega), e]) (hn i j q (by omega))
  · exact q
  · exact absurd (by rw [getD_of (by omega), getD_of (by omega), e]) (hn j i q (by omega))
theorem IsOrd.at {k : Nat} {o : List Nat} (h : IsOrd k o) {i : Nat} (hi : i < k) : o.getD i 0 < k := (h.get hi).2
theorem nodup_len : ∀ {k : Nat} {o : List Nat}, o.Nodup → (∀ x ∈ o, x < k) → o.length ≤ k
  | 0, o, _, h => by
    cases o with
    | nil => exact Nat.le_refl _
    | cons x o => exact absurd (h x List.mem_cons_self) (Nat.not_lt_zero _)
  | k + 1, o, hn, h => by
    by_cases hk : k ∈ o
    · have h1 : (o.erase k).length = o.length - 1 := List.length_erase_of_mem hk
      have h2 := nodup_len (k := k) (o := o.erase k) (hn.erase k) fun x hx => by
        have hx2 := List.mem_of_mem_erase hx
        have := h x hx2
        have hne : x ≠ k := fun e => by
          rw [e] at hx
          exact (List.Nodup.not_mem_erase hn) hx
        omega
      omega
    · have := nodup_len (k := k) (o := o) hn fun x hx => by
        have := h x hx
        have hne : x ≠ k := fun e => hk (e ▸ hx)
        omega
      omega
theorem IsOrd.has {k : Nat} {o : List Nat} (h : IsOrd k o) {x : Nat} (hx : x < k) : x ∈ o := by
  by_cases hm : x ∈ o
  · exact hm
  · exfalso
    have hk : 0 < k := by omega
    have h1 : (o.map fun y => if y = k - 1 then x else y).Nodup := by
      rw [nodup_get]
      intro i j hij hj
      rw [List.length_map] at hj
      rw [List.getElem?_map, List.getElem?_map, getD_of (show i < o.length by omega), getD_of hj]
      intro e
      have e' : (if o.getD i 0 = k - 1 then x else o.getD i 0) = (if o.getD j 0 = k - 1 then x else o.getD j 0) := Option.some.inj e
      have m1 : o.getD i 0 ∈ o := List.mem_of_getElem? (getD_of (by omega))
      have m2 : o.getD j 0 ∈ o := List.mem_of_getElem? (getD_of hj)
      have n1 : o.getD i 0 ≠ x := fun q => hm (q ▸ m1)
      have n2 : o.getD j 0 ≠ x := fun q => hm (q ▸ m2)
      have hl := h.len
      have : o.getD i 0 = o.getD j 0 := by
        by_cases a : o.getD i 0 = k - 1 <;> by_cases b : o.getD j 0 = k - 1
        · rw [a, b]
        · rw [if_pos a, if_neg b] at e'; exact absurd e'.symm n2
        · rw [if_neg a, if_pos b] at e'; exact absurd e' n1
        · rw [if_neg a, if_neg b] at e'; exact e'
      have := h.inj (by omega) (by omega) this
      omega
    have h2 := nodup_len (k := k - 1) h1 fun y hy => by
      obtain ⟨z, hz, rfl⟩ := List.mem_map.mp hy
      have := h.lt z hz
      by_cases a : z = k - 1
      · rw [if_pos a]
        have : x ≠ k - 1 := fun q => hm (by rw [q, ← a]; exact hz)
        omega
      · rw [if_neg a]; omega
    rw [List.length_map, h.len] at h2
    omega
theorem IsOrd.sur {k : Nat} {o : List Nat} (h : IsOrd k o) {x : Nat} (hx : x < k) : ∃ i, i < k ∧ o.getD i 0 = x := by
  obtain ⟨i, hi⟩ := List.mem_iff_getElem?.mp (h.has hx)
  have hl := (List.getElem?_eq_some_iff.mp hi).1
  rw [getD_of hl] at hi
  exact ⟨i, by rw [← h.len]; exact hl, Option.some.inj hi⟩
/-! ### the inverse -/
def backO (o : List Nat) : List Nat := (List.range o.length).map fun k => o.idxOf k
theorem idx_at {k : Nat} {o : List Nat} (h : IsOrd k o) {x : Nat} (hx : x < k) : o[o.idxOf x]? = some x ∧ ∀ m, m < o.idxOf x → o[m]? ≠ some x := by
  have hm := h.has hx
  have hlt0 := List.idxOf_lt_length_of_mem hm
  refine ⟨?_, fun m hlt e => ?_⟩
  · rw [List.getElem?_eq_getElem hlt0]
    have := List.findIdx_getElem (p := (· == x)) (xs := o) (w := hlt0)
    exact congrArg some (eq_of_beq this)
  have h2 := List.not_of_lt_findIdx (p := (· == x)) (xs := o) (i := m) hlt
  obtain ⟨hl, e'⟩ := List.getElem?_eq_some_iff.mp e
  simp [e'] at h2
theorem backO_get {k : Nat} {o : List Nat} (h : IsOrd k o) {x : Nat} (hx : x < k) : (backO o).getD x 0 = o.idxOf x := by
  unfold backO
  rw [List.getD_eq_getElem?_getD, List.getElem?_map, List.getElem?_range (by rw [h.len]; exact hx)]
  rfl
theorem back_ok {k : Nat} {o : List Nat} (h : IsOrd k o) : IsOrd k (backO o) := by
  refine ord_of (by unfold backO; rw [List.length_map, List.length_range, h.len]) (fun i hi => ?_) (fun i j hi hj e => ?_)
  · rw [backO_get h hi]
    have := List.idxOf_lt_length_of_mem (h.has hi)
    rw [h.len] at this
    exact this
  · rw [backO_get h hi, backO_get h hj] at e
    have e1 := (idx_at h hi).1
    have e2 := (idx_at h hj).1
    rw [e, e2] at e1
    exact (Option.some.inj e1).symm
/-! ### two places exchanged -/
def bentO (o : List Nat) (i j : Nat) : List Nat := (o.set i (o.getD j 0)).set j (o.getD i 0)
theorem bent_get {o : List Nat} {i j x : Nat} (hi : i < o.length) (hj : j < o.length) (hx : x < o.length) : (bentO o i j).getD x 0 = o.getD (if x = j then i else if x = i then j else x) 0 := by
  unfold bentO
  rw [List.getD_eq_getElem?_getD]
  by_cases h1 : x = j
  · subst h1
    rw [List.getElem?_set_self (by rw [List.length_set]; exact hj), if_pos rfl]
    rfl
  · rw [List.getElem?_set_ne (Ne.symm h1), if_neg h1]
    by_cases h2 : x = i
    · subst h2
      rw [List.getElem?_set_self hi, if_pos rfl]; rfl
    · rw [List.getElem?_set_ne (Ne.symm h2), if_neg h2, List.getD_eq_getElem?_getD]
theorem bent_ok {k : Nat} {o : List Nat} (h : IsOrd k o) {i j : Nat} (hi : i < k) (hj : j < k) : IsOrd k (bentO o i j) := by
  have hl := h.len
  have g := fun x (hx : x < k) => bent_get (o := o) (i := i) (j := j) (x := x) (by omega) (by omega) (by omega)
  have lt : ∀ x, x < k → (if x = j then i else if x = i then j else x) < k := fun x hx => by
    by_cases a : x = j
    · rw [if_pos a]; exact hi
    · rw [if_neg a]
      by_cases b : x = i
      · rw [if_pos b]; exact hj
      · rw [if_neg b]; exact hx
  refine ord_of (by unfold bentO; rw [List.length_set, List.length_set, hl]) (fun x hx => by rw [g x hx]; exact h.at (lt x hx)) (fun x y hx hy e => ?_)
  rw [g x hx, g y hy] at e
  have e2 := h.inj (lt x hx) (lt y hy) e
  by_cases a : x = j <;> by_cases b : x = i <;> by_cases c : y = j <;> by_cases d : y = i <;> simp_all
/-! ### switches' names exchanged -/
def dbl (r : List Nat) (s : Nat) : Nat := 2 * r.getD (s / 2) 0 + s % 2
theorem dbl_lt {h : Nat} {r : List Nat} (hr : IsOrd h r) {s : Nat} (hs : s < 2 * h) : dbl r s < 2 * h := by
  unfold dbl
  have := hr.at (show s / 2 < h by omega)
  omega
theorem dbl_inj {h : Nat} {r : List Nat} (hr : IsOrd h r) {s t : Nat} (hs : s < 2 * h) (ht : t < 2 * h) (e : dbl r s = dbl r t) : s = t := by
  unfold dbl at e
  have e1 : r.getD (s / 2) 0 = r.getD (t / 2) 0 := by omega
  have := hr.inj (show s / 2 < h by omega) (show t / 2 < h by omega) e1
  omega
theorem dbl_sur {h : Nat} {r : List Nat} (hr : IsOrd h r) {x : Nat} (hx : x < 2 * h) : ∃ s, s < 2 * h ∧ dbl r s = x := by
  obtain ⟨i, hi, e⟩ := hr.sur (show x / 2 < h by omega)
  refine ⟨2 * i + x % 2, by omega, ?_⟩
  unfold dbl
  rw [show (2 * i + x % 2) / 2 = i by omega, e]
  omega
def namedStep (r1 r2 : List Nat) (fr : List Nat) (p : Nat × Nat) : List Nat := fr.set (dbl r1 p.1) (dbl r2 p.2)
def namedTo (r1 r2 o : List Nat) (i : Nat) : List Nat := ((enumN 0 o).take i).foldl (namedStep r1 r2) (List.replicate o.length 0)
def namedRow (r1 r2 o : List Nat) : List Nat := namedTo r1 r2 o o.length
theorem namedTo_succ (r1 r2 o : List Nat) (i : Nat) (hi : i < o.length) : namedTo r1 r2 o (i + 1) = (namedTo r1 r2 o i).set (dbl r1 i) (dbl r2 (o.getD i 0)) := by
  unfold namedTo
  have e : (enumN 0 o)[i]? = some (i, o.getD i 0) := by
    rw [enumN_get, getD_of hi, Nat.zero_add]; rfl
  rw [take_snoc e, List.foldl_append]
  rfl
theorem namedTo_len (r1 r2 o : List Nat) : ∀ i, i ≤ o.length → (namedTo r1 r2 o i).length = o.length
  | 0, _ => by unfold namedTo; simp
  | i + 1, h => by rw [namedTo_succ r1 r2 o i (by omega), List.length_set, namedTo_len r1 r2 o i (by omega)]
theorem namedTo_get {h : Nat} {r1 r2 o : List Nat} (hr : IsOrd h r1) (ho : o.length = 2 * h) : ∀ i, i ≤ o.length → ∀ s, s < i → (namedTo r1 r2 o i).getD (dbl r1 s) 0 = dbl r2 (o.getD s 0)
  | 0, _, s, hs => absurd hs (Nat.not_lt_zero _)
  | i + 1, hi, s, hs => by
    rw [namedTo_succ r1 r2 o i (by omega), List.getD_eq_getElem?_getD]
    by_cases e : s = i
    · subst e
      rw [List.getElem?_set_self (by rw [namedTo_len r1 r2 o s (by omega), ho]; exact dbl_lt hr (by omega))]
      rfl
    · rw [List.getElem?_set_ne (fun q => e (dbl_inj hr (by omega) (by omega) q.symm)), ← List.getD_eq_getElem?_getD]
      exact namedTo_get hr ho i (by omega) s (by omega)
theorem named_ok {h : Nat} {r1 r2 o : List Nat} (h1 : IsOrd h r1) (h2 : IsOrd h r2) (ho : IsOrd (2 * h) o) : IsOrd (2 * h) (namedRow r1 r2 o) := by
  have hl := ho.len
  have g := namedTo_get (r2 := r2) h1 hl o.length (Nat.le_refl _)
  refine ord_of (by unfold namedRow; rw [namedTo_len _ _ _ _ (Nat.le_refl _), hl]) (fun i hi => ?_) (fun i j hi hj e => ?_)
  · obtain ⟨s, hs, rfl⟩ := dbl_sur h1 hi
    unfold namedRow
    rw [g s (by omega)]
    exact dbl_lt h2 (ho.at hs)
  · obtain ⟨s, hs, rfl⟩ := dbl_sur h1 hi
    obtain ⟨t, ht, rfl⟩ := dbl_sur h1 hj
    unfold namedRow at e
    rw [g s (by omega), g t (by omega)] at e
    rw [ho.inj hs ht (dbl_inj h2 (ho.at hs) (ho.at ht) e)]
/-! ### pairs exchanged -/
def swapSw (fl o : List Nat) (sw : Nat) : List Nat := if fl.getD sw 0 = 1 then [o.getD (2 * sw + 1) 0, o.getD (2 * sw) 0] else [o.getD (2 * sw) 0, o.getD (2 * sw + 1) 0]
def swapTo (fl o : List Nat) (i : Nat) : List Nat := (List.range i).flatMap (swapSw fl o)
theorem swapTo_succ (fl o : List Nat) (i : Nat) : swapTo fl o (i + 1) = swapTo fl o i ++ swapSw fl o i := by
  unfold swapTo
  rw [List.range_succ, List.flatMap_append, List.flatMap_cons, List.flatMap_nil, List.append_nil]
theorem swapSw_len (fl o : List Nat) (i : Nat) : (swapSw fl o i).length = 2 := by unfold swapSw; split <;> rfl
theorem swapTo_len (fl o : List Nat) : ∀ i, (swapTo fl o i).length = 2 * i
  | 0 => rfl
  | i + 1 => by rw [swapTo_succ, List.length_append, swapTo_len fl o i, swapSw_len]; omega
theorem swapTo_get (fl o : List Nat) : ∀ i s, s < 2 * i → (swapTo fl o i).getD s 0 = o.getD (if fl.getD (s / 2) 0 = 1 then 2 * (s / 2) + (1 - s % 2) else s) 0
  | 0, s, h => by omega
  | i + 1, s, h => by
    rw [swapTo_succ, List.getD_eq_getElem?_getD]
    by_cases hs : s < 2 * i
    · rw [List.getElem?_append_left (by rw [swapTo_len]; exact hs), ← List.getD_eq_getElem?_getD]
      exact swapTo_get fl o i s hs
    · rw [List.getElem?_append_right (by rw [swapTo_len]; omega), swapTo_len]
      have e : s / 2 = i := by omega
      have h01 : s = 2 * i ∨ s = 2 * i + 1 := by omega
      rw [e]
      unfold swapSw
      rcases h01 with rfl | rfl
      · rw [show 2 * i - 2 * i = 0 by omega]
        by_cases hf : fl.getD i 0 = 1
        · rw [if_pos hf, if_pos hf, show 2 * i + (1 - 2 * i % 2) = 2 * i + 1 by omega]; rfl
        · rw [if_neg hf, if_neg hf]; rfl
      · rw [show 2 * i + 1 - 2 * i = 1 by omega]
        by_cases hf : fl.getD i 0 = 1
        · rw [if_pos hf, if_pos hf, show 2 * i + (1 - (2 * i + 1) % 2) = 2 * i by omega]; rfl
        · rw [if_neg hf, if_neg hf]; rfl
theorem swap_ok {h : Nat} {fl o : List Nat} (ho : IsOrd (2 * h) o) : IsOrd (2 * h) (swapTo fl o h) := by
  have lt : ∀ s, s < 2 * h → (if fl.getD (s / 2) 0 = 1 then 2 * (s / 2) + (1 - s % 2) else s) < 2 * h := fun s hs => by split <;> omega
  refine ord_of (swapTo_len fl o h) (fun i hi => by rw [swapTo_get fl o h i hi]; exact ho.at (lt i hi)) (fun i j hi hj e => ?_)
  rw [swapTo_get fl o h i hi, swapTo_get fl o h j hj] at e
  have e2 := ho.inj (lt i hi) (lt j hj) e
  by_cases a : fl.getD (i / 2) 0 = 1 <;> by_cases b : fl.getD (j / 2) 0 = 1
  · rw [if_pos a, if_pos b] at e2; omega
  · rw [if_pos a, if_neg b] at e2
    have : i / 2 = j / 2 := by omega
    rw [this] at a; exact absurd a b
  · rw [if_neg a, if_pos b] at e2
    have : i / 2 = j / 2 := by omega
    rw [this] at a; exact absurd b a
  · rw [if_neg a, if_neg b] at e2; exact e2
end Kd
/-! What is shown: its size; tuples of small numbers are told from what is shown. -/
namespace Kd
open PySem L2
structure Sv (k n : Nat) (d : PyData) : Prop where
  sh : d.showable = true
  nd : d.hasDict = false
  dp : d.depth ≤ k
  ln : d.shown.length ≤ n
theorem Sv.sw {k n m : Nat} {d : PyData} (h : Sv k n d) (hk : k ≤ 64 := by decide) (hn : n ≤ m := by decide) : Sw m d := ⟨h.sh, h.nd, Nat.le_trans h.dp hk, Nat.le_trans h.ln hn⟩
theorem Sv.le {k n k' n' : Nat} {d : PyData} (h : Sv k n d) (hk : k ≤ k' := by decide) (hn : n ≤ n' := by decide) : Sv k' n' d := ⟨h.sh, h.nd, Nat.le_trans h.dp hk, Nat.le_trans h.ln hn⟩
theorem sv_all {k n : Nat} : ∀ {ds : List PyData}, (∀ d ∈ ds, Sv k n d) → PyData.showableAll ds = true ∧ PyData.hasDictAll ds = false ∧ PyData.depthAll ds ≤ k ∧ ((PyData.shownAll ds).map (·.length)).sum ≤ ds.length * n ∧ (PyData.shownAll ds).length = ds.length
  | [], _ => by simp [PyData.showableAll, PyData.hasDictAll, PyData.depthAll, PyData.shownAll]
  | d :: ds, h => by
    obtain ⟨h1, h2, h3, h4⟩ := h d List.mem_cons_self
    obtain ⟨g1, g2, g3, g4, g5⟩ := sv_all fun e he => h e (List.mem_cons_of_mem _ he)
    refine ⟨by simp [PyData.showableAll, h1, g1], by simp [PyData.hasDictAll, h2, g2], by simp only [PyData.depthAll]; omega, ?_, by simp only [PyData.shownAll, List.length_cons, g5]⟩
    simp only [PyData.shownAll, List.map_cons, List.sum_cons, List.length_cons]
    rw [Nat.add_mul]
    omega
theorem Sv.tup {k n m : Nat} {ds : List PyData} (h : ∀ d ∈ ds, Sv k n d) (hm : ds.length ≤ m) : Sv (k + 1) (m * (n + 2) + 3) (.tuple ds) := by
  obtain ⟨g1, g2, g3, g4, g5⟩ := sv_all h
  refine ⟨by simp only [PyData.showable]; exact g1, by simp only [PyData.hasDict]; exact g2, by simp only [PyData.depth]; omega, ?_⟩
  have := tupleText_len_le (PyData.shownAll ds)
  have h1 : ds.length * n ≤ m * n := Nat.mul_le_mul_right _ hm
  rw [Nat.mul_add]
  simp only [PyData.shown]
  omega
theorem Sv.list {k n m : Nat} {ds : List PyData} (h : ∀ d ∈ ds, Sv k n d) (hm : ds.length ≤ m) : Sv (k + 1) (m * (n + 2) + 3) (.list ds) := by
  obtain ⟨g1, g2, g3, g4, g5⟩ := sv_all h
  refine ⟨by simp only [PyData.showable]; exact g1, by simp only [PyData.hasDict]; exact g2, by simp only [PyData.depth]; omega, ?_⟩
  have := listText_len_le (PyData.shownAll ds)
  have h1 : ds.length * n ≤ m * n := Nat.mul_le_mul_right _ hm
  rw [Nat.mul_add]
  simp only [PyData.shown]
  omega
theorem Sv.map {α : Type} {k n : Nat} {f : α → PyData} {l : List α} (h : ∀ x ∈ l, Sv k n (f x)) : ∀ d ∈ l.map f, Sv k n d := fun d hd => by
  obtain ⟨x, hx, rfl⟩ := List.mem_map.mp hd
  exact h x hx
theorem sv_small : ∀ i, i < 16 → Sv 0 2 (dI i) := fun i hi => by
  have h : ∀ i, i < 16 → (dI i).showable = true ∧ (dI i).hasDict = false ∧ (dI i).depth ≤ 0 ∧ (dI i).shown.length ≤ 2 := by decide +kernel
  obtain ⟨a, b, c, d⟩ := h i hi
  exact ⟨a, b, c, d⟩
theorem sv_way {w : Way} {m : Nat} (h : ∀ i ∈ w, i < 16) (hm : w.length ≤ m) : Sv 1 (m * 4 + 3) (dT w) := Sv.tup (n := 2) (Sv.map fun i hi => sv_small i (h i hi)) (by rw [List.length_map]; exact hm)
theorem way_sw {w : Way} (h : ∀ i ∈ w, i < 16) (hm : w.length ≤ 7) : Sw 1000000 (dT w) := (sv_way h hm).sw

/-! ### what is shown -/
def cps (x : Str) : List Nat := x.cps.toList
theorem cps_inj {x y : Str} (h : cps x = cps y) : x = y := by
  have h2 : x.cps = y.cps := Array.toList_inj.mp h
  cases x; cases y
  exact congrArg Str.mk h2
theorem cps_app (x y : Str) : cps (x ++ y) = cps x ++ cps y := by
  show (x.cps ++ y.cps).toList = _
  rw [Array.toList_append]; rfl
theorem split_comma : ∀ {a b r s : List Nat}, 44 ∉ a → 44 ∉ b → a ++ 44 :: r = b ++ 44 :: s → a = b ∧ r = s
  | [], [], r, s, _, _, h => by simpa using h
  | [], y :: b, r, s, _, hb, h => by
    simp at h
    exact absurd (by rw [← h.1]; simp) hb
  | x :: a, [], r, s, ha, _, h => by
    simp at h
    exact absurd (by rw [h.1]; simp) ha
  | x :: a, y :: b, r, s, ha, hb, h => by
    simp only [List.cons_append, List.cons.injEq] at h
    obtain ⟨h1, h2⟩ := split_comma (fun q => ha (List.mem_cons_of_mem _ q)) (fun q => hb (List.mem_cons_of_mem _ q)) h.2
    exact ⟨by rw [h.1, h1], h2⟩
def endT : List Str → List Nat
  | [] => [41]
  | [x] => cps x ++ [41]
  | x :: y :: r => cps x ++ 44 :: 32 :: endT (y :: r)
theorem endT_inj : ∀ {ts us : List Str}, ts ≠ [] → us ≠ [] → (∀ t ∈ ts, 44 ∉ cps t) → (∀ t ∈ us, 44 ∉ cps t) → endT ts = endT us → ts = us
  | [], _, h, _, _, _, _ => absurd rfl h
  | _, [], _, h, _, _, _ => absurd rfl h
  | [x], [y], _, _, _, _, h => by
    have : cps x = cps y := List.append_cancel_right h
    rw [cps_inj this]
  | [x], y :: z :: r, _, _, hx, _, h => by
    have hm : 44 ∈ endT [x] := by rw [h]; simp [endT]
    simp only [endT, List.mem_append, List.mem_singleton] at hm
    rcases hm with hm | hm
    · exact absurd hm (hx x (by simp))
    · omega
  | y :: z :: r, [x], _, _, _, hx, h => by
    have hm : 44 ∈ endT [x] := by rw [← h]; simp [endT]
    simp only [endT, List.mem_append, List.mem_singleton] at hm
    rcases hm with hm | hm
    · exact absurd hm (hx x (by simp))
    · omega
  | x :: z :: r, y :: v :: s, _, _, hx, hy, h => by
    simp only [endT] at h
    obtain ⟨h1, h2⟩ := split_comma (hx x (by simp)) (hy y (by simp)) h
    have h3 := endT_inj (ts := z :: r) (us := v :: s) (by simp) (by simp) (fun t ht => hx t (List.mem_cons_of_mem _ ht)) (fun t ht => hy t (List.mem_cons_of_mem _ ht)) (by simpa using h2)
    rw [cps_inj h1, h3]
theorem cps_join : ∀ {ts : List Str}, ts ≠ [] → cps (Str.join ", " ts) ++ [41] = endT ts
  | [], h => absurd rfl h
  | [x], _ => rfl
  | x :: y :: r, _ => by
    show cps (x ++ ", " ++ Str.join ", " (y :: r)) ++ [41] = cps x ++ 44 :: 32 :: endT (y :: r)
    rw [cps_app, cps_app, ← cps_join (ts := y :: r) (by simp), show cps ((", " : String) : Str) = [44, 32] by decide +kernel]
    simp
theorem cps_tup (ts : List Str) : cps (tupleText ts) = 40 :: (cps (Str.join ", " ts) ++ if ts.length == 1 then [44, 41] else [41]) := by
  unfold tupleText
  rw [cps_app, cps_app, show cps (("(" : String) : Str) = [40] by decide +kernel]
  show 40 :: (cps _ ++ _) = _
  congr 2
  split
  · decide +kernel
  · decide +kernel
theorem tupText_inj {ts us : List Str} (ht : ∀ t ∈ ts, 44 ∉ cps t) (hu : ∀ t ∈ us, 44 ∉ cps t) (h : tupleText ts = tupleText us) : ts = us := by
  have e := congrArg cps h
  rw [cps_tup, cps_tup] at e
  have e := List.cons.inj e |>.2
  have one : ∀ {x : Str} {vs : List Str}, 44 ∉ cps x → (∀ t ∈ vs, 44 ∉ cps t) → vs.length ≠ 1 → cps (Str.join ", " [x]) ++ [44, 41] ≠ cps (Str.join ", " vs) ++ [41] := fun {x vs} hx hv hl q => by
    have q' : cps x ++ [44, 41] = cps (Str.join ", " vs) ++ [41] := q
    match vs, hl with
    | [], _ =>
      have q2 : cps x ++ [44, 41] = [41] := q'
      have hm : 44 ∈ ([41] : List Nat) := by rw [← q2]; simp
      simp at hm
    | [y], hl => exact hl rfl
    | y :: z :: r, _ =>
      rw [cps_join (by simp)] at q'
      simp only [endT] at q'
      have := (split_comma hx (hv y (by simp)) q').2
      simp at this
  by_cases h1 : ts.length = 1
  · obtain ⟨x, rfl⟩ := List.length_eq_one_iff.mp h1
    by_cases h2 : us.length = 1
    · obtain ⟨y, rfl⟩ := List.length_eq_one_iff.mp h2
      have : cps x = cps y := List.append_cancel_right e
      rw [cps_inj this]
    · rw [if_pos (by simp), if_neg (by simpa using h2)] at e
      exact absurd e (one (ht x (by simp)) hu h2)
  · by_cases h2 : us.length = 1
    · obtain ⟨y, rfl⟩ := List.length_eq_one_iff.mp h2
      rw [if_neg (by simpa using h1), if_pos (by simp)] at e
      exact absurd e.symm (one (hu y (by simp)) ht h1)
    · rw [if_neg (by simpa using h1), if_neg (by simpa using h2)] at e
      cases ts with
      | nil =>
        cases us with
        | nil => rfl
        | cons y us =>
          cases us with
          | nil => exact absurd rfl h2
          | cons z r =>
            rw [cps_join (ts := y :: z :: r) (by simp)] at e
            have hm : 44 ∈ cps (Str.join ", " []) ++ [41] := by rw [e]; simp [endT]
            have hm : 44 ∈ ([41] : List Nat) := hm
            simp at hm
      | cons x ts =>
        cases us with
        | nil =>
          cases ts with
          | nil => exact absurd rfl h1
          | cons z r =>
            rw [cps_join (ts := x :: z :: r) (by simp)] at e
            have hm : 44 ∈ cps (Str.join ", " []) ++ [41] := by rw [← e]; simp [endT]
            have hm : 44 ∈ ([41] : List Nat) := hm
            simp at hm
        | cons y us =>
          rw [cps_join (by simp), cps_join (by simp)] at e
          exact endT_inj (by simp) (by simp) ht hu e
theorem shownAll_map : ∀ xs : List PyData, PyData.shownAll xs = xs.map PyData.shown
  | [] => rfl
  | x :: xs => by rw [PyData.shownAll, shownAll_map xs, List.map_cons]
structure Atom (d : PyData) : Prop where
  free : 44 ∉ cps d.shown
  inj : ∀ i, i < 16 → d.shown = (dI i).shown → d = dI i
theorem small_free : ∀ i, i < 16 → 44 ∉ cps (dI i).shown := by decide +kernel
theorem small_inj : ∀ i, i < 16 → ∀ j, j < 16 → (dI i).shown = (dI j).shown → i = j := by decide +kernel
theorem atom_small {i : Nat} (h : i < 16) : Atom (dI i) := ⟨small_free i h, fun j hj e => by rw [small_inj i h j hj e]⟩
theorem atoms_inj : ∀ {xs : List PyData} {w : Way}, (∀ d ∈ xs, Atom d) → (∀ i ∈ w, i < 16) → xs.map PyData.shown = w.map (fun i => (dI i).shown) → xs = w.map dI
  | [], [], _, _, _ => rfl
  | [], _ :: _, _, _, h => by cases h
  | _ :: _, [], _, _, h => by cases h
  | x :: xs, i :: w, hx, hw, h => by
    rw [List.map_cons, List.map_cons] at h
    injection h with h1 h2
    rw [(hx x List.mem_cons_self).inj i (hw i List.mem_cons_self) h1, atoms_inj (fun d hd => hx d (List.mem_cons_of_mem _ hd)) (fun j hj => hw j (List.mem_cons_of_mem _ hj)) h2, List.map_cons]
/-- it may be shown, and no way is shown alike but itself -/
structure RepX (x : PyData) : Prop where
  sw : Sw 1000000 x
  inj : ∀ w : Way, (∀ i ∈ w, i < 16) → x.shown = (dT w).shown → x = dT w
theorem repX_tup {xs : List PyData} (hs : Sw 1000000 (.tuple xs)) (h : ∀ d ∈ xs, Atom d) : RepX (.tuple xs) := ⟨hs, fun w hw e => by
  have e' : tupleText (PyData.shownAll xs) = tupleText (PyData.shownAll (w.map dI)) := by
    simpa only [dT, PyData.shown] using e
  rw [shownAll_map, shownAll_map] at e'
  have e2 := tupText_inj (fun t ht => ?_) (fun t ht => ?_) e'
  · unfold dT
    rw [atoms_inj h hw (by rw [e2, List.map_map]; rfl)]
  · obtain ⟨d, hd, rfl⟩ := List.mem_map.mp ht
    exact (h d hd).free
  · obtain ⟨d, hd, rfl⟩ := List.mem_map.mp ht
    obtain ⟨i, hi, rfl⟩ := List.mem_map.mp hd
    exact small_free i (hw i hi)⟩
theorem repX_way {w : Way} (h : ∀ i ∈ w, i < 16) (hm : w.length ≤ 7) : RepX (dT w) := repX_tup (way_sw h hm) fun d hd => by
  obtain ⟨i, hi, rfl⟩ := List.mem_map.mp hd
  exact atom_small (h i hi)
theorem shown_head (w : Way) : (cps (dT w).shown).head? = some 40 := by
  show (cps (tupleText (PyData.shownAll (w.map dI)))).head? = _
  rw [cps_tup]; rfl
theorem repX_other {x : PyData} (hs : Sw 1000000 x) (h : (cps x.shown).head? ≠ some 40) : RepX x := ⟨hs, fun w _ e => absurd (by rw [e]; exact shown_head w) h⟩
end Kd
/-! Menger for two, in layers. -/
namespace Kd
structure PathTo (E : Nat → Nat → Nat → Prop) (A : Nat → Nat → Prop) (r : Nat) (P : Nat → Nat) : Prop where
  at_ : ∀ s, s ≤ r → A s (P s)
  ed : ∀ s, s < r → E s (P s) (P (s + 1))
section
variable {E : Nat → Nat → Nat → Prop} {A : Nat → Nat → Prop} {m : Nat}
theorem PathTo.ext {r v : Nat} {P : Nat → Nat} (h : PathTo E A r P) (ha : A (r + 1) v) (he : E r (P r) v) : PathTo E A (r + 1) (fun s => if s ≤ r then P s else v) := ⟨fun s hs => by
  by_cases c : s ≤ r
  · show A s (if s ≤ r then P s else v)
    rw [if_pos c]; exact h.at_ s c
  · have : s = r + 1 := by omega
    subst this
    show A (r + 1) (if r + 1 ≤ r then P (r + 1) else v)
    rw [if_neg c]; exact ha, fun s hs => by
  show E s (if s ≤ r then P s else v) (if s + 1 ≤ r then P (s + 1) else v)
  by_cases c : s + 1 ≤ r
  · rw [if_pos c, if_pos (by omega)]; exact h.ed s (by omega)
  · have : s = r := by omega
    subst this
    rw [if_neg c, if_pos (Nat.le_refl _)]; exact he⟩
theorem PathTo.splice {r s0 : Nat} {P T : Nat → Nat} (hP : PathTo E A r P) (hT : PathTo E A r T) (h : T s0 = P s0) : PathTo E A r (fun s => if s ≤ s0 then P s else T s) := ⟨fun s hs => by
  show A s (if s ≤ s0 then P s else T s)
  split
  · exact hP.at_ s hs
  · exact hT.at_ s hs, fun s hs => by
  show E s (if s ≤ s0 then P s else T s) (if s + 1 ≤ s0 then P (s + 1) else T (s + 1))
  by_cases c : s + 1 ≤ s0
  · rw [if_pos c, if_pos (by omega)]; exact hP.ed s hs
  · rw [if_neg c]
    by_cases d : s ≤ s0
    · have : s = s0 := by omega
      subst this
      rw [if_pos d, ← h]; exact hT.ed s hs
    · rw [if_neg d]; exact hT.ed s hs⟩
theorem path_one {x : Nat} (hx : A 0 x) : PathTo E A 0 (fun _ => x) := ⟨fun s hs => (Nat.le_zero.mp hs) ▸ hx, fun s hs => absurd hs (Nat.not_lt_zero _)⟩
theorem path_to (h2 : ∀ r, r < m → ∀ y, A (r + 1) y → ∃ x, A r x ∧ E r x y) : ∀ r, r ≤ m → ∀ t, A r t → ∃ T, PathTo E A r T ∧ T r = t
  | 0, _, t, ht => ⟨fun _ => t, path_one ht, rfl⟩
  | r + 1, hr, t, ht => by
    obtain ⟨x, hx, he⟩ := h2 r (by omega) t ht
    obtain ⟨T, hT, rfl⟩ := path_to h2 r (by omega) x hx
    exact ⟨_, hT.ext ht he, if_neg (by omega)⟩
/-- the last place at which p holds -/
theorem last_at (p : Nat → Prop) : ∀ r, (∃ s, s ≤ r ∧ p s) → ∃ s0, s0 ≤ r ∧ p s0 ∧ ∀ s, s0 < s → s ≤ r → ¬ p s
  | 0, ⟨s, hs, h⟩ => ⟨s, hs, h, fun t h1 h2 => by omega⟩
  | r + 1, ⟨s, hs, h⟩ => by
    by_cases c : p (r + 1)
    · exact ⟨r + 1, Nat.le_refl _, c, fun t h1 h2 => by omega⟩
    · have hs' : s ≤ r := by
        rcases Nat.lt_or_ge r s with q | q
        · have : s = r + 1 := by omega
          subst this; exact absurd h c
        · exact q
      obtain ⟨s0, a, b, d⟩ := last_at p r ⟨s, hs', h⟩
      refine ⟨s0, by omega, b, fun t h1 h2 => ?_⟩
      rcases Nat.lt_or_ge r t with q | q
      · have : t = r + 1 := by omega
        subst this; exact c
      · exact d t h1 q
theorem ext_apart {r v u : Nat} {P Q : Nat → Nat} (h : ∀ s, s ≤ r → P s ≠ Q s) (hv : v ≠ u) : ∀ s, s ≤ r + 1 → (if s ≤ r then P s else v) ≠ (if s ≤ r then Q s else u) := fun s hs => by
  by_cases c : s ≤ r
  · rw [if_pos c, if_pos c]; exact h s c
  · rw [if_neg c, if_neg c]; exact hv
theorem menger (h1 : ∀ r, r < m → ∀ x, A r x → ∃ y, A (r + 1) y ∧ E r x y) (h2 : ∀ r, r < m → ∀ y, A (r + 1) y → ∃ x, A r x ∧ E r x y) (h3 : ∀ r, r ≤ m → ∀ x, A r x → ∃ y, A r y ∧ y ≠ x) :
    ∀ r, r ≤ m → ∀ v, A r v → ∃ P Q, PathTo E A r P ∧ PathTo E A r Q ∧ P r = v ∧ ∀ s, s ≤ r → P s ≠ Q s
  | 0, _, v, hv => by
    obtain ⟨u, hu, hne⟩ := h3 0 (Nat.zero_le _) v hv
    exact ⟨_, _, path_one hv, path_one hu, rfl, fun s _ => Ne.symm hne⟩
  | r + 1, hr, v', hv' => by
    obtain ⟨v, hv, he⟩ := h2 r (by omega) v' hv'
    obtain ⟨P, Q, hP, hQ, rfl, hd⟩ := menger h1 h2 h3 r (by omega) v hv
    have hu := hQ.at_ r (Nat.le_refl _)
    obtain ⟨u', hu', heu⟩ := h1 r (by omega) (Q r) hu
    by_cases c : u' = v'
    · subst c
      obtain ⟨u2, hu2, hne⟩ := h3 (r + 1) hr u' hu'
      obtain ⟨t, ht, het⟩ := h2 r (by omega) u2 hu2
      have end_ : ∀ {X Y : Nat → Nat}, PathTo E A r X → PathTo E A r Y → E r (X r) u' → E r (Y r) u2 → (∀ s, s ≤ r → X s ≠ Y s) → ∃ P Q, PathTo E A (r + 1) P ∧ PathTo E A (r + 1) Q ∧ P (r + 1) = u' ∧ ∀ s, s ≤ r + 1 → P s ≠ Q s := fun hX hY e1 e2 hxy =>
        ⟨_, _, hX.ext hu' e1, hY.ext hu2 e2, if_neg (by omega), ext_apart hxy (Ne.symm hne)⟩
      obtain ⟨T, hT, rfl⟩ := path_to h2 r (by omega) t ht
      by_cases meet : ∃ s, s ≤ r ∧ (T s = P s ∨ T s = Q s)
      · obtain ⟨s0, hs0, hm, hlast⟩ := last_at (fun s => T s = P s ∨ T s = Q s) r meet
        have tail : ∀ s, ¬ s ≤ s0 → s ≤ r → T s ≠ P s ∧ T s ≠ Q s := fun s h h' => by
          have := hlast s (by omega) h'
          exact ⟨fun q => this (.inl q), fun q => this (.inr q)⟩
        have endT : ∀ {X : Nat → Nat}, T s0 = X s0 → (if r ≤ s0 then X r else T r) = T r := fun {X} h => by
          split
          · have : r = s0 := by omega
            subst this; exact h.symm
          · rfl
        rcases hm with hm | hm
        · refine end_ hQ (hP.splice hT hm) heu (by show E r (if r ≤ s0 then P r else T r) u2; rw [endT hm]; exact het) fun s hs => ?_
          show Q s ≠ (if s ≤ s0 then P s else T s)
          split
          · exact Ne.symm (hd s hs)
          · rename_i q; exact Ne.symm (tail s q hs).2
        · refine end_ hP (hQ.splice hT hm) he (by show E r (if r ≤ s0 then Q r else T r) u2; rw [endT hm]; exact het) fun s hs => ?_
          show P s ≠ (if s ≤ s0 then Q s else T s)
          split
          · exact hd s hs
          · rename_i q; exact Ne.symm (tail s q hs).1
      · exact end_ hP hT he het fun s hs q => meet ⟨s, hs, .inl q.symm⟩
    · exact ⟨_, _, hP.ext hv' he, hQ.ext hu' heu, if_neg (by omega), ext_apart hd (Ne.symm c)⟩
end
end Kd
/-! No two ways apart: then a wire is common to all. -/
namespace Kd
theorem lastD_getD {w : Way} {R : Nat} (h : w.length = R + 1) : w.getLastD 0 = w.getD R 0 := by
  have hne : w ≠ [] := by intro e; rw [e] at h; simp at h
  have h1 := getLastD_eq w hne
  rw [h] at h1
  rw [List.getD_eq_getElem?_getD, show R = R + 1 - 1 by omega, h1]; rfl
theorem way_iff {n : Net} {b e : Nat} {w : Way} : w ∈ Wn n b e ↔ w.length = n.os.length + 1 ∧ w.getD 0 0 / 2 = b / 2 ∧ (∀ i, i < n.os.length → w.getD (i + 1) 0 ∈ nextW (n.os.getD i []) (w.getD i 0)) ∧ w.getD n.os.length 0 = e := by
  unfold Wn
  rw [List.mem_filter, mem_all]
  unfold endsIn
  rw [decide_eq_true_iff]
  constructor
  · rintro ⟨⟨x, u, rfl, hx, hp⟩, he⟩
    obtain ⟨h1, h2⟩ := (pth_iff _ _ _).mp hp
    have hl : (x :: u).length = n.os.length + 1 := by rw [List.length_cons, h1]
    exact ⟨hl, hx, h2, by rw [← lastD_getD hl]; exact he⟩
  · rintro ⟨hl, hx, h2, he⟩
    cases w with
    | nil => simp at hl
    | cons x u => exact ⟨⟨x, u, rfl, hx, (pth_iff _ _ _).mpr ⟨by simpa using hl, h2⟩⟩, by rw [lastD_getD hl]; exact he⟩
theorem build_get (P : Nat → Nat) (m e i : Nat) : ((List.range (m + 1)).map P ++ [e]).getD i 0 = if i ≤ m then P i else if i = m + 1 then e else 0 := by
  rw [List.getD_eq_getElem?_getD]
  by_cases h : i ≤ m
  · rw [if_pos h, List.getElem?_append_left (by simp; omega), List.getElem?_map, List.getElem?_range (by omega)]; rfl
  · rw [if_neg h, List.getElem?_append_right (by simp; omega)]
    by_cases h2 : i = m + 1
    · subst h2; rw [if_pos rfl]; simp
    · rw [if_neg h2, List.getElem?_eq_none_iff.mpr (by simp; omega)]; rfl
theorem twins_some {ws : List Way} {w v : Way} (hw : w ∈ ws) (hv : v ∈ ws) (h : apartW w v = true) : twinsW ws ≠ none := by
  unfold twinsW
  intro hn
  have := List.findSome?_eq_none_iff.mp hn w hw
  rw [Option.map_eq_none_iff, List.find?_eq_none] at this
  exact this v hv h
theorem mg_ok (n : Net) (b e : Nat) : MgOk n b e := fun hne htw hcm => by
  obtain ⟨w0, hw0⟩ := List.exists_mem_of_ne_nil _ hne
  obtain ⟨l0, _⟩ := way_iff.mp hw0
  cases hR : n.os.length with
  | zero =>
    refine twins_some hw0 hw0 ?_ htw
    rw [hR] at l0
    unfold apartW
    have : w0.dropLast = [] := by
      apply List.eq_nil_of_length_eq_zero
      rw [List.length_dropLast, l0]
    rw [this]; rfl
  | succ m =>
    have h3 : ∀ r, r ≤ m → ∀ x, (∃ w ∈ Wn n b e, w.getD r 0 = x) → ∃ y, (∃ w ∈ Wn n b e, w.getD r 0 = y) ∧ y ≠ x := fun r hr x hx => by
      by_cases c : ∃ w ∈ Wn n b e, w.getD r 0 ≠ x
      · obtain ⟨w, hw, h⟩ := c
        exact ⟨_, ⟨w, hw, rfl⟩, h⟩
      · exfalso
        have all : ∀ w ∈ Wn n b e, w.getD r 0 = x := fun w hw => by
          by_cases q : w.getD r 0 = x
          · exact q
          · exact absurd ⟨w, hw, q⟩ c
        unfold commonW at hcm
        cases hws : Wn n b e with
        | nil => exact hne hws
        | cons v ws =>
          rw [hws] at hcm all
          have hv : v.length = m + 1 + 1 := by
            have := (way_iff.mp (show v ∈ Wn n b e by rw [hws]; exact List.mem_cons_self)).1
            omega
          dsimp only at hcm
          rw [List.map_eq_nil_iff, List.filter_eq_nil_iff] at hcm
          refine hcm r (List.mem_range.mpr (by omega)) ?_
          rw [List.all_eq_true]
          intro u hu
          rw [decide_eq_true_iff, all u hu, all v List.mem_cons_self]
    obtain ⟨P, Q, hP, hQ, _, hd⟩ := menger (E := fun r x y => y ∈ nextW (n.os.getD r []) x) (A := fun r x => ∃ w ∈ Wn n b e, w.getD r 0 = x) (m := m)
      (fun r hr x ⟨w, hw, hx⟩ => ⟨w.getD (r + 1) 0, ⟨w, hw, rfl⟩, by rw [← hx]; exact (way_iff.mp hw).2.2.1 r (by omega)⟩)
      (fun r hr y ⟨w, hw, hy⟩ => ⟨w.getD r 0, ⟨w, hw, rfl⟩, by rw [← hy]; exact (way_iff.mp hw).2.2.1 r (by omega)⟩) h3 m (Nat.le_refl _) (w0.getD m 0) ⟨w0, hw0, rfl⟩
    have mk : ∀ X, PathTo (fun r x y => y ∈ nextW (n.os.getD r []) x) (fun r x => ∃ w ∈ Wn n b e, w.getD r 0 = x) m X → (List.range (m + 1)).map X ++ [e] ∈ Wn n b e := fun X hX => by
      refine way_iff.mpr ⟨by simp [hR], ?_, fun i hi => ?_, ?_⟩
      · rw [build_get, if_pos (Nat.zero_le _)]
        obtain ⟨w, hw, h⟩ := hX.at_ 0 (Nat.zero_le _)
        rw [← h]; exact (way_iff.mp hw).2.1
      · rw [build_get, build_get, if_pos (show i ≤ m by omega)]
        by_cases c : i + 1 ≤ m
        · rw [if_pos c]; exact hX.ed i (by omega)
        · have : i = m := by omega
          subst this
          rw [if_neg c, if_pos rfl]
          obtain ⟨w, hw, h⟩ := hX.at_ i (Nat.le_refl _)
          obtain ⟨_, _, q1, q2⟩ := way_iff.mp hw
          rw [hR] at q2
          have := q1 i hi
          rw [q2, h] at this
          exact this
      · rw [build_get, hR, if_neg (by omega), if_pos rfl]
    refine twins_some (mk P hP) (mk Q hQ) ?_ htw
    unfold apartW
    rw [List.dropLast_concat, List.dropLast_concat, List.all_eq_true]
    intro q hq
    rw [List.zip_map, List.zip_eq_zipWith] at hq
    obtain ⟨p, hp, rfl⟩ := List.mem_map.mp hq
    obtain ⟨i, hi⟩ := List.mem_iff_getElem?.mp hp
    rw [List.getElem?_zipWith] at hi
    cases hx : (List.range (m + 1))[i]? with
    | none => rw [hx] at hi; cases hi
    | some s =>
      rw [hx] at hi
      cases hi
      have := List.mem_range.mp (List.mem_of_getElem? hx)
      exact decide_eq_true (hd s (by omega))
end Kd
/-! BadPaper(word): an own error over an own error over ValueError, whose __init__ calls super().__init__ and keeps its word. -/
namespace Kd
open PySem PySem.W PySem.Calls PyProof.Rows PySem.HandSPX PySem.Spec
def bpA : Arguments := { posonlyargs := [], args := [{ arg := "self", annotation := none, pos := ⟨36, 17, 36, 21⟩ }, { arg := "word", annotation := none, pos := ⟨36, 23, 36, 27⟩ }], vararg := none, kwonlyargs := [], kw_defaults := [], kwarg := none, defaults := [] }
def bpB : List Stmt :=
  [.Expr (.Call (.Attribute (.Call (.Name "super" ⟨37, 8, 37, 13⟩) [] [] ⟨37, 8, 37, 15⟩) "__init__" ⟨37, 8, 37, 24⟩) [.Constant (.str "a paper that does not hold") 0 ⟨37, 25, 37, 53⟩] [] ⟨37, 8, 37, 54⟩) ⟨37, 8, 37, 54⟩, .Assign [.Attribute (.Name "self" ⟨38, 8, 38, 12⟩) "word" ⟨38, 8, 38, 17⟩] (.Name "word" ⟨38, 20, 38, 24⟩) ⟨38, 8, 38, 24⟩]
def bpS : Scope := { kind := .function, names := [(PySem.Str.ofString "self", .local), (PySem.Str.ofString "word", .local), (PySem.Str.ofString "__class__", .free), (PySem.Str.ofString "super", .globalImplicit)], isGenerator := false, isCoroutine := false, more := [] }
/-- what the written part says of BadPaper, at C, and of its __init__, at fI -/
structure BpTxt (P : Program) (K : Frag) (mg : Str → Option Value) (C fI : Addr) : Prop where
  gC : mg "BadPaper" = some (.ref C)
  cls : ∃ nm q N bs bm sn sub ab col dd k0 k1 k2 k3 k5, K.lookup C = some (excClassObj nm q C N bs bm true sn sub ab col dd k0 k1 k2 k3 k5 "ValueError.__new__") ∧ refsVE bm = true
  sa : findIn K (.ref C) "__setattr__" = some (some (.builtin "object.__setattr__"))
  ga : findIn K (.ref C) "__getattribute__" = some (some (.builtin "BaseException.__getattribute__"))
  gg : findIn K (.ref C) "__getattr__" = some none
  noN : findIn K (.ref C) "word" = some none
  iC : findIn K (.ref C) "__init__" = some (some (.ref fI))
  tC : typeIn K (.ref fI) = some (.type "function")
  kC : keepIn K (.ref C) = true
  exC : subIn K (.ref C) (.type "BaseException") = some true
  veC : subIn K (.ref C) (.type "ValueError") = some true
  tyC : typeIn K (.ref C) = some (.type "type")
  hdC : hasDictIn K C = true
  mrC : mroIn K C (.ref C) = some true
  sup : ks_superIn K C C "__init__" = some (some (.builtin "ValueError.__init__"))
  opq : nsIn K cStatics "thirdparty.any" = some none
  nsu : mg "super" = none
  tsu : (P.main.scope.names.lookup ("super" : Str)).isSome = false
  fn : ∃ (oc : Value) (od : Option Addr) (doc pm : Value) (an : Option Addr) (cda cc : Addr) (ct : Value) (osl : Array (Option Value)) (ccl : Value) (cdd : Option Addr) (vs : Array Value) (ccs : Array (Option Value)) (file : Str) (tf : Tok) (cl : Value) (cld : Option Addr) (csl : Array (Option Value)),
    K.lookup fI = some ⟨oc, od, .func (ksFn "__init__" "BadPaper.__init__" bpA bpB bpS .none .none doc pm an (.ref cda) ct cc), osl⟩ ∧ codeIn K (.ref cda) "BadPaper.__init__" = true ∧
    K.lookup cda = some ⟨ccl, cdd, .fields vs, ccs⟩ ∧ vs[2]? = some (.str file tf) ∧ ((P.main.file : Str) == file) = true ∧ K.lookup cc = some ⟨cl, cld, .cell (some (.ref C)), csl⟩
theorem size_one (v : Value) : [v].length ≤ sizeLine := by
  rw [sizeLine_eq]
  exact (by decide : 1 ≤ 16777216)
theorem ldE {M : Model} {s : Shared} {name : Str} {scope : Scope} {L a cc : Addr} {cd : Value} {m : Str → Option Value} {x : Str} {pos : Pos} {v : Value} {Q : Value → Shared → Prop} {A : Around} {E : Value → Shared → Prop} (hn : s.heap.Ns L m) (hv : m x = some v) (h : Q v s)
    (hk : scope.kind = .function := by rfl) (hl : (ksEnv name scope L a cd cc).kindOf x = some .local := by rfl) (hd : (x == ("__debug__" : Str)) = false := by decide) :
    wpAny M A (eval (.Name x pos) (ksEnv name scope L a cd cc)) Q E s := wpAny_Name (wpAny_loadName_local hk hl hn hv h) hd
/-- what __init__ leaves of a fresh exception at x -/
structure BpEnd (h h' : Heap) (x C dx t1 : Addr) (v : Value) : Prop where
  keep : ∀ b o, b ≠ x → h.get? b = some o → h'.get? b = some o
  obj : h'.get? x = some { cls := .ref C, dict := some dx, data := .fields #[.ref t1, .none, .none, .none, .bool false, .none] }
  dbig : h.objs.size ≤ dx
  dne : dx ≠ x
  ns : h'.Ns1 dx (fun y => if y = "word" then some v else none)
section
variable {prog : Program} {w : World} {A : Around} {E : Value → Shared → Prop} {R : Result → Shared → Prop} {s : Shared} {K : Frag} {mg mb : Str → Option Value} {C fI : Addr}
theorem bp_init (T : BpTxt prog K mg C fI) {x t0 : Addr} {v : Value} (X : K.In s.heap) (hlim : s.heap.NoLimit) (G : s.heap.Ns mainGlobals mg) (GB : s.heap.Ns builtinsNs mb) (hmb : ∀ x : Str, x ≠ "__name__" → mb x = bootBuiltins x)
    (hx : s.heap.get? x = some (excO C t0)) (hnx : K.lookup x = none) (hroom : A.depth < recursionLimit)
    (hq : ∀ h' tk dx t1, BpEnd s.heap h' x C dx t1 v → R (.ok (.ret .none)) { s with heap := h', toks := tk }) :
    codeAny (model prog w) A (.call (.ref fI) ⟨[.ref x, v], []⟩) R s := by
  obtain ⟨oc, od, doc, pm, an, cda, cc, ct, osl, ccl, cdd, vs, ccs, file, tf, cl, cld, csl, ho, hcd, hcode, hvs, hfile, hcell⟩ := T.fn
  obtain ⟨nm, q, N, bs, bm, sn, sub, ab, col, dd, k0, k1, k2, k3, k5, hC, hbm⟩ := T.cls
  have hcl : clsIn K C = some { name := nm, bases := bs, mro := .ref C :: bm, ns := N, qualname := q, hasDict := true, slotNames := sn, subclasses := sub, abstract := ab, collection := col, hasDel := false } := by unfold clsIn; rw [hC] <;> rfl
  refine ks_codeAny_call_defAt (fd := ksFn "__init__" "BadPaper.__init__" bpA bpB bpS .none .none doc pm an (.ref cda) ct cc) (binds := [("self", .ref x), ("word", v)]) hroom (X _ _ ho) rfl hlim (codeRec_of X hcd) rfl
    (BindsTo.of_eq (by first | rfl | with_unfolding_all rfl)) (show ∀ y ∈ bpS.names, y.2 ≠ .cell by decide) (fun y hy => ?_) (fun h₁ hn k => ?_) rfl rfl rfl
  · rcases List.mem_cons.mp hy with rfl | hy
    · rfl
    · rcases List.mem_cons.mp hy with rfl | hy
      · rfl
      · cases hy
  have hxL : s.heap.objs.size ≠ x := Nat.ne_of_gt (Heap.lt_size hx)
  have X₁ : K.In h₁ := X.keeps k
  have hx₁ := k _ _ hx
  have G₁ := G.keeps k
  have GB₁ := GB.keeps k
  obtain ⟨hh, g, dr, tk, os⟩ := s
  have hCh := X₁ _ _ hC
  have Ix : InstAt h₁ x (excO C t0) C none := ⟨hx₁, rfl, rfl, trivial⟩
  have hTC : ∀ h2 : Heap, (∀ b o, h₁.get? b = some o → h2.get? b = some o) → Looks (model prog w) h2 (mroOf (.ref C)) (.ref C :: bm) := fun h2 k2 A Q E s' ks q => wpAny_bind ((looks_clsIn (X₁.keeps k2) hcl) A _ E s' ks (wpAny_pure q))
  -- super().__init__("..")
  refine ks_wpAt_execs_cons (ks_wpAt_Expr_any (ks_wpAt_MethodCall ?_))
  refine ks_wpAt_super_base (env := ksEnv "BadPaper.__init__" bpS hh.objs.size fI (.ref cda) cc) rfl rfl (by decide) rfl (X₁ _ _ ho) rfl (ar := { arg := "self", annotation := none, pos := ⟨36, 17, 36, 21⟩ }) rfl rfl (X₁ _ _ hcode) rfl hvs hfile T.tsu ?_
  refine ks_loadName_global rfl rfl (loadGlobal_builtin (env := ksEnv "BadPaper.__init__" bpS hh.objs.size fI (.ref cda) cc) G₁ T.nsu GB₁ ((hmb _ (by decide)).trans PyProof.Rows.Boot.«super») ⟨rfl, ?_⟩)
  refine wpAny_loadName_free rfl rfl rfl ⟨_, X₁ _ _ hcell, rfl⟩ ?_
  refine wpAny_loadName_local (v := .ref x) rfl rfl hn rfl ?_
  refine ks_wpAny_isType_cls hCh rfl ⟨rfl, ?_⟩
  refine ks_wpAny_call_super hCh rfl hx₁ rfl (fun c e => by cases e) (looks_mroIn X₁ T.mrC) (fun h2 e2 k2 => ?_)
  have X₂ : K.In h2 := X₁.keeps k2
  have hx₂ := k2 _ _ hx₁
  have Ix₂ : InstAt h2 x (excO C t0) C none := ⟨hx₂, rfl, rfl, trivial⟩
  have hI : Looks (model prog w) h2 (isInstance (.ref x) (.type "ValueError")) true := Ix₂.type.andThen (looks_subIn X₂ T.veC)
  have hxC : x ≠ C := ks_ne X₂ Ix₂ hcl
  have hsup : alongIn K "__init__" (((Value.ref C :: bm).dropWhile (· != .ref C)).drop 1) = some (some (.builtin "ValueError.__init__")) := by
    have e := T.sup
    unfold ks_superIn at e
    rw [hcl] at e
    exact e
  refine kxs_getMethod kxs_ValueError e2 (looks_opaque X₂ T.opq) (hTC h2 k2) rfl X₂ hsup hI hxC (by decide) ?_
  generalize hh3 : h2.push (kxs_mw "ValueError.__init__" x) = h3
  have hu : h3.get? h2.objs.size = some (kxs_mw "ValueError.__init__" x) := by rw [← hh3]; exact Heap.get?_push_size _ rfl
  have k3 : ∀ b o, h2.get? b = some o → h3.get? b = some o := fun b o e => by rw [← hh3]; exact Heap.get?_push_of_some _ e
  have hx₃ := k3 _ _ hx₂
  have X₃ : K.In h3 := X₂.keeps k3
  show wpAny _ _ (callWith _ (.ref h2.objs.size) [] _ []) _ _ _
  refine kxs_callWith (i := "ValueError.__init__") (x := x) rfl (evalArgs_plain (Calls.spliced_cons (Calls.Constant_str (pos := ⟨37, 25, 37, 53⟩) (k := 0) (Calls.spliced_nil ⟨hu, ?_⟩))))
  -- the built-in __init__: the args are laid anew
  refine wpAny_call (codeAny_of_tree ?_)
  show wpAny _ (A.deeper _).in1 (callAny (.ref h2.objs.size) ⟨[.str "a paper that does not hold" _], []⟩) _ _ _
  simp only [callAny]
  refine wpAny_bind (wpAny_load hu ?_)
  simp only [kxs_mw, show (Value.type "method-wrapper" == Value.type "method" || Value.type "method-wrapper" == Value.type "builtin_function_or_method" || Value.type "method-wrapper" == Value.type "method-wrapper") = true by decide, if_true]
  refine KFB.if_so (by decide) ?_
  refine wpAny_bind (check_bound_init F.excBase_ValueError.toExcCallFacts (X₃ _ _ hC) hx₃ rfl ?_)
  refine wpAny_bind (wpAny_pure (wpAny_pure ?_))
  refine ⟨plainId_quiet F.excBase_ValueError.init.plain _, codeAny_builtin F.excBase_ValueError.initEntry ?_⟩
  refine exc_init_tree (cls := .ref C) (t0 := t0) (dv := none) (c2 := .none) (c3 := .none) (b4 := .bool false) hx₃ (size_one _) fun h4 k4 hx₄ _ => ?_
  have X₄ : K.In h4 := fun b o e => k4 b o (fun z => by rw [z, hnx] at e; cases e) (X₃ b o e)
  have hn₄ : h4.Ns hh.objs.size fun y => ([("self", Value.ref x), ("word", v)] : List (Str × Value)).reverse.lookup y := hn.at fun o e => k4 _ _ hxL (k3 _ _ (k2 _ _ e))
  -- self.word = word
  show PySem.wpAt _ _ _ (execs _ _) _ _ _
  refine ks_wpAt_execs_cons (ks_wpAt_Assign_Attr (wpAt_of_wpAny ?_))
  refine ldE (v := v) hn₄ (by first | rfl | with_unfolding_all rfl | kernel_rfl) (ldE (v := .ref x) hn₄ (by first | rfl | with_unfolding_all rfl | kernel_rfl) ?_)
  refine set_plain X₄ (ox := excO C h3.objs.size) (od := none) ⟨hx₄, rfl, rfl, trivial⟩ T.sa ?_
  refine exc_osa X₄ hx₄ hcl (show refsVE (.ref C :: bm) = true from hbm) rfl T.noN (fun h₅ tk₅ dx k₅ dn dne hx₅ hn₅ => ?_)
  have z : hh.objs.size < h4.objs.size := hn₄.lt
  refine wpAt_of_wpAny (wpAny_execs_nil (hq h₅ tk₅ dx h3.objs.size ⟨fun b o hb e => ?_, hx₅, Nat.le_of_lt (Nat.lt_of_lt_of_le z dn), dne, hn₅⟩))
  exact k₅ b o hb (k4 b o hb (k3 _ _ (k2 _ _ (k b o e))))
end
end Kd
/-! BadPaper made and raised; its word read. -/
namespace Kd
open PySem PySem.W PySem.Calls PyProof.Rows PySem.HandSPX PySem.Spec
/-- a made BadPaper -/
structure BpMade (h h' : Heap) (e C d : Addr) (v : Value) : Prop where
  keep : ∀ b o, h.get? b = some o → h'.get? b = some o
  new : h.objs.size ≤ e
  obj : ∃ oe vs, h'.get? e = some oe ∧ oe.cls = .ref C ∧ oe.dict = some d ∧ oe.data = .fields vs ∧ vs[1]? = some .none
  dbig : h.objs.size ≤ d
  dne : d ≠ e
  ns : h'.Ns1 d (fun y => if y = "word" then some v else none)
section
variable {prog : Program} {w : World} {A : Around} {E : Value → Shared → Prop} {R : Result → Shared → Prop} {s : Shared} {K : Frag} {mg mb : Str → Option Value} {C fI : Addr}
theorem bp_made (T : BpTxt prog K mg C fI) {v : Value} (X : K.In s.heap) (hlim : s.heap.NoLimit) (G : s.heap.Ns mainGlobals mg) (GB : s.heap.Ns builtinsNs mb) (hmb : ∀ x : Str, x ≠ "__name__" → mb x = bootBuiltins x) (hroom : A.depth + 1 < recursionLimit)
    (hq : ∀ h' tk e d, BpMade s.heap h' e C d v → R (.ok (.ret (.ref e))) { s with heap := h', toks := tk }) :
    codeAny (model prog w) A (.call (.ref C) ⟨[v], []⟩) R s := by
  obtain ⟨nm, q, N, bs, bm, sn, sub, ab, col, dd, k0, k1, k2, k3, k5, hC, hbm⟩ := T.cls
  obtain ⟨hp, g, dr, tk, os⟩ := s
  have k : ∀ b o, hp.get? b = some o → ((hp.push (kdv_tup [v])).push (excO C hp.objs.size)).get? b = some o := fun b o e => Heap.get?_push_of_some _ (Heap.get?_push_of_some _ e)
  have hget : ((hp.push (kdv_tup [v])).push (excO C hp.objs.size)).get? (hp.objs.size + 1) = some (excO C hp.objs.size) := by heap_get
  have hnx : K.lookup (hp.objs.size + 1) = none := by
    cases e : K.lookup (hp.objs.size + 1) with
    | none => rfl
    | some o =>
      have z : hp.get? (hp.objs.size + 1) = some o := X _ _ e
      exact absurd (Nat.lt_of_succ_lt (Heap.lt_size z)) (Nat.lt_irrefl _)
  refine call_own F.excBase_ValueError (fun X => refsVE_contains X bm hbm) (X _ _ hC) (looks_findIn X T.iC) (fun self => bind_fn X self T.tC) (size_one v) ?_
  refine bp_init (s := ⟨(hp.push (kdv_tup [v])).push (excO C hp.objs.size), g, dr, tk, os⟩) T (X.keeps k) (hlim.keeps k) (G.keeps k) (GB.keeps k) hmb hget hnx ?_ fun h' tk' dx t1 ⟨k', hx, dn, dne, hns⟩ => ?_
  · show A.depth + 1 < recursionLimit
    exact hroom
  · have old : ∀ b o, hp.get? b = some o → h'.get? b = some o := fun b o e => k' b o (Nat.ne_of_lt (Nat.lt_succ_of_lt (Heap.lt_size e))) (k b o e)
    have z : hp.objs.size + 1 + 1 ≤ dx := by
      first
        | (simpa only [Heap.size_push] using dn)
        | exact dn
        | (have q := dn; rw [Heap.size_push, Heap.size_push] at q; exact q)
    exact ⟨rfl, hq h' tk' (hp.objs.size + 1) dx ⟨old, Nat.le_succ _, ⟨_, _, hx, rfl, rfl, rfl, rfl⟩, Nat.le_trans (Nat.le_trans (Nat.le_succ _) (Nat.le_succ _)) z, dne, hns⟩⟩
end
end Kd
namespace Kd
open PySem PySem.Spec PyProof.Rows L2
theorem relO_word {v : V} {v' : Value} (r : L2.RelV v v') (f : Str) : RelO (List.lookup f [(("word" : Str), v)]) (if f = "word" then some v' else none) := by
  by_cases hw : f = "word"
  · subst hw
    rw [if_pos rfl]
    have q : List.lookup ("word" : Str) [(("word" : Str), v)] = some v := by simp [List.lookup]
    rw [q]
    exact r
  · rw [if_neg hw]
    have qw : (f == ("word" : Str)) = false := by simpa using hw
    have q2 : List.lookup f [(("word" : Str), v)] = none := by simp [List.lookup, qw]
    rw [q2]
    trivial
/-- the own dict of an error that bears the word -/
def wdO (v : V) : HO := .xd [(("word" : Str), v)]
section
variable {X : Cx} {C fI : Addr}
/-- BadPaper(e) -/
def tMkBp (C : Addr) (ta : TA) : L2.St → Hp → XK → Prop := fun σ H Q => ta σ H fun vs H1 => ∃ v, vs = [v] ∧ ∀ d, H1 d = none → Q (.ref C) (some d) (upd H1 d (wdO v))
theorem pmk_bp {a : Expr} {ta : TA} {p pos : Pos} {k : Nat} (T : BpTxt X.prog X.K X.mg C fI) (hr : Room k X.A) (ha : PA X [a] ta) (hg : Gl X "BadPaper" := by rfl)
    (he : starEach (a :: []) X.env = (false, eval a X.env) :: starEach [] X.env := by rfl) (hpl : (backTo pos (starEach [] X.env)).any (·.1) = false := by rfl) :
    PMk X (.Call (.Name "BadPaper" p) [a] [] pos) (tMkBp C ta) := by
  intro pins s σ H Q I h
  refine wpAny_Call_Name_kw (ld_glob I hg T.gC ?_)
  refine PySem.W.callWith_K (h₀ := X.base) I.ok.mod.kin T.kC (thn (ha.run pos pins s σ H _ I h) fun us s1 hh => ?_) he hpl
  obtain ⟨vs, H1, I1, r1, v, ev, q1⟩ := hh
  subst ev
  refine ⟨I1.kIn, ?_⟩
  cases r1 with
  | cons rv rn =>
    rename_i v' us'
    cases rn
    show wpAny _ _ (call (.ref C) [v']) _ _ _
    have hlim := I1.nolimit
    obtain ⟨mb, hB, hmb⟩ := I1.ok.mod.blt
    have G1 := I1.ok.mod.glob.keeps I1.bk
    have GB1 := hB.keeps I1.bk
    obtain ⟨hp, g, dr, tk, os⟩ := s1
    refine wpAny_call (bp_made T I1.kIn hlim G1 GB1 hmb (by have := hr.dp; omega) fun h' tk' e d M => ?_)
    show MkP X pins σ Q (.ref e) ⟨h', g, dr, tk', os⟩
    obtain ⟨oe, fv, hoe, hc, hd, hdat, h1⟩ := M.obj
    have hns := M.ns
    obtain ⟨G', g1, g2⟩ := restrict h' fun b => decide (b ≠ e)
    have gk : ∀ b, b ≠ e → G'.get? b = h'.get? b := fun b hb => g1 b (decide_eq_true hb)
    have ge : G'.get? e = none := g2 e (by simp)
    have old : ∀ b o, hp.get? b = some o → G'.get? b = some o := fun b o q => (gk b (Nat.ne_of_lt (Nat.lt_of_lt_of_le (Heap.lt_size q) M.new))).trans (M.keep b o q)
    have ob : ObjOk X.prog X.w (upd H1 d (wdO v)) G' d (wdO v) :=
      ⟨_, hns.at (fun o q => (gk d M.dne).trans q), fun f => relO_word rv f⟩
    have J : L2.Inv X pins σ (upd H1 d (wdO v)) ⟨G', g, dr, tk', os⟩ := I1.laid (t' := tk') old M.dbig ob
    refine ⟨e, oe, fv, ⟨G', g, dr, tk', os⟩, _, .ref C, some d, rfl, J, fun b o q => ?_, ge, hoe, ⟨hc, hd⟩, hdat, h1, ?_, rfl, I1.bare, raises_own T.exC T.tyC, q1 d (I1.hok.fresh M.dbig)⟩
    · by_cases hb : b = e
      · have q' : G'.get? b = some o := q
        rw [hb, ge] at q'; cases q'
      · exact (gk b hb).symm.trans q
    · rw [upd_ne (Ne.symm M.dne)]
      exact I1.hok.fresh M.new
/-- raise BadPaper(e) -/
def tRaiseBp (C : Addr) (W : WX) (ta : TA) : TS := fun _ σ H => tMkBp C ta σ H fun cls d H' => W cls d σ H'
theorem ps_raiseBp {a : Expr} {ta : TA} {W : WX} {p pos pos2 : Pos} {k : Nat} (hc : X.calm = true) (T : BpTxt X.prog X.K X.mg C fI) (hr : Room k X.A) (tk : Takes X W) (ha : PA X [a] ta) (hg : Gl X "BadPaper" := by rfl)
    (he : starEach (a :: []) X.env = (false, eval a X.env) :: starEach [] X.env := by rfl) (hpl : (backTo pos (starEach [] X.env)).any (·.1) = false := by rfl) :
    PS X (.Raise (some (.Call (.Name "BadPaper" p) [a] [] pos)) none pos2) (tRaiseBp C W ta) := ps_raise hc tk (pmk_bp T hr ha hg he hpl)
end
end Kd
/-! except (A, B, C) as e, where e is kept beyond the suite: from then on the error is tracked. -/
namespace Kd
open PySem PySem.Spec PyProof.Rows L2
/-- the very object oe at a, tracked -/
def exA (a : Addr) (oe : Obj) : HO := .ext fun h => h.get? a = some oe
theorem exA_ok {P : Program} {w : World} {H : Hp} {h : Heap} {a : Addr} {oe : Obj} (e : h.get? a = some oe) : ObjOk P w H h a (exA a oe) := ⟨e, ⟨oe, e⟩, fun _ _ q k => k oe q⟩
theorem exA_at {P : Program} {w : World} {H : Hp} {h : Heap} {a : Addr} {oe : Obj} (hok : HOk P w H h) (e : H a = some (exA a oe)) : h.get? a = some oe := by
  have x : ObjOk P w H h a (.ext fun h => h.get? a = some oe) := hok a _ e
  exact x.1
section
variable {X : Cx} {pins : List (Addr × Obj)} {σ : L2.St} {H : Hp} {s : Shared} {a : Addr} {oe : Obj} {vs : Array Value}
theorem track (I : Inv X pins σ H s) (ha : s.heap.get? a = some oe) (hd : oe.data = .fields vs) (na : H a = none) (nL : a ≠ X.env.locals) (nF : a ∉ X.fs) (nS : X.s_0.heap.get? a = none) (hp : ∀ p ∈ X.pn ++ pins, p.1 ≠ a) : Inv X pins σ (upd H a (exA a oe)) s := by
  have ne : ∀ {b : Addr} {o : HO}, H b = some o → b ≠ a := fun e z => by rw [z, na] at e; cases e
  refine ⟨I.ok, I.os, I.bare, ⟨I.base.keep, I.base.slot, fun b o e n x => ?_, I.base.there, fun b xs e => ?_, fun b o u e => ?_, fun b ps e => ?_⟩, I.loc, I.cell, by rw [upd_ne (Ne.symm nL)]; exact I.free, fun x c e => ?_, fun p q => ?_, fun b o e => ?_, I.len⟩
  · rw [upd_ne (fun z => by rw [z, nS] at e; cases e)]
    exact I.base.free b o e n x
  · have := I.base.tups b xs e
    rw [upd_ne (ne this)]; exact this
  · have := I.base.frzs b o u e
    rw [upd_ne (ne this)]; exact this
  · obtain ⟨m, this⟩ := I.base.tbls b ps e
    exact ⟨m, by rw [upd_ne (ne this)]; exact this⟩
  · rw [upd_ne (fun z => ?_)]
    · exact I.freeC x c e
    · obtain ⟨v, o, ho, hv⟩ := I.cell x c e
      rw [z, ha] at ho
      cases ho
      rw [hd] at hv
      cases hv
  · obtain ⟨p1, p2, p3⟩ := I.pin p q
    exact ⟨p1, by rw [upd_ne (hp p q)]; exact p2, p3⟩
  · by_cases hb : b = a
    · subst hb
      rw [upd_same] at e
      cases e
      exact exA_ok ha
    · rw [upd_ne hb] at e
      exact (I.hok b o e).stay (fun c u _ q => q) (fun c q => by rw [upd_ne (ne q)]; exact q) (fun c xs q => by rw [upd_ne (ne q)]; exact q)
end
theorem funFrames_keeps {base h h' : Heap} (k : ∀ b o, h.get? b = some o → h'.get? b = some o) : ∀ {l : List Env}, h.FunFrames base l → h'.FunFrames base l
  | [], _ => trivial
  | env :: l, x => by
    obtain ⟨h1, ⟨L, o, h2, h3, h4, h5⟩, h6⟩ := x
    exact ⟨h1, ⟨L, o, h2, h3, k _ _ h4, h5⟩, funFrames_keeps k h6⟩
theorem flying_keeps {base h h' : Heap} {l : List Env} {e : Addr} {Z : Obj → Prop} (k : ∀ b o, h.get? b = some o → h'.get? b = some o) (x : HandSPX.FlyingZ base l e Z h) : HandSPX.FlyingZ base l e Z h' := by
  obtain ⟨f1, f2, f3, oe, vs, T, oT, ts, a1, a2, a3, a4, a5, a6, a7, a8⟩ := x
  exact ⟨fun b o q => k b o (f1 b o q), f2, funFrames_keeps k f3, oe, vs, T, oT, ts, k _ _ a1, a2, a3, a4, a5, a6, k _ _ a7, a8⟩
/-- what 'except (..) as n' wishes of an exception of the body, which it takes: slot i is n's; behind the suite the error stands tracked -/
def wAs3 (K : PySem.W.Frag) (cs : List Value) (i : Nat) (ts : Addr → Value → Option Addr → TS) (D : Ends) : WX := fun cls d σ H =>
  PySem.W.exmAny K cls cs = some true ∧ ∀ (a : Addr) (oe : Obj) (vs : Array Value), H a = none → Zc cls d oe → oe.data = .fields vs →
    ts a cls d { nx := fun σ' H' => D.nx (σ'.set i none) (upd H' a (exA a oe)), rt := fun _ _ => False, bk := fun _ _ => False, ct := fun _ _ => False } (σ.set i (some (.ref a))) H
section
variable {X : Cx} {x1 x2 x3 n : Str} {c1 c2 c3 : Value} {i : Nat} {body suite : List Stmt} {b₀ : Stmt} {p1 p2 p3 tpos pos pos' : Pos} {kk : Nat} {tb : WX → TS} {ts : Addr → Value → Option Addr → TS}
theorem ps_try_as3 (hs : X.stack = X.env :: X.outer) (hf : X.env.frame = some X.env.locals) (hN : X.N.Nodup) (hi : X.N[i]? = some n) (hln : X.env.kindOf n = some .local) (hc1 : Names X x1 c1) (hc2 : Names X x2 c2) (hc3 : Names X x3 c3) (hex : X.ex = [])
    (hb : ∀ (W : WX) (pn : List (Addr × Obj)) (xe : Value → Shared → Prop), Takes (X.tr pn xe) W → PassesOwn (model X.prog X.w) X.A X.env xe → PSs (X.tr pn xe) body (tb W))
    (hsu : ∀ (a : Addr) (oe : Obj) (cls : Value) (d : Option Addr) (pn : List (Addr × Obj)), Zc cls d oe → (∃ vs, oe.data = .fields vs) → PSs (X.suite a ((a, oe) :: pn)) (b₀ :: suite) (ts a cls d)) :
    PS X (.Try body [.ExceptHandler (some (.Tuple [.Name x1 p1, .Name x2 p2, .Name x3 p3] kk tpos)) (some n) (b₀ :: suite) pos'] [] [] pos) (fun D σ H => tb (wAs3 X.K [c1, c2, c3] i ts D) D σ H) := by
  refine ⟨fun pins s σ H D I h => ?_⟩
  have ok := I.ok
  have hfr : X.A.frames = some (X.env :: X.outer) := by rw [ok.frames, hs]
  have hloc : Loc X.env.scope n := .inl hln
  refine wpAny_Try_except ?_
  refine wpAny_mono ((hb (wAs3 X.K [c1, c2, c3] i ts D) (X.pn ++ pins) (fun e s₁ => wpAny (model X.prog X.w) X.A (noteFrame e X.env) (fun _ s₂ => wpAny (model X.prog X.w) X.A (setFlight e none) (fun _ s₃ =>
    wpAny (model X.prog X.w) X.A (handleBy e X.env [.ExceptHandler (some (.Tuple [.Name x1 p1, .Name x2 p2, .Name x3 p3] kk tpos)) (some n) (b₀ :: suite) pos']) (SP X pins D) X.xe s₃) X.xe s₂) X.xe s₁) (fun u s' xx => ?_) PassesOwn.looking).run [] s σ H D (I.toTry _) h) (fun f s1 hsp => ?_) (fun e s1 he => he)
  · -- the catch
    obtain ⟨a, B, sI, pins', σ', H', cls, d, rfl, J', nb, up, sky, na, os, ag, hx, hyes⟩ := xx
    have J : Inv X pins σ' H' sI := J'.ofTry ok
    have sky' : Sky B (X.env :: X.outer) a (Zc cls d) X.env.locals s'.heap := by rw [← hs]; exact sky
    show wpAny (model X.prog X.w) X.A (noteFrame (.ref a) X.env) _ _ _
    refine Sky.land Zc.steady hfr hf sky' fun h2 fl2 up2 => ?_
    generalize hh3 : h2.push { cls := .type "tuple", data := .seq [c1, c2, c3].toArray } = h3
    have k23 : ∀ b o, h2.get? b = some o → h3.get? b = some o := fun b o e => by rw [← hh3]; exact Heap.get?_push_of_some _ e
    have fl3 := flying_keeps k23 fl2
    have up3 : s'.heap.UpToSlots h3 := up2.trans fun b o e _ => ⟨o.slots, k23 b o e⟩
    have J2 : Inv X pins σ' H' { s' with heap := h2 } := J.landed nb fl2.1 (up.trans up2) os ag
    have J3 : Inv X pins σ' H' { s' with heap := h3 } := J.landed nb fl3.1 (up.trans up3) os ag
    obtain ⟨oe2, vs2, he2, hz2, hd2⟩ := fl2.there
    obtain ⟨oe3, vs3, he3, hz3, hd3⟩ := fl3.there
    have notFr : ∀ {h : Heap} {o : Obj} {vs : Array Value}, h.FunFrames B (X.env :: X.outer) → h.get? a = some o → o.data = .fields vs → a ∉ frs (X.env :: X.outer) := fun {h o vs} ff e dd hm => by
      obtain ⟨_, o', e', hnf⟩ := ff.mem hm
      rw [e] at e'; cases e'
      exact hnf _ dd
    have nfr := notFr fl3.2.2.1 he3 hd3
    have nL : a ≠ X.env.locals := fun z => nfr (List.mem_filterMap.mpr ⟨X.env, List.mem_cons_self, by rw [hf, z]⟩)
    have nF : a ∉ X.fs := fun hm => by
      obtain ⟨e, he, q⟩ := List.mem_filterMap.mp hm
      exact nfr (List.mem_filterMap.mpr ⟨e, List.mem_cons_of_mem _ he, q⟩)
    have nI : sI.heap.get? a = none := by
      cases e : sI.heap.get? a with
      | none => rfl
      | some o =>
        have := nb a o e (by rw [hs]; exact nfr)
        rw [fl2.2.1] at this
        cases this
    have nS : X.s_0.heap.get? a = none := by
      cases e : X.s_0.heap.get? a with
      | none => rfl
      | some o =>
        obtain ⟨o', e'⟩ := J.base.there a o e (by rw [hex]; exact fun z => nomatch z)
        rw [nI] at e'
        cases e'
    have nP : ∀ p ∈ X.pn ++ pins, p.1 ≠ a := fun p hp z => by
      have := (J.pin p hp).1
      rw [z, nI] at this
      cases this
    have S2 := J2.suite he2 hd2 na nL nF
    have S3 := J3.suite he3 hd3 na nL nF
    refine wpAny_handleBy_cons (codeAny_handlers_test ?_) (by intro q; cases q)
    have LT : PySem.W.Looks (model X.prog X.w) h3 (typeOf (.ref a)) cls := fun A Q E s k q => wpAny_typeOf_ref (k _ _ he3) (by rw [hz3.1]; exact q)
    have LM := PySem.W.exm_tup3 (M := model X.prog X.w) (tp := h2.objs.size) J3.kIn LT (by rw [← hh3]; exact Heap.get?_push_size _ rfl) hx
    have test : ∀ {y : Str} {c : Value} {py : Pos} {Q : Value → Shared → Prop} {E : Value → Shared → Prop}, Names X y c → Q c { s' with heap := h2 } → wpAny (model X.prog X.w) (X.A.mark (some (.ref a))) (eval (.Name y py) X.env) Q E { s' with heap := h2 } := fun {y c py Q E} hc q => by
      obtain ⟨hg, hdbg, hm | ⟨hm, hv, hnn⟩⟩ := hc
      · exact ld_glob (X := X.suite a ((a, oe2) :: (X.pn ++ pins))) S2 hg hm q hdbg
      · exact ld_blt (X := X.suite a ((a, oe2) :: (X.pn ++ pins))) S2 hg hm hv q hnn hdbg
    refine Tuple_ ?_
    show wpAny _ _ (spliced ((false, eval (.Name x1 p1) X.env) :: (false, eval (.Name x2 p2) X.env) :: (false, eval (.Name x3 p3) X.env) :: [])) _ _ _
    refine Calls.spliced_cons (test hc1 (Calls.spliced_cons (test hc2 (Calls.spliced_cons (test hc3 (Calls.spliced_nil ?_))))))
    refine wpAny_newTuple ?_ (by show 3 ≤ sizeLine; rw [sizeLine_eq]; decide)
    show wpAny _ _ (excMatches (.ref a) (.ref h2.objs.size)) _ _ { s' with heap := h2.push { cls := .type "tuple", data := .seq [c1, c2, c3].toArray } }
    rw [hh3]
    refine LM.here ?_
    refine codeAny_handlers_suite_as ?_
    refine HandSPX.lands_againZ fl3 fun h4 fl4 up4 => ?_
    have J4 : Inv X pins σ' H' { s' with heap := h4 } := J.landed nb fl4.1 ((up.trans up3).trans up4) os ag
    obtain ⟨oe4, vs4, he4, hz4, hd4⟩ := fl4.there
    have S4 := J4.suite he4 hd4 na nL nF
    refine store_ok (X := X.suite a ((a, oe4) :: (X.pn ++ pins))) (v := .ref a) S4 hN hi hloc rfl (fun s5 S5 => ?_) (.inr hln)
    refine wpAny_mono ((hsu a oe4 cls d (X.pn ++ pins) hz4 ⟨_, hd4⟩).run [] s5 _ H' _ S5 (hyes a oe4 vs4 na hz4 hd4)) (fun f s6 hsp => ?_) (fun _ _ z => False.elim z)
    cases f with
    | next =>
      obtain ⟨σ6, H6, S6, q6⟩ := hsp
      obtain ⟨pa, pn, _⟩ := S6.pin (a, oe4) (List.mem_append_left _ List.mem_cons_self)
      have I6 := track (S6.unsuite ok) pa hd4 pn nL nF nS nP
      exact gone_ok I6 hN hi hln fun s7 J7 => ⟨_, _, J7, q6⟩
    | brk => obtain ⟨σ6, H6, S6, q6⟩ := hsp; exact q6.elim
    | cont => obtain ⟨σ6, H6, S6, q6⟩ := hsp; exact q6.elim
    | ret u => obtain ⟨v6, σ6, H6, S6, r6, q6⟩ := hsp; exact q6.elim
  · cases f with
    | next =>
      obtain ⟨σ', H', J', q⟩ := hsp
      exact wpAny_execs_nil ⟨σ', H', J'.ofTry ok, q⟩
    | brk =>
      obtain ⟨σ', H', J', q⟩ := hsp
      exact ⟨σ', H', J'.ofTry ok, q⟩
    | cont =>
      obtain ⟨σ', H', J', q⟩ := hsp
      exact ⟨σ', H', J'.ofTry ok, q⟩
    | ret u =>
      obtain ⟨v, σ', H', J', r, q⟩ := hsp
      exact ⟨v, σ', H', J'.ofTry ok, r, q⟩
end
end Kd
/-! A lambda handed to a def that hands it on to the def that calls it. -/
namespace Kd
open PySem PySem.Spec PyProof.Rows L2 LamX
theorem codeO_ne {c : Addr} {q : Str} {o : HO} (h : ∀ φ, o ≠ .ext φ) : o ≠ CodeO c q := by unfold CodeO; exact h _
/-- a lambda was made -/
theorem W.lam {M : MS} {f : Nat} {L : Own} {G H H1 : Hp} {c : Addr} {q : Str} (w : W M f L G H) (e : ExtN H H1) (t : Tabs M.T H1) (hc : H1 c = some (CodeO c q)) : ∃ G1, Ex G G1 ∧ W M f L G1 H1 ∧ G1 c = some (CodeO c q) := by
  have key : ∀ b u, G b = some u → H1 b = some u := fun b u h => e b u (w.ex b u h) fun ps z => w.nt b ps (z ▸ h)
  have nc : ∀ b u, H1 b = some u → (∀ φ, u ≠ .ext φ) → b ≠ c := fun b u h hu z => by
    rw [z, hc] at h
    exact codeO_ne hu (Option.some.inj h).symm
  refine ⟨upd G c (CodeO c q), fun b u h => ?_, ⟨fun b u h => ?_, fun p ds hp => ?_, fun a ha => ?_, w.nd, ⟨?_, t⟩, fun a ps h => ?_⟩, upd_same⟩
  · by_cases hb : b = c
    · subst hb
      have := key b u h
      rw [hc] at this
      rw [upd_same]; exact this
    · rw [upd_ne hb]; exact h
  · by_cases hb : b = c
    · subst hb; rw [upd_same] at h; rw [hc]; exact h
    · rw [upd_ne hb] at h; exact key b u h
  · obtain ⟨xs, h1, h2⟩ := w.own p ds hp
    refine ⟨xs, e p _ h1 (fun ps z => by cases z), DvAll.mono (fun b u h => ?_) _ _ h2⟩
    by_cases hb : b = c
    · subst hb
      have := key b u h
      rw [hc] at this
      rw [upd_same]; exact this
    · rw [upd_ne hb]; exact h
  · have g := w.nog a ha
    have ne : a ≠ c := by
      rcases List.mem_append.mp ha with h | h
      · obtain ⟨⟨p, ds⟩, h1, rfl⟩ := List.mem_map.mp h
        obtain ⟨xs, h2, _⟩ := w.own p ds h1
        exact nc _ _ (e p _ h2 (fun ps z => by cases z)) (fun φ z => by cases z)
      · rcases List.mem_append.mp h with h | h
        · have hs := w.st.1
          generalize M.m = mm at hs h
          cases mm with
          | none => cases h
          | some m =>
            obtain ⟨n, cs, gs, z⟩ := hs
            have h' : a = m.d ∨ a = m.c ∨ a = m.g := by simpa [addrsM] using h
            rcases h' with rfl | rfl | rfl
            · exact nc _ _ (e _ _ z.hd (fun ps z => by cases z)) (fun φ z => by cases z)
            · exact nc _ _ (e _ _ z.hc (fun ps z => by cases z)) (fun φ z => by cases z)
            · exact nc _ _ (e _ _ z.hg (fun ps z => by cases z)) (fun φ z => by cases z)
        · obtain ⟨p, hp, rfl⟩ := List.mem_map.mp h
          obtain ⟨ps, h2, _⟩ := t p hp
          exact nc _ _ h2 (fun φ z => by cases z)
    rw [upd_ne ne]; exact g
  · have hs := w.st.1
    generalize M.m = mm at hs ⊢
    cases mm with
    | none => trivial
    | some m =>
      obtain ⟨n, cs, gs, z⟩ := hs
      exact ⟨n, cs, gs, e _ _ z.hd (fun ps z => by cases z), e _ _ z.hc (fun ps z => by cases z), e _ _ z.hg (fun ps z => by cases z), z.cl, z.cb, z.gb, z.n0, z.nf, z.gl⟩
  · by_cases hb : a = c
    · subst hb
      rw [upd_same] at h
      unfold CodeO at h
      cases h
    · rw [upd_ne hb] at h; exact w.nt a ps h
theorem un_comp {fs fs2 : List Addr} {H H2 H3 : Hp} {h h2 h3 : Heap} (u : Un fs [] H H2 h h2) (v : Un fs2 [] H2 H3 h2 h3) (hb : ∀ b ∈ fs2, b ∈ fs ∨ h.get? b = none) : Un fs [] H H3 h h3 := by
  have nx : ∀ b : Addr, b ∉ ([] : List Addr) := fun b z => nomatch z
  refine ⟨fun b o e n nf _ => ?_, fun b o e n nf _ => ?_, fun b o e n _ => ?_, fun b o e _ => ?_, fun b xs e => v.tups b xs (u.tups b xs e), fun b o x e => v.frzs b o x (u.frzs b o x e), fun b ps e => ?_⟩
  · have n2 := u.free b o e n (nx b)
    refine v.keep b o (u.keep b o e n nf (nx b)) n2 (fun z => ?_) (nx b)
    rcases hb b z with q | q
    · exact nf q
    · rw [q] at e; cases e
  · obtain ⟨sl, e2⟩ := u.slot b o e n nf (nx b)
    have n2 := u.free b o e n (nx b)
    by_cases hb2 : b ∈ fs2
    · obtain ⟨sl', e3⟩ := v.slot b _ e2 n2 hb2 (nx b)
      exact ⟨sl', e3⟩
    · exact ⟨sl, v.keep b _ e2 n2 hb2 (nx b)⟩
  · obtain ⟨o', e'⟩ := u.there b o e (nx b)
    exact v.free b o' e' (u.free b o e n (nx b)) (nx b)
  · obtain ⟨o', e'⟩ := u.there b o e (nx b)
    exact v.there b o' e' (nx b)
  · obtain ⟨m1, e1⟩ := u.tbls b ps e
    obtain ⟨m2, e2⟩ := v.tbls b _ e1
    exact ⟨m1 ++ m2, by rw [e2, Array.append_assoc]⟩
section
variable {X : Cx} {pins : List (Addr × Obj)} {σ : L2.St} {H : Hp} {s : Shared}
/-- x(), somewhere above the def that made the lambda: Z is the context there -/
theorem pe_act2 {A2 : Around} {outer2 : List Env} {s2 : Shared} {H2 : Hp} {Ng : List Str} {qg : Str} {sg : Scope} {g f c' : Addr} {cdg pm ctv : Value} {params : Arguments} {body : Expr} {scope : Scope} {k i : Nat} {a : Str} {pn : List (Addr × Obj)} {xe : Value → Shared → Prop} {W : WX} {E : XK} {tb : TE} {p1 p2 : Pos}
    (I : Inv X pins σ H s) (L : LamS X.env.scope scope) (hf : s.heap.get? f = some (PySem.W.kla_obj "<lambda>" (X.env.qual ++ "<lambda>") params body scope (cloFrom X.env.cells scope.names []) pm c' ctv)) (hfn : H f = none) (hfr : f ∉ frs X.stack)
    (un2 : Un (frs X.stack) [] H H2 s.heap s2.heap) (hout : ∀ b ∈ frs outer2, b ∈ frs X.stack ∨ s.heap.get? b = none)
    (hbind : bindArgs (PySem.W.kla_fn "<lambda>" (X.env.qual ++ "<lambda>") params body scope (cloFrom X.env.cells scope.names []) pm (.ref c') ctv) ⟨[], []⟩ = pure [])
    (tk : Takes ((cxOf C8.CX0 X.prog X.w X.K X.mg X.base Ng qg sg g cdg A2 outer2 s2 H2 C8.E0).tr pn xe) W) (hgd : A2.guards = some []) (hr : Room (k + 1) (A2.deeper (envOfC qg sg s2.heap.objs.size g cdg)))
    (hbody : ∀ (A : Around) (outer : List Env) (s : Shared) (H : Hp), A.guards = some [] → Room k (A.deeper (lamEnv X scope s.heap.objs.size f c')) → PE (lamCx X A outer s H E scope f c') body tb)
    (hN : Ng[i]? = some a) (hv : Vis sg a) (hd : (a == ("__debug__" : Str)) = false := by decide) (hcd : (a == ("__classdict__" : Str)) = false := by decide) :
    PE ((cxOf C8.CX0 X.prog X.w X.K X.mg X.base Ng qg sg g cdg A2 outer2 s2 H2 C8.E0).tr pn xe) (.Call (.Name a p1) [] [] p2)
      (fun σZ HZ Q => σZ[i]? = some (some (.ref f)) ∧ HZ c' = some (CodeO c' (X.env.qual ++ "<lambda>")) ∧ (∀ cls d H', E cls d H' → W cls d σZ H') ∧ tb σ HZ Q) := by
  refine ⟨fun pinsZ sZ σZ HZ Q IZ h => ?_⟩
  obtain ⟨hs, hc, hW, ht⟩ := h
  refine wpAny_Call_Name_kw (thn ((pe_var (pos := p1) (i := i) hN hv hd hcd).run pinsZ sZ σZ HZ (fun v H1 => v = .ref f ∧ H1 = HZ) IZ ⟨.ref f, hs, rfl, rfl⟩) fun u s1 ⟨v, H1, I1, r1, q1⟩ => ?_)
  obtain ⟨ev, eH⟩ := q1
  subst ev
  rw [eH] at I1
  obtain rfl : u = Value.ref f := r1
  have un : Un (frs X.stack) [] H HZ s.heap s1.heap := un_comp un2 I1.base hout
  have of1 := un.keep f _ hf hfn hfr (fun z => nomatch z)
  refine PySem.W.callWith_F0 ⟨_, _, _, _, of1⟩ ?_
  obtain ⟨⟨oc, vs, t, hoc, hdc, hvc⟩, _, _⟩ := I1.hok c' _ hc
  have rc : codeAny (model X.prog X.w) (A2.deeper (envOfC qg sg s2.heap.objs.size g cdg)) (.call (.ref f) ⟨[], []⟩) (CR (L2.CX X.prog X.w) (envOfC qg sg s2.heap.objs.size g cdg :: outer2) X.prog X.w HZ s1 Q E) s1 := by
    refine PySem.W.kla_callFunE hr.depth of1 rfl L.co L.gen rfl ⟨c', oc, vs, t, rfl, hoc, hdc, hvc⟩ ?_
    rw [hbind]
    refine wpAny_pure (wpAny_newFunctionEnv (fun y hy => (L.own y hy).2) (fun y hy => absurd hy (by simp)) (fun h₁ hns hsb => ⟨I1.nolimit.fresh _ hsb, ?_⟩) L.kind)
    show codeAny _ _ (.expr body (lamEnv X scope s1.heap.objs.size f c')) _ _
    have kp : ∀ b o, s1.heap.get? b = some o → h₁.get? b = some o := fun b o e => hsb.extBut b o (Nat.ne_of_lt (Heap.lt_size e)) (Heap.get?_push_of_some _ e)
    have J : Inv (lamCx X (A2.deeper (envOfC qg sg s2.heap.objs.size g cdg)) (envOfC qg sg s2.heap.objs.size g cdg :: outer2) s1 HZ E scope f c') [] σ HZ { s1 with heap := h₁, toks := s1.toks + ([] : List (Str × Value)).length } :=
      lam_start2 I L I1.env0 hr.hd un hns kp
    refine PySem.W.kla_codeExpr (wpAny_mono ((hbody (A2.deeper (envOfC qg sg s2.heap.objs.size g cdg)) _ s1 HZ hgd (hr.deeper _)).run [] _ _ HZ Q J ht) (fun v s' hq => ?_) fun e s' hq => hq)
    obtain ⟨w', H', J', rv, q⟩ := hq
    exact ⟨w', H', J'.os, J'.bare, J'.base, J'.hok, rv, q⟩
  refine wpAny_call (codeAny_mono rc fun r s' hq => ?_)
  cases r with
  | error e => exact tk e s' (XE.of_call I1 (fun cls d H' h => hW cls d H' h) hq)
  | ok fl =>
    cases fl with
    | ret u => exact I1.after hq
    | next => exact False.elim hq
    | brk => exact False.elim hq
    | cont => exact False.elim hq
end
end Kd
/-! A kept error: isinstance of it, its word. -/
namespace Kd
open PySem PySem.Spec PyProof.Rows L2
/-- v is a kept BadPaper of the word w -/
def ExK (C : Addr) (w : Str) (G : Hp) (v : V) : Prop := ∃ (a : Addr) (oe : Obj) (vs : Array Value) (dd : Addr), v = .ref a ∧ G a = some (exA a oe) ∧ Zc (.ref C) (some dd) oe ∧ oe.data = .fields vs ∧ G dd = some (wdO (.str w))
theorem ExK.mono {C : Addr} {w : Str} : ∀ (G G' : Hp) (v : V), Ex G G' → ExK C w G v → ExK C w G' v := fun G G' v e ⟨a, oe, vs, dd, h1, h2, h3, h4, h5⟩ => ⟨a, oe, vs, dd, h1, e _ _ h2, h3, h4, e _ _ h5⟩
def exSD (C : Addr) (w : Str) : SD := .kn (ExK C w) ExK.mono
/-- what the class at C must say, so that isinstance asks its errors rightly -/
structure ErC (K : PySem.W.Frag) (C : Addr) : Prop where
  cl : (PySem.W.clsIn K C).isSome = true
  ga : PySem.W.findIn K (.ref C) "__getattribute__" = some (some (.builtin "BaseException.__getattribute__"))
  gg : PySem.W.findIn K (.ref C) "__getattr__" = some none
  sb : PySem.W.subIn K (.ref C) (.type "BaseException") = some true
  ca : PySem.W.findIn K (.ref C) "__class__" = some (some (.builtin "object.__class__"))
  sp : PySem.W.specialIn K (.builtin "object.__class__") "__get__" = some (some (.builtin "getset_descriptor.__get__"))
  tk : PySem.W.takesIn K (.builtin "object.__class__") = some true
  mo : PySem.W.mroIn K C (.type "object") = some true
/-- isinstance(e, c), e a kept error of the class at C -/
def rIsX (K : PySem.W.Frag) (C : Addr) : List V → Hp → VK → Prop := fun xs H Q => ∃ (w : Str) (v : V) (A : Addr) (b : Bool), xs = [v, .ref A] ∧ ExK C w H v ∧ PySem.W.kitOne K (.ref C) (.ref A) = some b ∧ Q (.bl b) H
section
variable {X : Cx} {C fI : Addr}
theorem exk_inst {pins : List (Addr × Obj)} {σ : L2.St} {H : Hp} {s : Shared} {a dd : Addr} {oe : Obj} {vs : Array Value} {v : V} (I : Inv X pins σ H s) (h2 : H a = some (exA a oe)) (hz : Zc (.ref C) (some dd) oe) (hd : oe.data = .fields vs) (h5 : H dd = some (wdO v)) :
    ∃ (od : Obj) (mA : Str → Option Value), PySem.W.InstAt s.heap a oe C (some od) ∧ s.heap.Ns1 dd mA ∧ s.heap.get? dd = some od ∧ (∀ f, RelO (List.lookup f [(("word" : Str), v)]) (mA f)) ∧ ∀ n, PySem.W.lookIn n od = some (mA n) := by
  have ha := exA_at I.hok h2
  obtain ⟨mA, hns, hr⟩ := (show ObjOk X.prog X.w H s.heap dd (.xd [(("word" : Str), v)]) from I.hok dd _ h5)
  obtain ⟨od, ho, hl⟩ := lookIn_ns hns
  exact ⟨od, mA, ⟨ha, hz.1, by unfold PySem.W.notCls; rw [hd] <;> rfl, by rw [hz.2]; exact ho⟩, hns, ho, hr, hl⟩
theorem call_isX (K : PySem.W.Frag) (T : ErC K C) (hK : X.K = K := by rfl) : CallR X (.builtin "isinstance") (rIsX K C) := by
  subst hK
  intro pins s σ H xs us Q I r h
  obtain ⟨w, v, A, b, rfl, ⟨a, oe, vs, dd, rfl, h2, hz, hd, h5⟩, e, q⟩ := h
  obtain ⟨u1, u2, rfl, r1, r2⟩ := vals2 r
  cases r1
  cases (show u2 = Value.ref A from r2)
  obtain ⟨od, mA, J, _⟩ := exk_inst I h2 hz hd h5
  exact PySem.W.kia_one (PySem.W.kitx_exc T.cl T.ga T.gg T.sb T.ca T.sp T.tk T.mo) I.kIn J e (fun z => nomatch z) fun tk => ⟨.bl b, H, I.tok tk, rfl, q⟩
/-- e.word, e a kept error of the class at C -/
def tWd (C : Addr) (te : TE) : TE := fun σ H Q => te σ H fun x H1 => ∃ w : Str, ExK C w H1 x ∧ Q (.str w) H1
theorem pe_word {e : Expr} {te : TE} {pos : Pos} (T : BpTxt X.prog X.K X.mg C fI) (he : PE X e te) (hb : attributeBase e "word" X.env (eval e X.env) = eval e X.env := by rfl) : PE X (.Attribute e "word" pos) (tWd C te) := by
  refine ⟨fun pins s σ H Q I h => attr_of hb (thn (he.run pins s σ H _ I h) fun u s1 hh => ?_)⟩
  obtain ⟨x, H1, I1, rx, w, ⟨a, oe, vs, dd, ex, h2, hz, hd, h5⟩, q⟩ := hh
  subst ex
  obtain rfl : u = Value.ref a := rx
  obtain ⟨od, mA, J, hns, ho, hr, hl⟩ := exk_inst I1 h2 hz hd h5
  have l : List.lookup ("word" : Str) [(("word" : Str), V.str w)] = some (.str w) := by simp [List.lookup]
  obtain ⟨u, hu, ru⟩ := RelO.some_of (v := V.str w) (o := mA "word") (by rw [← l]; exact hr "word")
  exact HandSPX.exc_get I1.kIn J T.ga T.gg T.exC (PySem.W.findObj_own T.hdC T.noN rfl (by rw [hl, hu])) (handed_of ru) ⟨.str w, H1, I1.tok _, ru, q⟩
end
section
variable {K : PySem.W.Frag} {M : MS} {L : Own} {ds : DS} {C : Addr} {w : Str} {i : Nat}
theorem ev_isX {A : Addr} {b : Bool} (h : ds[i]? = some (some (exSD C w))) (hk : PySem.W.kitOne K (.ref C) (.ref A) = some b) : EvD M L (tCB (rIsX K C) (tCons (tVar i) (tCons (tC (.ref A)) tNil))) ds (.bool b) := fun f L' s σ G H wd sl Q q => by
  obtain ⟨v, h1, h2⟩ := sl.at_ i _ h
  exact ⟨v, h1, w, v, A, b, rfl, ExK.mono _ _ _ wd.ex h2, hk, q _ G H (Evl.Ex.refl G) wd (.bl _)⟩
theorem ev_word (h : ds[i]? = some (some (exSD C w))) : EvD M L (tWd C (tVar i)) ds (.str w) := fun f L' s σ G H wd sl Q q => by
  obtain ⟨v, h1, h2⟩ := sl.at_ i _ h
  exact ⟨v, h1, w, ExK.mono _ _ _ wd.ex h2, q _ G H (Evl.Ex.refl G) wd (.str _)⟩
end
/-! ### defs that may raise BadPaper -/
structure DefX (P : Program) (w : World) (K : PySem.W.Frag) (mg : Str → Option Value) (base : Heap) (x : Str) (k : Nat) (ps : List Str) (sp : Sp) : Prop where
  ex : ∃ f fd, mg x = some (.ref f) ∧ PySem.W.keepIn K (.ref f) = true ∧ Binds K fd ps [] ∧ FnG P w K mg base (L2.CX P w) k f fd ps sp
section
variable {P : Program} {w : World} {K : PySem.W.Frag} {mg : Str → Option Value} {base : Heap} {k : Nat} {f : Addr} {fd : FuncData} {ps N : List Str} {sp : Sp} {x : Str} {st : Stmt}
theorem DefX.of (F : FunAt K mg x st ps f fd) (S : FnScope N ps (defScope st)) (len : ∀ vs H Q E, sp vs H Q E → vs.length = ps.length)
    (hbody : ∀ (cdv : Value) (A : Around) (outer : List Env) (s : Shared) (H : Hp) (vs : List V) (Q : VK) (E : XK), A.guards = some [] → Room k (A.deeper (PyProof.Rows.envOfC x (defScope st) s.heap.objs.size f cdv)) → sp vs H Q E →
      ∃ t, PSs (cxOf (L2.CX P w) P w K mg base N x (defScope st) f cdv A outer s H E) (defBody st) t ∧ t { nx := fun _ H' => Q .non H', rt := Q } (start N vs) H) : DefX P w K mg base x (k + 1) ps sp :=
  ⟨f, fd, F.mg, F.fn.kp, F.bd, FnG.of F.fn S len fun cdv A outer s H vs Q E hg hr _ hsp => hbody cdv A outer s H vs Q E hg hr hsp⟩
end
/-- what a def promises that gives the text w, or raises BadPaper of it -/
def spX (C : Addr) (pre : List PyData → Bool → Str → Prop) : Sp := fun vs H Q E => ∃ M f L G ds ok w, W M f L G H ∧ DvAll G vs ds ∧ pre ds ok w ∧ (ok = true → ∀ v G2 H2, Ex G G2 → W M f L G2 H2 → Dv G2 v (.str w) → Q v H2) ∧
  (ok = false → ∀ d G2 H2, Ex G G2 → W M f L G2 H2 → G2 d = some (wdO (.str w)) → E (.ref C) (some d) H2)
/-- what is raised -/
def RsOk (M : MS) (G0 : Hp) (C : Addr) (E : XK) (f : Nat) (L : Own) (w : Str) : Prop := ∀ d G H, Ex G0 G → W M f L G H → G d = some (wdO (.str w)) → E (.ref C) (some d) H
section
variable {M : MS} {G0 : Hp} {D : Ends} {L : Own} {ds : DS} {te : TE} {f : Nat} {C : Addr} {w : Str} {E : XK}
theorem go_raise (h : EvD M L te ds (.str w)) (k : RsOk M G0 C E f L w) : Go M G0 D (tRaiseBp C (fun cls d _ H => E cls d H) (tCons te tNil)) f L ds := fun σ G H e wd sl =>
  h f L (Sub.refl L) σ G H wd sl _ fun v G2 H2 e2 w2 d2 => by
    have ev : v = .str w := by cases d2; rfl
    subst ev
    exact ⟨_, rfl, fun d hd => k d (upd G2 d (wdO (.str w))) _ ((e.trans e2).trans (Evl.Ex.new (w2.gnone hd))) (w2.new hd (fun ps z => by cases z)) upd_same⟩
end
section
variable {X : Cx} {k : Nat} {ps : List Str} {sp : Sp} {E : XK} {x : Str} {p pos : Pos} {e : Expr} {es : List Expr} {t : TA}
/-- a call of a def that may raise -/
theorem pe_callX (D : DefX X.prog X.w X.K X.mg X.base x k ps sp) (hg : X.A.guards = some []) (hr : Room k X.A) (hgl : Gl X x) (hx : Passes (L2.CX X.prog X.w) X E) (ha : PA X (e :: es) t) (hdb : (x == ("__debug__" : Str)) = false := by decide)
    (he : starEach (e :: es) X.env = (false, eval e X.env) :: starEach es X.env := by rfl) (hpl : (backTo pos (starEach es X.env)).any (·.1) = false := by rfl) : PE X (.Call (.Name x p) (e :: es) [] pos) (tCall sp [] E t) := by
  obtain ⟨f, fd, hm, hk, hb, F⟩ := D.ex
  refine ⟨fun pins s σ H Q I h => wpAny_Call_Name_kw (ld_glob I hgl hm ?_ hdb)⟩
  refine PySem.W.callWith_K (h₀ := X.base) I.ok.mod.kin hk (thn (ha.run pos pins s σ H _ I h) fun us s1 ⟨vs, H1, I1, r, q⟩ => ⟨I1.kIn, ?_⟩) he hpl
  have q' : sp (vs ++ []) H1 Q E := q
  rw [List.append_nil] at q'
  exact run_fnG F hg hr hb hx I1 r q'
end
end Kd
namespace Kd
open PySem L2
open PyProof.Rows (envOfC)
def top (i : Nat) : Stmt := PySem.Challenge.pw_bitswitches_k43_whole_broken_wires.main.body.getD i (.Pass ⟨0, 0, 0, 0⟩)
/-- the module's constants -/
structure Cst (mg : Str → Option Value) : Prop where
  MOST_BITS : ∃ t, mg "MOST_BITS" = some (.int 4 t)
  MOST_ROWS : ∃ t, mg "MOST_ROWS" = some (.int 7 t)
  TWO : ∃ t, mg "TWO" = some (.str "two" t)
  ALL : ∃ t, mg "ALL" = some (.str "all" t)
  NONE : ∃ t, mg "NONE" = some (.str "none" t)
section
variable {P : Program} {w : World} {K : PySem.W.Frag} {mg : Str → Option Value} {base : Heap} {f : Addr} {fd : FuncData}

def isWholeD (x : PyData) (lo hi : Int) : Bool := match x with
  | .int i => decide (lo ≤ i) && decide (i ≤ hi)
  | _ => false
def pre_is_whole : List PyData → PyData → Prop := fun ds r => ∃ x lo hi, ds = [x, .int lo, .int hi] ∧ r = .bool (isWholeD x lo hi)
abbrev s_is_whole : Stmt := top 14
abbrev N_is_whole : List Str := ["value", "least", "most"]
abbrev ps_is_whole : List Str := ["value", "least", "most"]
theorem sc_is_whole : FnScope N_is_whole ps_is_whole (defScope s_is_whole) := ⟨rfl, rfl, rfl, by decide +kernel, rfl, by decide +kernel, by decide +kernel⟩

theorem ok_is_whole (F : FunAt K mg "is_whole" s_is_whole ps_is_whole f fd) (B : Bt mg) (C : Cst mg) : DefOk P w K mg base "is_whole" 1 ps_is_whole (spD pre_is_whole) := by
  refine DefOk.pure F sc_is_whole (fun ds r ⟨x, lo, hi, h, _⟩ => by rw [h]; rfl) fun cdv A outer s H E hg hr => ?_
  have nd := sc_is_whole.nd
  refine ⟨_, (pss_one (ps_ret (pe_and (pe_callB (kIsi K) (by rfl) B.isinstance (by decide +kernel) (pa_cons (pv 0) (pa_cons (pe_bltn (v := .ty "int") (by rfl) B.int (by decide +kernel) rfl) pa_nil))) (pe_and (pe_not (pe_callB (kIsi K) (by rfl) B.isinstance (by decide +kernel) (pa_cons (pv 0) (pa_cons (pe_bltn (v := .ty "bool") (by rfl) B.bool (by decide +kernel) rfl) pa_nil)))) (pe_one (pe_chain op_le op_le (pv 1) (pv 0) (pv 2))))))), ?_⟩
  rintro M fu L G0 D ds r ⟨x, lo, hi, rfl, rfl⟩ hR _
  refine go_ret ?_ hR rfl
  cases x with
  | int i =>
    refine (ev_and (ev_cbv (ev_var rfl).r cv_int) fun _ => ev_and (ev_not (ev_cbv (ev_var rfl).r cv_bool)) fun _ => ev_chain (ev_var rfl).r (ev_var rfl).r ro_I0b fun _ => ⟨(ev_var rfl).r, ro_I0b⟩).is ?_
    simp [isWholeD, isInt, isBool]
  | bool b =>
    refine (ev_and (ev_cbv (ev_var rfl).r cv_int) fun _ => ev_and (b := false) (ev_not (ev_cbv (ev_var rfl).r cv_bool)) fun h => absurd h (by simp [isBool])).is ?_
    simp [isWholeD, isInt, isBool]
  | _ =>
    refine (ev_and (b := false) (ev_cbv (ev_var rfl).r cv_int) fun h => absurd h (by simp [isInt])).is ?_
    simp [isWholeD, isInt]
end
end Kd
namespace Kd
open PySem L2
open PyProof.Rows (envOfC)
section
variable {P : Program} {w : World} {K : PySem.W.Frag} {mg : Str → Option Value} {base : Heap} {f : Addr} {fd : FuncData}

theorem isWhole_dI (a lo hi : Nat) : isWholeD (dI a) (lo : Int) (hi : Int) = (decide (lo ≤ a) && decide (a ≤ hi)) := by
  show (decide ((lo : Int) ≤ (a : Int)) && decide ((a : Int) ≤ (hi : Int))) = _
  have e1 : decide ((lo : Int) ≤ (a : Int)) = decide (lo ≤ a) := by
    by_cases h : lo ≤ a
    · rw [decide_eq_true h, decide_eq_true (by omega)]
    · rw [decide_eq_false h, decide_eq_false (by omega)]
  have e2 : decide ((a : Int) ≤ (hi : Int)) = decide (a ≤ hi) := by
    by_cases h : a ≤ hi
    · rw [decide_eq_true h, decide_eq_true (by omega)]
    · rw [decide_eq_false h, decide_eq_false (by omega)]
  rw [e1, e2]

def pre_wires_of : List PyData → PyData → Prop := fun ds r => ∃ n, NetOk n ∧ ds = [dN n] ∧ r = dI n.k
abbrev s_wires_of : Stmt := top 17
abbrev N_wires_of : List Str := ["net"]
abbrev ps_wires_of : List Str := ["net"]
theorem sc_wires_of : FnScope N_wires_of ps_wires_of (defScope s_wires_of) := ⟨rfl, rfl, rfl, by decide +kernel, rfl, by decide +kernel, by decide +kernel⟩

theorem ok_wires_of (F : FunAt K mg "wires_of" s_wires_of ps_wires_of f fd) (B : Bt mg) : DefOk P w K mg base "wires_of" 1 ps_wires_of (spD pre_wires_of) := by
  refine DefOk.pure F sc_wires_of (fun ds r ⟨n, _, h, _⟩ => by rw [h]; rfl) fun cdv A outer s H E hg hr => ?_
  have nd := sc_wires_of.nd
  refine ⟨_, (pss_one (ps_ret (pe_op op_shl pe_int (pe_ix (kIx K) (pv 0) pe_int (fun _ _ => rfl))))), ?_⟩
  rintro M fu L G0 D ds r ⟨n, hn, rfl, rfl⟩ hR _
  have h4 := hn.b4
  refine go_ret ((ev_shl (i := 1) (j := (n.b : Int)) ev_int.r (ev_ixT (es := [dI n.b, .tuple (n.os.map dT)]) (ev_var rfl).r ev_int.r rfl).r ⟨by omega, by omega, by decide⟩).is ?_) hR rfl
  simp [dI, Net.k]

def pre_rows_of : List PyData → PyData → Prop := fun ds r => ∃ n, NetOk n ∧ ds = [dN n] ∧ r = dI (n.os.length + 1)
abbrev s_rows_of : Stmt := top 18
abbrev N_rows_of : List Str := ["net"]
abbrev ps_rows_of : List Str := ["net"]
theorem sc_rows_of : FnScope N_rows_of ps_rows_of (defScope s_rows_of) := ⟨rfl, rfl, rfl, by decide +kernel, rfl, by decide +kernel, by decide +kernel⟩

theorem ok_rows_of (F : FunAt K mg "rows_of" s_rows_of ps_rows_of f fd) (B : Bt mg) : DefOk P w K mg base "rows_of" 1 ps_rows_of (spD pre_rows_of) := by
  refine DefOk.pure F sc_rows_of (fun ds r ⟨n, _, h, _⟩ => by rw [h]; rfl) fun cdv A outer s H E hg hr => ?_
  have nd := sc_rows_of.nd
  refine ⟨_, (pss_one (ps_ret (pe_op (kAdd K) (pe_callB (kLen K) (by rfl) B.len (by decide +kernel) (pa_cons (pe_ix (kIx K) (pv 0) pe_int (fun _ _ => rfl)) pa_nil)) pe_int))), ?_⟩
  rintro M fu L G0 D ds r ⟨n, hn, rfl, rfl⟩ hR _
  refine go_ret ((ev_addI (ev_lenT (ev_ixT (es := [dI n.b, .tuple (n.os.map dT)]) (ev_var rfl).r ev_int.r rfl).r).r ev_int.r).is ?_) hR rfl
  simp [dI]

def pre_is_order : List PyData → PyData → Prop := fun ds r => ∃ k o, IsOrd k o ∧ 1 ≤ k ∧ k ≤ 16 ∧ ds = [dT o, dI k] ∧ r = .bool true
abbrev s_is_order : Stmt := top 15
abbrev N_is_order : List Str := ["value", "many", "one"]
abbrev ps_is_order : List Str := ["value", "many"]
theorem sc_is_order : FnScope N_is_order ps_is_order (defScope s_is_order) := ⟨rfl, rfl, rfl, by decide +kernel, rfl, by decide +kernel, by decide +kernel⟩

theorem ok_is_order (F : FunAt K mg "is_order" s_is_order ps_is_order f fd) (B : Bt mg) (D_is_whole : DefOk P w K mg base "is_whole" 1 ps_is_whole (spD pre_is_whole)) : DefOk P w K mg base "is_order" 2 ps_is_order (spD pre_is_order) := by
  refine DefOk.pure F sc_is_order (fun ds r ⟨k, o, _, _, _, h, _⟩ => by rw [h]; rfl) fun cdv A outer s H E hg hr => ?_
  have nd := sc_is_order.nd
  refine ⟨_, (pss_cons (ps_if (PW.pt (pw_or (pt_not (pt_val (pe_callB (kIsi K) (by rfl) B.isinstance (by decide +kernel) (pa_cons (pv 0) (pa_cons (pe_bltn (v := .ty "tuple") (by rfl) B.tuple (by decide +kernel) rfl) pa_nil))))) (pw_or (pt_cmpR (kNe K hr.units) (pe_callB (kLen K) (by rfl) B.len (by decide +kernel) (pa_cons (pv 0) pa_nil)) (pv 1) (nomark _)) (pw_or1 (pt_not (pt_val (pe_callB (kAll K rfl) (by rfl) B.all (by decide +kernel) (pa_cons (pe_lc (own := [("one", 2)]) rfl nd (kSeq K (pv 0)) (blkOk_by (own := [("one", 2)]) (N := N_is_order) (sc := defScope s_is_order) (by decide +kernel)) (fun _ _ _ _ _ => (pg_name (i := 2) nd rfl (Or.inl rfl))) (fun _ _ _ _ _ => pts_nil) (fun _ _ _ _ _ => (pe_callD D_is_whole hg (hr.mono (by decide)) (by rfl) (pa_cons (pv 2) (pa_cons pe_int (pa_cons (pe_op op_sub (pv 1) pe_int) pa_nil)))))) pa_nil)))))))) (pss_one (ps_ret pe_bl)) pss_nil)
    (pss_one (ps_ret (pe_cmpR (kEq K hr.units) (kLenSet K rfl (by rfl) B.len (by rfl) B.set (pv 0)) (pv 1) (nomark _))))), ?_⟩
  rintro M fu L G0 D ds r ⟨k, o, ho, hk1, hk, rfl, rfl⟩ hR _
  have hl := ho.len
  refine q_skip ?_ (go_ret ?_ hR rfl)
  · refine (eb_or (a := false) ?_ fun _ => eb_or (a := false) ?_ fun _ => ?_).is rfl
    · exact (eb_not (eb_B (ev_cbv (ev_var rfl).r cv_tup))).is rfl
    · refine (eb_B (ev_ne (n := 1) (m := 1) (ev_lenT (ev_var rfl).r).r (ev_var rfl).r (.int _) (shp_dI _))).is ?_
      rw [List.length_map]
      show (!PyData.eqv (dI o.length) (dI k)) = false
      rw [eqv_dI, hl]
      simp
    · refine (eb_not (eb_B (ev_cb1 (EvD.r ((ev_lcAll (F := fun x ds => ds.set 2 (some (.dat x))) (fun x => .bool (isWholeD x 0 ((k : Int) - 1))) (ei_seqT (ev_var rfl)) (by decide) (fun x hx => tg_name) (by rw [List.length_map, hl]; omega) fun x hx => ?_).is ?_)) (c1_all (bs := (o.map fun x => isWholeD (dI x) 0 ((k : Int) - 1)))))) ).is ?_
      · exact ev_call (ea_three (ev_var rfl) ev_int (ev_sub (ev_var rfl).r ev_int.r)) ⟨_, _, _, rfl, rfl⟩
      · rw [List.map_map, List.map_map]; rfl
      · rw [Bool.not_eq_false', List.all_eq_true]
        intro b hb
        obtain ⟨x, hx, rfl⟩ := List.mem_map.mp hb
        have h := ho.lt x hx
        have e := isWhole_dI x 0 (k - 1)
        rw [show ((k - 1 : Nat) : Int) = (k : Int) - 1 by omega] at e
        show isWholeD (dI x) 0 ((k : Int) - 1) = true
        rw [show (0 : Int) = ((0 : Nat) : Int) from rfl, e]
        simp
        omega
  · refine (ev_eq (n := 1) (m := 1) (ev_lenSetT (ns := o.map Int.ofNat) ((ev_var rfl).is (dT_ints o)) ?_ (by rw [List.length_map, hl]; omega)).r (ev_var rfl).r (.int _) (shp_dI _)).is ?_
    · exact ho.nd.map Int.ofNat fun a b hab e => hab (Int.ofNat.inj e)
    · rw [List.length_map]
      show PyData.bool (PyData.eqv (dI o.length) (dI k)) = _
      rw [eqv_dI, hl]
      simp

theorem enum_mem {xs : List PyData} {k : Nat} {x : PyData} (h : x ∈ enumFrom k xs) : ∃ i y, xs[i]? = some y ∧ x = .tuple [dI (k + i), y] := by
  obtain ⟨i, hi⟩ := List.mem_iff_getElem?.mp h
  obtain ⟨y, h1, h2⟩ := enum_get hi
  exact ⟨i, y, h1, h2⟩

def pre_need_net : List PyData → PyData → Prop := fun ds r => ∃ n, NetOk n ∧ ds = [dN n] ∧ r = dN n
abbrev s_need_net : Stmt := top 16
abbrev N_need_net : List Str := ["net", "number", "order"]
abbrev ps_need_net : List Str := ["net"]
theorem sc_need_net : FnScope N_need_net ps_need_net (defScope s_need_net) := ⟨rfl, rfl, rfl, by decide +kernel, rfl, by decide +kernel, by decide +kernel⟩

theorem ok_need_net (F : FunAt K mg "need_net" s_need_net ps_need_net f fd) (B : Bt mg) (C : Cst mg) (D_is_whole : DefOk P w K mg base "is_whole" 1 ps_is_whole (spD pre_is_whole)) (D_wires_of : DefOk P w K mg base "wires_of" 1 ps_wires_of (spD pre_wires_of))
    (D_is_order : DefOk P w K mg base "is_order" 2 ps_is_order (spD pre_is_order)) : DefOk P w K mg base "need_net" 3 ps_need_net (spD pre_need_net) := by
  refine DefOk.pure F sc_need_net (fun ds r ⟨n, _, h, _⟩ => by rw [h]; rfl) fun cdv A outer s H E hg hr => ?_
  have nd := sc_need_net.nd
  refine ⟨_, (pss_cons (ps_if (PW.pt (pw_or (pt_not (pt_val (pe_callB (kIsi K) (by rfl) B.isinstance (by decide +kernel) (pa_cons (pv 0) (pa_cons (pe_bltn (v := .ty "tuple") (by rfl) B.tuple (by decide +kernel) rfl) pa_nil))))) (pw_or1 (pt_cmpR (kNe K hr.units) (pe_callB (kLen K) (by rfl) B.len (by decide +kernel) (pa_cons (pv 0) pa_nil)) pe_int (nomark _))))) (pss_one ps_never) pss_nil)
    (pss_cons (ps_if (pt_not (pt_val (pe_callD D_is_whole hg (hr.mono (by decide)) (by rfl) (pa_cons (pe_ix (kIx K) (pv 0) pe_int (fun _ _ => rfl)) (pa_cons pe_int (pa_cons (pe_csti (by rfl) C.MOST_BITS) pa_nil)))))) (pss_one ps_never) pss_nil)
    (pss_cons (ps_if (PW.pt (pw_or (pt_not (pt_val (pe_callB (kIsi K) (by rfl) B.isinstance (by decide +kernel) (pa_cons (pe_ix (kIx K) (pv 0) pe_int (fun _ _ => rfl)) (pa_cons (pe_bltn (v := .ty "tuple") (by rfl) B.tuple (by decide +kernel) rfl) pa_nil))))) (pw_or1 (pt_cmpR op_ge (pe_callB (kLen K) (by rfl) B.len (by decide +kernel) (pa_cons (pe_ix (kIx K) (pv 0) pe_int (fun _ _ => rfl)) pa_nil)) (pe_csti (by rfl) C.MOST_ROWS) (nomark _))))) (pss_one ps_never) pss_nil)
    (pss_cons (ps_for PassesOwn.never rfl (kEnumT K (by rfl) B.enumerate (pa_cons (pe_ix (kIx K) (pv 0) pe_int (fun _ _ => rfl)) pa_nil)) (kTup (n := 2) K rfl (pgs_cons (pg_name (i := 1) nd rfl (Or.inl rfl)) (pgs_cons (pg_name (i := 2) nd rfl (Or.inl rfl)) pgs_nil))) (pss_one (ps_if (pt_not (pt_val (pe_callD D_is_order hg (hr.mono (by decide)) (by rfl) (pa_cons (pv 2) (pa_cons (pe_callD D_wires_of hg (hr.mono (by decide)) (by rfl) (pa_cons (pv 0) pa_nil)) pa_nil))))) (pss_one ps_never) pss_nil)))
    (pss_one (ps_ret (pv 0))))))), ?_⟩
  rintro M fu L G0 D ds r ⟨n, hn, rfl, rfl⟩ hR _
  obtain ⟨j, hk, hj1, hj8⟩ := hn.k2
  have hb1 := hn.b1
  have hb4 := hn.b4
  have hlen := hn.len
  refine q_skip ?_ (q_skip ?_ (q_skip ?_ (go_seq (go_for (js := [1, 2]) (F := Fp 1 2) (ei_enumT (ev_ixT (es := [dI n.b, .tuple (n.os.map dT)]) (ev_var rfl).r ev_int.r rfl)) ?_ (fun _ f L' ds => f = fu ∧ L' = L ∧ ∃ a b, ds = [some (.dat (dN n)), a, b]) ⟨rfl, rfl, none, none, rfl⟩ ?_ ?_))))
  · exact (eb_or (a := false) ((eb_not (eb_B (ev_cbv (ev_var rfl).r cv_tup))).is rfl) fun _ => (eb_B (ev_neI (ev_lenT (es := [dI n.b, .tuple (n.os.map dT)]) (ev_var rfl).r).r ev_int.r)).is rfl).is rfl
  · refine (eb_not (eb_B (ev_call (ea_three (ev_ixT (es := [dI n.b, .tuple (n.os.map dT)]) (ev_var rfl).r ev_int.r rfl) ev_int ev_int) ⟨_, _, _, rfl, rfl⟩))).is ?_
    have := isWhole_dI n.b 1 4
    rw [Bool.not_eq_false']
    refine this.trans ?_
    simp; omega
  · refine (eb_or (a := false) ((eb_not (eb_B (ev_cbv (ev_ixT (es := [dI n.b, .tuple (n.os.map dT)]) (ev_var rfl).r ev_int.r rfl).r cv_tup))).is rfl) fun _ => (eb_B (ev_ge (ev_lenT (ev_ixT (es := [dI n.b, .tuple (n.os.map dT)]) (ev_var rfl).r ev_int.r rfl).r).r ev_int.r))).is ?_
    rw [List.length_map, Bool.false_or, decide_eq_false]
    omega
  · intro x hx
    obtain ⟨i, y, _, rfl⟩ := enum_mem hx
    exact tg_pair
  · rintro G1 e1 i x f1 L1 ds1 hx ⟨rfl, rfl, a, b, rfl⟩
    obtain ⟨y, hy, rfl⟩ := enum_get hx
    rw [List.getElem?_map] at hy
    cases ho : n.os[i]? with
    | none => rw [ho] at hy; cases hy
    | some o =>
      rw [ho] at hy
      cases hy
      refine go_skip ?_ (nx_iv ⟨rfl, rfl, _, _, rfl⟩)
      exact (eb_not (eb_B (ev_call (ea_two (ev_var rfl) (ev_call (ea_one (ev_var rfl)) ⟨n, hn, rfl, rfl⟩)) ⟨n.k, o, hn.os o (List.mem_of_getElem? ho), by omega, by omega, rfl, rfl⟩))).is rfl
  · rintro f1 L1 ds1 ⟨rfl, rfl, a, b, rfl⟩
    exact nx_go (go_ret (ev_var rfl) hR rfl)

def pre_need_wire : List PyData → PyData → Prop := fun ds r => ∃ n x, NetOk n ∧ x < n.k ∧ ds = [dN n, dI x] ∧ r = .none
abbrev s_need_wire : Stmt := top 19
abbrev N_need_wire : List Str := ["net", "wire"]
abbrev ps_need_wire : List Str := ["net", "wire"]
theorem sc_need_wire : FnScope N_need_wire ps_need_wire (defScope s_need_wire) := ⟨rfl, rfl, rfl, by decide +kernel, rfl, by decide +kernel, by decide +kernel⟩

theorem ok_need_wire (F : FunAt K mg "need_wire" s_need_wire ps_need_wire f fd) (B : Bt mg) (D_is_whole : DefOk P w K mg base "is_whole" 1 ps_is_whole (spD pre_is_whole)) (D_wires_of : DefOk P w K mg base "wires_of" 1 ps_wires_of (spD pre_wires_of))
    (D_need_net : DefOk P w K mg base "need_net" 3 ps_need_net (spD pre_need_net)) : DefOk P w K mg base "need_wire" 4 ps_need_wire (spD pre_need_wire) := by
  refine DefOk.pure F sc_need_wire (fun ds r ⟨n, x, _, _, h, _⟩ => by rw [h]; rfl) fun cdv A outer s H E hg hr => ?_
  have nd := sc_need_wire.nd
  refine ⟨_, (pss_one (ps_if (pt_not (pt_val (pe_callD D_is_whole hg (hr.mono (by decide)) (by rfl) (pa_cons (pv 1) (pa_cons pe_int (pa_cons (pe_op op_sub (pe_callD D_wires_of hg (hr.mono (by decide)) (by rfl) (pa_cons (pe_callD D_need_net hg (hr.mono (by decide)) (by rfl) (pa_cons (pv 0) pa_nil)) pa_nil)) pe_int) pa_nil)))))) (pss_one ps_never) pss_nil)), ?_⟩
  rintro M fu L G0 D ds r ⟨n, x, hn, hx, rfl, rfl⟩ hR hN
  refine go_skip ?_ (hN rfl _)
  refine (eb_not (eb_B (ev_call (ea_three (ev_var rfl) ev_int (ev_sub (ev_call (ea_one (ev_call (ea_one (ev_var rfl)) ⟨n, hn, rfl, rfl⟩)) ⟨n, hn, rfl, rfl⟩).r ev_int.r)) ⟨_, _, _, rfl, rfl⟩))).is ?_
  have := isWhole_dI x 0 (n.k - 1)
  rw [show ((n.k - 1 : Nat) : Int) = (n.k : Int) - 1 by omega] at this
  rw [Bool.not_eq_false']
  refine this.trans ?_
  simp; omega

def pre_next_wires : List PyData → PyData → Prop := fun ds r => ∃ n i x o, NetOk n ∧ x < n.k ∧ n.os[i]? = some o ∧ ds = [dN n, dI i, dI x] ∧ r = .list ((nextW o x).map dI)
abbrev s_next_wires : Stmt := top 21
abbrev N_next_wires : List Str := ["net", "row", "wire", "place"]
abbrev ps_next_wires : List Str := ["net", "row", "wire"]
theorem sc_next_wires : FnScope N_next_wires ps_next_wires (defScope s_next_wires) := ⟨rfl, rfl, rfl, by decide +kernel, rfl, by decide +kernel, by decide +kernel⟩

theorem ev2_int (x : Nat) : (x : Int) - (x : Int) % 2 = (ev2 x : Nat) := by unfold ev2; omega
theorem ok_next_wires (F : FunAt K mg "next_wires" s_next_wires ps_next_wires f fd) (B : Bt mg) : DefOk P w K mg base "next_wires" 1 ps_next_wires (spD pre_next_wires) := by
  refine DefOk.pure F sc_next_wires (fun ds r ⟨n, i, x, o, _, _, _, h, _⟩ => by rw [h]; rfl) fun cdv A outer s H E hg hr => ?_
  have nd := sc_next_wires.nd
  refine ⟨_, (pss_cons (ps_set (i := 3) nd rfl (Or.inl rfl) (pe_ix (kIx K) (pe_ix (kIx K) (pe_ix (kIx K) (pv 0) pe_int (fun _ _ => rfl)) (pv 1) (fun _ _ => rfl)) (pv 2) (fun _ _ => rfl)))
    (pss_one (ps_ret (pe_lst (pa_cons (pe_op op_sub (pv 3) (pe_op op_mod (pv 3) pe_int)) (pa_cons (pe_op (kAdd K) (pe_op op_sub (pv 3) (pe_op op_mod (pv 3) pe_int)) pe_int) pa_nil)))))), ?_⟩
  rintro M fu L G0 D ds r ⟨n, i, x, o, hn, hx, ho, rfl, rfl⟩ hR _
  have hO := hn.os o (List.mem_of_getElem? ho)
  obtain ⟨h1, h2⟩ := hO.get hx
  refine q_asg (d := dI (o.getD x 0)) (ev_ixT (es := o.map dI) (ev_ixT (es := n.os.map dT) (ev_ixT (es := [dI n.b, .tuple (n.os.map dT)]) (ev_var rfl).r ev_int.r rfl).r (ev_var rfl).r ?_).r (ev_var rfl).r ?_) (go_ret (ev_lst (ea_two (ev_sub (ev_var rfl).r (ev_mod (ev_var rfl).r ev_int.r (by decide)).r) (ev_addI (ev_sub (ev_var rfl).r (ev_mod (ev_var rfl).r ev_int.r (by decide)).r).r ev_int.r))) hR ?_)
  · refine atI_get ?_
    rw [List.getElem?_map, ho]; rfl
  · refine atI_get ?_
    rw [List.getElem?_map, h1]; rfl
  · rw [ev2_int]; rfl
end
end Kd
namespace Kd
open PySem L2
open PyProof.Rows (envOfC)
theorem dT_snoc (w : Way) (x : Nat) : PyData.tuple (w.map dI ++ [dI x]) = dT (w ++ [x]) := by
  unfold dT
  rw [List.map_append]
  rfl
theorem wok_all {k m : Nat} {rows : List Way} (h : ∀ w ∈ rows, WOk k m w) (hm : 0 < m) : ∀ w ∈ rows, w ≠ [] ∧ w.getLastD 0 < k := fun w hw => by
  have ok := h w hw
  have hne : w ≠ [] := fun e => by rw [e] at ok; have := ok.len; simp at this; omega
  exact ⟨hne, ok.lt _ (last_mem hne)⟩
section
variable {P : Program} {w : World} {K : PySem.W.Frag} {mg : Str → Option Value} {base : Heap} {f : Addr} {fd : FuncData}
def pre_ways_of : List PyData → PyData → Prop := fun ds r => ∃ n b e, NetOk n ∧ b < n.k ∧ ds = [dN n, dI b, dI e] ∧ r = .list ((Wn n b e).map dT)
abbrev s_ways_of : Stmt := top 22
abbrev N_ways_of : List Str := ["net", "begin", "end", "first", "rows", "row", "way", "wire"]
abbrev ps_ways_of : List Str := ["net", "begin", "end"]
theorem sc_ways_of : FnScope N_ways_of ps_ways_of (defScope s_ways_of) := ⟨rfl, rfl, rfl, by decide +kernel, rfl, by decide +kernel, by decide +kernel⟩

theorem ok_ways_of (F : FunAt K mg "ways_of" s_ways_of ps_ways_of f fd) (B : Bt mg) (D_next_wires : DefOk P w K mg base "next_wires" 1 ps_next_wires (spD pre_next_wires)) : DefOk P w K mg base "ways_of" 2 ps_ways_of (spD pre_ways_of) := by
  refine DefOk.pure F sc_ways_of (fun ds r ⟨n, b, e, _, _, h, _⟩ => by rw [h]; rfl) fun cdv A outer s H E hg hr => ?_
  have nd := sc_ways_of.nd
  refine ⟨_, (pss_cons (ps_set (i := 3) nd rfl (Or.inl rfl) (pe_op op_sub (pv 1) (pe_op op_mod (pv 1) pe_int)))
    (pss_cons (ps_set (i := 4) nd rfl (Or.inl rfl) (pe_lst (pa_cons (pe_tupX (pa_cons (pv 3) pa_nil)) (pa_cons (pe_tupX (pa_cons (pe_op (kAdd K) (pv 3) pe_int) pa_nil)) pa_nil))))
    (pss_cons (ps_for PassesOwn.never rfl (pi_range1 (by rfl) B.range (pa_cons (pe_callB (kLen K) (by rfl) B.len (by decide +kernel) (pa_cons (pe_ix (kIx K) (pv 0) pe_int (fun _ _ => rfl)) pa_nil)) pa_nil)) (pg_name (i := 5) nd rfl (Or.inr rfl)) (pss_one (ps_setLc2 (i := 4) (own := [("way", 6), ("wire", 7)]) (vs1 := [7]) rfl nd rfl rfl (sw_true rfl rfl rfl (by decide +kernel)) (kSeq K (pv 4)) (blkOk_by (own := [("way", 6), ("wire", 7)]) (N := N_ways_of) (sc := defScope s_ways_of) (by decide +kernel)) (by decide) (fun _ _ _ _ _ => (pg_name (i := 6) nd rfl (Or.inl rfl))) (fun _ _ _ _ _ => pts_nil) (fun _ _ _ _ _ => (kSeq K (pe_callD D_next_wires hg (hr.mono (by decide)) (by rfl) (pa_cons (pv 0) (pa_cons (pv 5) (pa_cons (pe_ix (kIx K) (pv 6) (pe_un un_neg pe_int) (fun _ _ => rfl)) pa_nil)))))) (fun _ _ _ _ _ => (pg_name (i := 7) nd rfl (Or.inl rfl))) (fun _ _ _ _ _ => pts_nil) (fun _ _ _ _ _ => (pe_tupX (kStar K (pv 6) (pa_cons (pv 7) pa_nil)))))))
    (pss_one (ps_ret (pe_callB (kSorted K hr) (by rfl) B.sorted (by decide +kernel) (pa_cons (pe_lc (own := [("way", 6)]) rfl nd (kSeq K (pv 4)) (blkOk_by (own := [("way", 6)]) (N := N_ways_of) (sc := defScope s_ways_of) (by decide +kernel)) (fun _ _ _ _ _ => (pg_name (i := 6) nd rfl (Or.inl rfl))) (fun _ _ _ _ _ => (pts_one (pt_cmpR (kEq K hr.units) (pe_ix (kIx K) (pv 6) (pe_un un_neg pe_int) (fun _ _ => rfl)) (pv 2) (nomark _)))) (fun _ _ _ _ _ => (pv 6))) pa_nil))))))), ?_⟩
  rintro M fu L G0 D ds r ⟨n, b, e, hn, hb, rfl, rfl⟩ hR _
  obtain ⟨j, hk, hj1, hj8⟩ := hn.k2
  have hlen := hn.len
  refine q_asg (d := dI (ev2 b)) ((ev_sub (ev_var rfl).r (ev_mod (ev_var rfl).r ev_int.r (by decide)).r).is (by rw [ev2_int]; rfl)) ?_
  refine q_asg (d := .list ((begW b).map dT)) ((ev_lst (ea_two (ev_tup (ea_one (ev_var rfl))) (ev_tup (ea_one (ev_addI (ev_var rfl).r ev_int.r))))).is rfl) ?_
  refine go_seq (go_for (js := [5]) (F := Fn 5) (ei_rng1 (n := (n.os.length : Nat)) (ea_one (ev_is (ev_lenT (ev_ixT (es := [dI n.b, .tuple (n.os.map dT)]) (ev_var rfl).r ev_int.r rfl).r) (by rw [List.length_map]))) (by omega)) (fun x hx => tg_name)
    (fun i f L' ds => f = fu ∧ L' = L ∧ ∃ a, ds = [some (.dat (dN n)), some (.dat (dI b)), some (.dat (dI e)), some (.dat (dI (ev2 b))), some (.dat (.list ((allFrom (n.os.take i) (begW b)).map dT))), a, none, none]) ⟨rfl, rfl, none, rfl⟩ ?_ ?_)
  · rintro G1 e1 i x f1 L1 ds1 hx ⟨rfl, rfl, a, rfl⟩
    rw [rng0, List.getElem?_map] at hx
    have hi : i < n.os.length := by
      cases q : (List.range n.os.length)[i]? with
      | none => rw [q] at hx; cases hx
      | some _ => have := (List.getElem?_eq_some_iff.mp q).1; rwa [List.length_range] at this
    rw [List.getElem?_range hi] at hx
    cases hx
    have ho : n.os[i]? = some n.os[i] := List.getElem?_eq_getElem hi
    have hO := hn.os _ (List.mem_of_getElem? ho)
    have hok := from_ok hk (os := n.os.take i) (m := 1) (rows := begW b) (Nat.succ_pos 0) (fun o h => hn.os o (List.mem_of_mem_take h)) (beg_ok hk hb)
    have hal := wok_all hok (by omega)
    have tk : n.os.take (i + 1) = n.os.take i ++ [n.os[i]] := by rw [List.take_append_getElem hi]
    have st : allFrom (n.os.take (i + 1)) (begW b) = stepW n.os[i] (allFrom (n.os.take i) (begW b)) := by
      unfold allFrom
      rw [tk, List.foldl_append]
      rfl
    have hll : (allFrom (n.os.take (i + 1)) (begW b)).length ≤ 64 := by
      rw [from_len, List.length_take]
      have : 2 ^ min (i + 1) n.os.length ≤ 2 ^ 5 := Nat.pow_le_pow_right (by decide) (by omega)
      show 2 * _ ≤ _
      omega
    have eq1 : ((allFrom (n.os.take i) (begW b)).flatMap fun w => (nextW n.os[i] (w.getLastD 0)).map fun x => dT (w ++ [x])) = (allFrom (n.os.take (i + 1)) (begW b)).map dT := by
      rw [st]
      unfold stepW
      rw [List.map_flatMap]
      simp only [List.map_map]
      rfl
    refine go_asg (d := .list ((allFrom (n.os.take (i + 1)) (begW b)).map dT)) (ev_is (ev_lc2M (js := [6]) (js1 := [7]) (F := Fn 6) (F1 := Fn 7) (enc := dT) (enc2 := dI) unT unI unT_dT unI_dI (fun w => nextW n.os[i] (w.getLastD 0)) (fun w x => dT (w ++ [x])) (ei_seqL (ev_var rfl)) (by decide) (fun a _ => tg_name) (fun v hv => ?_) (by decide) (fun a _ y _ => tg_name) ?_ (fun v hv y hy => ?_)) (by rw [eq1])) (nx_iv ⟨rfl, rfl, _, rfl⟩)
    · obtain ⟨h1, h2⟩ := hal v hv
      exact ei_seqL (ev_call (ea_three (ev_var rfl) (ev_var rfl) (ev_ixT (es := v.map dI) (ev_var rfl).r (ev_neg ev_int).r (atI_last h1))) ⟨n, i, _, _, hn, h2, ho, rfl, rfl⟩)
    · rw [eq1, List.length_map]; omega
    · have hvl : v.length ≤ 100 := by rw [(hok v hv).len, List.length_take]; omega
      exact ev_is (ev_tup (ea_starT (ev_var rfl).r (ea_one (ev_var rfl))) (by rw [List.length_append, List.length_map, List.length_singleton]; omega)) (dT_snoc v y)
  · rintro f1 L1 ds1 ⟨rfl, rfl, a, rfl⟩
    have hal := all_ok hn hb
    rw [show (rngD 0 ((n.os.length : Nat) : Int)).length = n.os.length by rw [rng0, List.length_map, List.length_range], List.take_length]
    refine nx_go (go_ret (ev_sortedW hn hb (EvD.r (ev_lcM (js := [6]) (F := Fn 6) (enc := dT) (l := allW n b) (endsIn e) dT (ei_seqL (ev_var rfl)) (by decide) (fun a _ => tg_name) (by have := all_len hn b; omega) fun v hv => ⟨?_, fun _ => ev_var rfl⟩))) hR rfl)
    refine (eb_B (ev_eq (n := 1) (m := 1) (ev_ixT (es := v.map dI) (ev_var rfl).r (ev_neg ev_int).r (atI_last (hal v hv).ne)).r (ev_var rfl).r (shp_dI _) (shp_dI _))).is (eqv_dI _ _)

noncomputable def isWayD (n : Net) (b e : Nat) (v : PyData) : Bool := @decide (∃ w ∈ Wn n b e, v = dT w) (Classical.propDecidable _)
theorem isWayD_iff {n : Net} {b e : Nat} {v : PyData} : isWayD n b e v = true ↔ ∃ w ∈ Wn n b e, v = dT w := @decide_eq_true_iff _ (Classical.propDecidable _)
theorem isWayD_no {n : Net} {b e : Nat} {v : PyData} (h : ¬ ∃ w ∈ Wn n b e, v = dT w) : isWayD n b e v = false := by
  rw [← Bool.not_eq_true]; exact fun q => h (isWayD_iff.mp q)
theorem isWayD_eq {n : Net} {b e : Nat} {v : PyData} {c : Bool} (h : c = true ↔ ∃ w ∈ Wn n b e, v = dT w) : isWayD n b e v = c := by
  cases c with
  | true => exact isWayD_iff.mpr (h.mp rfl)
  | false => exact isWayD_no fun q => Bool.noConfusion (h.mpr q)
theorem whole_all {k : Nat} (hk : 1 ≤ k) : ∀ {xs : List PyData}, (∀ x ∈ xs, isWholeD x 0 ((k : Int) - 1) = true) → ∃ w : List Nat, xs = w.map dI ∧ ∀ x ∈ w, x < k
  | [], _ => ⟨[], rfl, fun _ h => nomatch h⟩
  | x :: xs, h => by
    obtain ⟨w, rfl, hw⟩ := whole_all hk fun y hy => h y (List.mem_cons_of_mem _ hy)
    have h1 := h x List.mem_cons_self
    cases x with
    | int i =>
      simp only [isWholeD, Bool.and_eq_true, decide_eq_true_eq] at h1
      refine ⟨i.toNat :: w, ?_, fun y hy => ?_⟩
      · rw [List.map_cons]
        congr 1
        unfold dI
        congr 1
        omega
      · rcases List.mem_cons.mp hy with rfl | hy
        · omega
        · exact hw y hy
    | _ => simp [isWholeD] at h1
theorem any_dI (l : List Nat) (y : Nat) : ((l.map dI).any fun z => PyData.eqv z (dI y)) = decide (y ∈ l) := by
  rw [Bool.eq_iff_iff, List.any_eq_true, decide_eq_true_iff]
  constructor
  · rintro ⟨z, hz, he⟩
    obtain ⟨x, hx, rfl⟩ := List.mem_map.mp hz
    rw [eqv_dI, decide_eq_true_iff] at he
    exact he ▸ hx
  · intro h
    exact ⟨dI y, List.mem_map.mpr ⟨y, h, rfl⟩, by rw [eqv_dI]; simp⟩
theorem whole_lt {k x : Nat} (hk : 1 ≤ k) : isWholeD (dI x) 0 ((k : Int) - 1) = decide (x < k) := by
  have e := isWhole_dI x 0 (k - 1)
  rw [show ((k - 1 : Nat) : Int) = (k : Int) - 1 by omega] at e
  refine e.trans ?_
  by_cases h : x < k
  · rw [decide_eq_true h, decide_eq_true (Nat.zero_le x), decide_eq_true (by omega)]; rfl
  · rw [decide_eq_false h, decide_eq_true (Nat.zero_le x), decide_eq_false (by omega)]; rfl
def pre_is_way_of : List PyData → PyData → Prop := fun ds r => ∃ n b e v, NetOk n ∧ b < n.k ∧ ds = [dN n, dI b, dI e, v] ∧ r = .bool (isWayD n b e v)
abbrev s_is_way_of : Stmt := top 23
abbrev N_is_way_of : List Str := ["net", "begin", "end", "value", "wire", "row"]
abbrev ps_is_way_of : List Str := ["net", "begin", "end", "value"]
theorem sc_is_way_of : FnScope N_is_way_of ps_is_way_of (defScope s_is_way_of) := ⟨rfl, rfl, rfl, by decide +kernel, rfl, by decide +kernel, by decide +kernel⟩

theorem ok_is_way_of (F : FunAt K mg "is_way_of" s_is_way_of ps_is_way_of f fd) (B : Bt mg) (D_is_whole : DefOk P w K mg base "is_whole" 1 ps_is_whole (spD pre_is_whole)) (D_wires_of : DefOk P w K mg base "wires_of" 1 ps_wires_of (spD pre_wires_of)) (D_rows_of : DefOk P w K mg base "rows_of" 1 ps_rows_of (spD pre_rows_of)) (D_next_wires : DefOk P w K mg base "next_wires" 1 ps_next_wires (spD pre_next_wires)) : DefOk P w K mg base "is_way_of" 2 ps_is_way_of (spD pre_is_way_of) := by
  refine DefOk.pure F sc_is_way_of (fun ds r ⟨n, b, e, v, _, _, h, _⟩ => by rw [h]; rfl) fun cdv A outer s H E hg hr => ?_
  have nd := sc_is_way_of.nd
  refine ⟨_, (pss_cons (ps_if (PW.pt (pw_or (pt_not (pt_val (pe_callB (kIsi K) (by rfl) B.isinstance (by decide +kernel) (pa_cons (pv 3) (pa_cons (pe_bltn (v := .ty "tuple") (by rfl) B.tuple (by decide +kernel) rfl) pa_nil))))) (pw_or1 (pt_cmpR (kNe K hr.units) (pe_callB (kLen K) (by rfl) B.len (by decide +kernel) (pa_cons (pv 3) pa_nil)) (pe_callD D_rows_of hg (hr.mono (by decide)) (by rfl) (pa_cons (pv 0) pa_nil)) (nomark _))))) (pss_one (ps_ret pe_bl)) pss_nil)
    (pss_cons (ps_if (PW.pt (pw_or (pt_not (pt_val (pe_callB (kAll K rfl) (by rfl) B.all (by decide +kernel) (pa_cons (pe_lc (own := [("wire", 4)]) rfl nd (kSeq K (pv 3)) (blkOk_by (own := [("wire", 4)]) (N := N_is_way_of) (sc := defScope s_is_way_of) (by decide +kernel)) (fun _ _ _ _ _ => (pg_name (i := 4) nd rfl (Or.inl rfl))) (fun _ _ _ _ _ => pts_nil) (fun _ _ _ _ _ => (pe_callD D_is_whole hg (hr.mono (by decide)) (by rfl) (pa_cons (pv 4) (pa_cons pe_int (pa_cons (pe_op op_sub (pe_callD D_wires_of hg (hr.mono (by decide)) (by rfl) (pa_cons (pv 0) pa_nil)) pe_int) pa_nil)))))) pa_nil)))) (pw_or1 (pt_cmpR (kNe K hr.units) (pe_op op_fdiv (pe_ix (kIx K) (pv 3) pe_int (fun _ _ => rfl)) pe_int) (pe_op op_fdiv (pv 1) pe_int) (nomark _))))) (pss_one (ps_ret pe_bl)) pss_nil)
    (pss_cons (ps_if (pt_cmpR (kNe K hr.units) (pe_ix (kIx K) (pv 3) (pe_un un_neg pe_int) (fun _ _ => rfl)) (pv 2) (nomark _)) (pss_one (ps_ret pe_bl)) pss_nil)
    (pss_one (ps_ret (pe_callB (kAll K rfl) (by rfl) B.all (by decide +kernel) (pa_cons (pe_lc (own := [("row", 5)]) rfl nd (pi_range1 (by rfl) B.range (pa_cons (pe_callB (kLen K) (by rfl) B.len (by decide +kernel) (pa_cons (pe_ix (kIx K) (pv 0) pe_int (fun _ _ => rfl)) pa_nil)) pa_nil)) (blkOk_by (own := [("row", 5)]) (N := N_is_way_of) (sc := defScope s_is_way_of) (by decide +kernel)) (fun _ _ _ _ _ => (pg_name (i := 5) nd rfl (Or.inl rfl))) (fun _ _ _ _ _ => pts_nil) (fun _ _ _ _ _ => (pe_cmpR (kIn K hr) (pe_ix (kIx K) (pv 3) (pe_op (kAdd K) (pv 5) pe_int) (fun _ _ => rfl)) (pe_callD D_next_wires hg (hr.mono (by decide)) (by rfl) (pa_cons (pv 0) (pa_cons (pv 5) (pa_cons (pe_ix (kIx K) (pv 3) (pv 5) (fun _ _ => rfl)) pa_nil)))) (by rfl)))) pa_nil))))))), ?_⟩
  rintro M fu L G0 D ds r ⟨n, b, e, v, hn, hb, rfl, rfl⟩ hR _
  obtain ⟨j, hk, hj1, hj8⟩ := hn.k2
  have hlen := hn.len
  have bad : (∀ w ∈ Wn n b e, v ≠ dT w) → isWayD n b e v = false := fun h => isWayD_no fun ⟨w, h1, h2⟩ => h w h1 h2
  by_cases hv : ∃ xs, v = .tuple xs
  · obtain ⟨xs, rfl⟩ := hv
    by_cases hl : xs.length = n.os.length + 1
    · refine q_skip ?_ ?_
      · refine (eb_or (a := false) (b := false) ((eb_not (eb_B (ev_cbv (ev_var rfl).r cv_tup))).is rfl) fun _ => ?_).is rfl
        refine (eb_B (ev_ne (n := 1) (m := 1) (ev_lenT (ev_var rfl).r).r (ev_call (ea_one (ev_var rfl)) ⟨n, hn, rfl, rfl⟩).r (.int _) (shp_dI _))).is ?_
        rw [hl]
        show (!PyData.eqv (dI _) (dI _)) = false
        rw [eqv_dI]
        simp
      · have c1a := c1_all (K := K) (M := M) (L := L) (bs := xs.map fun x => isWholeD x 0 ((n.k : Int) - 1))
        rw [List.map_map, List.all_map] at c1a
        by_cases hw : (xs.all fun x => isWholeD x 0 ((n.k : Int) - 1)) = true
        · obtain ⟨wy, rfl, hlt⟩ := whole_all (k := n.k) (by omega) (List.all_eq_true.mp hw)
          rw [List.length_map] at hl
          cases wy with
          | nil => simp at hl
          | cons x u =>
            have hlu : u.length = n.os.length := by simpa using hl
            have hmem : (x :: u) ∈ Wn n b e ↔ x / 2 = b / 2 ∧ (x :: u).getLastD 0 = e ∧ ∀ i, i < n.os.length → (x :: u).getD (i + 1) 0 ∈ nextW (n.os.getD i []) ((x :: u).getD i 0) := by
              unfold Wn endsIn
              rw [List.mem_filter, mem_all, decide_eq_true_iff]
              constructor
              · rintro ⟨⟨x', u', h1, h2, h3⟩, h4⟩
                cases h1
                exact ⟨h2, h4, ((pth_iff _ _ _).mp h3).2⟩
              · rintro ⟨h1, h2, h3⟩
                exact ⟨⟨x, u, rfl, h1, (pth_iff _ _ _).mpr ⟨hlu, h3⟩⟩, h2⟩
            have hW : isWayD n b e (dT (x :: u)) = true ↔ (x :: u) ∈ Wn n b e := by
              rw [isWayD_iff]
              constructor
              · rintro ⟨w', h1, h2⟩
                have : (x :: u).map dI = w'.map dI := by unfold dT at h2; injection h2
                rw [map_dI_inj this]; exact h1
              · exact fun h => ⟨_, h, rfl⟩
            have hF : ¬ (x :: u) ∈ Wn n b e → isWayD n b e (dT (x :: u)) = false := fun h => by
              rw [← Bool.not_eq_true]; exact fun q => h (hW.mp q)
            refine q_if (b := decide (x / 2 ≠ b / 2)) ?_ (fun hb1 => go_ret ev_bl hR ?_) (fun hb1 => ?_)
            · refine (eb_or (a := false) (b := decide (x / 2 ≠ b / 2)) ((eb_not (eb_B (ev_cb1 (EvD.r (ev_lcAll (js := [4]) (F := Fn 4) (fun x => .bool (isWholeD x 0 ((n.k : Int) - 1))) (ei_seqT (ev_var rfl)) (by decide) (fun x hx => tg_name) (by rw [List.length_map, hl]; omega) fun x hx => ev_call (ea_three (ev_var rfl) ev_int (ev_sub (ev_call (ea_one (ev_var rfl)) ⟨n, hn, rfl, rfl⟩).r ev_int.r)) ⟨_, _, _, rfl, rfl⟩)) c1a))).is (by rw [Bool.not_eq_false']; exact hw)) fun _ => ?_).is (by simp)
              refine (eb_B (ev_neI (i := (x : Int) / 2) (j := (b : Int) / 2) (ev_fdiv (i := (x : Int)) (ev_ixT (es := (x :: u).map dI) (ev_var rfl).r ev_int.r (atI_get (i := 0) (d := dI x) rfl)).r ev_int.r (by decide)).r (ev_fdiv (i := (b : Int)) (ev_var rfl).r ev_int.r (by decide)).r)).is ?_
              by_cases q : x / 2 = b / 2
              · have q' : (x : Int) / 2 = (b : Int) / 2 := by omega
                simp [q, q']
              · have q' : ¬ (x : Int) / 2 = (b : Int) / 2 := by omega
                simp [q, q']
            · show _ = PyData.bool (isWayD n b e (dT (x :: u)))
              rw [hF fun h => (of_decide_eq_true hb1) (hmem.mp h).1]
            · have hx2 : x / 2 = b / 2 := by
                have := of_decide_eq_false hb1
                exact Decidable.not_not.mp this
              refine q_if (b := decide ((x :: u).getLastD 0 ≠ e)) ?_ (fun hb2 => go_ret ev_bl hR ?_) (fun hb2 => ?_)
              · refine (eb_B (ev_ne (n := 1) (m := 1) (ev_ixT (es := (x :: u).map dI) (ev_var rfl).r (ev_neg ev_int).r (atI_last (List.cons_ne_nil x u))).r (ev_var rfl).r (shp_dI _) (shp_dI _))).is ?_
                rw [eqv_dI]
                simp
              · show _ = PyData.bool (isWayD n b e (dT (x :: u)))
                rw [hF fun h => (of_decide_eq_true hb2) (hmem.mp h).2.1]
              · have hxe : (x :: u).getLastD 0 = e := by
                  have := of_decide_eq_false hb2
                  exact Decidable.not_not.mp this
                have hgo : ∀ i, i < n.os.length → (x :: u)[i]? = some ((x :: u).getD i 0) ∧ (x :: u)[i + 1]? = some ((x :: u).getD (i + 1) 0) ∧ (x :: u).getD i 0 < n.k := fun i hi => by
                  have e1 : (x :: u)[i]? = some ((x :: u).getD i 0) := by rw [List.getD_eq_getElem?_getD, List.getElem?_eq_getElem (by rw [hl]; omega)]; rfl
                  have e2 : (x :: u)[i + 1]? = some ((x :: u).getD (i + 1) 0) := by rw [List.getD_eq_getElem?_getD, List.getElem?_eq_getElem (by rw [hl]; omega)]; rfl
                  exact ⟨e1, e2, hlt _ (List.mem_of_getElem? e1)⟩
                have c2a := c1_all (K := K) (M := M) (L := L) (bs := (List.range n.os.length).map fun i => decide ((x :: u).getD (i + 1) 0 ∈ nextW (n.os.getD i []) ((x :: u).getD i 0)))
                rw [List.map_map, List.all_map] at c2a
                refine go_ret (ev_is (ev_cb1 (EvD.r (ev_lcAllM (js := [5]) (F := Fn 5) (enc := dI) (l := List.range n.os.length) (fun i => .bool (decide ((x :: u).getD (i + 1) 0 ∈ nextW (n.os.getD i []) ((x :: u).getD i 0)))) ?_ (by decide) (fun x hx => tg_name) (by rw [List.length_range]; omega) fun i hi => ?_)) c2a) ?_) hR rfl
                · rw [← rng0]
                  exact ei_rng1 (ea_one (ev_is (ev_lenT (ev_ixT (es := [dI n.b, .tuple (n.os.map dT)]) (ev_var rfl).r ev_int.r rfl).r) (by rw [List.length_map]))) (by omega)
                · have hi' : i < n.os.length := List.mem_range.mp hi
                  obtain ⟨h1, h2, h3⟩ := hgo i hi'
                  have ho : n.os[i]? = some (n.os.getD i []) := by rw [List.getD_eq_getElem?_getD, List.getElem?_eq_getElem hi']; rfl
                  refine ev_is (ev_inL (n := 1) (m := 1) (ev_ixT (es := (x :: u).map dI) (i := ((i + 1 : Nat) : Int)) (ev_var rfl).r (ev_is (ev_addI (i := (i : Int)) (ev_var rfl).r ev_int.r) rfl).r (atI_get (by rw [List.getElem?_map, h2]; rfl))).r (ev_call (ea_three (ev_var rfl) (ev_var rfl) (ev_ixT (es := (x :: u).map dI) (ev_var rfl).r (ev_var rfl).r (atI_get (by rw [List.getElem?_map, h1]; rfl)))) ⟨n, i, _, _, hn, h3, ho, rfl, rfl⟩).r (shp_dI _) (Shp.map fun y _ => shp_dI y)) (by rw [any_dI])
                · congr 1
                  show _ = isWayD n b e (dT (x :: u))
                  rw [isWayD_eq (c := (List.range n.os.length).all fun i => decide ((x :: u).getD (i + 1) 0 ∈ nextW (n.os.getD i []) ((x :: u).getD i 0)))]
                  · rfl
                  · rw [← isWayD_iff, hW, hmem, List.all_eq_true]
                    constructor
                    · intro h
                      refine ⟨hx2, hxe, fun i hi => ?_⟩
                      exact of_decide_eq_true (h i (List.mem_range.mpr hi))
                    · intro h i hi
                      exact decide_eq_true (h.2.2 i (List.mem_range.mp hi))
        · refine q_if (b := true) ?_ (fun _ => go_ret ev_bl hR ?_) (fun h => Bool.noConfusion h)
          · refine (eb_or (a := true) (b := true) ((eb_not (eb_B (ev_cb1 (EvD.r (ev_lcAll (js := [4]) (F := Fn 4) (fun x => .bool (isWholeD x 0 ((n.k : Int) - 1))) (ei_seqT (ev_var rfl)) (by decide) (fun x hx => tg_name) (by rw [hl]; omega) fun x hx => ev_call (ea_three (ev_var rfl) ev_int (ev_sub (ev_call (ea_one (ev_var rfl)) ⟨n, hn, rfl, rfl⟩).r ev_int.r)) ⟨_, _, _, rfl, rfl⟩)) c1a))).is (by rw [Bool.not_eq_true']; exact Bool.not_eq_true _ |>.mp hw)) fun h => Bool.noConfusion h).is rfl
          · rw [bad fun w1 hw1 q => ?_]
            have q' : xs = w1.map dI := by unfold dT at q; injection q
            refine hw (List.all_eq_true.mpr fun y hy => ?_)
            rw [q'] at hy
            obtain ⟨z, hz, rfl⟩ := List.mem_map.mp hy
            rw [whole_lt (by omega), decide_eq_true_iff]
            exact (W_ok hn hb w1 hw1).lt z hz
    · refine q_if (b := true) ?_ (fun _ => go_ret ev_bl hR ?_) (fun h => Bool.noConfusion h)
      · refine (eb_or (a := false) (b := true) ((eb_not (eb_B (ev_cbv (ev_var rfl).r cv_tup))).is rfl) fun _ => ?_).is rfl
        refine (eb_B (ev_ne (n := 1) (m := 1) (ev_lenT (ev_var rfl).r).r (ev_call (ea_one (ev_var rfl)) ⟨n, hn, rfl, rfl⟩).r (.int _) (shp_dI _))).is ?_
        show (!PyData.eqv (dI _) (dI _)) = true
        rw [eqv_dI, decide_eq_false hl]
        rfl
      · rw [bad fun w hw q => ?_]
        have hw' := (W_ok hn hb w hw).len
        have q' : xs = w.map dI := by unfold dT at q; injection q
        rw [q', List.length_map] at hl
        exact hl hw'
  · refine q_if (b := true) ?_ (fun _ => go_ret ev_bl hR ?_) (fun h => Bool.noConfusion h)
    · refine (eb_or (a := true) (b := true) ((eb_not (eb_B (ev_cbv (ev_var rfl).r cv_tup))).is ?_) (fun h => Bool.noConfusion h)).is rfl
      cases v with
      | tuple xs => exact absurd ⟨xs, rfl⟩ hv
      | _ => rfl
    · rw [bad fun w hw q => hv ⟨_, q⟩]
end
end Kd
namespace Kd
open PySem L2
open PyProof.Rows (envOfC)
section
variable {P : Program} {w : World} {K : PySem.W.Frag} {mg : Str → Option Value} {base : Heap} {f : Addr} {fd : FuncData}
def spotD (R k : Nat) (v : PyData) : Bool := match v with
  | .tuple [r, x] => isWholeD r 0 ((R : Int) - 1) && isWholeD x 0 ((k : Int) - 1)
  | _ => false
def pre_is_spot : List PyData → PyData → Prop := fun ds r => ∃ n v, NetOk n ∧ ds = [dN n, v, dI n.k] ∧ r = .bool (spotD (n.os.length + 1) n.k v)
abbrev s_is_spot : Stmt := top 28
abbrev N_is_spot : List Str := ["net", "value", "many"]
abbrev ps_is_spot : List Str := ["net", "value", "many"]
theorem sc_is_spot : FnScope N_is_spot ps_is_spot (defScope s_is_spot) := ⟨rfl, rfl, rfl, by decide +kernel, rfl, by decide +kernel, by decide +kernel⟩

theorem ok_is_spot (F : FunAt K mg "is_spot" s_is_spot ps_is_spot f fd) (B : Bt mg) (D_is_whole : DefOk P w K mg base "is_whole" 1 ps_is_whole (spD pre_is_whole)) (D_rows_of : DefOk P w K mg base "rows_of" 1 ps_rows_of (spD pre_rows_of)) : DefOk P w K mg base "is_spot" 2 ps_is_spot (spD pre_is_spot) := by
  refine DefOk.pure F sc_is_spot (fun ds r ⟨n, v, _, h, _⟩ => by rw [h]; rfl) fun cdv A outer s H E hg hr => ?_
  have nd := sc_is_spot.nd
  refine ⟨_, (pss_cons (ps_if (PW.pt (pw_or (pt_not (pt_val (pe_callB (kIsi K) (by rfl) B.isinstance (by decide +kernel) (pa_cons (pv 1) (pa_cons (pe_bltn (v := .ty "tuple") (by rfl) B.tuple (by decide +kernel) rfl) pa_nil))))) (pw_or (pt_cmpR (kNe K hr.units) (pe_callB (kLen K) (by rfl) B.len (by decide +kernel) (pa_cons (pv 1) pa_nil)) pe_int (nomark _)) (pw_or1 (pt_not (pt_val (pe_callD D_is_whole hg (hr.mono (by decide)) (by rfl) (pa_cons (pe_ix (kIx K) (pv 1) pe_int (fun _ _ => rfl)) (pa_cons pe_int (pa_cons (pe_op op_sub (pe_callD D_rows_of hg (hr.mono (by decide)) (by rfl) (pa_cons (pv 0) pa_nil)) pe_int) pa_nil)))))))))) (pss_one (ps_ret pe_bl)) pss_nil)
    (pss_one (ps_ret (pe_callD D_is_whole hg (hr.mono (by decide)) (by rfl) (pa_cons (pe_ix (kIx K) (pv 1) pe_int (fun _ _ => rfl)) (pa_cons pe_int (pa_cons (pe_op op_sub (pv 2) pe_int) pa_nil))))))), ?_⟩
  rintro M fu L G0 D ds r ⟨n, v, hn, rfl, rfl⟩ hR _
  by_cases hv : ∃ xs, v = .tuple xs
  · obtain ⟨xs, rfl⟩ := hv
    by_cases hl : ∃ a b, xs = [a, b]
    · obtain ⟨a, b, rfl⟩ := hl
      refine q_if (b := !isWholeD a 0 (((n.os.length + 1 : Nat) : Int) - 1)) ?_ (fun h => go_ret ev_bl hR ?_) (fun h => go_ret (ev_is (ev_call (ea_three (ev_ixT (es := [a, b]) (ev_var rfl).r ev_int.r rfl) ev_int (ev_sub (ev_var rfl).r ev_int.r)) ⟨b, 0, (n.k : Int) - 1, rfl, rfl⟩) ?_) hR rfl)
      · refine (eb_or (a := false) ((eb_not (eb_B (ev_cbv (ev_var rfl).r cv_tup))).is rfl) fun _ => eb_or (a := false) ((eb_B (ev_neI (ev_lenT (es := [a, b]) (ev_var rfl).r).r ev_int.r)).is rfl) fun _ => ?_).is rfl
        exact eb_not (eb_B (ev_call (ea_three (ev_ixT (es := [a, b]) (ev_var rfl).r ev_int.r rfl) ev_int (ev_sub (ev_call (ea_one (ev_var rfl)) ⟨n, hn, rfl, rfl⟩).r ev_int.r)) ⟨a, 0, ((n.os.length + 1 : Nat) : Int) - 1, rfl, rfl⟩))
      · rw [Bool.not_eq_true'] at h
        show _ = PyData.bool (isWholeD a 0 (((n.os.length + 1 : Nat) : Int) - 1) && isWholeD b 0 ((n.k : Int) - 1))
        rw [h]; rfl
      · rw [Bool.not_eq_false'] at h
        show _ = PyData.bool (isWholeD a 0 (((n.os.length + 1 : Nat) : Int) - 1) && isWholeD b 0 ((n.k : Int) - 1))
        rw [h]; rfl
    · have hne : ¬ xs.length = 2 := fun e => hl (by
        match xs, e with
        | [a, b], _ => exact ⟨a, b, rfl⟩)
      refine q_if (b := true) ?_ (fun h => go_ret ev_bl hR ?_) (fun h => Bool.noConfusion h)
      · refine (eb_or (a := false) (b := true) ((eb_not (eb_B (ev_cbv (ev_var rfl).r cv_tup))).is rfl) fun _ => (eb_or (a := true) (b := true) ((eb_B (ev_neI (ev_lenT (es := xs) (ev_var rfl).r).r ev_int.r)).is ?_) fun h => Bool.noConfusion h).is rfl).is rfl
        rw [Bool.not_eq_true', decide_eq_false_iff_not]
        omega
      · unfold spotD
        match xs, hl with
        | [], _ => rfl
        | [a], _ => rfl
        | [a, b], h => exact absurd ⟨a, b, rfl⟩ h
        | a :: b :: c :: l, _ => rfl
  · refine q_if (b := true) ?_ (fun h => go_ret ev_bl hR ?_) (fun h => Bool.noConfusion h)
    · refine (eb_or (a := true) (b := true) ((eb_not (eb_B (ev_cbv (ev_var rfl).r cv_tup))).is ?_) fun h => Bool.noConfusion h).is rfl
      cases v with
      | tuple xs => exact absurd ⟨xs, rfl⟩ hv
      | _ => rfl
    · cases v with
      | tuple xs => exact absurd ⟨xs, rfl⟩ hv
      | _ => rfl
theorem spotD_ok {n : Net} (hn : NetOk n) (a x : Nat) : spotD (n.os.length + 1) n.k (dP (a, x)) = (decide (a ≤ n.os.length) && decide (x < n.k)) := by
  obtain ⟨j, hk, hj1, _⟩ := hn.k2
  show (isWholeD (dI a) 0 (((n.os.length + 1 : Nat) : Int) - 1) && isWholeD (dI x) 0 ((n.k : Int) - 1)) = _
  rw [whole_lt (by omega), whole_lt (by omega)]
  congr 1
  by_cases h : a ≤ n.os.length
  · rw [decide_eq_true h, decide_eq_true (by omega)]
  · rw [decide_eq_false h, decide_eq_false (by omega)]

def pre_do_rise : List PyData → PyData → Prop := fun ds r => ∃ S : Spots, S.Pairwise UpP ∧ S.length ≤ 1000 ∧ ds = [dL S] ∧ r = .bool true
abbrev s_do_rise : Stmt := top 29
abbrev N_do_rise : List Str := ["some", "one", "other"]
abbrev ps_do_rise : List Str := ["some"]
theorem sc_do_rise : FnScope N_do_rise ps_do_rise (defScope s_do_rise) := ⟨rfl, rfl, rfl, by decide +kernel, rfl, by decide +kernel, by decide +kernel⟩

theorem lex_up {p q : Nat × Nat} (h : UpP p q) : HT.lexLt [(p.1 : Int), (p.2 : Int)] [(q.1 : Int), (q.2 : Int)] = true := by
  unfold UpP at h
  simp only [HT.lexLt]
  rcases h with h | ⟨h1, h2⟩
  · have : ¬ (p.1 : Int) = q.1 := by omega
    have h' : (p.1 : Int) < q.1 := by omega
    simp [this, h, h']
  · have : (p.1 : Int) = q.1 := by omega
    have h' : (p.2 : Int) < q.2 := by omega
    have h2' : ¬ (p.2 : Int) = q.2 := by omega
    simp [this, h', h2', h2]
theorem zip_up : ∀ {S : Spots}, S.Pairwise UpP → ∀ q ∈ S.zip S.tail, UpP q.1 q.2
  | [], _, q, h => by simp at h
  | [p], _, q, h => by simp at h
  | p :: p' :: S, hp, q, h => by
    obtain ⟨h1, h2⟩ := List.pairwise_cons.mp hp
    have h' : q ∈ (p, p') :: (p' :: S).zip S := h
    rcases List.mem_cons.mp h' with rfl | h'
    · exact h1 p' List.mem_cons_self
    · exact zip_up h2 q h'
theorem ok_do_rise (F : FunAt K mg "do_rise" s_do_rise ps_do_rise f fd) (B : Bt mg) : DefOk P w K mg base "do_rise" 1 ps_do_rise (spD pre_do_rise) := by
  refine DefOk.pure F sc_do_rise (fun ds r ⟨S, _, _, h, _⟩ => by rw [h]; rfl) fun cdv A outer s H E hg hr => ?_
  have nd := sc_do_rise.nd
  refine ⟨_, (pss_one (ps_ret (pe_callB (kAll K rfl) (by rfl) B.all (by decide +kernel) (pa_cons (pe_lc (own := [("one", 1), ("other", 2)]) rfl nd (kZip K (by rfl) B.zip (pa_cons (pv 0) (pa_cons (pe_slice (kSl K) (pv 0) (po_some pe_int) po_none) pa_nil))) (blkOk_by (own := [("one", 1), ("other", 2)]) (N := N_do_rise) (sc := defScope s_do_rise) (by decide +kernel)) (fun _ _ _ _ _ => (kTup (n := 2) K rfl (pgs_cons (pg_name (i := 1) nd rfl (Or.inl rfl)) (pgs_cons (pg_name (i := 2) nd rfl (Or.inl rfl)) pgs_nil)))) (fun _ _ _ _ _ => pts_nil) (fun _ _ _ _ _ => (pe_cmpR (kLt K hr.units0) (pv 1) (pv 2) (nomark _)))) pa_nil)))), ?_⟩
  rintro M fu L G0 D ds r ⟨S, hS, hlen, rfl, rfl⟩ hR _
  have c1a := c1_all (K := K) (M := M) (L := L) (bs := (S.zip S.tail).map fun _ => true)
  rw [List.map_map, List.all_map] at c1a
  refine go_ret (ev_is (ev_cb1 (EvD.r (ev_lcAllM (bw := true) (js := [1, 2]) (F := Fp 1 2) (enc := fun q : (Nat × Nat) × (Nat × Nat) => .tuple [dP q.1, dP q.2]) (l := S.zip S.tail) (fun _ => .bool true) ?_ (by decide) (fun x hx => tg_pair) ?_ fun q hq => ?_)) c1a) ?_) hR rfl
  · rw [← zipWith_pairs, ← tail_map, ← cut_from]
    exact ei_zip (ev_var rfl) (ev_slT (ev_var rfl).r (eo_some ev_int) eo_none)
  · have := List.length_zip (l₁ := S) (l₂ := S.tail)
    omega
  · have hu := zip_up hS q hq
    exact ev_is (ev_ltT (ns := [(q.1.1 : Int), (q.1.2 : Int)]) (ms := [(q.2.1 : Int), (q.2.2 : Int)]) (ev_var rfl).r (ev_var rfl).r) (by rw [lex_up hu])
  · congr 1
    rw [List.all_eq_true]
    intro x hx
    rfl

def pre_need_broken : List PyData → PyData → Prop := fun ds r => ∃ n S, NetOk n ∧ BrkOk n S ∧ ds = [dN n, dL S] ∧ r = .none
abbrev s_need_broken : Stmt := top 30
abbrev N_need_broken : List Str := ["net", "broken", "many", "one"]
abbrev ps_need_broken : List Str := ["net", "broken"]
theorem sc_need_broken : FnScope N_need_broken ps_need_broken (defScope s_need_broken) := ⟨rfl, rfl, rfl, by decide +kernel, rfl, by decide +kernel, by decide +kernel⟩

theorem ok_need_broken (F : FunAt K mg "need_broken" s_need_broken ps_need_broken f fd) (B : Bt mg) (D_wires_of : DefOk P w K mg base "wires_of" 1 ps_wires_of (spD pre_wires_of)) (D_need_net : DefOk P w K mg base "need_net" 3 ps_need_net (spD pre_need_net))
    (D_is_spot : DefOk P w K mg base "is_spot" 2 ps_is_spot (spD pre_is_spot)) (D_do_rise : DefOk P w K mg base "do_rise" 1 ps_do_rise (spD pre_do_rise)) : DefOk P w K mg base "need_broken" 4 ps_need_broken (spD pre_need_broken) := by
  refine DefOk.pure F sc_need_broken (fun ds r ⟨n, S, _, _, h, _⟩ => by rw [h]; rfl) fun cdv A outer s H E hg hr => ?_
  have nd := sc_need_broken.nd
  refine ⟨_, (pss_cons (ps_set (i := 2) nd rfl (Or.inr rfl) (pe_callD D_wires_of hg (hr.mono (by decide)) (by rfl) (pa_cons (pe_callD D_need_net hg (hr.mono (by decide)) (by rfl) (pa_cons (pv 0) pa_nil)) pa_nil)))
    (pss_one (ps_if (PW.pt (pw_or (pt_not (pt_val (pe_callB (kIsi K) (by rfl) B.isinstance (by decide +kernel) (pa_cons (pv 1) (pa_cons (pe_bltn (v := .ty "tuple") (by rfl) B.tuple (by decide +kernel) rfl) pa_nil))))) (pw_or (pt_not (pt_val (pe_callB (kAll K rfl) (by rfl) B.all (by decide +kernel) (pa_cons (pe_lc (own := [("one", 3)]) rfl nd (kSeq K (pv 1)) (blkOk_by (own := [("one", 3)]) (N := N_need_broken) (sc := defScope s_need_broken) (by decide +kernel)) (fun _ _ _ _ _ => (pg_name (i := 3) nd rfl (Or.inl rfl))) (fun _ _ _ _ _ => pts_nil) (fun _ _ _ _ _ => (pe_callD D_is_spot hg (hr.mono (by decide)) (by rfl) (pa_cons (pv 0) (pa_cons (pv 3) (pa_cons (pv 2) pa_nil)))))) pa_nil)))) (pw_or1 (pt_not (pt_val (pe_callD D_do_rise hg (hr.mono (by decide)) (by rfl) (pa_cons (pv 1) pa_nil)))))))) (pss_one ps_never) pss_nil))), ?_⟩
  rintro M fu L G0 D ds r ⟨n, S, hn, hS, rfl, rfl⟩ hR hN
  have c1a := c1_all (K := K) (M := M) (L := L) (bs := S.map fun p => spotD (n.os.length + 1) n.k (dP p))
  rw [List.map_map, List.all_map] at c1a
  refine q_asg (d := dI n.k) (ev_call (ea_one (ev_call (ea_one (ev_var rfl)) ⟨n, hn, rfl, rfl⟩)) ⟨n, hn, rfl, rfl⟩) (go_skip ?_ (hN rfl _))
  refine (eb_or (a := false) ((eb_not (eb_B (ev_cbv (ev_var rfl).r cv_tup))).is rfl) fun _ => eb_or (a := false) ?_ fun _ => (eb_not (eb_B (ev_call (ea_one (ev_var rfl)) ⟨S, hS.up, hS.len, rfl, rfl⟩))).is rfl).is rfl
  refine (eb_not (eb_B (ev_cb1 (EvD.r (ev_lcAllM (js := [3]) (F := Fn 3) (enc := dP) (l := S) (fun p => .bool (spotD (n.os.length + 1) n.k (dP p))) (ei_seqT (ev_var rfl)) (by decide) (fun x hx => tg_name) (by have := hS.len; omega) fun p hp => ev_call (ea_three (ev_var rfl) (ev_var rfl) (ev_var rfl)) ⟨n, _, hn, rfl, rfl⟩)) c1a))).is ?_
  rw [Bool.not_eq_false', List.all_eq_true]
  intro p hp
  obtain ⟨h1, h2⟩ := hS.ok p hp
  show spotD (n.os.length + 1) n.k (dP (p.1, p.2)) = true
  rw [spotD_ok hn, decide_eq_true h1, decide_eq_true h2]; rfl

def pre_left_of : List PyData → PyData → Prop := fun ds r => ∃ n S b e, NetOk n ∧ BrkOk n S ∧ b < n.k ∧ ds = [dN n, dL S, dI b, dI e] ∧ r = .list ((leftW n S b e).map dT)
abbrev s_left_of : Stmt := top 31
abbrev N_left_of : List Str := ["net", "broken", "begin", "end", "way", "one"]
abbrev ps_left_of : List Str := ["net", "broken", "begin", "end"]
theorem sc_left_of : FnScope N_left_of ps_left_of (defScope s_left_of) := ⟨rfl, rfl, rfl, by decide +kernel, rfl, by decide +kernel, by decide +kernel⟩

theorem ok_left_of (F : FunAt K mg "left_of" s_left_of ps_left_of f fd) (B : Bt mg) (D_ways_of : DefOk P w K mg base "ways_of" 2 ps_ways_of (spD pre_ways_of)) : DefOk P w K mg base "left_of" 3 ps_left_of (spD pre_left_of) := by
  refine DefOk.pure F sc_left_of (fun ds r ⟨n, S, b, e, _, _, _, h, _⟩ => by rw [h]; rfl) fun cdv A outer s H E hg hr => ?_
  have nd := sc_left_of.nd
  refine ⟨_, (pss_one (ps_ret (pe_lc (own := [("way", 4)]) rfl nd (kSeq K (pe_callD D_ways_of hg (hr.mono (by decide)) (by rfl) (pa_cons (pv 0) (pa_cons (pv 2) (pa_cons (pv 3) pa_nil))))) (blkOk_by (own := [("way", 4)]) (N := N_left_of) (sc := defScope s_left_of) (by decide +kernel)) (fun _ _ _ _ _ => (pg_name (i := 4) nd rfl (Or.inl rfl))) (fun _ _ _ _ _ => (pts_one (pt_not (pt_val (pe_callB (kAny K rfl) (by rfl) B.any (by decide +kernel) (pa_cons (pe_lc (own := [("one", 5)]) rfl nd (kEnumT K (by rfl) B.enumerate (pa_cons (pv 4) pa_nil)) (blkOk_by (own := [("one", 5)]) (by rfl)) (fun _ _ _ _ _ => (pg_name (i := 5) nd rfl (Or.inl rfl))) (fun _ _ _ _ _ => pts_nil) (fun _ _ _ _ _ => (pe_cmpR (kIn K hr) (pv 5) (pv 1) (by rfl)))) pa_nil)))))) (fun _ _ _ _ _ => (pv 4))))), ?_⟩
  rintro M fu L G0 D ds r ⟨n, S, b, e, hn, hS, hb, rfl, rfl⟩ hR _
  refine go_ret (ev_is (ev_lcM (js := [4]) (F := Fn 4) (enc := dT) (l := Wn n b e) (fun w => !hitW S w) dT (ei_seqL (ev_call (ea_three (ev_var rfl) (ev_var rfl) (ev_var rfl)) ⟨n, b, e, hn, hb, rfl, rfl⟩)) (by decide) (fun x hx => tg_name) (by have := W_len hn b e; omega) fun v hv => ⟨?_, fun _ => ev_var rfl⟩) rfl) hR rfl
  have c1a := c1_any (K := K) (M := M) (L := L) (bs := (enumN 0 v).map fun p => decide (p ∈ S))
  rw [List.map_map, List.any_map] at c1a
  refine eb_not (eb_B (ev_cb1 (EvD.r (ev_lcAllM (js := [5]) (F := Fn 5) (enc := dP) (l := enumN 0 v) (fun p => .bool (decide (p ∈ S))) ?_ (by decide) (fun x hx => tg_name) ?_ fun p hp => ?_)) c1a))
  · rw [← enum_way]
    exact ei_enumT (ev_var rfl)
  · rw [enumN_len, (W_ok hn hb v hv).len]
    have := hn.len
    omega
  · exact ev_is (ev_inT (n := 1) (m := 1) (ev_var rfl).r (ev_var rfl).r (shp_dP p) (Shp.map fun q _ => shp_dP q)) (by rw [any_dP])
end
end Kd
namespace Kd
open PySem L2
open PyProof.Rows (envOfC)
section
variable {P : Program} {w : World} {K : PySem.W.Frag} {mg : Str → Option Value} {base : Heap} {f : Addr} {fd : FuncData}
theorem left_len {n : Net} (h : NetOk n) (S : Spots) (b e : Nat) : (leftW n S b e).length ≤ 64 := Nat.le_trans (List.length_filter_le _ _) (W_len h b e)
def pre_ways_left : List PyData → PyData → Prop := fun ds r => ∃ n S b e, NetOk n ∧ BrkOk n S ∧ b < n.k ∧ e < n.k ∧ ds = [dN n, dL S, dI b, dI e] ∧ r = .tuple ((leftW n S b e).map dT)
abbrev s_ways_left : Stmt := top 32
abbrev N_ways_left : List Str := ["net", "broken", "begin", "end"]
abbrev ps_ways_left : List Str := ["net", "broken", "begin", "end"]
theorem sc_ways_left : FnScope N_ways_left ps_ways_left (defScope s_ways_left) := ⟨rfl, rfl, rfl, by decide +kernel, rfl, by decide +kernel, by decide +kernel⟩

theorem ok_ways_left (F : FunAt K mg "ways_left" s_ways_left ps_ways_left f fd) (B : Bt mg) (D_need_broken : DefOk P w K mg base "need_broken" 4 ps_need_broken (spD pre_need_broken)) (D_need_wire : DefOk P w K mg base "need_wire" 4 ps_need_wire (spD pre_need_wire)) (D_left_of : DefOk P w K mg base "left_of" 3 ps_left_of (spD pre_left_of)) : DefOk P w K mg base "ways_left" 5 ps_ways_left (spD pre_ways_left) := by
  refine DefOk.pure F sc_ways_left (fun ds r ⟨n, S, b, e, _, _, _, _, h, _⟩ => by rw [h]; rfl) fun cdv A outer s H E hg hr => ?_
  have nd := sc_ways_left.nd
  refine ⟨_, (pss_cons (ps_expr (pe_callD D_need_broken hg (hr.mono (by decide)) (by rfl) (pa_cons (pv 0) (pa_cons (pv 1) pa_nil))))
    (pss_cons (ps_expr (pe_callD D_need_wire hg (hr.mono (by decide)) (by rfl) (pa_cons (pv 0) (pa_cons (pv 2) pa_nil))))
    (pss_cons (ps_expr (pe_callD D_need_wire hg (hr.mono (by decide)) (by rfl) (pa_cons (pv 0) (pa_cons (pv 3) pa_nil))))
    (pss_one (ps_ret (pe_callTy (kTuple K) (by rfl) B.tuple (by decide +kernel) (pa_cons (pe_callD D_left_of hg (hr.mono (by decide)) (by rfl) (pa_cons (pv 0) (pa_cons (pv 1) (pa_cons (pv 2) (pa_cons (pv 3) pa_nil))))) pa_nil))))))), ?_⟩
  rintro M fu L G0 D ds r ⟨n, S, b, e, hn, hS, hb, he, rfl, rfl⟩ hR _
  refine q_drop (ev_call (ea_two (ev_var rfl) (ev_var rfl)) ⟨n, S, hn, hS, rfl, rfl⟩) (q_drop (ev_call (ea_two (ev_var rfl) (ev_var rfl)) ⟨n, b, hn, hb, rfl, rfl⟩) (q_drop (ev_call (ea_two (ev_var rfl) (ev_var rfl)) ⟨n, e, hn, he, rfl, rfl⟩) ?_))
  exact go_ret (ev_tupleL (ev_call (ea_cons (ev_var rfl) (ea_three (ev_var rfl) (ev_var rfl) (ev_var rfl))) ⟨n, S, b, e, hn, hS, hb, rfl, rfl⟩).r) hR rfl

def pre_lost_pairs : List PyData → PyData → Prop := fun ds r => ∃ n S, NetOk n ∧ BrkOk n S ∧ ds = [dN n, dL S] ∧ r = dL (lostW n S)
abbrev s_lost_pairs : Stmt := top 33
abbrev N_lost_pairs : List Str := ["net", "broken", "every", "found", "begin", "end"]
abbrev ps_lost_pairs : List Str := ["net", "broken"]
theorem sc_lost_pairs : FnScope N_lost_pairs ps_lost_pairs (defScope s_lost_pairs) := ⟨rfl, rfl, rfl, by decide +kernel, rfl, by decide +kernel, by decide +kernel⟩

theorem getRange {k i : Nat} {x : PyData} (h : ((List.range k).map dI)[i]? = some x) : i < k ∧ x = dI i := by
  rw [List.getElem?_map] at h
  cases e : (List.range k)[i]? with
  | none => rw [e] at h; cases h
  | some j =>
    rw [e] at h
    cases h
    obtain ⟨h1, h2⟩ := List.getElem?_eq_some_iff.mp e
    rw [List.getElem_range] at h2
    rw [List.length_range] at h1
    exact ⟨h1, by rw [h2]⟩
def lostUpto (n : Net) (S : Spots) (b i : Nat) : Spots := ((List.range i).filter fun e => decide (Wn n b e ≠ []) && decide (leftW n S b e = [])).map fun e => (b, e)
theorem lostUpto_succ (n : Net) (S : Spots) (b i : Nat) : lostUpto n S b (i + 1) = lostUpto n S b i ++ (if (decide (Wn n b i ≠ []) && decide (leftW n S b i = [])) = true then [(b, i)] else []) := by
  unfold lostUpto
  rw [List.range_succ, List.filter_append, List.map_append, List.filter_cons]
  by_cases h : (decide (Wn n b i ≠ []) && decide (leftW n S b i = [])) = true
  · rw [if_pos h, if_pos h]; rfl
  · rw [if_neg h, if_neg h]; rfl
theorem lostUpto_len (n : Net) (S : Spots) (b i : Nat) : (lostUpto n S b i).length ≤ i := by
  unfold lostUpto
  rw [List.length_map]
  exact Nat.le_trans (List.length_filter_le _ _) (by rw [List.length_range]; exact Nat.le_refl _)
def lostAt (n : Net) (S : Spots) (i : Nat) : Spots := (List.range i).flatMap (lostRow n S)
theorem lostAt_succ (n : Net) (S : Spots) (i : Nat) : lostAt n S (i + 1) = lostAt n S i ++ lostUpto n S i n.k := by
  unfold lostAt
  rw [List.range_succ, List.flatMap_append, List.flatMap_cons, List.flatMap_nil, List.append_nil]
  rfl
theorem lostAt_len (n : Net) (S : Spots) : ∀ i, (lostAt n S i).length ≤ i * n.k
  | 0 => by simp [lostAt]
  | i + 1 => by
    rw [lostAt_succ, List.length_append, Nat.succ_mul]
    exact Nat.add_le_add (lostAt_len n S i) (lostUpto_len n S i n.k)
theorem isEmpty_eq {α : Type} [DecidableEq α] (l : List α) : l.isEmpty = decide (l = []) := by cases l <;> simp
theorem ok_lost_pairs (F : FunAt K mg "lost_pairs" s_lost_pairs ps_lost_pairs f fd) (B : Bt mg) (D_need_broken : DefOk P w K mg base "need_broken" 4 ps_need_broken (spD pre_need_broken)) (D_wires_of : DefOk P w K mg base "wires_of" 1 ps_wires_of (spD pre_wires_of)) (D_ways_of : DefOk P w K mg base "ways_of" 2 ps_ways_of (spD pre_ways_of)) (D_left_of : DefOk P w K mg base "left_of" 3 ps_left_of (spD pre_left_of)) : DefOk P w K mg base "lost_pairs" 5 ps_lost_pairs (spD pre_lost_pairs) := by
  refine DefOk.pure F sc_lost_pairs (fun ds r ⟨n, S, _, _, h, _⟩ => by rw [h]; rfl) fun cdv A outer s H E hg hr => ?_
  have nd := sc_lost_pairs.nd
  refine ⟨_, (pss_cons (ps_expr (pe_callD D_need_broken hg (hr.mono (by decide)) (by rfl) (pa_cons (pv 0) (pa_cons (pv 1) pa_nil))))
    (pss_cons (ps_set (i := 2) nd rfl (Or.inl rfl) (pe_listRg rfl (by rfl) B.list (prg_1 (by rfl) B.range (pe_callD D_wires_of hg (hr.mono (by decide)) (by rfl) (pa_cons (pv 0) pa_nil)))))
    (pss_cons (ps_set (i := 3) nd rfl (Or.inl rfl) (pe_lst pa_nil))
    (pss_cons (ps_for PassesOwn.never rfl (kSeq K (pv 2)) (pg_name (i := 4) nd rfl (Or.inl rfl)) (pss_one (ps_for PassesOwn.never rfl (kSeq K (pv 2)) (pg_name (i := 5) nd rfl (Or.inl rfl)) (pss_one (ps_if (PW.pt (pw_and (pt_cmpR (kNe K hr.units) (pe_callD D_ways_of hg (hr.mono (by decide)) (by rfl) (pa_cons (pv 0) (pa_cons (pv 4) (pa_cons (pv 5) pa_nil)))) (pe_lst pa_nil) (nomark _)) (pw_and1 (pt_cmpR (kEq K hr.units) (pe_callD D_left_of hg (hr.mono (by decide)) (by rfl) (pa_cons (pv 0) (pa_cons (pv 1) (pa_cons (pv 4) (pa_cons (pv 5) pa_nil))))) (pe_lst pa_nil) (nomark _))))) (pss_one (ps_expr (pe_bm PySem.F.plainAttrs_list PySem.F.slot_list_append PySem.F.type_list_append mt_append (pv 3) (pa_cons (pe_tupX (pa_cons (pv 4) (pa_cons (pv 5) pa_nil))) pa_nil)))) pss_nil)))))
    (pss_one (ps_ret (pe_callTy (kTuple K) (by rfl) B.tuple (by decide +kernel) (pa_cons (pv 3) pa_nil)))))))), ?_⟩
  rintro M fu L G0 D ds r ⟨n, S, hn, hS, rfl, rfl⟩ hR _
  obtain ⟨j, hk, hj1, hj8⟩ := hn.k2
  refine q_drop (ev_call (ea_two (ev_var rfl) (ev_var rfl)) ⟨n, S, hn, hS, rfl, rfl⟩) ?_
  refine q_asg (d := .list ((List.range n.k).map dI)) (ev_is (ev_listRg1 (n := (n.k : Nat)) (ev_call (ea_one (ev_var rfl)) ⟨n, hn, rfl, rfl⟩) (by omega) (by omega)) (by rw [rng0])) ?_
  refine q_asgF (es := []) (ef_lst ea_nil) fun p => ?_
  refine go_seq (go_for (js := [4]) (F := Fn 4) (ei_seqL (ev_var rfl)) (fun x hx => tg_name)
    (fun i f L' ds => f = fu ∧ L' = (p, (lostAt n S i).map dP) :: L ∧ ∃ a b, ds = [some (.dat (dN n)), some (.dat (dL S)), some (.dat (.list ((List.range n.k).map dI))), some (.raw (.ref p)), a, b]) ⟨rfl, rfl, none, none, rfl⟩ ?_ ?_)
  · rintro G1 e1 i x f1 L1 ds1 hx ⟨rfl, rfl, a, b, rfl⟩
    obtain ⟨hi, rfl⟩ := getRange hx
    refine go_for (js := [5]) (F := Fn 5) (ei_seqL (ev_var rfl)) (fun x hx => tg_name)
      (fun i' f L' ds => f = f1 ∧ L' = (p, (lostAt n S i ++ lostUpto n S i i').map dP) :: L ∧ ∃ b, ds = [some (.dat (dN n)), some (.dat (dL S)), some (.dat (.list ((List.range n.k).map dI))), some (.raw (.ref p)), some (.dat (dI i)), b]) ⟨rfl, by simp [lostUpto], b, rfl⟩ ?_ ?_
    · rintro G2 e2 i' x f2 L2 ds2 hx ⟨rfl, rfl, b', rfl⟩
      obtain ⟨hi', rfl⟩ := getRange hx
      have hlen : ((lostAt n S i ++ lostUpto n S i i').map dP).length < 50000 := by
        rw [List.length_map, List.length_append]
        have h1 := lostAt_len n S i
        have h2 := lostUpto_len n S i i'
        have h3 : i * n.k ≤ 16 * 16 := Nat.mul_le_mul (by omega) (by omega)
        omega
      have hcall : pre_ways_of [dN n, dI i, dI i'] (.list ((Wn n i i').map dT)) := ⟨n, i, i', hn, hi, rfl, rfl⟩
      have hcall2 : pre_left_of [dN n, dL S, dI i, dI i'] (.list ((leftW n S i i').map dT)) := ⟨n, S, i, i', hn, hS, hi, rfl, rfl⟩
      refine go_if (b := decide (Wn n i i' ≠ []) && decide (leftW n S i i' = [])) ?_ (fun h => ?_) (fun h => ?_)
      · refine eb_and ((eb_B (ev_ne (n := 2) (m := 2) (ev_call (ea_three (ev_var rfl) (ev_var rfl) (ev_var rfl)) hcall).r (ev_lst ea_nil).r (shp_ways _) (shp_ways []))).is ?_) fun _ => (eb_B (ev_eq (n := 2) (m := 2) (ev_call (ea_cons (ev_var rfl) (ea_three (ev_var rfl) (ev_var rfl) (ev_var rfl))) hcall2).r (ev_lst ea_nil).r (shp_ways _) (shp_ways []))).is ?_
        · rw [eqv_nil, isEmpty_eq]; simp
        · rw [eqv_nil, isEmpty_eq]
      · refine go_app (d := dP (i, i')) rfl (ev_tup (ea_two (ev_var rfl) (ev_var rfl))) hlen (nx_iv ⟨rfl, ?_, _, rfl⟩)
        rw [lostUpto_succ, if_pos h, ← List.append_assoc]
        simp only [List.map_append, List.map_cons, List.map_nil]
      · refine go_next (nx_iv ⟨rfl, ?_, _, rfl⟩)
        rw [lostUpto_succ, if_neg (by rw [h]; exact Bool.false_ne_true), List.append_nil]
    · rintro f2 L2 ds2 ⟨rfl, rfl, b', rfl⟩
      refine nx_iv ⟨rfl, ?_, _, _, rfl⟩
      rw [List.length_map, List.length_range, lostAt_succ]
  · rintro f1 L1 ds1 ⟨rfl, rfl, a, b, rfl⟩
    rw [List.length_map, List.length_range]
    refine nx_go (go_ret (ev_tupleL (er_own rfl List.mem_cons_self)) (hR.drop) ?_)
    rfl

def pre_are_apart : List PyData → PyData → Prop := fun ds r => ∃ v u : Way, v.length ≤ 1000 ∧ ds = [dT v, dT u] ∧ r = .bool (apartW v u)
abbrev s_are_apart : Stmt := top 34
abbrev N_are_apart : List Str := ["one", "other", "near", "far"]
abbrev ps_are_apart : List Str := ["one", "other"]
theorem sc_are_apart : FnScope N_are_apart ps_are_apart (defScope s_are_apart) := ⟨rfl, rfl, rfl, by decide +kernel, rfl, by decide +kernel, by decide +kernel⟩

theorem ok_are_apart (F : FunAt K mg "are_apart" s_are_apart ps_are_apart f fd) (B : Bt mg) : DefOk P w K mg base "are_apart" 1 ps_are_apart (spD pre_are_apart) := by
  refine DefOk.pure F sc_are_apart (fun ds r ⟨v, u, _, h, _⟩ => by rw [h]; rfl) fun cdv A outer s H E hg hr => ?_
  have nd := sc_are_apart.nd
  refine ⟨_, (pss_one (ps_ret (pe_callB (kAll K rfl) (by rfl) B.all (by decide +kernel) (pa_cons (pe_lc (own := [("near", 2), ("far", 3)]) rfl nd (kZip K (by rfl) B.zip (pa_cons (pe_slice (kSl K) (pv 0) po_none (po_some (pe_un un_neg pe_int))) (pa_cons (pe_slice (kSl K) (pv 1) po_none (po_some (pe_un un_neg pe_int))) pa_nil))) (blkOk_by (own := [("near", 2), ("far", 3)]) (N := N_are_apart) (sc := defScope s_are_apart) (by decide +kernel)) (fun _ _ _ _ _ => (kTup (n := 2) K rfl (pgs_cons (pg_name (i := 2) nd rfl (Or.inl rfl)) (pgs_cons (pg_name (i := 3) nd rfl (Or.inl rfl)) pgs_nil)))) (fun _ _ _ _ _ => pts_nil) (fun _ _ _ _ _ => (pe_cmpR (kNe K hr.units) (pv 2) (pv 3) (nomark _)))) pa_nil)))), ?_⟩
  rintro M fu L G0 D ds r ⟨v, u, hl, rfl, rfl⟩ hR _
  have c1a := c1_all (K := K) (M := M) (L := L) (bs := (v.dropLast.zip u.dropLast).map fun q => decide (q.1 ≠ q.2))
  rw [List.map_map, List.all_map] at c1a
  refine go_ret (ev_is (ev_cb1 (EvD.r (ev_lcAllM (bw := true) (js := [2, 3]) (F := Fp 2 3) (enc := fun q : Nat × Nat => .tuple [dI q.1, dI q.2]) (l := v.dropLast.zip u.dropLast) (fun q => .bool (decide (q.1 ≠ q.2))) ?_ (by decide) (fun x hx => tg_pair) ?_ fun q hq => ?_)) c1a) rfl) hR rfl
  · rw [← zipWith_pairs, ← dropLast_map, ← dropLast_map, ← cut_but, ← cut_but]
    exact ei_zip (ev_slT (ev_var rfl).r eo_none (eo_some (ev_neg ev_int))) (ev_slT (ev_var rfl).r eo_none (eo_some (ev_neg ev_int)))
  · have := List.length_zip (l₁ := v.dropLast) (l₂ := u.dropLast)
    rw [List.length_dropLast] at this
    omega
  · refine ev_is (ev_ne (n := 1) (m := 1) (ev_var rfl).r (ev_var rfl).r (shp_dI _) (shp_dI _)) ?_
    rw [eqv_dI]; simp

def pre_twins_of : List PyData → PyData → Prop := fun ds r => ∃ ws : List Way, (∀ v ∈ ws, v.length ≤ 1000) ∧ ds = [.list (ws.map dT)] ∧ r = twinsD (twinsW ws)
abbrev s_twins_of : Stmt := top 35
abbrev N_twins_of : List Str := ["some", "one", "other"]
abbrev ps_twins_of : List Str := ["some"]
theorem sc_twins_of : FnScope N_twins_of ps_twins_of (defScope s_twins_of) := ⟨rfl, rfl, rfl, by decide +kernel, rfl, by decide +kernel, by decide +kernel⟩

theorem ok_twins_of (F : FunAt K mg "twins_of" s_twins_of ps_twins_of f fd) (B : Bt mg) (D_are_apart : DefOk P w K mg base "are_apart" 1 ps_are_apart (spD pre_are_apart)) : DefOk P w K mg base "twins_of" 2 ps_twins_of (spD pre_twins_of) := by
  refine DefOk.pure F sc_twins_of (fun ds r ⟨ws, _, h, _⟩ => by rw [h]; rfl) fun cdv A outer s H E hg hr => ?_
  have nd := sc_twins_of.nd
  refine ⟨_, (pss_cons (ps_for PassesOwn.never rfl (kSeq K (pv 0)) (pg_name (i := 1) nd rfl (Or.inl rfl)) (pss_one (ps_for PassesOwn.never rfl (kSeq K (pv 0)) (pg_name (i := 2) nd rfl (Or.inl rfl)) (pss_one (ps_if (pt_val (pe_callD D_are_apart hg (hr.mono (by decide)) (by rfl) (pa_cons (pv 1) (pa_cons (pv 2) pa_nil)))) (pss_one (ps_ret (pe_tupX (pa_cons (pv 1) (pa_cons (pv 2) pa_nil))))) pss_nil)))))
    (pss_one (ps_ret pe_non))), ?_⟩
  rintro M fu L G0 D ds r ⟨ws, hw, rfl, rfl⟩ hR _
  refine go_seq (go_for (js := [1]) (F := Fn 1) (ei_seqL (ev_var rfl)) (fun x hx => tg_name)
    (fun i f L' ds => f = fu ∧ L' = L ∧ (ws.take i).findSome? (fun w => (ws.find? (apartW w)).map fun v => (w, v)) = none ∧ ∃ a b, ds = [some (.dat (.list (ws.map dT))), a, b]) ⟨rfl, rfl, rfl, none, none, rfl⟩ ?_ ?_)
  · rintro G1 e1 i x f1 L1 ds1 hx ⟨rfl, rfl, hno, a, b, rfl⟩
    rw [List.getElem?_map] at hx
    cases hv : ws[i]? with
    | none => rw [hv] at hx; cases hx
    | some v =>
      rw [hv] at hx
      cases hx
      have hvl := hw v (List.mem_of_getElem? hv)
      refine go_for (js := [2]) (F := Fn 2) (ei_seqL (ev_var rfl)) (fun x hx => tg_name)
        (fun i' f L' ds => f = f1 ∧ L' = L1 ∧ (ws.take i').find? (apartW v) = none ∧ ∃ b, ds = [some (.dat (.list (ws.map dT))), some (.dat (dT v)), b]) ⟨rfl, rfl, rfl, b, rfl⟩ ?_ ?_
      · rintro G2 e2 i' x f2 L2 ds2 hx ⟨rfl, rfl, hno2, b', rfl⟩
        rw [List.getElem?_map] at hx
        cases hu : ws[i']? with
        | none => rw [hu] at hx; cases hx
        | some u =>
          rw [hu] at hx
          cases hx
          refine go_if (b := apartW v u) (eb_B (ev_call (ea_two (ev_var rfl) (ev_var rfl)) ⟨v, u, hvl, rfl, rfl⟩)) (fun h => ?_) (fun h => ?_)
          · refine go_ret (R := (· = twinsD (twinsW ws))) (ev_tup (ea_two (ev_var rfl) (ev_var rfl))) ((hR.up (e1.trans e2)).loop) ?_
            have := find_at hno2 hu h
            have h2 : twinsW ws = some (v, u) := some_at (g := fun w => (ws.find? (apartW w)).map fun v => (w, v)) hno hv (by rw [this]; rfl)
            rw [h2]
            rfl
          · exact go_next (nx_iv ⟨rfl, rfl, find_no hno2 hu h, _, rfl⟩)
      · rintro f2 L2 ds2 ⟨rfl, rfl, hno2, b', rfl⟩
        rw [List.length_map, List.take_length] at hno2
        exact nx_iv ⟨rfl, rfl, none_at hno hv (by rw [hno2]; rfl), _, _, rfl⟩
  · rintro f1 L1 ds1 ⟨rfl, rfl, hno, a, b, rfl⟩
    rw [List.length_map, List.take_length] at hno
    refine nx_go (go_ret ev_non hR ?_)
    unfold twinsW
    rw [hno]
    rfl
end
end Kd
namespace Kd
open PySem L2
open PyProof.Rows (envOfC)
section
variable {P : Program} {w : World} {K : PySem.W.Frag} {mg : Str → Option Value} {base : Heap} {f : Addr} {fd : FuncData}
structure WsOk (m : Nat) (ws : List Way) : Prop where
  ne : ws ≠ []
  len : ws.length ≤ 64
  each : ∀ v ∈ ws, v.length = m + 1
  m : m ≤ 100
theorem W_ws {n : Net} (hn : NetOk n) {b e : Nat} (hb : b < n.k) (h : Wn n b e ≠ []) : WsOk n.os.length (Wn n b e) := ⟨h, W_len hn b e, fun v hv => (W_ok hn hb v hv).len, by have := hn.len; omega⟩
theorem atI_getD {v : Way} {i : Nat} (h : i < v.length) : atI (v.map dI) (i : Int) = some (dI (v.getD i 0)) := by
  refine atI_get ?_
  rw [List.getElem?_map, List.getD_eq_getElem?_getD, List.getElem?_eq_getElem h]
  rfl
def pre_common_of : List PyData → PyData → Prop := fun ds r => ∃ m ws, WsOk m ws ∧ ds = [.list (ws.map dT)] ∧ r = .list ((commonW ws).map dP)
abbrev s_common_of : Stmt := top 36
abbrev N_common_of : List Str := ["some", "first", "row", "way"]
abbrev ps_common_of : List Str := ["some"]
theorem sc_common_of : FnScope N_common_of ps_common_of (defScope s_common_of) := ⟨rfl, rfl, rfl, by decide +kernel, rfl, by decide +kernel, by decide +kernel⟩

theorem ok_common_of (F : FunAt K mg "common_of" s_common_of ps_common_of f fd) (B : Bt mg) : DefOk P w K mg base "common_of" 1 ps_common_of (spD pre_common_of) := by
  refine DefOk.pure F sc_common_of (fun ds r ⟨m, ws, _, h, _⟩ => by rw [h]; rfl) fun cdv A outer s H E hg hr => ?_
  have nd := sc_common_of.nd
  refine ⟨_, (pss_cons (ps_set (i := 1) nd rfl (Or.inr rfl) (pe_ix (kIx K) (pv 0) pe_int (fun _ _ => rfl)))
    (pss_one (ps_ret (pe_lc (own := [("row", 2)]) rfl nd (pi_range1 (by rfl) B.range (pa_cons (pe_op op_sub (pe_callB (kLen K) (by rfl) B.len (by decide +kernel) (pa_cons (pv 1) pa_nil)) pe_int) pa_nil)) (blkOk_by (own := [("row", 2)]) (N := N_common_of) (sc := defScope s_common_of) (by decide +kernel)) (fun _ _ _ _ _ => (pg_name (i := 2) nd rfl (Or.inr rfl))) (fun _ _ _ _ _ => (pts_one (pt_val (pe_callB (kAll K rfl) (by rfl) B.all (by decide +kernel) (pa_cons (pe_lc (own := [("way", 3)]) rfl nd (kSeq K (pv 0)) (blkOk_by (own := [("way", 3)]) (by rfl)) (fun _ _ _ _ _ => (pg_name (i := 3) nd rfl (Or.inl rfl))) (fun _ _ _ _ _ => pts_nil) (fun _ _ _ _ _ => (pe_cmpR (kEq K hr.units) (pe_ix (kIx K) (pv 3) (pv 2) (fun _ _ => rfl)) (pe_ix (kIx K) (pv 1) (pv 2) (fun _ _ => rfl)) (nomark _)))) pa_nil))))) (fun _ _ _ _ _ => (pe_tupX (pa_cons (pv 2) (pa_cons (pe_ix (kIx K) (pv 1) (pv 2) (fun _ _ => rfl)) pa_nil)))))))), ?_⟩
  rintro M fu L G0 D ds r ⟨m, ws, hw, rfl, rfl⟩ hR _
  obtain ⟨hne, hlen, heach, hm⟩ := hw
  cases ws with
  | nil => exact absurd rfl hne
  | cons v ws =>
    have hv : v.length = m + 1 := heach v List.mem_cons_self
    refine q_asg (d := dT v) (ev_ixL (es := (v :: ws).map dT) (ev_var rfl).r ev_int.r (atI_get (i := 0) (d := dT v) rfl)) ?_
    refine go_ret (ev_is (ev_lcM (js := [2]) (F := Fn 2) (enc := dI) (l := List.range m) (fun r => (v :: ws).all fun u => decide (u.getD r 0 = v.getD r 0)) (fun r => dP (r, v.getD r 0)) ?_ (by decide) (fun x hx => tg_name) (by rw [List.length_range]; omega) fun r hr' => ⟨?_, fun _ => ?_⟩) ?_) hR rfl
    · rw [← rng0]
      refine ei_rng1 (ea_one (ev_is (ev_sub (ev_lenT (es := v.map dI) (ev_var rfl).r).r ev_int.r) ?_)) (by omega)
      rw [List.length_map, hv]
      congr 1
      omega
    · have hrm := List.mem_range.mp hr'
      have c1a := c1_all (K := K) (M := M) (L := L) (bs := (v :: ws).map fun u => decide (u.getD r 0 = v.getD r 0))
      rw [List.map_map, List.all_map] at c1a
      refine eb_B (ev_cb1 (EvD.r (ev_lcAllM (js := [3]) (F := Fn 3) (enc := dT) (l := v :: ws) (fun u => .bool (decide (u.getD r 0 = v.getD r 0))) (ei_seqL (ev_var rfl)) (by decide) (fun x hx => tg_name) (by omega) fun u hu => ?_)) c1a)
      have hu' := heach u hu
      refine ev_is (ev_eq (n := 1) (m := 1) (ev_ixT (es := u.map dI) (ev_var rfl).r (ev_var rfl).r (atI_getD (by omega))).r (ev_ixT (es := v.map dI) (ev_var rfl).r (ev_var rfl).r (atI_getD (by omega))).r (shp_dI _) (shp_dI _)) ?_
      rw [eqv_dI]
    · have hrm := List.mem_range.mp hr'
      exact ev_tup (ea_two (ev_var rfl) (ev_ixT (es := v.map dI) (ev_var rfl).r (ev_var rfl).r (atI_getD (by omega))))
    · unfold commonW
      rw [List.map_map, hv]
      rfl

def pre_apart_paper : List PyData → PyData → Prop := fun ds r => ∃ n b e, NetOk n ∧ b < n.k ∧ e < n.k ∧ MgOk n b e ∧ ds = [dN n, dI b, dI e] ∧ r = paperD n b e
abbrev s_apart_paper : Stmt := top 37
abbrev N_apart_paper : List Str := ["net", "begin", "end", "some", "found"]
abbrev ps_apart_paper : List Str := ["net", "begin", "end"]
theorem sc_apart_paper : FnScope N_apart_paper ps_apart_paper (defScope s_apart_paper) := ⟨rfl, rfl, rfl, by decide +kernel, rfl, by decide +kernel, by decide +kernel⟩

theorem ok_apart_paper (F : FunAt K mg "apart_paper" s_apart_paper ps_apart_paper f fd) (B : Bt mg) (C : Cst mg) (D_need_wire : DefOk P w K mg base "need_wire" 4 ps_need_wire (spD pre_need_wire)) (D_ways_of : DefOk P w K mg base "ways_of" 2 ps_ways_of (spD pre_ways_of))
    (D_twins_of : DefOk P w K mg base "twins_of" 2 ps_twins_of (spD pre_twins_of)) (D_common_of : DefOk P w K mg base "common_of" 1 ps_common_of (spD pre_common_of)) : DefOk P w K mg base "apart_paper" 5 ps_apart_paper (spD pre_apart_paper) := by
  refine DefOk.pure F sc_apart_paper (fun ds r ⟨n, b, e, _, _, _, _, h, _⟩ => by rw [h]; rfl) fun cdv A outer s H E hg hr => ?_
  have nd := sc_apart_paper.nd
  refine ⟨_, (pss_cons (ps_expr (pe_callD D_need_wire hg (hr.mono (by decide)) (by rfl) (pa_cons (pv 0) (pa_cons (pv 1) pa_nil))))
    (pss_cons (ps_expr (pe_callD D_need_wire hg (hr.mono (by decide)) (by rfl) (pa_cons (pv 0) (pa_cons (pv 2) pa_nil))))
    (pss_cons (ps_set (i := 3) nd rfl (Or.inl rfl) (pe_callD D_ways_of hg (hr.mono (by decide)) (by rfl) (pa_cons (pv 0) (pa_cons (pv 1) (pa_cons (pv 2) pa_nil)))))
    (pss_cons (ps_if (pt_cmpR (kEq K hr.units) (pv 3) (pe_lst pa_nil) (nomark _)) (pss_one (ps_ret (pe_tupX (pa_cons (pe_cst (by rfl) C.NONE) pa_nil)))) pss_nil)
    (pss_cons (ps_set (i := 4) nd rfl (Or.inl rfl) (pe_callD D_twins_of hg (hr.mono (by decide)) (by rfl) (pa_cons (pv 3) pa_nil)))
    (pss_one (ps_ret (pe_ifExp (pt_cmpR op_notN (pv 4) pe_non (nomark _)) (pe_tupX (pa_cons (pe_cst (by rfl) C.TWO) (kStar K (pv 4) pa_nil))) (pe_tupX (pa_cons (pe_cst (by rfl) C.ALL) (kStar K (pe_ix (kIx K) (pe_callD D_common_of hg (hr.mono (by decide)) (by rfl) (pa_cons (pv 3) pa_nil)) pe_int (fun _ _ => rfl)) pa_nil))))))))))), ?_⟩
  rintro M fu L G0 D ds r ⟨n, b, e, hn, hb, he, hM, rfl, rfl⟩ hR _
  refine q_drop (ev_call (ea_two (ev_var rfl) (ev_var rfl)) ⟨n, b, hn, hb, rfl, rfl⟩) (q_drop (ev_call (ea_two (ev_var rfl) (ev_var rfl)) ⟨n, e, hn, he, rfl, rfl⟩) ?_)
  refine q_asg (d := .list ((Wn n b e).map dT)) (ev_call (ea_three (ev_var rfl) (ev_var rfl) (ev_var rfl)) ⟨n, b, e, hn, hb, rfl, rfl⟩) ?_
  refine q_if (b := decide (Wn n b e = [])) ?_ (fun h => ?_) (fun h => ?_)
  · refine (eb_B (ev_eq (n := 2) (m := 2) (ev_var rfl).r (ev_lst ea_nil).r (shp_ways _) (shp_ways []))).is ?_
    rw [eqv_nil, isEmpty_eq]
  · refine go_ret (ev_tup (ea_one ev_str)) hR ?_
    unfold paperD
    rw [if_pos (of_decide_eq_true h)]
  · have hne := of_decide_eq_false h
    have hws := W_ws hn hb hne
    refine q_asg (d := twinsD (twinsW (Wn n b e))) (ev_call (ea_one (ev_var rfl)) ⟨Wn n b e, fun v hv => by have := hws.each v hv; have := hws.m; omega, rfl, rfl⟩) ?_
    cases ht : twinsW (Wn n b e) with
    | some q =>
      obtain ⟨u, v⟩ := q
      refine go_ret (R := (· = paperD n b e)) (d := .tuple [.str "two", dT u, dT v]) (ev_if (b := true) ((eb_B (ev_op (ev_var rfl).r ev_non.r (ro_notN (b := true) ⟨fun h => Bool.noConfusion h, fun h => nomatch h⟩)))) (fun _ => ev_is (ev_tup (ea_cons ev_str (ea_starT (gs := [dT u, dT v]) (ev_var rfl).r ea_nil)) (by simp)) rfl) (fun h => Bool.noConfusion h)) hR ?_
      unfold paperD
      rw [if_neg hne, ht]
    | none =>
      have hc := hM hne ht
      cases hcm : commonW (Wn n b e) with
      | nil => exact absurd hcm hc
      | cons p ps =>
        refine go_ret (R := (· = paperD n b e)) (d := .tuple [.str "all", dI p.1, dI p.2]) (ev_if (b := false) ((eb_B (ev_op (ev_var rfl).r ev_non.r (ro_notN (b := false) ⟨fun _ => rfl, fun _ => rfl⟩)))) (fun h => Bool.noConfusion h) (fun _ => ev_is (ev_tup (ea_cons ev_str (ea_starT (gs := [dI p.1, dI p.2]) (ev_ixL (es := (p :: ps).map dP) (ev_is (ev_call (ea_one (ev_var rfl)) ⟨_, _, hws, rfl, rfl⟩) (by rw [hcm])).r ev_int.r (atI_get (i := 0) (d := dP p) rfl)).r ea_nil)) (by simp)) rfl)) hR ?_
        unfold paperD
        rw [if_neg hne, ht, hcm]

def allTakeD (n : Net) (b e : Nat) (r x : PyData) : Bool := spotD (n.os.length + 1) n.k (.tuple [r, x]) && (decide (Wn n b e ≠ []) && decide ((unI r, unI x) ∈ commonW (Wn n b e)))
theorem whole_unI {x : PyData} {k : Int} (h : isWholeD x 0 k = true) : x = dI (unI x) := by
  cases x with
  | int i =>
    simp only [isWholeD, Bool.and_eq_true, decide_eq_true_eq] at h
    show PyData.int i = .int ((i.toNat : Nat) : Int)
    congr 1
    omega
  | _ => simp [isWholeD] at h
theorem common_len (ws : List Way) {m : Nat} (h : WsOk m ws) : (commonW ws).length ≤ 100 := by
  unfold commonW
  cases ws with
  | nil => simp
  | cons v ws =>
    have := h.each v List.mem_cons_self
    have := h.m
    show (List.map _ (List.filter _ _)).length ≤ 100
    rw [List.length_map]
    refine Nat.le_trans (List.length_filter_le _ _) ?_
    rw [List.length_range]
    omega
def pre_do_all_take : List PyData → PyData → Prop := fun ds res => ∃ n b e r x, NetOk n ∧ b < n.k ∧ ds = [dN n, dI b, dI e, r, x] ∧ res = .bool (allTakeD n b e r x)
abbrev s_do_all_take : Stmt := top 38
abbrev N_do_all_take : List Str := ["net", "begin", "end", "row", "wire", "some"]
abbrev ps_do_all_take : List Str := ["net", "begin", "end", "row", "wire"]
theorem sc_do_all_take : FnScope N_do_all_take ps_do_all_take (defScope s_do_all_take) := ⟨rfl, rfl, rfl, by decide +kernel, rfl, by decide +kernel, by decide +kernel⟩

theorem ok_do_all_take (F : FunAt K mg "do_all_take" s_do_all_take ps_do_all_take f fd) (B : Bt mg) (D_is_spot : DefOk P w K mg base "is_spot" 2 ps_is_spot (spD pre_is_spot)) (D_wires_of : DefOk P w K mg base "wires_of" 1 ps_wires_of (spD pre_wires_of)) (D_ways_of : DefOk P w K mg base "ways_of" 2 ps_ways_of (spD pre_ways_of))
    (D_common_of : DefOk P w K mg base "common_of" 1 ps_common_of (spD pre_common_of)) : DefOk P w K mg base "do_all_take" 3 ps_do_all_take (spD pre_do_all_take) := by
  refine DefOk.pure F sc_do_all_take (fun ds res ⟨n, b, e, r, x, _, _, h, _⟩ => by rw [h]; rfl) fun cdv A outer s H E hg hr => ?_
  have nd := sc_do_all_take.nd
  refine ⟨_, (pss_cons (ps_if (pt_not (pt_val (pe_callD D_is_spot hg (hr.mono (by decide)) (by rfl) (pa_cons (pv 0) (pa_cons (pe_tupX (pa_cons (pv 3) (pa_cons (pv 4) pa_nil))) (pa_cons (pe_callD D_wires_of hg (hr.mono (by decide)) (by rfl) (pa_cons (pv 0) pa_nil)) pa_nil)))))) (pss_one (ps_ret pe_bl)) pss_nil)
    (pss_cons (ps_set (i := 5) nd rfl (Or.inl rfl) (pe_callD D_ways_of hg (hr.mono (by decide)) (by rfl) (pa_cons (pv 0) (pa_cons (pv 1) (pa_cons (pv 2) pa_nil)))))
    (pss_one (ps_ret (pe_and (pe_cmpR (kNe K hr.units) (pv 5) (pe_lst pa_nil) (nomark _)) (pe_one (pe_cmpR (kIn K hr) (pe_tupX (pa_cons (pv 3) (pa_cons (pv 4) pa_nil))) (pe_callD D_common_of hg (hr.mono (by decide)) (by rfl) (pa_cons (pv 5) pa_nil)) (by rfl)))))))), ?_⟩
  rintro M fu L G0 D ds res ⟨n, b, e, r, x, hn, hb, rfl, rfl⟩ hR _
  refine q_if (b := !spotD (n.os.length + 1) n.k (.tuple [r, x])) (eb_not (eb_B (ev_call (ea_three (ev_var rfl) (ev_tup (ea_two (ev_var rfl) (ev_var rfl))) (ev_call (ea_one (ev_var rfl)) ⟨n, hn, rfl, rfl⟩)) ⟨n, _, hn, rfl, rfl⟩))) (fun h => ?_) (fun h => ?_)
  · rw [Bool.not_eq_true'] at h
    refine go_ret ev_bl hR ?_
    unfold allTakeD
    rw [h]; rfl
  · rw [Bool.not_eq_false'] at h
    refine q_asg (d := .list ((Wn n b e).map dT)) (ev_call (ea_three (ev_var rfl) (ev_var rfl) (ev_var rfl)) ⟨n, b, e, hn, hb, rfl, rfl⟩) ?_
    have h' : (isWholeD r 0 (((n.os.length + 1 : Nat) : Int) - 1) && isWholeD x 0 ((n.k : Int) - 1)) = true := h
    rw [Bool.and_eq_true] at h'
    have hr1 := whole_unI h'.1
    have hx1 := whole_unI h'.2
    refine go_ret (ev_is (ev_and (a := decide (Wn n b e ≠ [])) (b := decide ((unI r, unI x) ∈ commonW (Wn n b e))) (ev_is (ev_ne (n := 2) (m := 2) (ev_var rfl).r (ev_lst ea_nil).r (shp_ways _) (shp_ways [])) ?_) fun hw => ?_) rfl) hR ?_
    · rw [eqv_nil, isEmpty_eq]; simp
    · have hws := W_ws hn hb (of_decide_eq_true hw)
      refine ev_is (ev_inL (n := 1) (m := 1) (ev_is (ev_tup (ea_two (ev_var rfl) (ev_var rfl))) (show _ = dP (unI r, unI x) by rw [hr1, hx1]; rfl)).r (ev_call (ea_one (ev_var rfl)) ⟨_, _, hws, rfl, rfl⟩).r (shp_dP _) (Shp.map fun q _ => shp_dP q)) ?_
      rw [any_dP]
    · unfold allTakeD
      rw [h]; rfl
def lastD (n : Net) : Bool := (List.range n.k).all fun b => (List.range n.k).all fun e => (twinsW (Wn n b e)).isSome
def pre_is_lasting : List PyData → PyData → Prop := fun ds r => ∃ n, NetOk n ∧ ds = [dN n] ∧ r = .bool (lastD n)
abbrev s_is_lasting : Stmt := top 40
abbrev N_is_lasting : List Str := ["net", "every", "begin", "end"]
abbrev ps_is_lasting : List Str := ["net"]
theorem sc_is_lasting : FnScope N_is_lasting ps_is_lasting (defScope s_is_lasting) := ⟨rfl, rfl, rfl, by decide +kernel, rfl, by decide +kernel, by decide +kernel⟩

theorem ok_is_lasting (F : FunAt K mg "is_lasting" s_is_lasting ps_is_lasting f fd) (B : Bt mg) (D_wires_of : DefOk P w K mg base "wires_of" 1 ps_wires_of (spD pre_wires_of)) (D_need_net : DefOk P w K mg base "need_net" 3 ps_need_net (spD pre_need_net)) (D_ways_of : DefOk P w K mg base "ways_of" 2 ps_ways_of (spD pre_ways_of))
    (D_twins_of : DefOk P w K mg base "twins_of" 2 ps_twins_of (spD pre_twins_of)) : DefOk P w K mg base "is_lasting" 4 ps_is_lasting (spD pre_is_lasting) := by
  refine DefOk.pure F sc_is_lasting (fun ds r ⟨n, _, h, _⟩ => by rw [h]; rfl) fun cdv A outer s H E hg hr => ?_
  have nd := sc_is_lasting.nd
  refine ⟨_, (pss_cons (ps_set (i := 1) nd rfl (Or.inr rfl) (pe_listRg rfl (by rfl) B.list (prg_1 (by rfl) B.range (pe_callD D_wires_of hg (hr.mono (by decide)) (by rfl) (pa_cons (pe_callD D_need_net hg (hr.mono (by decide)) (by rfl) (pa_cons (pv 0) pa_nil)) pa_nil)))))
    (pss_one (ps_ret (pe_callB (kAll K rfl) (by rfl) B.all (by decide +kernel) (pa_cons (pe_lc2 (own := [("begin", 2), ("end", 3)]) (vs1 := [3]) rfl nd (kSeq K (pv 1)) (blkOk_by (own := [("begin", 2), ("end", 3)]) (N := N_is_lasting) (sc := defScope s_is_lasting) (by decide +kernel)) (by decide) (fun _ _ _ _ _ => (pg_name (i := 2) nd rfl (Or.inl rfl))) (fun _ _ _ _ _ => pts_nil) (fun _ _ _ _ _ => (kSeq K (pv 1))) (fun _ _ _ _ _ => (pg_name (i := 3) nd rfl (Or.inl rfl))) (fun _ _ _ _ _ => pts_nil) (fun _ _ _ _ _ => (pe_cmpR op_notN (pe_callD D_twins_of hg (hr.mono (by decide)) (by rfl) (pa_cons (pe_callD D_ways_of hg (hr.mono (by decide)) (by rfl) (pa_cons (pv 0) (pa_cons (pv 2) (pa_cons (pv 3) pa_nil)))) pa_nil)) pe_non (nomark _)))) pa_nil))))), ?_⟩
  rintro M fu L G0 D ds r ⟨n, hn, rfl, rfl⟩ hR _
  obtain ⟨j, hk, hj1, hj8⟩ := hn.k2
  refine q_asg (d := .list ((List.range n.k).map dI)) (ev_is (ev_listRg1 (n := (n.k : Nat)) (ev_call (ea_one (ev_call (ea_one (ev_var rfl)) ⟨n, hn, rfl, rfl⟩)) ⟨n, hn, rfl, rfl⟩) (by omega) (by omega)) (by rw [rng0])) ?_
  have c1a := c1_all (K := K) (M := M) (L := L) (bs := (List.range n.k).flatMap fun b => (List.range n.k).map fun e => (twinsW (Wn n b e)).isSome)
  have eq1 : ((List.range n.k).flatMap fun b => (List.range n.k).map fun e => (twinsW (Wn n b e)).isSome).map PyData.bool = (List.range n.k).flatMap fun b => (List.range n.k).map fun e => .bool (twinsW (Wn n b e)).isSome := by
    rw [List.map_flatMap]
    simp only [List.map_map]
    rfl
  rw [eq1] at c1a
  refine go_ret (ev_is (ev_cb1 (EvD.r (ev_lc2M (js := [2]) (js1 := [3]) (F := Fn 2) (F1 := Fn 3) (enc := dI) (enc2 := dI) unI unI unI_dI unI_dI (l := List.range n.k) (fun _ => List.range n.k) (fun b e => .bool (twinsW (Wn n b e)).isSome) (ei_seqL (ev_var rfl)) (by decide) (fun a _ => tg_name) (fun a ha => ei_seqL (ev_var rfl)) (by decide) (fun a _ y _ => tg_name) ?_ (fun b hb e he => ?_))) c1a) ?_) hR rfl
  · rw [← eq1, List.length_map, List.length_flatMap]
    simp only [List.length_map, List.length_range]
    rw [List.map_const']
    rw [List.length_range, List.sum_replicate_nat]
    have : n.k * n.k ≤ 16 * 16 := Nat.mul_le_mul (by omega) (by omega)
    omega
  · have hb' := List.mem_range.mp hb
    have he' := List.mem_range.mp he
    refine ev_op (ev_call (ea_one (ev_call (ea_three (ev_var rfl) (ev_var rfl) (ev_var rfl)) ⟨n, b, e, hn, hb', rfl, rfl⟩)) ⟨Wn n b e, fun v hv => by have := (W_ok hn hb' v hv).len; have := hn.len; omega, rfl, rfl⟩).r ev_non.r (ro_notN ?_)
    cases twinsW (Wn n b e) with
    | none => exact ⟨fun _ => rfl, fun _ => rfl⟩
    | some q => exact ⟨fun h => Bool.noConfusion h, fun h => nomatch h⟩
  · unfold lastD
    congr 1
    rw [List.all_flatMap]
    simp only [List.all_map]
    rfl
end
end Kd
namespace Kd
open PySem L2
open PyProof.Rows (envOfC)
noncomputable def chkD (n : Net) (b e : Nat) : PyData → Bool × Str
  | .tuple [.str z, x, y] => if z = "two" then (isWayD n b e x && isWayD n b e y && apartW (unT x) (unT y), "two") else if z = "all" then (allTakeD n b e x y, "all") else (false, "form")
  | .tuple [.str z] => if z = "none" then (decide (Wn n b e = []), "none") else (false, "form")
  | _ => (false, "form")
def forms3 : List PyData := [.tuple [.str "two", .int 3], .tuple [.str "all", .int 3], .tuple [.str "none", .int 1]]
def inForms (z : Str) (m : Nat) : Bool := decide (z = "two" ∧ m = 3) || (decide (z = "all" ∧ m = 3) || decide (z = "none" ∧ m = 1))
theorem forms_any (z : Str) (m : Nat) : (forms3.any fun t => PyData.eqv t (.tuple [.str z, .int (m : Nat)])) = inForms z m := by
  have e : ∀ (a : Str) (k : Nat), PyData.eqv (.tuple [.str a, .int (k : Nat)]) (.tuple [.str z, .int (m : Nat)]) = decide (z = a ∧ m = k) := fun a k => by
    simp only [PyData.eqv, PyData.eqvAll, Bool.and_true]
    rw [Bool.eq_iff_iff, Bool.and_eq_true, decide_eq_true_iff, beq_iff_eq, beq_iff_eq]
    constructor
    · rintro ⟨h1, h2⟩; exact ⟨h1.symm, by omega⟩
    · rintro ⟨h1, h2⟩; exact ⟨h1.symm, by omega⟩
  unfold forms3 inForms
  simp only [List.any_cons, List.any_nil, Bool.or_false]
  rw [← e "two" 3, ← e "all" 3, ← e "none" 1]
  rfl
/-- a tuple that begins with a text -/
def headed : PyData → Bool
  | .tuple (.str _ :: _) => true
  | _ => false
theorem chk_bad {n : Net} {b e : Nat} {d : PyData} (h : headed d = false) : chkD n b e d = (false, ("form" : Str)) := by
  unfold chkD
  split <;> first | rfl | (unfold headed at h; simp at h)
theorem chk_form {n : Net} {b e : Nat} {z : Str} {xs : List PyData} (h : inForms z (xs.length + 1) = false) : chkD n b e (.tuple (.str z :: xs)) = (false, ("form" : Str)) := by
  unfold inForms at h
  simp only [Bool.or_eq_false_iff, decide_eq_false_iff_not] at h
  obtain ⟨h1, h2, h3⟩ := h
  unfold chkD
  split
  · rename_i z' x y q
    injection q with q
    injection q with q1 q2
    injection q1 with q1
    subst q1 q2
    rw [if_neg (fun e => h1 ⟨e, rfl⟩), if_neg (fun e => h2 ⟨e, rfl⟩)]
  · rename_i z' q
    injection q with q
    injection q with q1 q2
    injection q1 with q1
    subst q1 q2
    rw [if_neg (fun e => h3 ⟨e, rfl⟩)]
  · rfl
theorem inForms_cases {z : Str} {xs : List PyData} (h : inForms z (xs.length + 1) = true) : (∃ x y, xs = [x, y] ∧ (z = "two" ∨ z = "all")) ∨ (xs = [] ∧ z = "none") := by
  unfold inForms at h
  simp only [Bool.or_eq_true, decide_eq_true_iff] at h
  rcases h with ⟨h1, h2⟩ | ⟨h1, h2⟩ | ⟨h1, h2⟩
  · match xs, h2 with
    | [x, y], _ => exact .inl ⟨x, y, rfl, .inl h1⟩
  · match xs, h2 with
    | [x, y], _ => exact .inl ⟨x, y, rfl, .inr h1⟩
  · match xs, h2 with
    | [], _ => exact .inr ⟨rfl, h1⟩
section
variable {P : Program} {w : World} {K : PySem.W.Frag} {mg : Str → Option Value} {base : Heap} {f : Addr} {fd : FuncData} {CB fI : Addr}
def pre_check_apart : List PyData → Bool → Str → Prop := fun ds ok w => ∃ n b e p, NetOk n ∧ b < n.k ∧ e < n.k ∧ Shp 8 p ∧ ds = [dN n, dI b, dI e, p] ∧ chkD n b e p = (ok, w)
abbrev s_check_apart : Stmt := top 39
abbrev N_check_apart : List Str := ["net", "begin", "end", "paper", "holds"]
abbrev ps_check_apart : List Str := ["net", "begin", "end", "paper"]
theorem sc_check_apart : FnScope N_check_apart ps_check_apart (defScope s_check_apart) := ⟨rfl, rfl, rfl, by decide +kernel, rfl, by decide +kernel, by decide +kernel⟩

theorem ok_check_apart (F : FunAt K mg "check_apart" s_check_apart ps_check_apart f fd) (B : Bt mg) (C : Cst mg) (T : BpTxt P K mg CB fI) (D_need_wire : DefOk P w K mg base "need_wire" 4 ps_need_wire (spD pre_need_wire)) (D_ways_of : DefOk P w K mg base "ways_of" 2 ps_ways_of (spD pre_ways_of))
    (D_is_way_of : DefOk P w K mg base "is_way_of" 2 ps_is_way_of (spD pre_is_way_of)) (D_are_apart : DefOk P w K mg base "are_apart" 1 ps_are_apart (spD pre_are_apart)) (D_do_all_take : DefOk P w K mg base "do_all_take" 3 ps_do_all_take (spD pre_do_all_take)) :
    DefX P w K mg base "check_apart" 5 ps_check_apart (spX CB pre_check_apart) := by
  refine DefX.of F sc_check_apart (fun vs H Q E ⟨M, fu, L, G, ds, ok, wd, _, hv, ⟨n, b, e, p, _, _, _, _, h, _⟩, _⟩ => by rw [hv.length, h]; rfl) fun cdv A outer s H vs Q E hg hr ⟨M, fu, L, G, ds, ok, wd, hw, hv, ⟨n, b, e, p, hn, hb, he, hp, hds, hchk⟩, hok, hno⟩ => ?_
  have nd := sc_check_apart.nd
  refine ⟨_, (pss_cons (ps_expr (pe_callD D_need_wire hg (hr.mono (by decide)) (by rfl) (pa_cons (pv 0) (pa_cons (pv 1) pa_nil))))
    (pss_cons (ps_expr (pe_callD D_need_wire hg (hr.mono (by decide)) (by rfl) (pa_cons (pv 0) (pa_cons (pv 2) pa_nil))))
    (pss_cons (ps_if (PW.pt (pw_or (pt_not (pt_val (pe_callB (kIsi K) (by rfl) B.isinstance (by decide +kernel) (pa_cons (pv 3) (pa_cons (pe_bltn (v := .ty "tuple") (by rfl) B.tuple (by decide +kernel) rfl) pa_nil))))) (pw_or (pt_cmpR (kEq K hr.units) (pv 3) (pe_tupX pa_nil) (nomark _)) (pw_or1 (pt_not (pt_val (pe_callB (kIsi K) (by rfl) B.isinstance (by decide +kernel) (pa_cons (pe_ix (kIx K) (pv 3) pe_int (fun _ _ => rfl)) (pa_cons (pe_bltn (v := .ty "str") (by rfl) B.str (by decide +kernel) rfl) pa_nil))))))))) (pss_one (ps_raiseBp rfl T hr (takes_of rfl rfl rfl rfl) (pa_cons pe_str pa_nil))) pss_nil)
    (pss_cons (ps_if (pt_cmpR (kNi K hr) (pe_tupX (pa_cons (pe_ix (kIx K) (pv 3) pe_int (fun _ _ => rfl)) (pa_cons (pe_callB (kLen K) (by rfl) B.len (by decide +kernel) (pa_cons (pv 3) pa_nil)) pa_nil))) (pe_tupX (pa_cons (pe_tupX (pa_cons (pe_cst (by rfl) C.TWO) (pa_cons pe_int pa_nil))) (pa_cons (pe_tupX (pa_cons (pe_cst (by rfl) C.ALL) (pa_cons pe_int pa_nil))) (pa_cons (pe_tupX (pa_cons (pe_cst (by rfl) C.NONE) (pa_cons pe_int pa_nil))) pa_nil)))) (by rfl)) (pss_one (ps_raiseBp rfl T hr (takes_of rfl rfl rfl rfl) (pa_cons pe_str pa_nil))) pss_nil)
    (pss_cons (ps_if (pt_cmpR (kEq K hr.units) (pe_ix (kIx K) (pv 3) pe_int (fun _ _ => rfl)) (pe_cst (by rfl) C.TWO) (nomark _)) (pss_cons (ps_set (i := 4) nd rfl (Or.inl rfl) (pe_and (pe_callD D_is_way_of hg (hr.mono (by decide)) (by rfl) (pa_cons (pv 0) (pa_cons (pv 1) (pa_cons (pv 2) (pa_cons (pe_ix (kIx K) (pv 3) pe_int (fun _ _ => rfl)) pa_nil))))) (pe_one (pe_callD D_is_way_of hg (hr.mono (by decide)) (by rfl) (pa_cons (pv 0) (pa_cons (pv 1) (pa_cons (pv 2) (pa_cons (pe_ix (kIx K) (pv 3) pe_int (fun _ _ => rfl)) pa_nil))))))))
    (pss_one (ps_set (i := 4) nd rfl (Or.inl rfl) (pe_and (pv 4) (pe_one (pe_callD D_are_apart hg (hr.mono (by decide)) (by rfl) (pa_cons (pe_ix (kIx K) (pv 3) pe_int (fun _ _ => rfl)) (pa_cons (pe_ix (kIx K) (pv 3) pe_int (fun _ _ => rfl)) pa_nil)))))))) (pss_one (ps_if (pt_cmpR (kEq K hr.units) (pe_ix (kIx K) (pv 3) pe_int (fun _ _ => rfl)) (pe_cst (by rfl) C.ALL) (nomark _)) (pss_one (ps_set (i := 4) nd rfl (Or.inl rfl) (pe_callD D_do_all_take hg (hr.mono (by decide)) (by rfl) (pa_cons (pv 0) (pa_cons (pv 1) (pa_cons (pv 2) (pa_cons (pe_ix (kIx K) (pv 3) pe_int (fun _ _ => rfl)) (pa_cons (pe_ix (kIx K) (pv 3) pe_int (fun _ _ => rfl)) pa_nil)))))))) (pss_one (ps_set (i := 4) nd rfl (Or.inl rfl) (pe_cmpR (kEq K hr.units) (pe_callD D_ways_of hg (hr.mono (by decide)) (by rfl) (pa_cons (pv 0) (pa_cons (pv 1) (pa_cons (pv 2) pa_nil)))) (pe_lst pa_nil) (nomark _)))))))
    (pss_cons (ps_if (pt_not (pt_val (pv 4))) (pss_one (ps_raiseBp rfl T hr (takes_of rfl rfl rfl rfl) (pa_cons (pe_ix (kIx K) (pv 3) pe_int (fun _ _ => rfl)) pa_nil))) pss_nil)
    (pss_one (ps_ret (pe_ix (kIx K) (pv 3) pe_int (fun _ _ => rfl)))))))))), ?_⟩
  subst hds
  suffices go : ∀ D : Ends, D.rt = Q → Go M G D _ fu L (startD N_check_apart [dN n, dI b, dI e, p]) from go { nx := fun _ H' => Q .non H', rt := Q } rfl _ G H (Evl.Ex.refl G) hw (Sl.start hv)
  intro D hD
  have hR : ok = true → RtOk M G D fu L (· = .str wd) := fun h v d G2 H2 hd e w2 dv => by subst hd; rw [hD]; exact hok h v G2 H2 e w2 dv
  have hRs : ok = false → RsOk M G CB E fu L wd := fun h d G2 H2 e w2 hd => hno h d G2 H2 e w2 hd
  refine q_drop (ev_call (ea_two (ev_var rfl) (ev_var rfl)) ⟨n, b, hn, hb, rfl, rfl⟩) (q_drop (ev_call (ea_two (ev_var rfl) (ev_var rfl)) ⟨n, e, hn, he, rfl, rfl⟩) ?_)
  have raise_form : chkD n b e p = (false, ("form" : Str)) → ∀ D', Go M G D' (tRaiseBp CB (fun cls d _ H => E cls d H) (tCons (tC (.str "form")) tNil)) fu L (startD N_check_apart [dN n, dI b, dI e, p]) := fun h D' => by
    rw [hchk] at h
    injection h with h1 h2
    subst h1 h2
    exact go_raise ev_str (hRs rfl)
  by_cases hh : headed p = true
  · obtain ⟨z, xs, rfl⟩ : ∃ z xs, p = .tuple (.str z :: xs) := by
      unfold headed at hh
      split at hh
      · exact ⟨_, _, rfl⟩
      · cases hh
    refine q_skip ?_ ?_
    · refine (eb_or (a := false) ((eb_not (eb_B (ev_cbv (ev_var rfl).r cv_tup))).is rfl) fun _ => eb_or (a := false) ((eb_B (ev_eq (n := 8) (m := 1) (ev_var rfl).r (ev_tup ea_nil).r hp (Shp.tup fun d hd => nomatch hd))).is ?_) fun _ => (eb_not (eb_B (ev_cbv (ev_ixT (es := .str z :: xs) (ev_var rfl).r ev_int.r (atI_get (i := 0) (d := .str z) rfl)).r cv_str))).is rfl).is rfl
      simp [PyData.eqv, PyData.eqvAll]
    · have hz : Shp 0 (.str z) := by
        have h0 := hp.1
        simp only [PyData.canLay0, PyData.canLayAll0, Bool.and_eq_true] at h0
        exact ⟨by simp only [PyData.canLay0]; exact h0.1, by simp [PyData.depth]⟩
      have hxs : ∀ {i : Nat} {d : PyData}, xs[i]? = some d → atI (.str z :: xs) ((i + 1 : Nat) : Int) = some d := fun {i d} h => atI_get (by simpa using h)
      refine q_if (b := !inForms z (xs.length + 1)) ?_ (fun hf => ?_) (fun hf => ?_)
      · have hl : ((PyData.str z :: xs).length : Int) = ((xs.length + 1 : Nat) : Int) := rfl
        refine (eb_B (ev_niT (n := 1) (m := 1) (es := forms3) (ev_tup (ea_two (ev_ixT (es := .str z :: xs) (ev_var rfl).r ev_int.r (atI_get (i := 0) (d := .str z) rfl)) (ev_lenT (es := .str z :: xs) (ev_var rfl).r))).r (ev_tup (ea_three (ev_tup (ea_two ev_str ev_int)) (ev_tup (ea_two ev_str ev_int)) (ev_tup (ea_two ev_str ev_int)))).r ?_ ?_)).is ?_
        · refine Shp.tup fun d hd => ?_
          rcases List.mem_cons.mp hd with rfl | hd
          · exact hz
          · rw [List.mem_singleton.mp hd]; exact Shp.int _
        · have hs : ∀ (a : Str) (k : Int), PyData.strOk a = true → Shp 1 (.tuple [.str a, .int k]) := fun a k ha => Shp.tup fun d hd => by
            rcases List.mem_cons.mp hd with rfl | hd
            · exact Shp.str ha
            · rw [List.mem_singleton.mp hd]; exact Shp.int _
          intro d hd
          unfold forms3 at hd
          rcases List.mem_cons.mp hd with rfl | hd
          · exact hs _ _ (by decide +kernel)
          rcases List.mem_cons.mp hd with rfl | hd
          · exact hs _ _ (by decide +kernel)
          rw [List.mem_singleton.mp hd]
          exact hs _ _ (by decide +kernel)
        · exact congrArg (fun b => !b) (forms_any z (xs.length + 1))
      · exact raise_form (chk_form (by simpa using hf)) _
      · rcases inForms_cases (by simpa using hf) with ⟨x, y, rfl, hz2⟩ | ⟨rfl, rfl⟩
        · have two_ne : z = "two" → ¬ z = "all" := fun h => by rw [h]; decide +kernel
          have i1 : EvD M L (tOp (rIxG K) (tVar 3) (tC (.int 1))) (startD N_check_apart [dN n, dI b, dI e, .tuple [.str z, x, y]]) x := ev_ixT (es := [.str z, x, y]) (ev_var rfl).r ev_int.r (atI_get (i := 1) (d := x) rfl)
          have i2 : EvD M L (tOp (rIxG K) (tVar 3) (tC (.int 2))) (startD N_check_apart [dN n, dI b, dI e, .tuple [.str z, x, y]]) y := ev_ixT (es := [.str z, x, y]) (ev_var rfl).r ev_int.r (atI_get (i := 2) (d := y) rfl)
          -- the end: not holds, or the word
          have fin : ∀ (h : Bool) (D' : Ends), D'.rt = D.rt → (h, z) = (ok, wd) → Go M G D' (tSeq (tIfS (tNot (L2.tB (tVar 4))) (tRaiseBp CB (fun cls d _ H => E cls d H) (tCons (tOp (rIxG K) (tVar 3) (tC (.int 0))) tNil)) tNext) (tRet (tOp (rIxG K) (tVar 3) (tC (.int 0))))) fu L
              ((startD N_check_apart [dN n, dI b, dI e, .tuple [.str z, x, y]]).set 4 (some (.dat (.bool h)))) := fun h D' hD' q => by
            injection q with q1 q2
            subst q1 q2
            refine q_if (b := !h) (eb_not (eb_B (ev_var rfl))) (fun hb1 => ?_) (fun hb1 => ?_)
            · exact go_raise (ev_ixT (es := [.str z, x, y]) (ev_var rfl).r ev_int.r (atI_get (i := 0) (d := .str z) rfl)) (hRs (by simpa using hb1))
            · refine go_ret (R := (· = .str z)) (ev_ixT (es := [.str z, x, y]) (ev_var rfl).r ev_int.r (atI_get (i := 0) (d := .str z) rfl)) ?_ rfl
              have := hR (by simpa using hb1)
              unfold RtOk at this ⊢
              rw [hD']; exact this
          have teq : ∀ (a : Str), PyData.strOk a = true → EvB M L (tTest (tOp (rEqD K) (tOp (rIxG K) (tVar 3) (tC (.int 0))) (tC (.str a)))) (startD N_check_apart [dN n, dI b, dI e, .tuple [.str z, x, y]]) (decide (z = a)) := fun a ha => by
            refine (eb_T (ev_eq (n := 0) (m := 0) (ev_ixT (es := [.str z, x, y]) (ev_var rfl).r ev_int.r (atI_get (i := 0) (d := .str z) rfl)).r ev_str.r hz (Shp.str ha))).is ?_
            simp only [PyData.eqv]
            exact Bool.beq_eq_decide_eq z a
          refine go_seq (go_if (b := decide (z = "two")) (teq _ (by decide +kernel)) (fun h2 => ?_) (fun h2 => ?_))
          · have h2' := of_decide_eq_true h2
            have hc : chkD n b e (.tuple [.str z, x, y]) = (isWayD n b e x && isWayD n b e y && apartW (unT x) (unT y), ("two" : Str)) := by
              unfold chkD
              exact if_pos h2'
            rw [hc, ← h2'] at hchk
            refine q_asg (d := .bool (isWayD n b e x && isWayD n b e y)) (ev_and (ev_call (ea_cons (ev_var rfl) (ea_three (ev_var rfl) (ev_var rfl) i1)) ⟨n, b, e, x, hn, hb, rfl, rfl⟩) fun _ => ev_call (ea_cons (ev_var rfl) (ea_three (ev_var rfl) (ev_var rfl) i2)) ⟨n, b, e, y, hn, hb, rfl, rfl⟩) ?_
            refine go_asg (d := .bool (isWayD n b e x && isWayD n b e y && apartW (unT x) (unT y))) (ev_and (ev_var rfl) fun hxy => ?_) (nx_go ?_)
            · rw [Bool.and_eq_true] at hxy
              obtain ⟨w1, hw1, rfl⟩ := isWayD_iff.mp hxy.1
              obtain ⟨w2, hw2, rfl⟩ := isWayD_iff.mp hxy.2
              rw [unT_dT, unT_dT]
              exact ev_call (ea_two (ev_ixT (es := [.str z, dT w1, dT w2]) (ev_var rfl).r ev_int.r (atI_get (i := 1) (d := dT w1) rfl)) (ev_ixT (es := [.str z, dT w1, dT w2]) (ev_var rfl).r ev_int.r (atI_get (i := 2) (d := dT w2) rfl))) ⟨w1, w2, by have := (W_ok hn hb w1 hw1).len; have := hn.len; omega, rfl, rfl⟩
            · exact fin _ _ rfl hchk
          · have h2' := of_decide_eq_false h2
            have h3 : z = "all" := hz2.resolve_left h2'
            have hc : chkD n b e (.tuple [.str z, x, y]) = (allTakeD n b e x y, ("all" : Str)) := by
              unfold chkD
              exact (if_neg h2').trans (if_pos h3)
            rw [hc, ← h3] at hchk
            refine go_if (b := decide (z = "all")) (teq _ (by decide +kernel)) (fun _ => ?_) (fun h => absurd h3 (of_decide_eq_false h))
            exact go_asg (d := .bool (allTakeD n b e x y)) (ev_call (ea_cons (ev_var rfl) (ea_cons (ev_var rfl) (ea_three (ev_var rfl) i1 i2))) ⟨n, b, e, x, y, hn, hb, rfl, rfl⟩) (nx_go (fin _ _ rfl hchk))
        · have hc : chkD n b e (.tuple [.str "none"]) = (decide (Wn n b e = []), ("none" : Str)) := by
            unfold chkD
            exact if_pos rfl
          rw [hc] at hchk
          injection hchk with q1 q2
          subst q1 q2
          have teq : ∀ (a : Str), PyData.strOk a = true → ("none" : Str) ≠ a → EvB M L (tTest (tOp (rEqD K) (tOp (rIxG K) (tVar 3) (tC (.int 0))) (tC (.str a)))) (startD N_check_apart [dN n, dI b, dI e, .tuple [.str "none"]]) false := fun a ha hna => by
            refine (eb_T (ev_eq (n := 0) (m := 0) (ev_ixT (es := [.str "none"]) (ev_var rfl).r ev_int.r (atI_get (i := 0) (d := .str "none") rfl)).r ev_str.r hz (Shp.str ha))).is ?_
            simp only [PyData.eqv]
            exact beq_eq_false_iff_ne.mpr hna
          refine go_seq (go_if (teq _ (by decide +kernel) (by decide +kernel)) (fun h => Bool.noConfusion h) fun _ => go_if (teq _ (by decide +kernel) (by decide +kernel)) (fun h => Bool.noConfusion h) fun _ => ?_)
          refine go_asg (d := .bool (decide (Wn n b e = []))) (ev_is (ev_eq (n := 2) (m := 2) (ev_call (ea_three (ev_var rfl) (ev_var rfl) (ev_var rfl)) ⟨n, b, e, hn, hb, rfl, rfl⟩).r (ev_lst ea_nil).r (shp_ways _) (shp_ways [])) ?_) (nx_go ?_)
          · rw [eqv_nil, isEmpty_eq]
          · refine q_if (b := !decide (Wn n b e = [])) (eb_not (eb_B (ev_var rfl))) (fun hb1 => ?_) (fun hb1 => ?_)
            · exact go_raise (ev_ixT (es := [.str "none"]) (ev_var rfl).r ev_int.r (atI_get (i := 0) (d := .str "none") rfl)) (hRs (by simpa using hb1))
            · exact go_ret (R := (· = .str "none")) (ev_ixT (es := [.str "none"]) (ev_var rfl).r ev_int.r (atI_get (i := 0) (d := .str "none") rfl)) (hR (by simpa using hb1)) rfl
  · have hh' : headed p = false := by simpa using hh
    refine q_if (b := true) ?_ (fun _ => raise_form (chk_bad hh') _) (fun h => Bool.noConfusion h)
    cases p with
    | tuple xs =>
      cases xs with
      | nil => exact (eb_or (a := false) ((eb_not (eb_B (ev_cbv (ev_var rfl).r cv_tup))).is rfl) fun _ => (eb_or (a := true) (b := true) ((eb_B (ev_eq (n := 8) (m := 1) (ev_var rfl).r (ev_tup ea_nil).r hp (Shp.tup fun d hd => nomatch hd))).is (by simp [PyData.eqv, PyData.eqvAll])) fun h => Bool.noConfusion h).is rfl).is rfl
      | cons x xs =>
        refine (eb_or (a := false) ((eb_not (eb_B (ev_cbv (ev_var rfl).r cv_tup))).is rfl) fun _ => (eb_or (a := false) (b := true) ((eb_B (ev_eq (n := 8) (m := 1) (ev_var rfl).r (ev_tup ea_nil).r hp (Shp.tup fun d hd => nomatch hd))).is (by simp [PyData.eqv, PyData.eqvAll])) fun _ => (eb_not (eb_B (ev_cbv (ev_ixT (es := x :: xs) (ev_var rfl).r ev_int.r (atI_get (i := 0) (d := x) rfl)).r cv_str))).is ?_).is rfl).is rfl
        cases x with
        | str z => unfold headed at hh'; simp at hh'
        | _ => rfl
    | _ => exact (eb_or (a := true) (b := true) ((eb_not (eb_B (ev_cbv (ev_var rfl).r cv_tup))).is rfl) fun h => Bool.noConfusion h).is rfl
end
end Kd
namespace Kd
open PySem L2
open PyProof.Rows (envOfC)
theorem ro_eqS {M : MS} {L : Own} {a b : Str} : ROk M L rEq (.str a) (.str b) (.bool (decide (a = b))) := fun f L' s G H u v w ra rb Q q => by
  rw [ra.str, rb.str]
  refine ⟨rfl, ?_⟩
  have e : decide (V.str a = V.str b) = decide (a = b) := by
    by_cases h : a = b
    · subst h; simp
    · have : ¬ V.str a = V.str b := fun z => h (V.str.inj z)
      rw [decide_eq_false h, decide_eq_false this]
  rw [e]
  exact q _ G H (Evl.Ex.refl G) w (.bl _)
/-- what isinstance says of a BadPaper -/
structure Ers (K : PySem.W.Frag) (mg : Str → Option Value) (CB : Addr) : Prop where
  BadNet : ∃ A, mg "BadNet" = some (.ref A) ∧ PySem.W.kitOne K (.ref CB) (.ref A) = some false
  BadWire : ∃ A, mg "BadWire" = some (.ref A) ∧ PySem.W.kitOne K (.ref CB) (.ref A) = some false
  NotBanyan : ∃ A, mg "NotBanyan" = some (.ref A) ∧ PySem.W.kitOne K (.ref CB) (.ref A) = some false
  BadDemands : ∃ A, mg "BadDemands" = some (.ref A) ∧ PySem.W.kitOne K (.ref CB) (.ref A) = some false
  BadOrder : ∃ A, mg "BadOrder" = some (.ref A) ∧ PySem.W.kitOne K (.ref CB) (.ref A) = some false
  BadSettings : ∃ A, mg "BadSettings" = some (.ref A) ∧ PySem.W.kitOne K (.ref CB) (.ref A) = some false
  BadNumber : ∃ A, mg "BadNumber" = some (.ref A) ∧ PySem.W.kitOne K (.ref CB) (.ref A) = some false
  BadPaper : ∃ A, mg "BadPaper" = some (.ref A) ∧ PySem.W.kitOne K (.ref CB) (.ref A) = some true
  TooGreat : ∃ A, mg "TooGreat" = some (.ref A) ∧ PySem.W.kitOne K (.ref CB) (.ref A) = some false
section
variable {P : Program} {w : World} {K : PySem.W.Frag} {mg : Str → Option Value} {base : Heap} {f : Addr} {fd : FuncData} {CB fI : Addr}
def pre_likeL : List PyData → PyData → Prop := fun ds r => ∃ x y, Sw 5000000 x ∧ Sw 5000000 y ∧ ds = [x, y] ∧ r = .bool (decide (x.shown = y.shown))
abbrev s_likeL : Stmt := top 46
abbrev N_likeL : List Str := ["_law_got", "_law_due"]
abbrev ps_likeL : List Str := ["_law_got", "_law_due"]
theorem sc_likeL : FnScope N_likeL ps_likeL (defScope s_likeL) := ⟨rfl, rfl, rfl, by decide +kernel, rfl, by decide +kernel, by decide +kernel⟩

theorem ok_likeL (F : FunAt K mg "_law_like" s_likeL ps_likeL f fd) (B : Bt mg) : DefOk P w K mg base "_law_like" 1 ps_likeL (spD pre_likeL) := by
  refine DefOk.pure F sc_likeL (fun ds r ⟨x, y, _, _, h, _⟩ => by rw [h]; rfl) fun cdv A outer s H E hg hr => ?_
  have nd := sc_likeL.nd
  refine ⟨_, (pss_one (ps_ret (pe_cmpR op_eq (pe_callB (kRepr K hg hr) (by rfl) B.repr (by decide +kernel) (pa_cons (pv 0) pa_nil)) (pe_callB (kRepr K hg hr) (by rfl) B.repr (by decide +kernel) (pa_cons (pv 1) pa_nil)) (nomark _)))), ?_⟩
  rintro M fu L G0 D ds r ⟨x, y, hx, hy, rfl, rfl⟩ hR _
  exact go_ret (ev_op (ev_repr (ev_var rfl).r hx (by decide)).r (ev_repr (ev_var rfl).r hy (by decide)).r ro_eqS) hR rfl

/-- the word of a kept error -/
def spW (C : Addr) : Sp := fun vs H Q _ => ∃ M f L G v wd, vs = [v] ∧ W M f L G H ∧ ExK C wd G v ∧ PyData.strOk wd = true ∧ ∀ v2 G2 H2, Ex G G2 → W M f L G2 H2 → Dv G2 v2 (.tuple [.str "paper", .str wd]) → Q v2 H2
abbrev s_error_wordL : Stmt := top 49
abbrev N_error_wordL : List Str := ["_law_error", "_law_some", "_law_words", "_law_word", "_law_holds"]
abbrev ps_error_wordL : List Str := ["_law_error"]
theorem sc_error_wordL : FnScope N_error_wordL ps_error_wordL (defScope s_error_wordL) := ⟨rfl, rfl, rfl, by decide +kernel, rfl, by decide +kernel, by decide +kernel⟩

def wdPair : PyData → Bool
  | .tuple [_, .bool b] => b
  | _ => false
def isPr : PyData → Bool
  | .tuple [_, .bool _] => true
  | _ => false
theorem isPr_of {x : PyData} (h : isPr x = true) : ∃ (a : PyData) (b : Bool), x = .tuple [a, .bool b] := by
  unfold isPr at h
  split at h
  · exact ⟨_, _, rfl⟩
  · cases h
def wdFst : PyData → PyData
  | .tuple [a, _] => a
  | _ => .none
theorem ok_error_wordL (F : FunAt K mg "_law_error_word" s_error_wordL ps_error_wordL f fd) (B : Bt mg) (T : BpTxt P K mg CB fI) (EX : ErC K CB) (R : Ers K mg CB) : DefOk P w K mg base "_law_error_word" 1 ps_error_wordL (spW CB) := by
  refine DefOk.of F sc_error_wordL (fun vs H Q E ⟨M, fu, L, G, v, wd, h, _⟩ => by rw [h]; rfl) fun cdv A outer s H vs Q E hg hr ⟨M, fu, L, G, v, wd, hvs, hw, hv, hwd, hq⟩ => ?_
  have nd := sc_error_wordL.nd
  obtain ⟨a_BadNet, g_BadNet, k1⟩ := R.BadNet
  obtain ⟨a_BadWire, g_BadWire, k2⟩ := R.BadWire
  obtain ⟨a_NotBanyan, g_NotBanyan, k3⟩ := R.NotBanyan
  obtain ⟨a_BadDemands, g_BadDemands, k4⟩ := R.BadDemands
  obtain ⟨a_BadOrder, g_BadOrder, k5⟩ := R.BadOrder
  obtain ⟨a_BadSettings, g_BadSettings, k6⟩ := R.BadSettings
  obtain ⟨a_BadNumber, g_BadNumber, k7⟩ := R.BadNumber
  obtain ⟨a_BadPaper, g_BadPaper, k8⟩ := R.BadPaper
  obtain ⟨a_TooGreat, g_TooGreat, k9⟩ := R.TooGreat
  refine ⟨_, (pss_cons (ps_set (i := 1) nd rfl (Or.inl rfl) (pe_lst (pa_cons (pe_tupX (pa_cons pe_str (pa_cons (pe_callB (call_isX K EX) (by rfl) B.isinstance (by decide +kernel) (pa_cons (pv 0) (pa_cons (pe_glob (v := .ref a_BadNet) (by rfl) g_BadNet rfl) pa_nil))) pa_nil))) (pa_cons (pe_tupX (pa_cons pe_str (pa_cons (pe_callB (call_isX K EX) (by rfl) B.isinstance (by decide +kernel) (pa_cons (pv 0) (pa_cons (pe_glob (v := .ref a_BadWire) (by rfl) g_BadWire rfl) pa_nil))) pa_nil))) pa_nil))))
    (pss_cons (ps_set (i := 1) nd rfl (Or.inl rfl) (pe_op (kAdd K) (pv 1) (pe_lst (pa_cons (pe_tupX (pa_cons pe_str (pa_cons (pe_callB (call_isX K EX) (by rfl) B.isinstance (by decide +kernel) (pa_cons (pv 0) (pa_cons (pe_glob (v := .ref a_NotBanyan) (by rfl) g_NotBanyan rfl) pa_nil))) pa_nil))) (pa_cons (pe_tupX (pa_cons pe_str (pa_cons (pe_callB (call_isX K EX) (by rfl) B.isinstance (by decide +kernel) (pa_cons (pv 0) (pa_cons (pe_glob (v := .ref a_BadDemands) (by rfl) g_BadDemands rfl) pa_nil))) pa_nil))) pa_nil)))))
    (pss_cons (ps_set (i := 1) nd rfl (Or.inl rfl) (pe_op (kAdd K) (pv 1) (pe_lst (pa_cons (pe_tupX (pa_cons pe_str (pa_cons (pe_callB (call_isX K EX) (by rfl) B.isinstance (by decide +kernel) (pa_cons (pv 0) (pa_cons (pe_glob (v := .ref a_BadOrder) (by rfl) g_BadOrder rfl) pa_nil))) pa_nil))) pa_nil))))
    (pss_cons (ps_set (i := 1) nd rfl (Or.inl rfl) (pe_op (kAdd K) (pv 1) (pe_lst (pa_cons (pe_tupX (pa_cons pe_str (pa_cons (pe_callB (call_isX K EX) (by rfl) B.isinstance (by decide +kernel) (pa_cons (pv 0) (pa_cons (pe_glob (v := .ref a_BadSettings) (by rfl) g_BadSettings rfl) pa_nil))) pa_nil))) (pa_cons (pe_tupX (pa_cons pe_str (pa_cons (pe_callB (call_isX K EX) (by rfl) B.isinstance (by decide +kernel) (pa_cons (pv 0) (pa_cons (pe_glob (v := .ref a_BadNumber) (by rfl) g_BadNumber rfl) pa_nil))) pa_nil))) pa_nil)))))
    (pss_cons (ps_set (i := 1) nd rfl (Or.inl rfl) (pe_op (kAdd K) (pv 1) (pe_lst (pa_cons (pe_tupX (pa_cons pe_str (pa_cons (pe_callB (call_isX K EX) (by rfl) B.isinstance (by decide +kernel) (pa_cons (pv 0) (pa_cons (pe_glob (v := .ref a_BadPaper) (by rfl) g_BadPaper rfl) pa_nil))) pa_nil))) (pa_cons (pe_tupX (pa_cons pe_str (pa_cons (pe_callB (call_isX K EX) (by rfl) B.isinstance (by decide +kernel) (pa_cons (pv 0) (pa_cons (pe_glob (v := .ref a_TooGreat) (by rfl) g_TooGreat rfl) pa_nil))) pa_nil))) pa_nil)))))
    (pss_cons (ps_setLc (i := 2) (own := [("_law_word", 3), ("_law_holds", 4)]) rfl nd rfl rfl (sw_true rfl rfl rfl (by decide +kernel)) (kSeq K (pv 1)) (blkOk_by (own := [("_law_word", 3), ("_law_holds", 4)]) (N := N_error_wordL) (sc := defScope s_error_wordL) (by decide +kernel)) (fun _ _ _ _ _ => (kTup (n := 2) K rfl (pgs_cons (pg_name (i := 3) nd rfl (Or.inl rfl)) (pgs_cons (pg_name (i := 4) nd rfl (Or.inl rfl)) pgs_nil)))) (fun _ _ _ _ _ => (pts_one (pt_val (pv 4)))) (fun _ _ _ _ _ => (pv 3)))
    (pss_cons (ps_if (pt_cmpR (kNe K hr.units) (pe_callB (kLen K) (by rfl) B.len (by decide +kernel) (pa_cons (pv 2) pa_nil)) pe_int (nomark _)) (pss_one (ps_ret (pe_tupX (pa_cons pe_str pa_nil)))) pss_nil)
    (pss_cons (ps_if (pt_cmpR (kEq K hr.units) (pe_ix (kIx K) (pv 2) pe_int (fun _ _ => rfl)) pe_str (nomark _)) (pss_one ps_never) pss_nil)
    (pss_cons (ps_if (pt_cmpR (kIn K hr) (pe_ix (kIx K) (pv 2) pe_int (fun _ _ => rfl)) (pe_tupX (pa_cons pe_str (pa_cons pe_str pa_nil))) (by rfl)) (pss_one ps_never) pss_nil)
    (pss_cons (ps_if (pt_cmpR (kEq K hr.units) (pe_ix (kIx K) (pv 2) pe_int (fun _ _ => rfl)) pe_str (nomark _)) (pss_one (ps_ret (pe_tupX (pa_cons pe_str (pa_cons (pe_word T (pv 0)) pa_nil))))) pss_nil)
    (pss_cons (ps_if (pt_cmpR (kEq K hr.units) (pe_ix (kIx K) (pv 2) pe_int (fun _ _ => rfl)) pe_str (nomark _)) (pss_one ps_never) pss_nil)
    (pss_one ps_never)))))))))))), ?_⟩
  subst hvs
  suffices go : ∀ D : Ends, D.rt = Q → Go M G D _ fu L [some (exSD CB wd), none, none, none, none] from go { nx := fun _ H' => Q .non H', rt := Q } rfl _ G H (Evl.Ex.refl G) hw ⟨rfl, fun i sd h => by
    match i with
    | 0 => cases h; exact ⟨v, rfl, hv⟩
    | 1 => cases h
    | 2 => cases h
    | 3 => cases h
    | 4 => cases h
    | i + 5 => cases h⟩
  intro D hD
  have hR : RtOk M G D fu L (· = .tuple [.str "paper", .str wd]) := fun v d G2 H2 hd e w2 dv => by subst hd; rw [hD]; exact hq v G2 H2 e w2 dv
  refine q_asg (d := .list [.tuple [.str "net", .bool false], .tuple [.str "wire", .bool false]]) (ev_lst (ea_two (ev_tup (ea_two ev_str (ev_isX rfl k1))) (ev_tup (ea_two ev_str (ev_isX rfl k2))))) ?_
  refine q_asg (ev_addL (ev_var rfl).r (ev_lst (ea_two (ev_tup (ea_two ev_str (ev_isX rfl k3))) (ev_tup (ea_two ev_str (ev_isX rfl k4))))).r (by decide)) ?_
  refine q_asg (ev_addL (ev_var rfl).r (ev_lst (ea_one (ev_tup (ea_two ev_str (ev_isX rfl k5))))).r (by decide)) ?_
  refine q_asg (ev_addL (ev_var rfl).r (ev_lst (ea_two (ev_tup (ea_two ev_str (ev_isX rfl k6))) (ev_tup (ea_two ev_str (ev_isX rfl k7))))).r (by decide)) ?_
  refine q_asg (ev_addL (ev_var rfl).r (ev_lst (ea_two (ev_tup (ea_two ev_str (ev_isX rfl k8))) (ev_tup (ea_two ev_str (ev_isX rfl k9))))).r (by decide)) ?_
  have hprs : ∀ x ∈ [PyData.tuple [.str "net", .bool false], .tuple [.str "wire", .bool false]] ++ [.tuple [.str "banyan", .bool false], .tuple [.str "demands", .bool false]] ++ [.tuple [.str "order", .bool false]] ++ [.tuple [.str "settings", .bool false], .tuple [.str "number", .bool false]] ++ [.tuple [.str "paper", .bool true], .tuple [.str "great", .bool false]],
      ∃ (a : PyData) (b : Bool), x = .tuple [a, .bool b] := fun x hx => isPr_of ((List.all_eq_true (p := isPr)).mp rfl x hx)
  refine q_asg (d := .list [.str "paper"]) (ev_is (ev_lc (js := [3, 4]) (F := Fp 3 4) wdPair wdFst (ei_seqL (ev_var rfl)) (by decide) (fun x hx => by obtain ⟨a, b, rfl⟩ := hprs x hx; exact tg_pair) (by decide) fun x hx => by
    obtain ⟨a, b, rfl⟩ := hprs x hx
    exact ⟨eb_T (ev_var rfl), fun _ => ev_var rfl⟩) rfl) ?_
  have h0 : ∀ (ds : DS) (z : Str), ds[2]? = some (some (.dat (.list [.str "paper"]))) → PyData.strOk z = true → ("paper" : Str) ≠ z → EvB M L (tTest (tOp (rEqD K) (tOp (rIxG K) (tVar 2) (tC (.int 0))) (tC (.str z)))) ds false := fun ds z hds hz hne => by
    refine (eb_T (ev_eq (n := 0) (m := 0) (ev_ixL (es := [.str "paper"]) (ev_var hds).r ev_int.r (atI_get (i := 0) (d := .str "paper") rfl)).r ev_str.r (Shp.str (by decide +kernel)) (Shp.str hz))).is ?_
    simp only [PyData.eqv]
    exact beq_eq_false_iff_ne.mpr hne
  refine q_skip ((eb_T (ev_neI (ev_lenL (es := [.str "paper"]) (ev_var rfl).r).r ev_int.r)).is (by decide)) (q_skip (h0 _ _ rfl (by decide +kernel) (by decide +kernel)) (q_skip ?_ (q_if (b := true) ?_ (fun _ => go_ret (ev_tup (ea_two ev_str (ev_word rfl))) hR rfl) (fun h => Bool.noConfusion h))))
  · refine (eb_T (ev_inT (n := 0) (m := 0) (es := [.str "demands", .str "settings"]) (ev_ixL (es := [.str "paper"]) (ev_var rfl).r ev_int.r (atI_get (i := 0) (d := .str "paper") rfl)).r (ev_tup (ea_two ev_str ev_str)).r (Shp.str (by decide +kernel)) fun e he => ?_)).is (by decide +kernel)
    rcases List.mem_cons.mp he with rfl | he
    · exact Shp.str (by decide +kernel)
    · rw [List.mem_singleton.mp he]; exact Shp.str (by decide +kernel)
  · exact (eb_T (ev_eq (n := 0) (m := 0) (ev_ixL (es := [.str "paper"]) (ev_var rfl).r ev_int.r (atI_get (i := 0) (d := .str "paper") rfl)).r ev_str.r (Shp.str (by decide +kernel)) (Shp.str (by decide +kernel)))).is (by decide +kernel)
end
end Kd
namespace Kd
open PySem L2 LamX
open PyProof.Rows (envOfC)
/-- what a told call says -/
def toldD (ok : Bool) (wd : Str) : PyData := if ok then .list [.str wd] else .tuple [.str "paper", .str wd]
/-- the lambda's reading: the text, or BadPaper of it -/
def LamSp (CB : Addr) (ok : Bool) (wd : Str) (Gx : Hp) (M : MS) (tl : XK → Hp → VK → Prop) : Prop := ∀ f L G H (E : XK) (Q : VK), Ex Gx G → W M f L G H →
  (ok = true → ∀ v G2 H2, Ex G G2 → W M f L G2 H2 → Dv G2 v (.str wd) → Q v H2) → (ok = false → ∀ d G2 H2, Ex G G2 → W M f L G2 H2 → G2 d = some (wdO (.str wd)) → E (.ref CB) (some d) H2) → tl E H Q
theorem ev_isNone {M : MS} {L : Own} {ds : DS} {i : Nat} (h : ds[i]? = some (some (.dat .none))) : EvB M L (tTest (tOp (fun x y H Q => y = .non ∧ Q (.bl (decide (x = .non))) H) (tVar i) (tC .non))) ds true :=
  (eb_T (ev_op (ev_var h).r ev_non.r (ro_isN (b := true) ⟨fun _ => rfl, fun _ => rfl⟩)))
theorem ev_isNoneX {M : MS} {L : Own} {ds : DS} {i : Nat} {C : Addr} {wd : Str} (h : ds[i]? = some (some (exSD C wd))) : EvB M L (tTest (tOp (fun x y H Q => y = .non ∧ Q (.bl (decide (x = .non))) H) (tVar i) (tC .non))) ds false := fun f L' s σ G H w sl Q q => by
  obtain ⟨v, h1, a, oe, vs, dd, rfl, h2⟩ := sl.at_ i _ h
  exact ⟨_, h1, rfl, false, by simp, q _ _ (Evl.Ex.refl G) w⟩
section
variable {P : Program} {w : World} {K : PySem.W.Frag} {mg : Str → Option Value} {base : Heap} {CB fI : Addr}
/-- the classes that the clause names -/
structure Cat (K : PySem.W.Frag) (mg : Str → Option Value) (CB cS cN cT : Addr) : Prop where
  gS : mg "SwitchError" = some (.ref cS)
  gN : mg "NotBanyan" = some (.ref cN)
  gT : mg "TooGreat" = some (.ref cT)
  any : PySem.W.exmAny K (.ref CB) [.ref cS, .ref cN, .ref cT] = some true
abbrev s_toldL : Stmt := top 50
abbrev N_toldL : List Str := ["_law_call", "_law_found", "_law_caught", "e"]
abbrev ps_toldL : List Str := ["_law_call"]
theorem sc_toldL : FnScope N_toldL ps_toldL (defScope s_toldL) := ⟨rfl, rfl, rfl, by decide +kernel, rfl, by decide +kernel, by decide +kernel⟩

/-- the call within the try -/
def tAct (f c' : Addr) (q : Str) (tl : XK → Hp → VK → Prop) (W : WX) : TS := fun D σ H => ∃ Ech : XK, σ[0]? = some (some (.ref f)) ∧ H c' = some (CodeO c' q) ∧ (∀ cls d H', Ech cls d H' → W cls d σ H') ∧ tl Ech H fun v H' => D.nx (σ.set 1 (some v)) H'
def tTry (K : PySem.W.Frag) (f c' : Addr) (q : Str) (tl : XK → Hp → VK → Prop) (cS cN cT : Addr) : TS := fun D σ H => tAct f c' q tl (wAs3 K [.ref cS, .ref cN, .ref cT] 3 (fun _ _ _ => tAsg (tVar 3) (gName 2)) D) D σ H
/-- what told does with the call -/
theorem told_go {M : MS} {L : Own} {f c' : Addr} {q : Str} {tl : XK → Hp → VK → Prop} {cS cN cT : Addr} {ok : Bool} {wd : Str} {Gx G2 : Hp} {fu : Nat} {Q : VK} {tr : TS} {H2 : Hp} (T3 : Cat K mg CB cS cN cT) (hsp : LamSp CB ok wd Gx M tl) (hwd : PyData.strOk wd = true)
    (htr : tr = tRet (tIf (tTest (tOp (fun x y H Q => y = .non ∧ Q (.bl (decide (x = .non))) H) (tVar 2) (tC .non))) (tLst (tCons (tVar 1) tNil)) (tCall (spW CB) [] C8.E0 (tCons (tVar 2) tNil))))
    (hG : Ex Gx G2) (hc : G2 c' = some (CodeO c' q)) (hw : W M fu L G2 H2) (hq : ∀ v G3 H3, Ex G2 G3 → W M fu L G3 H3 → Dv G3 v (toldD ok wd) → Q v H3) (D : Ends) (hD : D.rt = Q) :
    Go M G2 D (tSeq (tTry K f c' q tl cS cN cT) tr) fu L [some (.raw (.ref f)), some (.dat .none), some (.dat .none), none] := by
  have hR : RtOk M G2 D fu L (· = toldD ok wd) := fun v d G3 H3 hd e w3 dv => by subst hd; rw [hD]; exact hq v G3 H3 e w3 dv
  intro σ G H e w0 sl
  obtain ⟨v0, h0, e0⟩ := sl.at_ 0 _ rfl
  have e0' : v0 = .ref f := e0
  subst e0'
  refine ⟨fun cls d H' => cls = .ref CB ∧ ok = false ∧ ∃ dd G', d = some dd ∧ Ex G G' ∧ W M fu L G' H' ∧ G' dd = some (wdO (.str wd)), h0, w0.ex _ _ (e _ _ hc), ?_, ?_⟩
  · rintro cls d H' ⟨rfl, hk, dd, G', rfl, e1, w1, h1⟩
    refine ⟨T3.any, fun a oe vs na hz hd => ?_⟩
    have len : σ.length = 4 := sl.len
    refine ⟨.ref a, by rw [List.getElem?_set_self (by omega)], ?_⟩
    show tr D (((σ.set 3 (some (.ref a))).set 2 (some (.ref a))).set 3 none) (upd H' a (exA a oe))
    have w2 : W M fu L (upd G' a (exA a oe)) (upd H' a (exA a oe)) := w1.new na (fun ps z => by unfold exA at z; cases z)
    have e2 : Ex G' (upd G' a (exA a oe)) := Evl.Ex.new (w1.gnone na)
    have sl2 : Sl (upd G' a (exA a oe)) (((σ.set 3 (some (.ref a))).set 2 (some (.ref a))).set 3 none) [some (.raw (.ref f)), some (.dat .none), some (exSD CB wd), none] := by
      have s1 := ((sl.mono (e1.trans e2)).set 3 (v := .ref a) (sd := .raw (.ref a)) rfl).set 2 (v := .ref a) (sd := exSD CB wd) ⟨a, oe, vs, dd, rfl, upd_same, hz, hd, e2 _ _ h1⟩
      exact s1.forget 3 none
    have hkd : toldD ok wd = .tuple [.str "paper", .str wd] := by rw [hk]; rfl
    rw [htr]
    refine (go_ret (d := .tuple [.str "paper", .str wd]) (R := (· = toldD ok wd)) (ev_if (ev_isNoneX rfl) (fun h => Bool.noConfusion h) fun _ => ?_) hR (by rw [hkd])) _ _ _ ((e.trans e1).trans e2) w2 sl2
    intro f3 L3 s3 σ3 G3 H3 w3 sl3 Q3 q3
    obtain ⟨v3, h3, x3⟩ := sl3.at_ 2 _ rfl
    exact ⟨v3, h3, M, f3, L3, G3, v3, wd, by rw [List.append_nil], w3, x3, hwd, q3⟩
  · refine hsp fu L G H _ _ (hG.trans e) w0 (fun hk v G3 H3 e3 w3 d3 => ?_) (fun hk d G3 H3 e3 w3 h3 => ⟨rfl, hk, d, G3, rfl, e3, w3, h3⟩)
    have hkd : toldD ok wd = .list [.str wd] := by rw [hk]; rfl
    rw [htr]
    exact (go_ret (d := .list [.str wd]) (R := (· = toldD ok wd)) (ev_if (ev_isNone rfl) (fun _ => ev_lst (ea_one (ev_var rfl))) fun h => Bool.noConfusion h) hR (by rw [hkd])) _ _ _ (e.trans e3) w3 ((sl.mono e3).set 1 (sd := .dat (.str wd)) d3)
/-- the call of told, at a state above the lambda's making -/
theorem told_run {X : Cx} {pins : List (Addr × Obj)} {σ : L2.St} {H H2 : Hp} {s s2 : Shared} {A2 : Around} {outer2 : List Env} {f c' g : Addr} {fd : FuncData} {pm ctv : Value} {params : Arguments} {body : Expr} {scope : Scope} {k : Nat} {tb : XK → TE} {cS cN cT : Addr} {M : MS} {L : Own} {ok : Bool} {wd : Str} {Gx G2 : Hp} {fu : Nat} {Q : VK}
    (I : Inv X pins σ H s) (Lm : LamS X.env.scope scope) (hf : s.heap.get? f = some (PySem.W.kla_obj "<lambda>" (X.env.qual ++ "<lambda>") params body scope (cloFrom X.env.cells scope.names []) pm c' ctv)) (hfn : H f = none) (hfr : f ∉ frs X.stack)
    (hbind : ∀ (q : Str) (cl : List (Str × Addr)) (pm cv ctv : Value), bindArgs (PySem.W.kla_fn "<lambda>" q params body scope cl pm cv ctv) ⟨[], []⟩ = pure [])
    (hbody : ∀ (A : Around) (outer : List Env) (s : Shared) (H : Hp) (E : XK), A.guards = some [] → Room (k + 1) (A.deeper (lamEnv X scope s.heap.objs.size f c')) → PE (lamCx X A outer s H E scope f c') body (tb E))
    (F : FunAt X.K X.mg "_law_told" s_toldL ps_toldL g fd) (B : Bt X.mg) (T3 : Cat X.K X.mg CB cS cN cT) (D_error_wordL : DefOk X.prog X.w X.K X.mg X.base "_law_error_word" 1 ps_error_wordL (spW CB))
    (un2 : Un (frs X.stack) [] H H2 s.heap s2.heap) (hout : ∀ b ∈ frs outer2, b ∈ frs X.stack ∨ s.heap.get? b = none) (hgd : A2.guards = some []) (hr : Room (k + 3) A2) (e0 : Env0 X.prog X.w X.K X.mg X.base A2 outer2 s2 H2)
    (hsp : LamSp CB ok wd Gx M (fun E H' Q' => tb E σ H' Q')) (hwd : PyData.strOk wd = true) (hG : Ex Gx G2) (hc : G2 c' = some (CodeO c' (X.env.qual ++ "<lambda>"))) (hw : W M fu L G2 H2) (hq : ∀ v G3 H3, Ex G2 G3 → W M fu L G3 H3 → Dv G3 v (toldD ok wd) → Q v H3) :
    codeAny (model X.prog X.w) A2 (.call (.ref g) ⟨[.ref f], []⟩) (CR C8.CX0 outer2 X.prog X.w H2 s2 Q C8.E0) s2 := by
  have bd := F.bd
  obtain ⟨oc, od, kV, doc, pm', an, cdv, ct, osl, rfl, lk, hcd⟩ := F.fn.ex
  have KX : X.K.In s2.heap := e0.mod.kin.keeps fun b o e => (e0.bs b o e).1
  have hb := bd s2 [.ref f] KX rfl
  refine run_ofS (N := N_toldL) (ps := ps_toldL) (us := [.ref f]) (vs := [.ref f]) lk hcd sc_toldL hr e0 (by simpa using hb) (.cons rfl .nil) rfl fun hr' => ?_
  have nd := sc_toldL.nd
  have hg := hgd
  have hrr := hr'
  refine ⟨_, (pss_cons (X := (cxOf C8.CX0 X.prog X.w X.K X.mg X.base N_toldL "_law_told" (defScope s_toldL) g cdv A2 outer2 s2 H2 C8.E0).nox) (ps_asg (pe_tupX (pa_cons pe_non (pa_cons pe_non pa_nil))) (kTup (n := 2) X.K rfl (pgs_cons (pg_name (i := 1) nd rfl (Or.inl rfl)) (pgs_cons (pg_name (i := 2) nd rfl (Or.inl rfl)) pgs_nil))))
    (pss_cons (ps_try_as3 (x1 := "SwitchError") (x2 := "NotBanyan") (x3 := "TooGreat") (i := 3) (tb := fun W => tAct f c' (X.env.qual ++ "<lambda>") (fun E H' Q' => tb E σ H' Q') W) (ts := fun _ _ _ => tAsg (tVar 3) (gName 2)) rfl rfl nd rfl rfl ⟨rfl, by decide, .inl T3.gS⟩ ⟨rfl, by decide, .inl T3.gN⟩ ⟨rfl, by decide, .inl T3.gT⟩ rfl
      (fun W pn xe tk _ => ⟨fun pinsZ sZ σZ HZ D IZ h => ?_⟩) (fun a oe cls d pn hz hfl => pss_one (ps_set (i := 2) nd rfl (Or.inl rfl) (by exact (pv 3)))))
    (pss_one (ps_ret (pe_ifExp (pt_cmpR op_isN (pv 2) pe_non (nomark _)) (pe_lst (pa_cons (pv 1) pa_nil)) (pe_callD D_error_wordL hg (hrr.mono (by omega)) (by rfl) (pa_cons (pv 2) pa_nil))))))).nox, ?_⟩
  · obtain ⟨Ech, h1, h2, h3, h4⟩ := h
    have hp := pe_act2 (i := 0) (p1 := ⟨219, 21, 219, 30⟩) (p2 := ⟨219, 21, 219, 32⟩) (tb := tb Ech) (E := Ech) (W := W) (pn := pn) (xe := xe) (a := "_law_call") (Ng := N_toldL) (qg := "_law_told") (sg := defScope s_toldL) (g := g) (cdg := cdv) I Lm hf hfn hfr un2 hout (hbind _ _ _ _ _) tk hgd hr' (fun A outer s H hga hra => hbody A outer s H Ech hga hra) rfl (by exact Or.inl rfl)
    exact (pss_one (ps_set (pos := ⟨219, 8, 219, 32⟩) (i := 1) nd rfl (Or.inl rfl) hp)).run pinsZ sZ σZ HZ D IZ ⟨h1, h2, h3, h4⟩
  · suffices go : ∀ D : Ends, D.rt = Q → Go M G2 D _ fu L [some (.raw (.ref f)), none, none, none] from go { nx := fun _ H' => Q .non H', rt := Q } rfl _ G2 H2 (Evl.Ex.refl G2) hw ⟨rfl, fun i sd h => by
      match i with
      | 0 => cases h; exact ⟨.ref f, rfl, rfl⟩
      | 1 => cases h
      | 2 => cases h
      | 3 => cases h
      | i + 4 => cases h⟩
    intro D hD
    refine q_asgP (ev_tup (ea_two ev_non ev_non)) ?_
    exact told_go T3 hsp hwd rfl hG hc hw hq D hD
end
end Kd
namespace Kd
open PySem PySem.Spec PyProof.Rows L2 LamX
open PyProof.Rows (envOfC)
section
variable {CB fI : Addr}
abbrev s_isL : Stmt := top 51
abbrev N_isL : List Str := ["_law_call", "_law_due"]
abbrev ps_isL : List Str := ["_law_call", "_law_due"]
theorem sc_isL : FnScope N_isL ps_isL (defScope s_isL) := ⟨rfl, rfl, rfl, by decide +kernel, rfl, by decide +kernel, by decide +kernel⟩

/-- told(call), in is -/
def tToldE (CB f c' : Addr) (q : Str) (tl : XK → Hp → VK → Prop) : TE := fun σ H Q => σ[0]? = some (some (.ref f)) ∧ ∃ M L fu G ok wd Gx, LamSp CB ok wd Gx M tl ∧ PyData.strOk wd = true ∧ Ex Gx G ∧ G c' = some (CodeO c' q) ∧ W M fu L G H ∧
  ∀ v G3 H3, Ex G G3 → W M fu L G3 H3 → Dv G3 v (toldD ok wd) → Q v H3
/-- f may be called so -/
def LamK (f c' : Addr) (q : Str) (Gx : Hp) (G : Hp) (v : V) : Prop := v = .ref f ∧ Ex Gx G ∧ G c' = some (CodeO c' q)
theorem LamK.mono {f c' : Addr} {q : Str} {Gx : Hp} : ∀ (G G' : Hp) (v : V), Ex G G' → LamK f c' q Gx G v → LamK f c' q Gx G' v := fun G G' v e ⟨h1, h2, h3⟩ => ⟨h1, h2.trans e, e _ _ h3⟩
def lamSD (f c' : Addr) (q : Str) (Gx : Hp) : SD := .kn (LamK f c' q Gx) LamK.mono
theorem ev_told {M : MS} {L : Own} {ds : DS} {f c' : Addr} {q : Str} {Gx : Hp} {tl : XK → Hp → VK → Prop} {ok : Bool} {wd : Str} (h : ds[0]? = some (some (lamSD f c' q Gx))) (hsp : LamSp CB ok wd Gx M tl) (hwd : PyData.strOk wd = true) : EvD M L (tToldE CB f c' q tl) ds (toldD ok wd) := fun fu L' s σ G H w sl Q q => by
  obtain ⟨v, h1, rfl, h2, h3⟩ := sl.at_ 0 _ h
  exact ⟨h1, M, L', fu, G, ok, wd, Gx, hsp, hwd, h2, h3, w, fun v G3 H3 e3 w3 d3 => q v G3 H3 e3 w3 d3⟩
/-- is(lambda, due) in plain words -/
def isD (ok : Bool) (wd : Str) (due : PyData) : PyData := .bool (decide ((PyData.list [toldD ok wd, toldD ok wd]).shown = (PyData.list [due, due]).shown))
theorem is_run {X : Cx} {pins : List (Addr × Obj)} {σ : L2.St} {H : Hp} {s : Shared} {f c' gi g : Addr} {fdi fd : FuncData} {pm ctv : Value} {params : Arguments} {body : Expr} {scope : Scope} {k : Nat} {tb : XK → TE} {cS cN cT : Addr} {M : MS} {L : Own} {ok : Bool} {wd : Str} {Gx G : Hp} {fu : Nat} {Q : VK} {due : V} {du : Value} {dd : PyData}
    (I : Inv X pins σ H s) (Lm : LamS X.env.scope scope) (hf : s.heap.get? f = some (PySem.W.kla_obj "<lambda>" (X.env.qual ++ "<lambda>") params body scope (cloFrom X.env.cells scope.names []) pm c' ctv)) (hfn : H f = none) (hfr : f ∉ frs X.stack)
    (hbind : ∀ (q : Str) (cl : List (Str × Addr)) (pm cv ctv : Value), bindArgs (PySem.W.kla_fn "<lambda>" q params body scope cl pm cv ctv) ⟨[], []⟩ = pure [])
    (hbody : ∀ (A : Around) (outer : List Env) (s : Shared) (H : Hp) (E : XK), A.guards = some [] → Room (k + 1) (A.deeper (lamEnv X scope s.heap.objs.size f c')) → PE (lamCx X A outer s H E scope f c') body (tb E))
    (Fi : FunAt X.K X.mg "_law_is" s_isL ps_isL gi fdi) (F : FunAt X.K X.mg "_law_told" s_toldL ps_toldL g fd) (B : Bt X.mg) (T3 : Cat X.K X.mg CB cS cN cT) (D_error_wordL : DefOk X.prog X.w X.K X.mg X.base "_law_error_word" 1 ps_error_wordL (spW CB))
    (D_likeL : DefOk X.prog X.w X.K X.mg X.base "_law_like" 1 ps_likeL (spD pre_likeL)) (hgd : X.A.guards = some []) (hr : Room (k + 4) X.A)
    (hsp : LamSp CB ok wd Gx M (fun E H' Q' => tb E σ H' Q')) (hwd : PyData.strOk wd = true) (hG : Ex Gx G) (hc : G c' = some (CodeO c' (X.env.qual ++ "<lambda>"))) (hw : W M fu L G H) (hdue : Dv G due dd) (rdu : RelV due du)
    (hs1 : Sw 5000000 (.list [toldD ok wd, toldD ok wd])) (hs2 : Sw 5000000 (.list [dd, dd])) (hq : ∀ v G3 H3, Ex G G3 → W M fu L G3 H3 → Dv G3 v (isD ok wd dd) → Q v H3) :
    codeAny (model X.prog X.w) X.A (.call (.ref gi) ⟨[.ref f, du], []⟩) (CR C8.CX0 X.stack X.prog X.w H s Q C8.E0) s := by
  have bd := Fi.bd
  obtain ⟨oc, od, kV, doc, pm', an, cdv, ct, osl, rfl, lk, hcd⟩ := Fi.fn.ex
  have hb := bd s [.ref f, du] I.kIn rfl
  refine run_ofS (N := N_isL) (ps := ps_isL) (us := [.ref f, du]) (vs := [.ref f, due]) lk hcd sc_isL hr I.env0 (by simpa using hb) (.cons rfl (.cons rdu .nil)) rfl fun hr' => ?_
  have nd := sc_isL.nd
  have hg := hgd
  have hT : ∀ {p p' pos : Pos}, PE (cxOf C8.CX0 X.prog X.w X.K X.mg X.base N_isL "_law_is" (defScope s_isL) gi cdv X.A X.stack s H C8.E0).nox (.Call (.Name "_law_told" p) [.Name "_law_call" p'] [] pos) (tToldE CB f c' (X.env.qual ++ "<lambda>") (fun E H' Q' => tb E σ H' Q')) := fun {p p' pos} => by
    refine ⟨fun pinsY sY σY HY QY IY h => ?_⟩
    obtain ⟨h0, M', L', fu', G', ok', wd', Gx', hsp', hwd', hG', hc', hw', hq'⟩ := h
    refine wpAny_Call_Name_kw (ld_glob IY (by rfl) F.mg ?_)
    refine PySem.W.callWith_K (h₀ := X.base) IY.ok.mod.kin F.fn.kp (thn ((pa_cons (X := (cxOf C8.CX0 X.prog X.w X.K X.mg X.base N_isL "_law_is" (defScope s_isL) gi cdv X.A X.stack s H C8.E0).nox) (pv 0) pa_nil).run pos pinsY sY σY HY (fun vs H1 => vs = [.ref f] ∧ H1 = HY) IY ⟨.ref f, h0, rfl, rfl⟩) fun us s1 ⟨vs, H1, I1, r1, ev, eH⟩ => ?_) (by rfl) (by rfl)
    subst ev eH
    refine ⟨I1.kIn, ?_⟩
    obtain ⟨u, rfl, ru⟩ := vals1 r1
    cases ru
    refine wpAny_call (codeAny_mono (told_run (X := X) (A2 := X.A.deeper (envOfC "_law_is" (defScope s_isL) s.heap.objs.size gi cdv)) (outer2 := envOfC "_law_is" (defScope s_isL) s.heap.objs.size gi cdv :: X.stack) (s2 := s1) (H2 := H1) (fu := fu') (ok := ok') (wd := wd') (Gx := Gx') (M := M') (L := L') I Lm hf hfn hfr hbind hbody F B T3 D_error_wordL I1.base (fun b hb => ?_) hgd hr' I1.env0 hsp' hwd' hG' hc' hw' hq') fun r s' hq => ?_)
    · have hb' : b ∈ frs (envOfC "_law_is" (defScope s_isL) s.heap.objs.size gi cdv :: X.stack) := hb
      rcases List.mem_cons.mp (show b ∈ s.heap.objs.size :: frs X.stack from hb') with rfl | hb2
      · right
        cases e : s.heap.get? s.heap.objs.size with
        | none => rfl
        | some o => exact absurd (Heap.lt_size e) (Nat.lt_irrefl _)
      · exact .inl hb2
    · cases r with
      | error e => exact (show False from hq).elim
      | ok fl =>
        cases fl with
        | ret u => exact I1.after hq
        | next => exact False.elim hq
        | brk => exact False.elim hq
        | cont => exact False.elim hq
  refine ⟨_, (pss_one (X := (cxOf C8.CX0 X.prog X.w X.K X.mg X.base N_isL "_law_is" (defScope s_isL) gi cdv X.A X.stack s H C8.E0).nox) (ps_ret (pe_callD D_likeL hg (hr'.mono (by omega)) (by rfl) (pa_cons (pe_lst (pa_cons hT (pa_cons hT pa_nil))) (pa_cons (pe_lst (pa_cons (pv 1) (pa_cons (pv 1) pa_nil))) pa_nil))))).nox, ?_⟩
  suffices go : ∀ D : Ends, D.rt = Q → Go M G D _ fu L [some (lamSD f c' (X.env.qual ++ "<lambda>") Gx), some (.dat dd)] from go { nx := fun _ H' => Q .non H', rt := Q } rfl _ G H (Evl.Ex.refl G) hw ⟨rfl, fun i sd h => by
    match i with
    | 0 => cases h; exact ⟨.ref f, rfl, rfl, hG, hc⟩
    | 1 => cases h; exact ⟨due, rfl, hdue⟩
    | i + 2 => cases h⟩
  intro D hD
  have hR : RtOk M G D fu L (· = isD ok wd dd) := fun v d G3 H3 hd e w3 dv => by subst hd; rw [hD]; exact hq v G3 H3 e w3 dv
  exact go_ret (ev_call (ea_two (ev_lst (ea_two (ev_told rfl hsp hwd) (ev_told rfl hsp hwd))) (ev_lst (ea_two (ev_var rfl) (ev_var rfl)))) ⟨_, _, hs1, hs2, rfl, rfl⟩) hR rfl
/-- is(lambda: body, e2) -/
def tIs (CB : Addr) (T : List (Addr × Str)) (q : Str) (tb : XK → TE) (te2 : TE) : TE := fun σ H Q => Tabs T H ∧ ∀ (c' : Addr) (H1 : Hp), ExtN H H1 → Tabs T H1 → H1 c' = some (CodeO c' q) → te2 σ H1 fun due H2 =>
  ∃ M L fu G ok wd Gx dd, LamSp CB ok wd Gx M (fun E H' Q' => tb E σ H' Q') ∧ PyData.strOk wd = true ∧ Ex Gx G ∧ G c' = some (CodeO c' q) ∧ W M fu L G H2 ∧ Dv G due dd ∧ Sw 5000000 (.list [toldD ok wd, toldD ok wd]) ∧ Sw 5000000 (.list [dd, dd]) ∧
    ∀ v G3 H3, Ex G G3 → W M fu L G3 H3 → Dv G3 v (isD ok wd dd) → Q v H3
theorem pe_isCall {X : Cx} {T : List (Addr × Str)} {c P gi g : Addr} {fdi fd : FuncData} {params : Arguments} {body e2 : Expr} {te2 : TE} {scope : Scope} {k : Nat} {tb : XK → TE} {cS cN cT : Addr} {p lpos pos : Pos} (hgl : Gl X "_law_is")
    (Fi : FunAt X.K X.mg "_law_is" s_isL ps_isL gi fdi) (F : FunAt X.K X.mg "_law_told" s_toldL ps_toldL g fd) (B : Bt X.mg) (T3 : Cat X.K X.mg CB cS cN cT) (D_error_wordL : DefOk X.prog X.w X.K X.mg X.base "_law_error_word" 1 ps_error_wordL (spW CB))
    (D_likeL : DefOk X.prog X.w X.K X.mg X.base "_law_like" 1 ps_likeL (spD pre_likeL)) (hgd : X.A.guards = some []) (hr : Room (k + 4) X.A)
    (TB : TabB X.base X.mg c P) (hcode : X.env.code = .ref c) (hmT : (P, X.env.qual ++ "<lambda>") ∈ T) (hu : ∀ p ∈ T, p.1 = P → p.2 = X.env.qual ++ "<lambda>") (Lm : LamS X.env.scope scope) (hdef : defaultsOf params X.env = ([], []))
    (hbind : ∀ (q : Str) (cl : List (Str × Addr)) (pm cv ctv : Value), bindArgs (PySem.W.kla_fn "<lambda>" q params body scope cl pm cv ctv) ⟨[], []⟩ = pure [])
    (hbody : ∀ (A : Around) (outer : List Env) (s : Shared) (H : Hp) (E : XK) (f c' : Addr), A.guards = some [] → Room (k + 1) (A.deeper (lamEnv X scope s.heap.objs.size f c')) → PE (lamCx X A outer s H E scope f c') body (tb E)) (he2 : PE X e2 te2)
    (hst : starEach [.Lambda params body scope lpos, e2] X.env = (false, eval (.Lambda params body scope lpos) X.env) :: starEach [e2] X.env := by rfl) (hst2 : backTo pos (starEach [e2] X.env) = [(false, eval e2 X.env)] := by rfl) :
    PE X (.Call (.Name "_law_is" p) [.Lambda params body scope lpos, e2] [] pos) (tIs CB T (X.env.qual ++ "<lambda>") tb te2) := by
  refine ⟨fun pins s σ H Q I h => ?_⟩
  obtain ⟨hT, h⟩ := h
  refine wpAny_Call_Name_kw (ld_glob I hgl Fi.mg ?_)
  refine PySem.W.callWith_K (h₀ := X.base) I.ok.mod.kin Fi.fn.kp ?_ hst (by rw [hst2]; rfl)
  rw [hst]
  show wpAny _ _ (spliced ((false, eval (.Lambda params body scope lpos) X.env) :: backTo pos (starEach [e2] X.env))) _ _ s
  rw [hst2]
  refine Calls.spliced_cons (lam_make2 I TB hcode hmT hu hT hdef (Lm.has I.ok) fun f c' pm' ctv H1 s' I1 eN T1 hf hfn hfr hco => ?_)
  have nL : f ≠ X.env.locals := fun z => by
    obtain ⟨m, ⟨o, es, ep, ho, hd, _⟩, _⟩ := I1.loc
    rw [← z, hf] at ho
    cases ho
    cases hd
  have nF : f ∉ X.fs := fun z => hfr (by
    rcases I1.ok.stk with e | ⟨e, _⟩
    · rw [e]; exact z
    · rw [e]
      obtain ⟨b, hb, q⟩ := List.mem_filterMap.mp z
      exact List.mem_filterMap.mpr ⟨b, List.mem_cons_of_mem _ hb, q⟩)
  have I2 : Inv X ((f, PySem.W.kla_obj "<lambda>" (X.env.qual ++ "<lambda>") params body scope (cloFrom X.env.cells scope.names []) pm' c' ctv) :: pins) σ H1 s' := I1.pins_of fun q hq => by
    rcases List.mem_cons.mp hq with rfl | hq
    · exact ⟨hf, hfn, nL, nF, fun v z => by cases z⟩
    · exact I1.pin q (List.mem_append_right _ hq)
  refine Calls.spliced_cons (thn (he2.run _ s' σ H1 _ I2 (h c' H1 eN T1 hco)) fun du s2 ⟨due, H2, I3, rdu, M, L, fu, G, ok, wd, Gx, dd, hsp, hwd, hG, hc, hw, hdue, hs1, hs2, hq⟩ => Calls.spliced_nil ⟨I3.kIn, ?_⟩)
  obtain ⟨hf2, hfn2, _⟩ := I3.pin (f, _) (List.mem_append_right _ List.mem_cons_self)
  have I4 : Inv X pins σ H2 s2 := I3.pins_of fun q hq => I3.pin q (List.mem_append_right _ (List.mem_cons_of_mem _ hq))
  refine wpAny_call (codeAny_mono (is_run (X := X) (k := k) I4 Lm hf2 hfn2 hfr hbind (fun A outer s H E hga hra => hbody A outer s H E f c' hga hra) Fi F B T3 D_error_wordL D_likeL hgd hr hsp hwd hG hc hw hdue rdu hs1 hs2 hq) fun r s3 hq => ?_)
  cases r with
  | error e => exact (show False from hq).elim
  | ok fl =>
    cases fl with
    | ret u => exact I4.after hq
    | next => exact False.elim hq
    | brk => exact False.elim hq
    | cont => exact False.elim hq
end
end Kd
namespace Kd
open PySem PySem.Spec PyProof.Rows L2 LamX
open PyProof.Rows (envOfC)
/-- the lambda's reading: check_apart of four slots -/
def tbChk (CB : Addr) (i1 i2 i3 i4 : Nat) : XK → TE := fun E => tCall (spX CB pre_check_apart) [] E (tCons (tVar i1) (tCons (tVar i2) (tCons (tVar i3) (tCons (tVar i4) tNil))))
theorem lamSp_check {CB : Addr} {M : MS} {σ : L2.St} {ds : DS} {i1 i2 i3 i4 : Nat} {Gx : Hp} {n : Net} {b e : Nat} {p : PyData} {ok : Bool} {wd : Str} (sl : Sl Gx σ ds) (hn : NetOk n) (hb : b < n.k) (he : e < n.k) (hp : Shp 8 p) (hc : chkD n b e p = (ok, wd))
    (h1 : ds[i1]? = some (some (.dat (dN n)))) (h2 : ds[i2]? = some (some (.dat (dI b)))) (h3 : ds[i3]? = some (some (.dat (dI e)))) (h4 : ds[i4]? = some (some (.dat p))) : LamSp CB ok wd Gx M (fun E H' Q' => tbChk CB i1 i2 i3 i4 E σ H' Q') := fun f L G H E Q eG w hok hno => by
  have go : ∀ {i : Nat} {d : PyData}, ds[i]? = some (some (.dat d)) → ∃ v, σ[i]? = some (some v) ∧ Dv G v d := fun h => by
    obtain ⟨v, h1, h2⟩ := sl.at_ _ _ h
    exact ⟨v, h1, Dv.mono eG _ _ h2⟩
  obtain ⟨v1, s1, d1⟩ := go h1
  obtain ⟨v2, s2, d2⟩ := go h2
  obtain ⟨v3, s3, d3⟩ := go h3
  obtain ⟨v4, s4, d4⟩ := go h4
  exact ⟨v1, s1, v2, s2, v3, s3, v4, s4, M, f, L, G, [dN n, dI b, dI e, p], ok, wd, w, .cons d1 (.cons d2 (.cons d3 (.cons d4 .nil))), ⟨n, b, e, p, hn, hb, he, hp, rfl, hc⟩, hok, hno⟩
theorem ev_isCall {CB : Addr} {M : MS} {L : Own} {ds : DS} {q : Str} {te2 : TE} {tb : XK → TE} {ok : Bool} {wd : Str} {dd : PyData} (he2 : EvD M L te2 ds dd) (hsp : ∀ Gx σ, Sl Gx σ ds → LamSp CB ok wd Gx M (fun E H' Q' => tb E σ H' Q')) (hwd : PyData.strOk wd = true)
    (hs1 : Sw 5000000 (.list [toldD ok wd, toldD ok wd])) (hs2 : Sw 5000000 (.list [dd, dd])) : EvD M L (tIs CB M.T q tb te2) ds (isD ok wd dd) := fun f L' s σ G H w sl Q qq => by
  refine ⟨w.st.2, fun c' H1 eN T1 hc => ?_⟩
  obtain ⟨G1, e1, w1, hc1⟩ := w.lam eN T1 hc
  exact he2 f L' s σ G1 H1 w1 (sl.mono e1) _ fun v G2 H2 e2 w2 d2 => ⟨M, L', f, G2, ok, wd, G2, dd, hsp G2 σ ((sl.mono e1).mono e2), hwd, Evl.Ex.refl G2, e2 _ _ hc1, w2, d2, hs1, hs2, fun v G3 H3 e3 w3 d3 => qq v G3 H3 ((e1.trans e2).trans e3) w3 d3⟩
theorem pe_chkBody {X : Cx} {CB f c' : Addr} {A : Around} {outer : List Env} {s : Shared} {H : Hp} {E : XK} {scope : Scope} {p p1 p2 p3 p4 pos : Pos} {i1 i2 i3 i4 k : Nat} {e1 e2 e3 e4 : Expr} (D : DefX X.prog X.w X.K X.mg X.base "check_apart" 5 ps_check_apart (spX CB pre_check_apart)) (hg : A.guards = some []) (hr : Room k (A.deeper (lamEnv X scope s.heap.objs.size f c'))) (hk : 5 ≤ k)
    (hgl : Gl (lamCx X A outer s H E scope f c') "check_apart") (h1 : PE (lamCx X A outer s H E scope f c') e1 (tVar i1)) (h2 : PE (lamCx X A outer s H E scope f c') e2 (tVar i2)) (h3 : PE (lamCx X A outer s H E scope f c') e3 (tVar i3)) (h4 : PE (lamCx X A outer s H E scope f c') e4 (tVar i4))
    (ha1 : starEach [e1, e2, e3, e4] (lamCx X A outer s H E scope f c').env = (false, eval e1 (lamCx X A outer s H E scope f c').env) :: starEach [e2, e3, e4] (lamCx X A outer s H E scope f c').env := by rfl)
    (hpl : (backTo pos (starEach [e2, e3, e4] (lamCx X A outer s H E scope f c').env)).any (·.1) = false := by rfl) (hpa : PA (lamCx X A outer s H E scope f c') [e1, e2, e3, e4] (tCons (tVar i1) (tCons (tVar i2) (tCons (tVar i3) (tCons (tVar i4) tNil))))) : PE (lamCx X A outer s H E scope f c') (.Call (.Name "check_apart" p) [e1, e2, e3, e4] [] pos) (tbChk CB i1 i2 i3 i4 E) :=
  pe_callX (X := lamCx X A outer s H E scope f c') D hg (hr.mono hk) hgl (passes_call (takes_of rfl rfl rfl rfl) fun _ _ _ _ h => h) hpa (by decide) ha1 hpl
end Kd
namespace Kd
open PySem L2
open PyProof.Rows (envOfC)
theorem getRng {k i : Nat} {x : PyData} (h : (rngD 0 ((k : Nat) : Int))[i]? = some x) : i < k ∧ x = dI i := getRange (by rw [← rng0]; exact h)
theorem len_rng (k : Nat) : (rngD 0 ((k : Nat) : Int)).length = k := by rw [rng0, List.length_map, List.length_range]
def mixedD (c n : Int) : Int := ((((c * (1 + 2 * n) * 48271) % 2147483647 + 7919 * n * n + 104729 * n) * 69621) % 2147483629) / 7
theorem mixed_nn (c n : Int) : 0 ≤ mixedD c n := by
  unfold mixedD
  exact Int.ediv_nonneg (Int.emod_nonneg _ (by decide)) (by decide)
section
variable {P : Program} {w : World} {K : PySem.W.Frag} {mg : Str → Option Value} {base : Heap} {f : Addr} {fd : FuncData} {CB fI : Addr}
def pre_mixedL : List PyData → PyData → Prop := fun ds r => ∃ c n : Int, 0 ≤ n ∧ n ≤ 2000000 ∧ ds = [.int c, .int n] ∧ r = .int (mixedD c n)
abbrev s_mixedL : Stmt := top 42
abbrev N_mixedL : List Str := ["_law_cell", "_law_n", "_law_blend"]
abbrev ps_mixedL : List Str := ["_law_cell", "_law_n"]
theorem sc_mixedL : FnScope N_mixedL ps_mixedL (defScope s_mixedL) := ⟨rfl, rfl, rfl, by decide +kernel, rfl, by decide +kernel, by decide +kernel⟩

theorem ok_mixedL (F : FunAt K mg "_law_mixed" s_mixedL ps_mixedL f fd) (B : Bt mg) : DefOk P w K mg base "_law_mixed" 1 ps_mixedL (spD pre_mixedL) := by
  refine DefOk.pure F sc_mixedL (fun ds r ⟨c, n, _, _, h, _⟩ => by rw [h]; rfl) fun cdv A outer s H E hg hr => ?_
  have nd := sc_mixedL.nd
  refine ⟨_, (pss_cons (ps_set (i := 2) nd rfl (Or.inl rfl) (pe_op (kAdd K) (pe_op (kAdd K) (pe_op op_mod (pe_callTy call_int1 (by rfl) B.int (by decide +kernel) (pa_cons (pe_op (kMul K) (pe_op (kMul K) (pv 0) (pe_op (kAdd K) pe_int (pe_op (kMul K) pe_int (pv 1)))) pe_int) pa_nil)) pe_int) (pe_op (kMul K) (pe_op (kMul K) pe_int (pv 1)) (pv 1))) (pe_op (kMul K) pe_int (pv 1))))
    (pss_one (ps_ret (pe_op op_fdiv (pe_op op_mod (pe_callTy call_int1 (by rfl) B.int (by decide +kernel) (pa_cons (pe_op (kMul K) (pv 2) pe_int) pa_nil)) pe_int) pe_int)))), ?_⟩
  rintro M fu L G0 D ds r ⟨c, n, h0, h1, rfl, rfl⟩ hR _
  have cm : ∀ {i j : Int}, (-(2 ^ 64) < j ∧ j < 2 ^ 64) → CMul i j := fun h => .inr h
  have cl : ∀ {i j : Int}, (-(2 ^ 64) < i ∧ i < 2 ^ 64) → CMul i j := fun h => .inl h
  refine q_asg (d := .int ((c * (1 + 2 * n) * 48271) % 2147483647 + 7919 * n * n + 104729 * n)) ?_ (go_ret (ev_fdiv (ev_mod (ev_int1 (ev_mulI (ev_var rfl).r ev_int.r (cm (by decide))).r).r ev_int.r (by decide)).r ev_int.r (by decide)) hR rfl)
  exact ev_addI (ev_addI (ev_mod (ev_int1 (ev_mulI (ev_mulI (ev_var rfl).r (ev_addI ev_int.r (ev_mulI ev_int.r (ev_var rfl).r (cl (by decide))).r).r (cm (by omega))).r ev_int.r (cm (by decide))).r).r ev_int.r (by decide)).r (ev_mulI (ev_mulI ev_int.r (ev_var rfl).r (cl (by decide))).r (ev_var rfl).r (cm (by omega))).r).r (ev_mulI ev_int.r (ev_var rfl).r (cl (by decide))).r

def pre_powerL : List PyData → PyData → Prop := fun ds r => ∃ k : Nat, k ≤ 10 ∧ ds = [dI k] ∧ r = dI (2 ^ k)
abbrev s_powerL : Stmt := top 52
abbrev N_powerL : List Str := ["_law_many", "_law_found", "_law_k"]
abbrev ps_powerL : List Str := ["_law_many"]
theorem sc_powerL : FnScope N_powerL ps_powerL (defScope s_powerL) := ⟨rfl, rfl, rfl, by decide +kernel, rfl, by decide +kernel, by decide +kernel⟩

theorem ok_powerL (F : FunAt K mg "_law_power" s_powerL ps_powerL f fd) (B : Bt mg) : DefOk P w K mg base "_law_power" 1 ps_powerL (spD pre_powerL) := by
  refine DefOk.pure F sc_powerL (fun ds r ⟨k, _, h, _⟩ => by rw [h]; rfl) fun cdv A outer s H E hg hr => ?_
  have nd := sc_powerL.nd
  refine ⟨_, (pss_cons (ps_set (i := 1) nd rfl (Or.inl rfl) pe_int)
    (pss_cons (ps_for PassesOwn.never rfl (pi_range1 (by rfl) B.range (pa_cons (pv 0) pa_nil)) (pg_name (i := 2) nd rfl (Or.inl rfl)) (pss_one (ps_set (i := 1) nd rfl (Or.inl rfl) (pe_op (kMul K) (pv 1) pe_int))))
    (pss_one (ps_ret (pv 1))))), ?_⟩
  rintro M fu L G0 D ds r ⟨k, hk, rfl, rfl⟩ hR _
  refine q_asg (d := dI 1) ev_int (q_for (js := [2]) (F := Fn 2) (ei_rng1 (n := (k : Nat)) (ea_one (ev_var rfl)) (by omega)) (fun x hx => tg_name)
    (fun i f L' ds => f = fu ∧ L' = L ∧ i ≤ k ∧ ∃ a, ds = [some (.dat (dI k)), some (.dat (dI (2 ^ i))), a]) ⟨rfl, rfl, Nat.zero_le _, none, rfl⟩ ?_ ?_)
  · rintro G1 e1 i x f1 L1 ds1 hx ⟨rfl, rfl, hi, a, rfl⟩
    obtain ⟨hi, rfl⟩ := getRng hx
    refine go_asg (d := dI (2 ^ (i + 1))) (ev_is (ev_mulI (i := ((2 ^ i : Nat) : Int)) (j := 2) (ev_var rfl).r ev_int.r (.inr (by decide))) (dI_eq ?_)) (nx_iv ⟨rfl, rfl, hi, _, rfl⟩)
    rw [Nat.pow_succ]; omega
  · rintro f1 L1 ds1 ⟨rfl, rfl, _, a, rfl⟩
    rw [len_rng]
    exact go_ret (ev_var rfl) hR rfl

def pre_is_intL : List PyData → PyData → Prop := fun ds r => ∃ x lo hi, ds = [x, .int lo, .int hi] ∧ r = .bool (isWholeD x lo hi)
abbrev s_is_intL : Stmt := top 48
abbrev N_is_intL : List Str := ["_law_thing", "_law_low", "_law_high"]
abbrev ps_is_intL : List Str := ["_law_thing", "_law_low", "_law_high"]
theorem sc_is_intL : FnScope N_is_intL ps_is_intL (defScope s_is_intL) := ⟨rfl, rfl, rfl, by decide +kernel, rfl, by decide +kernel, by decide +kernel⟩

theorem ok_is_intL (F : FunAt K mg "_law_is_int" s_is_intL ps_is_intL f fd) (B : Bt mg) : DefOk P w K mg base "_law_is_int" 1 ps_is_intL (spD pre_is_intL) := by
  refine DefOk.pure F sc_is_intL (fun ds r ⟨x, lo, hi, h, _⟩ => by rw [h]; rfl) fun cdv A outer s H E hg hr => ?_
  have nd := sc_is_intL.nd
  refine ⟨_, (pss_one (ps_ret (pe_and (pe_callB (kIsi K) (by rfl) B.isinstance (by decide +kernel) (pa_cons (pv 0) (pa_cons (pe_bltn (v := .ty "int") (by rfl) B.int (by decide +kernel) rfl) pa_nil))) (pe_and (pe_not (pe_callB (kIsi K) (by rfl) B.isinstance (by decide +kernel) (pa_cons (pv 0) (pa_cons (pe_bltn (v := .ty "bool") (by rfl) B.bool (by decide +kernel) rfl) pa_nil)))) (pe_one (pe_chain op_le op_le (pv 1) (pv 0) (pv 2))))))), ?_⟩
  rintro M fu L G0 D ds r ⟨x, lo, hi, rfl, rfl⟩ hR _
  refine go_ret ?_ hR rfl
  cases x with
  | int i =>
    refine (ev_and (ev_cbv (ev_var rfl).r cv_int) fun _ => ev_and (ev_not (ev_cbv (ev_var rfl).r cv_bool)) fun _ => ev_chain (ev_var rfl).r (ev_var rfl).r ro_I0b fun _ => ⟨(ev_var rfl).r, ro_I0b⟩).is ?_
    simp [isWholeD, isInt, isBool]
  | bool b =>
    refine (ev_and (ev_cbv (ev_var rfl).r cv_int) fun _ => ev_and (b := false) (ev_not (ev_cbv (ev_var rfl).r cv_bool)) fun h => absurd h (by simp [isBool])).is ?_
    simp [isWholeD, isInt, isBool]
  | _ =>
    refine (ev_and (b := false) (ev_cbv (ev_var rfl).r cv_int) fun h => absurd h (by simp [isInt])).is ?_
    simp [isWholeD, isInt]

/-- the plain net -/
def plainSw (b row sw : Nat) : List Nat := [2 * (sw / 2 ^ (b - 1 - row)) * 2 ^ (b - 1 - row) + sw % 2 ^ (b - 1 - row), (2 * (sw / 2 ^ (b - 1 - row)) + 1) * 2 ^ (b - 1 - row) + sw % 2 ^ (b - 1 - row)]
def plainRow (b row : Nat) : List Nat := (List.range (2 ^ (b - 1))).flatMap (plainSw b row)
def plainN (b : Nat) : Net := ⟨b, (List.range (b - 1)).map (plainRow b)⟩
def pre_plainL : List PyData → PyData → Prop := fun ds r => ∃ b : Nat, 1 ≤ b ∧ b ≤ 4 ∧ ds = [dI b] ∧ r = dN (plainN b)
abbrev s_plainL : Stmt := top 53
abbrev N_plainL : List Str := ["_law_bits_so", "_law_found", "_law_row", "_law_below", "_law_order_so", "_law_switch", "_law_front", "_law_back_here"]
abbrev ps_plainL : List Str := ["_law_bits_so"]
theorem sc_plainL : FnScope N_plainL ps_plainL (defScope s_plainL) := ⟨rfl, rfl, rfl, by decide +kernel, rfl, by decide +kernel, by decide +kernel⟩

theorem plainSw_len (b row i : Nat) : ((List.range i).flatMap (plainSw b row)).length = 2 * i := by
  induction i with
  | zero => rfl
  | succ i ih => rw [List.range_succ, List.flatMap_append, List.length_append, ih]; show 2 * i + 2 = _; omega
theorem ok_plainL (F : FunAt K mg "_law_plain" s_plainL ps_plainL f fd) (B : Bt mg) (D_powerL : DefOk P w K mg base "_law_power" 1 ps_powerL (spD pre_powerL)) : DefOk P w K mg base "_law_plain" 2 ps_plainL (spD pre_plainL) := by
  refine DefOk.pure F sc_plainL (fun ds r ⟨b, _, _, h, _⟩ => by rw [h]; rfl) fun cdv A outer s H E hg hr => ?_
  have nd := sc_plainL.nd
  refine ⟨_, (pss_cons (ps_set (i := 1) nd rfl (Or.inl rfl) (pe_lst pa_nil))
    (pss_cons (ps_for PassesOwn.never rfl (pi_range1 (by rfl) B.range (pa_cons (pe_op op_sub (pv 0) pe_int) pa_nil)) (pg_name (i := 2) nd rfl (Or.inl rfl)) (pss_cons (ps_par (i := 3) (j := 4) rfl nd rfl rfl (by decide) rfl rfl (pa_cons (pe_callD D_powerL hg (hr.mono (by decide)) (by rfl) (pa_cons (pe_op op_sub (pe_op op_sub (pv 0) pe_int) (pv 2)) pa_nil)) (pa_cons (pe_lst pa_nil) pa_nil)) (by rfl))
    (pss_cons (ps_for PassesOwn.never rfl (pi_range1 (by rfl) B.range (pa_cons (pe_callD D_powerL hg (hr.mono (by decide)) (by rfl) (pa_cons (pe_op op_sub (pv 0) pe_int) pa_nil)) pa_nil)) (pg_name (i := 5) nd rfl (Or.inl rfl)) (pss_cons (ps_par (i := 6) (j := 7) rfl nd rfl rfl (by decide) rfl rfl (pa_cons (pe_op op_fdiv (pv 5) (pv 3)) (pa_cons (pe_op op_mod (pe_callTy call_int1 (by rfl) B.int (by decide +kernel) (pa_cons (pv 5) pa_nil)) (pv 3)) pa_nil)) (by rfl))
    (pss_one (ps_set (i := 4) nd rfl (Or.inl rfl) (pe_op (kAdd K) (pv 4) (pe_lst (pa_cons (pe_op (kAdd K) (pe_op (kMul K) (pe_op (kMul K) pe_int (pv 6)) (pv 3)) (pv 7)) (pa_cons (pe_op (kAdd K) (pe_op (kMul K) (pe_op (kAdd K) (pe_op (kMul K) pe_int (pv 6)) pe_int) (pv 3)) (pv 7)) pa_nil))))))))
    (pss_one (ps_expr (pe_bm PySem.F.plainAttrs_list PySem.F.slot_list_append PySem.F.type_list_append mt_append (pv 1) (pa_cons (pe_callTy (kTuple K) (by rfl) B.tuple (by decide +kernel) (pa_cons (pv 4) pa_nil)) pa_nil)))))))
    (pss_one (ps_ret (pe_tupX (pa_cons (pv 0) (pa_cons (pe_callTy (kTuple K) (by rfl) B.tuple (by decide +kernel) (pa_cons (pv 1) pa_nil)) pa_nil))))))), ?_⟩
  rintro M fu L G0 D ds r ⟨b, hb1, hb4, rfl, rfl⟩ hR _
  have sub1 : ∀ {ds : DS} {L : Own}, ds[0]? = some (some (.dat (dI b))) → EvD M L (tOp (rI0 fun i j => .int (i - j)) (tVar 0) (tC (.int 1))) ds (dI (b - 1)) := fun h => ev_is (ev_sub (i := (b : Int)) (ev_var h).r ev_int.r) (dI_eq (by omega))
  refine q_asgF (es := []) (ef_lst ea_nil) fun p => ?_
  refine q_for (js := [2]) (F := Fn 2) (ei_rng1 (n := ((b - 1 : Nat) : Int)) (ea_one (sub1 rfl)) (by omega)) (fun x hx => tg_name)
    (fun i f L' ds => f = fu ∧ L' = (p, ((List.range i).map (plainRow b)).map dT) :: L ∧ i ≤ b - 1 ∧ ∃ a2 a3 a4 a5 a6 a7, ds = [some (.dat (dI b)), some (.raw (.ref p)), a2, a3, a4, a5, a6, a7]) ⟨rfl, rfl, Nat.zero_le _, none, none, none, none, none, none, rfl⟩ ?_ ?_
  · rintro G1 e1 row x f1 L1 ds1 hx ⟨rfl, rfl, hi, a2, a3, a4, a5, a6, a7, rfl⟩
    obtain ⟨hrow, rfl⟩ := getRng hx
    have hp8 : 2 ^ (b - 1) ≤ 8 := Nat.le_trans (Nat.pow_le_pow_right (by decide) (show b - 1 ≤ 3 by omega)) (by decide)
    have hq8 : 2 ^ (b - 1 - row) ≤ 8 := Nat.le_trans (Nat.pow_le_pow_right (by decide) (show b - 1 - row ≤ 3 by omega)) (by decide)
    have hq0 : 0 < 2 ^ (b - 1 - row) := Nat.pow_pos (by decide)
    refine q_par (x := dI (2 ^ (b - 1 - row))) (y := .list []) (ea_two (ev_call (ea_one (ev_is (ev_sub (i := ((b - 1 : Nat) : Int)) (j := (row : Int)) (sub1 rfl).r (ev_var rfl).r) (dI_eq (by omega)))) ⟨b - 1 - row, by omega, rfl, rfl⟩) (ev_lst ea_nil)) ?_
    refine q_for (js := [5]) (F := Fn 5) (ei_rng1 (n := ((2 ^ (b - 1) : Nat) : Int)) (ea_one (ev_call (ea_one (sub1 rfl)) ⟨b - 1, by omega, rfl, rfl⟩)) ⟨Int.le_trans (by decide) (Int.natCast_nonneg _), Int.le_trans (Int.ofNat_le.mpr hp8) (by decide)⟩) (fun x hx => tg_name)
      (fun i f L' ds => f = f1 ∧ L' = (p, ((List.range row).map (plainRow b)).map dT) :: L ∧ i ≤ 2 ^ (b - 1) ∧ ∃ a5 a6 a7, ds = [some (.dat (dI b)), some (.raw (.ref p)), some (.dat (dI row)), some (.dat (dI (2 ^ (b - 1 - row)))), some (.dat (.list (((List.range i).flatMap (plainSw b row)).map dI))), a5, a6, a7]) ⟨rfl, rfl, Nat.zero_le _, a5, a6, a7, rfl⟩ ?_ ?_
    · rintro G2 e2 sw x f2 L2 ds2 hx ⟨rfl, rfl, hi2, b5, b6, b7, rfl⟩
      obtain ⟨hsw, rfl⟩ := getRng hx
      refine q_par (x := dI (sw / 2 ^ (b - 1 - row))) (y := dI (sw % 2 ^ (b - 1 - row))) (ea_two (ev_is (ev_fdiv (i := (sw : Int)) (j := ((2 ^ (b - 1 - row) : Nat) : Int)) (ev_var rfl).r (ev_var rfl).r ⟨by omega, by omega⟩) (dI_eq (by rw [Int.natCast_ediv]))) (ev_is (ev_mod (i := (sw : Int)) (j := ((2 ^ (b - 1 - row) : Nat) : Int)) (ev_int1 (ev_var rfl).r).r (ev_var rfl).r (by omega)) (dI_eq (by rw [Int.natCast_emod])))) ?_
      refine go_asg (d := .list (((List.range (sw + 1)).flatMap (plainSw b row)).map dI)) (ev_is (ev_addL (es := ((List.range sw).flatMap (plainSw b row)).map dI) (gs := (plainSw b row sw).map dI) (ev_var rfl).r (ev_is (ev_lst (ea_two (ev_addI (ev_mulI (ev_mulI (i := 2) (j := ((sw / 2 ^ (b - 1 - row) : Nat) : Int)) ev_int.r (ev_var rfl).r (.inl (by decide))).r (ev_var (d := dI (2 ^ (b - 1 - row))) rfl).r (.inr (by omega))).r (ev_var (d := dI (sw % 2 ^ (b - 1 - row))) rfl).r) (ev_addI (ev_mulI (ev_addI (ev_mulI (i := 2) (j := ((sw / 2 ^ (b - 1 - row) : Nat) : Int)) ev_int.r (ev_var rfl).r (.inl (by decide))).r ev_int.r).r (ev_var (d := dI (2 ^ (b - 1 - row))) rfl).r (.inr (by omega))).r (ev_var (d := dI (sw % 2 ^ (b - 1 - row))) rfl).r))) ?_).r ?_) ?_) (nx_iv ⟨rfl, rfl, hsw, _, _, _, rfl⟩)
      · unfold plainSw
        simp only [List.map_cons, List.map_nil]
        congr 1
      · rw [List.length_map, List.length_map, plainSw_len]
        show _ + 2 ≤ _
        omega
      · rw [List.range_succ, List.flatMap_append, List.map_append]
        simp
    · rintro f2 L2 ds2 ⟨rfl, rfl, _, b5, b6, b7, rfl⟩
      rw [len_rng]
      refine go_app (d := dT (plainRow b row)) rfl (ev_is (ev_tupleL (ev_var rfl).r) rfl) (by rw [List.length_map, List.length_map, List.length_range]; omega) (nx_iv ⟨rfl, ?_, hrow, _, _, _, _, _, _, rfl⟩)
      rw [List.range_succ, List.map_append, List.map_append]
      rfl
  · rintro f1 L1 ds1 ⟨rfl, rfl, _, a2, a3, a4, a5, a6, a7, rfl⟩
    rw [len_rng]
    exact go_ret (ev_tup (ea_two (ev_var rfl) (ev_tupleL (er_own rfl List.mem_cons_self)))) hR.drop rfl
end
end Kd
namespace Kd
open PySem L2
open PyProof.Rows (envOfC)
theorem apartW_iff {v u : Way} {m : Nat} (hv : v.length = m + 1) (hu : u.length = m + 1) : apartW v u = ((List.range m).filter fun k => decide (v.getD k 0 = u.getD k 0)).isEmpty := by
  rw [Bool.eq_iff_iff, List.isEmpty_iff, List.filter_eq_nil_iff]
  unfold apartW
  rw [List.all_eq_true]
  have hz : ∀ k (hk : k < m), (v.dropLast.zip u.dropLast)[k]? = some (v.getD k 0, u.getD k 0) := fun k hk => by
    rw [List.zip_eq_zipWith, List.getElem?_zipWith]
    have e1 : v.dropLast[k]? = some (v.getD k 0) := by
      rw [List.dropLast_eq_take, List.getElem?_take_of_lt (by omega), List.getD_eq_getElem?_getD, List.getElem?_eq_getElem (by omega)]; rfl
    have e2 : u.dropLast[k]? = some (u.getD k 0) := by
      rw [List.dropLast_eq_take, List.getElem?_take_of_lt (by omega), List.getD_eq_getElem?_getD, List.getElem?_eq_getElem (by omega)]; rfl
    rw [e1, e2]
  constructor
  · intro h k hk
    have := h _ (List.mem_of_getElem? (hz k (List.mem_range.mp hk)))
    simpa using this
  · intro h q hq
    obtain ⟨k, hk⟩ := List.mem_iff_getElem?.mp hq
    have hkm : k < m := by
      have := (List.getElem?_eq_some_iff.mp hk).1
      rw [List.length_zip, List.length_dropLast, List.length_dropLast, hv, hu] at this
      omega
    rw [hz k hkm] at hk
    cases hk
    have := h k (List.mem_range.mpr hkm)
    simpa using this
theorem twins_iff (ws : List Way) : (twinsW ws).isSome = !(ws.filter fun w => !(ws.filter (apartW w)).isEmpty).isEmpty := by
  rw [Bool.eq_iff_iff]
  unfold twinsW
  rw [List.findSome?_isSome_iff, Bool.not_eq_true', Bool.eq_false_iff, Ne, List.isEmpty_iff, List.filter_eq_nil_iff]
  constructor
  · rintro ⟨w, hw, h⟩ hn
    have := hn w hw
    rw [Option.isSome_map, List.find?_isSome] at h
    obtain ⟨v, hv, h2⟩ := h
    refine this ?_
    rw [Bool.not_eq_true', Bool.eq_false_iff, Ne, List.isEmpty_iff, List.filter_eq_nil_iff]
    exact fun h3 => h3 v hv h2
  · intro hn
    by_cases hx : ∃ w ∈ ws, (!(ws.filter (apartW w)).isEmpty) = true
    · obtain ⟨w, hw, h⟩ := hx
      refine ⟨w, hw, ?_⟩
      rw [Option.isSome_map, List.find?_isSome]
      rw [Bool.not_eq_true', Bool.eq_false_iff, Ne, List.isEmpty_iff, List.filter_eq_nil_iff] at h
      by_cases hy : ∃ v ∈ ws, apartW w v = true
      · obtain ⟨v, h1, h2⟩ := hy; exact ⟨v, h1, h2⟩
      · exact absurd (fun v hv h3 => hy ⟨v, hv, h3⟩) h
    · exact absurd (fun w hw h => hx ⟨w, hw, h⟩) hn
theorem enumN_range (v : List Nat) : ∀ (m k : Nat), m = v.length → enumN k v = (List.range m).map fun r => (k + r, v.getD r 0) := by
  intro m k h
  apply List.ext_getElem?
  intro i
  rw [enumN_get, List.getElem?_map]
  by_cases hi : i < m
  · rw [List.getElem?_range hi, List.getElem?_eq_getElem (by omega)]
    simp [List.getD_eq_getElem?_getD, List.getElem?_eq_getElem (show i < v.length by omega)]
  · rw [List.getElem?_eq_none_iff.mpr (by omega), List.getElem?_eq_none_iff.mpr (by simpa using hi)]
    rfl
section
variable {P : Program} {w : World} {K : PySem.W.Frag} {mg : Str → Option Value} {base : Heap} {f : Addr} {fd : FuncData} {CB fI : Addr}
def pre_all_waysL : List PyData → PyData → Prop := fun ds r => ∃ n b, NetOk n ∧ b < n.k ∧ ds = [dN n, dI b] ∧ r = .list ((allW n b).map dT)
abbrev s_all_waysL : Stmt := top 64
abbrev N_all_waysL : List Str := ["_law_net_here", "_law_spot", "_law_first", "_law_rows_here", "_law_order_so", "_law_longer", "_law_way", "_law_far"]
abbrev ps_all_waysL : List Str := ["_law_net_here", "_law_spot"]
theorem sc_all_waysL : FnScope N_all_waysL ps_all_waysL (defScope s_all_waysL) := ⟨rfl, rfl, rfl, by decide +kernel, rfl, by decide +kernel, by decide +kernel⟩

theorem snoc2 (o : List Nat) (rows : List Way) (w : Way) : stepW o (rows ++ [w]) = stepW o rows ++ ((nextW o (w.getLastD 0)).map fun x => w ++ [x]) := by
  unfold stepW
  rw [List.flatMap_append, List.flatMap_cons, List.flatMap_nil, List.append_nil]
theorem ok_all_waysL (F : FunAt K mg "_law_all_ways" s_all_waysL ps_all_waysL f fd) (B : Bt mg) : DefOk P w K mg base "_law_all_ways" 1 ps_all_waysL (spD pre_all_waysL) := by
  refine DefOk.pure F sc_all_waysL (fun ds r ⟨n, b, _, _, h, _⟩ => by rw [h]; rfl) fun cdv A outer s H E hg hr => ?_
  have nd := sc_all_waysL.nd
  refine ⟨_, (pss_cons (ps_set (i := 2) nd rfl (Or.inl rfl) (pe_op op_sub (pv 1) (pe_op op_mod (pe_callTy call_int1 (by rfl) B.int (by decide +kernel) (pa_cons (pv 1) pa_nil)) pe_int)))
    (pss_cons (ps_set (i := 3) nd rfl (Or.inl rfl) (pe_lst (pa_cons (pe_tupX (pa_cons (pv 2) pa_nil)) (pa_cons (pe_tupX (pa_cons (pe_op (kAdd K) (pv 2) pe_int) pa_nil)) pa_nil))))
    (pss_cons (ps_for PassesOwn.never rfl (kSeq K (pe_ix (kIx K) (pv 0) pe_int (fun _ _ => rfl))) (pg_name (i := 4) nd rfl (Or.inl rfl)) (pss_cons (ps_set (i := 5) nd rfl (Or.inl rfl) (pe_lst pa_nil))
    (pss_cons (ps_for PassesOwn.never rfl (kSeq K (pv 3)) (pg_name (i := 6) nd rfl (Or.inl rfl)) (pss_cons (ps_set (i := 7) nd rfl (Or.inl rfl) (pe_ix (kIx K) (pv 4) (pe_ix (kIx K) (pv 6) (pe_un un_neg pe_int) (fun _ _ => rfl)) (fun _ _ => rfl)))
    (pss_one (ps_set (i := 5) nd rfl (Or.inl rfl) (pe_op (kAdd K) (pv 5) (pe_lst (pa_cons (pe_op (kAdd K) (pv 6) (pe_tupX (pa_cons (pe_op op_sub (pv 7) (pe_op op_mod (pe_callTy call_int1 (by rfl) B.int (by decide +kernel) (pa_cons (pv 7) pa_nil)) pe_int)) pa_nil))) (pa_cons (pe_op (kAdd K) (pv 6) (pe_tupX (pa_cons (pe_op (kAdd K) (pe_op op_sub (pv 7) (pe_op op_mod (pe_callTy call_int1 (by rfl) B.int (by decide +kernel) (pa_cons (pv 7) pa_nil)) pe_int)) pe_int) pa_nil))) pa_nil))))))))
    (pss_one (ps_set (i := 3) nd rfl (Or.inl rfl) (pv 5))))))
    (pss_one (ps_ret (pv 3)))))), ?_⟩
  rintro M fu L G0 D ds r ⟨n, b, hn, hb, rfl, rfl⟩ hR _
  obtain ⟨j, hk, hj1, hj8⟩ := hn.k2
  have hlen := hn.len
  refine q_asg (d := dI (ev2 b)) ((ev_sub (ev_var rfl).r (ev_mod (ev_int1 (ev_var rfl).r).r ev_int.r (by decide)).r).is (by rw [ev2_int]; rfl)) ?_
  refine q_asg (d := .list ((begW b).map dT)) ((ev_lst (ea_two (ev_tup (ea_one (ev_var rfl))) (ev_tup (ea_one (ev_addI (ev_var rfl).r ev_int.r))))).is rfl) ?_
  refine q_for (js := [4]) (F := Fn 4) (items := n.os.map dT) (ei_seqT (ev_ixT (es := [dI n.b, .tuple (n.os.map dT)]) (ev_var rfl).r ev_int.r rfl)) (fun x hx => tg_name)
    (fun i f L' ds => f = fu ∧ L' = L ∧ ∃ a4 a5 a6 a7, ds = [some (.dat (dN n)), some (.dat (dI b)), some (.dat (dI (ev2 b))), some (.dat (.list ((allFrom (n.os.take i) (begW b)).map dT))), a4, a5, a6, a7]) ⟨rfl, rfl, none, none, none, none, rfl⟩ ?_ ?_
  · rintro G1 e1 i x f1 L1 ds1 hx ⟨rfl, rfl, a4, a5, a6, a7, rfl⟩
    rw [List.getElem?_map] at hx
    cases ho : n.os[i]? with
    | none => rw [ho] at hx; cases hx
    | some o =>
      rw [ho] at hx
      cases hx
      have hO := hn.os _ (List.mem_of_getElem? ho)
      have hok := from_ok hk (os := n.os.take i) (m := 1) (rows := begW b) (Nat.succ_pos 0) (fun o h => hn.os o (List.mem_of_mem_take h)) (beg_ok hk hb)
      have hal := wok_all hok (by omega)
      have hil : i < n.os.length := (List.getElem?_eq_some_iff.mp ho).1
      have hrl : (allFrom (n.os.take i) (begW b)).length ≤ 64 := by
        rw [from_len, List.length_take]
        have : 2 ^ min i n.os.length ≤ 2 ^ 5 := Nat.pow_le_pow_right (by decide) (by omega)
        show 2 * _ ≤ _
        omega
      have st : allFrom (n.os.take (i + 1)) (begW b) = stepW o (allFrom (n.os.take i) (begW b)) := by
        unfold allFrom
        rw [take_snoc ho, List.foldl_append]
        rfl
      refine q_asg (d := .list []) (ev_lst ea_nil) ?_
      refine q_for (js := [6]) (F := Fn 6) (items := (allFrom (n.os.take i) (begW b)).map dT) (ei_seqL (ev_var rfl)) (fun x hx => tg_name)
        (fun i' f L' ds => f = f1 ∧ L' = L1 ∧ ∃ a6 a7, ds = [some (.dat (dN n)), some (.dat (dI b)), some (.dat (dI (ev2 b))), some (.dat (.list ((allFrom (n.os.take i) (begW b)).map dT))), some (.dat (dT o)), some (.dat (.list ((stepW o ((allFrom (n.os.take i) (begW b)).take i')).map dT))), a6, a7]) ⟨rfl, rfl, a6, a7, rfl⟩ ?_ ?_
      · rintro G2 e2 i' x f2 L2 ds2 hx ⟨rfl, rfl, b6, b7, rfl⟩
        rw [List.getElem?_map] at hx
        cases hv : (allFrom (n.os.take i) (begW b))[i']? with
        | none => rw [hv] at hx; cases hx
        | some v =>
          rw [hv] at hx
          cases hx
          obtain ⟨hv1, hv2⟩ := hal v (List.mem_of_getElem? hv)
          have hvl : v.length ≤ 100 := by rw [(hok v (List.mem_of_getElem? hv)).len, List.length_take]; omega
          obtain ⟨g1, g2⟩ := hO.get hv2
          refine q_asg (d := dI (o.getD (v.getLastD 0) 0)) (ev_ixT (es := o.map dI) (ev_var rfl).r (ev_ixT (es := v.map dI) (ev_var rfl).r (ev_neg ev_int).r (atI_last hv1)).r (atI_get (by rw [List.getElem?_map, g1]; rfl))) ?_
          have e2' : ∀ Lx : Own, EvD M Lx (tOp (rI0 fun i j => .int (i - j)) (tVar 7) (tOp (rI (fun _ j => 0 < j) fun i j => .int (i % j)) (tCB rIntG (tCons (tVar 7) tNil)) (tC (.int 2)))) (([some (.dat (dN n)), some (.dat (dI b)), some (.dat (dI (ev2 b))), some (.dat (.list ((allFrom (n.os.take i) (begW b)).map dT))), some (.dat (dT o)), some (.dat (.list ((stepW o ((allFrom (n.os.take i) (begW b)).take i')).map dT))), some (.dat (dT v)), some (.dat (dI (o.getD (v.getLastD 0) 0)))] : DS)) (dI (ev2 (o.getD (v.getLastD 0) 0))) :=
            fun Lx => ev_is (ev_sub (ev_var rfl).r (ev_mod (ev_int1 (ev_var rfl).r).r ev_int.r (by decide)).r) (by rw [ev2_int]; rfl)
          refine go_asg (d := .list ((stepW o ((allFrom (n.os.take i) (begW b)).take (i' + 1))).map dT)) (ev_is (ev_addL (ev_var rfl).r (gs := [dT (v ++ [ev2 (o.getD (v.getLastD 0) 0)]), dT (v ++ [ev2 (o.getD (v.getLastD 0) 0) + 1])]) (ev_lst (ea_two (ev_is (ev_addT (es := v.map dI) (gs := [dI (ev2 (o.getD (v.getLastD 0) 0))]) (ev_var rfl).r (ev_tup (ea_one (e2' _))).r ?_) (dT_snoc v _)) (ev_is (ev_addT (es := v.map dI) (gs := [dI (ev2 (o.getD (v.getLastD 0) 0) + 1)]) (ev_var rfl).r (ev_tup (ea_one (ev_addI (e2' _).r ev_int.r))).r ?_) (dT_snoc v _)))).r ?_) ?_) (nx_iv ⟨rfl, rfl, _, _, rfl⟩)
          · rw [List.length_map, List.length_singleton]; omega
          · rw [List.length_map, List.length_singleton]; omega
          · rw [List.length_map, step_len, List.length_take]
            show _ + 2 ≤ _
            omega
          · rw [take_snoc hv, snoc2, List.map_append]
            rfl
      · rintro f2 L2 ds2 ⟨rfl, rfl, b6, b7, rfl⟩
        rw [List.length_map, List.take_length]
        refine go_asg (d := .list ((allFrom (n.os.take (i + 1)) (begW b)).map dT)) (ev_is (ev_var rfl) (by rw [st])) (nx_iv ⟨rfl, rfl, _, _, _, _, rfl⟩)
  · rintro f1 L1 ds1 ⟨rfl, rfl, a4, a5, a6, a7, rfl⟩
    rw [List.length_map, List.take_length]
    exact go_ret (ev_var rfl) hR rfl

def pre_waysL : List PyData → PyData → Prop := fun ds r => ∃ n b e, NetOk n ∧ b < n.k ∧ ds = [dN n, dI b, dI e] ∧ r = .list ((Wn n b e).map dT)
abbrev s_waysL : Stmt := top 65
abbrev N_waysL : List Str := ["_law_net_here", "_law_spot", "_law_far", "_law_way"]
abbrev ps_waysL : List Str := ["_law_net_here", "_law_spot", "_law_far"]
theorem sc_waysL : FnScope N_waysL ps_waysL (defScope s_waysL) := ⟨rfl, rfl, rfl, by decide +kernel, rfl, by decide +kernel, by decide +kernel⟩

theorem ok_waysL (F : FunAt K mg "_law_ways" s_waysL ps_waysL f fd) (B : Bt mg) (D_all_waysL : DefOk P w K mg base "_law_all_ways" 1 ps_all_waysL (spD pre_all_waysL)) : DefOk P w K mg base "_law_ways" 2 ps_waysL (spD pre_waysL) := by
  refine DefOk.pure F sc_waysL (fun ds r ⟨n, b, e, _, _, h, _⟩ => by rw [h]; rfl) fun cdv A outer s H E hg hr => ?_
  have nd := sc_waysL.nd
  refine ⟨_, (pss_one (ps_ret (pe_callB (kSorted K hr) (by rfl) B.sorted (by decide +kernel) (pa_cons (pe_lc (own := [("_law_way", 3)]) rfl nd (kSeq K (pe_callD D_all_waysL hg (hr.mono (by decide)) (by rfl) (pa_cons (pv 0) (pa_cons (pv 1) pa_nil)))) (blkOk_by (own := [("_law_way", 3)]) (N := N_waysL) (sc := defScope s_waysL) (by decide +kernel)) (fun _ _ _ _ _ => (pg_name (i := 3) nd rfl (Or.inl rfl))) (fun _ _ _ _ _ => (pts_one (pt_cmpR (kEq K hr.units) (pe_ix (kIx K) (pv 3) (pe_un un_neg pe_int) (fun _ _ => rfl)) (pv 2) (nomark _)))) (fun _ _ _ _ _ => (pv 3))) pa_nil)))), ?_⟩
  rintro M fu L G0 D ds r ⟨n, b, e, hn, hb, rfl, rfl⟩ hR _
  have hal := all_ok hn hb
  refine go_ret (ev_sortedW hn hb (EvD.r (ev_lcM (js := [3]) (F := Fn 3) (enc := dT) (l := allW n b) (endsIn e) dT (ei_seqL (ev_call (ea_two (ev_var rfl) (ev_var rfl)) ⟨n, b, hn, hb, rfl, rfl⟩)) (by decide) (fun a _ => tg_name) (by have := all_len hn b; omega) fun v hv => ⟨?_, fun _ => ev_var rfl⟩))) hR rfl
  refine (eb_B (ev_eq (n := 1) (m := 1) (ev_ixT (es := v.map dI) (ev_var rfl).r (ev_neg ev_int).r (atI_last (hal v hv).ne)).r (ev_var rfl).r (shp_dI _) (shp_dI _))).is ?_
  rw [eqv_dI]
  rfl

def pre_leftL : List PyData → PyData → Prop := fun ds r => ∃ n S b e, NetOk n ∧ BrkOk n S ∧ b < n.k ∧ ds = [dN n, dL S, dI b, dI e] ∧ r = .list ((leftW n S b e).map dT)
abbrev s_leftL : Stmt := top 67
abbrev N_leftL : List Str := ["_law_net_here", "_law_lot", "_law_spot", "_law_far", "_law_way", "_law_one"]
abbrev ps_leftL : List Str := ["_law_net_here", "_law_lot", "_law_spot", "_law_far"]
theorem sc_leftL : FnScope N_leftL ps_leftL (defScope s_leftL) := ⟨rfl, rfl, rfl, by decide +kernel, rfl, by decide +kernel, by decide +kernel⟩

theorem ok_leftL (F : FunAt K mg "_law_left" s_leftL ps_leftL f fd) (B : Bt mg) (D_waysL : DefOk P w K mg base "_law_ways" 2 ps_waysL (spD pre_waysL)) : DefOk P w K mg base "_law_left" 3 ps_leftL (spD pre_leftL) := by
  refine DefOk.pure F sc_leftL (fun ds r ⟨n, S, b, e, _, _, _, h, _⟩ => by rw [h]; rfl) fun cdv A outer s H E hg hr => ?_
  have nd := sc_leftL.nd
  refine ⟨_, (pss_one (ps_ret (pe_lc (own := [("_law_way", 4)]) rfl nd (kSeq K (pe_callD D_waysL hg (hr.mono (by decide)) (by rfl) (pa_cons (pv 0) (pa_cons (pv 2) (pa_cons (pv 3) pa_nil))))) (blkOk_by (own := [("_law_way", 4)]) (N := N_leftL) (sc := defScope s_leftL) (by decide +kernel)) (fun _ _ _ _ _ => (pg_name (i := 4) nd rfl (Or.inl rfl))) (fun _ _ _ _ _ => (pts_one (pt_cmpR (kEq K hr.units) (pe_lc (own := [("_law_one", 5)]) rfl nd (kEnumT K (by rfl) B.enumerate (pa_cons (pv 4) pa_nil)) (blkOk_by (own := [("_law_one", 5)]) (by rfl)) (fun _ _ _ _ _ => (pg_name (i := 5) nd rfl (Or.inl rfl))) (fun _ _ _ _ _ => (pts_one (pt_cmpR (kIn K hr) (pv 5) (pv 1) (by rfl)))) (fun _ _ _ _ _ => pe_int)) (pe_lst pa_nil) (nomark _)))) (fun _ _ _ _ _ => (pv 4))))), ?_⟩
  rintro M fu L G0 D ds r ⟨n, S, b, e, hn, hS, hb, rfl, rfl⟩ hR _
  refine go_ret (ev_is (ev_lcM (js := [4]) (F := Fn 4) (enc := dT) (l := Wn n b e) (fun w => !hitW S w) dT (ei_seqL (ev_call (ea_three (ev_var rfl) (ev_var rfl) (ev_var rfl)) ⟨n, b, e, hn, hb, rfl, rfl⟩)) (by decide) (fun x hx => tg_name) (by have := W_len hn b e; omega) fun v hv => ⟨?_, fun _ => ev_var rfl⟩) rfl) hR rfl
  refine (eb_B (ev_eq (n := 1) (m := 1) (EvD.r (ev_lcM (js := [5]) (F := Fn 5) (enc := dP) (l := enumN 0 v) (fun p => decide (p ∈ S)) (fun _ => dI 1) ?_ (by decide) (fun x hx => tg_name) ?_ fun p hp => ⟨?_, fun _ => ev_int⟩)) (ev_lst ea_nil).r (Shp.list (Shp.map fun _ _ => shp_dI _)) (Shp.list fun d hd => nomatch hd))).is ?_
  · rw [← enum_way]
    exact ei_enumT (ev_var rfl)
  · rw [enumN_len, (W_ok hn hb v hv).len]
    have := hn.len
    omega
  · exact (eb_B (ev_inT (n := 1) (m := 1) (ev_var rfl).r (ev_var rfl).r (shp_dP p) (Shp.map fun q _ => shp_dP q))).is (by rw [any_dP])
  · rw [eqv_nil]
    unfold hitW
    rw [Bool.eq_iff_iff, List.isEmpty_iff, List.filter_eq_nil_iff, Bool.not_eq_true', List.any_eq_false]

def pre_apartL : List PyData → PyData → Prop := fun ds r => ∃ m v u, m ≤ 100 ∧ v.length = m + 1 ∧ u.length = m + 1 ∧ ds = [dT v, dT u] ∧ r = .bool (apartW v u)
abbrev s_apartL : Stmt := top 68
abbrev N_apartL : List Str := ["_law_one", "_law_far", "_law_k"]
abbrev ps_apartL : List Str := ["_law_one", "_law_far"]
theorem sc_apartL : FnScope N_apartL ps_apartL (defScope s_apartL) := ⟨rfl, rfl, rfl, by decide +kernel, rfl, by decide +kernel, by decide +kernel⟩

theorem ok_apartL (F : FunAt K mg "_law_apart" s_apartL ps_apartL f fd) (B : Bt mg) : DefOk P w K mg base "_law_apart" 1 ps_apartL (spD pre_apartL) := by
  refine DefOk.pure F sc_apartL (fun ds r ⟨m, v, u, _, _, _, h, _⟩ => by rw [h]; rfl) fun cdv A outer s H E hg hr => ?_
  have nd := sc_apartL.nd
  refine ⟨_, (pss_one (ps_ret (pe_cmpR (kEq K hr.units) (pe_lc (own := [("_law_k", 2)]) rfl nd (pi_range1 (by rfl) B.range (pa_cons (pe_op op_sub (pe_callB (kLen K) (by rfl) B.len (by decide +kernel) (pa_cons (pv 0) pa_nil)) pe_int) pa_nil)) (blkOk_by (own := [("_law_k", 2)]) (N := N_apartL) (sc := defScope s_apartL) (by decide +kernel)) (fun _ _ _ _ _ => (pg_name (i := 2) nd rfl (Or.inl rfl))) (fun _ _ _ _ _ => (pts_one (pt_cmpR (kEq K hr.units) (pe_ix (kIx K) (pv 0) (pv 2) (fun _ _ => rfl)) (pe_ix (kIx K) (pv 1) (pv 2) (fun _ _ => rfl)) (nomark _)))) (fun _ _ _ _ _ => pe_int)) (pe_lst pa_nil) (nomark _)))), ?_⟩
  rintro M fu L G0 D ds r ⟨m, v, u, hm, hv, hu, rfl, rfl⟩ hR _
  refine go_ret (ev_is (ev_eq (n := 1) (m := 1) (EvD.r (ev_lcM (js := [2]) (F := Fn 2) (enc := dI) (l := List.range m) (fun k => decide (v.getD k 0 = u.getD k 0)) (fun _ => dI 1) ?_ (by decide) (fun x hx => tg_name) (by rw [List.length_range]; omega) fun k hk => ⟨?_, fun _ => ev_int⟩)) (ev_lst ea_nil).r (Shp.list (Shp.map fun _ _ => shp_dI _)) (Shp.list fun d hd => nomatch hd)) ?_) hR rfl
  · rw [← rng0]
    exact ei_rng1 (ea_one (ev_is (ev_sub (ev_lenT (es := v.map dI) (ev_var rfl).r).r ev_int.r) (dI_eq (by rw [List.length_map, hv]; omega)))) (by omega)
  · have hk' := List.mem_range.mp hk
    refine (eb_B (ev_eq (n := 1) (m := 1) (ev_ixT (es := v.map dI) (ev_var rfl).r (ev_var rfl).r (atI_getD (by omega))).r (ev_ixT (es := u.map dI) (ev_var rfl).r (ev_var rfl).r (atI_getD (by omega))).r (shp_dI _) (shp_dI _))).is ?_
    rw [eqv_dI]
  · rw [eqv_nil, apartW_iff hv hu]

def pre_have_twoL : List PyData → PyData → Prop := fun ds r => ∃ m ws, WsOk m ws ∧ ds = [.list (ws.map dT)] ∧ r = .bool (twinsW ws).isSome
abbrev s_have_twoL : Stmt := top 69
abbrev N_have_twoL : List Str := ["_law_some", "_law_one", "_law_far"]
abbrev ps_have_twoL : List Str := ["_law_some"]
theorem sc_have_twoL : FnScope N_have_twoL ps_have_twoL (defScope s_have_twoL) := ⟨rfl, rfl, rfl, by decide +kernel, rfl, by decide +kernel, by decide +kernel⟩

theorem ok_have_twoL (F : FunAt K mg "_law_have_two" s_have_twoL ps_have_twoL f fd) (B : Bt mg) (D_apartL : DefOk P w K mg base "_law_apart" 1 ps_apartL (spD pre_apartL)) : DefOk P w K mg base "_law_have_two" 2 ps_have_twoL (spD pre_have_twoL) := by
  refine DefOk.pure F sc_have_twoL (fun ds r ⟨m, ws, _, h, _⟩ => by rw [h]; rfl) fun cdv A outer s H E hg hr => ?_
  have nd := sc_have_twoL.nd
  refine ⟨_, (pss_one (ps_ret (pe_cmpR (kNe K hr.units) (pe_lc (own := [("_law_one", 1)]) rfl nd (kSeq K (pv 0)) (blkOk_by (own := [("_law_one", 1)]) (N := N_have_twoL) (sc := defScope s_have_twoL) (by decide +kernel)) (fun _ _ _ _ _ => (pg_name (i := 1) nd rfl (Or.inr rfl))) (fun _ _ _ _ _ => (pts_one (pt_cmpR (kNe K hr.units) (pe_lc (own := [("_law_far", 2)]) rfl nd (kSeq K (pv 0)) (blkOk_by (own := [("_law_far", 2)]) (by rfl)) (fun _ _ _ _ _ => (pg_name (i := 2) nd rfl (Or.inl rfl))) (fun _ _ _ _ _ => (pts_one (pt_val (pe_callD D_apartL hg (hr.mono (by decide)) (by rfl) (pa_cons (pv 1) (pa_cons (pv 2) pa_nil)))))) (fun _ _ _ _ _ => (pv 2))) (pe_lst pa_nil) (nomark _)))) (fun _ _ _ _ _ => pe_int)) (pe_lst pa_nil) (nomark _)))), ?_⟩
  rintro M fu L G0 D ds r ⟨m, ws, hw, rfl, rfl⟩ hR _
  have hlen := hw.len
  refine go_ret (ev_is (ev_ne (n := 1) (m := 1) (EvD.r (ev_lcM (js := [1]) (F := Fn 1) (enc := dT) (l := ws) (fun w => !(ws.filter (apartW w)).isEmpty) (fun _ => dI 1) (ei_seqL (ev_var rfl)) (by decide) (fun x hx => tg_name) (by omega) fun v hv => ⟨?_, fun _ => ev_int⟩)) (ev_lst ea_nil).r (Shp.list (Shp.map fun _ _ => shp_dI _)) (Shp.list fun d hd => nomatch hd)) ?_) hR rfl
  · refine (eb_B (ev_ne (n := 2) (m := 2) (EvD.r (ev_lcM (js := [2]) (F := Fn 2) (enc := dT) (l := ws) (apartW v) dT (ei_seqL (ev_var rfl)) (by decide) (fun x hx => tg_name) (by omega) fun u hu => ⟨?_, fun _ => ev_var rfl⟩)) (ev_lst ea_nil).r (shp_ways _) (shp_ways []))).is ?_
    · exact eb_B (ev_call (ea_two (ev_var rfl) (ev_var rfl)) ⟨m, v, u, hw.m, hw.each v hv, hw.each u hu, rfl, rfl⟩)
    · rw [eqv_nil]
  · rw [eqv_nil, twins_iff]

def pre_sharedL : List PyData → PyData → Prop := fun ds r => ∃ m ws, WsOk m ws ∧ ds = [.list (ws.map dT)] ∧ r = .list ((commonW ws).map dP)
abbrev s_sharedL : Stmt := top 70
abbrev N_sharedL : List Str := ["_law_some", "_law_found", "_law_row", "_law_spot", "_law_one", "_law_way"]
abbrev ps_sharedL : List Str := ["_law_some"]
theorem sc_sharedL : FnScope N_sharedL ps_sharedL (defScope s_sharedL) := ⟨rfl, rfl, rfl, by decide +kernel, rfl, by decide +kernel, by decide +kernel⟩

theorem ok_sharedL (F : FunAt K mg "_law_shared" s_sharedL ps_sharedL f fd) (B : Bt mg) : DefOk P w K mg base "_law_shared" 1 ps_sharedL (spD pre_sharedL) := by
  refine DefOk.pure F sc_sharedL (fun ds r ⟨m, ws, _, h, _⟩ => by rw [h]; rfl) fun cdv A outer s H E hg hr => ?_
  have nd := sc_sharedL.nd
  refine ⟨_, (pss_cons (ps_setLc (i := 1) (own := [("_law_row", 2), ("_law_spot", 3)]) rfl nd rfl rfl (sw_true rfl rfl rfl (by decide +kernel)) (kEnumT K (by rfl) B.enumerate (pa_cons (pe_slice (kSl K) (pe_ix (kIx K) (pv 0) pe_int (fun _ _ => rfl)) po_none (po_some (pe_un un_neg pe_int))) pa_nil)) (blkOk_by (own := [("_law_row", 2), ("_law_spot", 3)]) (N := N_sharedL) (sc := defScope s_sharedL) (by decide +kernel)) (fun _ _ _ _ _ => (kTup (n := 2) K rfl (pgs_cons (pg_name (i := 2) nd rfl (Or.inl rfl)) (pgs_cons (pg_name (i := 3) nd rfl (Or.inl rfl)) pgs_nil)))) (fun _ _ _ _ _ => pts_nil) (fun _ _ _ _ _ => (pe_tupX (pa_cons (pv 2) (pa_cons (pv 3) pa_nil)))))
    (pss_one (ps_ret (pe_lc (own := [("_law_one", 4)]) rfl nd (kSeq K (pv 1)) (blkOk_by (own := [("_law_one", 4)]) (N := N_sharedL) (sc := defScope s_sharedL) (by decide +kernel)) (fun _ _ _ _ _ => (pg_name (i := 4) nd rfl (Or.inr rfl))) (fun _ _ _ _ _ => (pts_one (pt_cmpR (kEq K hr.units) (pe_lc (own := [("_law_way", 5)]) rfl nd (kSeq K (pv 0)) (blkOk_by (own := [("_law_way", 5)]) (by rfl)) (fun _ _ _ _ _ => (pg_name (i := 5) nd rfl (Or.inl rfl))) (fun _ _ _ _ _ => (pts_one (pt_cmpR (kNe K hr.units) (pe_ix (kIx K) (pv 5) (pe_ix (kIx K) (pv 4) pe_int (fun _ _ => rfl)) (fun _ _ => rfl)) (pe_ix (kIx K) (pv 4) pe_int (fun _ _ => rfl)) (nomark _)))) (fun _ _ _ _ _ => (pv 5))) (pe_lst pa_nil) (nomark _)))) (fun _ _ _ _ _ => (pv 4)))))), ?_⟩
  rintro M fu L G0 D ds r ⟨m, ws, hw, rfl, rfl⟩ hR _
  obtain ⟨hne, hlen, heach, hm⟩ := hw
  cases ws with
  | nil => exact absurd rfl hne
  | cons v ws =>
    have hv : v.length = m + 1 := heach v List.mem_cons_self
    have hdl : v.dropLast.length = m := by rw [List.length_dropLast, hv]; rfl
    have hen : enumN 0 v.dropLast = (List.range m).map fun r => (r, v.getD r 0) := by
      rw [enumN_range v.dropLast m 0 hdl.symm]
      refine List.map_congr_left fun r hr' => ?_
      have hr2 := List.mem_range.mp hr'
      rw [Nat.zero_add, List.getD_eq_getElem?_getD, List.getD_eq_getElem?_getD, List.dropLast_eq_take, List.getElem?_take_of_lt (by omega)]
    refine q_asg (d := .list ((enumN 0 v.dropLast).map dP)) (ev_lcAllM (bw := false) (js := [2, 3]) (F := Fp 2 3) (enc := fun p : Nat × Nat => .tuple [dI p.1, dI p.2]) (l := enumN 0 v.dropLast) dP ?_ (by decide) (fun x hx => tg_pair) (by rw [enumN_len, hdl]; omega) fun p hp => ev_tup (ea_two (ev_var rfl) (ev_var rfl))) ?_
    · rw [← enumN_map, ← dropLast_map, ← cut_but]
      exact ei_enumT (ev_slT (es := v.map dI) (ev_ixL (es := (v :: ws).map dT) (ev_var rfl).r ev_int.r (atI_get (i := 0) (d := dT v) rfl)).r eo_none (eo_some (ev_neg ev_int)))
    · refine go_ret (ev_is (ev_lcM (js := [4]) (F := Fn 4) (enc := dP) (l := enumN 0 v.dropLast) (fun p => (v :: ws).all fun u => decide (u.getD p.1 0 = p.2)) dP (ei_seqL (ev_var rfl)) (by decide) (fun x hx => tg_name) (by rw [enumN_len, hdl]; omega) fun p hp => ⟨?_, fun _ => ev_var rfl⟩) ?_) hR rfl
      · have hp' : p.1 < m := by
          rw [hen] at hp
          obtain ⟨r, hr1, rfl⟩ := List.mem_map.mp hp
          exact List.mem_range.mp hr1
        refine (eb_B (ev_eq (n := 2) (m := 2) (EvD.r (ev_lcM (js := [5]) (F := Fn 5) (enc := dT) (l := v :: ws) (fun u => !decide (u.getD p.1 0 = p.2)) dT (ei_seqL (ev_var rfl)) (by decide) (fun x hx => tg_name) (by omega) fun u hu => ⟨?_, fun _ => ev_var rfl⟩)) (ev_lst ea_nil).r (shp_ways _) (shp_ways []))).is ?_
        · have hu' := heach u hu
          refine (eb_B (ev_ne (n := 1) (m := 1) (ev_ixT (es := u.map dI) (i := (p.1 : Int)) (ev_var rfl).r (ev_ixT (es := [dI p.1, dI p.2]) (ev_var rfl).r ev_int.r rfl).r (atI_getD (by omega))).r (ev_ixT (es := [dI p.1, dI p.2]) (ev_var rfl).r ev_int.r rfl).r (shp_dI _) (shp_dI _))).is ?_
          rw [eqv_dI]
        · rw [eqv_nil, Bool.eq_iff_iff, List.isEmpty_iff, List.filter_eq_nil_iff, List.all_eq_true]
          constructor
          · intro h u hu
            have := h u hu
            simpa using this
          · intro h u hu
            have := h u hu
            simpa using this
      · have hv' : v.length - 1 = m := by omega
        rw [hen, filter_map]
        show _ = PyData.list ((((List.range (v.length - 1)).filter fun r => (v :: ws).all fun u => decide (u.getD r 0 = v.getD r 0)).map fun r => (r, v.getD r 0)).map dP)
        rw [hv']

def wordS (n : Net) (b e : Nat) : Str := if Wn n b e = [] then "none" else if (twinsW (Wn n b e)).isSome then "two" else "all"
def pre_due_wordL : List PyData → PyData → Prop := fun ds r => ∃ n b e, NetOk n ∧ b < n.k ∧ ds = [dN n, dI b, dI e] ∧ r = .str (wordS n b e)
abbrev s_due_wordL : Stmt := top 72
abbrev N_due_wordL : List Str := ["_law_net_here", "_law_spot", "_law_far", "_law_some"]
abbrev ps_due_wordL : List Str := ["_law_net_here", "_law_spot", "_law_far"]
theorem sc_due_wordL : FnScope N_due_wordL ps_due_wordL (defScope s_due_wordL) := ⟨rfl, rfl, rfl, by decide +kernel, rfl, by decide +kernel, by decide +kernel⟩

theorem ok_due_wordL (F : FunAt K mg "_law_due_word" s_due_wordL ps_due_wordL f fd) (B : Bt mg) (D_waysL : DefOk P w K mg base "_law_ways" 2 ps_waysL (spD pre_waysL)) (D_have_twoL : DefOk P w K mg base "_law_have_two" 2 ps_have_twoL (spD pre_have_twoL)) : DefOk P w K mg base "_law_due_word" 3 ps_due_wordL (spD pre_due_wordL) := by
  refine DefOk.pure F sc_due_wordL (fun ds r ⟨n, b, e, _, _, h, _⟩ => by rw [h]; rfl) fun cdv A outer s H E hg hr => ?_
  have nd := sc_due_wordL.nd
  refine ⟨_, (pss_cons (ps_set (i := 3) nd rfl (Or.inl rfl) (pe_callD D_waysL hg (hr.mono (by decide)) (by rfl) (pa_cons (pv 0) (pa_cons (pv 1) (pa_cons (pv 2) pa_nil)))))
    (pss_cons (ps_if (pt_cmpR (kEq K hr.units) (pv 3) (pe_lst pa_nil) (nomark _)) (pss_one (ps_ret pe_str)) pss_nil)
    (pss_one (ps_ret (pe_ifExp (pt_val (pe_callD D_have_twoL hg (hr.mono (by decide)) (by rfl) (pa_cons (pv 3) pa_nil))) pe_str pe_str))))), ?_⟩
  rintro M fu L G0 D ds r ⟨n, b, e, hn, hb, rfl, rfl⟩ hR _
  refine q_asg (d := .list ((Wn n b e).map dT)) (ev_call (ea_three (ev_var rfl) (ev_var rfl) (ev_var rfl)) ⟨n, b, e, hn, hb, rfl, rfl⟩) ?_
  refine q_if (b := decide (Wn n b e = [])) ?_ (fun h => ?_) (fun h => ?_)
  · refine (eb_B (ev_eq (n := 2) (m := 2) (ev_var rfl).r (ev_lst ea_nil).r (shp_ways _) (shp_ways []))).is ?_
    rw [eqv_nil, isEmpty_eq]
  · refine go_ret ev_str hR ?_
    unfold wordS
    rw [if_pos (of_decide_eq_true h)]
  · have hne := of_decide_eq_false h
    have hws := W_ws hn hb hne
    refine go_ret (R := (· = .str (wordS n b e))) (d := .str (if (twinsW (Wn n b e)).isSome then "two" else "all")) (ev_if (b := (twinsW (Wn n b e)).isSome) (eb_B (ev_call (ea_one (ev_var rfl)) ⟨_, _, hws, rfl, rfl⟩)) (fun h => ev_is ev_str (by rw [h]; rfl)) (fun h => ev_is ev_str (by rw [h]; rfl))) hR ?_
    unfold wordS
    rw [if_neg hne]
end
end Kd
namespace Kd
open PySem L2
open PyProof.Rows (envOfC)
theorem W.swap {M : MS} {f : Nat} {a b : Addr × List PyData} {L : Own} {G H : Hp} (w : W M f (a :: b :: L) G H) : W M f (b :: a :: L) G H := by
  have hp : ((b :: a :: L).map (·.1) ++ addrs M).Perm ((a :: b :: L).map (·.1) ++ addrs M) := by
    rw [List.map_cons, List.map_cons, List.map_cons, List.map_cons, List.cons_append, List.cons_append, List.cons_append, List.cons_append]
    exact List.Perm.swap _ _ _
  refine ⟨w.ex, fun p ds h => w.own p ds ?_, fun p h => w.nog p (hp.mem_iff.mp h), hp.nodup_iff.mpr w.nd, w.st, w.nt⟩
  rcases List.mem_cons.mp h with h | h
  · rw [h]; exact List.mem_cons_of_mem _ List.mem_cons_self
  · rcases List.mem_cons.mp h with h | h
    · rw [h]; exact List.mem_cons_self
    · exact List.mem_cons_of_mem _ (List.mem_cons_of_mem _ h)
section
variable {M : MS} {G0 : Hp} {D : Ends} {L : Own} {ds : DS} {t u : TS} {f : Nat} {a b : Addr × List PyData}
theorem Go.swap (h : Go M G0 D t f (b :: a :: L) ds) : Go M G0 D t f (a :: b :: L) ds := fun σ G H e w sl => h σ G H e w.swap sl
theorem Nx.swap (h : Nx M G0 D f (b :: a :: L) ds) : Nx M G0 D f (a :: b :: L) ds := fun σ G H e w sl => h σ G H e w.swap sl
end
section
variable {P : Program} {w : World} {K : PySem.W.Frag} {mg : Str → Option Value} {base : Heap} {f : Addr} {fd : FuncData} {CB fI : Addr}
def pre_backL : List PyData → PyData → Prop := fun ds r => ∃ k o, IsOrd k o ∧ k ≤ 100 ∧ ds = [dT o] ∧ r = dT (backO o)
abbrev s_backL : Stmt := top 55
abbrev N_backL : List Str := ["_law_order_so", "_law_k"]
abbrev ps_backL : List Str := ["_law_order_so"]
theorem sc_backL : FnScope N_backL ps_backL (defScope s_backL) := ⟨rfl, rfl, rfl, by decide +kernel, rfl, by decide +kernel, by decide +kernel⟩

theorem ok_backL (F : FunAt K mg "_law_back" s_backL ps_backL f fd) (B : Bt mg) : DefOk P w K mg base "_law_back" 1 ps_backL (spD pre_backL) := by
  refine DefOk.pure F sc_backL (fun ds r ⟨k, o, _, _, h, _⟩ => by rw [h]; rfl) fun cdv A outer s H E hg hr => ?_
  have nd := sc_backL.nd
  refine ⟨_, (pss_one (ps_ret (pe_callTy (kTuple K) (by rfl) B.tuple (by decide +kernel) (pa_cons (pe_lc (own := [("_law_k", 1)]) rfl nd (pi_range1 (by rfl) B.range (pa_cons (pe_callB (kLen K) (by rfl) B.len (by decide +kernel) (pa_cons (pv 0) pa_nil)) pa_nil)) (blkOk_by (own := [("_law_k", 1)]) (N := N_backL) (sc := defScope s_backL) (by decide +kernel)) (fun _ _ _ _ _ => (pg_name (i := 1) nd rfl (Or.inl rfl))) (fun _ _ _ _ _ => pts_nil) (fun _ _ _ _ _ => (kIndex K (pv 0) (pa_cons (pv 1) pa_nil)))) pa_nil)))), ?_⟩
  rintro M fu L G0 D ds r ⟨k, o, ho, hk, rfl, rfl⟩ hR _
  have hl := ho.len
  refine go_ret (ev_is (ev_tupleL (EvD.r (ev_lcAllM (js := [1]) (F := Fn 1) (enc := dI) (l := List.range o.length) (fun x => dI (o.idxOf x)) ?_ (by decide) (fun x hx => tg_name) (by rw [List.length_range]; omega) fun x hx => ?_))) ?_) hR rfl
  · rw [← rng0]
    exact ei_rng1 (ea_one (ev_is (ev_lenT (es := o.map dI) (ev_var rfl).r) (dI_eq (by rw [List.length_map])))) (by omega)
  · have hx' := List.mem_range.mp hx
    obtain ⟨h1, h2⟩ := idx_at ho (x := x) (by omega)
    refine ev_tupIndex (ns := o.map Int.ofNat) (k := (x : Int)) (ev_is (ev_var (d := dT o) rfl) (dT_ints o)) (ev_var rfl) ?_ fun m hm e => ?_
    · rw [List.getElem?_map, h1]; rfl
    · rw [List.getElem?_map] at e
      cases q : o[m]? with
      | none => rw [q] at e; cases e
      | some y =>
        rw [q] at e
        have : (y : Int) = x := Option.some.inj e
        have hy : y = x := by omega
        exact h2 m hm (by rw [q, hy])
  · unfold backO dT
    rw [List.map_map]
    rfl

def mirN (n : Net) : Net := ⟨n.b, n.os.reverse.map backO⟩
theorem mir_ok {n : Net} (h : NetOk n) : NetOk (mirN n) := ⟨h.b1, h.b4, by show (n.os.reverse.map backO).length ≤ 5; rw [List.length_map, List.length_reverse]; exact h.len, fun o ho => by
  obtain ⟨q, hq, rfl⟩ := List.mem_map.mp ho
  exact back_ok (h.os q (List.mem_reverse.mp hq))⟩
def pre_mirroredL : List PyData → PyData → Prop := fun ds r => ∃ n, NetOk n ∧ ds = [dN n] ∧ r = dN (mirN n)
abbrev s_mirroredL : Stmt := top 56
abbrev N_mirroredL : List Str := ["_law_net_here", "_law_order_so"]
abbrev ps_mirroredL : List Str := ["_law_net_here"]
theorem sc_mirroredL : FnScope N_mirroredL ps_mirroredL (defScope s_mirroredL) := ⟨rfl, rfl, rfl, by decide +kernel, rfl, by decide +kernel, by decide +kernel⟩

theorem ok_mirroredL (F : FunAt K mg "_law_mirrored" s_mirroredL ps_mirroredL f fd) (B : Bt mg) (D_backL : DefOk P w K mg base "_law_back" 1 ps_backL (spD pre_backL)) : DefOk P w K mg base "_law_mirrored" 2 ps_mirroredL (spD pre_mirroredL) := by
  refine DefOk.pure F sc_mirroredL (fun ds r ⟨n, _, h, _⟩ => by rw [h]; rfl) fun cdv A outer s H E hg hr => ?_
  have nd := sc_mirroredL.nd
  refine ⟨_, (pss_one (ps_ret (pe_tupX (pa_cons (pe_ix (kIx K) (pv 0) pe_int (fun _ _ => rfl)) (pa_cons (pe_callTy (kTuple K) (by rfl) B.tuple (by decide +kernel) (pa_cons (pe_lc (own := [("_law_order_so", 1)]) rfl nd (kSeq K (kRevT K (pe_ix (kIx K) (pv 0) pe_int (fun _ _ => rfl)))) (blkOk_by (own := [("_law_order_so", 1)]) (N := N_mirroredL) (sc := defScope s_mirroredL) (by decide +kernel)) (fun _ _ _ _ _ => (pg_name (i := 1) nd rfl (Or.inl rfl))) (fun _ _ _ _ _ => pts_nil) (fun _ _ _ _ _ => (pe_callD D_backL hg (hr.mono (by decide)) (by rfl) (pa_cons (pv 1) pa_nil)))) pa_nil)) pa_nil))))), ?_⟩
  rintro M fu L G0 D ds r ⟨n, hn, rfl, rfl⟩ hR _
  obtain ⟨j, hk, hj1, hj8⟩ := hn.k2
  have hlen := hn.len
  refine go_ret (ev_tup (ea_two (ev_ixT (es := [dI n.b, .tuple (n.os.map dT)]) (ev_var rfl).r ev_int.r rfl) (ev_tupleL (EvD.r (ev_lcAllM (js := [1]) (F := Fn 1) (enc := dT) (l := n.os.reverse) (fun o => dT (backO o)) ?_ (by decide) (fun x hx => tg_name) (by rw [List.length_reverse]; omega) fun o ho => ?_))))) hR ?_
  · rw [List.map_reverse]
    exact ei_seqT (ev_revT (ev_ixT (es := [dI n.b, .tuple (n.os.map dT)]) (ev_var rfl).r ev_int.r rfl).r)
  · exact ev_call (ea_one (ev_var rfl)) ⟨n.k, o, hn.os o (List.mem_reverse.mp ho), by omega, rfl, rfl⟩
  · unfold dN mirN
    rw [List.map_map]
    rfl

def namedN (n : Net) (rs : List (List Nat)) : Net := ⟨n.b, (enumN 0 n.os).map fun p => namedRow (rs.getD p.1 []) (rs.getD (p.1 + 1) []) p.2⟩
structure RwsOk (n : Net) (rs : List (List Nat)) : Prop where
  len : rs.length = n.os.length + 1
  ord : ∀ r ∈ rs, ∃ j, n.k = 2 * j ∧ IsOrd j r
theorem RwsOk.at {n : Net} {rs : List (List Nat)} (h : RwsOk n rs) {i : Nat} (hi : i ≤ n.os.length) : rs[i]? = some (rs.getD i []) ∧ ∃ j, n.k = 2 * j ∧ IsOrd j (rs.getD i []) := by
  have hl := h.len
  have e : rs[i]? = some (rs.getD i []) := by rw [List.getD_eq_getElem?_getD, List.getElem?_eq_getElem (show i < rs.length by omega)]; rfl
  exact ⟨e, h.ord _ (List.mem_of_getElem? e)⟩
theorem named_net {n : Net} {rs : List (List Nat)} (h : NetOk n) (hr : RwsOk n rs) : NetOk (namedN n rs) := ⟨h.b1, h.b4, by show ((enumN 0 n.os).map _).length ≤ 5; rw [List.length_map, enumN_len]; exact h.len, fun o ho => by
  obtain ⟨⟨i, q⟩, hq, rfl⟩ := List.mem_map.mp ho
  obtain ⟨i', h1, h2⟩ := enumN_mem.mp hq
  have hi : i = i' := by simpa using h2
  subst hi
  have hlt : i < n.os.length := (List.getElem?_eq_some_iff.mp h1).1
  obtain ⟨_, j, hj, o1⟩ := hr.at (i := i) (by omega)
  obtain ⟨_, j', hj', o2⟩ := hr.at (i := i + 1) (by omega)
  have hjj : j = j' := by omega
  subst hjj
  have hq2 := h.os q (List.mem_of_getElem? h1)
  rw [hj] at hq2
  show IsOrd n.k (namedRow (rs.getD i []) (rs.getD (i + 1) []) q)
  rw [hj]
  exact named_ok o1 o2 hq2⟩
def dR (rs : List (List Nat)) : PyData := .tuple (rs.map dT)
def pre_namedL : List PyData → PyData → Prop := fun ds r => ∃ n rs, NetOk n ∧ RwsOk n rs ∧ ds = [dN n, dR rs] ∧ r = dN (namedN n rs)
abbrev s_namedL : Stmt := top 57
abbrev N_namedL : List Str := ["_law_net_here", "_law_rows_here", "_law_found", "_law_row", "_law_order_so", "_law_fresh", "_law_spot", "_law_far", "_law_here", "_law_there"]
abbrev ps_namedL : List Str := ["_law_net_here", "_law_rows_here"]
theorem sc_namedL : FnScope N_namedL ps_namedL (defScope s_namedL) := ⟨rfl, rfl, rfl, by decide +kernel, rfl, by decide +kernel, by decide +kernel⟩

theorem rep_dI (k : Nat) : (List.replicate k [dI 0]).flatten = (List.replicate k 0).map dI := by
  induction k with
  | zero => rfl
  | succ k ih => rw [List.replicate_succ, List.flatten_cons, ih, List.replicate_succ]; rfl
theorem map_set {α β : Type} (g : α → β) (l : List α) (i : Nat) (x : α) : (l.map g).set i (g x) = (l.set i x).map g := by rw [List.map_set]
theorem ok_namedL (F : FunAt K mg "_law_named" s_namedL ps_namedL f fd) (B : Bt mg) : DefOk P w K mg base "_law_named" 1 ps_namedL (spD pre_namedL) := by
  refine DefOk.pure F sc_namedL (fun ds r ⟨n, rs, _, _, h, _⟩ => by rw [h]; rfl) fun cdv A outer s H E hg hr => ?_
  have nd := sc_namedL.nd
  refine ⟨_, (pss_cons (ps_set (i := 2) nd rfl (Or.inl rfl) (pe_lst pa_nil))
    (pss_cons (ps_for PassesOwn.never rfl (kEnumT K (by rfl) B.enumerate (pa_cons (pe_ix (kIx K) (pv 0) pe_int (fun _ _ => rfl)) pa_nil)) (kTup (n := 2) K rfl (pgs_cons (pg_name (i := 3) nd rfl (Or.inl rfl)) (pgs_cons (pg_name (i := 4) nd rfl (Or.inl rfl)) pgs_nil))) (pss_cons (ps_set (i := 5) nd rfl (Or.inl rfl) (pe_op (kMul K) (pe_lst (pa_cons pe_int pa_nil)) (pe_callB (kLen K) (by rfl) B.len (by decide +kernel) (pa_cons (pv 4) pa_nil))))
    (pss_cons (ps_for PassesOwn.never rfl (kEnumT K (by rfl) B.enumerate (pa_cons (pv 4) pa_nil)) (kTup (n := 2) K rfl (pgs_cons (pg_name (i := 6) nd rfl (Or.inl rfl)) (pgs_cons (pg_name (i := 7) nd rfl (Or.inl rfl)) pgs_nil))) (pss_cons (ps_set (i := 8) nd rfl (Or.inl rfl) (pe_ix (kIx K) (pe_ix (kIx K) (pv 1) (pv 3) (fun _ _ => rfl)) (pe_op op_fdiv (pv 6) pe_int) (fun _ _ => rfl)))
    (pss_cons (ps_set (i := 9) nd rfl (Or.inl rfl) (pe_ix (kIx K) (pe_ix (kIx K) (pv 1) (pe_op (kAdd K) (pv 3) pe_int) (fun _ _ => rfl)) (pe_op op_fdiv (pv 7) pe_int) (fun _ _ => rfl)))
    (pss_one (ps_asg (pe_op (kAdd K) (pe_op (kMul K) pe_int (pv 9)) (pe_op op_mod (pe_callTy call_int1 (by rfl) B.int (by decide +kernel) (pa_cons (pv 7) pa_nil)) pe_int)) (pg_sub (pv 5) (pe_op (kAdd K) (pe_op (kMul K) pe_int (pv 8)) (pe_op op_mod (pe_callTy call_int1 (by rfl) B.int (by decide +kernel) (pa_cons (pv 6) pa_nil)) pe_int)) set_list))))))
    (pss_one (ps_expr (pe_bm PySem.F.plainAttrs_list PySem.F.slot_list_append PySem.F.type_list_append mt_append (pv 2) (pa_cons (pe_callTy (kTuple K) (by rfl) B.tuple (by decide +kernel) (pa_cons (pv 5) pa_nil)) pa_nil)))))))
    (pss_one (ps_ret (pe_tupX (pa_cons (pe_ix (kIx K) (pv 0) pe_int (fun _ _ => rfl)) (pa_cons (pe_callTy (kTuple K) (by rfl) B.tuple (by decide +kernel) (pa_cons (pv 2) pa_nil)) pa_nil))))))), ?_⟩
  rintro M fu L G0 D ds r ⟨n, rs, hn, hrs, rfl, rfl⟩ hR _
  obtain ⟨j, hk, hj1, hj8⟩ := hn.k2
  have hlen := hn.len
  refine q_asgF (es := []) (ef_lst ea_nil) fun p => ?_
  refine q_for (bw := false) (js := [3, 4]) (F := Fp 3 4) (items := (enumN 0 n.os).map fun p => .tuple [dI p.1, dT p.2]) ?_ (fun x hx => by obtain ⟨q, _, rfl⟩ := List.mem_map.mp hx; exact tg_pair)
    (fun i f L' ds => f = fu ∧ L' = (p, ((enumN 0 n.os).take i).map fun p => dT (namedRow (rs.getD p.1 []) (rs.getD (p.1 + 1) []) p.2)) :: L ∧ ∃ a3 a4 a5 a6 a7 a8 a9, ds = [some (.dat (dN n)), some (.dat (dR rs)), some (.raw (.ref p)), a3, a4, a5, a6, a7, a8, a9]) ⟨rfl, rfl, none, none, none, none, none, none, none, rfl⟩ ?_ ?_
  · rw [← enumN_map]
    exact ei_enumT (ev_ixT (es := [dI n.b, .tuple (n.os.map dT)]) (ev_var rfl).r ev_int.r rfl)
  · rintro G1 e1 i x f1 L1 ds1 hx ⟨rfl, rfl, a3, a4, a5, a6, a7, a8, a9, rfl⟩
    rw [List.getElem?_map] at hx
    cases hv : (enumN 0 n.os)[i]? with
    | none => rw [hv] at hx; cases hx
    | some pr =>
      rw [hv] at hx
      cases hx
      have hv' := hv
      rw [enumN_get] at hv'
      cases ho : n.os[i]? with
      | none => rw [ho] at hv'; cases hv'
      | some o =>
        rw [ho] at hv'
        have epr : pr = (i, o) := by
          have := Option.some.inj hv'
          rw [← this, Nat.zero_add]
        subst epr
        have hil : i < n.os.length := (List.getElem?_eq_some_iff.mp ho).1
        have hO := hn.os o (List.mem_of_getElem? ho)
        have hol := hO.len
        obtain ⟨g1, j1, hj1', o1⟩ := hrs.at (i := i) (by omega)
        obtain ⟨g2, j2, hj2', o2⟩ := hrs.at (i := i + 1) (by omega)
        have ej1 : j1 = j := by omega
        have ej2 : j2 = j := by omega
        rw [ej1] at o1
        rw [ej2] at o2
        refine q_asgF (es := (List.replicate o.length 0).map dI) (i := 5) ?_ fun q => ?_
        · have e : (List.replicate (o.length : Int).toNat [dI 0]).flatten = (List.replicate o.length 0).map dI := by rw [Int.toNat_natCast, rep_dI]
          rw [← e]
          exact ef_rep (r' := fun a b H Q => rMulI a b H Q ∨ rRepX K a b H Q) (EvD.r (ev_lst (ea_one ev_int))) (ev_is (ev_lenT (es := o.map dI) (ev_var rfl).r) (dI_eq (by rw [List.length_map]))) (by omega) (by omega) (by simp; omega)
        refine q_for (bw := false) (js := [6, 7]) (F := Fp 6 7) (items := (enumN 0 o).map dP) ?_ (fun x hx => by obtain ⟨q, _, rfl⟩ := List.mem_map.mp hx; exact tg_pair)
          (fun i' f L' ds => f = f1 ∧ L' = (q, (namedTo (rs.getD i []) (rs.getD (i + 1) []) o i').map dI) :: (p, ((enumN 0 n.os).take i).map fun p => dT (namedRow (rs.getD p.1 []) (rs.getD (p.1 + 1) []) p.2)) :: L ∧ ∃ a6 a7 a8 a9, ds = [some (.dat (dN n)), some (.dat (dR rs)), some (.raw (.ref p)), some (.dat (dI i)), some (.dat (dT o)), some (.raw (.ref q)), a6, a7, a8, a9]) ⟨rfl, rfl, a6, a7, a8, a9, rfl⟩ ?_ ?_
        · rw [← enum_way]
          exact ei_enumT (ev_var rfl)
        · rintro G2 e2 i' x f2 L2 ds2 hx ⟨rfl, rfl, b6, b7, b8, b9, rfl⟩
          rw [List.getElem?_map, enumN_get] at hx
          cases hs : o[i']? with
          | none => rw [hs] at hx; cases hx
          | some y =>
            rw [hs] at hx
            have ex : x = dP (i', y) := by
              have := Option.some.inj hx
              rw [← this]
              show dP (0 + i', y) = _
              rw [Nat.zero_add]
            subst ex
            have hi' : i' < o.length := (List.getElem?_eq_some_iff.mp hs).1
            have hy : y = o.getD i' 0 := by rw [List.getD_eq_getElem?_getD, hs]; rfl
            have hyk : y < n.k := by exact hO.lt y (List.mem_of_getElem? hs)
            obtain ⟨c1, c2⟩ := o1.get (x := i' / 2) (by omega)
            obtain ⟨c3, c4⟩ := o2.get (x := y / 2) (by omega)
            refine q_asg (d := dI ((rs.getD i []).getD (i' / 2) 0)) (ev_ixT (es := (rs.getD i []).map dI) (i := ((i' / 2 : Nat) : Int)) (ev_ixT (es := rs.map dT) (i := (i : Int)) (ev_var rfl).r (ev_var rfl).r (atI_get (by rw [List.getElem?_map, g1]; rfl))).r (ev_is (ev_fdiv (i := (i' : Int)) (j := 2) (ev_var rfl).r ev_int.r (by decide)) (dI_eq (by rw [Int.natCast_ediv]; rfl))).r (atI_get (by rw [List.getElem?_map, c1]; rfl))) ?_
            refine q_asg (d := dI ((rs.getD (i + 1) []).getD (y / 2) 0)) (ev_ixT (es := (rs.getD (i + 1) []).map dI) (i := ((y / 2 : Nat) : Int)) (ev_ixT (es := rs.map dT) (i := ((i + 1 : Nat) : Int)) (ev_var rfl).r (ev_addI (i := (i : Int)) (j := 1) (ev_var rfl).r ev_int.r).r (atI_get (by rw [List.getElem?_map, g2]; rfl))).r (ev_is (ev_fdiv (i := (y : Int)) (j := 2) (ev_var rfl).r ev_int.r (by decide)) (dI_eq (by rw [Int.natCast_ediv]; rfl))).r (atI_get (by rw [List.getElem?_map, c3]; rfl))) ?_
            refine go_set (j := dbl (rs.getD i []) i') (d := dI (dbl (rs.getD (i + 1) []) y)) rfl (ev_is (ev_addI (ev_mulI (i := 2) (j := (((rs.getD (i + 1) []).getD (y / 2) 0 : Nat) : Int)) ev_int.r (ev_var rfl).r (.inl (by decide))).r (ev_mod (i := (y : Int)) (j := 2) (ev_int1 (ev_var rfl).r).r ev_int.r (by decide)).r) (dI_eq (by unfold dbl; omega))) (ev_is (ev_addI (ev_mulI (i := 2) (j := (((rs.getD i []).getD (i' / 2) 0 : Nat) : Int)) ev_int.r (ev_var rfl).r (.inl (by decide))).r (ev_mod (i := (i' : Int)) (j := 2) (ev_int1 (ev_var rfl).r).r ev_int.r (by decide)).r) (dI_eq (by unfold dbl; omega))) ?_ (nx_iv ⟨rfl, ?_, _, _, _, _, rfl⟩)
            · have q1 := dbl_lt o1 (s := i') (by omega)
              rw [List.length_map, namedTo_len _ _ _ _ (by omega), hol]
              omega
            · rw [map_set, namedTo_succ _ _ _ _ hi', ← hy]
        · rintro f2 L2 ds2 ⟨rfl, rfl, b6, b7, b8, b9, rfl⟩
          rw [List.length_map, enumN_len]
          refine Go.swap ?_
          refine go_app (d := dT (namedRow (rs.getD i []) (rs.getD (i + 1) []) o)) rfl (ev_is (ev_tupleL (er_own rfl (List.mem_cons_of_mem _ List.mem_cons_self))) rfl) ?_ ?_
          · rw [List.length_map, List.length_take, enumN_len]; omega
          · refine Nx.swap (Nx.drop (nx_iv ⟨rfl, ?_, _, _, _, _, _, _, _, rfl⟩))
            rw [take_snoc hv, List.map_append]
            rfl
  · rintro f1 L1 ds1 ⟨rfl, rfl, a3, a4, a5, a6, a7, a8, a9, rfl⟩
    rw [List.length_map, List.take_length]
    refine go_ret (ev_tup (ea_two (ev_ixT (es := [dI n.b, .tuple (n.os.map dT)]) (ev_var rfl).r ev_int.r rfl) (ev_tupleL (er_own rfl List.mem_cons_self)))) hR.drop ?_
    unfold dN namedN
    rw [List.map_map]
    rfl
end
end Kd
namespace Kd
open PySem L2
open PyProof.Rows (envOfC)
section
variable {P : Program} {w : World} {K : PySem.W.Frag} {mg : Str → Option Value} {base : Heap} {f : Addr} {fd : FuncData} {CB fI : Addr}
def swappedN (n : Net) (fs : List (List Nat)) : Net := ⟨n.b, (enumN 0 n.os).map fun p => swapTo (fs.getD p.1 []) p.2 (n.k / 2)⟩
structure FlOk (n : Net) (fs : List (List Nat)) : Prop where
  len : fs.length = n.os.length + 1
  each : ∀ r ∈ fs, r.length = n.k / 2
theorem FlOk.at {n : Net} {rs : List (List Nat)} (h : FlOk n rs) {i : Nat} (hi : i ≤ n.os.length) : rs[i]? = some (rs.getD i []) ∧ (rs.getD i []).length = n.k / 2 := by
  have hl := h.len
  have e : rs[i]? = some (rs.getD i []) := by rw [List.getD_eq_getElem?_getD, List.getElem?_eq_getElem (show i < rs.length by omega)]; rfl
  exact ⟨e, h.each _ (List.mem_of_getElem? e)⟩
theorem swapped_net {n : Net} {fs : List (List Nat)} (h : NetOk n) : NetOk (swappedN n fs) := ⟨h.b1, h.b4, by show ((enumN 0 n.os).map _).length ≤ 5; rw [List.length_map, enumN_len]; exact h.len, fun o ho => by
  obtain ⟨⟨i, q⟩, hq, rfl⟩ := List.mem_map.mp ho
  obtain ⟨i', h1, h2⟩ := enumN_mem.mp hq
  obtain ⟨j, hk, hj1, hj8⟩ := h.k2
  have hq2 := h.os q (List.mem_of_getElem? h1)
  show IsOrd n.k (swapTo (fs.getD i []) q (n.k / 2))
  rw [hk] at hq2 ⊢
  rw [show 2 * j / 2 = j by omega]
  exact swap_ok hq2⟩
def pre_swappedL : List PyData → PyData → Prop := fun ds r => ∃ n fs, NetOk n ∧ FlOk n fs ∧ ds = [dN n, dR fs] ∧ r = dN (swappedN n fs)
abbrev s_swappedL : Stmt := top 58
abbrev N_swappedL : List Str := ["_law_net_here", "_law_flips_so", "_law_found", "_law_row", "_law_order_so", "_law_fresh", "_law_switch", "_law_pair"]
abbrev ps_swappedL : List Str := ["_law_net_here", "_law_flips_so"]
theorem sc_swappedL : FnScope N_swappedL ps_swappedL (defScope s_swappedL) := ⟨rfl, rfl, rfl, by decide +kernel, rfl, by decide +kernel, by decide +kernel⟩

theorem ok_swappedL (F : FunAt K mg "_law_swapped" s_swappedL ps_swappedL f fd) (B : Bt mg) : DefOk P w K mg base "_law_swapped" 1 ps_swappedL (spD pre_swappedL) := by
  refine DefOk.pure F sc_swappedL (fun ds r ⟨n, rs, _, _, h, _⟩ => by rw [h]; rfl) fun cdv A outer s H E hg hr => ?_
  have nd := sc_swappedL.nd
  refine ⟨_, (pss_cons (ps_set (i := 2) nd rfl (Or.inl rfl) (pe_lst pa_nil))
    (pss_cons (ps_for PassesOwn.never rfl (kEnumT K (by rfl) B.enumerate (pa_cons (pe_ix (kIx K) (pv 0) pe_int (fun _ _ => rfl)) pa_nil)) (kTup (n := 2) K rfl (pgs_cons (pg_name (i := 3) nd rfl (Or.inl rfl)) (pgs_cons (pg_name (i := 4) nd rfl (Or.inl rfl)) pgs_nil))) (pss_cons (ps_set (i := 5) nd rfl (Or.inl rfl) (pe_lst pa_nil))
    (pss_cons (ps_for PassesOwn.never rfl (pi_range1 (by rfl) B.range (pa_cons (pe_op op_fdiv (pe_callB (kLen K) (by rfl) B.len (by decide +kernel) (pa_cons (pv 4) pa_nil)) pe_int) pa_nil)) (pg_name (i := 6) nd rfl (Or.inl rfl)) (pss_cons (ps_set (i := 7) nd rfl (Or.inl rfl) (pe_lst (pa_cons (pe_ix (kIx K) (pv 4) (pe_op (kMul K) pe_int (pv 6)) (fun _ _ => rfl)) (pa_cons (pe_ix (kIx K) (pv 4) (pe_op (kAdd K) (pe_op (kMul K) pe_int (pv 6)) pe_int) (fun _ _ => rfl)) pa_nil))))
    (pss_one (ps_set (i := 5) nd rfl (Or.inl rfl) (pe_op (kAdd K) (pv 5) (pe_ifExp (pt_cmpR (kEq K hr.units) (pe_ix (kIx K) (pe_ix (kIx K) (pv 1) (pv 3) (fun _ _ => rfl)) (pv 6) (fun _ _ => rfl)) pe_int (nomark _)) (kRevL K (pv 7)) (pv 7)))))))
    (pss_one (ps_expr (pe_bm PySem.F.plainAttrs_list PySem.F.slot_list_append PySem.F.type_list_append mt_append (pv 2) (pa_cons (pe_callTy (kTuple K) (by rfl) B.tuple (by decide +kernel) (pa_cons (pv 5) pa_nil)) pa_nil)))))))
    (pss_one (ps_ret (pe_tupX (pa_cons (pe_ix (kIx K) (pv 0) pe_int (fun _ _ => rfl)) (pa_cons (pe_callTy (kTuple K) (by rfl) B.tuple (by decide +kernel) (pa_cons (pv 2) pa_nil)) pa_nil))))))), ?_⟩
  rintro M fu L G0 D ds r ⟨n, fs, hn, hfs, rfl, rfl⟩ hR _
  obtain ⟨j, hk, hj1, hj8⟩ := hn.k2
  have hlen := hn.len
  have hkj : n.k / 2 = j := by omega
  refine q_asgF (es := []) (ef_lst ea_nil) fun p => ?_
  refine q_for (bw := false) (js := [3, 4]) (F := Fp 3 4) (items := (enumN 0 n.os).map fun p => .tuple [dI p.1, dT p.2]) ?_ (fun x hx => by obtain ⟨q, _, rfl⟩ := List.mem_map.mp hx; exact tg_pair)
    (fun i f L' ds => f = fu ∧ L' = (p, ((enumN 0 n.os).take i).map fun p => dT (swapTo (fs.getD p.1 []) p.2 (n.k / 2))) :: L ∧ ∃ a3 a4 a5 a6 a7, ds = [some (.dat (dN n)), some (.dat (dR fs)), some (.raw (.ref p)), a3, a4, a5, a6, a7]) ⟨rfl, rfl, none, none, none, none, none, rfl⟩ ?_ ?_
  · rw [← enumN_map]
    exact ei_enumT (ev_ixT (es := [dI n.b, .tuple (n.os.map dT)]) (ev_var rfl).r ev_int.r rfl)
  · rintro G1 e1 i x f1 L1 ds1 hx ⟨rfl, rfl, a3, a4, a5, a6, a7, rfl⟩
    rw [List.getElem?_map] at hx
    cases hv : (enumN 0 n.os)[i]? with
    | none => rw [hv] at hx; cases hx
    | some pr =>
      rw [hv] at hx
      cases hx
      have hv' := hv
      rw [enumN_get] at hv'
      cases ho : n.os[i]? with
      | none => rw [ho] at hv'; cases hv'
      | some o =>
        rw [ho] at hv'
        have epr : pr = (i, o) := by
          have := Option.some.inj hv'
          rw [← this, Nat.zero_add]
        subst epr
        have hil : i < n.os.length := (List.getElem?_eq_some_iff.mp ho).1
        have hO := hn.os o (List.mem_of_getElem? ho)
        have hol := hO.len
        obtain ⟨g1, g2⟩ := hfs.at (i := i) (by omega)
        rw [hkj] at g2
        refine q_asg (d := .list ((swapTo (fs.getD i []) o 0).map dI)) (ev_is (ev_lst ea_nil) rfl) ?_
        refine q_for (js := [6]) (F := Fn 6) (items := (List.range j).map dI) ?_ (fun x hx => tg_name)
          (fun i' f L' ds => f = f1 ∧ L' = (p, ((enumN 0 n.os).take i).map fun p => dT (swapTo (fs.getD p.1 []) p.2 (n.k / 2))) :: L ∧ ∃ a6 a7, ds = [some (.dat (dN n)), some (.dat (dR fs)), some (.raw (.ref p)), some (.dat (dI i)), some (.dat (dT o)), some (.dat (.list ((swapTo (fs.getD i []) o i').map dI))), a6, a7]) ⟨rfl, rfl, a6, a7, rfl⟩ ?_ ?_
        · rw [← rng0]
          exact ei_rng1 (ea_one (ev_is (ev_fdiv (i := ((o.map dI).length : Nat)) (j := 2) (ev_lenT (ev_var (d := dT o) rfl).r).r ev_int.r (by decide)) (dI_eq (by rw [List.length_map]; omega)))) (by omega)
        · rintro G2 e2 i' x f2 L2 ds2 hx ⟨rfl, rfl, b6, b7, rfl⟩
          obtain ⟨hi', rfl⟩ := getRange hx
          obtain ⟨c1, _⟩ := hO.get (x := 2 * i') (by omega)
          obtain ⟨c2, _⟩ := hO.get (x := 2 * i' + 1) (by omega)
          refine q_asg (d := .list ([o.getD (2 * i') 0, o.getD (2 * i' + 1) 0].map dI)) (ev_is (ev_lst (ea_two (ev_ixT (es := o.map dI) (i := ((2 * i' : Nat) : Int)) (ev_var rfl).r (ev_is (ev_mulI (i := 2) (j := (i' : Int)) ev_int.r (ev_var rfl).r (.inl (by decide))) (dI_eq (by omega))).r (atI_get (by rw [List.getElem?_map, c1]; rfl))) (ev_ixT (es := o.map dI) (i := ((2 * i' + 1 : Nat) : Int)) (ev_var rfl).r (ev_is (ev_addI (ev_mulI (i := 2) (j := (i' : Int)) ev_int.r (ev_var rfl).r (.inl (by decide))).r ev_int.r) (dI_eq (by omega))).r (atI_get (by rw [List.getElem?_map, c2]; rfl))))) rfl) ?_
          refine go_asg (d := .list ((swapTo (fs.getD i []) o (i' + 1)).map dI)) (ev_is (ev_addL (es := (swapTo (fs.getD i []) o i').map dI) (gs := (swapSw (fs.getD i []) o i').map dI) (ev_var rfl).r (ev_if (b := decide ((fs.getD i []).getD i' 0 = 1)) ((eb_T (ev_eq (n := 1) (m := 1) (ev_ixT (es := (fs.getD i []).map dI) (i := (i' : Int)) (ev_ixT (es := fs.map dT) (i := (i : Int)) (ev_var rfl).r (ev_var rfl).r (atI_get (by rw [List.getElem?_map, g1]; rfl))).r (ev_var rfl).r (atI_getD (by omega))).r ev_int.r (shp_dI _) (Shp.int _))).is (eqv_dI _ 1)) (fun h => ?_) (fun h => ?_)).r ?_) ?_) (nx_iv ⟨rfl, rfl, _, _, rfl⟩)
          · refine ev_is (ev_revL (ev_var rfl).r) ?_
            unfold swapSw
            rw [if_pos (of_decide_eq_true h)]
            rfl
          · refine ev_is (ev_var rfl) ?_
            unfold swapSw
            rw [if_neg (of_decide_eq_false h)]
          · rw [List.length_map, List.length_map, swapTo_len, swapSw_len]; omega
          · rw [swapTo_succ, List.map_append]
        · rintro f2 L2 ds2 ⟨rfl, rfl, b6, b7, rfl⟩
          rw [List.length_map, List.length_range]
          refine go_app (d := dT (swapTo (fs.getD i []) o (n.k / 2))) rfl (ev_is (ev_tupleL (ev_var rfl).r) (by rw [hkj]; rfl)) ?_ ?_
          · rw [List.length_map, List.length_take, enumN_len]; omega
          · refine nx_iv ⟨rfl, ?_, _, _, _, _, _, rfl⟩
            rw [take_snoc hv, List.map_append]
            rfl
  · rintro f1 L1 ds1 ⟨rfl, rfl, a3, a4, a5, a6, a7, rfl⟩
    rw [List.length_map, List.take_length]
    refine go_ret (ev_tup (ea_two (ev_ixT (es := [dI n.b, .tuple (n.os.map dT)]) (ev_var rfl).r ev_int.r rfl) (ev_tupleL (er_own rfl List.mem_cons_self)))) hR.drop ?_
    unfold dN swappedN
    rw [List.map_map]
    rfl
end
end Kd
namespace Kd
open PySem L2
open PyProof.Rows (envOfC)
def RepP : PyData → Prop
  | .tuple [.str z, x, y] => z = "two" → RepX x ∧ RepX y
  | _ => True
noncomputable def judD (n : Net) (b e : Nat) (p : PyData) : PyData := toldD (chkD n b e p).1 (chkD n b e p).2
theorem allTake_eq (n : Net) (b e : Nat) (r x : PyData) : allTakeD n b e r x = ((isWholeD r 0 (n.os.length : Nat) && isWholeD x 0 ((n.k : Int) - 1)) && (decide (Wn n b e ≠ []) && decide ((unI r, unI x) ∈ commonW (Wn n b e)))) := by
  unfold allTakeD
  show (isWholeD r 0 (((n.os.length + 1 : Nat) : Int) - 1) && isWholeD x 0 ((n.k : Int) - 1) && _) = _
  rw [show (((n.os.length + 1 : Nat) : Int) - 1) = (n.os.length : Nat) by omega]
section
variable {P : Program} {w : World} {K : PySem.W.Frag} {mg : Str → Option Value} {base : Heap} {f : Addr} {fd : FuncData} {CB fI : Addr}
def pre_judgedL : List PyData → PyData → Prop := fun ds r => ∃ n b e p, NetOk n ∧ b < n.k ∧ Shp 8 p ∧ RepP p ∧ ds = [dN n, dI b, dI e, p] ∧ r = judD n b e p
abbrev s_judgedL : Stmt := top 71
abbrev N_judgedL : List Str := ["_law_net_here", "_law_spot", "_law_far", "_law_paper", "_law_some", "_law_shown", "_law_way"]
abbrev ps_judgedL : List Str := ["_law_net_here", "_law_spot", "_law_far", "_law_paper"]
theorem sc_judgedL : FnScope N_judgedL ps_judgedL (defScope s_judgedL) := ⟨rfl, rfl, rfl, by decide +kernel, rfl, by decide +kernel, by decide +kernel⟩

theorem ok_judgedL (F : FunAt K mg "_law_judged" s_judgedL ps_judgedL f fd) (B : Bt mg) (D_waysL : DefOk P w K mg base "_law_ways" 2 ps_waysL (spD pre_waysL)) (D_apartL : DefOk P w K mg base "_law_apart" 1 ps_apartL (spD pre_apartL))
    (D_is_intL : DefOk P w K mg base "_law_is_int" 1 ps_is_intL (spD pre_is_intL)) (D_powerL : DefOk P w K mg base "_law_power" 1 ps_powerL (spD pre_powerL)) (D_sharedL : DefOk P w K mg base "_law_shared" 1 ps_sharedL (spD pre_sharedL)) : DefOk P w K mg base "_law_judged" 3 ps_judgedL (spD pre_judgedL) := by
  refine DefOk.pure F sc_judgedL (fun ds r ⟨n, b, e, p, _, _, _, _, h, _⟩ => by rw [h]; rfl) fun cdv A outer s H E hg hr => ?_
  have nd := sc_judgedL.nd
  refine ⟨_, (pss_cons (ps_if (PW.pt (pw_or (pt_not (pt_val (pe_callB (kIsi K) (by rfl) B.isinstance (by decide +kernel) (pa_cons (pv 3) (pa_cons (pe_bltn (v := .ty "tuple") (by rfl) B.tuple (by decide +kernel) rfl) pa_nil))))) (pw_or (pt_cmpR (kEq K hr.units) (pv 3) (pe_tupX pa_nil) (nomark _)) (pw_or1 (pt_not (pt_val (pe_callB (kIsi K) (by rfl) B.isinstance (by decide +kernel) (pa_cons (pe_ix (kIx K) (pv 3) pe_int (fun _ _ => rfl)) (pa_cons (pe_bltn (v := .ty "str") (by rfl) B.str (by decide +kernel) rfl) pa_nil))))))))) (pss_one (ps_ret (pe_tupX (pa_cons pe_str (pa_cons pe_str pa_nil))))) pss_nil)
    (pss_cons (ps_if (pt_cmpR (kNi K hr) (pe_tupX (pa_cons (pe_ix (kIx K) (pv 3) pe_int (fun _ _ => rfl)) (pa_cons (pe_callB (kLen K) (by rfl) B.len (by decide +kernel) (pa_cons (pv 3) pa_nil)) pa_nil))) (pe_tupX (pa_cons (pe_tupX (pa_cons pe_str (pa_cons pe_int pa_nil))) (pa_cons (pe_tupX (pa_cons pe_str (pa_cons pe_int pa_nil))) (pa_cons (pe_tupX (pa_cons pe_str (pa_cons pe_int pa_nil))) pa_nil)))) (by rfl)) (pss_one (ps_ret (pe_tupX (pa_cons pe_str (pa_cons pe_str pa_nil))))) pss_nil)
    (pss_cons (ps_set (i := 4) nd rfl (Or.inl rfl) (pe_callD D_waysL hg (hr.mono (by decide)) (by rfl) (pa_cons (pv 0) (pa_cons (pv 1) (pa_cons (pv 2) pa_nil)))))
    (pss_cons (ps_if (pt_cmpR (kEq K hr.units) (pe_ix (kIx K) (pv 3) pe_int (fun _ _ => rfl)) pe_str (nomark _)) (pss_one (ps_ret (pe_ifExp (pt_cmpR (kEq K hr.units) (pv 4) (pe_lst pa_nil) (nomark _)) (pe_lst (pa_cons pe_str pa_nil)) (pe_tupX (pa_cons pe_str (pa_cons pe_str pa_nil)))))) pss_nil)
    (pss_cons (ps_if (pt_cmpR (kEq K hr.units) (pe_ix (kIx K) (pv 3) pe_int (fun _ _ => rfl)) pe_str (nomark _)) (pss_cons (ps_setLc (i := 5) (own := [("_law_way", 6)]) rfl nd rfl rfl (sw_true rfl rfl rfl (by decide +kernel)) (kSeq K (pv 4)) (blkOk_by (own := [("_law_way", 6)]) (N := N_judgedL) (sc := defScope s_judgedL) (by decide +kernel)) (fun _ _ _ _ _ => (pg_name (i := 6) nd rfl (Or.inl rfl))) (fun _ _ _ _ _ => pts_nil) (fun _ _ _ _ _ => (pe_callB (kRepr K hg hr) (by rfl) B.repr (by decide +kernel) (pa_cons (pv 6) pa_nil))))
    (pss_cons (ps_if (PW.pt (pw_or (pt_cmpR (kNi K hr) (pe_callB (kRepr K hg hr) (by rfl) B.repr (by decide +kernel) (pa_cons (pe_ix (kIx K) (pv 3) pe_int (fun _ _ => rfl)) pa_nil)) (pv 5) (by rfl)) (pw_or1 (pt_cmpR (kNi K hr) (pe_callB (kRepr K hg hr) (by rfl) B.repr (by decide +kernel) (pa_cons (pe_ix (kIx K) (pv 3) pe_int (fun _ _ => rfl)) pa_nil)) (pv 5) (by rfl))))) (pss_one (ps_ret (pe_tupX (pa_cons pe_str (pa_cons pe_str pa_nil))))) pss_nil)
    (pss_one (ps_ret (pe_ifExp (pt_val (pe_callD D_apartL hg (hr.mono (by decide)) (by rfl) (pa_cons (pe_ix (kIx K) (pv 3) pe_int (fun _ _ => rfl)) (pa_cons (pe_ix (kIx K) (pv 3) pe_int (fun _ _ => rfl)) pa_nil)))) (pe_lst (pa_cons pe_str pa_nil)) (pe_tupX (pa_cons pe_str (pa_cons pe_str pa_nil)))))))) pss_nil)
    (pss_cons (ps_if (PW.pt (pw_or (pt_not (pt_val (pe_callD D_is_intL hg (hr.mono (by decide)) (by rfl) (pa_cons (pe_ix (kIx K) (pv 3) pe_int (fun _ _ => rfl)) (pa_cons pe_int (pa_cons (pe_callB (kLen K) (by rfl) B.len (by decide +kernel) (pa_cons (pe_ix (kIx K) (pv 0) pe_int (fun _ _ => rfl)) pa_nil)) pa_nil)))))) (pw_or1 (pt_not (pt_val (pe_callD D_is_intL hg (hr.mono (by decide)) (by rfl) (pa_cons (pe_ix (kIx K) (pv 3) pe_int (fun _ _ => rfl)) (pa_cons pe_int (pa_cons (pe_op op_sub (pe_callD D_powerL hg (hr.mono (by decide)) (by rfl) (pa_cons (pe_ix (kIx K) (pv 0) pe_int (fun _ _ => rfl)) pa_nil)) pe_int) pa_nil))))))))) (pss_one (ps_ret (pe_tupX (pa_cons pe_str (pa_cons pe_str pa_nil))))) pss_nil)
    (pss_one (ps_ret (pe_ifExp (PW.pt (pw_and (pt_cmpR (kNe K hr.units) (pv 4) (pe_lst pa_nil) (nomark _)) (pw_and1 (pt_cmpR (kIn K hr) (pe_tupX (pa_cons (pe_ix (kIx K) (pv 3) pe_int (fun _ _ => rfl)) (pa_cons (pe_ix (kIx K) (pv 3) pe_int (fun _ _ => rfl)) pa_nil))) (pe_callD D_sharedL hg (hr.mono (by decide)) (by rfl) (pa_cons (pv 4) pa_nil)) (by rfl))))) (pe_lst (pa_cons pe_str pa_nil)) (pe_tupX (pa_cons pe_str (pa_cons pe_str pa_nil)))))))))))), ?_⟩
  rintro M fu L G0 D ds r ⟨n, b, e, p, hn, hb, hp, hrp, rfl, rfl⟩ hR _
  obtain ⟨j, hk, hj1, hj8⟩ := hn.k2
  have hlen := hn.len
  have hb1 := hn.b1
  have hb4 := hn.b4
  have hws := W_len hn b e
  have fail : ∀ (wd : Str), chkD n b e p = (false, wd) → judD n b e p = .tuple [.str "paper", .str wd] := fun wd h => by
    unfold judD
    rw [h]; rfl
  have pass : ∀ (wd : Str), chkD n b e p = (true, wd) → judD n b e p = .list [.str wd] := fun wd h => by
    unfold judD
    rw [h]; rfl
  have form : ∀ (D' : Ends) ds', D'.rt = D.rt → chkD n b e p = (false, ("form" : Str)) → Go M G0 D' (tRet (tTupX (tCons (tC (.str "paper")) (tCons (tC (.str "form")) tNil)))) fu L ds' := fun D' ds' hD' h => by
    refine go_ret (R := (· = judD n b e p)) (ev_tup (ea_two ev_str ev_str)) ?_ (fail _ h).symm
    unfold RtOk at hR ⊢
    rw [hD']; exact hR
  by_cases hh : headed p = true
  · obtain ⟨z, xs, rfl⟩ : ∃ z xs, p = .tuple (.str z :: xs) := by
      unfold headed at hh
      split at hh
      · exact ⟨_, _, rfl⟩
      · cases hh
    refine q_skip ?_ ?_
    · refine (eb_or (a := false) ((eb_not (eb_B (ev_cbv (ev_var rfl).r cv_tup))).is rfl) fun _ => eb_or (a := false) ((eb_B (ev_eq (n := 8) (m := 1) (ev_var rfl).r (ev_tup ea_nil).r hp (Shp.tup fun d hd => nomatch hd))).is ?_) fun _ => (eb_not (eb_B (ev_cbv (ev_ixT (es := .str z :: xs) (ev_var rfl).r ev_int.r (atI_get (i := 0) (d := .str z) rfl)).r cv_str))).is rfl).is rfl
      simp [PyData.eqv, PyData.eqvAll]
    · have hz : Shp 0 (.str z) := by
        have h0 := hp.1
        simp only [PyData.canLay0, PyData.canLayAll0, Bool.and_eq_true] at h0
        exact ⟨by simp only [PyData.canLay0]; exact h0.1, by simp [PyData.depth]⟩
      refine q_if (b := !inForms z (xs.length + 1)) ?_ (fun hf => ?_) (fun hf => ?_)
      · have hl : ((PyData.str z :: xs).length : Int) = ((xs.length + 1 : Nat) : Int) := rfl
        refine (eb_B (ev_niT (n := 1) (m := 1) (es := forms3) (ev_tup (ea_two (ev_ixT (es := .str z :: xs) (ev_var rfl).r ev_int.r (atI_get (i := 0) (d := .str z) rfl)) (ev_lenT (es := .str z :: xs) (ev_var rfl).r))).r (ev_tup (ea_three (ev_tup (ea_two ev_str ev_int)) (ev_tup (ea_two ev_str ev_int)) (ev_tup (ea_two ev_str ev_int)))).r ?_ ?_)).is ?_
        · refine Shp.tup fun d hd => ?_
          rcases List.mem_cons.mp hd with rfl | hd
          · exact hz
          · rw [List.mem_singleton.mp hd]; exact Shp.int _
        · have hs : ∀ (a : Str) (k : Int), PyData.strOk a = true → Shp 1 (.tuple [.str a, .int k]) := fun a k ha => Shp.tup fun d hd => by
            rcases List.mem_cons.mp hd with rfl | hd
            · exact Shp.str ha
            · rw [List.mem_singleton.mp hd]; exact Shp.int _
          intro d hd
          unfold forms3 at hd
          rcases List.mem_cons.mp hd with rfl | hd
          · exact hs _ _ (by decide +kernel)
          rcases List.mem_cons.mp hd with rfl | hd
          · exact hs _ _ (by decide +kernel)
          rw [List.mem_singleton.mp hd]
          exact hs _ _ (by decide +kernel)
        · exact congrArg (fun b => !b) (forms_any z (xs.length + 1))
      · exact form _ _ rfl (chk_form (by simpa using hf))
      · refine q_asg (d := .list ((Wn n b e).map dT)) (ev_call (ea_three (ev_var rfl) (ev_var rfl) (ev_var rfl)) ⟨n, b, e, hn, hb, rfl, rfl⟩) ?_
        have isN : ∀ (ds' : DS), ds'[4]? = some (some (.dat (.list ((Wn n b e).map dT)))) → EvD M L (tOp (rEqD K) (tVar 4) (tLst tNil)) ds' (.bool (decide (Wn n b e = []))) := fun ds' h => by
          refine ev_is (ev_eq (n := 2) (m := 2) (ev_var h).r (ev_lst ea_nil).r (shp_ways _) (shp_ways [])) ?_
          rw [eqv_nil, isEmpty_eq]
        rcases inForms_cases (by simpa using hf) with ⟨x, y, rfl, hz2⟩ | ⟨rfl, rfl⟩
        · have two_ne : z = "two" → ¬ z = "all" := fun h => by rw [h]; decide +kernel
          have i0 : ∀ (ds' : DS), ds'[3]? = some (some (.dat (.tuple [.str z, x, y]))) → EvD M L (tOp (rIxG K) (tVar 3) (tC (.int 0))) ds' (.str z) := fun ds' h => ev_ixT (es := [.str z, x, y]) (ev_var h).r ev_int.r (atI_get (i := 0) (d := .str z) rfl)
          have i1 : ∀ (ds' : DS), ds'[3]? = some (some (.dat (.tuple [.str z, x, y]))) → EvD M L (tOp (rIxG K) (tVar 3) (tC (.int 1))) ds' x := fun ds' h => ev_ixT (es := [.str z, x, y]) (ev_var h).r ev_int.r (atI_get (i := 1) (d := x) rfl)
          have i2 : ∀ (ds' : DS), ds'[3]? = some (some (.dat (.tuple [.str z, x, y]))) → EvD M L (tOp (rIxG K) (tVar 3) (tC (.int 2))) ds' y := fun ds' h => ev_ixT (es := [.str z, x, y]) (ev_var h).r ev_int.r (atI_get (i := 2) (d := y) rfl)
          have teq : ∀ (ds' : DS) (a : Str), ds'[3]? = some (some (.dat (.tuple [.str z, x, y]))) → PyData.strOk a = true → EvB M L (tTest (tOp (rEqD K) (tOp (rIxG K) (tVar 3) (tC (.int 0))) (tC (.str a)))) ds' (decide (z = a)) := fun ds' a h ha => by
            refine (eb_T (ev_eq (n := 0) (m := 0) (i0 ds' h).r ev_str.r hz (Shp.str ha))).is ?_
            simp only [PyData.eqv]
            exact Bool.beq_eq_decide_eq z a
          refine q_skip ((teq _ _ rfl (by decide +kernel)).is (decide_eq_false (by rcases hz2 with rfl | rfl <;> decide +kernel))) ?_
          refine q_if (b := decide (z = "two")) (teq _ _ rfl (by decide +kernel)) (fun h2 => ?_) (fun h2 => ?_)
          · have h2' := of_decide_eq_true h2
            obtain ⟨rx, ry⟩ : RepX x ∧ RepX y := hrp h2'
            have hc : chkD n b e (.tuple [.str z, x, y]) = (isWayD n b e x && isWayD n b e y && apartW (unT x) (unT y), ("two" : Str)) := by
              unfold chkD
              exact if_pos h2'
            have inW : ∀ t, RepX t → (decide (t.shown ∈ (Wn n b e).map fun w => (dT w).shown)) = isWayD n b e t := fun t ht => by
              refine (isWayD_eq ?_).symm
              rw [decide_eq_true_iff, List.mem_map]
              constructor
              · rintro ⟨w, h1, h3⟩
                have hwo := W_ok hn hb w h1
                exact ⟨w, h1, ht.inj w (fun i hi => by have := hwo.lt i hi; omega) h3.symm⟩
              · rintro ⟨w, h1, rfl⟩
                exact ⟨w, h1, rfl⟩
            refine q_asg (d := .list (((Wn n b e).map fun w => (dT w).shown).map .str)) (ev_is (ev_lcAllM (bw := false) (js := [6]) (F := Fn 6) (enc := dT) (l := Wn n b e) (fun w => .str (dT w).shown) (ei_seqL (ev_var rfl)) (by decide) (fun x hx => tg_name) (by omega) fun w hw => ev_repr (n := 1000000) (ev_var rfl).r ?_ (by decide)) (by rw [List.map_map]; rfl)) ?_
            · exact way_sw (fun i hi => by have := (W_ok hn hb w hw).lt i hi; omega) (by have := (W_ok hn hb w hw).len; omega)
            · refine q_if (b := (!isWayD n b e x) || (!isWayD n b e y)) (eb_or (a := !isWayD n b e x) (b := !isWayD n b e y) ((eb_B (ev_niS (ev_repr (n := 1000000) (i1 _ rfl).r rx.sw (by decide)).r (ev_var rfl).r)).is (by rw [inW x rx])) fun _ => (eb_B (ev_niS (ev_repr (n := 1000000) (i2 _ rfl).r ry.sw (by decide)).r (ev_var rfl).r)).is (by rw [inW y ry])) (fun h => ?_) (fun h => ?_)
              · refine go_ret (R := (· = judD n b e (.tuple [.str z, x, y]))) (ev_tup (ea_two ev_str ev_str)) hR (fail "two" ?_).symm
                rw [hc]
                congr 1
                cases hx : isWayD n b e x <;> cases hy : isWayD n b e y <;> simp_all
              · have hx : isWayD n b e x = true := by cases hx : isWayD n b e x <;> simp_all
                have hy : isWayD n b e y = true := by cases hy : isWayD n b e y <;> simp_all
                rw [hx, hy, Bool.true_and, Bool.true_and] at hc
                obtain ⟨w1, hw1, rfl⟩ := isWayD_iff.mp hx
                obtain ⟨w2, hw2, rfl⟩ := isWayD_iff.mp hy
                rw [unT_dT, unT_dT] at hc
                refine go_ret (R := (· = judD n b e (.tuple [.str z, dT w1, dT w2]))) (ev_if (b := apartW w1 w2) (eb_T (ev_call (ea_two (i1 _ rfl) (i2 _ rfl)) ⟨n.os.length, w1, w2, by omega, (W_ok hn hb w1 hw1).len, (W_ok hn hb w2 hw2).len, rfl, rfl⟩)) (fun h => ?_) (fun h => ?_)) hR rfl
                · rw [h] at hc
                  exact ev_is (ev_lst (ea_one ev_str)) (pass _ hc).symm
                · rw [h] at hc
                  exact ev_is (ev_tup (ea_two ev_str ev_str)) (fail _ hc).symm
          · have h2' := of_decide_eq_false h2
            have h3 : z = "all" := hz2.resolve_left h2'
            have hc : chkD n b e (.tuple [.str z, x, y]) = (allTakeD n b e x y, ("all" : Str)) := by
              unfold chkD
              exact (if_neg h2').trans (if_pos h3)
            rw [allTake_eq] at hc
            refine q_if (b := (!isWholeD x 0 (n.os.length : Nat)) || (!isWholeD y 0 ((n.k : Int) - 1))) (eb_or (eb_not (eb_B (ev_call (ea_three (i1 _ rfl) ev_int (ev_is (ev_lenT (es := n.os.map dT) (ev_ixT (es := [dI n.b, .tuple (n.os.map dT)]) (ev_var rfl).r ev_int.r rfl).r) (by rw [List.length_map]))) ⟨_, _, _, rfl, rfl⟩))) fun _ => eb_not (eb_B (ev_call (ea_three (i2 _ rfl) ev_int (ev_sub (i := ((2 ^ n.b : Nat) : Int)) (ev_call (ea_one (ev_ixT (es := [dI n.b, .tuple (n.os.map dT)]) (ev_var rfl).r ev_int.r rfl)) ⟨n.b, by omega, rfl, rfl⟩).r ev_int.r)) ⟨_, _, _, rfl, rfl⟩))) (fun h => ?_) (fun h => ?_)
            · refine go_ret (R := (· = judD n b e (.tuple [.str z, x, y]))) (ev_tup (ea_two ev_str ev_str)) hR (fail "all" ?_).symm
              rw [hc]
              congr 1
              cases hx : isWholeD x 0 (n.os.length : Nat) <;> cases hy : isWholeD y 0 ((n.k : Int) - 1) <;> simp_all
            · have hx : isWholeD x 0 (n.os.length : Nat) = true := by cases hx : isWholeD x 0 (n.os.length : Nat) <;> simp_all
              have hy : isWholeD y 0 ((n.k : Int) - 1) = true := by cases hy : isWholeD y 0 ((n.k : Int) - 1) <;> simp_all
              rw [hx, hy, Bool.true_and, Bool.true_and] at hc
              have ex := whole_unI hx
              have ey := whole_unI hy
              refine go_ret (R := (· = judD n b e (.tuple [.str z, x, y]))) (ev_if (b := decide (Wn n b e ≠ []) && decide ((unI x, unI y) ∈ commonW (Wn n b e))) (eb_and (eb_T (ev_is (ev_ne (n := 2) (m := 2) (ev_var rfl).r (ev_lst ea_nil).r (shp_ways _) (shp_ways [])) (by rw [eqv_nil, isEmpty_eq]; simp))) fun hw => ?_) (fun h => ?_) (fun h => ?_)) hR rfl
              · refine (eb_T (ev_inL (n := 1) (m := 1) (ev_is (ev_tup (ea_two (i1 _ rfl) (i2 _ rfl))) (show _ = dP (unI x, unI y) by rw [ex, ey]; rfl)).r (ev_call (ea_one (ev_var rfl)) ⟨_, _, W_ws hn hb (of_decide_eq_true hw), rfl, rfl⟩).r (shp_dP _) (Shp.map fun q _ => shp_dP q))).is ?_
                rw [any_dP]
              · rw [h] at hc
                exact ev_is (ev_lst (ea_one ev_str)) (pass _ hc).symm
              · rw [h] at hc
                exact ev_is (ev_tup (ea_two ev_str ev_str)) (fail _ hc).symm
        · have hc : chkD n b e (.tuple [.str "none"]) = (decide (Wn n b e = []), ("none" : Str)) := by
            unfold chkD
            exact if_pos rfl
          refine q_if (b := true) ?_ (fun _ => ?_) (fun h => Bool.noConfusion h)
          · refine (eb_T (ev_eq (n := 0) (m := 0) (ev_ixT (es := [.str "none"]) (ev_var rfl).r ev_int.r (atI_get (i := 0) (d := .str "none") rfl)).r ev_str.r hz (Shp.str (by decide +kernel)))).is ?_
            simp only [PyData.eqv]
            exact beq_self_eq_true _
          · refine go_ret (R := (· = judD n b e (.tuple [.str "none"]))) (ev_if (b := decide (Wn n b e = [])) (eb_T (isN _ rfl)) (fun h => ?_) (fun h => ?_)) hR rfl
            · rw [h] at hc
              exact ev_is (ev_lst (ea_one ev_str)) (pass _ hc).symm
            · rw [h] at hc
              exact ev_is (ev_tup (ea_two ev_str ev_str)) (fail _ hc).symm
  · have hh' : headed p = false := by simpa using hh
    refine q_if (b := true) ?_ (fun _ => form _ _ rfl (chk_bad hh')) (fun h => Bool.noConfusion h)
    cases p with
    | tuple xs =>
      cases xs with
      | nil => exact (eb_or (a := false) ((eb_not (eb_B (ev_cbv (ev_var rfl).r cv_tup))).is rfl) fun _ => (eb_or (a := true) (b := true) ((eb_B (ev_eq (n := 8) (m := 1) (ev_var rfl).r (ev_tup ea_nil).r hp (Shp.tup fun d hd => nomatch hd))).is (by simp [PyData.eqv, PyData.eqvAll])) fun h => Bool.noConfusion h).is rfl).is rfl
      | cons x xs =>
        refine (eb_or (a := false) ((eb_not (eb_B (ev_cbv (ev_var rfl).r cv_tup))).is rfl) fun _ => (eb_or (a := false) (b := true) ((eb_B (ev_eq (n := 8) (m := 1) (ev_var rfl).r (ev_tup ea_nil).r hp (Shp.tup fun d hd => nomatch hd))).is (by simp [PyData.eqv, PyData.eqvAll])) fun _ => (eb_not (eb_B (ev_cbv (ev_ixT (es := x :: xs) (ev_var rfl).r ev_int.r (atI_get (i := 0) (d := x) rfl)).r cv_str))).is ?_).is rfl).is rfl
        cases x with
        | str z => unfold headed at hh'; simp at hh'
        | _ => rfl
    | _ => exact (eb_or (a := true) (b := true) ((eb_not (eb_B (ev_cbv (ev_var rfl).r cv_tup))).is rfl) fun h => Bool.noConfusion h).is rfl
end
end Kd
namespace Kd
open PySem L2
open PyProof.Rows (envOfC)
theorem units1 {k : Nat} {A : Around} (hr : Room k A) : A.units + 1 < cLine := by have := hr.units; omega
theorem key_ne {a b : Str} (h : a ≠ b) : ¬ (Sum.inr a : Key) = .inr b := fun e => h (Sum.inr.inj e)
section
variable {m : MD} {n n' : Int}
theorem m_cells : valV (mKvs m n) (.inr "cells") = some (.ref m.c) := valV_pos rfl
theorem m_great : valV (mKvs m n) (.inr "great") = some (.ref m.g) := (valV_neg (key_ne (by decide +kernel))).trans (valV_pos rfl)
theorem m_spot : valV (mKvs m n) (.inr "spot") = some (.int n) := (valV_neg (key_ne (by decide +kernel))).trans ((valV_neg (key_ne (by decide +kernel))).trans (valV_pos rfl))
theorem m_put : putK (mKvs m n) (.inr "spot") (.int n') = mKvs m n' := by
  have h1 : ¬ (Sum.inr ("cells" : Str) : Key) = .inr "spot" := key_ne (by decide +kernel)
  have h2 : ¬ (Sum.inr ("great" : Str) : Key) = .inr "spot" := key_ne (by decide +kernel)
  unfold putK mKvs
  rw [if_pos (by simp)]
  simp only [List.map_cons, List.map_nil]
  rw [if_neg h1, if_neg h2, if_pos trivial]
end
section
variable {m : MD} {T : List (Addr × Str)} {f f' : Nat} {L : Own} {G H : Hp} {n : Int} {cs gs : List Int}
theorem W.notM (w : W ⟨some m, T⟩ f L G H) : m.d ∉ L.map (·.1) ∧ m.c ∉ L.map (·.1) ∧ m.g ∉ L.map (·.1) ∧ m.d ∉ T.map (·.1) ∧ m.c ∉ T.map (·.1) ∧ m.g ∉ T.map (·.1) ∧ m.d ≠ m.c ∧ m.d ≠ m.g ∧ m.c ≠ m.g := by
  have h := w.nd
  simp only [addrs, addrsM, List.nodup_append, List.mem_append, List.mem_cons, List.not_mem_nil, or_false, List.nodup_cons, List.nodup_nil, and_true, not_or] at h
  obtain ⟨_, ⟨⟨⟨a1, a2⟩, a3, _⟩, _, a4⟩, a5⟩ := h
  refine ⟨fun q => a5 _ q _ (.inl (.inl rfl)) rfl, fun q => a5 _ q _ (.inl (.inr (.inl rfl))) rfl, fun q => a5 _ q _ (.inl (.inr (.inr rfl))) rfl, fun q => a4 _ (.inl rfl) _ q rfl, fun q => a4 _ (.inr (.inl rfl)) _ q rfl, fun q => a4 _ (.inr (.inr rfl)) _ q rfl, a1, a2, ?_⟩
  exact fun e => absurd e (by simpa using a3)
theorem MIn.mono {H' : Hp} (e : Ex H H') (a : MIn m f n cs gs H) : MIn m f n cs gs H' := ⟨e _ _ a.hd, e _ _ a.hc, e _ _ a.hg, a.cl, a.cb, a.gb, a.n0, a.nf, a.gl⟩
/-- a drawn number's state is written -/
theorem W.at (w : W ⟨some m, T⟩ f L G H) {p : Addr} {o o' : HO} (hp : p = m.d ∨ p = m.c ∨ p = m.g) (ho : H p = some o') (hc : ∀ c q, o' ≠ LamX.CodeO c q) (hm : MOkM (some m) f' (upd H p o)) : W ⟨some m, T⟩ f' L G (upd H p o) := by
  obtain ⟨b1, b2, b3, b4, b5, b6, b7, b8, b9⟩ := w.notM
  have gp : G p = none := w.nog p (List.mem_append_right _ (List.mem_append_left _ (by rcases hp with rfl | rfl | rfl <;> simp [addrsM])))
  refine ⟨fun a u e => ?_, fun q es hq => ?_, w.nog, w.nd, ⟨hm, tabs_but w.st.2 (by rcases hp with rfl | rfl | rfl <;> assumption) fun c q z => hc c q ?_⟩, w.nt⟩
  · have ne : a ≠ p := fun z => by rw [z, gp] at e; cases e
    rw [upd_ne ne]; exact w.ex a u e
  · obtain ⟨xs, h1, h2⟩ := w.own q es hq
    have hq' : q ∈ L.map (·.1) := List.mem_map.mpr ⟨_, hq, rfl⟩
    have ne : q ≠ p := fun z => by subst z; rcases hp with rfl | rfl | rfl <;> contradiction
    exact ⟨xs, by rw [upd_ne ne]; exact h1, h2⟩
  · rw [ho] at z; exact Option.some.inj z
theorem lst_noCode {xs : List V} (c : Addr) (q : Str) : HO.lst xs ≠ LamX.CodeO c q := fun z => by unfold LamX.CodeO at z; cases z
theorem dK_noCode {xs : List (Key × V)} (c : Addr) (q : Str) : HO.dK xs ≠ LamX.CodeO c q := fun z => by unfold LamX.CodeO at z; cases z
theorem W.spot (w : W ⟨some m, T⟩ (f + 1) L G H) (h : MIn m (f + 1) n cs gs H) : W ⟨some m, T⟩ f L G (upd H m.d (.dK (mKvs m (n + 1)))) ∧ MIn m f (n + 1) cs gs (upd H m.d (.dK (mKvs m (n + 1)))) := by
  obtain ⟨b1, b2, b3, b4, b5, b6, b7, b8, b9⟩ := w.notM
  have hm : MIn m f (n + 1) cs gs (upd H m.d (.dK (mKvs m (n + 1)))) := ⟨upd_same, by rw [upd_ne (Ne.symm b7)]; exact h.hc, by rw [upd_ne (Ne.symm b8)]; exact h.hg, h.cl, h.cb, h.gb, by have := h.n0; omega, by have := h.nf; push_cast at this; omega, h.gl⟩
  exact ⟨w.at (.inl rfl) h.hd dK_noCode ⟨_, _, _, hm⟩, hm⟩
theorem W.great (w : W ⟨some m, T⟩ f L G H) (h : MIn m f n cs gs H) {j : Nat} {x : Int} (hx : 0 ≤ x) : W ⟨some m, T⟩ f L G (upd H m.g (.lst ((gs.map V.int).set j (.int x)))) := by
  obtain ⟨b1, b2, b3, b4, b5, b6, b7, b8, b9⟩ := w.notM
  refine w.at (.inr (.inr rfl)) h.hg lst_noCode ⟨n, cs, gs.set j x, by rw [upd_ne b8]; exact h.hd, by rw [upd_ne b9]; exact h.hc, by rw [upd_same, List.map_set], h.cl, h.cb, fun y hy => ?_, h.n0, h.nf, by rw [List.length_set]; exact h.gl⟩
  rcases List.mem_or_eq_of_mem_set hy with hy | rfl
  · exact h.gb y hy
  · exact hx
end
section
variable {K : PySem.W.Frag} {M : MS} {G0 : Hp} {D : Ends} {L : Own} {ds : DS} {te ta tb tc : TE} {tt : TT} {tA : TA} {t u : TS} {x y z d r : PyData} {f f' f1 f2 : Nat} {es gs items : List PyData} {v0 : V}
theorem go_asgV {i : Nat} (h : EvV M L te ds v0) (k : Nx M G0 D f L (ds.set i (some (.raw v0)))) : Go M G0 D (tAsg te (gName i)) f L ds := fun σ G H e w sl =>
  h f L (Sub.refl L) σ G H w sl _ fun G2 H2 e2 w2 => k _ G2 H2 (e.trans e2) w2 ((sl.mono e2).set i (sd := .raw v0) rfl)
theorem q_asgV {i : Nat} (h : EvV M L te ds v0) (k : Go M G0 D u f L (ds.set i (some (.raw v0)))) : Go M G0 D (tSeq (tAsg te (gName i)) u) f L ds := go_asgV (D := { D with nx := u D }) h k
end
theorem EvAN.imp {M : MS} {L : Own} {tA : TA} {ds : DS} {f f' : Nat} {P P' : List PyData → Prop} (h : EvAN M L tA ds f f' P) (i : ∀ d, P d → P' d) : EvAN M L tA ds f f' P' := fun L' s σ G H w sl Q q => h L' s σ G H w sl Q fun v d G2 H2 e w2 p r => q v d G2 H2 e w2 (i d p) r
section
variable {K : PySem.W.Frag} {m : MD} {T : List (Addr × Str)} {L : Own} {ds : DS} {ta tb : TE} {f : Nat}
theorem m_at {G H : Hp} {x : Str} {v : V} {L' : Own} (w : W ⟨some m, T⟩ f L' G H) (hv : ∀ n, valV (mKvs m n) (.inr x) = some v) : DGet H m.d (.str x) (some v) := by
  obtain ⟨n, cs, gs, h⟩ := w.st.1
  rw [← hv n]
  exact DGet.k (k := .inr x) h.hd
theorem ev_mget {i : Nat} {x : Str} {v : V} (h : ds[i]? = some (some (.raw (.ref m.d)))) (hv : ∀ n, valV (mKvs m n) (.inr x) = some v) : EvV ⟨some m, T⟩ L (tDGet (tVar i) (tC (.str x))) ds v := fun f L' s σ G H w sl Q q => by
  obtain ⟨u, h1, h2⟩ := sl.at_ i _ h
  have e : u = .ref m.d := h2
  subst e
  exact ⟨_, h1, m.d, v, rfl, m_at w hv, q G H (Evl.Ex.refl G) w⟩
theorem en_cell {i : Nat} {j : Int} (h : ds[i]? = some (some (.raw (.ref m.c)))) (hb : EvR ⟨some m, T⟩ L tb ds (.int j)) (h0 : 0 ≤ j) (h1 : j < 64) : EvN ⟨some m, T⟩ L (tOp (rIxG K) (tVar i) tb) ds f f (fun d => ∃ c : Int, d = .int c) := fun L' s σ G H w sl Q q => by
  obtain ⟨u, g1, g2⟩ := sl.at_ i _ h
  have e : u = .ref m.c := g2
  subst e
  refine ⟨_, g1, hb f L' s σ G H w sl _ fun b G3 H3 e3 w3 r3 => ?_⟩
  obtain ⟨n, cs, gs, a⟩ := w3.st.1
  have hl := a.cl
  obtain ⟨k, rfl⟩ : ∃ k : Nat, j = (k : Int) := ⟨j.toNat, by omega⟩
  have hjn : k < (cs.map V.int).length := by rw [List.length_map]; omega
  refine .inl ⟨m.c, cs.map V.int, (k : Int), .int (cs[k]'(by omega)), rfl, r3.int, SqL.of a.hc, ?_, q _ _ G3 H3 e3 w3 ⟨_, rfl⟩ (.int _)⟩
  unfold atI
  rw [Evl.ixN_nat hjn]
  simp
end
/-! ### defs that draw -/
def startM (N : List Str) (m : MD) (ds : List PyData) : DS := some (.raw (.ref m.d)) :: (ds.map (fun d => some (.dat d)) ++ List.replicate (N.length - (ds.length + 1)) none)
theorem Sl.startM {G : Hp} {N : List Str} {m : MD} {vs : List V} {ds : List PyData} (h : DvAll G vs ds) : Sl G (L2.start N (.ref m.d :: vs)) (startM N m ds) := by
  have hl := h.length
  have e : L2.start N (.ref m.d :: vs) = some (.ref m.d) :: (vs.map some ++ List.replicate (N.length - (vs.length + 1)) none) := by
    unfold L2.start
    simp
  have key : Sl G (vs.map some ++ List.replicate (N.length - (vs.length + 1)) none) (ds.map (fun d => some (.dat d)) ++ List.replicate (N.length - (ds.length + 1)) none) := by
    refine ⟨by simp [hl], fun i sd e => ?_⟩
    by_cases hi : i < ds.length
    · rw [List.getElem?_append_left (by simpa using hi), List.getElem?_map] at e
      cases q : ds[i]? with
      | none => rw [q] at e; cases e
      | some d =>
        rw [q] at e
        cases e
        obtain ⟨v, h1, h2⟩ := h.get q
        exact ⟨v, by rw [List.getElem?_append_left (by simpa [hl] using hi), List.getElem?_map, h1]; rfl, h2⟩
    · rw [List.getElem?_append_right (by simpa using Nat.le_of_not_lt hi)] at e
      rw [List.getElem?_replicate] at e
      split at e <;> cases e
  rw [e]
  refine ⟨by unfold Kd.startM; rw [List.length_cons, List.length_cons, key.len], fun i sd h => ?_⟩
  cases i with
  | zero => cases h; exact ⟨_, rfl, rfl⟩
  | succ i => exact key.at_ i sd h
section
variable {P : Program} {w : World} {K : PySem.W.Frag} {mg : Str → Option Value} {base : Heap} {k c : Nat} {f : Addr} {fd : FuncData} {ps N : List Str} {x : Str} {st : Stmt} {inp : List PyData → Prop} {out : List PyData → PyData → Prop}
theorem DefOk.drawn (F : FunAt K mg x st ps f fd) (S : FnScope N ps (defScope st)) (hlen : ∀ ds, inp ds → ds.length + 1 = ps.length)
    (hbody : ∀ (cdv : Value) (A : Around) (outer : List Env) (s : Shared) (H : Hp) (E : XK), A.guards = some [] → Room k (A.deeper (envOfC x (defScope st) s.heap.objs.size f cdv)) →
      ∃ t, PSs (cxOf CX0 P w K mg base N x (defScope st) f cdv A outer s H E).nox (defBody st) t ∧ ∀ m T fu L G0 D ds, inp ds → RtOk ⟨some m, T⟩ G0 D fu L (out ds) → Go ⟨some m, T⟩ G0 D t (fu + c) L (startM N m ds)) : DefOk P w K mg base x (k + 1) ps (spM c inp out) :=
  DefOk.of F S (fun vs H Q E ⟨m, T, fu, L, G, ws, ds, hv, _, hd, hi, _⟩ => by rw [hv, List.length_cons, hd.length]; exact hlen ds hi) fun cdv A outer s H vs Q E hg hr ⟨m, T, fu, L, G, ws, ds, hv, hw, hd, hi, hq⟩ => by
    obtain ⟨t, ht, hgo⟩ := hbody cdv A outer s H E hg hr
    subst hv
    exact ⟨t, ht, hgo m T fu L G _ ds hi (fun v d G2 H2 ho e w2 dv => hq v d G2 H2 ho e w2 dv) _ G H (Evl.Ex.refl G) hw (Sl.startM hd)⟩
end
section
variable {P : Program} {w : World} {K : PySem.W.Frag} {mg : Str → Option Value} {base : Heap} {f : Addr} {fd : FuncData} {CB fI : Addr}
def in_draw : List PyData → Prop := fun ds => ∃ k : Nat, 0 < k ∧ k ≤ 1000000 ∧ ds = [dI k]
def out_draw : List PyData → PyData → Prop := fun ds r => ∃ k j : Nat, ds = [dI k] ∧ j < k ∧ r = dI j
abbrev s_drawL : Stmt := top 44
abbrev N_drawL : List Str := ["_law_m", "_law_limit", "_law_n", "_law_lot", "_law_here", "_law_cell"]
abbrev ps_drawL : List Str := ["_law_m", "_law_limit"]
theorem sc_drawL : FnScope N_drawL ps_drawL (defScope s_drawL) := ⟨rfl, rfl, rfl, by decide +kernel, rfl, by decide +kernel, by decide +kernel⟩

theorem ok_drawL (F : FunAt K mg "_law_draw" s_drawL ps_drawL f fd) (B : Bt mg) (D_mixedL : DefOk P w K mg base "_law_mixed" 1 ps_mixedL (spD pre_mixedL)) : DefOk P w K mg base "_law_draw" 2 ps_drawL (spM 1 in_draw out_draw) := by
  refine DefOk.drawn F sc_drawL (fun ds ⟨k, _, _, h⟩ => by rw [h]; rfl) fun cdv A outer s H E hg hr => ?_
  have nd := sc_drawL.nd
  refine ⟨_, (pss_cons (ps_set (i := 2) nd rfl (Or.inl rfl) (pe_dget (units1 hr) (pv 0) pe_str (fun _ _ => rfl)))
    (pss_cons (ps_asg (pe_op (kAdd K) (pv 2) pe_int) (pg_sub (pv 0) pe_str (set_dict (units1 hr))))
    (pss_cons (ps_if (pt_cmpR (kNe K hr.units) (pe_dget (units1 hr) (pv 0) pe_str (fun _ _ => rfl)) (pe_lst pa_nil) (nomark _)) (pss_cons (ps_set (i := 3) nd rfl (Or.inl rfl) (pe_dget (units1 hr) (pv 0) pe_str (fun _ _ => rfl)))
    (pss_cons (ps_set (i := 4) nd rfl (Or.inl rfl) (pe_op op_mod (pe_callTy call_int1 (by rfl) B.int (by decide +kernel) (pa_cons (pv 2) pa_nil)) (pe_callB (kLen K) (by rfl) B.len (by decide +kernel) (pa_cons (pv 3) pa_nil))))
    (pss_cons (ps_set (i := 5) nd rfl (Or.inl rfl) (pe_ix (kIx K) (pv 3) (pv 4) (fun _ _ => rfl)))
    (pss_one (ps_if (pt_cmpR op_gt (pv 5) pe_int (nomark _)) (pss_cons (ps_asg (pe_op op_fdiv (pv 5) (pv 1)) (pg_sub (pv 3) (pv 4) set_list))
    (pss_one (ps_ret (pe_op op_mod (pe_callTy call_int1 (by rfl) B.int (by decide +kernel) (pa_cons (pv 5) pa_nil)) (pv 1))))) pss_nil))))) pss_nil)
    (pss_cons (ps_set (i := 3) nd rfl (Or.inl rfl) (pe_dget (units1 hr) (pv 0) pe_str (fun _ _ => rfl)))
    (pss_one (ps_ret (pe_op op_mod (pe_callTy call_int1 (by rfl) B.int (by decide +kernel) (pa_cons (pe_callD D_mixedL hg (hr.mono (by decide)) (by rfl) (pa_cons (pe_callD D_mixedL hg (hr.mono (by decide)) (by rfl) (pa_cons (pe_op (kAdd K) (pe_ix (kIx K) (pv 3) (pe_op op_mod (pe_callTy call_int1 (by rfl) B.int (by decide +kernel) (pa_cons (pv 2) pa_nil)) pe_int) (fun _ _ => rfl)) (pe_op (kMul K) pe_int (pe_op op_fdiv (pv 2) pe_int))) (pa_cons (pv 2) pa_nil))) (pa_cons (pe_op (kAdd K) (pv 2) pe_int) pa_nil))) pa_nil)) (pv 1)))))))), ?_⟩
  rintro m T fu L G0 D ds ⟨k, hk0, hk1, rfl⟩ hR
  have fin : ∀ c : Int, ∃ j : Nat, j < k ∧ (.int (c % (k : Int)) : PyData) = dI j := fun c => by
    have h1 := Int.emod_nonneg c (show (k : Int) ≠ 0 by omega)
    have h2 := Int.emod_lt_of_pos c (show (0 : Int) < k by omega)
    exact ⟨(c % (k : Int)).toNat, by omega, dI_eq (by omega)⟩
  have rest : ∀ (n : Int), 0 ≤ n → n ≤ 1000000 → ∀ a3 a4 a5, Go ⟨some m, T⟩ G0 D (tSeq (tAsg (tDGet (tVar 0) (tC (.str "cells"))) (gName 3)) (tRet (tOp (rI (fun _ j => 0 < j) fun i j => .int (i % j)) (tCB rIntG (tCons (tCall (spD pre_mixedL) [] E0 (tCons (tCall (spD pre_mixedL) [] E0 (tCons (tOp (rAddG K) (tOp (rIxG K) (tVar 3) (tOp (rI (fun _ j => 0 < j) fun i j => .int (i % j)) (tCB rIntG (tCons (tVar 2) tNil)) (tC (.int 64)))) (tOp (rMulG K) (tC (.int 31)) (tOp (rI CDiv fun i j => .int (i / j)) (tVar 2) (tC (.int 64))))) (tCons (tVar 2) tNil))) (tCons (tOp (rAddG K) (tVar 2) (tC (.int 7))) tNil))) tNil)) (tVar 1)))) fu L [some (.raw (.ref m.d)), some (.dat (dI k)), some (.dat (.int n)), a3, a4, a5] := fun n hn0 hn1 a3 a4 a5 => by
    have cm : ∀ {i j : Int}, (-(2 ^ 64) < i ∧ i < 2 ^ 64) → CMul i j := fun h => .inl h
    refine q_asgV (ev_mget rfl fun n => m_cells) ?_
    have s1 : EvN ⟨some m, T⟩ L (tOp (rAddG K) (tOp (rIxG K) (tVar 3) (tOp (rI (fun _ j => 0 < j) fun i j => .int (i % j)) (tCB rIntG (tCons (tVar 2) tNil)) (tC (.int 64)))) (tOp (rMulG K) (tC (.int 31)) (tOp (rI CDiv fun i j => .int (i / j)) (tVar 2) (tC (.int 64))))) [some (.raw (.ref m.d)), some (.dat (dI k)), some (.dat (.int n)), some (.raw (.ref m.c)), a4, a5] fu fu (fun d => ∃ c : Int, d = .int c) :=
      en_op (en_cell rfl (ev_mod (ev_int1 (ev_var rfl).r).r ev_int.r (by decide)).r (by omega) (by omega)) (fun x _ => (ev_mulI ev_int.r (ev_fdiv (ev_var rfl).r ev_int.r (by decide)).r (cm (by decide))).n (P := fun d => ∃ c : Int, d = .int c) ⟨_, rfl⟩) fun x y ⟨a, ha⟩ ⟨b, hb⟩ => by
        subst ha hb
        exact ⟨_, ROk.or1 ro_I0i, _, rfl⟩
    have mix : ∀ (te tb : TE) (n' : Int), 0 ≤ n' → n' ≤ 2000000 → EvN ⟨some m, T⟩ L te [some (.raw (.ref m.d)), some (.dat (dI k)), some (.dat (.int n)), some (.raw (.ref m.c)), a4, a5] fu fu (fun d => ∃ c : Int, d = .int c) → EvD ⟨some m, T⟩ L tb [some (.raw (.ref m.d)), some (.dat (dI k)), some (.dat (.int n)), some (.raw (.ref m.c)), a4, a5] (.int n') →
        EvN ⟨some m, T⟩ L (tCall (spD pre_mixedL) [] E0 (tCons te (tCons tb tNil))) [some (.raw (.ref m.d)), some (.dat (dI k)), some (.dat (.int n)), some (.raw (.ref m.c)), a4, a5] fu fu (fun d => ∃ c : Int, d = .int c) := fun te tb n' h0 h1 ha hb =>
      en_call (P := fun l => ∃ c : Int, l = [.int c, .int n']) (EvAN.imp (ean_cons ha fun x _ => (ea_one hb).n (f := fu) (f' := fu) (P := fun l => l = [.int n']) rfl) fun es ⟨x, es', ⟨c, hc⟩, h2, h3⟩ => ⟨c, by rw [h3, h2, hc]⟩) fun es ⟨c, hc⟩ => ⟨_, ⟨c, n', h0, h1, hc, rfl⟩, _, rfl⟩
    have s2 := mix _ (tVar 2) n hn0 (by omega) s1 (ev_var rfl)
    have s3 := mix _ (tOp (rAddG K) (tVar 2) (tC (.int 7))) (n + 7) (by omega) (by omega) s2 (ev_addI (ev_var rfl).r ev_int.r)
    have s4 := en_cb1 (r := rIntG) (T := fun d => ∃ c : Int, d = .int c) s3 fun x ⟨c, hc⟩ => by
      subst hc
      exact ⟨_, c1_int, _, rfl⟩
    refine go_retN (en_op (r := rI (fun _ j => 0 < j) fun i j => .int (i % j)) (T := out_draw [dI k]) s4 (fun x _ => (ev_var (d := dI k) rfl).n (P := fun d => d = dI k) rfl) fun x y ⟨c, hc⟩ hy => ?_) hR fun d h => h
    subst hc hy
    obtain ⟨j, hj, e⟩ := fin c
    exact ⟨_, ro_Ii (by omega), k, j, rfl, hj, e⟩
  intro σ G H e w sl
  obtain ⟨v0, h0, e0⟩ := sl.at_ 0 _ rfl
  obtain ⟨v1, h1, e1⟩ := sl.at_ 1 _ rfl
  have e0' : v0 = .ref m.d := e0
  have e1' : v1 = .int k := Dv.int' e1
  have hl : σ.length = 6 := sl.len
  match σ, hl with
  | [x0, x1, x2, x3, x4, x5], _ =>
    have h0' : x0 = some v0 := Option.some.inj h0
    have h1' : x1 = some v1 := Option.some.inj h1
    subst h0' h1' e0' e1'
    obtain ⟨n, cs, gs, a⟩ := w.st.1
    obtain ⟨w1, a1⟩ := w.spot a
    have slR : ∀ G2, Ex G G2 → ∀ y3 y4 y5, Sl G2 [some (.ref m.d), some (.int k), some (.int n), y3, y4, y5] [some (.raw (.ref m.d)), some (.dat (dI k)), some (.dat (.int n)), none, none, none] := fun G2 eg y3 y4 y5 => ⟨rfl, fun i sd h => by
      match i with
      | 0 => cases h; exact ⟨_, rfl, rfl⟩
      | 1 => cases h; exact ⟨_, rfl, .int _⟩
      | 2 => cases h; exact ⟨_, rfl, .int _⟩
      | 3 => cases h
      | 4 => cases h
      | 5 => cases h
      | i + 6 => cases h⟩
    have hn0 := a.n0
    have hn1 : n ≤ 1000000 := by have := a.nf; push_cast at this; omega
    refine ⟨_, rfl, m.d, .int n, rfl, m_spot (m := m) ▸ DGet.k (k := .inr "spot") a.hd, ?_⟩
    refine ⟨_, rfl, .inl ⟨n, 1, rfl, rfl, ?_⟩⟩
    refine ⟨_, rfl, m.d, _, rfl, DPut.k (k := .inr "spot") a.hd (by show 3 < sizeLine; rw [sizeLine_eq]; decide), ?_⟩
    rw [m_put]
    -- the test
    refine ⟨_, rfl, m.d, .ref m.g, rfl, m_great (m := m) ▸ DGet.k (k := .inr "great") a1.hd, ?_⟩
    refine ⟨Nat.zero_le _, fun p hp => ?_⟩
    have w2 := w1.new (o := .lst []) hp
    have eg := Evl.Ex.new (o := .lst []) (w1.gnone hp)
    have a2 := a1.mono (Evl.Ex.new (o := .lst []) hp)
    refine ⟨.list (gs.map .int), .list [], .lst (SqL.of a2.hg) (DvAll.dp _ _ (DvAll.ints gs)), .lst (SqL.of upd_same) .nil, (Shp.list (n := 0) (Shp.map fun _ _ => Shp.int _)).shaped, (Shp.list (n := 0) (ds := []) fun d hd => absurd hd List.not_mem_nil).shaped, _, rfl, ?_⟩
    rw [eqv_nil]
    by_cases hgs : gs = []
    · dsimp only
      rw [if_neg (by rw [hgs]; decide)]
      exact rest n hn0 hn1 none none none _ _ _ (e.trans eg) w2 (slR _ eg _ _ _)
    · dsimp only
      rw [if_pos (by simpa using hgs)]
      have hgl : 0 < gs.length := List.length_pos_iff.mpr hgs
      have hgl2 := a2.gl
      have h3 := Int.emod_nonneg n (show (gs.length : Int) ≠ 0 by omega)
      have h4 := Int.emod_lt_of_pos n (show (0 : Int) < gs.length by omega)
      obtain ⟨j, hj⟩ : ∃ j : Nat, n % (gs.length : Int) = j := ⟨(n % (gs.length : Int)).toNat, by omega⟩
      have hjl : j < gs.length := by omega
      obtain ⟨c, hc⟩ : ∃ c : Int, gs[j]? = some c := ⟨gs[j], by simp [hjl]⟩
      have hc0 := a2.gb c (List.mem_of_getElem? hc)
      have hlen : (gs.map V.int).length = gs.length := List.length_map _
      refine ⟨_, rfl, m.d, .ref m.g, rfl, m_great (m := m) ▸ DGet.k (k := .inr "great") a2.hd, ?_⟩
      refine ⟨_, rfl, .inl ⟨n, rfl, _, rfl, _, gs.length, rfl, .inl ⟨_, SqL.of a2.hg, hlen.symm⟩, n, (gs.length : Int), rfl, rfl, by omega, ?_⟩⟩
      dsimp only
      rw [hj]
      refine ⟨_, rfl, _, rfl, .inl ⟨m.g, _, (j : Int), .int c, rfl, rfl, SqL.of a2.hg, ?_, ?_⟩⟩
      · unfold atI
        rw [Evl.ixN_nat (by rw [hlen]; exact hjl)]
        show (gs.map V.int)[j]? = _
        rw [List.getElem?_map, hc]; rfl
      refine ⟨_, rfl, c, 0, rfl, rfl, _, rfl, ?_⟩
      by_cases hcp : 0 < c
      · dsimp only
        rw [if_pos (decide_eq_true hcp)]
        refine ⟨_, rfl, _, rfl, c, (k : Int), rfl, rfl, ⟨by omega, by omega⟩, ?_⟩
        refine ⟨_, rfl, _, rfl, m.g, _, (j : Int), j, rfl, rfl, a2.hg, Evl.ixN_nat (by rw [hlen]; exact hjl), ?_⟩
        have w3 := w2.great a2 (j := j) (x := c / (k : Int)) (Int.ediv_nonneg hc0 (by omega))
        refine ⟨_, rfl, .inl ⟨c, rfl, _, rfl, c, (k : Int), rfl, rfl, by omega, ?_⟩⟩
        obtain ⟨j', hj', ej⟩ := fin c
        exact hR _ _ _ _ ⟨k, j', rfl, hj', ej⟩ (e.trans eg) w3 (.int _)
      · dsimp only
        rw [if_neg (by simpa using hcp)]
        exact rest n hn0 hn1 none none none _ _ _ (e.trans eg) w2 (slR _ eg _ _ _)
end
end Kd
namespace Kd
open PySem L2
open PyProof.Rows (envOfC)
def rListC (K : PySem.W.Frag) : List V → Hp → VK → Prop := fun xs H Q => ∃ p ys, xs = [.ref p] ∧ (SqL K H p ys ∨ SqT K H p ys) ∧ ∀ l, H l = none → Q (.ref l) (upd H l (.lst ys))
theorem kListC {X : Cx} (K : PySem.W.Frag) (h : X.K = K := by rfl) : CallR X (.type "list") (rListC K) := by subst h; exact call_list_of
section
variable {bw : Bool} {K : PySem.W.Frag} {M : MS} {G0 : Hp} {D : Ends} {L : Own} {ds : DS} {te ta tb tc : TE} {tt : TT} {tA : TA} {t u : TS} {x y z d r : PyData} {f f' f1 f2 : Nat} {es gs items : List PyData} {v0 : V} {wi : TI} {p : Addr}
theorem ev_listT (h : EvR M L te ds (.tuple es)) : EvD M L (tCB (rListC K) (tCons te tNil)) ds (.list es) := ev_cb1 h fun f L' s G H u w r Q q => by
  obtain ⟨p, xs, rfl, h1, h1g, h2⟩ := r.tup w
  refine ⟨p, xs, rfl, .inr h1.sq, fun l hl => ?_⟩
  obtain ⟨e, w', d'⟩ := new_lst w h2 hl
  exact q _ _ _ e w' d'
theorem ef_listT (h : EvR M L te ds (.tuple es)) : EvF M L (tCB (rListC K) (tCons te tNil)) ds es := fun f L' s σ G H w sl Q q => h f L' s σ G H w sl _ fun u G2 H2 e2 w2 r => by
  obtain ⟨p, xs, rfl, h1, h1g, h2⟩ := r.tup w2
  exact ⟨p, xs, rfl, .inr h1.sq, fun l hl => q l G2 _ e2 (w2.newL hl h2)⟩
theorem go_parF {i j : Nat} (h1 : EvF M L te ds es) (h2 : EvD M L tb ds y) (k : ∀ p, Nx M G0 D f ((p, es) :: L) ((ds.set i (some (.raw (.ref p)))).set j (some (.dat y)))) : Go M G0 D (tPar i j (tCons te (tCons tb tNil))) f L ds := fun σ G H e w sl =>
  h1 f L (Sub.refl L) σ G H w sl _ fun p G2 H2 e2 w2 => h2 f _ (fun q hq => List.mem_cons_of_mem _ hq) σ G2 H2 w2 (sl.mono e2) _ fun v G3 H3 e3 w3 d3 =>
    ⟨_, _, rfl, k p _ G3 H3 ((e.trans e2).trans e3) w3 ((((sl.mono e2).mono e3).set i (sd := .raw (.ref p)) rfl).set j (sd := .dat y) d3)⟩
theorem q_parF {i j : Nat} (h1 : EvF M L te ds es) (h2 : EvD M L tb ds y) (k : ∀ p, Go M G0 D u f ((p, es) :: L) ((ds.set i (some (.raw (.ref p)))).set j (some (.dat y)))) : Go M G0 D (tSeq (tPar i j (tCons te (tCons tb tNil))) u) f L ds := go_parF (D := { D with nx := u D }) h1 h2 k
/-- while: the word Iv by a measure -/
def IvW (M : MS) (G0 : Hp) (Iv : Nat → Nat → Own → DS → Prop) (m : Nat) : L2.St → Hp → Prop := fun σ H => ∃ m', m' < m ∧ IvP M G0 Iv m' σ H
theorem nx_ivw {Iv : Nat → Nat → Own → DS → Prop} {m m' : Nat} {N2 N3 : L2.St → Hp → Prop} (hm : m' < m) (h : Iv m' f L ds) : Nx M G0 { D with nx := IvW M G0 Iv m, ct := N2, bk := N3 } f L ds := fun σ G H e w sl => ⟨m', hm, G, f, L, ds, e, w, sl, h⟩
theorem go_while {m0 : Nat} (Iv : Nat → Nat → Own → DS → Prop) (h0 : Iv m0 f L ds)
    (hs : ∀ G1, Ex G0 G1 → ∀ m f1 L1 ds1, Iv m f1 L1 ds1 → ∃ b, EvB M L1 tt ds1 b ∧ (b = true → Go M G1 { D with nx := IvW M G1 Iv m, ct := IvW M G1 Iv m, bk := D.nx } t f1 L1 ds1) ∧ (b = false → Nx M G1 D f1 L1 ds1)) : Go M G0 D (tWhile tt t) f L ds := fun σ G H e w sl => by
  refine ⟨fun m σ H => IvP M G Iv m σ H, ⟨m0, G, f, L, ds, Evl.Ex.refl _, w, sl, h0⟩, ?_⟩
  rintro m σ' H' ⟨G3, f1, L1, ds1, e3, w3, sl3, iv⟩
  obtain ⟨b, hb, h1, h2⟩ := hs G e m f1 L1 ds1 iv
  refine hb f1 L1 (Sub.refl _) σ' G3 H' w3 sl3 _ fun G4 H4 e4 w4 => ?_
  cases b with
  | true =>
    rw [if_pos rfl]
    exact ⟨IvW M G Iv m, fun σ2 H2 ⟨m', hm, q⟩ => ⟨m', hm, q⟩, h1 rfl σ' G4 H4 (e3.trans e4) w4 (sl3.mono e4)⟩
  | false =>
    rw [if_neg Bool.false_ne_true]
    exact h2 rfl σ' G4 H4 (e3.trans e4) w4 (sl3.mono e4)
theorem q_while {m0 : Nat} (Iv : Nat → Nat → Own → DS → Prop) (h0 : Iv m0 f L ds)
    (hs : ∀ G1, Ex G0 G1 → ∀ m f1 L1 ds1, Iv m f1 L1 ds1 → ∃ b, EvB M L1 tt ds1 b ∧ (b = true → Go M G1 { { D with nx := u D } with nx := IvW M G1 Iv m, ct := IvW M G1 Iv m, bk := u D } t f1 L1 ds1) ∧ (b = false → Go M G1 D u f1 L1 ds1)) : Go M G0 D (tSeq (tWhile tt t) u) f L ds :=
  go_while (D := { D with nx := u D }) Iv h0 hs
end
theorem map_erase {α β : Type} (g : α → β) : ∀ (l : List α) (i : Nat), (l.map g).eraseIdx i = (l.eraseIdx i).map g
  | [], _ => rfl
  | x :: l, 0 => rfl
  | x :: l, i + 1 => by
    rw [List.map_cons, List.eraseIdx_cons_succ, List.eraseIdx_cons_succ, List.map_cons, map_erase g l i]
theorem perm_erase : ∀ (l : List Nat) (i x : Nat), l[i]? = some x → (x :: l.eraseIdx i).Perm l
  | [], _, _, h => by simp at h
  | y :: l, 0, x, h => by
    have : y = x := by simpa using h
    subst this
    exact List.Perm.refl _
  | y :: l, i + 1, x, h => by
    rw [List.eraseIdx_cons_succ]
    exact (List.Perm.swap y x _).trans (List.Perm.cons y (perm_erase l i x (by simpa using h)))
section
variable {bw : Bool} {K : PySem.W.Frag} {m : MD} {T : List (Addr × Str)} {G0 : Hp} {D : Ends} {L : Own} {ds : DS} {te ta tb tc : TE} {tA : TA} {f k : Nat}
/-- a drawn number -/
theorem en_draw {i : Nat} (hm : ds[i]? = some (some (.raw (.ref m.d)))) (h : EvD ⟨some m, T⟩ L te ds (dI k)) (h0 : 0 < k) (h1 : k ≤ 1000000) : EvN ⟨some m, T⟩ L (tCall (spM 1 in_draw out_draw) [] E0 (tCons (tVar i) (tCons te tNil))) ds (f + 1) f (fun d => ∃ j, j < k ∧ d = dI j) :=
  en_callM (P := fun l => l = [dI k]) hm ((ea_one h).n (f := f + 1) (f' := f + 1) (P := fun l => l = [dI k]) rfl) fun es he => by
    subst he
    exact ⟨⟨k, h0, h1, rfl⟩, fun r ⟨k', j, hk, hj, hr⟩ => ⟨j, by have := dI_inj (List.cons.inj hk).1; omega, hr⟩⟩
/-- found + (left.pop(draw(m, len(left))),) -/
theorem go_pop {i j l : Nat} {p : Addr} {lf : List Nat} {es : List PyData} (hm : ds[i]? = some (some (.raw (.ref m.d)))) (hp : ds[j]? = some (some (.raw (.ref p)))) (hl : ds[l]? = some (some (.dat (.tuple es)))) (hne : lf ≠ []) (hll : lf.length ≤ 1000) (hle : es.length ≤ 1000)
    (hk : ∀ q x, lf[q]? = some x → Nx ⟨some m, T⟩ G0 D f ((p, (lf.eraseIdx q).map dI) :: L) (ds.set l (some (.dat (.tuple (es ++ [dI x])))))) :
    Go ⟨some m, T⟩ G0 D (tAsg (tOp (rAddG K) (tVar l) (tTupX (tCons (tBM K "list" rPopAt (tVar j) (tCons (tCall (spM 1 in_draw out_draw) [] E0 (tCons (tVar i) (tCons (tCB (rLenG K) (tCons (tVar j) tNil)) tNil))) tNil)) tNil))) (gName l)) (f + 1) ((p, lf.map dI) :: L) ds := fun σ G H e w sl => by
  obtain ⟨v1, g1, g2⟩ := sl.at_ l _ hl
  refine ⟨v1, g1, ?_⟩
  obtain ⟨v2, g3, g4⟩ := sl.at_ j _ hp
  have e2 : v2 = .ref p := g4
  subst e2
  obtain ⟨xs, hx, hxd⟩ := w.own p _ List.mem_cons_self
  have hlen : 0 < lf.length := List.length_pos_iff.mpr hne
  refine ⟨_, g3, .inl ⟨rfl, xs, SqL.of hx⟩, en_draw (k := lf.length) (f := f) hm (ev_is (ev_lenL (es := lf.map dI) (er_own hp List.mem_cons_self)) (dI_eq (by rw [List.length_map]))) hlen (by omega) _ (Sub.refl _) σ G H w sl _ fun v d G2 H2 e2 w2 ⟨q, hq, hd⟩ dv => ?_⟩
  subst hd
  have ev := Dv.int' dv
  subst ev
  obtain ⟨ys, hy, hyd⟩ := w2.own p _ List.mem_cons_self
  obtain ⟨x, hxq⟩ : ∃ x, lf[q]? = some x := ⟨lf[q], by simp [hq]⟩
  obtain ⟨u, hu, hud⟩ := hyd.get (i := q) (d := dI x) (by rw [List.getElem?_map, hxq]; rfl)
  have hyl : ys.length = lf.length := by rw [hyd.length, List.length_map]
  refine ⟨p, ys, (q : Int), q, u, rfl, rfl, hy, by omega, by omega, ?_, hu, ?_⟩
  · have := StrLaws.seqIndex_nonneg (i := (q : Int)) (n := ys.length) (by omega) (by omega)
    rw [this]; rfl
  have w3 : W ⟨some m, T⟩ f ((p, (lf.eraseIdx q).map dI) :: L) G2 (upd H2 p (.lst (ys.eraseIdx q))) := by
    have := w2.set (hyd.eraseIdx q)
    rw [map_erase] at this
    exact this
  refine ⟨by show 1 ≤ sizeLine; rw [sizeLine_eq]; decide, fun a o ha ho => ?_⟩
  obtain ⟨e4, w4, d4⟩ := new_tup w3 (.cons hud .nil) ha ho
  refine ROk.or2 (r := rAddI) (ROk.or2 (r := rCat) (ro_catT (K := K) (es := es) (gs := [dI x]) (by simp only [List.length_cons, List.length_nil]; omega))) f _ (Sub.refl _) _ _ v1 _ w4 (.inl (Dv.mono e4 _ _ (Dv.mono e2 _ _ g2))) (.inl d4) _ fun v5 G5 H5 e5 w5 d5 => ?_
  exact hk q x hxq _ G5 H5 (((e.trans e2).trans e4).trans e5) w5 ((((sl.mono e2).mono e4).mono e5).set l (sd := .dat _) d5)
end
section
variable {P : Program} {w : World} {K : PySem.W.Frag} {mg : Str → Option Value} {base : Heap} {f : Addr} {fd : FuncData} {CB fI : Addr}
def in_of : List PyData → Prop := fun ds => ∃ es : List PyData, es ≠ [] ∧ es.length ≤ 1000 ∧ ds = [.list es]
def out_of : List PyData → PyData → Prop := fun ds r => ∃ es : List PyData, ds = [.list es] ∧ r ∈ es
abbrev s_ofL : Stmt := top 47
abbrev N_ofL : List Str := ["_law_m", "_law_some"]
abbrev ps_ofL : List Str := ["_law_m", "_law_some"]
theorem sc_ofL : FnScope N_ofL ps_ofL (defScope s_ofL) := ⟨rfl, rfl, rfl, by decide +kernel, rfl, by decide +kernel, by decide +kernel⟩

theorem ok_ofL (F : FunAt K mg "_law_of" s_ofL ps_ofL f fd) (B : Bt mg) (D_drawL : DefOk P w K mg base "_law_draw" 2 ps_drawL (spM 1 in_draw out_draw)) : DefOk P w K mg base "_law_of" 3 ps_ofL (spM 1 in_of out_of) := by
  refine DefOk.drawn F sc_ofL (fun ds ⟨es, _, _, h⟩ => by rw [h]; rfl) fun cdv A outer s H E hg hr => ?_
  have nd := sc_ofL.nd
  refine ⟨_, (pss_one (ps_ret (pe_ix (kIx K) (pv 1) (pe_callD D_drawL hg (hr.mono (by decide)) (by rfl) (pa_cons (pv 0) (pa_cons (pe_callB (kLen K) (by rfl) B.len (by decide +kernel) (pa_cons (pv 1) pa_nil)) pa_nil))) (fun _ _ => rfl)))), ?_⟩
  rintro m T fu L G0 D ds ⟨es, hne, hle, rfl⟩ hR
  have hlen : 0 < es.length := List.length_pos_iff.mpr hne
  refine go_retN (P := fun d => d ∈ es) (f' := fu) (en_opR (x := .list es) (ev_var rfl).r (en_draw (k := es.length) rfl (ev_lenL (ev_var rfl).r) hlen (by omega)) fun y ⟨j, hj, hy⟩ => ?_) hR fun d hd => ⟨es, rfl, hd⟩
  subst hy
  exact ⟨es[j], ROk.or1 (ro_ixL (atI_get (by simp [hj]))), List.getElem_mem hj⟩

def in_shuffled : List PyData → Prop := fun ds => ∃ k : Nat, k ≤ 8 ∧ ds = [dI k]
def out_shuffled : List PyData → PyData → Prop := fun ds r => ∃ (k : Nat) (o : List Nat), ds = [dI k] ∧ IsOrd k o ∧ r = dT o
abbrev s_shuffledL : Stmt := top 54
abbrev N_shuffledL : List Str := ["_law_m", "_law_many", "_law_left_here", "_law_found"]
abbrev ps_shuffledL : List Str := ["_law_m", "_law_many"]
theorem sc_shuffledL : FnScope N_shuffledL ps_shuffledL (defScope s_shuffledL) := ⟨rfl, rfl, rfl, by decide +kernel, rfl, by decide +kernel, by decide +kernel⟩

theorem ord_perm {k : Nat} {o : List Nat} (h : o.Perm (List.range k)) : IsOrd k o := ⟨by rw [h.length_eq, List.length_range], h.nodup_iff.mpr List.nodup_range, fun x hx => List.mem_range.mp (h.mem_iff.mp hx)⟩
theorem ok_shuffledL (F : FunAt K mg "_law_shuffled" s_shuffledL ps_shuffledL f fd) (B : Bt mg) (D_drawL : DefOk P w K mg base "_law_draw" 2 ps_drawL (spM 1 in_draw out_draw)) : DefOk P w K mg base "_law_shuffled" 3 ps_shuffledL (spM 8 in_shuffled out_shuffled) := by
  refine DefOk.drawn F sc_shuffledL (fun ds ⟨k, _, h⟩ => by rw [h]; rfl) fun cdv A outer s H E hg hr => ?_
  have nd := sc_shuffledL.nd
  refine ⟨_, (pss_cons (ps_par (i := 2) (j := 3) rfl nd rfl rfl (by decide) rfl rfl (pa_cons (pe_listRg rfl (by rfl) B.list (prg_1 (by rfl) B.range (pv 1))) (pa_cons (pe_tupX pa_nil) pa_nil)) (by rfl))
    (pss_cons (ps_while PassesOwn.never (pt_cmpR (kNe K hr.units) (pv 2) (pe_lst pa_nil) (nomark _)) (pss_one (ps_set (i := 3) nd rfl (Or.inl rfl) (pe_op (kAdd K) (pv 3) (pe_tupX (pa_cons (pe_bm PySem.F.plainAttrs_list PySem.F.slot_list_pop PySem.F.type_list_pop mt_popAt (pv 2) (pa_cons (pe_callD D_drawL hg (hr.mono (by decide)) (by rfl) (pa_cons (pv 0) (pa_cons (pe_callB (kLen K) (by rfl) B.len (by decide +kernel) (pa_cons (pv 2) pa_nil)) pa_nil))) pa_nil)) pa_nil))))))
    (pss_one (ps_ret (pv 3))))), ?_⟩
  rintro m T fu L G0 D ds ⟨k, hk, rfl⟩ hR
  refine q_parF (es := (List.range k).map dI) (y := dT []) ?_ (ev_tup ea_nil) fun p => ?_
  · rw [← rng0]
    exact ef_listRg1 (ev_var rfl) (by omega) (by omega)
  refine q_while (m0 := k) (fun mm f1 L1 ds1 => ∃ lf fd, lf.length = mm ∧ (fd ++ lf).Perm (List.range k) ∧ f1 = fu + (8 - k) + mm ∧ L1 = (p, lf.map dI) :: L ∧ ds1 = [some (.raw (.ref m.d)), some (.dat (dI k)), some (.raw (.ref p)), some (.dat (dT fd))]) ⟨List.range k, [], List.length_range, List.Perm.refl _, by omega, rfl, rfl⟩ ?_
  rintro G1 eg mm f1 L1 ds1 ⟨lf, fd, rfl, hperm, rfl, rfl, rfl⟩
  have hln := hperm.length_eq
  rw [List.length_append, List.length_range] at hln
  refine ⟨!lf.isEmpty, (eb_T (ev_ne (n := 1) (m := 1) (er_own rfl List.mem_cons_self) (ev_lst ea_nil).r (Shp.list (Shp.map fun _ _ => shp_dI _)) (Shp.list fun d hd => nomatch hd))).is (by rw [eqv_nil]), fun hb => ?_, fun hb => ?_⟩
  · have hne : lf ≠ [] := by intro e; rw [e] at hb; cases hb
    have hlp : 0 < lf.length := List.length_pos_iff.mpr hne
    obtain ⟨n', hn'⟩ : ∃ n', lf.length = n' + 1 := ⟨lf.length - 1, by omega⟩
    rw [show fu + (8 - k) + lf.length = (fu + (8 - k) + n') + 1 by omega]
    refine go_pop (es := fd.map dI) rfl rfl rfl hne (by omega) (by rw [List.length_map]; omega) fun q x hq => nx_ivw (m' := n') (by omega) ⟨lf.eraseIdx q, fd ++ [x], ?_, ?_, rfl, rfl, ?_⟩
    · have := (List.getElem?_eq_some_iff.mp hq).1
      rw [List.length_eraseIdx, if_pos this]; omega
    · obtain ⟨hql, hqe⟩ := List.getElem?_eq_some_iff.mp hq
      refine List.Perm.trans ?_ hperm
      rw [List.append_assoc]
      refine List.Perm.append_left _ ?_
      exact perm_erase lf q x hq
    · rw [← dT_snoc]; rfl
  · have hz : lf = [] := by simpa using hb
    subst hz
    rw [List.append_nil] at hperm
    refine go_ret (ev_var (d := dT fd) rfl) ((hR.less (f' := fu + (8 - k) + ([] : List Nat).length) (by omega)).up eg).drop ⟨k, fd, rfl, ord_perm hperm, rfl⟩
end
end Kd
namespace Kd
open PySem L2
open PyProof.Rows (envOfC)
section
variable {bw : Bool} {K : PySem.W.Frag} {M : MS} {G0 : Hp} {D : Ends} {L : Own} {ds : DS} {te ta tb tc : TE} {tt : TT} {tA : TA} {t u : TS} {x y z d r : PyData} {f f' f1 f2 : Nat} {es gs items : List PyData} {v0 : V} {wi : TI} {g : TG} {p : Addr}
theorem en_lcC {α : Type} {js vs : List Nat} {F : PyData → DS → DS} (enc : α → PyData) (Pe : α → Prop) (c : Nat) (hi : EvI bw M L wi ds items) (hj : ∀ j ∈ js, j ∈ vs) (tg : ∀ x ∈ items, TgD bw M g js x (F x)) (hl : items.length ≤ 40000)
    (hs : ∀ x ∈ items, ∀ f, EvN M L te (F x (wipeD ds vs)) (f + c) f (fun d => ∃ a, Pe a ∧ d = enc a)) : EvN M L (tLc wi g tYes te vs) ds (f + items.length * c) f (fun d => ∃ l : List α, l.length = items.length ∧ (∀ a ∈ l, Pe a) ∧ d = .list (l.map enc)) := by
  refine (en_lc (f' := f) hi hj tg (fun i f1 acc => i ≤ items.length ∧ f1 = f + (items.length - i) * c ∧ ∃ l : List α, l.length = i ∧ (∀ a ∈ l, Pe a) ∧ acc = l.map enc) ⟨Nat.zero_le _, by rw [Nat.sub_zero], [], rfl, fun a h => absurd h List.not_mem_nil, rfl⟩ (fun i f1 acc ⟨h1, _, l, h2, _, h3⟩ => ?_) (fun i x acc f1 D hx ⟨h1, h2, l, h3, h4, h5⟩ => ?_) (fun f1 acc ⟨_, h, _⟩ => by omega)).imp ?_
  · rw [h3, List.length_map]; omega
  · have hil : i < items.length := (List.getElem?_eq_some_iff.mp hx).1
    refine ⟨f1, fun b => b = true, fun L' s => (eb_yes.n (P := fun b => b = true) rfl) L' (fun q hq => s q (List.mem_cons_of_mem _ hq)), fun hb => Bool.noConfusion hb, fun _ => ⟨f + (items.length - (i + 1)) * c, fun d => ∃ a, Pe a ∧ d = enc a, ?_, ?_⟩⟩
    · have e : f1 = (f + (items.length - (i + 1)) * c) + c := by
        rw [h2, Nat.add_assoc, ← Nat.succ_mul]
        congr 2
        omega
      rw [e]
      exact (hs x (List.mem_of_getElem? hx) _).sub fun q hq => List.mem_cons_of_mem _ hq
    · rintro r ⟨a, ha, rfl⟩
      refine ⟨hil, rfl, l ++ [a], by rw [List.length_append, h3]; rfl, fun b hb => ?_, by rw [h5, List.map_append]; rfl⟩
      rcases List.mem_append.mp hb with hb | hb
      · exact h4 b hb
      · rw [List.mem_singleton.mp hb]; exact ha
  · rintro d ⟨acc, f1, rfl, _, _, l, h1, h2, h3⟩
    exact ⟨l, h1, h2, by rw [h3]⟩
theorem ei_itr {k : Nat} : EvI false M L (fun _ H R => R (Itr 0 k) H) ds (rngD 0 (k : Int)) := fun f L' s σ G H w sl R r => r _ G H (Evl.Ex.refl G) w (rng_walk (by unfold rngD; simp))
/-- a comprehension over range(..), how far is drawn -/
theorem en_lcRng {P : PyData → Prop} {vs : List Nat} {k0 : Nat} (hk0 : k0 ≤ 1000) (h : EvAN M L tA ds f f1 (fun l => ∃ k : Nat, k ≤ k0 ∧ l = [dI k])) (hb : ∀ k, k ≤ k0 → EvN M L (tLc (fun _ H R => R (Itr 0 k) H) g tt te vs) ds f1 f' P) : EvN M L (tLc (iRng1 tA) g tt te vs) ds f f' P := fun L' s σ G H w sl Q q =>
  h L' s σ G H w sl _ fun us es G2 H2 e2 w2 ⟨k, hk, he⟩ d2 => by
    subst he
    cases d2 with
    | cons d3 d4 =>
      cases d4
      have := d3.int'
      subst this
      refine ⟨(k : Int), rfl, by omega, by omega, ?_⟩
      have := hb k hk L' s σ G2 H2 w2 (sl.mono e2) Q fun v d G3 H3 e3 w3 p3 d3 => q v d G3 H3 (e2.trans e3) w3 p3 d3
      rw [Int.toNat_natCast]
      exact this
theorem en_tupleL {P : List PyData → Prop} (h : EvN M L te ds f f' (fun d => ∃ l, P l ∧ d = .list l)) : EvN M L (tCB (rTupleX K) (tCons te tNil)) ds f f' (fun d => ∃ l, P l ∧ d = .tuple l) := en_cb1 h fun x ⟨l, hl, e⟩ => by
  subst e
  exact ⟨_, c1_tuple, l, hl, rfl⟩
/-- xs[i], xs[j] = xs[j], xs[i] -/
theorem go_swap2 {a i j : Nat} {lf : List Nat} {si sj : Nat} (hp : ds[a]? = some (some (.raw (.ref p)))) (hi : ds[i]? = some (some (.dat (dI si)))) (hj : ds[j]? = some (some (.dat (dI sj)))) (hil : si < lf.length) (hjl : sj < lf.length) (k : Nx M G0 D f ((p, (bentO lf si sj).map dI) :: L) ds) :
    Go M G0 D (tAsg (tTupX (tCons (tOp (rIxG K) (tVar a) (tVar j)) (tCons (tOp (rIxG K) (tVar a) (tVar i)) tNil))) (gTup K 2 (gCons (gSub (tVar a) (tVar i) rSetL) (gCons (gSub (tVar a) (tVar j) rSetL) gNil)))) f ((p, lf.map dI) :: L) ds := fun σ G H e w sl => by
  have rd : ∀ (q s : Nat), ds[q]? = some (some (.dat (dI s))) → s < lf.length → EvD M ((p, lf.map dI) :: L) (tOp (rIxG K) (tVar a) (tVar q)) ds (dI (lf.getD s 0)) := fun q s h1 h2 => ev_ixL (es := lf.map dI) (i := (s : Int)) (er_own hp List.mem_cons_self) (ev_var h1).r (atI_get (by rw [List.getElem?_map, getD_of h2]; rfl))
  refine (ev_tup (ea_two (rd j sj hj hjl) (rd i si hi hil)) (by simp)) f _ (Sub.refl _) σ G H w sl _ fun v G2 H2 e2 w2 d2 => ?_
  have sl2 := sl.mono e2
  obtain ⟨vp, p1, p2⟩ := sl2.at_ a _ hp
  obtain ⟨vi, i1, i2⟩ := sl2.at_ i _ hi
  obtain ⟨vj, j1, j2⟩ := sl2.at_ j _ hj
  have ep : vp = .ref p := p2
  have ei : vi = .int si := Dv.int' i2
  have ej : vj = .int sj := Dv.int' j2
  subst ep ei ej
  cases d2 with
  | @tup q xs _ h1 h2 =>
    cases h2 with
    | cons a1 h3 =>
      cases h3 with
      | cons a2 h4 =>
        cases h4
        obtain ⟨ys, hy, hyd⟩ := w2.own p _ List.mem_cons_self
        have hyl : ys.length = lf.length := by rw [hyd.length, List.length_map]
        have w3 := w2.set (hyd.set si a1)
        refine ⟨q, _, rfl, (h1.mono w2.ex).sq, rfl, _, _, rfl, _, p1, _, i1, p, ys, (si : Int), si, rfl, rfl, hy, Evl.ixN_nat (by omega), ?_⟩
        obtain ⟨zs, hz, hzd⟩ := w3.own p _ List.mem_cons_self
        rw [upd_same] at hz
        have hz' := Option.some.inj hz
        injection hz' with hz'
        subst hz'
        have w4 := w3.set (hzd.set sj a2)
        refine ⟨_, _, rfl, _, p1, _, j1, p, _, (sj : Int), sj, rfl, rfl, upd_same, Evl.ixN_nat (by rw [List.length_set]; omega), rfl, ?_⟩
        rw [map_set, map_set] at w4
        exact k σ G2 _ (e.trans e2) w4 sl2
end
section
variable {K : PySem.W.Frag} {m : MD} {T : List (Addr × Str)} {L : Own} {ds : DS} {te : TE} {f k : Nat}
theorem en_shuf {i : Nat} (hm : ds[i]? = some (some (.raw (.ref m.d)))) (h : EvD ⟨some m, T⟩ L te ds (dI k)) (h1 : k ≤ 8) : EvN ⟨some m, T⟩ L (tCall (spM 8 in_shuffled out_shuffled) [] E0 (tCons (tVar i) (tCons te tNil))) ds (f + 8) f (fun d => ∃ o, IsOrd k o ∧ d = dT o) :=
  en_callM (P := fun l => l = [dI k]) hm ((ea_one h).n (f := f + 8) (f' := f + 8) (P := fun l => l = [dI k]) rfl) fun es he => by
    subst he
    exact ⟨⟨k, h1, rfl⟩, fun r ⟨k', o, hk, ho, hr⟩ => ⟨o, by rw [dI_inj (List.cons.inj hk).1]; exact ho, hr⟩⟩
/-- the net drawn for -/
theorem en_net {i : Nat} {c : Nat} {n : Net} {inp : List PyData → Prop} {out : List PyData → PyData → Prop} {Tt : PyData → Prop} (hm : ds[i]? = some (some (.raw (.ref m.d)))) (h : EvD ⟨some m, T⟩ L te ds (dN n)) (hi : inp [dN n]) (ho : ∀ r, out [dN n] r → Tt r) : EvN ⟨some m, T⟩ L (tCall (spM c inp out) [] E0 (tCons (tVar i) (tCons te tNil))) ds (f + c) f Tt :=
  en_callM (P := fun l => l = [dN n]) hm ((ea_one h).n (f := f + c) (f' := f + c) (P := fun l => l = [dN n]) rfl) fun es he => by
    subst he
    exact ⟨hi, ho⟩
end
theorem dN_inj {n n' : Net} (h : dN n = dN n') : n = n' := by
  unfold dN at h
  injection h with h
  injection h with h1 h2
  injection h2 with h2
  injection h2 with h2
  have e1 := dI_inj h1
  have e2 : n.os = n'.os := by
    have inj : ∀ (a b : List (List Nat)), a.map dT = b.map dT → a = b := by
      intro a
      induction a with
      | nil => intro b h; cases b with | nil => rfl | cons _ _ => cases h
      | cons x a ih =>
        intro b h
        cases b with
        | nil => cases h
        | cons y b =>
          rw [List.map_cons, List.map_cons] at h
          injection h with h1 h2
          have h3 : x.map dI = y.map dI := by injection h1
          rw [map_dI_inj h3, ih b h2]
    exact inj _ _ h2
  cases n; cases n'
  cases e1
  cases e2
  rfl
section
variable {P : Program} {w : World} {K : PySem.W.Frag} {mg : Str → Option Value} {base : Heap} {f : Addr} {fd : FuncData} {CB fI : Addr}
def in_net : List PyData → Prop := fun ds => ∃ n, NetOk n ∧ ds = [dN n]
def in_net8 : List PyData → Prop := fun ds => ∃ n, NetOk n ∧ n.b ≤ 3 ∧ ds = [dN n]
def out_flips : List PyData → PyData → Prop := fun ds r => ∃ n fs, ds = [dN n] ∧ FlOk n fs ∧ r = dR fs
abbrev s_flipsL : Stmt := top 59
abbrev N_flipsL : List Str := ["_law_m", "_law_net_here", "_law_many", "_law_some", "_law_row", "_law_switch"]
abbrev ps_flipsL : List Str := ["_law_m", "_law_net_here"]
theorem sc_flipsL : FnScope N_flipsL ps_flipsL (defScope s_flipsL) := ⟨rfl, rfl, rfl, by decide +kernel, rfl, by decide +kernel, by decide +kernel⟩

theorem ok_flipsL (F : FunAt K mg "_law_flips" s_flipsL ps_flipsL f fd) (B : Bt mg) (D_powerL : DefOk P w K mg base "_law_power" 1 ps_powerL (spD pre_powerL)) (D_drawL : DefOk P w K mg base "_law_draw" 2 ps_drawL (spM 1 in_draw out_draw)) : DefOk P w K mg base "_law_flips" 3 ps_flipsL (spM 40 in_net out_flips) := by
  refine DefOk.drawn F sc_flipsL (fun ds ⟨n, _, h⟩ => by rw [h]; rfl) fun cdv A outer s H E hg hr => ?_
  have nd := sc_flipsL.nd
  refine ⟨_, (pss_cons (ps_set (i := 2) nd rfl (Or.inr rfl) (pe_op op_fdiv (pe_callD D_powerL hg (hr.mono (by decide)) (by rfl) (pa_cons (pe_ix (kIx K) (pv 1) pe_int (fun _ _ => rfl)) pa_nil)) pe_int))
    (pss_cons (ps_setLc (i := 3) (own := [("_law_row", 4)]) rfl nd rfl rfl (sw_true rfl rfl rfl (by decide +kernel)) (kSeq K (pe_ix (kIx K) (pv 1) pe_int (fun _ _ => rfl))) (blkOk_by (own := [("_law_row", 4)]) (N := N_flipsL) (sc := defScope s_flipsL) (by decide +kernel)) (fun _ _ _ _ _ => (pg_name (i := 4) nd rfl (Or.inl rfl))) (fun _ _ _ _ _ => pts_nil) (fun _ _ _ _ _ => (pe_callTy (kTuple K) (by rfl) B.tuple (by decide +kernel) (pa_cons (pe_lc (own := [("_law_switch", 5)]) rfl nd (pi_range1 (by rfl) B.range (pa_cons (pv 2) pa_nil)) (blkOk_by (own := [("_law_switch", 5)]) (by rfl)) (fun _ _ _ _ _ => (pg_name (i := 5) nd rfl (Or.inl rfl))) (fun _ _ _ _ _ => pts_nil) (fun _ _ _ _ _ => (pe_callD D_drawL hg (hr.mono (by decide)) (by rfl) (pa_cons (pv 0) (pa_cons pe_int pa_nil))))) pa_nil))))
    (pss_one (ps_ret (pe_op (kAdd K) (pe_callTy (kTuple K) (by rfl) B.tuple (by decide +kernel) (pa_cons (pv 3) pa_nil)) (pe_tupX (pa_cons (pe_op (kMul K) (pe_tupX (pa_cons pe_int pa_nil)) (pv 2)) pa_nil))))))), ?_⟩
  rintro m T fu L G0 D ds ⟨n, hn, rfl⟩ hR
  obtain ⟨j, hk, hj1, hj8⟩ := hn.k2
  have hlen := hn.len
  have hb1 := hn.b1
  have hb4 := hn.b4
  have hkj : n.k / 2 = j := by omega
  have hfl : n.os.length * j ≤ 40 := Nat.le_trans (Nat.mul_le_mul hlen hj8) (by decide)
  refine q_asg (d := dI j) (ev_is (ev_fdiv (i := ((2 ^ n.b : Nat) : Int)) (j := 2) (ev_call (ea_one (ev_ixT (es := [dI n.b, .tuple (n.os.map dT)]) (ev_var rfl).r ev_int.r rfl)) ⟨n.b, by omega, rfl, rfl⟩).r ev_int.r (by decide)) (dI_eq (by have : (2 ^ n.b : Nat) = 2 * j := hk; omega))) ?_
  refine q_asgN (P := fun d => ∃ l : List (List Nat), l.length = (n.os.map dT).length ∧ (∀ a ∈ l, a.length = j) ∧ d = .list (l.map dT)) (f' := fu) (EvN.less (en_lcC (bw := false) (js := [4]) (F := Fn 4) (f := fu) dT (fun a => a.length = j) j (ei_seqT (ev_ixT (es := [dI n.b, .tuple (n.os.map dT)]) (ev_var rfl).r ev_int.r rfl)) (by decide) (fun x hx => tg_name) (by rw [List.length_map]; omega) fun x hx f1 => ?_) (by rw [List.length_map]; omega) (Nat.le_refl _)) ?_
  · refine EvN.imp (en_tupleL (P := fun l => ∃ o : List Nat, o.length = j ∧ l = o.map dI) (EvN.imp (EvN.less (en_lcC (bw := false) (js := [5]) (F := Fn 5) (f := f1) dI (fun _ => True) 1 (ei_rng1 (n := (j : Int)) (ea_one (ev_var rfl)) (by omega)) (by decide) (fun x hx => tg_name) (by rw [len_rng]; omega) fun x hx f2 => ?_) (by rw [len_rng]; omega) (Nat.le_refl _)) ?_)) ?_
    · exact EvN.imp (en_draw (k := 2) rfl ev_int (by decide) (by decide)) fun d ⟨a, _, ha⟩ => ⟨a, trivial, ha⟩
    · rintro d ⟨l, h1, _, h2⟩
      rw [len_rng] at h1
      exact ⟨_, ⟨l, h1, rfl⟩, h2⟩
    · rintro d ⟨l, ⟨o, h1, h2⟩, h3⟩
      exact ⟨o, h1, by rw [h3, h2]; rfl⟩
  · rintro d ⟨fs, h1, h2, rfl⟩
    rw [List.length_map] at h1
    refine go_ret (d := dR (fs ++ [List.replicate j 0])) (ev_is (ev_addT (es := fs.map dT) (gs := [dT (List.replicate j 0)]) (ev_tupleL (ev_var rfl).r).r (ev_tup (ea_one (ev_is (ev_repT (k := (j : Int)) (ev_tup (ea_one ev_int)).r (ev_var rfl).r (by omega) (by omega) (by decide) (by simp)) ?_))).r ?_) ?_) hR ⟨n, _, rfl, ⟨?_, fun r hr => ?_⟩, rfl⟩
    · rw [Int.toNat_natCast]
      show PyData.tuple (List.replicate j [dI 0]).flatten = _
      rw [rep_dI]; rfl
    · rw [List.length_map, List.length_singleton]; omega
    · show _ = PyData.tuple _
      rw [List.map_append]; rfl
    · rw [List.length_append, h1]; rfl
    · rcases List.mem_append.mp hr with hr | hr
      · rw [h2 r hr, hkj]
      · rw [List.mem_singleton.mp hr, List.length_replicate, hkj]

def out_rows : List PyData → PyData → Prop := fun ds r => ∃ n rs, ds = [dN n] ∧ RwsOk n rs ∧ r = dR rs
abbrev s_rowsL : Stmt := top 60
abbrev N_rowsL : List Str := ["_law_m", "_law_net_here", "_law_row"]
abbrev ps_rowsL : List Str := ["_law_m", "_law_net_here"]
theorem sc_rowsL : FnScope N_rowsL ps_rowsL (defScope s_rowsL) := ⟨rfl, rfl, rfl, by decide +kernel, rfl, by decide +kernel, by decide +kernel⟩

theorem ok_rowsL (F : FunAt K mg "_law_rows" s_rowsL ps_rowsL f fd) (B : Bt mg) (D_powerL : DefOk P w K mg base "_law_power" 1 ps_powerL (spD pre_powerL)) (D_shuffledL : DefOk P w K mg base "_law_shuffled" 3 ps_shuffledL (spM 8 in_shuffled out_shuffled)) : DefOk P w K mg base "_law_rows" 4 ps_rowsL (spM 48 in_net out_rows) := by
  refine DefOk.drawn F sc_rowsL (fun ds ⟨n, _, h⟩ => by rw [h]; rfl) fun cdv A outer s H E hg hr => ?_
  have nd := sc_rowsL.nd
  refine ⟨_, (pss_one (ps_ret (pe_callTy (kTuple K) (by rfl) B.tuple (by decide +kernel) (pa_cons (pe_lc (own := [("_law_row", 2)]) rfl nd (pi_range1 (by rfl) B.range (pa_cons (pe_op (kAdd K) (pe_callB (kLen K) (by rfl) B.len (by decide +kernel) (pa_cons (pe_ix (kIx K) (pv 1) pe_int (fun _ _ => rfl)) pa_nil)) pe_int) pa_nil)) (blkOk_by (own := [("_law_row", 2)]) (N := N_rowsL) (sc := defScope s_rowsL) (by decide +kernel)) (fun _ _ _ _ _ => (pg_name (i := 2) nd rfl (Or.inl rfl))) (fun _ _ _ _ _ => pts_nil) (fun _ _ _ _ _ => (pe_callD D_shuffledL hg (hr.mono (by decide)) (by rfl) (pa_cons (pv 0) (pa_cons (pe_op op_fdiv (pe_callD D_powerL hg (hr.mono (by decide)) (by rfl) (pa_cons (pe_ix (kIx K) (pv 1) pe_int (fun _ _ => rfl)) pa_nil)) pe_int) pa_nil))))) pa_nil)))), ?_⟩
  rintro m T fu L G0 D ds ⟨n, hn, rfl⟩ hR
  obtain ⟨j, hk, hj1, hj8⟩ := hn.k2
  have hlen := hn.len
  have hb1 := hn.b1
  have hb4 := hn.b4
  refine go_retN (f' := fu) (P := fun d => ∃ l, (∃ rs : List (List Nat), rs.length = n.os.length + 1 ∧ (∀ r ∈ rs, IsOrd j r) ∧ l = rs.map dT) ∧ d = .tuple l) (en_tupleL (EvN.imp (EvN.less (en_lcC (bw := false) (js := [2]) (F := Fn 2) (f := fu) dT (IsOrd j) 8 (ei_rng1 (n := ((n.os.length + 1 : Nat) : Int)) (ea_one (ev_addI (i := ((n.os.map dT).length : Nat)) (j := 1) (ev_lenT (ev_ixT (es := [dI n.b, .tuple (n.os.map dT)]) (ev_var rfl).r ev_int.r rfl).r).r ev_int.r |>.is (dI_eq (by rw [List.length_map]; omega)))) (by omega)) (by decide) (fun x hx => tg_name) (by rw [len_rng]; omega) fun x hx f1 => ?_) (by rw [len_rng]; omega) (Nat.le_refl _)) ?_)) hR ?_
  · exact en_shuf rfl (ev_is (ev_fdiv (i := ((2 ^ n.b : Nat) : Int)) (j := 2) (ev_call (ea_one (ev_ixT (es := [dI n.b, .tuple (n.os.map dT)]) (ev_var rfl).r ev_int.r rfl)) ⟨n.b, by omega, rfl, rfl⟩).r ev_int.r (by decide)) (dI_eq (by have : (2 ^ n.b : Nat) = 2 * j := hk; omega))) hj8
  · rintro d ⟨l, h1, h2, h3⟩
    rw [len_rng] at h1
    exact ⟨_, ⟨l, h1, h2, rfl⟩, h3⟩
  · rintro d ⟨l, ⟨rs, h1, h2, h3⟩, h4⟩
    exact ⟨n, rs, rfl, ⟨h1, fun r hr => ⟨j, hk, h2 r hr⟩⟩, by rw [h4, h3]; rfl⟩

def in_bent : List PyData → Prop := fun ds => ∃ k o, 0 < k ∧ k ≤ 1000 ∧ IsOrd k o ∧ ds = [dT o]
def out_bent : List PyData → PyData → Prop := fun ds r => ∃ o o', ds = [dT o] ∧ (∀ k, IsOrd k o → IsOrd k o') ∧ r = dT o'
abbrev s_bent_orderL : Stmt := top 61
abbrev N_bent_orderL : List Str := ["_law_m", "_law_order_so", "_law_one", "_law_far", "_law_found"]
abbrev ps_bent_orderL : List Str := ["_law_m", "_law_order_so"]
theorem sc_bent_orderL : FnScope N_bent_orderL ps_bent_orderL (defScope s_bent_orderL) := ⟨rfl, rfl, rfl, by decide +kernel, rfl, by decide +kernel, by decide +kernel⟩

theorem ok_bent_orderL (F : FunAt K mg "_law_bent_order" s_bent_orderL ps_bent_orderL f fd) (B : Bt mg) (D_drawL : DefOk P w K mg base "_law_draw" 2 ps_drawL (spM 1 in_draw out_draw)) : DefOk P w K mg base "_law_bent_order" 3 ps_bent_orderL (spM 2 in_bent out_bent) := by
  refine DefOk.drawn F sc_bent_orderL (fun ds ⟨k, o, _, _, _, h⟩ => by rw [h]; rfl) fun cdv A outer s H E hg hr => ?_
  have nd := sc_bent_orderL.nd
  refine ⟨_, (pss_cons (ps_par (i := 2) (j := 3) rfl nd rfl rfl (by decide) rfl rfl (pa_cons (pe_callD D_drawL hg (hr.mono (by decide)) (by rfl) (pa_cons (pv 0) (pa_cons (pe_callB (kLen K) (by rfl) B.len (by decide +kernel) (pa_cons (pv 1) pa_nil)) pa_nil))) (pa_cons (pe_callD D_drawL hg (hr.mono (by decide)) (by rfl) (pa_cons (pv 0) (pa_cons (pe_callB (kLen K) (by rfl) B.len (by decide +kernel) (pa_cons (pv 1) pa_nil)) pa_nil))) pa_nil)) (by rfl))
    (pss_cons (ps_set (i := 4) nd rfl (Or.inl rfl) (pe_callTy (kListC K) (by rfl) B.list (by decide +kernel) (pa_cons (pv 1) pa_nil)))
    (pss_cons (ps_asg (pe_tupX (pa_cons (pe_ix (kIx K) (pv 4) (pv 3) (fun _ _ => rfl)) (pa_cons (pe_ix (kIx K) (pv 4) (pv 2) (fun _ _ => rfl)) pa_nil))) (kTup (n := 2) K rfl (pgs_cons (pg_sub (pv 4) (pv 2) set_list) (pgs_cons (pg_sub (pv 4) (pv 3) set_list) pgs_nil))))
    (pss_one (ps_ret (pe_callTy (kTuple K) (by rfl) B.tuple (by decide +kernel) (pa_cons (pv 4) pa_nil))))))), ?_⟩
  rintro m T fu L G0 D ds ⟨k, o, hk0, hk1, ho, rfl⟩ hR
  have hl := ho.len
  have dr : ∀ f, EvN ⟨some m, T⟩ L (tCall (spM 1 in_draw out_draw) [] E0 (tCons (tVar 0) (tCons (tCB (rLenG K) (tCons (tVar 1) tNil)) tNil))) (startM N_bent_orderL m [dT o]) (f + 1) f (fun d => ∃ j, j < k ∧ d = dI j) := fun f => en_draw (k := k) rfl (ev_is (ev_lenT (es := o.map dI) (ev_var rfl).r) (dI_eq (by rw [List.length_map, hl]))) hk0 (by omega)
  refine q_parN (f' := fu) (ean_cons (dr (fu + 1)) fun x _ => ean_cons (dr fu) fun y _ => ean_nil (P := fun l => l = []) rfl) (fun es ⟨x, es', h1, ⟨y, es'', h2, h3, h4⟩, h5⟩ => ⟨x, y, by rw [h5, h4, h3]⟩) fun x y h => ?_
  obtain ⟨x', es', ⟨a, ha, hx⟩, ⟨y', es'', ⟨b, hb, hy⟩, h3, h4⟩, h5⟩ := h
  subst h3 h4
  injection h5 with h6 h7
  injection h7 with h7 h8
  subst h6 h7 hx hy
  refine q_asgF (es := o.map dI) (ef_listT (ev_var (d := dT o) rfl).r) fun p => ?_
  refine go_seq (go_swap2 (lf := o) (si := a) (sj := b) rfl rfl rfl (by omega) (by omega) (nx_go ?_))
  exact go_ret (ev_is (ev_tupleL (er_own rfl List.mem_cons_self)) rfl) hR.drop ⟨o, bentO o a b, rfl, fun k' hk' => bent_ok hk' (by have := hk'.len; omega) (by have := hk'.len; omega), rfl⟩
end
end Kd
namespace Kd
open PySem L2
open PyProof.Rows (envOfC)
theorem plain_all : ∀ b, b < 5 → 0 < b → ∀ o ∈ (plainN b).os, o.length = (plainN b).k ∧ o.Nodup ∧ ∀ x ∈ o, x < (plainN b).k := by decide +kernel
theorem plain_ok {b : Nat} (h1 : 1 ≤ b) (h4 : b ≤ 4) : NetOk (plainN b) := ⟨h1, h4, by show ((List.range (b - 1)).map _).length ≤ 5; rw [List.length_map, List.length_range]; omega, fun o ho => by
  obtain ⟨a, c, d⟩ := plain_all b (by omega) (by omega) o ho
  exact ⟨a, c, d⟩⟩
theorem plain_len (b : Nat) : (plainN b).os.length = b - 1 := by show ((List.range (b - 1)).map _).length = _; rw [List.length_map, List.length_range]
/-- the nets that are drawn -/
structure DrN (r : Nat) (n : Net) : Prop where
  ok : NetOk n
  b3 : n.b ≤ 3
  len : n.os.length ≤ r
theorem DrN.k8 {r : Nat} {n : Net} (h : DrN r n) : n.k ≤ 8 := by
  have h1 := h.ok.b1
  have h3 := h.b3
  unfold Net.k
  have e : n.b = 1 ∨ n.b = 2 ∨ n.b = 3 := by omega
  rcases e with e | e | e <;> rw [e] <;> decide
theorem cut_take {α : Type} {l : List α} {i : Nat} (h : i ≤ l.length) : cutD l none (some (i : Int)) = l.take i := by
  unfold cutD
  have e : HT.sIx l.length 0 none = 0 := rfl
  have e2 : HT.sIx l.length l.length (some (i : Int)) = i := by
    unfold HT.sIx
    simp
    rw [if_neg (by omega)]
    omega
  rw [e, e2]; simp
theorem cut_drop {α : Type} {l : List α} {i : Nat} (h : i ≤ l.length) : cutD l (some (i : Int)) none = l.drop i := by
  unfold cutD
  have e : HT.sIx l.length l.length none = l.length := rfl
  have e2 : HT.sIx l.length 0 (some (i : Int)) = i := by
    unfold HT.sIx
    simp
    rw [if_neg (by omega)]
    omega
  rw [e, e2]
  rw [List.take_of_length_le (by simp)]
theorem getD_net {os : List (List Nat)} {i : Nat} (h : i < os.length) : os[i]? = some (os.getD i []) := by
  rw [List.getD_eq_getElem?_getD, List.getElem?_eq_getElem h]; rfl
theorem dT_inj {a b : List Nat} (h : dT a = dT b) : a = b := by
  unfold dT at h
  injection h with h
  exact map_dI_inj h
section
variable {P : Program} {w : World} {K : PySem.W.Frag} {mg : Str → Option Value} {base : Heap} {f : Addr} {fd : FuncData} {CB fI : Addr}
def in_most : List PyData → Prop := fun ds => ds = [dI 3]
def out_lp : List PyData → PyData → Prop := fun ds r => ∃ n, DrN 2 n ∧ r = dN n
abbrev s_like_plainL : Stmt := top 62
abbrev N_like_plainL : List Str := ["_law_m", "_law_most", "_law_net_here"]
abbrev ps_like_plainL : List Str := ["_law_m", "_law_most"]
theorem sc_like_plainL : FnScope N_like_plainL ps_like_plainL (defScope s_like_plainL) := ⟨rfl, rfl, rfl, by decide +kernel, rfl, by decide +kernel, by decide +kernel⟩

theorem ok_like_plainL (F : FunAt K mg "_law_like_plain" s_like_plainL ps_like_plainL f fd) (B : Bt mg) (D_drawL : DefOk P w K mg base "_law_draw" 2 ps_drawL (spM 1 in_draw out_draw)) (D_swappedL : DefOk P w K mg base "_law_swapped" 1 ps_swappedL (spD pre_swappedL)) (D_flipsL : DefOk P w K mg base "_law_flips" 3 ps_flipsL (spM 40 in_net out_flips))
    (D_namedL : DefOk P w K mg base "_law_named" 1 ps_namedL (spD pre_namedL)) (D_rowsL : DefOk P w K mg base "_law_rows" 4 ps_rowsL (spM 48 in_net out_rows)) (D_plainL : DefOk P w K mg base "_law_plain" 2 ps_plainL (spD pre_plainL)) : DefOk P w K mg base "_law_like_plain" 5 ps_like_plainL (spM 90 in_most out_lp) := by
  refine DefOk.drawn F sc_like_plainL (fun ds h => by rw [h]; rfl) fun cdv A outer s H E hg hr => ?_
  have nd := sc_like_plainL.nd
  refine ⟨_, (pss_cons (ps_set (i := 2) nd rfl (Or.inl rfl) (pe_callD D_plainL hg (hr.mono (by decide)) (by rfl) (pa_cons (pe_op (kAdd K) pe_int (pe_callD D_drawL hg (hr.mono (by decide)) (by rfl) (pa_cons (pv 0) (pa_cons (pv 1) pa_nil)))) pa_nil)))
    (pss_cons (ps_set (i := 2) nd rfl (Or.inl rfl) (pe_callD D_namedL hg (hr.mono (by decide)) (by rfl) (pa_cons (pv 2) (pa_cons (pe_callD D_rowsL hg (hr.mono (by decide)) (by rfl) (pa_cons (pv 0) (pa_cons (pv 2) pa_nil))) pa_nil))))
    (pss_one (ps_ret (pe_ifExp (pt_cmpR (kEq K hr.units) (pe_callD D_drawL hg (hr.mono (by decide)) (by rfl) (pa_cons (pv 0) (pa_cons pe_int pa_nil))) pe_int (nomark _)) (pe_callD D_swappedL hg (hr.mono (by decide)) (by rfl) (pa_cons (pv 2) (pa_cons (pe_callD D_flipsL hg (hr.mono (by decide)) (by rfl) (pa_cons (pv 0) (pa_cons (pv 2) pa_nil))) pa_nil))) (pv 2)))))), ?_⟩
  rintro m T fu L G0 D ds rfl hR
  refine q_asgN (f' := fu + 89) (P := fun d => ∃ b : Nat, 1 ≤ b ∧ b ≤ 3 ∧ d = dN (plainN b)) (en_call (P := fun l => ∃ b : Nat, 1 ≤ b ∧ b ≤ 3 ∧ l = [dI b]) (EvAN.imp (ean_cons (P1 := fun d => ∃ b : Nat, 1 ≤ b ∧ b ≤ 3 ∧ d = dI b) (en_opR (x := .int 1) (EvD.r ev_int) (en_draw (k := 3) (f := fu + 89) rfl (ev_var (d := dI 3) rfl) (by decide) (by decide)) fun y ⟨j, hj, hy⟩ => ?_) fun x _ => ean_nil (P := fun l => l = []) rfl) fun es ⟨x, es', ⟨b, h1, h2, h3⟩, h4, h5⟩ => ⟨b, h1, h2, by rw [h5, h4, h3]⟩) fun es ⟨b, h1, h2, h3⟩ => ⟨_, ⟨b, h1, by omega, h3, rfl⟩, b, h1, h2, rfl⟩) ?_
  · subst hy
    exact ⟨.int (1 + (j : Int)), ROk.or1 ro_I0i, 1 + j, by omega, by omega, dI_eq (by omega)⟩
  rintro d ⟨b, hb1, hb3, rfl⟩
  have hpn := plain_ok hb1 (show b ≤ 4 by omega)
  refine q_asgN (f' := fu + 41) (P := fun d => ∃ n, DrN 2 n ∧ d = dN n) (en_call (P := fun l => ∃ rs, RwsOk (plainN b) rs ∧ l = [dN (plainN b), dR rs]) (EvAN.imp (ean_cons (P1 := fun d => d = dN (plainN b)) ((ev_var (d := dN (plainN b)) rfl).n (f' := fu + 89) rfl) fun x _ => ean_cons (en_net (c := 48) (n := plainN b) (f := fu + 41) (Tt := fun r => ∃ rs, RwsOk (plainN b) rs ∧ r = dR rs) rfl (ev_var rfl) ⟨_, hpn, rfl⟩ fun r ⟨n, rs, h1, h2, h3⟩ => ⟨rs, by rw [dN_inj (List.cons.inj h1).1]; exact h2, h3⟩) fun y _ => ean_nil (P := fun l => l = []) rfl) fun es ⟨x, es', h1, ⟨y, es'', ⟨rs, h2, h3⟩, h4, h5⟩, h6⟩ => ⟨rs, h2, by rw [h6, h5, h4, h3, h1]⟩) fun es ⟨rs, h1, h2⟩ => ⟨_, ⟨_, rs, hpn, h1, h2, rfl⟩, namedN (plainN b) rs, ⟨named_net hpn h1, hb3, ?_⟩, rfl⟩) ?_
  · show ((enumN 0 (plainN b).os).map _).length ≤ 2
    rw [List.length_map, enumN_len, plain_len]; omega
  rintro d ⟨n, hn, rfl⟩
  refine go_retN (f' := fu) (P := fun d => ∃ n, DrN 2 n ∧ d = dN n) (en_if (P := fun _ => True) (f1 := fu + 40) (ebn_T (P := fun d => ∃ b : Bool, d = .bool b) (en_op (en_draw (k := 2) (f := fu + 40) rfl ev_int (by decide) (by decide)) (fun x _ => (ev_int (i := 0)).n (f' := fu + 40) (P := fun d => d = .int 0) rfl) fun x y ⟨j, hj, hx⟩ hy => ?_) fun d ⟨b, hb⟩ => ⟨b, hb, trivial⟩) (fun _ => en_call (P := fun l => ∃ fs, FlOk n fs ∧ l = [dN n, dR fs]) (EvAN.imp (ean_cons (P1 := fun d => d = dN n) ((ev_var (d := dN n) rfl).n (f' := fu + 40) rfl) fun x _ => ean_cons (en_net (c := 40) (n := n) (f := fu) (Tt := fun r => ∃ fs, FlOk n fs ∧ r = dR fs) rfl (ev_var rfl) ⟨_, hn.ok, rfl⟩ fun r ⟨n', fs, h1, h2, h3⟩ => ⟨fs, by rw [dN_inj (List.cons.inj h1).1]; exact h2, h3⟩) fun y _ => ean_nil (P := fun l => l = []) rfl) fun es ⟨x, es', h1, ⟨y, es'', ⟨fs, h2, h3⟩, h4, h5⟩, h6⟩ => ⟨fs, h2, by rw [h6, h5, h4, h3, h1]⟩) fun es ⟨fs, h1, h2⟩ => ⟨_, ⟨_, fs, hn.ok, h1, h2, rfl⟩, swappedN n fs, ⟨swapped_net hn.ok, hn.b3, ?_⟩, rfl⟩) (fun _ => (ev_var (d := dN n) rfl).n (f' := fu) ⟨n, hn, rfl⟩)) hR fun d hd => hd
  · subst hx hy
    exact ⟨_, ro_eq (n := 0) (m := 0) (shp_dI _) (Shp.int _), _, rfl⟩
  · show ((enumN 0 n.os).map _).length ≤ 2
    rw [List.length_map, enumN_len]; exact hn.len

def out_netL : List PyData → PyData → Prop := fun ds r => ∃ n, DrN 4 n ∧ r = dN n
theorem DrN.up {r r' : Nat} {n : Net} (h : DrN r n) (l : r ≤ r') : DrN r' n := ⟨h.ok, h.b3, Nat.le_trans h.len l⟩
abbrev s_netL : Stmt := top 63
abbrev N_netL : List Str := ["_law_m", "_law_most", "_law_net_here", "_law_kind", "_law_row", "_law_rows_here"]
abbrev ps_netL : List Str := ["_law_m", "_law_most"]
theorem sc_netL : FnScope N_netL ps_netL (defScope s_netL) := ⟨rfl, rfl, rfl, by decide +kernel, rfl, by decide +kernel, by decide +kernel⟩

theorem ok_netL (F : FunAt K mg "_law_net" s_netL ps_netL f fd) (B : Bt mg) (D_plainL : DefOk P w K mg base "_law_plain" 2 ps_plainL (spD pre_plainL)) (D_drawL : DefOk P w K mg base "_law_draw" 2 ps_drawL (spM 1 in_draw out_draw)) (D_shuffledL : DefOk P w K mg base "_law_shuffled" 3 ps_shuffledL (spM 8 in_shuffled out_shuffled))
    (D_powerL : DefOk P w K mg base "_law_power" 1 ps_powerL (spD pre_powerL)) (D_mirroredL : DefOk P w K mg base "_law_mirrored" 2 ps_mirroredL (spD pre_mirroredL)) (D_bent_orderL : DefOk P w K mg base "_law_bent_order" 3 ps_bent_orderL (spM 2 in_bent out_bent)) (D_like_plainL : DefOk P w K mg base "_law_like_plain" 5 ps_like_plainL (spM 90 in_most out_lp)) :
    DefOk P w K mg base "_law_net" 6 ps_netL (spM 120 in_most out_netL) := by
  refine DefOk.drawn F sc_netL (fun ds h => by rw [h]; rfl) fun cdv A outer s H E hg hr => ?_
  have nd := sc_netL.nd
  refine ⟨_, (pss_cons (ps_asg (pe_tupX (pa_cons (pe_callD D_like_plainL hg (hr.mono (by decide)) (by rfl) (pa_cons (pv 0) (pa_cons (pv 1) pa_nil))) (pa_cons (pe_callD D_drawL hg (hr.mono (by decide)) (by rfl) (pa_cons (pv 0) (pa_cons pe_int pa_nil))) pa_nil))) (kTup (n := 2) K rfl (pgs_cons (pg_name (i := 2) nd rfl (Or.inr rfl)) (pgs_cons (pg_name (i := 3) nd rfl (Or.inl rfl)) pgs_nil))))
    (pss_cons (ps_if (pt_cmpR (kLt K hr.units0) (pv 3) pe_int (nomark _)) (pss_one (ps_ret (pv 2))) pss_nil)
    (pss_cons (ps_if (pt_cmpR (kEq K hr.units) (pv 3) pe_int (nomark _)) (pss_one (ps_ret (pe_callD D_mirroredL hg (hr.mono (by decide)) (by rfl) (pa_cons (pv 2) pa_nil)))) pss_nil)
    (pss_cons (ps_if (PW.pt (pw_and (pt_cmpR (kEq K hr.units) (pv 3) pe_int (nomark _)) (pw_and1 (pt_cmpR (kNe K hr.units) (pe_ix (kIx K) (pv 2) pe_int (fun _ _ => rfl)) (pe_tupX pa_nil) (nomark _))))) (pss_cons (ps_set (i := 4) nd rfl (Or.inl rfl) (pe_callD D_drawL hg (hr.mono (by decide)) (by rfl) (pa_cons (pv 0) (pa_cons (pe_callB (kLen K) (by rfl) B.len (by decide +kernel) (pa_cons (pe_ix (kIx K) (pv 2) pe_int (fun _ _ => rfl)) pa_nil)) pa_nil))))
    (pss_one (ps_ret (pe_tupX (pa_cons (pe_ix (kIx K) (pv 2) pe_int (fun _ _ => rfl)) (pa_cons (pe_op (kAdd K) (pe_op (kAdd K) (pe_slice (kSl K) (pe_ix (kIx K) (pv 2) pe_int (fun _ _ => rfl)) po_none (po_some (pv 4))) (pe_tupX (pa_cons (pe_callD D_bent_orderL hg (hr.mono (by decide)) (by rfl) (pa_cons (pv 0) (pa_cons (pe_ix (kIx K) (pe_ix (kIx K) (pv 2) pe_int (fun _ _ => rfl)) (pv 4) (fun _ _ => rfl)) pa_nil))) pa_nil))) (pe_slice (kSl K) (pe_ix (kIx K) (pv 2) pe_int (fun _ _ => rfl)) (po_some (pe_op (kAdd K) (pv 4) pe_int)) po_none)) pa_nil)))))) pss_nil)
    (pss_cons (ps_if (pt_cmpR (kEq K hr.units) (pv 3) pe_int (nomark _)) (pss_one (ps_ret (pe_tupX (pa_cons (pe_ix (kIx K) (pv 2) pe_int (fun _ _ => rfl)) (pa_cons (pe_op (kAdd K) (pe_ix (kIx K) (pv 2) pe_int (fun _ _ => rfl)) (pe_ix (kIx K) (pe_callD D_mirroredL hg (hr.mono (by decide)) (by rfl) (pa_cons (pv 2) pa_nil)) pe_int (fun _ _ => rfl))) pa_nil))))) pss_nil)
    (pss_cons (ps_if (pt_cmpR (kEq K hr.units) (pv 3) pe_int (nomark _)) (pss_cons (ps_setLc (i := 5) (own := [("_law_row", 4)]) rfl nd rfl rfl (sw_true rfl rfl rfl (by decide +kernel)) (pi_range1 (by rfl) B.range (pa_cons (pe_callD D_drawL hg (hr.mono (by decide)) (by rfl) (pa_cons (pv 0) (pa_cons pe_int pa_nil))) pa_nil)) (blkOk_by (own := [("_law_row", 4)]) (N := N_netL) (sc := defScope s_netL) (by decide +kernel)) (fun _ _ _ _ _ => (pg_name (i := 4) nd rfl (Or.inl rfl))) (fun _ _ _ _ _ => pts_nil) (fun _ _ _ _ _ => (pe_callD D_shuffledL hg (hr.mono (by decide)) (by rfl) (pa_cons (pv 0) (pa_cons (pe_callD D_powerL hg (hr.mono (by decide)) (by rfl) (pa_cons (pe_ix (kIx K) (pv 2) pe_int (fun _ _ => rfl)) pa_nil)) pa_nil)))))
    (pss_one (ps_ret (pe_tupX (pa_cons (pe_ix (kIx K) (pv 2) pe_int (fun _ _ => rfl)) (pa_cons (pe_callTy (kTuple K) (by rfl) B.tuple (by decide +kernel) (pa_cons (pv 5) pa_nil)) pa_nil)))))) pss_nil)
    (pss_one (ps_ret (pe_callD D_plainL hg (hr.mono (by decide)) (by rfl) (pa_cons (pe_ix (kIx K) (pv 2) pe_int (fun _ _ => rfl)) pa_nil)))))))))), ?_⟩
  rintro m T fu L G0 D ds rfl hR
  refine q_asgPN (f' := fu + 29) (P := fun d => ∃ n j, DrN 2 n ∧ d = .tuple [dN n, dI j]) (EvN.imp (en_tup (ean_cons (P1 := fun d => ∃ n, DrN 2 n ∧ d = dN n) (f1 := fu + 30) (en_callM (P := fun l => l = [dI 3]) (f' := fu + 30) rfl ((ea_one (ev_var (d := dI 3) rfl)).n (f := fu + 120) (f' := fu + 30 + 90) (P := fun l => l = [dI 3]) rfl) fun es he => ⟨he, fun r hr => hr⟩) fun x _ => ean_cons (en_draw (k := 8) (f := fu + 29) rfl ev_int (by decide) (by decide)) fun y _ => ean_nil (P := fun l => l = []) rfl) ?_) ?_) (fun d ⟨n, j, _, h⟩ => ⟨_, _, h⟩) ?_
  · rintro es ⟨x, es', _, ⟨y, es'', _, h3, h4⟩, h5⟩
    rw [h5, h4, h3]; simp
  · rintro d ⟨es, ⟨x, es', ⟨n, hn, hx⟩, ⟨y, es'', ⟨j, _, hy⟩, h3, h4⟩, h5⟩, h6⟩
    exact ⟨n, j, hn, by rw [h6, h5, h4, h3, hx, hy]⟩
  rintro x y ⟨n, kind, hn, h⟩
  injection h with h
  injection h with h1 h2
  injection h2 with h2 h3
  subst h1 h2
  obtain ⟨j, hk, hj1, hj8⟩ := hn.ok.k2
  have hlen := hn.len
  have hb1 := hn.ok.b1
  have hb3 := hn.b3
  have hk8 := hn.k8
  have isK : ∀ (c : Int) a4 a5, EvB ⟨some m, T⟩ L (tTest (tOp (rEqD K) (tVar 3) (tC (.int c)))) [some (.raw (.ref m.d)), some (.dat (dI 3)), some (.dat (dN n)), some (.dat (dI kind)), a4, a5] (decide ((kind : Int) = c)) := fun c a4 a5 => eb_T (ev_eqI (ev_var rfl).r ev_int.r)
  have nIx : ∀ a4 a5, EvD ⟨some m, T⟩ L (tOp (rIxG K) (tVar 2) (tC (.int 1))) [some (.raw (.ref m.d)), some (.dat (dI 3)), some (.dat (dN n)), some (.dat (dI kind)), a4, a5] (.tuple (n.os.map dT)) := fun a4 a5 => ev_ixT (es := [dI n.b, .tuple (n.os.map dT)]) (ev_var rfl).r ev_int.r rfl
  have nIx0 : ∀ a4 a5, EvD ⟨some m, T⟩ L (tOp (rIxG K) (tVar 2) (tC (.int 0))) [some (.raw (.ref m.d)), some (.dat (dI 3)), some (.dat (dN n)), some (.dat (dI kind)), a4, a5] (dI n.b) := fun a4 a5 => ev_ixT (es := [dI n.b, .tuple (n.os.map dT)]) (ev_var rfl).r ev_int.r rfl
  have hR' := hR.less (f' := fu + 29) (by omega)
  refine q_if (b := decide ((kind : Int) < 3)) (eb_T (ev_lt (ev_var rfl).r ev_int.r)) (fun _ => go_ret (ev_var (d := dN n) rfl) hR' ⟨n, hn.up (by decide), rfl⟩) fun _ => ?_
  refine q_if (isK 3 none none) (fun _ => go_ret (ev_call (ea_one (ev_var rfl)) ⟨n, hn.ok, rfl, rfl⟩) hR' ⟨mirN n, ⟨mir_ok hn.ok, hn.b3, ?_⟩, rfl⟩) fun _ => ?_
  · show (n.os.reverse.map backO).length ≤ 4
    rw [List.length_map, List.length_reverse]; omega
  refine q_if (b := decide ((kind : Int) = 4) && !n.os.isEmpty) (eb_and (isK 4 none none) fun _ => (eb_T (ev_ne (n := 2) (m := 2) (nIx none none).r (ev_tup ea_nil).r (Shp.tup (Shp.map fun o _ => shp_dT o)) (Shp.tup fun d hd => nomatch hd))).is ?_) (fun h => ?_) fun _ => ?_
  · simp only [PyData.eqv]
    cases n.os <;> simp [PyData.eqvAll]
  · have hne : n.os ≠ [] := by
      intro e
      rw [e] at h
      simp at h
    have hpos : 0 < n.os.length := List.length_pos_iff.mpr hne
    refine q_asgN (f' := fu + 28) (P := fun d => ∃ i, i < n.os.length ∧ d = dI i) (en_draw (k := n.os.length) (f := fu + 28) rfl (ev_is (ev_lenT (nIx _ _).r) (dI_eq (by rw [List.length_map]))) hpos (by omega)) ?_
    rintro d ⟨i, hi, rfl⟩
    have ho := getD_net hi
    have hO := hn.ok.os _ (List.mem_of_getElem? ho)
    refine go_retN (f' := fu + 26) (P := fun d => ∃ n', DrN 4 n' ∧ d = dN n') ?_ (hR.less (by omega)) fun d hd => hd
    refine EvN.imp (en_tup (ean_cons (P1 := fun d => d = dI n.b) ((nIx0 _ _).n (f' := fu + 28) rfl) fun x _ => ean_cons (P1 := fun d => ∃ o', IsOrd n.k o' ∧ d = .tuple ((n.os.take i ++ [o'] ++ n.os.drop (i + 1)).map dT)) (en_op (f1 := fu + 26) (P := fun d => ∃ o', IsOrd n.k o' ∧ d = .tuple ((n.os.take i ++ [o']).map dT)) (en_opR (x := .tuple ((n.os.take i).map dT)) (EvD.r (ev_is (ev_slT (nIx _ _).r eo_none (eo_some (i := (i : Int)) (ev_var rfl))) ?_)) (en_tup (ean_cons (P1 := fun d => ∃ o', IsOrd n.k o' ∧ d = dT o') (f1 := fu + 26) (en_callM (P := fun l => l = [dT (n.os.getD i [])]) (f' := fu + 26) rfl ((ea_one (ev_ixT (es := n.os.map dT) (i := (i : Int)) (nIx _ _).r (ev_var rfl).r (atI_get (by rw [List.getElem?_map, ho]; rfl)))).n (f := fu + 28) (f' := fu + 26 + 2) (P := fun l => l = [dT (n.os.getD i [])]) rfl) ?_) fun x _ => ean_nil (P := fun l => l = []) rfl) ?_) ?_) (fun x _ => (ev_is (ev_slT (nIx _ _).r (eo_some (i := ((i + 1 : Nat) : Int)) (ev_addI (i := (i : Int)) (j := 1) (ev_var rfl).r ev_int.r)) eo_none) ?_).n (f' := fu + 26) (P := fun d => d = .tuple ((n.os.drop (i + 1)).map dT)) rfl) ?_) fun y _ => ean_nil (P := fun l => l = []) rfl) ?_) ?_
    · rw [cut_take (by rw [List.length_map]; omega), List.map_take]
    · rintro es rfl
      exact ⟨⟨n.k, _, by omega, by omega, hO, rfl⟩, fun r ⟨o, o', h1, h2, h3⟩ => ⟨o', h2 _ (by rw [← dT_inj (List.cons.inj h1).1]; exact hO), h3⟩⟩
    · rintro es ⟨x, es', _, h1, h2⟩
      rw [h2, h1]; simp
    · rintro y ⟨es, ⟨x, es', ⟨o', ho', hx⟩, h1, h2⟩, h3⟩
      subst h3
      refine ⟨_, ROk.or2 (ROk.or2 (ro_catT ?_)), o', ho', ?_⟩
      · rw [h2, h1, List.length_map, List.length_take]; simp; omega
      · rw [h2, h1, hx, List.map_append]; rfl
    · rw [cut_drop (by rw [List.length_map]; omega), List.map_drop]
    · rintro x y ⟨o', ho', hx⟩ hy
      subst hx hy
      refine ⟨_, ROk.or2 (ROk.or2 (ro_catT ?_)), o', ho', ?_⟩
      · simp; omega
      · rw [List.map_append (l₂ := n.os.drop (i + 1))]
    · rintro es ⟨x, es', _, ⟨y, es'', _, h1, h2⟩, h3⟩
      rw [h3, h2, h1]; simp
    · rintro d ⟨es, ⟨x, es', hx, ⟨y, es'', ⟨o', ho', hy⟩, h1, h2⟩, h3⟩, h4⟩
      refine ⟨⟨n.b, n.os.take i ++ [o'] ++ n.os.drop (i + 1)⟩, ⟨⟨hb1, hn.ok.b4, ?_, fun o hm => ?_⟩, hb3, ?_⟩, ?_⟩
      · simp; omega
      · show IsOrd n.k o
        rcases List.mem_append.mp hm with hm | hm
        · rcases List.mem_append.mp hm with hm | hm
          · exact hn.ok.os o (List.mem_of_mem_take hm)
          · rw [List.mem_singleton.mp hm]; exact ho'
        · exact hn.ok.os o (List.mem_of_mem_drop hm)
      · simp; omega
      · rw [h4, h3, h2, h1, hx, hy]; rfl
  refine q_if (isK 5 none none) (fun _ => go_ret (ev_tup (ea_two (nIx0 _ _) (ev_addT (nIx _ _).r (EvD.r (ev_ixT (es := [dI n.b, .tuple ((mirN n).os.map dT)]) (i := 1) (EvD.r (ev_call (ea_one (ev_var rfl)) ⟨n, hn.ok, rfl, rfl⟩)) ev_int.r rfl)) ?_))) hR' ⟨⟨n.b, n.os ++ (mirN n).os⟩, ⟨⟨hb1, hn.ok.b4, ?_, fun o hm => ?_⟩, hb3, ?_⟩, ?_⟩) fun _ => ?_
  · simp [mirN]; omega
  · simp [mirN]; omega
  · rcases List.mem_append.mp hm with hm | hm
    · exact hn.ok.os o hm
    · exact (mir_ok hn.ok).os o hm
  · simp [mirN]; omega
  · unfold dN; rw [List.map_append]
  refine q_if (isK 6 none none) (fun _ => ?_) fun _ => go_ret (ev_call (ea_one (nIx0 _ _)) ⟨n.b, hb1, hn.ok.b4, rfl, rfl⟩) hR' ⟨plainN n.b, ⟨plain_ok hb1 hn.ok.b4, hb3, by rw [plain_len]; omega⟩, rfl⟩
  refine q_asgN (f' := fu) (P := fun d => ∃ os : List (List Nat), os.length ≤ 3 ∧ (∀ o ∈ os, IsOrd n.k o) ∧ d = .list (os.map dT)) (en_lcRng (k0 := 3) (f1 := fu + 28) (by decide) (EvAN.imp (ean_cons (en_draw (k := 4) (f := fu + 28) rfl ev_int (by decide) (by decide)) fun x _ => ean_nil (P := fun l => l = []) rfl) fun es ⟨x, es', ⟨q, hq, hx⟩, h1, h2⟩ => ⟨q, by omega, by rw [h2, h1, hx]⟩) fun q hq => EvN.imp (EvN.less (en_lcC (bw := false) (js := [4]) (F := Fn 4) (f := fu) dT (IsOrd n.k) 8 (ei_itr (k := q)) (by decide) (fun x hx => tg_name) (by rw [len_rng]; omega) fun x hx f1 => en_shuf rfl (ev_call (ea_one (nIx0 _ _)) ⟨n.b, by omega, rfl, rfl⟩) hk8) (by rw [len_rng]; omega) (Nat.le_refl _)) fun d ⟨l, h1, h2, h3⟩ => ⟨l, by rw [h1, len_rng]; exact hq, h2, h3⟩) ?_
  rintro d ⟨os, h1, h2, rfl⟩
  exact go_ret (ev_tup (ea_two (nIx0 _ _) (ev_tupleL (ev_var rfl).r))) hR ⟨⟨n.b, os⟩, ⟨⟨hb1, hn.ok.b4, by show os.length ≤ 5; omega, h2⟩, hb3, by show os.length ≤ 4; omega⟩, rfl⟩
end
end Kd
namespace Kd
open PySem L2
open PyProof.Rows (envOfC)
theorem cut_take2 {α : Type} (l : List α) (i : Nat) : cutD l none (some (i : Int)) = l.take i := by
  unfold cutD
  have e : HT.sIx l.length 0 none = 0 := rfl
  have e2 : HT.sIx l.length l.length (some (i : Int)) = min i l.length := by
    unfold HT.sIx
    simp
    try omega
  rw [e, e2]; simp
section
variable {bw : Bool} {K : PySem.W.Frag} {M : MS} {L : Own} {ds : DS} {te ta tb tc : TE} {tt : TT} {tA : TA} {x y z d r : PyData} {f f' f1 f2 : Nat} {items : List PyData} {wi : TI} {g : TG}
/-- a comprehension whose test draws -/
theorem en_lcT {α : Type} {xs : List α} {js vs : List Nat} {F : PyData → DS → DS} (enc val : α → PyData) (c : Nat) (hi : EvI bw M L wi ds (xs.map enc)) (hj : ∀ j ∈ js, j ∈ vs) (tg : ∀ x ∈ xs.map enc, TgD bw M g js x (F x)) (hl : xs.length ≤ 40000)
    (hs : ∀ a ∈ xs, (∀ f, EvBN M L tt (F (enc a) (wipeD ds vs)) (f + c) f (fun _ => True)) ∧ EvD M L te (F (enc a) (wipeD ds vs)) (val a)) : EvN M L (tLc wi g tt te vs) ds (f + xs.length * c) f (fun d => ∃ l : List α, l.Sublist xs ∧ d = .list (l.map val)) := by
  refine (en_lc (f' := f) hi hj tg (fun i f1 acc => i ≤ xs.length ∧ f1 = f + (xs.length - i) * c ∧ ∃ l : List α, l.Sublist (xs.take i) ∧ acc = l.map val) ⟨Nat.zero_le _, by rw [Nat.sub_zero], [], List.nil_sublist _, rfl⟩ (fun i f1 acc ⟨h1, _, l, h2, h3⟩ => ?_) (fun i x acc f1 D hx ⟨h1, h2, l, h3, h5⟩ => ?_) (fun f1 acc ⟨_, h, _⟩ => by omega)).imp ?_
  · have := h2.length_le
    rw [List.length_take] at this
    rw [h3, List.length_map]; omega
  · rw [List.getElem?_map] at hx
    cases ha : xs[i]? with
    | none => rw [ha] at hx; cases hx
    | some a =>
      rw [ha] at hx
      cases hx
      have hil : i < xs.length := (List.getElem?_eq_some_iff.mp ha).1
      obtain ⟨b1, b2⟩ := hs a (List.mem_of_getElem? ha)
      have e : f1 = (f + (xs.length - (i + 1)) * c) + c := by
        rw [h2, Nat.add_assoc, ← Nat.succ_mul]
        congr 2
        omega
      have tk := take_snoc ha
      refine ⟨f + (xs.length - (i + 1)) * c, fun _ => True, fun L' s => by rw [e]; exact b1 _ L' (fun q hq => s q (List.mem_cons_of_mem _ hq)), fun _ => ⟨hil, rfl, l, by rw [tk]; exact h3.trans (List.sublist_append_left _ _), h5⟩, fun _ => ⟨f + (xs.length - (i + 1)) * c, fun d => d = val a, fun L' s => (b2.n (P := fun d => d = val a) rfl) L' (fun q hq => s q (List.mem_cons_of_mem _ hq)), ?_⟩⟩
      rintro r rfl
      refine ⟨hil, rfl, l ++ [a], by rw [tk]; exact h3.append (List.Sublist.refl _), by rw [h5, List.map_append]; rfl⟩
  · rintro d ⟨acc, f1, rfl, _, _, l, h1, h2⟩
    rw [List.length_map, List.take_length] at h1
    exact ⟨l, h1, by rw [h2]⟩
end
section
variable {K : PySem.W.Frag} {m : MD} {T : List (Addr × Str)} {L : Own} {ds : DS} {te : TE} {f : Nat} {es : List PyData}
/-- one of a list -/
theorem en_of {i : Nat} (hm : ds[i]? = some (some (.raw (.ref m.d)))) (h : EvD ⟨some m, T⟩ L te ds (.list es)) (h0 : es ≠ []) (h1 : es.length ≤ 1000) : EvN ⟨some m, T⟩ L (tCall (spM 1 in_of out_of) [] E0 (tCons (tVar i) (tCons te tNil))) ds (f + 1) f (fun d => d ∈ es) :=
  en_callM (P := fun l => l = [.list es]) hm ((ea_one h).n (f := f + 1) (f' := f + 1) (P := fun l => l = [.list es]) rfl) fun es' he => by
    subst he
    refine ⟨⟨es, h0, h1, rfl⟩, fun r ⟨es2, h2, h3⟩ => ?_⟩
    have := (List.cons.inj h2).1
    injection this with this
    rw [this]; exact h3
end
section
variable {P : Program} {w : World} {K : PySem.W.Frag} {mg : Str → Option Value} {base : Heap} {f : Addr} {fd : FuncData} {CB fI : Addr}
def in_netD : List PyData → Prop := fun ds => ∃ n, DrN 4 n ∧ ds = [dN n]
def out_broken : List PyData → PyData → Prop := fun ds r => ∃ n S, ds = [dN n] ∧ BrkOk n S ∧ r = dL S
structure BrkTo (n : Net) (i : Nat) (S : Spots) : Prop where
  ok : ∀ p ∈ S, p.1 < i ∧ p.2 < n.k
  up : S.Pairwise UpP
  len : S.length ≤ i * 8
theorem row_sub {i k : Nat} {l : List Nat} (h : l.Sublist (List.range k)) : (l.map fun s => (i, s)).Pairwise UpP ∧ ∀ p ∈ l.map fun s => (i, s), p.1 = i ∧ p.2 < k := by
  refine ⟨?_, fun p hp => ?_⟩
  · rw [List.pairwise_map]
    exact (List.Pairwise.sublist h List.pairwise_lt_range).imp fun h => .inr ⟨rfl, h⟩
  · obtain ⟨s, hs, rfl⟩ := List.mem_map.mp hp
    exact ⟨rfl, List.mem_range.mp (h.subset hs)⟩
abbrev s_brokenL : Stmt := top 66
abbrev N_brokenL : List Str := ["_law_m", "_law_net_here", "_law_many", "_law_some", "_law_found", "_law_row", "_law_spot"]
abbrev ps_brokenL : List Str := ["_law_m", "_law_net_here"]
theorem sc_brokenL : FnScope N_brokenL ps_brokenL (defScope s_brokenL) := ⟨rfl, rfl, rfl, by decide +kernel, rfl, by decide +kernel, by decide +kernel⟩

theorem ok_brokenL (F : FunAt K mg "_law_broken" s_brokenL ps_brokenL f fd) (B : Bt mg) (D_drawL : DefOk P w K mg base "_law_draw" 2 ps_drawL (spM 1 in_draw out_draw)) (D_ofL : DefOk P w K mg base "_law_of" 3 ps_ofL (spM 1 in_of out_of)) (D_powerL : DefOk P w K mg base "_law_power" 1 ps_powerL (spD pre_powerL)) : DefOk P w K mg base "_law_broken" 4 ps_brokenL (spM 50 in_netD out_broken) := by
  refine DefOk.drawn F sc_brokenL (fun ds ⟨n, _, h⟩ => by rw [h]; rfl) fun cdv A outer s H E hg hr => ?_
  have nd := sc_brokenL.nd
  refine ⟨_, (pss_cons (ps_asg (pe_tupX (pa_cons (pe_callD D_powerL hg (hr.mono (by decide)) (by rfl) (pa_cons (pe_ix (kIx K) (pv 1) pe_int (fun _ _ => rfl)) pa_nil)) (pa_cons (pe_callD D_ofL hg (hr.mono (by decide)) (by rfl) (pa_cons (pv 0) (pa_cons (pe_lst (pa_cons pe_int (pa_cons pe_int (pa_cons pe_int pa_nil)))) pa_nil))) pa_nil))) (kTup (n := 2) K rfl (pgs_cons (pg_name (i := 2) nd rfl (Or.inl rfl)) (pgs_cons (pg_name (i := 3) nd rfl (Or.inr rfl)) pgs_nil))))
    (pss_cons (ps_set (i := 4) nd rfl (Or.inl rfl) (pe_lst pa_nil))
    (pss_cons (ps_for PassesOwn.never rfl (pi_range1 (by rfl) B.range (pa_cons (pe_op (kAdd K) (pe_callB (kLen K) (by rfl) B.len (by decide +kernel) (pa_cons (pe_ix (kIx K) (pv 1) pe_int (fun _ _ => rfl)) pa_nil)) pe_int) pa_nil)) (pg_name (i := 5) nd rfl (Or.inr rfl)) (pss_one (ps_set (i := 4) nd rfl (Or.inl rfl) (pe_op (kAdd K) (pv 4) (pe_lc (own := [("_law_spot", 6)]) rfl nd (pi_range1 (by rfl) B.range (pa_cons (pv 2) pa_nil)) (blkOk_by (own := [("_law_spot", 6)]) (N := N_brokenL) (sc := defScope s_brokenL) (by decide +kernel)) (fun _ _ _ _ _ => (pg_name (i := 6) nd rfl (Or.inl rfl))) (fun _ _ _ _ _ => (pts_one (pt_cmpR (kEq K hr.units) (pe_callD D_drawL hg (hr.mono (by decide)) (by rfl) (pa_cons (pv 0) (pa_cons (pv 3) pa_nil))) pe_int (nomark _)))) (fun _ _ _ _ _ => (pe_tupX (pa_cons (pv 5) (pa_cons (pv 6) pa_nil)))))))))
    (pss_one (ps_ret (pe_callTy (kTuple K) (by rfl) B.tuple (by decide +kernel) (pa_cons (pv 4) pa_nil))))))), ?_⟩
  rintro m T fu L G0 D ds ⟨n, hn, rfl⟩ hR
  have hlen := hn.len
  have hb1 := hn.ok.b1
  have hb3 := hn.b3
  have hk8 := hn.k8
  refine q_asgPN (f' := fu + 40) (P := fun d => ∃ q, 0 < q ∧ q ≤ 9 ∧ d = .tuple [dI n.k, dI q]) (EvN.imp (en_tup (ean_cons (P1 := fun d => d = dI n.k) (f1 := fu + 41) ((ev_call (ea_one (ev_ixT (es := [dI n.b, .tuple (n.os.map dT)]) (ev_var rfl).r ev_int.r rfl)) ⟨n.b, by omega, rfl, rfl⟩).n (f := fu + 50) (f' := fu + 41) rfl) fun x _ => ean_cons (en_of (es := [dI 2, dI 4, dI 9]) (f := fu + 40) rfl (ev_lst (ea_three ev_int ev_int ev_int)) (by simp) (by decide)) fun y _ => ean_nil (P := fun l => l = []) rfl) ?_) ?_) (fun d ⟨q, _, _, h⟩ => ⟨_, _, h⟩) ?_
  · rintro es ⟨x, es', _, ⟨y, es'', _, h3, h4⟩, h5⟩
    rw [h5, h4, h3]; simp
  · rintro d ⟨es, ⟨x, es', hx, ⟨y, es'', hy, h3, h4⟩, h5⟩, h6⟩
    have : ∃ q, 0 < q ∧ q ≤ 9 ∧ y = dI q := by
      rcases List.mem_cons.mp hy with rfl | hy
      · exact ⟨2, by decide, by decide, rfl⟩
      rcases List.mem_cons.mp hy with rfl | hy
      · exact ⟨4, by decide, by decide, rfl⟩
      rw [List.mem_singleton.mp hy]
      exact ⟨9, by decide, by decide, rfl⟩
    obtain ⟨q, h7, h8, rfl⟩ := this
    exact ⟨q, h7, h8, by rw [h6, h5, h4, h3, hx]⟩
  rintro x y ⟨q, hq0, hq9, h⟩
  injection h with h
  injection h with h1 h2
  injection h2 with h2 h3
  subst h1 h2
  refine q_asg (d := .list (([] : Spots).map dP)) (ev_is (ev_lst ea_nil) rfl) ?_
  refine Go.less (f := fu + (n.os.length + 1 - 0) * 8) ?_ (by omega)
  refine q_for (bw := false) (js := [5]) (F := Fn 5) (items := (List.range (n.os.length + 1)).map dI) ?_ (fun x hx => tg_name)
    (fun i f1 L' ds => i ≤ n.os.length + 1 ∧ f1 = fu + (n.os.length + 1 - i) * 8 ∧ L' = L ∧ ∃ S a5 a6, BrkTo n i S ∧ ds = [some (.raw (.ref m.d)), some (.dat (dN n)), some (.dat (dI n.k)), some (.dat (dI q)), some (.dat (.list (S.map dP))), a5, a6]) ?_ ?_ ?_
  · rw [← rng0]
    exact ei_rng1 (ea_one (ev_addI (i := ((n.os.map dT).length : Nat)) (j := 1) (ev_lenT (ev_ixT (es := [dI n.b, .tuple (n.os.map dT)]) (ev_var rfl).r ev_int.r rfl).r).r ev_int.r |>.is (dI_eq (by rw [List.length_map]; omega)))) (by omega)
  · exact ⟨Nat.zero_le _, rfl, rfl, [], none, none, ⟨fun p hp => absurd hp List.not_mem_nil, .nil, Nat.zero_le _⟩, rfl⟩
  · rintro G1 e1 i x f1 L1 ds1 hx ⟨hi, rfl, rfl, S, a5, a6, hS, rfl⟩
    obtain ⟨hi', rfl⟩ := getRange hx
    have e : fu + (n.os.length + 1 - i) * 8 = fu + (n.os.length + 1 - (i + 1)) * 8 + 8 := by omega
    have hl := hS.len
    refine go_asgN (f' := fu + (n.os.length + 1 - (i + 1)) * 8) (P := fun d => ∃ S', BrkTo n (i + 1) S' ∧ d = .list (S'.map dP)) (en_opR (x := .list (S.map dP)) (R := fun d => ∃ l : List Nat, l.Sublist (List.range n.k) ∧ d = .list (l.map fun s => dP (i, s))) (ev_var rfl).r (EvN.less (en_lcT (bw := false) (js := [6]) (F := Fn 6) (xs := List.range n.k) (f := fu + (n.os.length + 1 - (i + 1)) * 8) dI (fun s => dP (i, s)) 1 ?_ (by decide) (fun x hx => tg_name) (by rw [List.length_range]; omega) fun s hs => ⟨fun f2 => ?_, ev_tup (ea_two (ev_var rfl) (ev_var rfl))⟩) (by rw [List.length_range]; omega) (Nat.le_refl _)) fun y ⟨l, h1, hy⟩ => ?_) ?_
    · rw [← rng0]
      exact ei_rng1 (ea_one (ev_var rfl)) (by omega)
    · refine ebn_T (P := fun d => ∃ b : Bool, d = .bool b) (en_op (en_draw (k := q) (f := f2) rfl (ev_var rfl) hq0 (by omega)) (fun x _ => (ev_int (i := 0)).n (f' := f2) (P := fun d => d = .int 0) rfl) fun x y ⟨j, hj, hx⟩ hy => ?_) fun d ⟨b, hb⟩ => ⟨b, hb, trivial⟩
      subst hx hy
      exact ⟨_, ro_eq (n := 0) (m := 0) (shp_dI _) (Shp.int _), _, rfl⟩
    · subst hy
      obtain ⟨r1, r2⟩ := row_sub (i := i) h1
      have hll := h1.length_le
      rw [List.length_range] at hll
      refine ⟨_, ROk.or2 (ROk.or1 (ro_cat ?_)), S ++ l.map (fun s => (i, s)), ⟨fun p hp => ?_, ?_, ?_⟩, ?_⟩
      · rw [List.length_map, List.length_map]; omega
      · rcases List.mem_append.mp hp with hp | hp
        · have := hS.ok p hp; exact ⟨by omega, this.2⟩
        · have := r2 p hp; exact ⟨by omega, this.2⟩
      · refine List.pairwise_append.mpr ⟨hS.up, r1, fun p hp q hq => .inl ?_⟩
        have := (hS.ok p hp).1
        have := (r2 q hq).1
        omega
      · rw [List.length_append, List.length_map]; omega
      · rw [List.map_append, List.map_map]; rfl
    · rintro d ⟨S', hS', rfl⟩
      exact nx_iv ⟨hi', rfl, rfl, S', _, _, hS', rfl⟩
  · rintro f1 L1 ds1 ⟨_, rfl, rfl, S, a5, a6, hS, rfl⟩
    rw [List.length_map, List.length_range]
    have hl := hS.len
    rw [List.length_map, List.length_range] at hS hl
    exact go_ret (ev_tupleL (ev_var rfl).r) (hR.less (by omega)) ⟨n, S, rfl, ⟨fun p hp => by have := hS.ok p hp; exact ⟨by omega, this.2⟩, hS.up, by omega⟩, rfl⟩
end
end Kd
namespace Kd
open PySem L2
open PyProof.Rows (envOfC)
structure PapOk (p : PyData) : Prop where
  shp : Shp 8 p
  rep : RepP p
structure W16 (w : Way) : Prop where
  lt : ∀ i ∈ w, i < 16
  len : w.length ≤ 7
theorem W16.rep {w : Way} (h : W16 w) : RepX (dT w) := repX_way h.lt h.len
theorem all_w16 {n : Net} {b : Nat} (h : NetOk n) (hb : b < n.k) {w : Way} (hw : w ∈ allW n b) : W16 w ∧ w.length = n.os.length + 1 := by
  have ho := all_ok h hb w hw
  obtain ⟨j, hk, _, hj⟩ := h.k2
  have hl := h.len
  have := ho.len
  exact ⟨⟨fun i hi => by have := ho.lt i hi; omega, by omega⟩, this⟩
theorem mem_dropLast {l : List Nat} {x : Nat} (h : x ∈ l.dropLast) : x ∈ l := by
  rw [List.dropLast_eq_take] at h
  exact List.mem_of_mem_take h
def odds : List PyData := [.none, .bool true, .int (-1), .str "0", .int (10 ^ 30), .list [.int 0], .int 99]
theorem odds_fact : ∀ d ∈ odds, (d.canLay0 = true ∧ d.depth ≤ 1) ∧ (d.showable = true ∧ d.hasDict = false ∧ d.shown.length ≤ 40) ∧ 44 ∉ cps d.shown ∧ ∀ i, i < 16 → d.shown ≠ (dI i).shown := by
  intro d hd
  unfold odds at hd
  simp only [List.mem_cons, List.not_mem_nil, or_false] at hd
  rcases hd with rfl | rfl | rfl | rfl | rfl | rfl | rfl <;> decide +kernel
theorem odd_shp {d : PyData} (h : d ∈ odds) : Shp 1 d := (odds_fact d h).1
theorem odd_atom {d : PyData} (h : d ∈ odds) : Atom d := ⟨(odds_fact d h).2.2.1, fun i hi e => absurd e ((odds_fact d h).2.2.2 i hi)⟩
theorem odd_sv {d : PyData} (h : d ∈ odds) : Sv 1 40 d := ⟨(odds_fact d h).2.1.1, (odds_fact d h).2.1.2.1, (odds_fact d h).1.2, (odds_fact d h).2.1.2.2⟩
theorem odd_rep {w : Way} (hw : W16 w) {d : PyData} (h : d ∈ odds) : RepX (.tuple (w.dropLast.map dI ++ [d])) := by
  have h1 : ∀ i ∈ w.dropLast, i < 16 := fun i hi => hw.lt i (mem_dropLast hi)
  have hl := hw.len
  refine repX_tup (Sv.sw (k := 2) (n := 8 * (40 + 2) + 3) (Sv.tup (n := 40) (m := 8) (fun e he => ?_) ?_)) fun e he => ?_
  · rcases List.mem_append.mp he with he | he
    · obtain ⟨i, hi, rfl⟩ := List.mem_map.mp he
      exact (sv_small i (h1 i hi)).le
    · rw [List.mem_singleton.mp he]; exact odd_sv h
  · rw [List.length_append, List.length_map, List.length_dropLast]
    show _ + 1 ≤ 8
    omega
  · rcases List.mem_append.mp he with he | he
    · obtain ⟨i, hi, rfl⟩ := List.mem_map.mp he
      exact atom_small (h1 i hi)
    · rw [List.mem_singleton.mp he]; exact odd_atom h
theorem shp_of {d : PyData} {n : Nat} (h : Shp n d) (hn : n ≤ 7 := by decide) : Shp 7 d := h.le hn
theorem shp_tup3 {z : Str} {x y : PyData} (hz : PyData.strOk z = true) (hx : Shp 7 x) (hy : Shp 7 y) : Shp 8 (.tuple [.str z, x, y]) := Shp.tup fun d hd => by
  rcases List.mem_cons.mp hd with rfl | hd
  · exact Shp.str hz
  rcases List.mem_cons.mp hd with rfl | hd
  · exact hx
  rw [List.mem_singleton.mp hd]; exact hy
theorem pap_two {x y : PyData} (hx : Shp 7 x) (hy : Shp 7 y) (rx : RepX x) (ry : RepX y) : PapOk (.tuple [.str "two", x, y]) := ⟨shp_tup3 (by decide +kernel) hx hy, fun _ => ⟨rx, ry⟩⟩
theorem pap_ne {z : Str} {x y : PyData} (hz : PyData.strOk z = true) (hne : z ≠ "two") (hx : Shp 7 x) (hy : Shp 7 y) : PapOk (.tuple [.str z, x, y]) := ⟨shp_tup3 hz hx hy, fun h => absurd h hne⟩
theorem shp_w (w : Way) : Shp 7 (dT w) := shp_dT (n := 6) w
theorem shp_i (i : Nat) : Shp 7 (dI i) := shp_dI i
/-- the second ways that are tried -/
def tries (one other : Way) : List PyData := [dT other, dT one, .list (other.map dI), dT other.dropLast, dT (other ++ [0]), .none, dT other.reverse]
theorem tries_ok {one other : Way} (h1 : W16 one) (h2 : W16 other) (h5 : other.length ≤ 6) {d : PyData} (hd : d ∈ tries one other) : Shp 7 d ∧ RepX d := by
  have hl := h2.len
  unfold tries at hd
  simp only [List.mem_cons, List.not_mem_nil, or_false] at hd
  rcases hd with rfl | rfl | rfl | rfl | rfl | rfl | rfl
  · exact ⟨shp_w _, h2.rep⟩
  · exact ⟨shp_w _, h1.rep⟩
  · refine ⟨Shp.list (Shp.map fun i _ => shp_dI i), repX_other (Sv.sw (k := 1) (n := 7 * (2 + 2) + 3) (Sv.list (n := 2) (m := 7) (Sv.map fun i hi => sv_small i (h2.lt i hi)) (by rw [List.length_map]; exact hl))) ?_⟩
    have : (cps (PyData.list (other.map dI)).shown).head? = some 91 := by
      simp only [PyData.shown]
      rw [listText_eq_join]
      rw [cps_app, cps_app]
      rfl
    rw [this]; decide
  · exact ⟨shp_w _, (W16.mk (fun i hi => h2.lt i (mem_dropLast hi)) (by rw [List.length_dropLast]; omega)).rep⟩
  · refine ⟨shp_w _, (W16.mk (fun i hi => ?_) (by rw [List.length_append]; show _ + 1 ≤ 7; omega)).rep⟩
    rcases List.mem_append.mp hi with hi | hi
    · exact h2.lt i hi
    · rw [List.mem_singleton.mp hi]; decide
  · exact ⟨Shp.non, repX_other ⟨by decide +kernel, by decide +kernel, by decide +kernel, by decide +kernel⟩ (by decide +kernel)⟩
  · exact ⟨shp_w _, (W16.mk (fun i hi => h2.lt i (List.mem_reverse.mp hi)) (by rw [List.length_reverse]; omega)).rep⟩
section
variable {P : Program} {w : World} {K : PySem.W.Frag} {mg : Str → Option Value} {base : Heap} {f : Addr} {fd : FuncData} {CB fI : Addr}
def in_paper : List PyData → Prop := fun ds => ∃ n b e, DrN 4 n ∧ b < n.k ∧ ds = [dN n, dI b, dI e]
def out_paper : List PyData → PyData → Prop := fun _ r => PapOk r
theorem allW_ne (n : Net) (b : Nat) : allW n b ≠ [] := fun e => by
  have h : (allW n b).length = 0 := by rw [e]; rfl
  have h2 : (allW n b).length = 2 * 2 ^ n.os.length := from_len _ _
  have h3 : 0 < 2 ^ n.os.length := Nat.pow_pos (by decide)
  omega
abbrev s_drawn_paperL : Stmt := top 73
abbrev N_drawn_paperL : List Str := ["_law_m", "_law_net_here", "_law_spot", "_law_far", "_law_some", "_law_one", "_law_other", "_law_kind", "_law_row", "_law_odd", "_law_lots"]
abbrev ps_drawn_paperL : List Str := ["_law_m", "_law_net_here", "_law_spot", "_law_far"]
theorem sc_drawn_paperL : FnScope N_drawn_paperL ps_drawn_paperL (defScope s_drawn_paperL) := ⟨rfl, rfl, rfl, by decide +kernel, rfl, by decide +kernel, by decide +kernel⟩

theorem ok_drawn_paperL (F : FunAt K mg "_law_drawn_paper" s_drawn_paperL ps_drawn_paperL f fd) (B : Bt mg) (D_ofL : DefOk P w K mg base "_law_of" 3 ps_ofL (spM 1 in_of out_of)) (D_drawL : DefOk P w K mg base "_law_draw" 2 ps_drawL (spM 1 in_draw out_draw)) (D_all_waysL : DefOk P w K mg base "_law_all_ways" 1 ps_all_waysL (spD pre_all_waysL)) (D_waysL : DefOk P w K mg base "_law_ways" 2 ps_waysL (spD pre_waysL)) :
    DefOk P w K mg base "_law_drawn_paper" 4 ps_drawn_paperL (spM 6 in_paper out_paper) := by
  refine DefOk.drawn F sc_drawn_paperL (fun ds ⟨n, b, e, _, _, h⟩ => by rw [h]; rfl) fun cdv A outer s H E hg hr => ?_
  have nd := sc_drawn_paperL.nd
  refine ⟨_, (pss_cons (ps_set (i := 4) nd rfl (Or.inl rfl) (pe_callD D_waysL hg (hr.mono (by decide)) (by rfl) (pa_cons (pv 1) (pa_cons (pv 2) (pa_cons (pv 3) pa_nil)))))
    (pss_cons (ps_set (i := 5) nd rfl (Or.inl rfl) (pe_callD D_ofL hg (hr.mono (by decide)) (by rfl) (pa_cons (pv 0) (pa_cons (pe_ifExp (pt_cmpR (kNe K hr.units) (pv 4) (pe_lst pa_nil) (nomark _)) (pv 4) (pe_callD D_all_waysL hg (hr.mono (by decide)) (by rfl) (pa_cons (pv 1) (pa_cons (pv 2) pa_nil)))) pa_nil))))
    (pss_cons (ps_par (i := 6) (j := 7) rfl nd rfl rfl (by decide) rfl rfl (pa_cons (pe_callD D_ofL hg (hr.mono (by decide)) (by rfl) (pa_cons (pv 0) (pa_cons (pe_slice (kSl K) (pe_op (kAdd K) (pv 4) (pe_callD D_all_waysL hg (hr.mono (by decide)) (by rfl) (pa_cons (pv 1) (pa_cons (pv 2) pa_nil)))) po_none (po_some pe_int)) pa_nil))) (pa_cons (pe_callD D_drawL hg (hr.mono (by decide)) (by rfl) (pa_cons (pv 0) (pa_cons pe_int pa_nil))) pa_nil)) (by rfl))
    (pss_cons (ps_par (i := 8) (j := 9) rfl nd rfl rfl (by decide) rfl rfl (pa_cons (pe_callD D_drawL hg (hr.mono (by decide)) (by rfl) (pa_cons (pv 0) (pa_cons (pe_op (kAdd K) (pe_callB (kLen K) (by rfl) B.len (by decide +kernel) (pa_cons (pe_ix (kIx K) (pv 1) pe_int (fun _ _ => rfl)) pa_nil)) pe_int) pa_nil))) (pa_cons (pe_callD D_ofL hg (hr.mono (by decide)) (by rfl) (pa_cons (pv 0) (pa_cons (pe_lst (pa_cons pe_non (pa_cons pe_bl (pa_cons (pe_un un_neg pe_int) (pa_cons pe_str (pa_cons (pe_op op_pow pe_int pe_int) (pa_cons (pe_lst (pa_cons pe_int pa_nil)) (pa_cons pe_int pa_nil)))))))) pa_nil))) pa_nil)) (by rfl))
    (pss_cons (ps_if (pt_cmpR (kLt K hr.units0) (pv 7) pe_int (nomark _)) (pss_one (ps_ret (pe_tupX (pa_cons pe_str (pa_cons (pv 5) (pa_cons (pe_callD D_ofL hg (hr.mono (by decide)) (by rfl) (pa_cons (pv 0) (pa_cons (pe_lst (pa_cons (pv 6) (pa_cons (pv 5) (pa_cons (pe_callTy (kListC K) (by rfl) B.list (by decide +kernel) (pa_cons (pv 6) pa_nil)) (pa_cons (pe_slice (kSl K) (pv 6) po_none (po_some (pe_un un_neg pe_int))) (pa_cons (pe_op (kAdd K) (pv 6) (pe_tupX (pa_cons pe_int pa_nil))) (pa_cons pe_non (pa_cons (kRevT K (pv 6)) pa_nil)))))))) pa_nil))) pa_nil)))))) pss_nil)
    (pss_cons (ps_if (pt_cmpR (kEq K hr.units) (pv 7) pe_int (nomark _)) (pss_one (ps_ret (pe_tupX (pa_cons pe_str (pa_cons (pv 8) (pa_cons (pe_ix (kIx K) (pv 5) (pv 8) (fun _ _ => rfl)) pa_nil)))))) pss_nil)
    (pss_cons (ps_if (pt_cmpR (kEq K hr.units) (pv 7) pe_int (nomark _)) (pss_cons (ps_set (i := 10) nd rfl (Or.inl rfl) (pe_lst (pa_cons (pe_tupX (pa_cons pe_str (pa_cons (pv 8) (pa_cons (pv 9) pa_nil)))) (pa_cons (pe_tupX (pa_cons pe_str (pa_cons (pv 9) (pa_cons (pe_ix (kIx K) (pv 5) (pv 8) (fun _ _ => rfl)) pa_nil)))) (pa_cons (pe_tupX (pa_cons pe_str (pa_cons (pv 8) (pa_cons (pe_ix (kIx K) (pv 6) (pv 8) (fun _ _ => rfl)) pa_nil)))) pa_nil)))))
    (pss_one (ps_ret (pe_callD D_ofL hg (hr.mono (by decide)) (by rfl) (pa_cons (pv 0) (pa_cons (pe_op (kAdd K) (pv 10) (pe_lst (pa_cons (pe_tupX (pa_cons pe_str (pa_cons (pe_tupX (pa_cons (pv 8) (pa_cons (pe_ix (kIx K) (pv 5) (pv 8) (fun _ _ => rfl)) pa_nil))) (pa_cons pe_int pa_nil)))) pa_nil))) pa_nil)))))) pss_nil)
    (pss_cons (ps_if (pt_cmpR (kEq K hr.units) (pv 7) pe_int (nomark _)) (pss_cons (ps_set (i := 10) nd rfl (Or.inl rfl) (pe_lst (pa_cons (pe_tupX (pa_cons pe_str pa_nil)) (pa_cons (pe_tupX (pa_cons pe_str (pa_cons pe_int pa_nil))) (pa_cons (pe_tupX pa_nil) (pa_cons pe_non (pa_cons pe_str (pa_cons (pe_tupX (pa_cons pe_str (pa_cons (pv 5) pa_nil))) (pa_cons (pe_lst (pa_cons pe_str (pa_cons (pv 8) (pa_cons (pe_ix (kIx K) (pv 5) (pv 8) (fun _ _ => rfl)) pa_nil)))) (pa_cons (pe_tupX (pa_cons (pe_lst pa_nil) pa_nil)) pa_nil))))))))))
    (pss_one (ps_ret (pe_callD D_ofL hg (hr.mono (by decide)) (by rfl) (pa_cons (pv 0) (pa_cons (pe_op (kAdd K) (pv 10) (pe_lst (pa_cons (pe_tupX (pa_cons pe_str (pa_cons (pv 5) (pa_cons (pv 6) pa_nil)))) pa_nil))) pa_nil)))))) pss_nil)
    (pss_cons (ps_if (pt_cmpR (kEq K hr.units) (pv 7) pe_int (nomark _)) (pss_one (ps_ret (pe_tupX (pa_cons pe_str (pa_cons (pe_op (kAdd K) (pe_slice (kSl K) (pv 5) po_none (po_some (pe_un un_neg pe_int))) (pe_tupX (pa_cons (pv 9) pa_nil))) (pa_cons (pv 6) pa_nil)))))) pss_nil)
    (pss_one (ps_ret (pe_tupX (pa_cons pe_str (pa_cons (pv 6) (pa_cons (pv 5) pa_nil))))))))))))))), ?_⟩
  rintro m T fu L G0 D ds ⟨n, b, e, hn, hb, rfl⟩ hR
  have hok := hn.ok
  have hlen := hn.len
  have hal := all_len hok b
  have hwl := W_len hok b e
  have hane := allW_ne n b
  have hsub : ∀ w ∈ Wn n b e, w ∈ allW n b := fun w h => (List.mem_filter.mp h).1
  have mw : ∀ {l : List Way} {d : PyData}, (∀ w ∈ l, w ∈ allW n b) → d ∈ l.map dT → ∃ w ∈ allW n b, d = dT w := fun {l d} h hd => by
    obtain ⟨w, hw, rfl⟩ := List.mem_map.mp hd
    exact ⟨w, h w hw, rfl⟩
  have hR' : ∀ j, RtOk ⟨some m, T⟩ G0 D (fu + j) L PapOk := fun j => hR.less (by omega)
  refine q_asg (d := .list ((Wn n b e).map dT)) (ev_call (ea_three (ev_var rfl) (ev_var rfl) (ev_var rfl)) ⟨n, b, e, hok, hb, rfl, rfl⟩) ?_
  refine q_asgN (f' := fu + 5) (P := fun d => ∃ w ∈ allW n b, d = dT w) (EvN.imp (en_of (es := (if Wn n b e = [] then allW n b else Wn n b e).map dT) (f := fu + 5) rfl (ev_if (b := !decide (Wn n b e = [])) ((eb_T (ev_ne (n := 2) (m := 2) (ev_var rfl).r (ev_lst ea_nil).r (shp_ways _) (shp_ways []))).is (by rw [eqv_nil, isEmpty_eq])) (fun h => ?_) (fun h => ?_)) ?_ ?_) fun d hd => mw (fun w hw => ?_) hd) ?_
  · refine ev_is (ev_var rfl) ?_
    rw [if_neg (by simpa using h)]
  · refine ev_is (ev_call (ea_two (ev_var rfl) (ev_var rfl)) ⟨n, b, hok, hb, rfl, rfl⟩) ?_
    rw [if_pos (by simpa using h)]
  · split
    · simpa using hane
    · rename_i h; simpa using h
  · rw [List.length_map]
    split <;> omega
  · split at hw
    · exact hw
    · exact hsub w hw
  rintro d ⟨one, hone, rfl⟩
  obtain ⟨w1, l1⟩ := all_w16 hok hb hone
  refine q_parN (f' := fu + 3) (ean_cons (P1 := fun d => ∃ w ∈ allW n b, d = dT w) (f1 := fu + 4) (EvN.imp (en_of (es := (((Wn n b e) ++ (allW n b)).take 6).map dT) (f := fu + 4) rfl (ev_is (ev_slL (es := ((Wn n b e) ++ (allW n b)).map dT) (EvD.r (ev_is (ev_addL (es := (Wn n b e).map dT) (gs := (allW n b).map dT) (ev_var rfl).r (EvD.r (ev_call (ea_two (ev_var rfl) (ev_var rfl)) ⟨n, b, hok, hb, rfl, rfl⟩)) ?_) ?_)) eo_none (eo_some (i := ((6 : Nat) : Int)) ev_int)) ?_) ?_ ?_) fun d hd => mw (fun w hw => ?_) hd) fun x _ => ean_cons (en_draw (k := 7) (f := fu + 3) rfl ev_int (by decide) (by decide)) fun y _ => ean_nil (P := fun l => l = []) rfl) (fun es ⟨x, es', _, ⟨y, es'', _, h3, h4⟩, h5⟩ => ⟨x, y, by rw [h5, h4, h3]⟩) fun x y h => ?_
  · rw [List.length_map, List.length_map]; omega
  · rw [List.map_append]
  · rw [cut_take2, List.map_take]
  · have hp := List.length_pos_iff.mpr hane
    rw [Ne, List.map_eq_nil_iff, List.take_eq_nil_iff]
    simp [hane]
  · rw [List.length_map, List.length_take]; omega
  · rcases List.mem_append.mp (List.mem_of_mem_take hw) with h | h
    · exact hsub w h
    · exact h
  obtain ⟨x', es', ⟨other, hother, hx⟩, ⟨y', es'', ⟨kind, hkind, hy⟩, h3, h4⟩, h5⟩ := h
  subst h3 h4
  injection h5 with h6 h7
  injection h7 with h7 h8
  subst h6 h7 hx hy
  obtain ⟨w2, l2⟩ := all_w16 hok hb hother
  refine q_parN (f' := fu + 1) (ean_cons (P1 := fun d => ∃ r, r < n.os.length + 1 ∧ d = dI r) (f1 := fu + 2) (en_draw (k := n.os.length + 1) (f := fu + 2) rfl (ev_addI (i := ((n.os.map dT).length : Nat)) (j := 1) (ev_lenT (ev_ixT (es := [dI n.b, .tuple (n.os.map dT)]) (ev_var rfl).r ev_int.r rfl).r).r ev_int.r |>.is (dI_eq (by rw [List.length_map]; omega))) (by omega) (by omega)) fun x _ => ean_cons (en_of (es := odds) (f := fu + 1) rfl (ev_lst (ea_cons ev_non (ea_cons ev_bl (ea_cons (ev_neg ev_int) (ea_cons ev_str (ea_cons (ev_pow (i := 10) (j := 30) ev_int.r ev_int.r ?_) (ea_cons (ev_lst (ea_one ev_int)) (ea_one ev_int)))))))) (by unfold odds; simp) (by decide)) fun y _ => ean_nil (P := fun l => l = []) rfl) (fun es ⟨x, es', _, ⟨y, es'', _, h3, h4⟩, h5⟩ => ⟨x, y, by rw [h5, h4, h3]⟩) fun x y h => ?_
  · exact ⟨by decide, by decide⟩
  obtain ⟨x', es', ⟨row, hrow, hx⟩, ⟨odd, es'', hodd, h3, h4⟩, h5⟩ := h
  subst h3 h4
  injection h5 with h6 h7
  injection h7 with h7 h8
  subst h6 h7 hx
  have so : Shp 7 y := (odd_shp hodd).le (by decide)
  have base : ∀ a, ∃ ds' : DS, ds' = [some (.raw (.ref m.d)), some (.dat (dN n)), some (.dat (dI b)), some (.dat (dI e)), some (.dat (.list ((Wn n b e).map dT))), some (.dat (dT one)), some (.dat (dT other)), some (.dat (dI kind)), some (.dat (dI row)), some (.dat y), a] := fun a => ⟨_, rfl⟩
  obtain ⟨ds', hds⟩ := base none
  have q0 : ds'[0]? = some (some (.raw (.ref m.d))) := by rw [hds]; rfl
  have q5 : ds'[5]? = some (some (.dat (dT one))) := by rw [hds]; rfl
  have q6 : ds'[6]? = some (some (.dat (dT other))) := by rw [hds]; rfl
  have q7 : ds'[7]? = some (some (.dat (dI kind))) := by rw [hds]; rfl
  have q8 : ds'[8]? = some (some (.dat (dI row))) := by rw [hds]; rfl
  have q9 : ds'[9]? = some (some (.dat y)) := by rw [hds]; rfl
  have set10 : ∀ (x : SD) (i : Nat), i < 10 → (ds'.set 10 (some x))[i]? = ds'[i]? := fun x i h => List.getElem?_set_ne (by omega)
  have new10 : ∀ (x : SD), (ds'.set 10 (some x))[10]? = some (some x) := fun x => by rw [hds]; rfl
  show Go _ _ _ _ _ _ [some (.raw (.ref m.d)), some (.dat (dN n)), some (.dat (dI b)), some (.dat (dI e)), some (.dat (.list ((Wn n b e).map dT))), some (.dat (dT one)), some (.dat (dT other)), some (.dat (dI kind)), some (.dat (dI row)), some (.dat y), none]
  rw [← hds]
  have isK : ∀ (c : Int), EvB ⟨some m, T⟩ L (tTest (tOp (rEqD K) (tVar 7) (tC (.int c)))) ds' (decide ((kind : Int) = c)) := fun c => eb_T (ev_eqI (ev_var q7).r ev_int.r)
  have cellAt : ∀ {w : Way} {ds2 : DS} {i : Nat}, w.length = n.os.length + 1 → ds2[i]? = some (some (.dat (dT w))) → ds2[8]? = some (some (.dat (dI row))) → EvD ⟨some m, T⟩ L (tOp (rIxG K) (tVar i) (tVar 8)) ds2 (dI (w.getD row 0)) := fun {w ds2 i} hl h1 h2 => ev_ixT (es := w.map dI) (i := (row : Int)) (ev_var h1).r (ev_var h2).r (atI_getD (by omega))
  refine q_if (b := decide ((kind : Int) < 2)) (eb_T (ev_lt (ev_var q7).r ev_int.r)) (fun _ => ?_) fun _ => ?_
  · refine go_retN (f' := fu) (P := PapOk) (EvN.imp (en_tup (ean_cons (P1 := fun d => d = .str "two") (f1 := fu + 1) (ev_str.n (f := fu + 1) (f' := fu + 1) rfl) fun _ _ => ean_cons (P1 := fun d => d = dT one) (f1 := fu + 1) ((ev_var q5).n (f := fu + 1) (f' := fu + 1) rfl) fun _ _ => ean_cons (en_of (es := tries one other) (f := fu) q0 (ev_lst (ea_cons (ev_var q6) (ea_cons (ev_var q5) (ea_cons (ev_listT (es := other.map dI) (ev_var q6).r) (ea_cons (ev_is (ev_slT (es := other.map dI) (ev_var q6).r eo_none (eo_some (i := -1) (ev_neg (i := 1) ev_int))) ?_) (ea_cons (ev_is (ev_addT (es := other.map dI) (gs := [dI 0]) (ev_var q6).r (ev_tup (ea_one ev_int)).r ?_) ?_) (ea_cons ev_non (ea_one (ev_is (ev_revT (es := other.map dI) (ev_var q6).r) ?_)))))))) (by unfold tries; simp)) (by unfold tries; simp) (by unfold tries; simp)) fun y _ => ean_nil (P := fun l => l = []) rfl) ?_) ?_) (hR' 0) fun d hd => hd
    · rw [cut_but, dropLast_map]; rfl
    · rw [List.length_map]; simp; omega
    · exact dT_snoc other 0
    · rw [← List.map_reverse]; rfl
    · rintro es ⟨_, _, _, ⟨_, _, _, ⟨_, _, _, h1, h2⟩, h3⟩, h4⟩
      rw [h4, h3, h2, h1]; simp
    · rintro d ⟨es, ⟨a1, _, g1, ⟨a2, _, g2, ⟨a3, _, g3, h1, h2⟩, h3⟩, h4⟩, h5⟩
      rw [h5, h4, h3, h2, h1, g1, g2]
      obtain ⟨z1, z2⟩ := tries_ok w1 w2 (by omega) g3
      exact pap_two (shp_w _) z1 w1.rep z2
  refine q_if (isK 2) (fun _ => ?_) fun _ => ?_
  · exact go_ret (ev_tup (ea_three ev_str (ev_var q8) (cellAt l1 q5 q8))) (hR' 1) (pap_ne (by decide +kernel) (by decide +kernel) (shp_i _) (shp_i _))
  refine q_if (isK 3) (fun _ => ?_) fun _ => ?_
  · refine q_asg (d := .list [.tuple [.str "all", dI row, y], .tuple [.str "all", y, dI (one.getD row 0)], .tuple [.str "all", dI row, dI (other.getD row 0)]]) (ev_lst (ea_three (ev_tup (ea_three ev_str (ev_var q8) (ev_var q9))) (ev_tup (ea_three ev_str (ev_var q9) (cellAt l1 q5 q8))) (ev_tup (ea_three ev_str (ev_var q8) (cellAt l2 q6 q8))))) ?_
    have p5 : ∀ x, (ds'.set 10 (some x))[5]? = some (some (.dat (dT one))) := fun x => (set10 x 5 (by decide)).trans q5
    have p8 : ∀ x, (ds'.set 10 (some x))[8]? = some (some (.dat (dI row))) := fun x => (set10 x 8 (by decide)).trans q8
    have p0 : ∀ x, (ds'.set 10 (some x))[0]? = some (some (.raw (.ref m.d))) := fun x => (set10 x 0 (by decide)).trans q0
    refine go_retN (f' := fu) (P := PapOk) (EvN.imp (en_of (f := fu) (es := [.tuple [.str "all", dI row, y], .tuple [.str "all", y, dI (one.getD row 0)], .tuple [.str "all", dI row, dI (other.getD row 0)]] ++ [.tuple [.str "all", .tuple [dI row, dI (one.getD row 0)], .int 0]]) (p0 _) (ev_addL (ev_var (new10 _)).r (EvD.r (ev_lst (ea_one (ev_tup (ea_three ev_str (ev_tup (ea_two (ev_var (p8 _)) (cellAt l1 (p5 _) (p8 _)))) ev_int))))) (by simp)) (by simp) (by simp)) fun d hd => ?_) (hR' 0) fun d hd => hd
    have ne : ("all" : Str) ≠ "two" := by decide +kernel
    have ok : PyData.strOk "all" = true := by decide +kernel
    simp only [List.mem_append, List.mem_cons, List.not_mem_nil, or_false] at hd
    rcases hd with (rfl | rfl | rfl) | rfl
    · exact pap_ne ok ne (shp_i _) so
    · exact pap_ne ok ne so (shp_i _)
    · exact pap_ne ok ne (shp_i _) (shp_i _)
    · exact pap_ne ok ne (shp_dT (n := 6) [row, one.getD row 0]) (Shp.int _)
  refine q_if (isK 4) (fun _ => ?_) fun _ => ?_
  · have p5 : ∀ x, (ds'.set 10 (some x))[5]? = some (some (.dat (dT one))) := fun x => (set10 x 5 (by decide)).trans q5
    have p6 : ∀ x, (ds'.set 10 (some x))[6]? = some (some (.dat (dT other))) := fun x => (set10 x 6 (by decide)).trans q6
    have p0 : ∀ x, (ds'.set 10 (some x))[0]? = some (some (.raw (.ref m.d))) := fun x => (set10 x 0 (by decide)).trans q0
    refine q_asg (d := .list [.tuple [.str "none"], .tuple [.str "none", .int 0], .tuple [], .none, .str "two", .tuple [.str "two", dT one], .list [.str "all", dI row, dI (one.getD row 0)], .tuple [.list []]]) (ev_lst (ea_cons (ev_tup (ea_one ev_str)) (ea_cons (ev_tup (ea_two ev_str ev_int)) (ea_cons (ev_tup ea_nil) (ea_cons ev_non (ea_cons ev_str (ea_cons (ev_tup (ea_two ev_str (ev_var q5))) (ea_two (ev_lst (ea_three ev_str (ev_var q8) (cellAt l1 q5 q8))) (ev_tup (ea_one (ev_lst ea_nil))))))))))) ?_
    refine go_retN (f' := fu) (P := PapOk) (EvN.imp (en_of (f := fu) (es := [.tuple [.str "none"], .tuple [.str "none", .int 0], .tuple [], .none, .str "two", .tuple [.str "two", dT one], .list [.str "all", dI row, dI (one.getD row 0)], .tuple [.list []]] ++ [.tuple [.str "TWO", dT one, dT other]]) (p0 _) (ev_addL (ev_var (new10 _)).r (EvD.r (ev_lst (ea_one (ev_tup (ea_three ev_str (ev_var (p5 _)) (ev_var (p6 _))))))) (by simp)) (by simp) (by simp)) fun d hd => ?_) (hR' 0) fun d hd => hd
    have k1 : PyData.strOk "none" = true := by decide +kernel
    have k2 : PyData.strOk "two" = true := by decide +kernel
    have k3 : PyData.strOk "all" = true := by decide +kernel
    have one1 : ∀ {x : PyData}, Shp 7 x → Shp 8 (.tuple [x]) := fun h => Shp.tup fun d hd => by rw [List.mem_singleton.mp hd]; exact h
    have two2 : ∀ {x y : PyData}, Shp 7 x → Shp 7 y → Shp 8 (.tuple [x, y]) := fun h h2 => Shp.tup fun d hd => by
      rcases List.mem_cons.mp hd with rfl | hd
      · exact h
      · rw [List.mem_singleton.mp hd]; exact h2
    simp only [List.mem_append, List.mem_cons, List.not_mem_nil, or_false] at hd
    rcases hd with (rfl | rfl | rfl | rfl | rfl | rfl | rfl | rfl) | rfl
    · exact ⟨one1 (Shp.str k1), trivial⟩
    · exact ⟨two2 (Shp.str k1) (Shp.int _), trivial⟩
    · exact ⟨Shp.tup fun d hd => absurd hd List.not_mem_nil, trivial⟩
    · exact ⟨Shp.non, trivial⟩
    · exact ⟨Shp.str k2, trivial⟩
    · exact ⟨two2 (Shp.str k2) (shp_w _), trivial⟩
    · refine ⟨Shp.list fun d hd => ?_, trivial⟩
      rcases List.mem_cons.mp hd with rfl | hd
      · exact Shp.str k3
      rcases List.mem_cons.mp hd with rfl | hd
      · exact shp_i _
      rw [List.mem_singleton.mp hd]; exact shp_i _
    · exact ⟨one1 (Shp.list fun d hd => absurd hd List.not_mem_nil), trivial⟩
    · exact pap_ne (by decide +kernel) (by decide +kernel) (shp_w _) (shp_w _)
  refine q_if (isK 5) (fun _ => ?_) fun _ => go_ret (ev_tup (ea_three ev_str (ev_var q6) (ev_var q5))) (hR' 1) (pap_two (shp_w _) (shp_w _) w2.rep w1.rep)
  refine go_ret (ev_tup (ea_three ev_str (ev_addT (es := one.dropLast.map dI) (gs := [y]) (EvD.r (ev_is (ev_slT (es := one.map dI) (ev_var q5).r eo_none (eo_some (i := -1) (ev_neg (i := 1) ev_int))) ?_)) (ev_tup (ea_one (ev_var q9))).r ?_) (ev_var q6))) (hR' 1) (pap_two ?_ (shp_w _) (odd_rep w1 hodd) w2.rep)
  · rw [cut_but, dropLast_map]
  · rw [List.length_map, List.length_dropLast]; simp; omega
  · refine Shp.tup (n := 6) fun d hd => ?_
    rcases List.mem_append.mp hd with hd | hd
    · obtain ⟨i, _, rfl⟩ := List.mem_map.mp hd
      exact shp_dI i
    · rw [List.mem_singleton.mp hd]; exact (odd_shp hodd).le (by decide)
end
end Kd
namespace Kd
open PySem L2
open PyProof.Rows (envOfC)
theorem rd_ex {G G' : Hp} {a : Addr} {u : HO} (e : Ex G G') (h : Rd G a u) : Rd G' a u := h.elim (fun h => .inl (e _ _ h)) fun ⟨o, h⟩ => .inr ⟨o, e _ _ h⟩
theorem sqL_ex {K : PySem.W.Frag} {G G' : Hp} {a : Addr} {xs : List V} (e : Ex G G') (h : SqL K G a xs) : SqL K G' a xs := h.elim (fun h => .inl (rd_ex e h)) .inr
/-- the script's list -/
def scrSD (K : PySem.W.Frag) (a : Addr) (ns : List Int) : SD := .kn (fun G v => v = .ref a ∧ SqL K G a (ns.map V.int)) (fun _ _ _ e h => ⟨h.1, sqL_ex e h.2⟩)
section
variable {K : PySem.W.Frag} {M : MS} {L : Own} {ds : DS} {a : Addr} {ns : List Int} {i : Nat}
theorem ints_at {j : Nat} {x : PyData} (h : (ns.map PyData.int)[j]? = some x) : ∃ k, ns[j]? = some k ∧ x = .int k ∧ (ns.map V.int)[j]? = some (.int k) := by
  rw [List.getElem?_map] at h
  cases e : ns[j]? with
  | none => rw [e] at h; cases h
  | some k =>
    rw [e] at h
    cases h
    exact ⟨k, rfl, rfl, by rw [List.getElem?_map, e]; rfl⟩
theorem ei_listS (h : ds[i]? = some (some (scrSD K a ns))) : EvI false M L (iList K (tVar i)) ds (ns.map .int) := fun f L' s σ G H w sl R r => by
  obtain ⟨v, h1, rfl, h2⟩ := sl.at_ i _ h
  refine ⟨_, h1, a, rfl, ⟨_, sqL_ex w.ex h2⟩, r _ G H (Evl.Ex.refl G) w fun j f3 L3 G3 H3 e3 w3 => ⟨fun hi => ?_, fun x hx => ?_⟩⟩
  · exact ⟨_, sqL_ex w3.ex (sqL_ex e3 h2), by rw [hi, List.length_map, List.length_map]; exact Nat.le_refl _⟩
  · obtain ⟨k, hk, rfl, hv⟩ := ints_at hx
    refine ⟨⟨_, _, sqL_ex w3.ex (sqL_ex e3 h2), hv⟩, fun u H4 hy => ?_⟩
    obtain ⟨rfl, hy2⟩ := hy
    have := hy2 _ (sqL_ex w3.ex (sqL_ex e3 h2))
    rw [hv] at this
    cases this
    exact ⟨G3, Evl.Ex.refl _, w3, .inl (.int _)⟩
theorem ei_enumS (h : ds[i]? = some (some (scrSD K a ns))) : EvI true M L (iEnum K (tCons (tVar i) tNil)) ds (enumFrom 0 (ns.map .int)) := fun f L' s σ G H w sl R r => by
  obtain ⟨v, h1, rfl, h2⟩ := sl.at_ i _ h
  refine ⟨_, h1, a, _, rfl, sqL_ex w.ex h2, r _ G H (Evl.Ex.refl G) w fun j f3 L3 G3 H3 e3 w3 => ?_⟩
  have h3 := sqL_ex w3.ex (sqL_ex e3 h2)
  refine ⟨fun hi => ⟨_, h3, by rw [hi, enum_len, List.length_map, List.length_map]; exact Nat.le_refl _⟩, fun x hx => ?_⟩
  obtain ⟨y, hy, rfl⟩ := enum_get hx
  obtain ⟨k, hk, rfl, hv⟩ := ints_at hy
  refine ⟨⟨_, _, h3, hv⟩, fun u H4 ⟨T, u', e1, hT, e4, hu⟩ => ?_⟩
  have := hu _ h3
  rw [hv] at this
  cases this
  subst e1 e4
  rw [Nat.zero_add]
  obtain ⟨a1, a2, a3⟩ := new_pair w3 (.int (j : Nat)) (.int k) hT
  exact ⟨_, a1, a2, a3⟩
end
section
variable {P : Program} {w : World} {K : PySem.W.Frag} {mg : Str → Option Value} {base : Heap} {f : Addr} {fd : FuncData} {CB fI : Addr}
structure Cells (cs : List Int) : Prop where
  len : cs.length = 64
  b : ∀ x ∈ cs, 0 ≤ x ∧ x < 2147483647
theorem Cells.set {cs : List Int} (h : Cells cs) (j : Nat) (x : Int) : Cells (cs.set j (x % 2147483647)) := ⟨by rw [List.length_set]; exact h.len, fun y hy => by
  rcases List.mem_or_eq_of_mem_set hy with hy | rfl
  · exact h.b y hy
  · exact ⟨Int.emod_nonneg _ (by decide), Int.emod_lt_of_pos _ (by decide)⟩⟩
def spFolded (K : PySem.W.Frag) : Sp := fun vs H Q _ => ∃ M f L G a, ∃ ns : List Int, vs = [.ref a] ∧ W M f L G H ∧ SqL K G a (ns.map V.int) ∧ ns.length ≤ 63 ∧ ∀ p cs G2 H2, Cells cs → Ex G G2 → W M f ((p, cs.map .int) :: L) G2 H2 → Q (.ref p) H2
abbrev s_foldedL : Stmt := top 43
abbrev N_foldedL : List Str := ["_law_script", "_law_found", "_law_n", "_law_cell"]
abbrev ps_foldedL : List Str := ["_law_script"]
theorem sc_foldedL : FnScope N_foldedL ps_foldedL (defScope s_foldedL) := ⟨rfl, rfl, rfl, by decide +kernel, rfl, by decide +kernel, by decide +kernel⟩

theorem ok_foldedL (F : FunAt K mg "_law_folded" s_foldedL ps_foldedL f fd) (B : Bt mg) : DefOk P w K mg base "_law_folded" 1 ps_foldedL (spFolded K) := by
  refine DefOk.of F sc_foldedL (fun vs H Q E ⟨M, fu, L, G, a, ns, hv, _⟩ => by rw [hv]; rfl) fun cdv A outer s H vs Q E hg hr ⟨M, fu, L, G, a, ns, hv, hw, hs, hn, hq⟩ => ?_
  have nd := sc_foldedL.nd
  refine ⟨_, ((pss_cons (ps_setLc (i := 1) (own := [("_law_n", 2)]) rfl nd rfl rfl (sw_true rfl rfl rfl (by decide +kernel)) (pi_range1 (by rfl) B.range (pa_cons pe_int pa_nil)) (blkOk_by (own := [("_law_n", 2)]) (N := N_foldedL) (sc := defScope s_foldedL) (by decide +kernel)) (fun _ _ _ _ _ => (pg_name (i := 2) nd rfl (Or.inl rfl))) (fun _ _ _ _ _ => pts_nil) (fun _ _ _ _ _ => (pe_op (kAdd K) pe_int (pv 2))))
    (pss_cons (ps_for PassesOwn.never rfl (pi_enum (by rfl) B.enumerate (pa_cons (pv 0) pa_nil)) (kTup (n := 2) K rfl (pgs_cons (pg_name (i := 2) nd rfl (Or.inl rfl)) (pgs_cons (pg_name (i := 3) nd rfl (Or.inl rfl)) pgs_nil))) (pss_one (ps_asg (pe_op op_mod (pe_callTy call_int1 (by rfl) B.int (by decide +kernel) (pa_cons (pe_op (kAdd K) (pe_op (kMul K) (pe_ix (kIx K) (pv 1) (pe_op op_mod (pe_callTy call_int1 (by rfl) B.int (by decide +kernel) (pa_cons (pv 2) pa_nil)) pe_int) (fun _ _ => rfl)) pe_int) (pv 3)) pa_nil)) pe_int) (pg_sub (pv 1) (pe_op op_mod (pe_callTy call_int1 (by rfl) B.int (by decide +kernel) (pa_cons (pv 2) pa_nil)) pe_int) set_list))))
    (pss_cons (ps_for PassesOwn.never rfl (pi_range2 (by rfl) B.range (pa_cons pe_int (pa_cons pe_int pa_nil))) (pg_name (i := 2) nd rfl (Or.inl rfl)) (pss_one (ps_asg (pe_op op_mod (pe_callTy call_int1 (by rfl) B.int (by decide +kernel) (pa_cons (pe_op (kAdd K) (pe_ix (kIx K) (pv 1) (pv 2) (fun _ _ => rfl)) (pe_op (kMul K) (pe_ix (kIx K) (pv 1) (pe_op op_sub (pv 2) pe_int) (fun _ _ => rfl)) pe_int)) pa_nil)) pe_int) (pg_sub (pv 1) (pv 2) set_list))))
    (pss_one (ps_ret (pv 1)))))) : PSs (cxOf CX0 P w K mg base N_foldedL "_law_folded" (defScope s_foldedL) f cdv A outer s H E).nox _ _), ?_⟩
  subst hv
  suffices go : ∀ D : Ends, D.rt = Q → Go M G D _ fu L [some (scrSD K a ns), none, none, none] from go { nx := fun _ H' => Q .non H', rt := Q } rfl _ G H (Evl.Ex.refl G) hw ⟨rfl, fun i sd h => by
    match i with
    | 0 => cases h; exact ⟨_, rfl, rfl, hs⟩
    | 1 => cases h
    | 2 => cases h
    | 3 => cases h
    | i + 4 => cases h⟩
  intro D hD
  have c0 : Cells ((List.range 64).map fun (i : Nat) => (17 + (0 + (i : Int)))) := ⟨by simp, fun x hx => by
    obtain ⟨i, hi, rfl⟩ := List.mem_map.mp hx
    have := List.mem_range.mp hi
    omega⟩
  refine q_asgF (es := ((List.range 64).map fun (i : Nat) => (17 + (0 + (i : Int)))).map .int) ?_ fun p => ?_
  · have e : (rngD 0 64).map (fun x => match x with | .int i => PyData.int (17 + i) | x => x) = ((List.range 64).map fun (i : Nat) => (17 + (0 + (i : Int)))).map .int := by
      unfold rngD
      rw [List.map_map, List.map_map]
      rfl
    rw [← e]
    refine ef_lcAll (bw := false) (js := [2]) (F := Fn 2) _ (ei_rng1 (n := 64) (ea_one ev_int) (by decide)) (by decide) (fun x hx => tg_name) (by decide) fun x hx => ?_
    obtain ⟨i, _, rfl⟩ := List.mem_map.mp hx
    exact ev_addI ev_int.r (ev_var rfl).r
  have cm : ∀ {i j : Int}, (-(2 ^ 64) < j ∧ j < 2 ^ 64) → CMul i j := fun h => .inr h
  have at0 : ∀ {cs : List Int}, Cells cs → ∀ {j : Nat}, j < 64 → atI (cs.map PyData.int) (j : Int) = some (.int (cs.getD j 0)) := fun {cs} hc {j} hj => atI_get (by
    have := hc.len
    rw [List.getElem?_map, List.getD_eq_getElem?_getD, List.getElem?_eq_getElem (by omega)]; rfl)
  refine q_for (js := [2, 3]) (F := Fp 2 3) (ei_enumS rfl) (fun x hx => by obtain ⟨i, y, _, rfl⟩ := enum_mem hx; exact tg_pair)
    (fun i f1 L' ds => f1 = fu ∧ ∃ cs a2 a3, Cells cs ∧ L' = (p, cs.map .int) :: L ∧ ds = [some (scrSD K a ns), some (.raw (.ref p)), a2, a3]) ⟨rfl, _, none, none, c0, rfl, rfl⟩ ?_ ?_
  · rintro G1 e1 i x f1 L1 ds1 hx ⟨rfl, cs, a2, a3, hc, rfl, rfl⟩
    obtain ⟨y, hy, rfl⟩ := enum_get hx
    obtain ⟨k, hk, rfl, _⟩ := ints_at hy
    have hl := hc.len
    have hi63 : i < ns.length := (List.getElem?_eq_some_iff.mp hk).1
    rw [Nat.zero_add]
    have hix : ∀ L', EvD M L' (tOp (rI (fun _ j => 0 < j) fun i j => .int (i % j)) (tCB rIntG (tCons (tVar 2) tNil)) (tC (.int 64))) [some (scrSD K a ns), some (.raw (.ref p)), some (.dat (.int (i : Nat))), some (.dat (.int k))] (.int (i : Nat)) := fun L' => ev_is (ev_mod (ev_int1 (ev_var rfl).r).r ev_int.r (by decide)) (by congr 1; omega)
    refine go_set (j := i) (d := .int ((cs.getD i 0 * 48271 + k) % 2147483647)) rfl (ev_mod (ev_int1 (ev_addI (ev_mulI (ev_ixL (es := cs.map .int) (i := (i : Int)) (er_own rfl List.mem_cons_self) (hix _).r (at0 hc (by omega))).r ev_int.r (cm (by decide))).r (ev_var rfl).r).r).r ev_int.r (by decide)) (hix _) (by rw [List.length_map, hl]; omega) (nx_iv ⟨rfl, _, _, _, hc.set i (cs.getD i 0 * 48271 + k), by rw [List.map_set], rfl⟩)
  · rintro f1 L1 ds1 ⟨rfl, cs, a2, a3, hc, rfl, rfl⟩
    refine q_for (bw := false) (js := [2]) (F := Fn 2) (items := rngD 1 64) (ei_rng2 (a := 1) (n := 64) (ea_two ev_int ev_int) (by decide) (by decide)) (fun x hx => tg_name)
      (fun i f2 L' ds => f2 = f1 ∧ ∃ cs a2 a3, Cells cs ∧ L' = (p, cs.map .int) :: L ∧ ds = [some (scrSD K a ns), some (.raw (.ref p)), a2, a3]) ⟨rfl, cs, a2, a3, hc, rfl, rfl⟩ ?_ ?_
    · rintro G1 e1 i x f2 L1 ds1 hx ⟨rfl, cs, a2, a3, hc, rfl, rfl⟩
      have hl := hc.len
      have hi : i < 63 := by
        have := (List.getElem?_eq_some_iff.mp hx).1
        simpa [rngD] using this
      have ex : x = .int ((i + 1 : Nat) : Int) := by
        unfold rngD at hx
        rw [List.getElem?_map, List.getElem?_range (by simpa using hi)] at hx
        have := Option.some.inj hx
        refine this.symm.trans ?_
        show PyData.int (1 + (i : Int)) = .int ((i + 1 : Nat) : Int)
        rw [show (1 + (i : Int)) = ((i + 1 : Nat) : Int) by omega]
      subst ex
      refine go_set (j := i + 1) (d := .int ((cs.getD (i + 1) 0 + cs.getD i 0 * 16807) % 2147483647)) rfl (ev_mod (ev_int1 (ev_addI (ev_ixL (es := cs.map .int) (i := ((i + 1 : Nat) : Int)) (er_own rfl List.mem_cons_self) (ev_var rfl).r (at0 hc (by omega))).r (ev_mulI (ev_ixL (es := cs.map .int) (i := (i : Int)) (er_own rfl List.mem_cons_self) (ev_is (ev_sub (i := ((i + 1 : Nat) : Int)) (j := 1) (ev_var rfl).r ev_int.r) (by congr 1; omega)).r (at0 hc (by omega))).r ev_int.r (cm (by decide))).r).r).r ev_int.r (by decide)) (ev_var rfl) (by rw [List.length_map, hl]; omega) (nx_iv ⟨rfl, _, _, _, hc.set (i + 1) (cs.getD (i + 1) 0 + cs.getD i 0 * 16807), by rw [List.map_set], rfl⟩)
    · rintro f2 L1 ds1 ⟨rfl, cs, a2, a3, hc, rfl, rfl⟩
      intro σ G2 H2 e w2 sl
      obtain ⟨v, h1, h2⟩ := sl.at_ 1 _ rfl
      have ev : v = .ref p := h2
      subst ev
      refine ⟨_, h1, ?_⟩
      rw [hD]
      exact hq p cs G2 H2 hc e w2
end
end Kd
namespace Kd
open PySem L2
open PyProof.Rows (envOfC)
section
variable {m : MD} {T : List (Addr × Str)} {f : Nat} {L : Own} {G H : Hp} {n : Int} {cs gs : List Int} {p c g q : Addr}
theorem merge_m : mergeK [] [((.inr "cells" : Key), V.ref c), (.inr "great", .ref g), (.inr "spot", .int n)] = mKvs ⟨p, c, g⟩ n := by
  have h1 : ¬ (Sum.inr ("cells" : Str) : Key) = .inr "great" := key_ne (by decide +kernel)
  have h2 : ¬ (Sum.inr ("cells" : Str) : Key) = .inr "spot" := key_ne (by decide +kernel)
  have h3 : ¬ (Sum.inr ("great" : Str) : Key) = .inr "spot" := key_ne (by decide +kernel)
  unfold mergeK mKvs
  simp only [List.foldl_cons, List.foldl_nil]
  have e1 : putK ([] : List (Key × V)) (.inr "cells") (.ref c) = [(.inr "cells", .ref c)] := rfl
  rw [e1]
  have e2 : putK [((.inr "cells" : Key), V.ref c)] (.inr "great") (.ref g) = [(.inr "cells", .ref c), (.inr "great", .ref g)] := by
    unfold putK
    rw [if_neg (by simp [h1])]
    rfl
  rw [e2]
  unfold putK
  rw [if_neg (by simp [h2, h3])]
  rfl
theorem m_putG : putK (mKvs m n) (.inr "great") (.ref q) = mKvs ⟨m.d, m.c, q⟩ n := by
  have h1 : ¬ (Sum.inr ("cells" : Str) : Key) = .inr "great" := key_ne (by decide +kernel)
  have h2 : ¬ (Sum.inr ("spot" : Str) : Key) = .inr "great" := key_ne (by decide +kernel)
  unfold putK mKvs
  rw [if_pos (by simp)]
  simp only [List.map_cons, List.map_nil]
  rw [if_neg h1, if_pos trivial, if_neg h2]
theorem noTab {o : HO} (hT : LamX.Tabs T H) (hp : H p = some o) (ho : ∀ ps, o ≠ .tbl ps) : p ∉ T.map (·.1) := fun h => by
  obtain ⟨t, ht, e⟩ := List.mem_map.mp h
  obtain ⟨ps, e1, _⟩ := hT t ht
  rw [show t.1 = p from e, hp] at e1
  exact ho ps (Option.some.inj e1)
/-- the dict is made -/
theorem W.begin (w : W ⟨none, T⟩ f [(g, gs.map .int), (c, cs.map .int)] G H) (hp : H p = some (.dK [])) (hcs : cs.length = 64) (hcb : ∀ x ∈ cs, 0 ≤ x ∧ x < 2147483647) (hgb : ∀ x ∈ gs, 0 ≤ x) (hgl : gs.length ≤ 63) :
    W ⟨some ⟨p, c, g⟩, T⟩ 1000000 [] (fun b => if b = p then none else G b) (upd H p (.dK (mKvs ⟨p, c, g⟩ 0))) := by
  obtain ⟨xs, hx, hxd⟩ := w.own g _ List.mem_cons_self
  obtain ⟨ys, hy, hyd⟩ := w.own c _ (List.mem_cons_of_mem _ List.mem_cons_self)
  have ex := hxd.ints_inv
  have ey := hyd.ints_inv
  subst ex ey
  have pg : g ≠ p := fun e => by rw [e, hp] at hx; cases hx
  have pc : c ≠ p := fun e => by rw [e, hp] at hy; cases hy
  have pT := noTab w.st.2 hp (fun ps h => by cases h)
  have nd := w.nd
  simp only [List.map_cons, List.map_nil, List.cons_append, List.nil_append, addrs, addrsM, List.nodup_cons, List.mem_cons, not_or] at nd
  obtain ⟨⟨n1, n2⟩, n3, n4⟩ := nd
  refine ⟨fun a u e => ?_, fun q ds h => absurd h List.not_mem_nil, fun a ha => ?_, ?_, ⟨⟨0, cs, gs, upd_same, by rw [upd_ne pc]; exact hy, by rw [upd_ne pg]; exact hx, hcs, hcb, hgb, by decide, by decide, hgl⟩, tabs_but w.st.2 pT fun c q z => ?_⟩, fun a ps e => ?_⟩
  · by_cases h : a = p
    · rw [if_pos h] at e; cases e
    · rw [if_neg h] at e
      rw [upd_ne h]; exact w.ex a u e
  · by_cases h : a = p
    · rw [if_pos h]
    · rw [if_neg h]
      refine w.nog a ?_
      simp only [List.map_nil, List.nil_append, addrs, addrsM, List.cons_append, List.mem_cons] at ha
      simp only [List.map_cons, List.map_nil, List.cons_append, List.nil_append, addrs, addrsM, List.mem_cons]
      rcases ha with ha | ha | ha | ha
      · exact absurd ha h
      · exact .inr (.inl ha)
      · exact .inl ha
      · exact .inr (.inr ha)
  · simp only [List.map_nil, List.nil_append, addrs, addrsM, List.cons_append, List.nodup_cons, List.mem_cons, not_or]
    exact ⟨⟨Ne.symm pc, Ne.symm pg, pT⟩, ⟨Ne.symm n1, n3⟩, n2, n4⟩
  · rw [hp] at z
    exact dK_noCode c q (Option.some.inj z)
  · by_cases h : a = p
    · rw [if_pos h] at e; cases e
    · rw [if_neg h] at e; exact w.nt a ps e
/-- another list of great numbers -/
theorem W.newGreat (w : W ⟨some m, T⟩ f [(q, gs.map .int)] G H) (hgb : ∀ x ∈ gs, 0 ≤ x) (hgl : gs.length ≤ 63) {n : Int} (hm : H m.d = some (.dK (mKvs m n))) :
    W ⟨some ⟨m.d, m.c, q⟩, T⟩ f [] G (upd H m.d (.dK (mKvs ⟨m.d, m.c, q⟩ n))) := by
  obtain ⟨xs, hx, hxd⟩ := w.own q _ List.mem_cons_self
  have ex := hxd.ints_inv
  subst ex
  obtain ⟨n2, cs, gs2, a⟩ := w.st.1
  have en : n2 = n := by
    have h := a.hd
    rw [hm] at h
    have h2 := m_spot (m := m) (n := n)
    have h3 := m_spot (m := m) (n := n2)
    have h4 : mKvs m n = mKvs m n2 := by
      have := Option.some.inj h
      injection this
    rw [h4, h3] at h2
    have := Option.some.inj h2
    injection this
  subst en
  have nd := w.nd
  simp only [List.map_cons, List.map_nil, List.cons_append, List.nil_append, addrs, addrsM, List.nodup_cons, List.mem_cons, not_or] at nd
  obtain ⟨⟨k1, k2, k3, k4⟩, ⟨k5, k6, k7⟩, ⟨k8, k9⟩, k10, k11⟩ := nd
  refine ⟨fun b u e => ?_, fun q ds h => absurd h List.not_mem_nil, fun b hb => w.nog b ?_, ?_, ⟨⟨n2, cs, gs, upd_same, by rw [upd_ne (Ne.symm k5)]; exact a.hc, by rw [upd_ne k1]; exact hx, a.cl, a.cb, hgb, a.n0, a.nf, hgl⟩, tabs_but w.st.2 k7 fun c q z => ?_⟩, w.nt⟩
  · have ne : b ≠ m.d := fun z => by rw [z, w.nog m.d (by simp [addrs, addrsM])] at e; cases e
    rw [upd_ne ne]; exact w.ex b u e
  · simp only [List.map_nil, List.nil_append, addrs, addrsM, List.cons_append, List.mem_cons] at hb
    simp only [List.map_cons, List.map_nil, List.cons_append, List.nil_append, addrs, addrsM, List.mem_cons]
    rcases hb with hb | hb | hb | hb
    · exact .inr (.inl hb)
    · exact .inr (.inr (.inl hb))
    · exact .inl hb
    · exact .inr (.inr (.inr (.inr hb)))
  · simp only [List.map_nil, List.nil_append, addrs, addrsM, List.cons_append, List.nodup_cons, List.mem_cons, not_or]
    exact ⟨⟨k5, Ne.symm k1, k7⟩, ⟨Ne.symm k2, k9⟩, k4, k11⟩
  · rw [hm] at z
    exact dK_noCode c q (Option.some.inj z)
end
section
variable {P : Program} {w : World} {K : PySem.W.Frag} {mg : Str → Option Value} {base : Heap} {f : Addr} {fd : FuncData} {CB fI : Addr}
theorem asgF_run {M : MS} {L : Own} {ds : DS} {te : TE} {g : TG} {u : TS} {D : Ends} {es : List PyData} {fu : Nat} {σ : L2.St} {G H : Hp} (h : EvF M L te ds es) (w : W M fu L G H) (sl : Sl G σ ds) (k : ∀ q G5 H5, Ex G G5 → W M fu ((q, es) :: L) G5 H5 → g (.ref q) σ H5 (u D)) : tSeq (tAsg te g) u D σ H :=
  h fu L (Sub.refl L) σ G H w sl _ fun q G5 H5 e5 w5 => k q G5 H5 e5 w5
def spBegun (K : PySem.W.Frag) : Sp := fun vs H Q _ => ∃ T f G a, ∃ ns : List Int, vs = [.ref a] ∧ W ⟨none, T⟩ f [] G H ∧ SqL K G a (ns.map V.int) ∧ ns.length ≤ 63 ∧ ∀ m G2 H2, Ex G G2 → W ⟨some m, T⟩ 1000000 [] G2 H2 → Q (.ref m.d) H2
abbrev s_begunL : Stmt := top 45
abbrev N_begunL : List Str := ["_law_script", "_law_m", "_law_cell"]
abbrev ps_begunL : List Str := ["_law_script"]
theorem sc_begunL : FnScope N_begunL ps_begunL (defScope s_begunL) := ⟨rfl, rfl, rfl, by decide +kernel, rfl, by decide +kernel, by decide +kernel⟩

theorem ok_begunL (F : FunAt K mg "_law_begun" s_begunL ps_begunL f fd) (B : Bt mg) (D_foldedL : DefOk P w K mg base "_law_folded" 1 ps_foldedL (spFolded K)) : DefOk P w K mg base "_law_begun" 2 ps_begunL (spBegun K) := by
  refine DefOk.of F sc_begunL (fun vs H Q E ⟨T, fu, G, a, ns, hv, _⟩ => by rw [hv]; rfl) fun cdv A outer s H vs Q E hg hr ⟨T, fu, G, a, ns, hv, hw, hs, hn, hq⟩ => ?_
  have nd := sc_begunL.nd
  refine ⟨_, ((pss_cons (ps_set (i := 1) nd rfl (Or.inl rfl) (pe_disp (pps_cons pe_str (pe_callD D_foldedL hg (hr.mono (by decide)) (by rfl) (pa_cons (pv 0) pa_nil)) (pps_cons pe_str (pe_lst pa_nil) (pps_cons pe_str pe_int pps_nil))) rfl rfl (by simp) (by decide)))
    (pss_cons (ps_asg (pe_lc (own := [("_law_cell", 2)]) rfl nd (pi_list (pv 0)) (blkOk_by (own := [("_law_cell", 2)]) (N := N_begunL) (sc := defScope s_begunL) (by decide +kernel)) (fun _ _ _ _ _ => (pg_name (i := 2) nd rfl (Or.inl rfl))) (fun _ _ _ _ _ => pts_nil) (fun _ _ _ _ _ => (pe_ifExp (pt_cmpR op_ge (pv 2) (pe_op op_pow pe_int pe_int) (nomark _)) (pv 2) pe_int))) (pg_sub (pv 1) pe_str (set_dict (units1 hr))))
    (pss_one (ps_ret (pv 1))))) : PSs (cxOf CX0 P w K mg base N_begunL "_law_begun" (defScope s_begunL) f cdv A outer s H E).nox _ _), ?_⟩
  subst hv
  intro p hp
  have w1 := hw.new (o := .dK []) hp
  have e1 : Ex G (upd G p (.dK [])) := Evl.Ex.new (hw.gnone hp)
  have gp := hw.gnone hp
  refine ⟨.ref a, rfl, ⟨none, T⟩, fu, [], upd G p (.dK []), a, ns, rfl, w1, sqL_ex e1 hs, hn, fun c cs G2 H2 hc e2 w2 => ?_⟩
  refine ⟨Nat.zero_le _, fun g hg2 => ?_⟩
  have w3 := w2.newL (ds := ([] : List Int).map .int) hg2 .nil
  have hpd : upd H2 g (.lst []) p = some (.dK []) := w3.ex _ _ (e2 _ _ upd_same)
  refine ⟨hpd, [(.inr "cells", .ref c), (.inr "great", .ref g), (.inr "spot", .int 0)], rfl, show 3 ≤ 15 by decide, ?_⟩
  rw [merge_m (p := p)]
  have w4 := w3.begin hpd hc.len hc.b (fun x h => absurd h List.not_mem_nil) (by decide)
  have e4 : Ex G (fun b => if b = p then none else G2 b) := fun b u e => by
    have hb : b ≠ p := fun z => by rw [z, gp] at e; cases e
    show (if b = p then none else G2 b) = some u
    rw [if_neg hb]
    exact e2 _ _ (e1 _ _ e)
  generalize (fun b => if b = p then none else G2 b) = G4 at w4 e4
  generalize upd (upd H2 g (.lst [])) p (.dK (mKvs ⟨p, c, g⟩ 0)) = H4 at w4
  -- the great numbers
  have sl : Sl G4 [some (.ref a), some (.ref p), none] [some (scrSD K a ns), some (.raw (.ref p)), none] := ⟨rfl, fun i sd h => by
    match i with
    | 0 => cases h; exact ⟨_, rfl, rfl, sqL_ex e4 hs⟩
    | 1 => cases h; exact ⟨_, rfl, rfl⟩
    | 2 => cases h
    | i + 3 => cases h⟩
  have he : (ns.map PyData.int).map (fun x => match x with | .int k => PyData.int (if 10 ^ 18 ≤ k then k else 0) | x => x) = (ns.map fun k => if 10 ^ 18 ≤ k then k else 0).map .int := by
    rw [List.map_map, List.map_map]
    rfl
  refine asgF_run (ef_lcAll (bw := false) (M := ⟨some ⟨p, c, g⟩, T⟩) (L := []) (js := [2]) (F := Fn 2) (fun x => match x with | .int k => PyData.int (if 10 ^ 18 ≤ k then k else 0) | x => x) (ei_listS rfl) (by decide) (fun x hx => tg_name) (by rw [List.length_map]; omega) (fun x hx => ?_)) w4 sl fun q G5 H5 e5 w5 => ?_
  · obtain ⟨k, _, rfl⟩ := List.mem_map.mp hx
    refine ev_if (b := decide ((10 : Int) ^ 18 ≤ k)) (eb_T (ev_ge (j := 10 ^ (18 : Int).toNat) (ev_var rfl).r (ev_pow (i := 10) (j := 18) ev_int.r ev_int.r ⟨by decide, by decide⟩).r)) (fun h => ?_) (fun h => ?_)
    · refine ev_is (ev_var rfl) ?_
      show _ = PyData.int (if 10 ^ 18 ≤ k then k else 0)
      rw [if_pos (of_decide_eq_true h)]
    · refine ev_is ev_int ?_
      show _ = PyData.int (if 10 ^ 18 ≤ k then k else 0)
      rw [if_neg (of_decide_eq_false h)]
  · rw [he] at w5
    obtain ⟨n, cs', gs', a5⟩ := w5.st.1
    refine ⟨_, rfl, p, _, rfl, DPut.k (k := .inr "great") a5.hd (by show 3 < sizeLine; rw [sizeLine_eq]; decide), ?_⟩
    rw [m_putG (m := ⟨p, c, g⟩)]
    have w6 := w5.newGreat (fun x hx => ?_) (by rw [List.length_map]; omega) a5.hd
    · exact ⟨_, rfl, hq ⟨p, c, q⟩ _ _ (e4.trans e5) w6⟩
    · obtain ⟨k, _, rfl⟩ := List.mem_map.mp hx
      show 0 ≤ (if 10 ^ 18 ≤ k then k else 0)
      split <;> omega
end
end Kd
namespace Kd
open PySem L2
open PyProof.Rows (envOfC)
/-- what is walked is drawn -/
def EvIN (bw : Bool) (M : MS) (L : Own) (wi : TI) (ds : DS) (f f' : Nat) (P : List PyData → Prop) : Prop :=
  ∀ L', Sub L L' → ∀ σ G H, W M f L' G H → Sl G σ ds → ∀ R : It → Hp → Prop, (∀ J items G2 H2, Ex G G2 → W M f' L' G2 H2 → P items → WalkD bw M J items G2 → R J H2) → wi σ H R
section
variable {bw : Bool} {K : PySem.W.Frag} {M : MS} {G0 : Hp} {D : Ends} {L : Own} {ds : DS} {te ta tb tc : TE} {tt : TT} {tA : TA} {t u : TS} {x y z d r : PyData} {f f' f1 f2 : Nat} {es gs items : List PyData} {v0 : V} {wi : TI} {g : TG} {p : Addr}
theorem ein_seqL {P : List PyData → Prop} (h : EvN M L te ds f f' (fun d => ∃ items, P items ∧ d = .list items)) : EvIN false M L (iSeq K te) ds f f' P := fun L' s σ G H w sl R r => .inl (h L' s σ G H w sl _ fun u d G2 H2 e2 w2 ⟨items, hp, hd⟩ d2 => by
  subst hd
  cases d2 with
  | @lst a xs _ h1 h2 =>
    refine ⟨a, rfl, ⟨xs, SqL.of (w2.ex _ _ h1)⟩, r _ items G2 H2 e2 w2 hp fun i f3 L3 G3 H3 e3 w3 => ⟨fun hi => ?_, fun x hx => ?_⟩⟩
    · exact ⟨xs, SqL.of (w3.ex _ _ (e3 _ _ h1)), by rw [h2.length, hi]; exact Nat.le_refl _⟩
    · obtain ⟨v, hv, hd⟩ := h2.get hx
      refine ⟨⟨xs, v, SqL.of (w3.ex _ _ (e3 _ _ h1)), hv⟩, fun u H4 hy => ?_⟩
      obtain ⟨rfl, hy2⟩ := hy
      have := hy2 xs (SqL.of (w3.ex _ _ (e3 _ _ h1)))
      rw [hv] at this
      cases this
      exact ⟨G3, Evl.Ex.refl _, w3, .inl (Dv.mono e3 _ _ hd)⟩)
theorem go_forN {P : List PyData → Prop} {js : List Nat} {F : PyData → DS → DS} (hi : EvIN bw M L wi ds f f' P) (tg : ∀ x, TgD bw M g js x (F x)) (Iv : List PyData → Nat → Nat → Own → DS → Prop) (h0 : ∀ items, P items → Iv items 0 f' L ds)
    (hs : ∀ items, P items → ∀ G1, Ex G0 G1 → ∀ i x f1 L1 ds1, items[i]? = some x → Iv items i f1 L1 ds1 → Go M G1 { D with nx := IvP M G1 (Iv items) (i + 1), ct := IvP M G1 (Iv items) (i + 1), bk := D.nx } t f1 L1 (F x ds1))
    (hd : ∀ items, P items → ∀ f1 L1 ds1, Iv items items.length f1 L1 ds1 → Nx M G0 D f1 L1 ds1) : Go M G0 D (tFor wi g t) f L ds := fun σ G H e w sl =>
  hi L (Sub.refl L) σ G H w sl _ fun J items G2 H2 e2 w2 hp wk => by
    refine ⟨fun i m σ H => i + m = items.length ∧ IvP M G2 (Iv items) i σ H, ⟨items.length, Nat.zero_add _, G2, f', L, ds, Evl.Ex.refl _, w2, sl.mono e2, h0 items hp⟩, ?_⟩
    rintro i m σ' H' ⟨him, G3, f1, L1, ds1, e3, w3, sl3, iv⟩
    by_cases hlt : i < items.length
    · right
      obtain ⟨x, hx⟩ : ∃ x, items[i]? = some x := ⟨items[i], by simp [hlt]⟩
      obtain ⟨hgo, hy⟩ := (wk i f1 L1 G3 H' e3 w3).2 x hx
      refine ⟨hgo, IvP M G2 (Iv items) (i + 1), fun σ H q => ⟨m - 1, by omega, by omega, q⟩, fun v H4 hv => ?_⟩
      obtain ⟨G4, e4, w4, d4⟩ := hy v H4 hv
      exact tg x f1 L1 G4 H4 σ' ds1 v w4 (sl3.mono e4) d4 _ fun σ2 sl2 _ => hs items hp G2 (e.trans e2) i x f1 L1 ds1 hx iv σ2 G4 H4 (e3.trans e4) w4 sl2
    · left
      have hi2 : i = items.length := by omega
      subst hi2
      exact ⟨(wk _ f1 L1 G3 H' e3 w3).1 rfl, hd items hp f1 L1 ds1 iv σ' G3 H' ((e.trans e2).trans e3) w3 sl3⟩
/-- three names -/
theorem go_asg3N {P : PyData → Prop} {i j l : Nat} (h : EvN M L te ds f f' P) (hp : ∀ d, P d → ∃ x y z, d = .tuple [x, y, z]) (k : ∀ x y z, P (.tuple [x, y, z]) → Nx M G0 D f' L (((ds.set i (some (.dat x))).set j (some (.dat y))).set l (some (.dat z)))) : Go M G0 D (tAsg te (gTup K 3 (gCons (gName i) (gCons (gName j) (gCons (gName l) gNil))))) f L ds := fun σ G H e w sl =>
  h L (Sub.refl L) σ G H w sl _ fun v d G2 H2 e2 w2 p2 d2 => by
    obtain ⟨x, y, z, rfl⟩ := hp d p2
    cases d2 with
    | @tup a xs _ h1 h2 =>
      cases h2 with
      | cons d1 h3 =>
        cases h3 with
        | cons d2 h4 =>
          cases h4 with
          | cons d3 h5 =>
            cases h5
            exact ⟨a, _, rfl, (h1.mono w2.ex).sq, rfl, _, _, rfl, _, _, rfl, _, _, rfl, rfl, k x y z p2 _ G2 H2 (e.trans e2) w2 ((((sl.mono e2).set i (sd := .dat x) d1).set j (sd := .dat y) d2).set l (sd := .dat z) d3)⟩
theorem q_asg3N {P : PyData → Prop} {i j l : Nat} (h : EvN M L te ds f f' P) (hp : ∀ d, P d → ∃ x y z, d = .tuple [x, y, z]) (k : ∀ x y z, P (.tuple [x, y, z]) → Go M G0 D u f' L (((ds.set i (some (.dat x))).set j (some (.dat y))).set l (some (.dat z)))) : Go M G0 D (tSeq (tAsg te (gTup K 3 (gCons (gName i) (gCons (gName j) (gCons (gName l) gNil))))) u) f L ds := go_asg3N (D := { D with nx := u D }) h hp k
end
end Kd
namespace Kd
open PySem L2
/-! ### the law's own reckoning and the program's -/
theorem word_two {n : Net} {b e : Nat} : wordS n b e = "two" ↔ (twinsW (Wn n b e)).isSome = true := by
  have h1 : ("none" : Str) ≠ "two" := by decide +kernel
  have h2 : ("all" : Str) ≠ "two" := by decide +kernel
  unfold wordS
  by_cases h : Wn n b e = []
  · rw [if_pos h, h]
    exact ⟨fun q => absurd q h1, fun q => by simp [twinsW] at q⟩
  · rw [if_neg h]
    by_cases q : (twinsW (Wn n b e)).isSome = true
    · rw [if_pos q]; exact ⟨fun _ => q, fun _ => rfl⟩
    · rw [if_neg q]; exact ⟨fun z => absurd z h2, fun z => absurd z q⟩
def wordsRow (n : Net) (b : Nat) : List Str := (List.range n.k).map fun e => wordS n b e
def wordsW (n : Net) : List Str := (List.range n.k).flatMap (wordsRow n)
theorem words_last (n : Net) : decide (wordsW n = List.replicate (wordsW n).length ("two" : Str)) = lastD n := by
  rw [Bool.eq_iff_iff, decide_eq_true_iff, List.eq_replicate_iff]
  unfold lastD
  rw [List.all_eq_true]
  constructor
  · rintro ⟨_, h⟩ b hb
    rw [List.all_eq_true]
    intro e he
    exact word_two.mp (h _ (List.mem_flatMap.mpr ⟨b, hb, List.mem_map.mpr ⟨e, he, rfl⟩⟩))
  · intro h
    refine ⟨rfl, fun z hz => ?_⟩
    obtain ⟨b, hb, hz⟩ := List.mem_flatMap.mp hz
    obtain ⟨e, he, rfl⟩ := List.mem_map.mp hz
    exact word_two.mpr (List.all_eq_true.mp (h b hb) e he)
theorem lost_row (n : Net) (S : Spots) (b : Nat) : ((((List.range n.k).filter fun e => decide (Wn n b e ≠ [])).filter fun e => decide (leftW n S b e = [])).map fun e => (b, e)) = lostRow n S b := by
  unfold lostRow
  rw [List.filter_filter]
  congr 2
  funext e
  exact Bool.and_comm _ _
theorem twins_spec {ws : List Way} {w v : Way} (h : twinsW ws = some (w, v)) : w ∈ ws ∧ v ∈ ws ∧ apartW w v = true := by
  unfold twinsW at h
  obtain ⟨a, ha, h2⟩ := List.exists_of_findSome?_eq_some h
  rw [Option.map_eq_some_iff] at h2
  obtain ⟨c, hc, h3⟩ := h2
  injection h3 with h4 h5
  subst h4 h5
  exact ⟨ha, List.mem_of_find?_eq_some hc, List.find?_some hc⟩
theorem paper_chk {n : Net} {b e : Nat} (hn : NetOk n) (hb : b < n.k) : chkD n b e (paperD n b e) = (true, wordS n b e) := by
  have n1 : ¬ ("all" : Str) = "two" := by decide +kernel
  unfold paperD wordS
  by_cases h : Wn n b e = []
  · rw [if_pos h, if_pos h]
    unfold chkD
    exact (if_pos rfl).trans (by rw [decide_eq_true h])
  · rw [if_neg h, if_neg h]
    cases ht : twinsW (Wn n b e) with
    | some p =>
      obtain ⟨w, v⟩ := p
      obtain ⟨h1, h2, h3⟩ := twins_spec ht
      dsimp only
      rw [if_pos (show (some (w, v)).isSome = true from rfl)]
      unfold chkD
      refine (if_pos rfl).trans ?_
      rw [unT_dT, unT_dT, h3, isWayD_iff.mpr ⟨w, h1, rfl⟩, isWayD_iff.mpr ⟨v, h2, rfl⟩]
      rfl
    | none =>
      dsimp only
      rw [if_neg (by simp)]
      have hc := mg_ok n b e h ht
      cases hcm : commonW (Wn n b e) with
      | nil => exact absurd hcm hc
      | cons p ps =>
        dsimp only
        unfold chkD
        refine (if_neg n1).trans ((if_pos rfl).trans ?_)
        rw [allTake_eq]
        have hp : p ∈ commonW (Wn n b e) := by rw [hcm]; exact List.mem_cons_self
        have hp2 := hp
        unfold commonW at hp2
        cases hws : Wn n b e with
        | nil => exact absurd hws h
        | cons w ws =>
          rw [hws] at hp2
          dsimp only at hp2
          obtain ⟨r, hr, hrp⟩ := List.mem_map.mp hp2
          have hr2 := List.mem_range.mp (List.mem_filter.mp hr).1
          have hw := W_ok hn hb w (by rw [hws]; exact List.mem_cons_self)
          have hl := hw.len
          have hlt : w.getD r 0 < n.k := hw.lt _ (List.mem_of_getElem? (getD_of (show r < w.length by omega)))
          subst hrp
          have e1 : isWholeD (dI r) 0 (n.os.length : Nat) = true := by
            have := isWhole_dI r 0 n.os.length
            refine this.trans ?_
            simp; omega
          have e2 : isWholeD (dI (w.getD r 0)) 0 ((n.k : Int) - 1) = true := by
            have := isWhole_dI (w.getD r 0) 0 (n.k - 1)
            rw [show ((n.k - 1 : Nat) : Int) = (n.k : Int) - 1 by omega] at this
            refine this.trans ?_
            rw [decide_eq_true (Nat.zero_le _), decide_eq_true (show w.getD r 0 ≤ n.k - 1 by omega)]
            rfl
          rw [e1, e2]
          have e3 : ((unI (dI r), unI (dI (w.getD r 0))) : Nat × Nat) = (r, w.getD r 0) := rfl
          rw [e3]
          rw [← hws, decide_eq_true h, decide_eq_true hp]
          rfl
end Kd
namespace Kd
open PySem L2
/-! ### what is shown is short -/
theorem sv_two {k n : Nat} {x y : PyData} (hx : Sv k n x) (hy : Sv k n y) : Sv (k + 1) (2 * (n + 2) + 3) (.list [x, y]) := Sv.list (fun d hd => by
  rcases List.mem_cons.mp hd with rfl | hd
  · exact hx
  · rw [List.mem_singleton.mp hd]; exact hy) (Nat.le_refl _)
theorem sv_dP {p : Nat × Nat} (h1 : p.1 < 16) (h2 : p.2 < 16) : Sv 1 11 (dP p) := Sv.tup (n := 2) (m := 2) (fun d hd => by
  rcases List.mem_cons.mp hd with rfl | hd
  · exact sv_small _ h1
  · rw [List.mem_singleton.mp hd]; exact sv_small _ h2) (Nat.le_refl _)
theorem sv_dL {S : Spots} (h : ∀ p ∈ S, p.1 < 16 ∧ p.2 < 16) (hl : S.length ≤ 256) : Sv 2 (256 * 13 + 3) (dL S) := Sv.tup (n := 11) (Sv.map fun p hp => sv_dP (h p hp).1 (h p hp).2) (by rw [List.length_map]; exact hl)
theorem lost_len (n : Net) (S : Spots) : (lostW n S).length ≤ n.k * n.k := by
  unfold lostW
  have h : ∀ l : List Nat, (l.flatMap (lostRow n S)).length ≤ l.length * n.k := by
    intro l
    induction l with
    | nil => simp
    | cons b l ih =>
      rw [List.flatMap_cons, List.length_append, List.length_cons, Nat.add_mul, Nat.one_mul]
      have : (lostRow n S b).length ≤ n.k := by
        unfold lostRow
        rw [List.length_map]
        have := List.length_filter_le (fun e => decide (Wn n b e ≠ []) && decide (leftW n S b e = [])) (List.range n.k)
        rw [List.length_range] at this
        exact this
      omega
  have := h (List.range n.k)
  rw [List.length_range] at this
  exact this
theorem lost_mem {n : Net} {S : Spots} {p : Nat × Nat} (h : p ∈ lostW n S) : p.1 < n.k ∧ p.2 < n.k := by
  obtain ⟨b, hb, hp⟩ := List.mem_flatMap.mp h
  obtain ⟨e, he, rfl⟩ := List.mem_map.mp hp
  exact ⟨List.mem_range.mp hb, List.mem_range.mp (List.mem_filter.mp he).1⟩
theorem NetOk.k16 {n : Net} (h : NetOk n) : n.k ≤ 16 := by
  obtain ⟨j, hk, _, hj⟩ := h.k2
  omega
theorem sw_lost {n : Net} (h : NetOk n) (S : Spots) : Sw 5000000 (.list [dL (lostW n S), dL (lostW n S)]) := by
  have hk := h.k16
  have hl := lost_len n S
  have hkk : n.k * n.k ≤ 16 * 16 := Nat.mul_le_mul hk hk
  have h1 := sv_dL (S := lostW n S) (fun p hp => by have := lost_mem hp; omega) (by omega)
  exact (sv_two h1 h1).sw
theorem sv_ways {ws : List Way} (h : ∀ w ∈ ws, W16 w) (hl : ws.length ≤ 64) : Sv 2 (64 * 33 + 3) (.tuple (ws.map dT)) := Sv.tup (n := 31) (Sv.map fun w hw => sv_way (h w hw).lt (h w hw).len) (by rw [List.length_map]; exact hl)
theorem sv_bool (b : Bool) : Sv 0 5 (.bool b) := by cases b <;> exact ⟨by decide +kernel, by decide +kernel, by decide +kernel, by decide +kernel⟩
theorem sw_bools (a b : Bool) : Sw 5000000 (.list [.bool a, .bool b]) := (sv_two (sv_bool a) (sv_bool b)).sw
def words5 : List Str := ["two", "all", "none", "form", "paper"]
theorem sv_word : ∀ w ∈ words5, Sv 0 7 (.str w) := by
  intro w hw
  unfold words5 at hw
  simp only [List.mem_cons, List.not_mem_nil, or_false] at hw
  rcases hw with rfl | rfl | rfl | rfl | rfl <;> exact ⟨by decide +kernel, by decide +kernel, by decide +kernel, by decide +kernel⟩
theorem word_ok : ∀ w ∈ words5, PyData.strOk w = true := by
  intro w hw
  unfold words5 at hw
  simp only [List.mem_cons, List.not_mem_nil, or_false] at hw
  rcases hw with rfl | rfl | rfl | rfl | rfl <;> decide +kernel
theorem chk_word (n : Net) (b e : Nat) (p : PyData) : (chkD n b e p).2 ∈ words5 := by
  unfold chkD words5
  split
  · split
    · simp
    · split <;> simp
  · split <;> simp
  · simp
theorem sv_told {ok : Bool} {w : Str} (h : w ∈ words5) : Sv 1 (2 * 9 + 3) (toldD ok w) := by
  unfold toldD
  cases ok with
  | true => exact (Sv.list (n := 7) (m := 2) (fun d hd => by rw [List.mem_singleton.mp hd]; exact sv_word w h) (show 1 ≤ 2 by decide))
  | false => exact Sv.tup (n := 7) (m := 2) (fun d hd => by
      rcases List.mem_cons.mp hd with rfl | hd
      · exact sv_word _ (by simp [words5])
      · rw [List.mem_singleton.mp hd]; exact sv_word w h) (Nat.le_refl _)
theorem sw_told {ok : Bool} {w : Str} (h : w ∈ words5) : Sw 5000000 (.list [toldD ok w, toldD ok w]) := (sv_two (sv_told h) (sv_told h)).sw
theorem sv_net {n : Net} (h : NetOk n) : Sv 3 2000 (dN n) := by
  have hk := h.k16
  have hb := h.b4
  refine Sv.le (k := 3) (n := 2 * (6 * (16 * 4 + 3 + 2) + 3 + 2) + 3) (Sv.tup (k := 2) (n := 6 * (16 * 4 + 3 + 2) + 3) (m := 2) (fun d hd => ?_) (Nat.le_refl _))
  rcases List.mem_cons.mp hd with rfl | hd
  · exact (sv_small _ (by omega)).le
  · rw [List.mem_singleton.mp hd]
    refine Sv.tup (n := 16 * 4 + 3) (Sv.map fun o ho => sv_way (fun i hi => ?_) ?_) ?_
    · have := (h.os o ho).lt i hi; omega
    · have := (h.os o ho).len; omega
    · rw [List.length_map]; have := h.len; omega
end Kd
namespace Kd
open PySem L2
theorem W_w16 {n : Net} {b e : Nat} (hn : NetOk n) (hb : b < n.k) {w : Way} (hw : w ∈ Wn n b e) : W16 w := (all_w16 hn hb (List.mem_filter.mp hw).1).1
theorem tup3_sv {z : Str} {x y : PyData} (hz : z ∈ words5) (hx : Sv 1 40 x) (hy : Sv 1 40 y) : Sv 2 200 (.tuple [.str z, x, y]) := Sv.le (k := 2) (n := 3 * (40 + 2) + 3) (Sv.tup (m := 3) (fun d hd => by
  rcases List.mem_cons.mp hd with rfl | hd
  · exact (sv_word z hz).le
  rcases List.mem_cons.mp hd with rfl | hd
  · exact hx
  rw [List.mem_singleton.mp hd]; exact hy) (Nat.le_refl _))
/-- the program's own paper is one that may be judged -/
theorem paper_ok {n : Net} {b e : Nat} (hn : NetOk n) (hb : b < n.k) : PapOk (paperD n b e) ∧ Sv 2 200 (paperD n b e) := by
  unfold paperD
  by_cases h : Wn n b e = []
  · rw [if_pos h]
    refine ⟨⟨Shp.tup (n := 7) fun d hd => ?_, trivial⟩, Sv.le (k := 1) (n := 1 * (7 + 2) + 3) (Sv.tup (m := 1) (fun d hd => ?_) (Nat.le_refl _))⟩
    · rw [List.mem_singleton.mp hd]; exact Shp.str (by decide +kernel)
    · rw [List.mem_singleton.mp hd]; exact sv_word _ (by simp [words5])
  · rw [if_neg h]
    cases ht : twinsW (Wn n b e) with
    | some p =>
      obtain ⟨w, v⟩ := p
      obtain ⟨h1, h2, _⟩ := twins_spec ht
      have w1 := W_w16 hn hb h1
      have w2 := W_w16 hn hb h2
      exact ⟨pap_two (shp_w _) (shp_w _) w1.rep w2.rep, tup3_sv (by simp [words5]) ((sv_way w1.lt w1.len).le) ((sv_way w2.lt w2.len).le)⟩
    | none =>
      dsimp only
      cases hcm : commonW (Wn n b e) with
      | nil => exact absurd hcm (mg_ok n b e h ht)
      | cons p ps =>
        have hp : p ∈ commonW (Wn n b e) := by rw [hcm]; exact List.mem_cons_self
        have hk := hn.k16
        have hle := hn.len
        have hp16 : p.1 < 16 ∧ p.2 < 16 := by
          unfold commonW at hp
          cases hws : Wn n b e with
          | nil => exact absurd hws h
          | cons w ws =>
            rw [hws] at hp
            dsimp only at hp
            obtain ⟨r, hr, rfl⟩ := List.mem_map.mp hp
            have hr2 := List.mem_range.mp (List.mem_filter.mp hr).1
            have hw := W_ok hn hb w (by rw [hws]; exact List.mem_cons_self)
            have hl := hw.len
            have := hw.lt _ (List.mem_of_getElem? (getD_of (show r < w.length by omega)))
            exact ⟨by show r < 16; omega, by show w.getD r 0 < 16; omega⟩
        exact ⟨pap_ne (by decide +kernel) (by decide +kernel) (shp_i _) (shp_i _), tup3_sv (by simp [words5]) ((sv_small _ hp16.1).le) ((sv_small _ hp16.2).le)⟩
end Kd
namespace Kd
open PySem L2
open PyProof.Rows (envOfC)
section
variable {P : Program} {w : World} {K : PySem.W.Frag} {mg : Str → Option Value} {base : Heap} {k c : Nat} {f : Addr} {fd : FuncData} {ps N : List Str} {x : Str} {st : Stmt} {inp : List PyData → Prop} {out : List PyData → PyData → Prop} {cd : Value}
theorem FnG.ofC {CX : CXT} {qual : Str} {sp : Sp} (F : Fun K x qual st f fd) (hc : fd.code = cd) (S : FnScope N ps (defScope st)) (len : ∀ vs H Q E, sp vs H Q E → vs.length = ps.length)
    (hbody : ∀ (A : Around) (outer : List Env) (s : Shared) (H : Hp) (vs : List V) (Q : VK) (E : XK), A.guards = some [] → Room k (A.deeper (envOfC qual (defScope st) s.heap.objs.size f cd)) → sp vs H Q E →
      ∃ t, PSs (cxOf CX P w K mg base N qual (defScope st) f cd A outer s H E) (defBody st) t ∧ t { nx := fun _ H' => Q .non H', rt := Q } (start N vs) H) : FnG P w K mg base CX (k + 1) f fd ps sp := by
  obtain ⟨oc, od, kV, doc, pm, an, cdv, ct, osl, rfl, lk, hcd⟩ := F.ex
  have ec : cdv = cd := hc
  subst ec
  refine ⟨len, fun A outer s H us vs Q E hg hr e0 hb r hsp => ?_⟩
  have hl := len _ _ _ _ hsp
  refine StX.run_bnd lk hcd S hr e0 (G := fun vs' H2 => vs' = vs ∧ H2 = H) (fun A' Ex Q' h => hb _ _ _ _ (h s H vs us e0 Un.refl rfl (fun _ _ z => z) r hl ⟨rfl, rfl⟩)) fun s2 H2 vs' he hr' => ?_
  obtain ⟨rfl, rfl⟩ := he
  exact hbody A outer s2 _ _ Q E hg hr' hsp
/-- a def that draws, its code object known -/
theorem DefOk.drawnC (F : FunAt K mg x st ps f fd) (hcd : fd.code = cd) (S : FnScope N ps (defScope st)) (hlen : ∀ ds, inp ds → ds.length + 1 = ps.length) (T0 : MD → List (Addr × Str) → Prop)
    (hbody : ∀ (A : Around) (outer : List Env) (s : Shared) (H : Hp) (E : XK), A.guards = some [] → Room k (A.deeper (envOfC x (defScope st) s.heap.objs.size f cd)) →
      ∃ t, PSs (cxOf CX0 P w K mg base N x (defScope st) f cd A outer s H E).nox (defBody st) t ∧ ∀ m T fu L G0 D ds, T0 m T → inp ds → RtOk ⟨some m, T⟩ G0 D fu L (out ds) → Go ⟨some m, T⟩ G0 D t (fu + c) L (startM N m ds)) :
    DefOk P w K mg base x (k + 1) ps (fun vs H Q _ => ∃ (m : MD) (T : List (Addr × Str)) (f : Nat) (L : Own) (G : Hp) (ws : List V) (ds : List PyData), vs = .ref m.d :: ws ∧ W ⟨some m, T⟩ (f + c) L G H ∧ DvAll G ws ds ∧ T0 m T ∧ inp ds ∧
      ∀ v r G2 H2, out ds r → Ex G G2 → W ⟨some m, T⟩ f L G2 H2 → Dv G2 v r → Q v H2) := by
  refine ⟨f, fd, F.mg, F.fn.kp, F.bd, FnG.ofC F.fn hcd S (fun vs H Q E ⟨m, T, fu, L, G, ws, ds, hv, _, hd, _, hi, _⟩ => by rw [hv, List.length_cons, hd.length]; exact hlen ds hi) fun A outer s H vs Q E hg hr ⟨m, T, fu, L, G, ws, ds, hv, hw, hd, h0, hi, hq⟩ => ?_⟩
  obtain ⟨t, ht, hgo⟩ := hbody A outer s H E hg hr
  subst hv
  exact ⟨t, ht.nox, hgo m T fu L G _ ds h0 hi (fun v d G2 H2 ho e w2 dv => hq v d G2 H2 ho e w2 dv) _ G H (Evl.Ex.refl G) hw (Sl.startM hd)⟩
end
end Kd
namespace Kd
open PySem PySem.Spec L2 LamX
open PyProof.Rows (envOfC)
section
variable {P : Program} {w : World} {K : PySem.W.Frag} {mg : Str → Option Value} {base : Heap} {f gi g c Pt : Addr} {fd fdi fdt : FuncData} {CB fI cS cN cT : Addr}
theorem row_len (n : Net) (S : Spots) (b : Nat) : (lostRow n S b).length ≤ n.k := by
  unfold lostRow
  rw [List.length_map]
  have := List.length_filter_le (fun e => decide (Wn n b e ≠ []) && decide (leftW n S b e = [])) (List.range n.k)
  rw [List.length_range] at this
  exact this
theorem rows_len (n : Net) (S : Spots) : ∀ l : List Nat, (l.flatMap (lostRow n S)).length ≤ l.length * n.k
  | [] => by simp
  | b :: l => by
    rw [List.flatMap_cons, List.length_append, List.length_cons, Nat.add_mul, Nat.one_mul]
    have := row_len n S b
    have := rows_len n S l
    omega
theorem eqv_strs : ∀ (xs ys : List Str), PyData.eqvAll (xs.map .str) (ys.map .str) = decide (xs = ys)
  | [], [] => by simp [PyData.eqvAll]
  | [], _ :: _ => by simp [PyData.eqvAll]
  | _ :: _, [] => by simp [PyData.eqvAll]
  | x :: xs, y :: ys => by
    rw [List.map_cons, List.map_cons, PyData.eqvAll, eqv_strs xs ys]
    simp only [PyData.eqv]
    by_cases h : x = y <;> simp [h]
theorem word_mem (n : Net) (b e : Nat) : wordS n b e ∈ words5 := by
  unfold wordS words5
  split
  · simp
  · split <;> simp
theorem words_mem {n : Net} {l : List Nat} {z : Str} (h : z ∈ l.flatMap (wordsRow n)) : z ∈ words5 := by
  obtain ⟨b, _, hz⟩ := List.mem_flatMap.mp h
  obtain ⟨e, _, rfl⟩ := List.mem_map.mp hz
  exact word_mem n b e
theorem words_len (n : Net) : ∀ l : List Nat, (l.flatMap (wordsRow n)).length = l.length * n.k
  | [] => by simp
  | b :: l => by
    rw [List.flatMap_cons, List.length_append, List.length_cons, Nat.add_mul, Nat.one_mul, words_len n l]
    have : (wordsRow n b).length = n.k := by unfold wordsRow; rw [List.length_map, List.length_range]
    omega
theorem rep_one (k : Nat) (d : PyData) : (List.replicate k [d]).flatten = List.replicate k d := by
  induction k with
  | zero => rfl
  | succ k ih => rw [List.replicate_succ, List.flatten_cons, ih, List.replicate_succ]; rfl
def qL : Str := ("_law_net_right" ++ ".<locals>." : Str) ++ "<lambda>"
def in_net_right : List PyData → Prop := fun ds => ∃ n, DrN 4 n ∧ ds = [dN n]
def out_true : List PyData → PyData → Prop := fun _ r => r = .bool true
def spNR (Pt : Addr) : Sp := fun vs H Q _ => ∃ (m : MD) (T : List (Addr × Str)) (f : Nat) (L : Own) (G : Hp) (ws : List V) (ds : List PyData), vs = .ref m.d :: ws ∧ W ⟨some m, T⟩ (f + 202) L G H ∧ DvAll G ws ds ∧ T = [(Pt, qL)] ∧ in_net_right ds ∧
  ∀ v r G2 H2, out_true ds r → Ex G G2 → W ⟨some m, T⟩ f L G2 H2 → Dv G2 v r → Q v H2
abbrev s_net_rightL : Stmt := top 74
abbrev N_net_rightL : List Str := ["_law_m", "_law_net_here", "_law_lot", "_law_kept_so", "_law_every", "_law_due", "_law_spot", "_law_come", "_law_words", "_law_turn", "_law_far", "_law_paper", "_law_word", "_law_thing", "_law_k"]
abbrev ps_net_rightL : List Str := ["_law_m", "_law_net_here"]
theorem sc_net_rightL : FnScope N_net_rightL ps_net_rightL (defScope s_net_rightL) := ⟨rfl, rfl, rfl, by decide +kernel, rfl, by decide +kernel, by decide +kernel⟩

theorem ok_net_rightL (F : FunAt K mg "_law_net_right" s_net_rightL ps_net_rightL f fd) (hcode : fd.code = .ref c) (TB : TabB base mg c Pt) (B : Bt mg) (Fi : FunAt K mg "_law_is" s_isL ps_isL gi fdi) (F3 : FunAt K mg "_law_told" s_toldL ps_toldL g fdt) (T3 : Cat K mg CB cS cN cT)
    (D_error_wordL : DefOk P w K mg base "_law_error_word" 1 ps_error_wordL (spW CB)) (D_likeL : DefOk P w K mg base "_law_like" 1 ps_likeL (spD pre_likeL)) (CA : DefX P w K mg base "check_apart" 5 ps_check_apart (spX CB pre_check_apart))
    (D_drawn_paperL : DefOk P w K mg base "_law_drawn_paper" 4 ps_drawn_paperL (spM 6 in_paper out_paper)) (D_judgedL : DefOk P w K mg base "_law_judged" 3 ps_judgedL (spD pre_judgedL)) (D_apart_paper : DefOk P w K mg base "apart_paper" 5 ps_apart_paper (spD pre_apart_paper)) (D_due_wordL : DefOk P w K mg base "_law_due_word" 3 ps_due_wordL (spD pre_due_wordL))
    (D_ways_left : DefOk P w K mg base "ways_left" 5 ps_ways_left (spD pre_ways_left)) (D_leftL : DefOk P w K mg base "_law_left" 3 ps_leftL (spD pre_leftL)) (D_ofL : DefOk P w K mg base "_law_of" 3 ps_ofL (spM 1 in_of out_of)) (D_is_lasting : DefOk P w K mg base "is_lasting" 4 ps_is_lasting (spD pre_is_lasting)) (D_lost_pairs : DefOk P w K mg base "lost_pairs" 5 ps_lost_pairs (spD pre_lost_pairs))
    (D_waysL : DefOk P w K mg base "_law_ways" 2 ps_waysL (spD pre_waysL)) (D_powerL : DefOk P w K mg base "_law_power" 1 ps_powerL (spD pre_powerL)) (D_brokenL : DefOk P w K mg base "_law_broken" 4 ps_brokenL (spM 50 in_netD out_broken)) :
    DefOk P w K mg base "_law_net_right" 10 ps_net_rightL (spNR Pt) := by
  refine DefOk.drawnC F hcode sc_net_rightL (fun ds ⟨n, _, h⟩ => by rw [h]; rfl) (fun _ T => T = [(Pt, qL)]) fun A outer s H E hg hr => ?_
  have nd := sc_net_rightL.nd
  have hu : ∀ p ∈ [(Pt, qL)], p.1 = Pt → p.2 = qL := fun p hp _ => by rw [List.mem_singleton.mp hp]
  refine ⟨_, (pss_cons (ps_asg (pe_tupX (pa_cons (pe_callD D_brokenL hg (hr.mono (by decide)) (by rfl) (pa_cons (pv 0) (pa_cons (pv 1) pa_nil))) (pa_cons (pe_callB (kRepr K hg hr) (by rfl) B.repr (by decide +kernel) (pa_cons (pv 1) pa_nil)) (pa_cons (pe_listRg rfl (by rfl) B.list (prg_1 (by rfl) B.range (pe_callD D_powerL hg (hr.mono (by decide)) (by rfl) (pa_cons (pe_ix (kIx K) (pv 1) pe_int (fun _ _ => rfl)) pa_nil)))) pa_nil)))) (kTup (n := 3) K rfl (pgs_cons (pg_name (i := 2) nd rfl (Or.inr rfl)) (pgs_cons (pg_name (i := 3) nd rfl (Or.inl rfl)) (pgs_cons (pg_name (i := 4) nd rfl (Or.inl rfl)) pgs_nil)))))
    (pss_cons (ps_set (i := 5) nd rfl (Or.inl rfl) (pe_lst pa_nil))
    (pss_cons (ps_for PassesOwn.never rfl (kSeq K (pv 4)) (pg_name (i := 6) nd rfl (Or.inr rfl)) (pss_cons (ps_setLc (i := 7) (own := [("_law_far", 10)]) rfl nd rfl rfl (sw_true rfl rfl rfl (by decide +kernel)) (kSeq K (pv 4)) (blkOk_by (own := [("_law_far", 10)]) (N := N_net_rightL) (sc := defScope s_net_rightL) (by decide +kernel)) (fun _ _ _ _ _ => (pg_name (i := 10) nd rfl (Or.inl rfl))) (fun _ _ _ _ _ => (pts_one (pt_cmpR (kNe K hr.units) (pe_callD D_waysL hg (hr.mono (by decide)) (by rfl) (pa_cons (pv 1) (pa_cons (pv 6) (pa_cons (pv 10) pa_nil)))) (pe_lst pa_nil) (nomark _)))) (fun _ _ _ _ _ => (pv 10)))
    (pss_one (ps_set (i := 5) nd rfl (Or.inl rfl) (pe_op (kAdd K) (pv 5) (pe_lc (own := [("_law_far", 10)]) rfl nd (kSeq K (pv 7)) (blkOk_by (own := [("_law_far", 10)]) (N := N_net_rightL) (sc := defScope s_net_rightL) (by decide +kernel)) (fun _ _ _ _ _ => (pg_name (i := 10) nd rfl (Or.inl rfl))) (fun _ _ _ _ _ => (pts_one (pt_cmpR (kEq K hr.units) (pe_callD D_leftL hg (hr.mono (by decide)) (by rfl) (pa_cons (pv 1) (pa_cons (pv 2) (pa_cons (pv 6) (pa_cons (pv 10) pa_nil))))) (pe_lst pa_nil) (nomark _)))) (fun _ _ _ _ _ => (pe_tupX (pa_cons (pv 6) (pa_cons (pv 10) pa_nil))))))))))
    (pss_cons (ps_if (pt_not (pt_val (pe_callD D_likeL hg (hr.mono (by decide)) (by rfl) (pa_cons (pe_lst (pa_cons (pe_callD D_lost_pairs hg (hr.mono (by decide)) (by rfl) (pa_cons (pv 1) (pa_cons (pv 2) pa_nil))) (pa_cons (pe_callD D_lost_pairs hg (hr.mono (by decide)) (by rfl) (pa_cons (pv 1) (pa_cons (pv 2) pa_nil))) pa_nil))) (pa_cons (pe_op (kMul K) (pe_lst (pa_cons (pe_callTy (kTuple K) (by rfl) B.tuple (by decide +kernel) (pa_cons (pv 5) pa_nil)) pa_nil)) pe_int) pa_nil))))) (pss_one (ps_ret pe_bl)) pss_nil)
    (pss_cons (ps_set (i := 8) nd rfl (Or.inl rfl) (pe_lst pa_nil))
    (pss_cons (ps_for PassesOwn.never rfl (kSeq K (pv 4)) (pg_name (i := 6) nd rfl (Or.inr rfl)) (pss_one (ps_set (i := 8) nd rfl (Or.inl rfl) (pe_op (kAdd K) (pv 8) (pe_lc (own := [("_law_far", 10)]) rfl nd (kSeq K (pv 4)) (blkOk_by (own := [("_law_far", 10)]) (N := N_net_rightL) (sc := defScope s_net_rightL) (by decide +kernel)) (fun _ _ _ _ _ => (pg_name (i := 10) nd rfl (Or.inl rfl))) (fun _ _ _ _ _ => pts_nil) (fun _ _ _ _ _ => (pe_callD D_due_wordL hg (hr.mono (by decide)) (by rfl) (pa_cons (pv 1) (pa_cons (pv 6) (pa_cons (pv 10) pa_nil))))))))))
    (pss_cons (ps_if (pt_not (pt_val (pe_callD D_likeL hg (hr.mono (by decide)) (by rfl) (pa_cons (pe_lst (pa_cons (pe_callD D_is_lasting hg (hr.mono (by decide)) (by rfl) (pa_cons (pv 1) pa_nil)) (pa_cons (pe_callD D_is_lasting hg (hr.mono (by decide)) (by rfl) (pa_cons (pv 1) pa_nil)) pa_nil))) (pa_cons (pe_op (kMul K) (pe_lst (pa_cons (pe_cmpR (kEq K hr.units) (pv 8) (pe_op (kMul K) (pe_lst (pa_cons pe_str pa_nil)) (pe_callB (kLen K) (by rfl) B.len (by decide +kernel) (pa_cons (pv 8) pa_nil))) (nomark _)) pa_nil)) pe_int) pa_nil))))) (pss_one (ps_ret pe_bl)) pss_nil)
    (pss_cons (ps_for PassesOwn.never rfl (pi_range1 (by rfl) B.range (pa_cons pe_int pa_nil)) (pg_name (i := 9) nd rfl (Or.inl rfl)) (pss_cons (ps_asg (pe_tupX (pa_cons (pe_callD D_ofL hg (hr.mono (by decide)) (by rfl) (pa_cons (pv 0) (pa_cons (pv 4) pa_nil))) (pa_cons (pe_callD D_ofL hg (hr.mono (by decide)) (by rfl) (pa_cons (pv 0) (pa_cons (pv 4) pa_nil))) pa_nil))) (kTup (n := 2) K rfl (pgs_cons (pg_name (i := 6) nd rfl (Or.inr rfl)) (pgs_cons (pg_name (i := 10) nd rfl (Or.inr rfl)) pgs_nil))))
    (pss_cons (ps_set (i := 5) nd rfl (Or.inl rfl) (pe_callTy (kTuple K) (by rfl) B.tuple (by decide +kernel) (pa_cons (pe_callD D_leftL hg (hr.mono (by decide)) (by rfl) (pa_cons (pv 1) (pa_cons (pv 2) (pa_cons (pv 6) (pa_cons (pv 10) pa_nil))))) pa_nil)))
    (pss_cons (ps_if (pt_not (pt_val (pe_callD D_likeL hg (hr.mono (by decide)) (by rfl) (pa_cons (pe_lst (pa_cons (pe_callD D_ways_left hg (hr.mono (by decide)) (by rfl) (pa_cons (pv 1) (pa_cons (pv 2) (pa_cons (pv 6) (pa_cons (pv 10) pa_nil))))) (pa_cons (pe_callD D_ways_left hg (hr.mono (by decide)) (by rfl) (pa_cons (pv 1) (pa_cons (pv 2) (pa_cons (pv 6) (pa_cons (pv 10) pa_nil))))) pa_nil))) (pa_cons (pe_lst (pa_cons (pv 5) (pa_cons (pv 5) pa_nil))) pa_nil))))) (pss_one (ps_ret pe_bl)) pss_nil)
    (pss_cons (ps_par (i := 11) (j := 12) rfl nd rfl rfl (by decide) rfl rfl (pa_cons (pe_callD D_apart_paper hg (hr.mono (by decide)) (by rfl) (pa_cons (pv 1) (pa_cons (pv 6) (pa_cons (pv 10) pa_nil)))) (pa_cons (pe_callD D_due_wordL hg (hr.mono (by decide)) (by rfl) (pa_cons (pv 1) (pa_cons (pv 6) (pa_cons (pv 10) pa_nil)))) pa_nil)) (by rfl))
    (pss_cons (ps_if (pt_not (pt_val (pe_callD D_likeL hg (hr.mono (by decide)) (by rfl) (pa_cons (pe_lst (pa_cons (pe_callD D_judgedL hg (hr.mono (by decide)) (by rfl) (pa_cons (pv 1) (pa_cons (pv 6) (pa_cons (pv 10) (pa_cons (pv 11) pa_nil))))) (pa_cons (pe_callD D_apart_paper hg (hr.mono (by decide)) (by rfl) (pa_cons (pv 1) (pa_cons (pv 6) (pa_cons (pv 10) pa_nil)))) pa_nil))) (pa_cons (pe_lst (pa_cons (pe_lst (pa_cons (pv 12) pa_nil)) (pa_cons (pv 11) pa_nil))) pa_nil))))) (pss_one (ps_ret pe_bl)) pss_nil)
    (pss_one (ps_for PassesOwn.never rfl (kSeq K (pe_op (kAdd K) (pe_lst (pa_cons (pv 11) pa_nil)) (pe_lc (own := [("_law_k", 14)]) rfl nd (pi_range1 (by rfl) B.range (pa_cons pe_int pa_nil)) (blkOk_by (own := [("_law_k", 14)]) (N := N_net_rightL) (sc := defScope s_net_rightL) (by decide +kernel)) (fun _ _ _ _ _ => (pg_name (i := 14) nd rfl (Or.inl rfl))) (fun _ _ _ _ _ => pts_nil) (fun _ _ _ _ _ => (pe_callD D_drawn_paperL hg (hr.mono (by decide)) (by rfl) (pa_cons (pv 0) (pa_cons (pv 1) (pa_cons (pv 6) (pa_cons (pv 10) pa_nil))))))))) (pg_name (i := 13) nd rfl (Or.inr rfl)) (pss_one (ps_if (pt_not (pt_val (pe_isCall (T := [(Pt, qL)]) (k := 5) (tb := tbChk CB 1 6 10 13) (by rfl) Fi F3 B T3 D_error_wordL D_likeL hg (hr.mono (by decide)) TB rfl List.mem_cons_self hu (lamS_by (by rfl)) rfl (fun _ _ _ _ _ => rfl) (fun A outer s H E f c' hga hra => pe_chkBody (k := 5) (p1 := ⟨0, 0, 0, 0⟩) (p2 := ⟨0, 0, 0, 0⟩) (p3 := ⟨0, 0, 0, 0⟩) (p4 := ⟨0, 0, 0, 0⟩) CA hga (hra.mono (by decide)) (by decide) (by rfl) (pv 1) (pv 6) (pv 10) (pv 13) rfl rfl (pa_cons (pv 1) (pa_cons (pv 6) (pa_cons (pv 10) (pa_cons (pv 13) pa_nil))))) (pe_callD D_judgedL hg (hr.mono (by decide)) (by rfl) (pa_cons (pv 1) (pa_cons (pv 6) (pa_cons (pv 10) (pa_cons (pv 13) pa_nil)))))))) (pss_one (ps_ret pe_bl)) pss_nil))))))))))
    (pss_one (ps_ret (pe_cmpR op_eq (pe_callB (kRepr K hg hr) (by rfl) B.repr (by decide +kernel) (pa_cons (pv 1) pa_nil)) (pv 3) (nomark _)))))))))))), ?_⟩
  rintro m T fu L G0 D ds rfl ⟨n, hn, rfl⟩ hR
  have hok := hn.ok
  have hk8 := hn.k8
  have hb1 := hok.b1
  have hb3 := hn.b3
  have hkp : 0 < n.k := Nat.pow_pos (by decide)
  have hlen := hn.len
  -- the broken wires, the net's text, all wires
  refine q_asg3N (f' := fu + 152) (P := fun d => ∃ S, BrkOk n S ∧ d = .tuple [dL S, .str (dN n).shown, .list ((List.range n.k).map dI)]) (EvN.imp (en_tup (ean_cons (P1 := fun d => ∃ S, BrkOk n S ∧ d = dL S) (f1 := fu + 152) (en_net (c := 50) (n := n) (f := fu + 152) rfl (ev_var rfl) ⟨n, hn, rfl⟩ fun r ⟨n', S, h1, h2, h3⟩ => ⟨S, by rw [dN_inj (List.cons.inj h1).1]; exact h2, h3⟩) fun _ _ => (ea_two (ev_repr (n := 5000) (ev_var (d := dN n) rfl).r (sv_net hok).sw (by decide)) (ev_is (ev_listRg1 (n := ((2 ^ n.b : Nat) : Int)) (ev_call (ea_one (ev_ixT (es := [dI n.b, .tuple (n.os.map dT)]) (ev_var rfl).r ev_int.r rfl)) ⟨n.b, by omega, rfl, rfl⟩) (Int.natCast_nonneg _) (Int.le_trans (Int.ofNat_le.mpr (show 2 ^ n.b ≤ 8 from hk8)) (by decide))) (by rw [rng0]; rfl))).n (f := fu + 152) (f' := fu + 152) (P := fun l => l = [.str (dN n).shown, .list ((List.range n.k).map dI)]) rfl) ?_) ?_) (fun d ⟨S, _, h⟩ => ⟨_, _, _, h⟩) ?_
  · rintro es ⟨x, es', _, h1, h2⟩
    rw [h2, h1]; simp
  · rintro d ⟨es, ⟨x, es', ⟨S, hS, hx⟩, h1, h2⟩, h3⟩
    exact ⟨S, hS, by rw [h3, h2, h1, hx]⟩
  rintro x y z ⟨S, hS, h⟩
  injection h with h
  injection h with h1 h2
  injection h2 with h2 h3
  injection h3 with h3 h4
  subst h1 h2 h3
  have leftK : ∀ b e : Nat, (leftW n S b e).length ≤ 64 := fun b e => Nat.le_trans (List.length_filter_le _ _) (W_len hok b e)
  -- the pairs that are lost
  refine q_asg (d := .list (([] : Spots).map dP)) (ev_is (ev_lst ea_nil) rfl) ?_
  refine q_for (bw := false) (js := [6]) (F := Fn 6) (items := (List.range n.k).map dI) (ei_seqL (ev_var rfl)) (fun x hx => tg_name)
    (fun i f1 L' ds => f1 = fu + 152 ∧ L' = L ∧ ∃ a6 a7 a8 a9 a10 a11 a12 a13 a14, ds = [some (.raw (.ref m.d)), some (.dat (dN n)), some (.dat (dL S)), some (.dat (.str (dN n).shown)), some (.dat (.list ((List.range n.k).map dI))), some (.dat (.list (((List.range i).flatMap (lostRow n S)).map dP))), a6, a7, a8, a9, a10, a11, a12, a13, a14]) ⟨rfl, rfl, none, none, none, none, none, none, none, none, none, rfl⟩ ?_ ?_
  · rintro G1 e1 i x f1 L1 ds1 hx ⟨rfl, rfl, a6, a7, a8, a9, a10, a11, a12, a13, a14, rfl⟩
    obtain ⟨hi, rfl⟩ := getRange hx
    refine q_asg (d := .list (((List.range n.k).filter fun e => decide (Wn n i e ≠ [])).map dI)) (ev_lcM (bw := false) (js := [10]) (F := Fn 10) (enc := dI) (l := List.range n.k) (fun e => decide (Wn n i e ≠ [])) dI (ei_seqL (ev_var rfl)) (by decide) (fun x hx => tg_name) (by rw [List.length_range]; omega) fun e he => ⟨?_, fun _ => ev_var rfl⟩) ?_
    · refine (eb_T (ev_ne (n := 2) (m := 2) (EvD.r (ev_call (ea_three (ev_var rfl) (ev_var rfl) (ev_var rfl)) ⟨n, i, e, hok, hi, rfl, rfl⟩)) (ev_lst ea_nil).r (shp_ways _) (shp_ways []))).is ?_
      rw [eqv_nil, isEmpty_eq]; simp
    refine go_asg (d := .list (((List.range (i + 1)).flatMap (lostRow n S)).map dP)) (ev_is (ev_addL (es := ((List.range i).flatMap (lostRow n S)).map dP) (gs := (lostRow n S i).map dP) (ev_var rfl).r (EvD.r (ev_is (ev_lcM (bw := false) (js := [10]) (F := Fn 10) (enc := dI) (l := (List.range n.k).filter fun e => decide (Wn n i e ≠ [])) (fun e => decide (leftW n S i e = [])) (fun e => dP (i, e)) (ei_seqL (ev_var rfl)) (by decide) (fun x hx => tg_name) ?_ fun e he => ⟨?_, fun _ => ev_tup (ea_two (ev_var rfl) (ev_var rfl))⟩) ?_)) ?_) ?_) (nx_iv ⟨rfl, rfl, _, _, _, _, _, _, _, _, _, rfl⟩)
    · exact Nat.le_trans (List.length_filter_le _ _) (by rw [List.length_range]; omega)
    · refine (eb_T (ev_eq (n := 2) (m := 2) (EvD.r (ev_call (ea_cons (ev_var rfl) (ea_three (ev_var rfl) (ev_var rfl) (ev_var rfl))) ⟨n, S, i, e, hok, hS, hi, rfl, rfl⟩)) (ev_lst ea_nil).r (shp_ways _) (shp_ways []))).is ?_
      rw [eqv_nil, isEmpty_eq]
    · rw [← lost_row, List.map_map]; rfl
    · have h1 := row_len n S i
      have h2 := rows_len n S (List.range i)
      rw [List.length_range] at h2
      have h3 : i * n.k ≤ 8 * 8 := Nat.mul_le_mul (by omega) hk8
      rw [List.length_map, List.length_map]
      omega
    · rw [List.range_succ, List.flatMap_append, List.map_append]
      simp
  · rintro f1 L1 ds1 ⟨rfl, rfl, a6, a7, a8, a9, a10, a11, a12, a13, a14, rfl⟩
    rw [List.length_map, List.length_range]
    have lostE : ∀ {ds2 : DS}, ds2[1]? = some (some (.dat (dN n))) → ds2[2]? = some (some (.dat (dL S))) → EvD ⟨some m, [(Pt, qL)]⟩ L1 (tCall (spD pre_lost_pairs) [] E0 (tCons (tVar 1) (tCons (tVar 2) tNil))) ds2 (dL (lostW n S)) := fun h1 h2 => ev_call (ea_two (ev_var h1) (ev_var h2)) ⟨n, S, hok, hS, rfl, rfl⟩
    have swl := sw_lost hok S
    refine q_skip ((eb_not (eb_B (ev_call (ea_two (ev_lst (ea_two (lostE rfl rfl) (lostE rfl rfl))) (ev_is (ev_rep (k := 2) (es := [dL (lostW n S)]) (EvD.r (ev_lst (ea_one (ev_is (ev_tupleL (ev_var rfl).r) rfl)))) ev_int.r (by decide) (by decide) (by simp)) (show _ = PyData.list [dL (lostW n S), dL (lostW n S)] from rfl))) ⟨_, _, swl, swl, rfl, rfl⟩))).is (by simp)) ?_
    -- the words
    refine q_asg (d := .list (([] : List Str).map .str)) (ev_is (ev_lst ea_nil) rfl) ?_
    refine q_for (bw := false) (js := [6]) (F := Fn 6) (items := (List.range n.k).map dI) (ei_seqL (ev_var rfl)) (fun x hx => tg_name)
      (fun i f2 L' ds => f2 = fu + 152 ∧ L' = L1 ∧ ∃ a6 a7 a9 a10 a11 a12 a13 a14, ds = [some (.raw (.ref m.d)), some (.dat (dN n)), some (.dat (dL S)), some (.dat (.str (dN n).shown)), some (.dat (.list ((List.range n.k).map dI))), some (.dat (.list (((List.range n.k).flatMap (lostRow n S)).map dP))), a6, a7, some (.dat (.list (((List.range i).flatMap (wordsRow n)).map .str))), a9, a10, a11, a12, a13, a14]) ⟨rfl, rfl, a6, a7, a9, a10, a11, a12, a13, a14, rfl⟩ ?_ ?_
    · rintro G2 e2 i x f2 L2 ds2 hx ⟨rfl, rfl, a6, a7, a9, a10, a11, a12, a13, a14, rfl⟩
      obtain ⟨hi, rfl⟩ := getRange hx
      refine go_asg (d := .list (((List.range (i + 1)).flatMap (wordsRow n)).map .str)) (ev_is (ev_addL (es := ((List.range i).flatMap (wordsRow n)).map .str) (gs := (wordsRow n i).map .str) (ev_var rfl).r (EvD.r (ev_is (ev_lcAllM (bw := false) (js := [10]) (F := Fn 10) (enc := dI) (l := List.range n.k) (fun e => .str (wordS n i e)) (ei_seqL (ev_var rfl)) (by decide) (fun x hx => tg_name) (by rw [List.length_range]; omega) fun e he => ev_call (ea_three (ev_var rfl) (ev_var rfl) (ev_var rfl)) ⟨n, i, e, hok, hi, rfl, rfl⟩) ?_)) ?_) ?_) (nx_iv ⟨rfl, rfl, _, _, _, _, _, _, _, _, rfl⟩)
      · unfold wordsRow; rw [List.map_map]; rfl
      · have h2 := words_len n (List.range i)
        have h4 : (wordsRow n i).length = n.k := by unfold wordsRow; rw [List.length_map, List.length_range]
        rw [List.length_range] at h2
        have h3 : i * n.k ≤ 8 * 8 := Nat.mul_le_mul (by omega) hk8
        rw [List.length_map, List.length_map]
        omega
      · rw [List.range_succ, List.flatMap_append, List.map_append]
        simp
    · rintro f2 L2 ds2 ⟨rfl, rfl, a6, a7, a9, a10, a11, a12, a13, a14, rfl⟩
      rw [List.length_map, List.length_range]
      have hwl : (wordsW n).length ≤ 64 := by
        have h2 := words_len n (List.range n.k)
        rw [List.length_range] at h2
        have h3 : n.k * n.k ≤ 8 * 8 := Nat.mul_le_mul hk8 hk8
        show ((List.range n.k).flatMap (wordsRow n)).length ≤ 64
        omega
      have swb := sw_bools (lastD n) (lastD n)
      have shw : ∀ l : List Str, (∀ z ∈ l, z ∈ words5) → Shp 1 (.list (l.map .str)) := fun l h => Shp.list (n := 0) (Shp.map fun z hz => Shp.str (word_ok z (h z hz)))
      have lastE : ∀ {ds2 : DS}, ds2[1]? = some (some (.dat (dN n))) → EvD ⟨some m, [(Pt, qL)]⟩ L2 (tCall (spD pre_is_lasting) [] E0 (tCons (tVar 1) tNil)) ds2 (.bool (lastD n)) := fun h1 => ev_call (ea_one (ev_var h1)) ⟨n, hok, rfl, rfl⟩
      refine q_skip ((eb_not (eb_B (ev_call (ea_two (ev_lst (ea_two (lastE rfl) (lastE rfl))) (ev_is (ev_rep (k := 2) (es := [.bool (lastD n)]) (EvD.r (ev_lst (ea_one (ev_is (ev_eq (n := 1) (m := 1) (x := .list ((wordsW n).map .str)) (y := .list ((List.replicate (wordsW n).length ("two" : Str)).map .str)) (ev_var rfl).r (EvD.r (ev_is (ev_rep (k := ((wordsW n).length : Nat)) (es := [.str "two"]) (EvD.r (ev_lst (ea_one ev_str))) (EvD.r (ev_is (ev_lenL (es := (wordsW n).map .str) (ev_var rfl).r) (by rw [List.length_map]))) (by omega) (by omega) (by simp; omega)) ?_)) (shw _ fun z hz => words_mem hz) (shw _ fun z hz => ?_)) ?_)))) ev_int.r (by decide) (by decide) (by simp)) (show _ = PyData.list [.bool (lastD n), .bool (lastD n)] from rfl))) ⟨_, _, swb, swb, rfl, rfl⟩))).is (by simp)) ?_
      · rw [Int.toNat_natCast, rep_one, List.map_replicate]
      · rw [(List.mem_replicate.mp hz).2]; simp [words5]
      · simp only [PyData.eqv]
        rw [eqv_strs, words_last]
      -- the four turns
      refine q_for (bw := false) (js := [9]) (F := Fn 9) (items := (List.range 4).map dI) ?_ (fun x hx => tg_name)
        (fun i f3 L' ds => f3 = fu + (4 - i) * 38 ∧ i ≤ 4 ∧ L' = L2 ∧ ∃ a5 a6 a7 a8 a9 a10 a11 a12 a13 a14, ds = [some (.raw (.ref m.d)), some (.dat (dN n)), some (.dat (dL S)), some (.dat (.str (dN n).shown)), some (.dat (.list ((List.range n.k).map dI))), a5, a6, a7, a8, a9, a10, a11, a12, a13, a14]) ⟨rfl, Nat.zero_le _, rfl, _, a6, a7, _, a9, a10, a11, a12, a13, a14, rfl⟩ ?_ ?_
      · rw [← rng0]
        exact ei_rng1 (ea_one ev_int) (by decide)
      · rintro G3 e3 i x f3 L3 ds3 hx ⟨rfl, hi4, rfl, a5, a6, a7, a8, a9, a10, a11, a12, a13, a14, rfl⟩
        obtain ⟨hi, rfl⟩ := getRange hx
        obtain ⟨q, hq⟩ : ∃ q, q = fu + (4 - (i + 1)) * 38 := ⟨_, rfl⟩
        have hfu : fu + (4 - i) * 38 = q + 38 := by omega
        rw [hfu]
        have hne : (List.range n.k).map dI ≠ [] := by
          intro h
          have := congrArg List.length h
          rw [List.length_map, List.length_range] at this
          simp at this; omega
        have ofE : ∀ {ds2 : DS} {f4 : Nat}, ds2[0]? = some (some (.raw (.ref m.d))) → ds2[4]? = some (some (.dat (.list ((List.range n.k).map dI)))) → EvN ⟨some m, [(Pt, qL)]⟩ L3 (tCall (spM 1 in_of out_of) [] E0 (tCons (tVar 0) (tCons (tVar 4) tNil))) ds2 (f4 + 1) f4 (fun d => ∃ b, b < n.k ∧ d = dI b) := fun h0 h4 => EvN.imp (en_of h0 (ev_var h4) hne (by rw [List.length_map, List.length_range]; omega)) fun d hd => by
          obtain ⟨b, hb, rfl⟩ := List.mem_map.mp hd
          exact ⟨b, List.mem_range.mp hb, rfl⟩
        refine q_asgPN (f' := q + 36) (P := fun d => ∃ b e, b < n.k ∧ e < n.k ∧ d = .tuple [dI b, dI e]) (EvN.imp (en_tup (ean_cons (ofE (f4 := q + 37) rfl rfl) fun x _ => ean_cons (ofE (f4 := q + 36) rfl rfl) fun y _ => ean_nil (P := fun l => l = []) rfl) ?_) ?_) (fun d ⟨b, e, _, _, h⟩ => ⟨_, _, h⟩) ?_
        · rintro es ⟨x, es', _, ⟨y, es'', _, h3, h4⟩, h5⟩
          rw [h5, h4, h3]; simp
        · rintro d ⟨es, ⟨x, es', ⟨b, hb, hx⟩, ⟨y, es'', ⟨e, he, hy⟩, h3, h4⟩, h5⟩, h6⟩
          exact ⟨b, e, hb, he, by rw [h6, h5, h4, h3, hx, hy]⟩
        rintro x y ⟨b, e, hb, he, h⟩
        injection h with h
        injection h with h1 h2
        injection h2 with h2 h3
        subst h1 h2
        -- the ways that are left
        refine q_asg (d := .tuple ((leftW n S b e).map dT)) (ev_tupleL (EvD.r (ev_call (ea_cons (ev_var rfl) (ea_three (ev_var rfl) (ev_var rfl) (ev_var rfl))) ⟨n, S, b, e, hok, hS, hb, rfl, rfl⟩))) ?_
        have svL : Sv 2 (64 * 33 + 3) (.tuple ((leftW n S b e).map dT)) := sv_ways (fun w hw => W_w16 hok hb (List.mem_filter.mp hw).1) (leftK b e)
        have swL : Sw 5000000 (.list [.tuple ((leftW n S b e).map dT), .tuple ((leftW n S b e).map dT)]) := (sv_two svL svL).sw
        have leftE : ∀ {ds2 : DS}, ds2[1]? = some (some (.dat (dN n))) → ds2[2]? = some (some (.dat (dL S))) → ds2[6]? = some (some (.dat (dI b))) → ds2[10]? = some (some (.dat (dI e))) → EvD ⟨some m, [(Pt, qL)]⟩ L3 (tCall (spD pre_ways_left) [] E0 (tCons (tVar 1) (tCons (tVar 2) (tCons (tVar 6) (tCons (tVar 10) tNil))))) ds2 (.tuple ((leftW n S b e).map dT)) := fun h1 h2 h3 h4 => ev_call (ea_cons (ev_var h1) (ea_three (ev_var h2) (ev_var h3) (ev_var h4))) ⟨n, S, b, e, hok, hS, hb, he, rfl, rfl⟩
        refine q_skip ((eb_not (eb_B (ev_call (ea_two (ev_lst (ea_two (leftE rfl rfl rfl rfl) (leftE rfl rfl rfl rfl))) (ev_lst (ea_two (ev_var rfl) (ev_var rfl)))) ⟨_, _, swL, swL, rfl, rfl⟩))).is (by simp)) ?_
        -- the paper, the word
        have papE : ∀ {ds2 : DS}, ds2[1]? = some (some (.dat (dN n))) → ds2[6]? = some (some (.dat (dI b))) → ds2[10]? = some (some (.dat (dI e))) → EvD ⟨some m, [(Pt, qL)]⟩ L3 (tCall (spD pre_apart_paper) [] E0 (tCons (tVar 1) (tCons (tVar 6) (tCons (tVar 10) tNil)))) ds2 (paperD n b e) := fun h1 h3 h4 => ev_call (ea_three (ev_var h1) (ev_var h3) (ev_var h4)) ⟨n, b, e, hok, hb, he, mg_ok n b e, rfl, rfl⟩
        obtain ⟨pOk, pSv⟩ := paper_ok (e := e) hok hb
        have pChk := paper_chk (e := e) hok hb
        have pJud : judD n b e (paperD n b e) = .list [.str (wordS n b e)] := by unfold judD; rw [pChk]; rfl
        refine q_par (x := paperD n b e) (y := .str (wordS n b e)) (ea_two (papE rfl rfl rfl) (ev_call (ea_three (ev_var rfl) (ev_var rfl) (ev_var rfl)) ⟨n, b, e, hok, hb, rfl, rfl⟩)) ?_
        have svW : Sv 2 200 (.list [.str (wordS n b e)]) := (sv_told (ok := true) (word_mem n b e)).le
        have swP : Sw 5000000 (.list [.list [.str (wordS n b e)], paperD n b e]) := (sv_two svW pSv).sw
        refine q_skip ((eb_not (eb_B (ev_call (ea_two (ev_lst (ea_two (ev_is (ev_call (ea_cons (ev_var rfl) (ea_three (ev_var rfl) (ev_var rfl) (ev_var rfl))) ⟨n, b, e, paperD n b e, hok, hb, pOk.shp, pOk.rep, rfl, rfl⟩) pJud) (papE rfl rfl rfl))) (ev_lst (ea_two (ev_lst (ea_one (ev_var rfl))) (ev_var rfl)))) ⟨_, _, swP, swP, rfl, rfl⟩))).is (by simp)) ?_
        have six : (rngD 0 6).length = 6 := by decide
        refine go_forN (bw := false) (js := [13]) (F := Fn 13) (f' := q) (P := fun items => ∀ p ∈ items, PapOk p) (ein_seqL (en_opR (x := .list [paperD n b e]) (R := fun d => ∃ l : List PyData, l.length = (rngD 0 6).length ∧ (∀ a ∈ l, PapOk a) ∧ d = .list (l.map id)) (T := fun d => ∃ items : List PyData, (∀ p ∈ items, PapOk p) ∧ d = .list items) (ev_lst (ea_one (ev_var rfl))).r (EvN.less (en_lcC (bw := false) (js := [14]) (F := Fn 14) (f := q) id PapOk 6 (ei_rng1 (n := 6) (ea_one ev_int) (by decide)) (by decide) (fun x hx => tg_name) (by rw [six]; decide) fun x hx f5 => ?_) (by rw [six]; omega) (Nat.le_refl _)) ?_)) (fun x => tg_name)
          (fun items j f5 L' ds => f5 = q ∧ L' = L3 ∧ ∃ a5 a7 a8 a9 a11 a12 a13 a14, ds = [some (.raw (.ref m.d)), some (.dat (dN n)), some (.dat (dL S)), some (.dat (.str (dN n).shown)), some (.dat (.list ((List.range n.k).map dI))), a5, some (.dat (dI b)), a7, a8, a9, some (.dat (dI e)), a11, a12, a13, a14]) (fun items h => ⟨rfl, rfl, _, _, _, _, _, _, _, _, rfl⟩) ?_ ?_
        · exact en_callM (P := fun l => l = [dN n, dI b, dI e]) (f' := f5) rfl ((ea_three (ev_var rfl) (ev_var rfl) (ev_var rfl)).n (f := f5 + 6) (f' := f5 + 6) (P := fun l => l = [dN n, dI b, dI e]) rfl) fun es he => ⟨⟨n, b, e, hn, hb, he⟩, fun r hr => ⟨r, hr, rfl⟩⟩
        · rintro d ⟨l, h6, hl, rfl⟩
          refine ⟨_, ROk.or2 (ROk.or1 (ro_cat ?_)), [paperD n b e] ++ l.map id, fun p hp => ?_, rfl⟩
          · rw [List.length_map, h6, six]; show 1 + 6 ≤ 100000; decide
          · rcases List.mem_append.mp hp with hp | hp
            · rw [List.mem_singleton.mp hp]; exact pOk
            · rw [List.map_id] at hp; exact hl p hp
        · rintro items hpi G4 e4 j p f5 L5 ds5 hx ⟨rfl, rfl, a5, a7, a8, a9, a11, a12, a13, a14, rfl⟩
          have hp : PapOk p := hpi p (List.mem_of_getElem? hx)
          have hw := chk_word n b e p
          refine go_skip ((eb_not (eb_B (ev_isCall (ok := (chkD n b e p).1) (wd := (chkD n b e p).2) (dd := judD n b e p) (ev_call (ea_cons (ev_var rfl) (ea_three (ev_var rfl) (ev_var rfl) (ev_var rfl))) ⟨n, b, e, p, hok, hb, hp.shp, hp.rep, rfl, rfl⟩) (fun Gx σ sl => lamSp_check sl hok hb he hp.shp rfl rfl rfl rfl rfl) (word_ok _ hw) (sw_told hw) (sw_told hw)))).is ?_) (nx_iv ⟨rfl, rfl, _, _, _, _, _, _, _, _, rfl⟩)
          show (!decide ((PyData.list [toldD (chkD n b e p).1 (chkD n b e p).2, toldD (chkD n b e p).1 (chkD n b e p).2]).shown = (PyData.list [judD n b e p, judD n b e p]).shown)) = false
          rw [show judD n b e p = toldD (chkD n b e p).1 (chkD n b e p).2 from rfl]
          simp
        · rintro items hpi f5 L5 ds5 ⟨rfl, rfl, a5, a7, a8, a9, a11, a12, a13, a14, rfl⟩
          exact nx_iv ⟨hq, by omega, rfl, _, _, _, _, _, _, _, _, _, _, rfl⟩
      · rintro f3 L3 ds3 ⟨rfl, _, rfl, a5, a6, a7, a8, a9, a10, a11, a12, a13, a14, rfl⟩
        exact go_ret (ev_op (ev_repr (n := 5000) (ev_var (d := dN n) rfl).r (sv_net hok).sw (by decide)).r (ev_var rfl).r ro_eqS) (RtOk.less hR (by omega)) (by show PyData.bool _ = .bool true; simp)
end
end Kd
namespace Kd
open PySem L2
open PyProof.Rows (envOfC)
/-! ### nets by hand -/
def ordB (k : Nat) (o : List Nat) : Bool := decide (o.length = k) && (decide o.Nodup && o.all fun x => decide (x < k))
theorem ordB_ok {k : Nat} {o : List Nat} (h : ordB k o = true) : IsOrd k o := by
  unfold ordB at h
  rw [Bool.and_eq_true, Bool.and_eq_true, decide_eq_true_iff, decide_eq_true_iff, List.all_eq_true] at h
  exact ⟨h.1, h.2.1, fun x hx => of_decide_eq_true (h.2.2 x hx)⟩
def netB (n : Net) : Bool := (decide (1 ≤ n.b) && decide (n.b ≤ 4)) && (decide (n.os.length ≤ 5) && n.os.all (ordB n.k))
theorem netB_ok {n : Net} (h : netB n = true) : NetOk n := by
  unfold netB at h
  rw [Bool.and_eq_true, Bool.and_eq_true, Bool.and_eq_true, decide_eq_true_iff, decide_eq_true_iff, decide_eq_true_iff, List.all_eq_true] at h
  exact ⟨h.1.1, h.1.2, h.2.1, fun o ho => ordB_ok (h.2.2 o ho)⟩
def brkB (n : Net) (L : Spots) : Bool := (L.all fun p => decide (p.1 ≤ n.os.length) && decide (p.2 < n.k)) && decide (L.length ≤ 1)
theorem brkB_ok {n : Net} {L : Spots} (h : brkB n L = true) : BrkOk n L := by
  unfold brkB at h
  rw [Bool.and_eq_true, decide_eq_true_iff, List.all_eq_true] at h
  refine ⟨fun p hp => ?_, ?_, by omega⟩
  · have := h.1 p hp
    rw [Bool.and_eq_true, decide_eq_true_iff, decide_eq_true_iff] at this
    exact this
  · match L, h.2 with
    | [], _ => exact List.Pairwise.nil
    | [p], _ => exact List.pairwise_singleton _ _
def twoN : Net := ⟨2, [[0, 2, 1, 3]]⟩
def loneN : Net := ⟨1, []⟩
def idN : Net := ⟨2, [[0, 1, 2, 3]]⟩
def thinN : Net := ⟨2, [[0, 2, 1, 3], [0, 1, 2, 3]]⟩
def foldN (b : Nat) : Net := ⟨b, (plainN b).os ++ (mirN (plainN b)).os⟩
theorem two_ok : NetOk twoN := netB_ok (by decide +kernel)
theorem lone_ok : NetOk loneN := netB_ok (by decide +kernel)
theorem id_ok : NetOk idN := netB_ok (by decide +kernel)
theorem thin_ok : NetOk thinN := netB_ok (by decide +kernel)
theorem fold1_ok : NetOk (foldN 1) := netB_ok (by decide +kernel)
theorem fold2_ok : NetOk (foldN 2) := netB_ok (by decide +kernel)
theorem fold3_ok : NetOk (foldN 3) := netB_ok (by decide +kernel)
theorem four_ok : NetOk (plainN 4) := netB_ok (by decide +kernel)
def fourS : Spots := [(14, 8), (14, 9), (14, 10), (14, 11), (14, 12), (14, 13), (14, 14), (14, 15), (15, 8), (15, 9), (15, 10), (15, 11), (15, 12), (15, 13), (15, 14), (15, 15)]
theorem lost_two1 : lostW twoN [(0, 0)] = [(0, 0), (0, 1), (1, 0), (1, 1)] := by decide +kernel
theorem lost_two2 : lostW twoN [] = [] := by decide +kernel
theorem lost_two3 : lostW twoN [(1, 3)] = [(0, 3), (1, 3), (2, 3), (3, 3)] := by decide +kernel
theorem lost_four : lostW (plainN 4) [(0, 15)] = fourS := by decide +kernel
theorem left_fold : leftW (foldN 2) [(0, 0)] 0 0 = [[1, 2, 0]] := by decide +kernel
theorem last1 : lastD (foldN 1) = true := by decide +kernel
theorem last2 : lastD (foldN 2) = true := by decide +kernel
theorem last3 : lastD (foldN 3) = true := by decide +kernel
theorem last_two : lastD twoN = false := by decide +kernel
theorem last_thin : lastD thinN = false := by decide +kernel
theorem paper_all {n : Net} {b e : Nat} {ws : List Way} {p : Nat × Nat} {ps : Spots} (h : Wn n b e = ws) (h0 : ws ≠ []) (ht : twinsW ws = none) (hc : commonW ws = p :: ps) : paperD n b e = .tuple [.str "all", dI p.1, dI p.2] := by
  unfold paperD
  rw [h, if_neg h0, ht]
  dsimp only
  rw [hc]
theorem paper_two {n : Net} {b e : Nat} {ws : List Way} {w v : Way} (h : Wn n b e = ws) (h0 : ws ≠ []) (ht : twinsW ws = some (w, v)) : paperD n b e = .tuple [.str "two", dT w, dT v] := by
  unfold paperD
  rw [h, if_neg h0, ht]
theorem paper_none {n : Net} {b e : Nat} (h : Wn n b e = []) : paperD n b e = .tuple [.str "none"] := by
  unfold paperD
  rw [if_pos h]
theorem pap_two0 : paperD twoN 0 0 = .tuple [.str "all", dI 0, dI 0] := paper_all (ws := [[0, 0]]) (p := (0, 0)) (ps := []) (by decide +kernel) (by decide) (by decide +kernel) (by decide +kernel)
theorem pap_lone : paperD loneN 0 1 = .tuple [.str "two", dT [1], dT [1]] := paper_two (ws := [[1]]) (by decide +kernel) (by decide) (by decide +kernel)
theorem pap_id : paperD idN 0 3 = .tuple [.str "none"] := paper_none (by decide +kernel)
theorem pap_thin : paperD thinN 0 0 = .tuple [.str "all", dI 0, dI 0] := paper_all (ws := [[0, 0, 0], [0, 1, 0]]) (p := (0, 0)) (ps := []) (by decide +kernel) (by decide) (by decide +kernel) (by decide +kernel)
theorem chk_two0 : chkD twoN 0 0 (.tuple [.str "all", dI 0, dI 0]) = (true, ("all" : Str)) := by
  have h := paper_chk (n := twoN) (b := 0) (e := 0) two_ok (by decide)
  rw [pap_two0] at h
  rw [h]
  unfold wordS
  rw [show Wn twoN 0 0 = [[0, 0]] by decide +kernel, if_neg (by decide), if_neg (by decide +kernel)]
end Kd
namespace Kd
open PySem L2
open PyProof.Rows (envOfC)
section
variable {M : MS} {L : Own} {ds : DS} {tA : TA} {es : List PyData} {C : Addr} {pre : List PyData → Bool → Str → Prop} {wd : Str}
/-- a def that raises, called where it does not -/
theorem passE0 {X : Cx} : Passes (L2.CX X.prog X.w) X E0 := fun _ _ _ _ _ _ _ ⟨_, _, _, _, _, _, _, _, _, _, _, _, h⟩ => h.elim
theorem pe_callX0 {X : Cx} {x : Str} {k : Nat} {ps : List Str} {sp : Sp} {e : Expr} {es : List Expr} {t : TA} {p pos : Pos} (D : DefX X.prog X.w X.K X.mg X.base x k ps sp) (hg : X.A.guards = some []) (hr : Room k X.A) (hgl : Gl X x) (ha : PA X (e :: es) t) (hdb : (x == ("__debug__" : Str)) = false := by decide)
    (he : starEach (e :: es) X.env = (false, eval e X.env) :: starEach es X.env := by rfl) (hpl : (backTo pos (starEach es X.env)).any (·.1) = false := by rfl) : PE X (.Call (.Name x p) (e :: es) [] pos) (tCall sp [] E0 t) := pe_callX D hg hr hgl passE0 ha hdb he hpl
theorem ev_callX0 (h : EvA M L tA ds es) (hp : pre es true wd) : EvD M L (tCall (spX C pre) [] E0 tA) ds (.str wd) := fun f L' s σ G H w sl Q q =>
  h f L' s σ G H w sl _ fun vs G2 H2 e2 w2 d2 => ⟨M, f, L', G2, es, true, wd, w2, by rw [List.append_nil]; exact d2, hp, fun _ v G3 H3 e3 w3 d3 => q v G3 H3 (e2.trans e3) w3 d3, fun h => Bool.noConfusion h⟩
end
def hand1 : PyData := .list [dL [(0, 0), (0, 1), (1, 0), (1, 1)], dL [], dL [(0, 3), (1, 3), (2, 3), (3, 3)], .tuple [.str "all", dI 0, dI 0]]
def hand2 : PyData := .tuple [.str "two", dT [1], dT [1]]
def hand3 : PyData := .list [.bool true, .bool true, .bool true, .bool false, .tuple [dT [1, 2, 0]]]
def hand4 : PyData := .list [.tuple [.str "none"], .str "all", .bool false, .tuple [.str "all", dI 0, dI 0], dL fourS]
theorem sw_h1 : Sw 5000000 hand1 := ⟨by decide +kernel, by decide +kernel, by decide +kernel, by decide +kernel⟩
theorem sw_h2 : Sw 5000000 hand2 := ⟨by decide +kernel, by decide +kernel, by decide +kernel, by decide +kernel⟩
theorem sw_h3 : Sw 5000000 hand3 := ⟨by decide +kernel, by decide +kernel, by decide +kernel, by decide +kernel⟩
theorem sw_h4 : Sw 5000000 hand4 := ⟨by decide +kernel, by decide +kernel, by decide +kernel, by decide +kernel⟩
theorem in123 {b : Nat} (h : b ∈ [1, 2, 3]) : NetOk (foldN b) ∧ NetOk (plainN b) ∧ (1 ≤ b ∧ b ≤ 4) ∧ ((plainN b).os.map dT).length + ((mirN (plainN b)).os.map dT).length ≤ 100000 := by
  simp only [List.mem_cons, List.not_mem_nil, or_false] at h
  rcases h with rfl | rfl | rfl
  · exact ⟨fold1_ok, netB_ok (by decide +kernel), by decide, by decide +kernel⟩
  · exact ⟨fold2_ok, netB_ok (by decide +kernel), by decide, by decide +kernel⟩
  · exact ⟨fold3_ok, netB_ok (by decide +kernel), by decide, by decide +kernel⟩
section
variable {P : Program} {w : World} {K : PySem.W.Frag} {mg : Str → Option Value} {base : Heap} {f : Addr} {fd : FuncData} {CB : Addr}
def pre_handL : List PyData → PyData → Prop := fun ds r => ds = [] ∧ r = .bool true
abbrev s_hand_rightL : Stmt := top 75
abbrev N_hand_rightL : List Str := ["_law_two", "_law_lone", "_law_got", "_law_due", "_law_folded_here", "_law_thin", "_law_four", "_law_bits_so", "_law_net_here", "_law_far"]
abbrev ps_hand_rightL : List Str := []
theorem sc_hand_rightL : FnScope N_hand_rightL ps_hand_rightL (defScope s_hand_rightL) := ⟨rfl, rfl, rfl, by decide +kernel, rfl, by decide +kernel, by decide +kernel⟩

theorem ok_hand_rightL (F : FunAt K mg "_law_hand_right" s_hand_rightL ps_hand_rightL f fd) (B : Bt mg) (D_lost_pairs : DefOk P w K mg base "lost_pairs" 5 ps_lost_pairs (spD pre_lost_pairs)) (D_apart_paper : DefOk P w K mg base "apart_paper" 5 ps_apart_paper (spD pre_apart_paper)) (D_is_lasting : DefOk P w K mg base "is_lasting" 4 ps_is_lasting (spD pre_is_lasting))
    (D_plainL : DefOk P w K mg base "_law_plain" 2 ps_plainL (spD pre_plainL)) (D_mirroredL : DefOk P w K mg base "_law_mirrored" 2 ps_mirroredL (spD pre_mirroredL)) (D_check_apart : DefX P w K mg base "check_apart" 5 ps_check_apart (spX CB pre_check_apart)) (D_ways_left : DefOk P w K mg base "ways_left" 5 ps_ways_left (spD pre_ways_left)) (D_likeL : DefOk P w K mg base "_law_like" 1 ps_likeL (spD pre_likeL)) :
    DefOk P w K mg base "_law_hand_right" 6 ps_hand_rightL (spD pre_handL) := by
  refine DefOk.pure F sc_hand_rightL (fun ds r ⟨h, _⟩ => by rw [h]; rfl) fun cdv A outer s H E hg hr => ?_
  have nd := sc_hand_rightL.nd
  refine ⟨_, (pss_cons (ps_asg (pe_tupX (pa_cons (pe_tupX (pa_cons pe_int (pa_cons (pe_tupX (pa_cons (pe_tupX (pa_cons pe_int (pa_cons pe_int (pa_cons pe_int (pa_cons pe_int pa_nil))))) pa_nil)) pa_nil))) (pa_cons (pe_tupX (pa_cons pe_int (pa_cons (pe_tupX pa_nil) pa_nil))) pa_nil))) (kTup (n := 2) K rfl (pgs_cons (pg_name (i := 0) nd rfl (Or.inl rfl)) (pgs_cons (pg_name (i := 1) nd rfl (Or.inl rfl)) pgs_nil))))
    (pss_cons (ps_set (i := 2) nd rfl (Or.inl rfl) (pe_lst (pa_cons (pe_callD D_lost_pairs hg (hr.mono (by decide)) (by rfl) (pa_cons (pv 0) (pa_cons (pe_tupX (pa_cons (pe_tupX (pa_cons pe_int (pa_cons pe_int pa_nil))) pa_nil)) pa_nil))) (pa_cons (pe_callD D_lost_pairs hg (hr.mono (by decide)) (by rfl) (pa_cons (pv 0) (pa_cons (pe_tupX pa_nil) pa_nil))) (pa_cons (pe_callD D_lost_pairs hg (hr.mono (by decide)) (by rfl) (pa_cons (pv 0) (pa_cons (pe_tupX (pa_cons (pe_tupX (pa_cons pe_int (pa_cons pe_int pa_nil))) pa_nil)) pa_nil))) (pa_cons (pe_callD D_apart_paper hg (hr.mono (by decide)) (by rfl) (pa_cons (pv 0) (pa_cons pe_int (pa_cons pe_int pa_nil)))) pa_nil))))))
    (pss_cons (ps_set (i := 3) nd rfl (Or.inl rfl) (pe_lst (pa_cons (pe_tupX (pa_cons (pe_tupX (pa_cons pe_int (pa_cons pe_int pa_nil))) (pa_cons (pe_tupX (pa_cons pe_int (pa_cons pe_int pa_nil))) (pa_cons (pe_tupX (pa_cons pe_int (pa_cons pe_int pa_nil))) (pa_cons (pe_tupX (pa_cons pe_int (pa_cons pe_int pa_nil))) pa_nil))))) (pa_cons (pe_tupX pa_nil) (pa_cons (pe_tupX (pa_cons (pe_tupX (pa_cons pe_int (pa_cons pe_int pa_nil))) (pa_cons (pe_tupX (pa_cons pe_int (pa_cons pe_int pa_nil))) (pa_cons (pe_tupX (pa_cons pe_int (pa_cons pe_int pa_nil))) (pa_cons (pe_tupX (pa_cons pe_int (pa_cons pe_int pa_nil))) pa_nil))))) (pa_cons (pe_tupX (pa_cons pe_str (pa_cons pe_int (pa_cons pe_int pa_nil)))) pa_nil))))))
    (pss_cons (ps_if (PW.pt (pw_or (pt_not (pt_val (pe_callD D_likeL hg (hr.mono (by decide)) (by rfl) (pa_cons (pv 2) (pa_cons (pv 3) pa_nil))))) (pw_or1 (pt_not (pt_val (pe_callD D_likeL hg (hr.mono (by decide)) (by rfl) (pa_cons (pe_callD D_apart_paper hg (hr.mono (by decide)) (by rfl) (pa_cons (pv 1) (pa_cons pe_int (pa_cons pe_int pa_nil)))) (pa_cons (pe_tupX (pa_cons pe_str (pa_cons (pe_tupX (pa_cons pe_int pa_nil)) (pa_cons (pe_tupX (pa_cons pe_int pa_nil)) pa_nil)))) pa_nil)))))))) (pss_one (ps_ret pe_bl)) pss_nil)
    (pss_cons (ps_setLc (i := 4) (own := [("_law_bits_so", 7)]) rfl nd rfl rfl (sw_true rfl rfl rfl (by decide +kernel)) (kSeq K (pe_tupX (pa_cons pe_int (pa_cons pe_int (pa_cons pe_int pa_nil))))) (blkOk_by (own := [("_law_bits_so", 7)]) (N := N_hand_rightL) (sc := defScope s_hand_rightL) (by decide +kernel)) (fun _ _ _ _ _ => (pg_name (i := 7) nd rfl (Or.inl rfl))) (fun _ _ _ _ _ => pts_nil) (fun _ _ _ _ _ => (pe_tupX (pa_cons (pv 7) (pa_cons (pe_op (kAdd K) (pe_ix (kIx K) (pe_callD D_plainL hg (hr.mono (by decide)) (by rfl) (pa_cons (pv 7) pa_nil)) pe_int (fun _ _ => rfl)) (pe_ix (kIx K) (pe_callD D_mirroredL hg (hr.mono (by decide)) (by rfl) (pa_cons (pe_callD D_plainL hg (hr.mono (by decide)) (by rfl) (pa_cons (pv 7) pa_nil)) pa_nil)) pe_int (fun _ _ => rfl))) pa_nil)))))
    (pss_cons (ps_set (i := 2) nd rfl (Or.inl rfl) (pe_op (kAdd K) (pe_lc (own := [("_law_net_here", 8)]) rfl nd (kSeq K (pv 4)) (blkOk_by (own := [("_law_net_here", 8)]) (N := N_hand_rightL) (sc := defScope s_hand_rightL) (by decide +kernel)) (fun _ _ _ _ _ => (pg_name (i := 8) nd rfl (Or.inl rfl))) (fun _ _ _ _ _ => pts_nil) (fun _ _ _ _ _ => (pe_callD D_is_lasting hg (hr.mono (by decide)) (by rfl) (pa_cons (pv 8) pa_nil)))) (pe_lst (pa_cons (pe_callD D_is_lasting hg (hr.mono (by decide)) (by rfl) (pa_cons (pv 0) pa_nil)) (pa_cons (pe_callD D_ways_left hg (hr.mono (by decide)) (by rfl) (pa_cons (pe_ix (kIx K) (pv 4) pe_int (fun _ _ => rfl)) (pa_cons (pe_tupX (pa_cons (pe_tupX (pa_cons pe_int (pa_cons pe_int pa_nil))) pa_nil)) (pa_cons pe_int (pa_cons pe_int pa_nil))))) pa_nil)))))
    (pss_cons (ps_if (pt_not (pt_val (pe_callD D_likeL hg (hr.mono (by decide)) (by rfl) (pa_cons (pv 2) (pa_cons (pe_lst (pa_cons pe_bl (pa_cons pe_bl (pa_cons pe_bl (pa_cons pe_bl (pa_cons (pe_tupX (pa_cons (pe_tupX (pa_cons pe_int (pa_cons pe_int (pa_cons pe_int pa_nil)))) pa_nil)) pa_nil)))))) pa_nil))))) (pss_one (ps_ret pe_bl)) pss_nil)
    (pss_cons (ps_set (i := 2) nd rfl (Or.inl rfl) (pe_lst (pa_cons (pe_callD D_apart_paper hg (hr.mono (by decide)) (by rfl) (pa_cons (pe_tupX (pa_cons pe_int (pa_cons (pe_tupX (pa_cons (pe_tupX (pa_cons pe_int (pa_cons pe_int (pa_cons pe_int (pa_cons pe_int pa_nil))))) pa_nil)) pa_nil))) (pa_cons pe_int (pa_cons pe_int pa_nil)))) (pa_cons (pe_callX0 D_check_apart hg (hr.mono (by decide)) (by rfl) (pa_cons (pv 0) (pa_cons pe_int (pa_cons pe_int (pa_cons (pe_tupX (pa_cons pe_str (pa_cons pe_int (pa_cons pe_int pa_nil)))) pa_nil))))) pa_nil))))
    (pss_cons (ps_par (i := 5) (j := 6) rfl nd rfl rfl (by decide) rfl rfl (pa_cons (pe_tupX (pa_cons pe_int (pa_cons (pe_tupX (pa_cons (pe_tupX (pa_cons pe_int (pa_cons pe_int (pa_cons pe_int (pa_cons pe_int pa_nil))))) (pa_cons (pe_tupX (pa_cons pe_int (pa_cons pe_int (pa_cons pe_int (pa_cons pe_int pa_nil))))) pa_nil))) pa_nil))) (pa_cons (pe_callD D_plainL hg (hr.mono (by decide)) (by rfl) (pa_cons pe_int pa_nil)) pa_nil)) (by rfl))
    (pss_cons (ps_set (i := 2) nd rfl (Or.inl rfl) (pe_op (kAdd K) (pv 2) (pe_lst (pa_cons (pe_callD D_is_lasting hg (hr.mono (by decide)) (by rfl) (pa_cons (pv 5) pa_nil)) (pa_cons (pe_callD D_apart_paper hg (hr.mono (by decide)) (by rfl) (pa_cons (pv 5) (pa_cons pe_int (pa_cons pe_int pa_nil)))) (pa_cons (pe_callD D_lost_pairs hg (hr.mono (by decide)) (by rfl) (pa_cons (pv 6) (pa_cons (pe_tupX (pa_cons (pe_tupX (pa_cons pe_int (pa_cons pe_int pa_nil))) pa_nil)) pa_nil))) pa_nil))))))
    (pss_cons (ps_set (i := 3) nd rfl (Or.inl rfl) (pe_callTy (kTuple K) (by rfl) B.tuple (by decide +kernel) (pa_cons (pe_op (kAdd K) (pe_lc (own := [("_law_far", 9)]) rfl nd (pi_range2 (by rfl) B.range (pa_cons pe_int (pa_cons pe_int pa_nil))) (blkOk_by (own := [("_law_far", 9)]) (N := N_hand_rightL) (sc := defScope s_hand_rightL) (by decide +kernel)) (fun _ _ _ _ _ => (pg_name (i := 9) nd rfl (Or.inl rfl))) (fun _ _ _ _ _ => pts_nil) (fun _ _ _ _ _ => (pe_tupX (pa_cons pe_int (pa_cons (pv 9) pa_nil))))) (pe_lc (own := [("_law_far", 9)]) rfl nd (pi_range2 (by rfl) B.range (pa_cons pe_int (pa_cons pe_int pa_nil))) (blkOk_by (own := [("_law_far", 9)]) (N := N_hand_rightL) (sc := defScope s_hand_rightL) (by decide +kernel)) (fun _ _ _ _ _ => (pg_name (i := 9) nd rfl (Or.inl rfl))) (fun _ _ _ _ _ => pts_nil) (fun _ _ _ _ _ => (pe_tupX (pa_cons pe_int (pa_cons (pv 9) pa_nil)))))) pa_nil)))
    (pss_one (ps_ret (pe_callD D_likeL hg (hr.mono (by decide)) (by rfl) (pa_cons (pv 2) (pa_cons (pe_lst (pa_cons (pe_tupX (pa_cons pe_str pa_nil)) (pa_cons pe_str (pa_cons pe_bl (pa_cons (pe_tupX (pa_cons pe_str (pa_cons pe_int (pa_cons pe_int pa_nil)))) (pa_cons (pv 3) pa_nil)))))) pa_nil)))))))))))))))), ?_⟩
  rintro M fu L G0 D ds r ⟨rfl, rfl⟩ hR _
  have lik : ∀ {L : Own} {ds : DS} {ta tb : TE} {d : PyData}, Sw 5000000 d → EvD M L ta ds d → EvD M L tb ds d → EvD M L (tCall (spD pre_likeL) [] E0 (tCons ta (tCons tb tNil))) ds (.bool true) := fun sw h1 h2 => ev_is (ev_call (ea_two h1 h2) ⟨_, _, sw, sw, rfl, rfl⟩) (by simp)
  have pap : ∀ {L : Own} {ds : DS} {tA : TA} {n : Net} {b e : Nat}, NetOk n → b < n.k → e < n.k → EvA M L tA ds [dN n, dI b, dI e] → EvD M L (tCall (spD pre_apart_paper) [] E0 tA) ds (paperD n b e) := fun {L ds tA n b e} h hb he ha => ev_call ha ⟨n, b, e, h, hb, he, mg_ok n b e, rfl, rfl⟩
  have lst : ∀ {L : Own} {ds : DS} {tA : TA} {n : Net}, NetOk n → EvA M L tA ds [dN n] → EvD M L (tCall (spD pre_is_lasting) [] E0 tA) ds (.bool (lastD n)) := fun {L ds tA n} h ha => ev_call ha ⟨n, h, rfl, rfl⟩
  have los : ∀ {L : Own} {ds : DS} {tA : TA} {n : Net} (S : Spots), NetOk n → brkB n S = true → EvA M L tA ds [dN n, dL S] → EvD M L (tCall (spD pre_lost_pairs) [] E0 tA) ds (dL (lostW n S)) := fun {L ds tA n} S h hS ha => ev_call ha ⟨n, S, h, brkB_ok hS, rfl, rfl⟩
  have pln : ∀ {L : Own} {ds : DS} {tA : TA} {b : Nat}, 1 ≤ b ∧ b ≤ 4 → EvA M L tA ds [dI b] → EvD M L (tCall (spD pre_plainL) [] E0 tA) ds (dN (plainN b)) := fun {L ds tA b} h ha => ev_call ha ⟨b, h.1, h.2, rfl, rfl⟩
  refine q_asgP (x := dN twoN) (y := dN loneN) (by repeat' first | exact ev_int | exact ev_str | exact ev_bl | exact ea_nil | refine ev_tup ?_ | refine ev_lst ?_ | refine ea_cons ?_ ?_ | exact ev_var rfl) ?_
  refine q_asg (d := hand1) (ev_lst (ea_cons (ev_is (los [(0, 0)] two_ok (by decide +kernel) (ea_two (ev_var rfl) (by repeat' first | exact ev_int | exact ev_str | exact ev_bl | exact ea_nil | refine ev_tup ?_ | refine ev_lst ?_ | refine ea_cons ?_ ?_ | exact ev_var rfl))) (congrArg dL lost_two1)) (ea_three (ev_is (los [] two_ok (by decide +kernel) (ea_two (ev_var rfl) (by repeat' first | exact ev_int | exact ev_str | exact ev_bl | exact ea_nil | refine ev_tup ?_ | refine ev_lst ?_ | refine ea_cons ?_ ?_ | exact ev_var rfl))) (congrArg dL lost_two2)) (ev_is (los [(1, 3)] two_ok (by decide +kernel) (ea_two (ev_var rfl) (by repeat' first | exact ev_int | exact ev_str | exact ev_bl | exact ea_nil | refine ev_tup ?_ | refine ev_lst ?_ | refine ea_cons ?_ ?_ | exact ev_var rfl))) (congrArg dL lost_two3)) (ev_is (pap (b := 0) (e := 0) two_ok (by decide) (by decide) (ea_three (ev_var rfl) ev_int ev_int)) pap_two0)))) ?_
  refine q_asg (d := hand1) (by repeat' first | exact ev_int | exact ev_str | exact ev_bl | exact ea_nil | refine ev_tup ?_ | refine ev_lst ?_ | refine ea_cons ?_ ?_ | exact ev_var rfl) ?_
  refine q_skip ((eb_or (eb_not (eb_B (lik sw_h1 (ev_var rfl) (ev_var rfl)))) (fun _ => eb_not (eb_B (lik sw_h2 (ev_is (pap (b := 0) (e := 1) lone_ok (by decide) (by decide) (ea_three (ev_var rfl) ev_int ev_int)) pap_lone) (by repeat' first | exact ev_int | exact ev_str | exact ev_bl | exact ea_nil | refine ev_tup ?_ | refine ev_lst ?_ | refine ea_cons ?_ ?_ | exact ev_var rfl))))).is (by simp)) ?_
  refine q_asg (d := .list [dN (foldN 1), dN (foldN 2), dN (foldN 3)]) (ev_is (ev_lcAllM (bw := false) (js := [7]) (F := Fn 7) (enc := dI) (l := [1, 2, 3]) (fun b => dN (foldN b)) (ei_seqT (by repeat' first | exact ev_int | exact ev_str | exact ev_bl | exact ea_nil | refine ev_tup ?_ | refine ev_lst ?_ | refine ea_cons ?_ ?_ | exact ev_var rfl)) (by decide) (fun x hx => tg_name) (by decide) fun b hb => ?_) rfl) ?_
  · obtain ⟨_, h2, h3, h4⟩ := in123 hb
    refine ev_is (ev_tup (ea_two (ev_var rfl) (ev_addT (es := (plainN b).os.map dT) (gs := (mirN (plainN b)).os.map dT) (EvD.r (ev_ixT (es := [dI b, .tuple ((plainN b).os.map dT)]) (EvD.r (pln h3 (ea_one (ev_var rfl)))) ev_int.r rfl)) (EvD.r (ev_ixT (es := [dI b, .tuple ((mirN (plainN b)).os.map dT)]) (EvD.r (ev_call (ea_one (pln h3 (ea_one (ev_var rfl)))) ⟨plainN b, h2, rfl, rfl⟩)) ev_int.r rfl)) h4))) ?_
    rw [← List.map_append]
    rfl
  refine q_asg (d := hand3) (ev_is (ev_addL (es := [.bool true, .bool true, .bool true]) (gs := [.bool false, .tuple [dT [1, 2, 0]]]) (EvD.r (ev_is (ev_lcAllM (bw := false) (js := [8]) (F := Fn 8) (enc := fun b => dN (foldN b)) (l := [1, 2, 3]) (fun b => .bool (lastD (foldN b))) (ei_seqL (ev_var rfl)) (by decide) (fun x hx => tg_name) (by decide) fun b hb => lst (in123 hb).1 (ea_one (ev_var rfl))) ?_)) (EvD.r (ev_lst (ea_two (ev_is (lst two_ok (ea_one (ev_var rfl))) (congrArg PyData.bool last_two))
    (ev_is (ev_call (ea_cons (ev_ixL (z := dN (foldN 2)) (ev_var rfl).r ev_int.r rfl) (ea_three (by repeat' first | exact ev_int | exact ev_str | exact ev_bl | exact ea_nil | refine ev_tup ?_ | refine ev_lst ?_ | refine ea_cons ?_ ?_ | exact ev_var rfl) ev_int ev_int)) ⟨foldN 2, [(0, 0)], 0, 0, fold2_ok, brkB_ok (by decide +kernel), by decide +kernel, by decide +kernel, rfl, rfl⟩) ?_)))) (by decide)) rfl) ?_
  · show PyData.list [.bool (lastD (foldN 1)), .bool (lastD (foldN 2)), .bool (lastD (foldN 3))] = _
    rw [last1, last2, last3]
  · rw [left_fold]; rfl
  refine q_skip ((eb_not (eb_B (lik sw_h3 (ev_var rfl) (by repeat' first | exact ev_int | exact ev_str | exact ev_bl | exact ea_nil | refine ev_tup ?_ | refine ev_lst ?_ | refine ea_cons ?_ ?_ | exact ev_var rfl)))).is (by simp)) ?_
  refine q_asg (d := .list [.tuple [.str "none"], .str "all"]) (ev_lst (ea_two (ev_is (pap (n := idN) (b := 0) (e := 3) id_ok (by decide) (by decide) (ea_three (by repeat' first | exact ev_int | exact ev_str | exact ev_bl | exact ea_nil | refine ev_tup ?_ | refine ev_lst ?_ | refine ea_cons ?_ ?_ | exact ev_var rfl) ev_int ev_int)) pap_id) (ev_callX0 (wd := "all") (ea_cons (ev_var rfl) (ea_three ev_int ev_int (by repeat' first | exact ev_int | exact ev_str | exact ev_bl | exact ea_nil | refine ev_tup ?_ | refine ev_lst ?_ | refine ea_cons ?_ ?_ | exact ev_var rfl))) ⟨twoN, 0, 0, .tuple [.str "all", dI 0, dI 0], two_ok, by decide, by decide, ?_, rfl, chk_two0⟩))) ?_
  · exact ⟨by decide +kernel, by decide +kernel⟩
  refine q_par (x := dN thinN) (y := dN (plainN 4)) (ea_two (by repeat' first | exact ev_int | exact ev_str | exact ev_bl | exact ea_nil | refine ev_tup ?_ | refine ev_lst ?_ | refine ea_cons ?_ ?_ | exact ev_var rfl) (pln (by decide) (ea_one ev_int))) ?_
  refine q_asg (d := hand4) (ev_is (ev_addL (es := [.tuple [.str "none"], .str "all"]) (gs := [.bool false, .tuple [.str "all", dI 0, dI 0], dL fourS]) (ev_var rfl).r (EvD.r (ev_lst (ea_three (ev_is (lst thin_ok (ea_one (ev_var rfl))) (congrArg PyData.bool last_thin)) (ev_is (pap (n := thinN) (b := 0) (e := 0) thin_ok (by decide) (by decide) (ea_three (ev_var rfl) ev_int ev_int)) pap_thin) (ev_is (los [(0, 15)] four_ok (by decide +kernel) (ea_two (ev_var rfl) (by repeat' first | exact ev_int | exact ev_str | exact ev_bl | exact ea_nil | refine ev_tup ?_ | refine ev_lst ?_ | refine ea_cons ?_ ?_ | exact ev_var rfl))) (congrArg dL lost_four))))) (by decide)) rfl) ?_
  refine q_asg (d := dL fourS) (ev_is (ev_tupleL (EvD.r (ev_addL (EvD.r (ev_lcAll (bw := false) (js := [9]) (F := Fn 9) (fun x => .tuple [.int 14, x]) (ei_rng2 (a := 8) (n := 16) (ea_two ev_int ev_int) (by decide) (by decide)) (by decide) (fun x hx => tg_name) (by decide) fun x hx => ev_tup (ea_two ev_int (ev_var rfl)))) (EvD.r (ev_lcAll (bw := false) (js := [9]) (F := Fn 9) (fun x => .tuple [.int 15, x]) (ei_rng2 (a := 8) (n := 16) (ea_two ev_int ev_int) (by decide) (by decide)) (by decide) (fun x hx => tg_name) (by decide) fun x hx => ev_tup (ea_two ev_int (ev_var rfl)))) (by decide)))) (by rfl)) ?_
  exact go_ret (lik sw_h4 (ev_var rfl) (by repeat' first | exact ev_int | exact ev_str | exact ev_bl | exact ea_nil | refine ev_tup ?_ | refine ev_lst ?_ | refine ea_cons ?_ ?_ | exact ev_var rfl)) hR rfl
end
end Kd
namespace Kd
open PySem L2
open PyProof.Rows (envOfC)
section
variable {M : MS} {G0 : Hp} {D : Ends} {L : Own} {ds : DS} {te : TE} {tA : TA} {tt : TT} {t u : TS} {f f' : Nat} {K : PySem.W.Frag} {a : Addr} {ns : List Int} {i : Nat}
/-- a drawn test that fails -/
theorem go_skipN {P : Bool → Prop} (h : EvBN M L tt ds f f' P) (hp : ∀ b, P b → b = false) (k : Nx M G0 D f' L ds) : Go M G0 D (tIfS tt t tNext) f L ds := fun σ G H e w sl =>
  h L (Sub.refl L) σ G H w sl _ fun b G2 H2 e2 w2 p => by
    rw [hp b p, if_neg Bool.false_ne_true]
    exact k σ G2 H2 (e.trans e2) w2 (sl.mono e2)
theorem ebn_not {P R : Bool → Prop} (h : EvBN M L tt ds f f' P) (hp : ∀ b, P b → R (!b)) : EvBN M L (tNot tt) ds f f' R := fun L' s σ G H w sl Q q =>
  h L' s σ G H w sl _ fun b G2 H2 e2 w2 p => q (!b) G2 H2 e2 w2 (hp b p)
/-- len(script) -/
theorem ev_lenS (h : ds[i]? = some (some (scrSD K a ns))) : EvD M L (tCB (rLenG K) (tCons (tVar i) tNil)) ds (.int (ns.length : Nat)) := fun f L' s σ G H w sl Q q => by
  obtain ⟨v, h1, rfl, h2⟩ := sl.at_ i _ h
  exact ⟨_, h1, _, ns.length, rfl, .inl ⟨_, sqL_ex w.ex h2, (List.length_map _).symm⟩, q _ G H (Evl.Ex.refl G) w (.int _)⟩
theorem en_callR {m : MD} {Pt : Addr} {P : List PyData → Prop} {E : XK} (hm : ds[i]? = some (some (.raw (.ref m.d)))) (h : EvAN ⟨some m, [(Pt, qL)]⟩ L tA ds f (f' + 202) P) (hp : ∀ es, P es → in_net_right es) :
    EvN ⟨some m, [(Pt, qL)]⟩ L (tCall (spNR Pt) [] E (tCons (tVar i) tA)) ds f f' (fun r => r = .bool true) := fun L' s σ G H w sl Q q => by
  obtain ⟨u, h1, h2⟩ := sl.at_ i _ hm
  have e : u = .ref m.d := h2
  subst e
  refine ⟨_, h1, h L' s σ G H w sl _ fun vs es G2 H2 e2 w2 p2 d2 => ?_⟩
  exact ⟨m, _, f', L', G2, vs, es, by rw [List.append_nil], w2, d2, rfl, hp es p2, fun v r G3 H3 hr e3 w3 d3 => q v r G3 H3 (e2.trans e3) w3 hr d3⟩
end
theorem asgV_run {te : TE} {u : TS} {D : Ends} {σ : L2.St} {H : Hp} {i : Nat} (h : te σ H fun v H1 => u D (σ.set i (some v)) H1) : tSeq (tAsg te (gName i)) u D σ H := h
section
variable {P : Program} {w : World} {K : PySem.W.Frag} {mg : Str → Option Value} {base : Heap} {f Pt : Addr} {fd : FuncData}
def spLaw (K : PySem.W.Frag) (Pt : Addr) : Sp := fun vs H Q _ => ∃ f G a, ∃ ns : List Int, vs = [.ref a] ∧ W ⟨none, [(Pt, qL)]⟩ f [] G H ∧ SqL K G a (ns.map V.int) ∧ ns.length ≤ 63 ∧ ∀ H2, Q (.bl true) H2
abbrev s_law : Stmt := top 76
abbrev N_law : List Str := ["_law_script", "_law_m", "_law_turn"]
abbrev ps_law : List Str := ["_law_script"]
theorem sc_law : FnScope N_law ps_law (defScope s_law) := ⟨rfl, rfl, rfl, by decide +kernel, rfl, by decide +kernel, by decide +kernel⟩

theorem ok_law (F : FunAt K mg "law" s_law ps_law f fd) (B : Bt mg) (D_begunL : DefOk P w K mg base "_law_begun" 2 ps_begunL (spBegun K)) (D_netL : DefOk P w K mg base "_law_net" 6 ps_netL (spM 120 in_most out_netL)) (D_net_rightL : DefOk P w K mg base "_law_net_right" 10 ps_net_rightL (spNR Pt)) (D_hand_rightL : DefOk P w K mg base "_law_hand_right" 6 ps_hand_rightL (spD pre_handL)) :
    FnG P w K mg base CX0 11 f fd ps_law (spLaw K Pt) := by
  refine FnG.of F.fn sc_law (fun vs H Q E ⟨fu, G, a, ns, hv, _⟩ => by rw [hv]; rfl) fun cdv A outer s H vs Q E hg hr _ ⟨fu, G, a, ns, hv, hw, hs, hn, hq⟩ => ?_
  have nd := sc_law.nd
  refine ⟨_, PSs.nox ((pss_cons (ps_set (i := 1) nd rfl (Or.inl rfl) (pe_callD D_begunL hg (hr.mono (by decide)) (by rfl) (pa_cons (pv 0) pa_nil)))
    (pss_cons (ps_for PassesOwn.never rfl (pi_range1 (by rfl) B.range (pa_cons (pe_op (kAdd K) pe_int (pe_callB (call_min2 rfl) (by rfl) B.min (by decide +kernel) (pa_cons (pe_callB (kLen K) (by rfl) B.len (by decide +kernel) (pa_cons (pv 0) pa_nil)) (pa_cons pe_int pa_nil)))) pa_nil)) (pg_name (i := 2) nd rfl (Or.inl rfl)) (pss_one (ps_if (pt_not (pt_val (pe_callD D_net_rightL hg (hr.mono (by decide)) (by rfl) (pa_cons (pv 1) (pa_cons (pe_callD D_netL hg (hr.mono (by decide)) (by rfl) (pa_cons (pv 1) (pa_cons pe_int pa_nil))) pa_nil))))) (pss_one (ps_ret pe_bl)) pss_nil)))
    (pss_one (ps_ret (pe_callD0 D_hand_rightL hg (hr.mono (by decide)) (by rfl)))))) : PSs (cxOf CX0 P w K mg base N_law "law" (defScope s_law) f cdv A outer s H E).nox _ _), ?_⟩
  subst hv
  refine asgV_run ?_
  refine ⟨.ref a, rfl, [(Pt, qL)], fu, G, a, ns, rfl, hw, hs, hn, fun m G2 H2 e2 w2 => ?_⟩
  have run : ∀ u : TS, (∀ D : Ends, D.rt = Q → Go ⟨some m, [(Pt, qL)]⟩ G2 D u 1000000 [] [some (scrSD K a ns), some (.raw (.ref m.d)), none]) → u { nx := fun _ H' => Q .non H', rt := Q } [some (.ref a), some (.ref m.d), none] H2 := fun u go => go _ rfl _ G2 H2 (Evl.Ex.refl G2) w2 ⟨rfl, fun i sd h => by
    match i with
    | 0 => cases h; exact ⟨_, rfl, rfl, sqL_ex e2 hs⟩
    | 1 => cases h; exact ⟨_, rfl, rfl⟩
    | 2 => cases h
    | i + 3 => cases h⟩
  dsimp only
  refine run _ fun D hD => ?_
  have hR : RtOk ⟨some m, [(Pt, qL)]⟩ G2 D 0 [] (· = .bool true) := fun v d G3 H3 hd e w3 dv => by
    have hd' : d = .bool true := hd
    subst hd'
    cases dv
    rw [hD]
    exact hq H3
  obtain ⟨k, hk, hk6⟩ : ∃ k : Nat, (2 + (if (4 : Int) < ((ns.length : Nat) : Int) then 4 else ((ns.length : Nat) : Int)) : Int) = ((k : Nat) : Int) ∧ k ≤ 6 := ⟨2 + (if 4 < ns.length then 4 else ns.length), by split <;> split <;> omega, by split <;> omega⟩
  refine q_for (bw := false) (js := [2]) (F := Fn 2) (items := (List.range k).map dI) ?_ (fun x hx => tg_name)
    (fun i f1 L' ds => f1 = 1000000 - i * 322 ∧ L' = [] ∧ ∃ a2, ds = [some (scrSD K a ns), some (.raw (.ref m.d)), a2]) ⟨rfl, rfl, none, rfl⟩ ?_ ?_
  · rw [← rng0, ← hk]
    exact ei_rng1 (ea_one (ev_addI (i := 2) ev_int.r (EvD.r (ev_cb2 (EvD.r (ev_lenS rfl)) ev_int.r c2_min)))) (by rw [hk]; omega)
  · rintro G3 e3 i x f3 L3 ds3 hx ⟨rfl, rfl, a2, rfl⟩
    obtain ⟨hi, rfl⟩ := getRange hx
    obtain ⟨q, hq2⟩ : ∃ q, q = 1000000 - (i + 1) * 322 := ⟨_, rfl⟩
    have hfu : 1000000 - i * 322 = q + 202 + 120 := by omega
    rw [hfu]
    refine go_skipN (f' := q) (ebn_not (R := fun b => b = false) (ebn_B (R := fun b => b = true) (en_callR (f' := q) rfl (ean_cons (P1 := fun d => ∃ n, DrN 4 n ∧ d = dN n) (f1 := q + 202) (en_callM (P := fun l => l = [dI 3]) (f' := q + 202) rfl ((ea_one (ev_is ev_int rfl)).n (f := q + 202 + 120) (f' := q + 202 + 120) (P := fun l => l = [dI 3]) rfl) fun es he => ⟨he, fun r ⟨n, h1, h2⟩ => ⟨n, h1, h2⟩⟩) fun x _ => ean_nil (P := fun l => l = []) rfl) fun es ⟨x, es', ⟨n, h1, h2⟩, h3, h4⟩ => ⟨n, h1, by rw [h4, h3, h2]⟩) fun d hd => ⟨true, hd, rfl⟩) fun b hb => by rw [hb]; rfl) (fun b h => h) (nx_iv ⟨hq2, rfl, _, rfl⟩)
  · rintro f1 L1 ds1 ⟨rfl, rfl, a2, rfl⟩
    exact go_ret (ev_call ea_nil ⟨rfl, rfl⟩) (RtOk.less hR (Nat.zero_le _)) rfl
end
end Kd
namespace Kd
open PySem PySem.Spec PyProof.Rows L2 LamX
/-! ### the law's start: the script and one empty table -/
def startH (a Pt : Addr) (own : Bool) (u : HO) : Hp := fun b => if b = Pt then some (.tbl #[]) else if own = true ∧ b = a then some u else none
theorem startH_P {a Pt : Addr} {own : Bool} {u : HO} : startH a Pt own u Pt = some (.tbl #[]) := if_pos rfl
theorem startH_or {a Pt : Addr} {own : Bool} {u : HO} {b : Addr} (h : b ≠ Pt) : startH a Pt own u b = none ∨ own = true ∧ b = a ∧ startH a Pt own u b = some u := by
  have e : startH a Pt own u b = if own = true ∧ b = a then some u else none := if_neg h
  rw [e]
  by_cases q : own = true ∧ b = a
  · rw [if_pos q]; exact .inr ⟨q.1, q.2, rfl⟩
  · rw [if_neg q]; exact .inl rfl
theorem startH_a {a Pt : Addr} {u : HO} (h : a ≠ Pt) : startH a Pt true u a = some u := (if_neg h).trans (if_pos ⟨rfl, rfl⟩)
def tabO : Obj := { cls := .none, data := .fields #[] }
def seqO (vs : List Value) : Obj := { cls := .type "list", data := .seq vs.toArray }
theorem law_callG {Pr : Program} {w : World} {K : PySem.W.Frag} {mg mb : Str → Option Value} {k : Nat} {fa a c Pt : Addr} {fd : FuncData} {x : Str} {sp : Sp} {s : Shared} {vs : List Value} {ns : List Int}
    (KX : K.In s.heap) (Gm : s.heap.Ns mainGlobals mg) (Gb : s.heap.Ns builtinsNs mb) (Gbb : ∀ x : Str, x ≠ "__name__" → mb x = bootBuiltins x) (lim : s.heap.NoLimit) (gens0 : s.gens = #[])
    (tab : s.heap.get? Pt = some tabO) (tabK : K.lookup Pt = none) (C : PySem.W.CodeHd s.heap c Pt)
    (bmod : ∃ (bm : Addr) (ob : Obj), mg "__builtins__" = some (.ref bm) ∧ bm ≠ builtinsNs ∧ s.heap.get? bm = some ob ∧ ob.cls = .type "module" ∧ ob.dict = some builtinsNs ∧ ob.data = .plain)
    (scr : s.heap.get? a = some (seqO vs)) (its : IntsAre vs ns) (short : ns.length ≤ sizeLine) (room : Room k callerA)
    (F : ∀ base : Heap, K.In base → base.Ns mainGlobals mg → TabB base mg c Pt → FnG Pr w K mg base CX0 k fa fd [x] sp) (bind1 : ∀ (s : Shared) (u : Value), BindsTo s fd ⟨[u], []⟩ [(x, u)])
    (hsp : ∀ H : Hp, H Pt = some (.tbl #[]) → (∀ b ps, b ≠ Pt → H b ≠ some (.tbl ps)) → SqL K H a (ns.map V.int) → sp [.ref a] H (fun v _ => v = .bl true) fun _ _ _ => False) :
    codeAny (model Pr w) callerA (.call (.ref fa) ⟨[.ref a], []⟩) (fun r s' => r = .ok (.ret (.bool true)) ∧ OldK s.heap s'.heap ∧ s'.os = s.os ∧ AllBare s'.gens) s := by
  have rv := vals_ints its
  have nPa : a ≠ Pt := fun z => by
    rw [z, tab] at scr
    have := congrArg Obj.data (Option.some.inj scr)
    cases this
  obtain ⟨u, hu⟩ : ∃ u, u = HO.frz (seqO vs) (.lst (ns.map V.int)) := ⟨_, rfl⟩
  obtain ⟨own, hown⟩ : ∃ own : Bool, own = (K.lookup a).isNone := ⟨_, rfl⟩
  obtain ⟨H, hH⟩ : ∃ H, H = startH a Pt own u := ⟨_, rfl⟩
  have atP : H Pt = some (.tbl #[]) := by rw [hH]; exact startH_P
  have else_ : ∀ b, b ≠ Pt → H b = none ∨ own = true ∧ b = a ∧ H b = some u := fun b h => by rw [hH]; exact startH_or h
  have seqH : SqL K H a (ns.map V.int) := by
    cases e : K.lookup a with
    | some o =>
      have e2 := KX a o e
      rw [scr] at e2
      cases e2
      exact .inr ⟨_, vs.toArray, _, e, rfl, rfl, rfl, by rw [List.size_toArray, its.length]; exact short, by simpa using rv⟩
    | none =>
      refine .inl (.inr ⟨seqO vs, ?_⟩)
      rw [hH, hown, e, ← hu]
      exact startH_a nPa
  have hok : HOk Pr w H s.heap := fun b v e => by
    by_cases h : b = Pt
    · rw [h, atP] at e
      cases e
      rw [h]
      exact tab
    · rcases else_ b h with z | ⟨_, z1, z2⟩
      · rw [z] at e; cases e
      · rw [z2, hu] at e
        cases e
        rw [z1]
        exact ⟨scr, by rw [List.length_map]; exact short, vs, _, rv, scr⟩
  have free : ∀ {b : Addr} {o : Obj}, s.heap.get? b = some o → (∀ vs n, o.data ≠ .seq vs n) → o.data ≠ .fields #[] → H b = none := fun {b o} e h1 h2 => by
    by_cases h : b = Pt
    · rw [h, tab] at e
      cases e
      exact absurd rfl h2
    · rcases else_ b h with z | ⟨_, z1, _⟩
      · exact z
      · rw [z1, scr] at e
        cases e
        exact absurd rfl (h1 _ _)
  have base_of : ∀ {b : Addr} {o : Obj}, s.heap.get? b = some o → (∀ vs n, o.data ≠ .seq vs n) → o.data ≠ .fields #[] → (hidT s.heap H).get? b = some o := fun e h1 h2 => hidT_get e (free e h1 h2)
  have nsB : ∀ {b : Addr} {m : Str → Option Value}, s.heap.Ns b m → (hidT s.heap H).Ns b m := fun {b m} ⟨o, es, ep, e, d, r⟩ => ⟨o, es, ep, base_of e (fun vs n z => by rw [d] at z; cases z) (fun z => by rw [d] at z; cases z), d, r⟩
  have KB : K.In (hidT s.heap H) := fun b o e => hidT_get (KX b o e) (by
    by_cases h : b = Pt
    · rw [h, tabK] at e; cases e
    · rcases else_ b h with z | ⟨z1, z2, _⟩
      · exact z
      · rw [z2] at e
        rw [hown, e] at z1
        cases z1)
  have modB : L2.Mod K mg (hidT s.heap H) := ⟨KB, nsB Gm, ⟨mb, nsB Gb, Gbb⟩, let ⟨mc, h1, h2⟩ := lim; ⟨mc, nsB h1, h2⟩⟩
  have gP : mainGlobals ≠ Pt := fun z => by
    obtain ⟨o, es, ep, e, hd, _⟩ := Gm
    rw [z, tab] at e
    cases e
    cases hd
  have TB : TabB (hidT s.heap H) mg c Pt := by
    refine ⟨?_, ?_, gP⟩
    · obtain ⟨o, us, file, tf, flags, tg, inF, text, tt, e1, r1, r2, r3, rest⟩ := C
      refine ⟨o, us, file, tf, flags, tg, inF, text, tt, base_of e1 (fun vs n z => by rw [r2] at z; cases z) (fun z => ?_), r1, r2, r3, rest⟩
      rw [r2] at z
      cases z
      simp at r3
    · obtain ⟨bm, ob, b1, b2, b3, b4, b5, b6⟩ := bmod
      refine ⟨bm, ob, b1, b2, fun z => ?_, fun z => ?_, base_of b3 (fun vs n z => by rw [b6] at z; cases z) (fun z => by rw [b6] at z; cases z), b4, b5, b6⟩
      · obtain ⟨o, es, ep, e, hd, _⟩ := Gm
        rw [z, e] at b3
        cases b3
        rw [hd] at b6
        cases b6
      · rw [z, tab] at b3
        cases b3
        cases b6
  have env0 : Env0 Pr w K mg (hidT s.heap H) callerA [] s H := ⟨rfl, modB, fun b o e => of_hidT e, Nat.le_of_eq (hidT_size _ _), trivial, fun b hb => (nomatch hb), hok, .of_eq gens0⟩
  have noT : ∀ b ps, b ≠ Pt → H b ≠ some (.tbl ps) := fun b ps h z => by
    rcases else_ b h with e | ⟨_, _, e⟩
    · rw [e] at z; cases z
    · rw [e, hu] at z; cases z
  refine codeAny_mono ((F _ KB (nsB Gm) TB).run callerA [] s H [.ref a] [.ref a] (fun v _ => v = .bl true) (fun _ _ _ => False) rfl room env0 (bind1 s (.ref a)) (.cons rfl .nil) (hsp H atP noT seqH)) fun r s' h => ?_
  cases r with
  | error e => exact (show False from h).elim
  | ok fl =>
    cases fl with
    | next => exact False.elim h
    | brk => exact False.elim h
    | cont => exact False.elim h
    | ret v' =>
      obtain ⟨v, H', os, bare, un, hok', r', q⟩ := h
      have qv : v = .bl true := q
      subst qv
      obtain rfl : v' = Value.bool true := r'
      obtain ⟨more, hm⟩ := un.tbls Pt #[] atP
      have tab2 : s'.heap.get? Pt = some { cls := .none, data := .fields (#[] ++ more) } := hok' Pt _ hm
      rw [Array.empty_append] at tab2
      have same : ∀ b o, b ≠ Pt → s.heap.get? b = some o → s'.heap.get? b = some o := fun b o nb e => by
        rcases else_ b nb with z | ⟨_, z1, z2⟩
        · exact un.keep b o e z (by intro z; exact nomatch z) (by simp)
        · rw [hu] at z2
          obtain ⟨e1, _⟩ := hok b _ z2
          obtain ⟨e2, _⟩ := hok' b _ (un.frzs b _ _ z2)
          rw [e] at e1
          cases e1
          exact e2
      refine ⟨rfl, ⟨fun b o e => ?_, fun b o e => ?_⟩, os, bare⟩
      · by_cases h : b = Pt
        · rw [h, tab] at e
          cases e
          rw [h]
          exact .inr (.inl ⟨(C.tab tab).isCodeTable, rfl, #[], more, rfl, by rw [Array.empty_append]; exact tab2⟩)
        · exact .inl (same b o h e)
      · by_cases h : b = Pt
        · rw [h]
          exact ⟨_, tab2⟩
        · exact ⟨o, same b o h e⟩
/-- what is known of the law at the head's heap h -/
def LawG (l : PySem.W.OpenLaw) (w : World) (K : PySem.W.Frag) (k n : Nat) (x : Str) (mg : Str → Option Value) (fa : Addr) (h : Heap) : Prop :=
  ∃ (fd : FuncData) (c Pt : Addr) (sp : Sp), h.get? Pt = some tabO ∧ PySem.W.CodeHd h c Pt ∧ K.lookup Pt = none ∧ (∀ (s : Shared) (u : Value), BindsTo s fd ⟨[u], []⟩ [(x, u)]) ∧
    (∀ (H : Hp) (a : Addr) (ns : List Int), ns.length ≤ n → H Pt = some (.tbl #[]) → (∀ b ps, b ≠ Pt → H b ≠ some (.tbl ps)) → SqL K H a (ns.map V.int) → sp [.ref a] H (fun v _ => v = .bl true) fun _ _ _ => False) ∧
    ∀ base : Heap, K.In base → base.Ns mainGlobals mg → TabB base mg c Pt → FnG l.prog w K mg base CX0 k fa fd [x] sp
theorem walk_ofG {l : PySem.W.OpenLaw} {n k : Nat} {q : Program} {loose : List Str} {XP : (Str → Option Value) → Heap → Prop} {YP : World → Heap → Prop} {d : DefRec} {K : Params → PySem.W.Frag} {x : Str}
    (most : l.most = some n) (short : n ≤ sizeLine) (plain : d.params.defaults = []) (room : Room k callerA) (inK : ∀ (w : World) (h : Heap), YP w h → (K w.params).In h)
    (F : ∀ (w : World) (mg : Str → Option Value) (fa : Addr) (h : Heap), YP w h → (K w.params).In h → h.Ns mainGlobals mg → mg d.name = some (.ref fa) → LawG l w (K w.params) k n x mg fa h) :
    PySem.W.WalkO q loose XP YP l.row.toRowW d [] (fun f vs => PySem.call f vs) :=
  Att.attach_callB most plain fun w s₀ s₁ mg mb fa o pm cd doc a vs ns G Y _ _ _ at_ obj its len _ gens0 => by
    obtain ⟨fd, c, Pt, sp, tab, C, nT, hb, hsp, hF⟩ := F w mg fa _ Y (inK w _ Y) G.T.g at_
    exact law_callG (inK w _ Y) G.T.g G.T.b G.T.builtins G.T.nolimit gens0 tab nT C G.T.bmain obj its (Nat.le_trans len short) room hF hb fun H h1 h2 h3 => hsp H a ns len h1 h2 h3
theorem start_W {K : PySem.W.Frag} {H : Hp} {a Pt : Addr} {q : Str} {xs : List V} {f : Nat} (h1 : H Pt = some (.tbl #[])) (h2 : ∀ b ps, b ≠ Pt → H b ≠ some (.tbl ps)) (h3 : SqL K H a xs) : ∃ G, W ⟨none, [(Pt, q)]⟩ f [] G H ∧ SqL K G a xs := by
  have ne : ∀ {o : HO}, H a = some o → (∀ ps, o ≠ .tbl ps) → a ≠ Pt := fun {o} e n z => by
    rw [z, h1] at e
    exact n _ (Option.some.inj e).symm
  refine ⟨fun b => if b = Pt then none else H b, ⟨fun b u e => ?_, fun p ds hp => (nomatch hp), fun b hb => ?_, ?_, ⟨trivial, fun p hp => ?_⟩, fun b ps e => ?_⟩, ?_⟩
  · by_cases h : b = Pt
    · have e' : (if b = Pt then none else H b) = some u := e
      rw [if_pos h] at e'; cases e'
    · have e' : (if b = Pt then none else H b) = some u := e
      rw [if_neg h] at e'; exact e'
  · have hb' : b ∈ [Pt] := hb
    exact if_pos (List.mem_singleton.mp hb')
  · exact List.nodup_cons.mpr ⟨List.not_mem_nil, List.nodup_nil⟩
  · rw [List.mem_singleton.mp hp]
    exact TabS.nil h1
  · have e' : (if b = Pt then none else H b) = some (.tbl ps) := e
    by_cases h : b = Pt
    · rw [if_pos h] at e'; cases e'
    · rw [if_neg h] at e'
      exact h2 b ps h e'
  · rcases h3 with (h | ⟨o, h⟩) | h
    · exact .inl (.inl ((if_neg (ne h fun ps z => by cases z)).trans h))
    · exact .inl (.inr ⟨o, (if_neg (ne h fun ps z => by cases z)).trans h⟩)
    · exact .inr h
end Kd
namespace Kd
open PySem PySem.Spec PyProof.Rows L2 LamX
section
variable {K : PySem.W.Frag} {h : Heap} {mg : Str → Option Value} {x : Str} {st : Stmt} {ps : List Str}
/-- a def of the text, as the top has left it -/
def FnIn (K : PySem.W.Frag) (x : Str) (st : Stmt) : Prop := ∃ (f : Addr) (oc : Value) (od : Option Addr) (kV doc pm : Value) (an : Option Addr) (cdv ct : Value) (osl : Array (Option Value)), PySem.W.nsIn K mainGlobals x = some (some (.ref f)) ∧
  K.lookup f = some ⟨oc, od, .func (PySem.W.fnOf x x (defArgs st) (defBody st) (defScope st) .none kV doc pm an cdv ct), osl⟩ ∧ PySem.W.codeIn K cdv x = true ∧ PySem.W.keepIn K (.ref f) = true
theorem FnIn.mk {f : Addr} {oc : Value} {od : Option Addr} {kV doc pm : Value} {an : Option Addr} {cdv ct : Value} {osl : Array (Option Value)} (a : PySem.W.nsIn K mainGlobals x = some (some (.ref f)))
    (l : K.lookup f = some ⟨oc, od, .func (PySem.W.fnOf x x (defArgs st) (defBody st) (defScope st) .none kV doc pm an cdv ct), osl⟩) (c : PySem.W.codeIn K cdv x = true) (k : PySem.W.keepIn K (.ref f) = true) : FnIn K x st := ⟨f, oc, od, kV, doc, pm, an, cdv, ct, osl, a, l, c, k⟩
abbrev BindsSo (x : Str) (st : Stmt) (ps : List Str) : Prop := ∀ (kV doc pm : Value) (an : Option Addr) (cdv ct : Value) (us : List Value), us.length = ps.length → bindArgs (PySem.W.fnOf x x (defArgs st) (defBody st) (defScope st) .none kV doc pm an cdv ct) ⟨us, []⟩ = pure (ps.zip us)
theorem FnIn.at_ (i : FnIn K x st) (X : K.In h) (G : h.Ns mainGlobals mg) (b : BindsSo x st ps) : ∃ f fd, FunAt K mg x st ps f fd := by
  obtain ⟨f, oc, od, kV, doc, pm, an, cdv, ct, osl, a, l, c, k⟩ := i
  have F := fun_mk (st := st) l c k
  exact ⟨f, _, PySem.W.mg_of X G a, F, F.binds b⟩
/-- the same with its code object -/
def FnCode (K : PySem.W.Frag) (x : Str) (st : Stmt) (c : Addr) : Prop := ∃ (f : Addr) (oc : Value) (od : Option Addr) (kV doc pm : Value) (an : Option Addr) (ct : Value) (osl : Array (Option Value)), PySem.W.nsIn K mainGlobals x = some (some (.ref f)) ∧
  K.lookup f = some ⟨oc, od, .func (PySem.W.fnOf x x (defArgs st) (defBody st) (defScope st) .none kV doc pm an (.ref c) ct), osl⟩ ∧ PySem.W.codeIn K (.ref c) x = true ∧ PySem.W.keepIn K (.ref f) = true
theorem FnCode.mk {f c : Addr} {oc : Value} {od : Option Addr} {kV doc pm : Value} {an : Option Addr} {ct : Value} {osl : Array (Option Value)} (a : PySem.W.nsIn K mainGlobals x = some (some (.ref f)))
    (l : K.lookup f = some ⟨oc, od, .func (PySem.W.fnOf x x (defArgs st) (defBody st) (defScope st) .none kV doc pm an (.ref c) ct), osl⟩) (cd : PySem.W.codeIn K (.ref c) x = true) (k : PySem.W.keepIn K (.ref f) = true) : FnCode K x st c := ⟨f, oc, od, kV, doc, pm, an, ct, osl, a, l, cd, k⟩
theorem FnCode.at_ {c : Addr} (i : FnCode K x st c) (X : K.In h) (G : h.Ns mainGlobals mg) (b : BindsSo x st ps) : ∃ f fd, FunAt K mg x st ps f fd ∧ fd.code = .ref c := by
  obtain ⟨f, oc, od, kV, doc, pm, an, ct, osl, a, l, cd, k⟩ := i
  have F := fun_mk (st := st) l cd k
  exact ⟨f, _, ⟨PySem.W.mg_of X G a, F, F.binds b⟩, rfl⟩
theorem kit_true {C : Addr} : PySem.W.kitOne K (.ref C) (.ref C) = some true := if_pos (by simp)
theorem kit_false {C A : Addr} (hne : (Value.ref C == Value.ref A) = false) (h1 : PySem.W.isClsIn K A = true) (h2 : PySem.W.typeIn K (.ref A) = some (.type "type")) (h3 : PySem.W.subIn K (.ref C) (.ref A) = some false) : PySem.W.kitOne K (.ref C) (.ref A) = some false := by
  unfold PySem.W.kitOne
  rw [hne]
  show PySem.W.kitCls K (.ref C) (.ref A) = some false
  have h1' : (PySem.W.clsIn K A).isSome = true := h1
  show (if ((PySem.W.clsIn K A).isSome && PySem.W.typeIn K (.ref A) == some (.type "type")) = true then PySem.W.subIn K (.ref C) (.ref A) else none) = some false
  rw [h1', h2]
  exact (if_pos (by simp)).trans h3
/-- a class of errors, as the clause asks of it -/
theorem exm_of {C A : Addr} {b : Bool} (h0 : PySem.W.subIn K (.ref A) (.type "BaseException") = some true) (h1 : PySem.W.isClsIn K A = true) (h2 : PySem.W.typeIn K (.ref A) = some (.type "type")) (h3 : PySem.W.subIn K (.ref C) (.ref A) = some b) : PySem.W.exmOne K (.ref C) (.ref A) = some b := by
  unfold PySem.W.exmOne
  rw [h0]
  have h1' : (PySem.W.clsIn K A).isSome = true := h1
  refine (if_pos (by simp)).trans ?_
  show (if ((PySem.W.clsIn K A).isSome && PySem.W.typeIn K (.ref A) == some (.type "type")) = true then PySem.W.subIn K (.ref C) (.ref A) else none) = some b
  rw [h1', h2]
  exact (if_pos (by simp)).trans h3
theorem exm3 {C A1 A2 A3 : Addr} {b1 b2 b3 : Bool} (h1 : PySem.W.exmOne K (.ref C) (.ref A1) = some b1) (h2 : PySem.W.exmOne K (.ref C) (.ref A2) = some b2) (h3 : PySem.W.exmOne K (.ref C) (.ref A3) = some b3) : PySem.W.exmAny K (.ref C) [.ref A1, .ref A2, .ref A3] = some (b1 || (b2 || (b3 || false))) := by
  simp only [PySem.W.exmAny, h1, h2, h3]
/-- a class of errors in the text -/
def ErIn (K : PySem.W.Frag) (C : Addr) (x : Str) (b : Bool) : Prop := ∃ A : Addr, PySem.W.nsIn K mainGlobals x = some (some (.ref A)) ∧ PySem.W.kitOne K (.ref C) (.ref A) = some b
theorem ErIn.mk {C A : Addr} {b : Bool} (a : PySem.W.nsIn K mainGlobals x = some (some (.ref A))) (k : PySem.W.kitOne K (.ref C) (.ref A) = some b) : ErIn K C x b := ⟨A, a, k⟩
theorem ErIn.at_ {C : Addr} {b : Bool} (i : ErIn K C x b) (X : K.In h) (G : h.Ns mainGlobals mg) : ∃ A, mg x = some (.ref A) ∧ PySem.W.kitOne K (.ref C) (.ref A) = some b := let ⟨A, a, e⟩ := i; ⟨A, PySem.W.mg_of X G a, e⟩
theorem bp_mk {P : Program} {C fI N : Addr} {nm q : Str} {bs bm : List Value} {sn : List Str} {sub : List Value} {ab : Bool} {col : Option Bool} {dd : Option Addr} {k0 k1 k2 k3 k5 : Option Value} {oc : Value} {od : Option Addr} {doc pm : Value} {an : Option Addr} {cda cc : Addr} {ct : Value} {osl : Array (Option Value)} {ccl : Value} {cdd : Option Addr} {vs : Array Value} {ccs : Array (Option Value)} {file : Str} {tf : Tok} {cl : Value} {cld : Option Addr} {csl : Array (Option Value)}
    (X : K.In h) (G : h.Ns mainGlobals mg) (aC : PySem.W.nsIn K mainGlobals "BadPaper" = some (some (.ref C))) (xL : K.lookup C = some (excClassObj nm q C N bs bm true sn sub ab col dd k0 k1 k2 k3 k5 "ValueError.__new__")) (rf : PySem.HandSPX.refsVE bm = true)
    (sa : PySem.W.findIn K (.ref C) "__setattr__" = some (some (.builtin "object.__setattr__"))) (ga : PySem.W.findIn K (.ref C) "__getattribute__" = some (some (.builtin "BaseException.__getattribute__"))) (gg : PySem.W.findIn K (.ref C) "__getattr__" = some none) (nN : PySem.W.findIn K (.ref C) "word" = some none)
    (iC : PySem.W.findIn K (.ref C) "__init__" = some (some (.ref fI))) (tC : PySem.W.typeIn K (.ref fI) = some (.type "function")) (kC : PySem.W.keepIn K (.ref C) = true) (eC : PySem.W.subIn K (.ref C) (.type "BaseException") = some true) (vC : PySem.W.subIn K (.ref C) (.type "ValueError") = some true)
    (tyC : PySem.W.typeIn K (.ref C) = some (.type "type")) (hC : PySem.W.hasDictIn K C = true) (mC : PySem.W.mroIn K C (.ref C) = some true) (sup : PySem.W.ks_superIn K C C "__init__" = some (some (.builtin "ValueError.__init__"))) (opq : PySem.W.nsIn K cStatics "thirdparty.any" = some none)
    (nsu : PySem.W.nsIn K mainGlobals "super" = some none) (tsu : (P.main.scope.names.lookup ("super" : Str)).isSome = false) (l1 : K.lookup fI = some ⟨oc, od, .func (PySem.W.ksFn "__init__" "BadPaper.__init__" bpA bpB bpS .none .none doc pm an (.ref cda) ct cc), osl⟩) (c1 : PySem.W.codeIn K (.ref cda) "BadPaper.__init__" = true)
    (l2 : K.lookup cda = some ⟨ccl, cdd, .fields vs, ccs⟩) (v2 : vs[2]? = some (.str file tf)) (fl : ((P.main.file : Str) == file) = true) (l3 : K.lookup cc = some ⟨cl, cld, .cell (some (.ref C)), csl⟩) : BpTxt P K mg C fI :=
  ⟨PySem.W.mg_of X G aC, ⟨nm, q, N, bs, bm, sn, sub, ab, col, dd, k0, k1, k2, k3, k5, xL, rf⟩, sa, ga, gg, nN, iC, tC, kC, eC, vC, tyC, hC, mC, sup, opq, PySem.W.mg_none_of X G nsu, tsu, ⟨oc, od, doc, pm, an, cda, cc, ct, osl, ccl, cdd, vs, ccs, file, tf, cl, cld, csl, l1, c1, l2, v2, fl, l3⟩⟩
def ExcIn (K : PySem.W.Frag) (C : Addr) (x : Str) (A : Addr) (b : Bool) : Prop := PySem.W.nsIn K mainGlobals x = some (some (.ref A)) ∧ PySem.W.exmOne K (.ref C) (.ref A) = some b
end
theorem all_of {l : PySem.W.OpenLaw} {w : World} {K : PySem.W.Frag} {h : Heap} {mg : Str → Option Value} {fa CB fI cS cN cT c Pt : Addr} (X : K.In h) (G : h.Ns mainGlobals mg) (hfa : mg "law" = some (.ref fa))
    (B : Bt mg) (C : Cst mg) (T : BpTxt l.prog K mg CB fI) (EX : ErC K CB)
    (e_BadNet : ErIn K CB "BadNet" false) (e_BadWire : ErIn K CB "BadWire" false) (e_NotBanyan : ErIn K CB "NotBanyan" false) (e_BadDemands : ErIn K CB "BadDemands" false) (e_BadOrder : ErIn K CB "BadOrder" false) (e_BadSettings : ErIn K CB "BadSettings" false) (e_BadNumber : ErIn K CB "BadNumber" false) (e_BadPaper : ErIn K CB "BadPaper" true) (e_TooGreat : ErIn K CB "TooGreat" false)
    (x_S : ExcIn K CB "SwitchError" cS true) (x_N : ExcIn K CB "NotBanyan" cN false) (x_T : ExcIn K CB "TooGreat" cT false)
    (tab : h.get? Pt = some tabO) (h_net_rightL : FnCode K "_law_net_right" s_net_rightL c) (cH : PySem.W.codeHdIn K c Pt = true) (noK : K.lookup Pt = none) (h_law : FnIn K "law" s_law)
    (h_is_whole : FnIn K "is_whole" s_is_whole)
    (h_wires_of : FnIn K "wires_of" s_wires_of)
    (h_rows_of : FnIn K "rows_of" s_rows_of)
    (h_is_order : FnIn K "is_order" s_is_order)
    (h_need_net : FnIn K "need_net" s_need_net)
    (h_need_wire : FnIn K "need_wire" s_need_wire)
    (h_next_wires : FnIn K "next_wires" s_next_wires)
    (h_ways_of : FnIn K "ways_of" s_ways_of)
    (h_is_way_of : FnIn K "is_way_of" s_is_way_of)
    (h_is_spot : FnIn K "is_spot" s_is_spot)
    (h_do_rise : FnIn K "do_rise" s_do_rise)
    (h_need_broken : FnIn K "need_broken" s_need_broken)
    (h_left_of : FnIn K "left_of" s_left_of)
    (h_ways_left : FnIn K "ways_left" s_ways_left)
    (h_lost_pairs : FnIn K "lost_pairs" s_lost_pairs)
    (h_are_apart : FnIn K "are_apart" s_are_apart)
    (h_twins_of : FnIn K "twins_of" s_twins_of)
    (h_common_of : FnIn K "common_of" s_common_of)
    (h_apart_paper : FnIn K "apart_paper" s_apart_paper)
    (h_do_all_take : FnIn K "do_all_take" s_do_all_take)
    (h_is_lasting : FnIn K "is_lasting" s_is_lasting)
    (h_check_apart : FnIn K "check_apart" s_check_apart)
    (h_likeL : FnIn K "_law_like" s_likeL)
    (h_error_wordL : FnIn K "_law_error_word" s_error_wordL)
    (h_mixedL : FnIn K "_law_mixed" s_mixedL)
    (h_powerL : FnIn K "_law_power" s_powerL)
    (h_is_intL : FnIn K "_law_is_int" s_is_intL)
    (h_plainL : FnIn K "_law_plain" s_plainL)
    (h_all_waysL : FnIn K "_law_all_ways" s_all_waysL)
    (h_waysL : FnIn K "_law_ways" s_waysL)
    (h_leftL : FnIn K "_law_left" s_leftL)
    (h_apartL : FnIn K "_law_apart" s_apartL)
    (h_have_twoL : FnIn K "_law_have_two" s_have_twoL)
    (h_sharedL : FnIn K "_law_shared" s_sharedL)
    (h_due_wordL : FnIn K "_law_due_word" s_due_wordL)
    (h_backL : FnIn K "_law_back" s_backL)
    (h_mirroredL : FnIn K "_law_mirrored" s_mirroredL)
    (h_namedL : FnIn K "_law_named" s_namedL)
    (h_swappedL : FnIn K "_law_swapped" s_swappedL)
    (h_judgedL : FnIn K "_law_judged" s_judgedL)
    (h_drawL : FnIn K "_law_draw" s_drawL)
    (h_ofL : FnIn K "_law_of" s_ofL)
    (h_shuffledL : FnIn K "_law_shuffled" s_shuffledL)
    (h_flipsL : FnIn K "_law_flips" s_flipsL)
    (h_rowsL : FnIn K "_law_rows" s_rowsL)
    (h_bent_orderL : FnIn K "_law_bent_order" s_bent_orderL)
    (h_like_plainL : FnIn K "_law_like_plain" s_like_plainL)
    (h_netL : FnIn K "_law_net" s_netL)
    (h_brokenL : FnIn K "_law_broken" s_brokenL)
    (h_drawn_paperL : FnIn K "_law_drawn_paper" s_drawn_paperL)
    (h_foldedL : FnIn K "_law_folded" s_foldedL)
    (h_begunL : FnIn K "_law_begun" s_begunL)
    (h_hand_rightL : FnIn K "_law_hand_right" s_hand_rightL)
    (h_isL : FnIn K "_law_is" s_isL)
    (h_toldL : FnIn K "_law_told" s_toldL)
    : LawG l w K 11 63 "_law_script" mg fa h := by
  have R : Ers K mg CB := ⟨e_BadNet.at_ X G, e_BadWire.at_ X G, e_NotBanyan.at_ X G, e_BadDemands.at_ X G, e_BadOrder.at_ X G, e_BadSettings.at_ X G, e_BadNumber.at_ X G, e_BadPaper.at_ X G, e_TooGreat.at_ X G⟩
  have T3 : Cat K mg CB cS cN cT := ⟨PySem.W.mg_of X G x_S.1, PySem.W.mg_of X G x_N.1, PySem.W.mg_of X G x_T.1, exm3 x_S.2 x_N.2 x_T.2⟩
  obtain ⟨f_is_whole, fd_is_whole, F_is_whole⟩ := h_is_whole.at_ (ps := ps_is_whole) X G (fun _ _ _ _ _ _ us hl => match us, hl with | [_, _, _], _ => rfl)
  obtain ⟨f_wires_of, fd_wires_of, F_wires_of⟩ := h_wires_of.at_ (ps := ps_wires_of) X G (fun _ _ _ _ _ _ us hl => match us, hl with | [_], _ => rfl)
  obtain ⟨f_rows_of, fd_rows_of, F_rows_of⟩ := h_rows_of.at_ (ps := ps_rows_of) X G (fun _ _ _ _ _ _ us hl => match us, hl with | [_], _ => rfl)
  obtain ⟨f_is_order, fd_is_order, F_is_order⟩ := h_is_order.at_ (ps := ps_is_order) X G (fun _ _ _ _ _ _ us hl => match us, hl with | [_, _], _ => rfl)
  obtain ⟨f_need_net, fd_need_net, F_need_net⟩ := h_need_net.at_ (ps := ps_need_net) X G (fun _ _ _ _ _ _ us hl => match us, hl with | [_], _ => rfl)
  obtain ⟨f_need_wire, fd_need_wire, F_need_wire⟩ := h_need_wire.at_ (ps := ps_need_wire) X G (fun _ _ _ _ _ _ us hl => match us, hl with | [_, _], _ => rfl)
  obtain ⟨f_next_wires, fd_next_wires, F_next_wires⟩ := h_next_wires.at_ (ps := ps_next_wires) X G (fun _ _ _ _ _ _ us hl => match us, hl with | [_, _, _], _ => rfl)
  obtain ⟨f_ways_of, fd_ways_of, F_ways_of⟩ := h_ways_of.at_ (ps := ps_ways_of) X G (fun _ _ _ _ _ _ us hl => match us, hl with | [_, _, _], _ => rfl)
  obtain ⟨f_is_way_of, fd_is_way_of, F_is_way_of⟩ := h_is_way_of.at_ (ps := ps_is_way_of) X G (fun _ _ _ _ _ _ us hl => match us, hl with | [_, _, _, _], _ => rfl)
  obtain ⟨f_is_spot, fd_is_spot, F_is_spot⟩ := h_is_spot.at_ (ps := ps_is_spot) X G (fun _ _ _ _ _ _ us hl => match us, hl with | [_, _, _], _ => rfl)
  obtain ⟨f_do_rise, fd_do_rise, F_do_rise⟩ := h_do_rise.at_ (ps := ps_do_rise) X G (fun _ _ _ _ _ _ us hl => match us, hl with | [_], _ => rfl)
  obtain ⟨f_need_broken, fd_need_broken, F_need_broken⟩ := h_need_broken.at_ (ps := ps_need_broken) X G (fun _ _ _ _ _ _ us hl => match us, hl with | [_, _], _ => rfl)
  obtain ⟨f_left_of, fd_left_of, F_left_of⟩ := h_left_of.at_ (ps := ps_left_of) X G (fun _ _ _ _ _ _ us hl => match us, hl with | [_, _, _, _], _ => rfl)
  obtain ⟨f_ways_left, fd_ways_left, F_ways_left⟩ := h_ways_left.at_ (ps := ps_ways_left) X G (fun _ _ _ _ _ _ us hl => match us, hl with | [_, _, _, _], _ => rfl)
  obtain ⟨f_lost_pairs, fd_lost_pairs, F_lost_pairs⟩ := h_lost_pairs.at_ (ps := ps_lost_pairs) X G (fun _ _ _ _ _ _ us hl => match us, hl with | [_, _], _ => rfl)
  obtain ⟨f_are_apart, fd_are_apart, F_are_apart⟩ := h_are_apart.at_ (ps := ps_are_apart) X G (fun _ _ _ _ _ _ us hl => match us, hl with | [_, _], _ => rfl)
  obtain ⟨f_twins_of, fd_twins_of, F_twins_of⟩ := h_twins_of.at_ (ps := ps_twins_of) X G (fun _ _ _ _ _ _ us hl => match us, hl with | [_], _ => rfl)
  obtain ⟨f_common_of, fd_common_of, F_common_of⟩ := h_common_of.at_ (ps := ps_common_of) X G (fun _ _ _ _ _ _ us hl => match us, hl with | [_], _ => rfl)
  obtain ⟨f_apart_paper, fd_apart_paper, F_apart_paper⟩ := h_apart_paper.at_ (ps := ps_apart_paper) X G (fun _ _ _ _ _ _ us hl => match us, hl with | [_, _, _], _ => rfl)
  obtain ⟨f_do_all_take, fd_do_all_take, F_do_all_take⟩ := h_do_all_take.at_ (ps := ps_do_all_take) X G (fun _ _ _ _ _ _ us hl => match us, hl with | [_, _, _, _, _], _ => rfl)
  obtain ⟨f_is_lasting, fd_is_lasting, F_is_lasting⟩ := h_is_lasting.at_ (ps := ps_is_lasting) X G (fun _ _ _ _ _ _ us hl => match us, hl with | [_], _ => rfl)
  obtain ⟨f_check_apart, fd_check_apart, F_check_apart⟩ := h_check_apart.at_ (ps := ps_check_apart) X G (fun _ _ _ _ _ _ us hl => match us, hl with | [_, _, _, _], _ => rfl)
  obtain ⟨f_likeL, fd_likeL, F_likeL⟩ := h_likeL.at_ (ps := ps_likeL) X G (fun _ _ _ _ _ _ us hl => match us, hl with | [_, _], _ => rfl)
  obtain ⟨f_error_wordL, fd_error_wordL, F_error_wordL⟩ := h_error_wordL.at_ (ps := ps_error_wordL) X G (fun _ _ _ _ _ _ us hl => match us, hl with | [_], _ => rfl)
  obtain ⟨f_mixedL, fd_mixedL, F_mixedL⟩ := h_mixedL.at_ (ps := ps_mixedL) X G (fun _ _ _ _ _ _ us hl => match us, hl with | [_, _], _ => rfl)
  obtain ⟨f_powerL, fd_powerL, F_powerL⟩ := h_powerL.at_ (ps := ps_powerL) X G (fun _ _ _ _ _ _ us hl => match us, hl with | [_], _ => rfl)
  obtain ⟨f_is_intL, fd_is_intL, F_is_intL⟩ := h_is_intL.at_ (ps := ps_is_intL) X G (fun _ _ _ _ _ _ us hl => match us, hl with | [_, _, _], _ => rfl)
  obtain ⟨f_plainL, fd_plainL, F_plainL⟩ := h_plainL.at_ (ps := ps_plainL) X G (fun _ _ _ _ _ _ us hl => match us, hl with | [_], _ => rfl)
  obtain ⟨f_all_waysL, fd_all_waysL, F_all_waysL⟩ := h_all_waysL.at_ (ps := ps_all_waysL) X G (fun _ _ _ _ _ _ us hl => match us, hl with | [_, _], _ => rfl)
  obtain ⟨f_waysL, fd_waysL, F_waysL⟩ := h_waysL.at_ (ps := ps_waysL) X G (fun _ _ _ _ _ _ us hl => match us, hl with | [_, _, _], _ => rfl)
  obtain ⟨f_leftL, fd_leftL, F_leftL⟩ := h_leftL.at_ (ps := ps_leftL) X G (fun _ _ _ _ _ _ us hl => match us, hl with | [_, _, _, _], _ => rfl)
  obtain ⟨f_apartL, fd_apartL, F_apartL⟩ := h_apartL.at_ (ps := ps_apartL) X G (fun _ _ _ _ _ _ us hl => match us, hl with | [_, _], _ => rfl)
  obtain ⟨f_have_twoL, fd_have_twoL, F_have_twoL⟩ := h_have_twoL.at_ (ps := ps_have_twoL) X G (fun _ _ _ _ _ _ us hl => match us, hl with | [_], _ => rfl)
  obtain ⟨f_sharedL, fd_sharedL, F_sharedL⟩ := h_sharedL.at_ (ps := ps_sharedL) X G (fun _ _ _ _ _ _ us hl => match us, hl with | [_], _ => rfl)
  obtain ⟨f_due_wordL, fd_due_wordL, F_due_wordL⟩ := h_due_wordL.at_ (ps := ps_due_wordL) X G (fun _ _ _ _ _ _ us hl => match us, hl with | [_, _, _], _ => rfl)
  obtain ⟨f_backL, fd_backL, F_backL⟩ := h_backL.at_ (ps := ps_backL) X G (fun _ _ _ _ _ _ us hl => match us, hl with | [_], _ => rfl)
  obtain ⟨f_mirroredL, fd_mirroredL, F_mirroredL⟩ := h_mirroredL.at_ (ps := ps_mirroredL) X G (fun _ _ _ _ _ _ us hl => match us, hl with | [_], _ => rfl)
  obtain ⟨f_namedL, fd_namedL, F_namedL⟩ := h_namedL.at_ (ps := ps_namedL) X G (fun _ _ _ _ _ _ us hl => match us, hl with | [_, _], _ => rfl)
  obtain ⟨f_swappedL, fd_swappedL, F_swappedL⟩ := h_swappedL.at_ (ps := ps_swappedL) X G (fun _ _ _ _ _ _ us hl => match us, hl with | [_, _], _ => rfl)
  obtain ⟨f_judgedL, fd_judgedL, F_judgedL⟩ := h_judgedL.at_ (ps := ps_judgedL) X G (fun _ _ _ _ _ _ us hl => match us, hl with | [_, _, _, _], _ => rfl)
  obtain ⟨f_drawL, fd_drawL, F_drawL⟩ := h_drawL.at_ (ps := ps_drawL) X G (fun _ _ _ _ _ _ us hl => match us, hl with | [_, _], _ => rfl)
  obtain ⟨f_ofL, fd_ofL, F_ofL⟩ := h_ofL.at_ (ps := ps_ofL) X G (fun _ _ _ _ _ _ us hl => match us, hl with | [_, _], _ => rfl)
  obtain ⟨f_shuffledL, fd_shuffledL, F_shuffledL⟩ := h_shuffledL.at_ (ps := ps_shuffledL) X G (fun _ _ _ _ _ _ us hl => match us, hl with | [_, _], _ => rfl)
  obtain ⟨f_flipsL, fd_flipsL, F_flipsL⟩ := h_flipsL.at_ (ps := ps_flipsL) X G (fun _ _ _ _ _ _ us hl => match us, hl with | [_, _], _ => rfl)
  obtain ⟨f_rowsL, fd_rowsL, F_rowsL⟩ := h_rowsL.at_ (ps := ps_rowsL) X G (fun _ _ _ _ _ _ us hl => match us, hl with | [_, _], _ => rfl)
  obtain ⟨f_bent_orderL, fd_bent_orderL, F_bent_orderL⟩ := h_bent_orderL.at_ (ps := ps_bent_orderL) X G (fun _ _ _ _ _ _ us hl => match us, hl with | [_, _], _ => rfl)
  obtain ⟨f_like_plainL, fd_like_plainL, F_like_plainL⟩ := h_like_plainL.at_ (ps := ps_like_plainL) X G (fun _ _ _ _ _ _ us hl => match us, hl with | [_, _], _ => rfl)
  obtain ⟨f_netL, fd_netL, F_netL⟩ := h_netL.at_ (ps := ps_netL) X G (fun _ _ _ _ _ _ us hl => match us, hl with | [_, _], _ => rfl)
  obtain ⟨f_brokenL, fd_brokenL, F_brokenL⟩ := h_brokenL.at_ (ps := ps_brokenL) X G (fun _ _ _ _ _ _ us hl => match us, hl with | [_, _], _ => rfl)
  obtain ⟨f_drawn_paperL, fd_drawn_paperL, F_drawn_paperL⟩ := h_drawn_paperL.at_ (ps := ps_drawn_paperL) X G (fun _ _ _ _ _ _ us hl => match us, hl with | [_, _, _, _], _ => rfl)
  obtain ⟨f_foldedL, fd_foldedL, F_foldedL⟩ := h_foldedL.at_ (ps := ps_foldedL) X G (fun _ _ _ _ _ _ us hl => match us, hl with | [_], _ => rfl)
  obtain ⟨f_begunL, fd_begunL, F_begunL⟩ := h_begunL.at_ (ps := ps_begunL) X G (fun _ _ _ _ _ _ us hl => match us, hl with | [_], _ => rfl)
  obtain ⟨f_hand_rightL, fd_hand_rightL, F_hand_rightL⟩ := h_hand_rightL.at_ (ps := ps_hand_rightL) X G (fun _ _ _ _ _ _ us hl => match us, hl with | [], _ => rfl)
  obtain ⟨f_isL, fd_isL, F_isL⟩ := h_isL.at_ (ps := ps_isL) X G (fun _ _ _ _ _ _ us hl => match us, hl with | [_, _], _ => rfl)
  obtain ⟨f_toldL, fd_toldL, F_toldL⟩ := h_toldL.at_ (ps := ps_toldL) X G (fun _ _ _ _ _ _ us hl => match us, hl with | [_], _ => rfl)
  obtain ⟨f_net_rightL, fd_net_rightL, F_net_rightL, hcode⟩ := h_net_rightL.at_ (ps := ps_net_rightL) X G (fun _ _ _ _ _ _ us hl => match us, hl with | [_, _], _ => rfl)
  obtain ⟨f, oc, od, kV, doc, pm, an, cdv, ct, osl, la, ll, lc, lk⟩ := h_law
  have F_law : FunAt K mg "law" s_law ps_law f _ := ⟨PySem.W.mg_of X G la, fun_mk (st := s_law) ll lc lk, (fun_mk (st := s_law) ll lc lk).binds (fun _ _ _ _ _ _ us hl => match us, hl with | [_], _ => rfl)⟩
  have e := hfa.symm.trans (PySem.W.mg_of X G la)
  cases e
  refine ⟨PySem.W.fnOf "law" "law" (defArgs s_law) (defBody s_law) (defScope s_law) .none kV doc pm an cdv ct, c, Pt, spLaw K Pt, tab, PySem.W.codeHd_of_K X cH, noK, fun s u => .of_eq rfl, fun H a ns hl h1 h2 h3 => ?_, fun base KB NB TB => ?_⟩
  · obtain ⟨G2, hw, hs⟩ := start_W (q := qL) (f := 0) h1 h2 h3
    exact ⟨0, G2, a, ns, rfl, hw, hs, hl, fun _ => rfl⟩
  · have D_is_whole := ok_is_whole (P := l.prog) (w := w) (base := base) F_is_whole B C
    have D_wires_of := ok_wires_of (P := l.prog) (w := w) (base := base) F_wires_of B
    have D_rows_of := ok_rows_of (P := l.prog) (w := w) (base := base) F_rows_of B
    have D_is_order := ok_is_order (P := l.prog) (w := w) (base := base) F_is_order B D_is_whole
    have D_need_net := ok_need_net (P := l.prog) (w := w) (base := base) F_need_net B C D_is_whole D_wires_of D_is_order
    have D_need_wire := ok_need_wire (P := l.prog) (w := w) (base := base) F_need_wire B D_is_whole D_wires_of D_need_net
    have D_next_wires := ok_next_wires (P := l.prog) (w := w) (base := base) F_next_wires B
    have D_ways_of := ok_ways_of (P := l.prog) (w := w) (base := base) F_ways_of B D_next_wires
    have D_is_way_of := ok_is_way_of (P := l.prog) (w := w) (base := base) F_is_way_of B D_is_whole D_wires_of D_rows_of D_next_wires
    have D_is_spot := ok_is_spot (P := l.prog) (w := w) (base := base) F_is_spot B D_is_whole D_rows_of
    have D_do_rise := ok_do_rise (P := l.prog) (w := w) (base := base) F_do_rise B
    have D_need_broken := ok_need_broken (P := l.prog) (w := w) (base := base) F_need_broken B D_wires_of D_need_net D_is_spot D_do_rise
    have D_left_of := ok_left_of (P := l.prog) (w := w) (base := base) F_left_of B D_ways_of
    have D_ways_left := ok_ways_left (P := l.prog) (w := w) (base := base) F_ways_left B D_need_broken D_need_wire D_left_of
    have D_lost_pairs := ok_lost_pairs (P := l.prog) (w := w) (base := base) F_lost_pairs B D_need_broken D_wires_of D_ways_of D_left_of
    have D_are_apart := ok_are_apart (P := l.prog) (w := w) (base := base) F_are_apart B
    have D_twins_of := ok_twins_of (P := l.prog) (w := w) (base := base) F_twins_of B D_are_apart
    have D_common_of := ok_common_of (P := l.prog) (w := w) (base := base) F_common_of B
    have D_apart_paper := ok_apart_paper (P := l.prog) (w := w) (base := base) F_apart_paper B C D_need_wire D_ways_of D_twins_of D_common_of
    have D_do_all_take := ok_do_all_take (P := l.prog) (w := w) (base := base) F_do_all_take B D_is_spot D_wires_of D_ways_of D_common_of
    have D_is_lasting := ok_is_lasting (P := l.prog) (w := w) (base := base) F_is_lasting B D_wires_of D_need_net D_ways_of D_twins_of
    have D_check_apart := ok_check_apart (P := l.prog) (w := w) (base := base) F_check_apart B C T D_need_wire D_ways_of D_is_way_of D_are_apart D_do_all_take
    have D_likeL := ok_likeL (P := l.prog) (w := w) (base := base) F_likeL B
    have D_error_wordL := ok_error_wordL (P := l.prog) (w := w) (base := base) F_error_wordL B T EX R
    have D_mixedL := ok_mixedL (P := l.prog) (w := w) (base := base) F_mixedL B
    have D_powerL := ok_powerL (P := l.prog) (w := w) (base := base) F_powerL B
    have D_is_intL := ok_is_intL (P := l.prog) (w := w) (base := base) F_is_intL B
    have D_plainL := ok_plainL (P := l.prog) (w := w) (base := base) F_plainL B D_powerL
    have D_all_waysL := ok_all_waysL (P := l.prog) (w := w) (base := base) F_all_waysL B
    have D_waysL := ok_waysL (P := l.prog) (w := w) (base := base) F_waysL B D_all_waysL
    have D_leftL := ok_leftL (P := l.prog) (w := w) (base := base) F_leftL B D_waysL
    have D_apartL := ok_apartL (P := l.prog) (w := w) (base := base) F_apartL B
    have D_have_twoL := ok_have_twoL (P := l.prog) (w := w) (base := base) F_have_twoL B D_apartL
    have D_sharedL := ok_sharedL (P := l.prog) (w := w) (base := base) F_sharedL B
    have D_due_wordL := ok_due_wordL (P := l.prog) (w := w) (base := base) F_due_wordL B D_waysL D_have_twoL
    have D_backL := ok_backL (P := l.prog) (w := w) (base := base) F_backL B
    have D_mirroredL := ok_mirroredL (P := l.prog) (w := w) (base := base) F_mirroredL B D_backL
    have D_namedL := ok_namedL (P := l.prog) (w := w) (base := base) F_namedL B
    have D_swappedL := ok_swappedL (P := l.prog) (w := w) (base := base) F_swappedL B
    have D_judgedL := ok_judgedL (P := l.prog) (w := w) (base := base) F_judgedL B D_waysL D_apartL D_is_intL D_powerL D_sharedL
    have D_drawL := ok_drawL (P := l.prog) (w := w) (base := base) F_drawL B D_mixedL
    have D_ofL := ok_ofL (P := l.prog) (w := w) (base := base) F_ofL B D_drawL
    have D_shuffledL := ok_shuffledL (P := l.prog) (w := w) (base := base) F_shuffledL B D_drawL
    have D_flipsL := ok_flipsL (P := l.prog) (w := w) (base := base) F_flipsL B D_powerL D_drawL
    have D_rowsL := ok_rowsL (P := l.prog) (w := w) (base := base) F_rowsL B D_powerL D_shuffledL
    have D_bent_orderL := ok_bent_orderL (P := l.prog) (w := w) (base := base) F_bent_orderL B D_drawL
    have D_like_plainL := ok_like_plainL (P := l.prog) (w := w) (base := base) F_like_plainL B D_drawL D_swappedL D_flipsL D_namedL D_rowsL D_plainL
    have D_netL := ok_netL (P := l.prog) (w := w) (base := base) F_netL B D_plainL D_drawL D_shuffledL D_powerL D_mirroredL D_bent_orderL D_like_plainL
    have D_brokenL := ok_brokenL (P := l.prog) (w := w) (base := base) F_brokenL B D_drawL D_ofL D_powerL
    have D_drawn_paperL := ok_drawn_paperL (P := l.prog) (w := w) (base := base) F_drawn_paperL B D_ofL D_drawL D_all_waysL D_waysL
    have D_foldedL := ok_foldedL (P := l.prog) (w := w) (base := base) F_foldedL B
    have D_begunL := ok_begunL (P := l.prog) (w := w) (base := base) F_begunL B D_foldedL
    have D_net_rightL := ok_net_rightL (P := l.prog) (w := w) (base := base) F_net_rightL hcode TB B F_isL F_toldL T3 D_error_wordL D_likeL D_check_apart D_drawn_paperL D_judgedL D_apart_paper D_due_wordL D_ways_left D_leftL D_ofL D_is_lasting D_lost_pairs D_waysL D_powerL D_brokenL
    have D_hand_rightL := ok_hand_rightL (P := l.prog) (w := w) (base := base) F_hand_rightL B D_lost_pairs D_apart_paper D_is_lasting D_plainL D_mirroredL D_check_apart D_ways_left D_likeL
    exact ok_law F_law B D_begunL D_netL D_net_rightL D_hand_rightL
end Kd
set_option Elab.async false
open PySem PySem.W PyProof.Rows
set_option maxRecDepth 100000
set_option maxHeartbeats 0
theorem PySem.Challenge.cw_bitswitches_k43_whole_broken_wires_holds : PySem.Challenge.rw_bitswitches_k43_whole_broken_wires.Holds := by
  w_on; o_law; k_head; (case hw => w_witness2)
  k_fill
  refine Kd.walk_ofG (l := PySem.Challenge.rw_bitswitches_k43_whole_broken_wires) (n := 63) (k := 11) (x := "_law_script") rfl (by decide) rfl ⟨rfl, by decide, by decide⟩ (fun w h Y => PySem.W.km_in_of Y) ?F
  case F =>
    intro w mg fa h Y KX G hmg
    refine' Kd.all_of KX G hmg ?B ?C ?T ?EX ?e_BadNet ?e_BadWire ?e_NotBanyan ?e_BadDemands ?e_BadOrder ?e_BadSettings ?e_BadNumber ?e_BadPaper ?e_TooGreat ?x_S ?x_N ?x_T ?tab ?h_net_rightL ?cH ?noK ?h_law ?h_is_whole ?h_wires_of ?h_rows_of ?h_is_order ?h_need_net ?h_need_wire ?h_next_wires ?h_ways_of ?h_is_way_of ?h_is_spot ?h_do_rise ?h_need_broken ?h_left_of ?h_ways_left ?h_lost_pairs ?h_are_apart ?h_twins_of ?h_common_of ?h_apart_paper ?h_do_all_take ?h_is_lasting ?h_check_apart ?h_likeL ?h_error_wordL ?h_mixedL ?h_powerL ?h_is_intL ?h_plainL ?h_all_waysL ?h_waysL ?h_leftL ?h_apartL ?h_have_twoL ?h_sharedL ?h_due_wordL ?h_backL ?h_mirroredL ?h_namedL ?h_swappedL ?h_judgedL ?h_drawL ?h_ofL ?h_shuffledL ?h_flipsL ?h_rowsL ?h_bent_orderL ?h_like_plainL ?h_netL ?h_brokenL ?h_drawn_paperL ?h_foldedL ?h_begunL ?h_hand_rightL ?h_isL ?h_toldL
    (case B => exact ⟨PySem.W.mg_none_of KX G (by k_is), PySem.W.mg_none_of KX G (by k_is), PySem.W.mg_none_of KX G (by k_is), PySem.W.mg_none_of KX G (by k_is), PySem.W.mg_none_of KX G (by k_is), PySem.W.mg_none_of KX G (by k_is), PySem.W.mg_none_of KX G (by k_is), PySem.W.mg_none_of KX G (by k_is), PySem.W.mg_none_of KX G (by k_is), PySem.W.mg_none_of KX G (by k_is), PySem.W.mg_none_of KX G (by k_is), PySem.W.mg_none_of KX G (by k_is), PySem.W.mg_none_of KX G (by k_is), PySem.W.mg_none_of KX G (by k_is), PySem.W.mg_none_of KX G (by k_is), PySem.W.mg_none_of KX G (by k_is)⟩)
    (case C => exact ⟨⟨_, PySem.W.mg_of KX G (by k_is)⟩, ⟨_, PySem.W.mg_of KX G (by k_is)⟩, ⟨_, PySem.W.mg_of KX G (by k_is)⟩, ⟨_, PySem.W.mg_of KX G (by k_is)⟩, ⟨_, PySem.W.mg_of KX G (by k_is)⟩⟩)
    (case T =>
      refine' Kd.bp_mk KX G ?aC ?xL ?rf ?sa ?ga ?gg ?nN ?iC ?tC ?kC ?eC ?vC ?tyC ?hC ?mC ?sup ?opq ?nsu ?tsu ?l1 ?c1 ?l2 ?v2 ?fl ?l3
      (case aC => k_is)
      (case xL => k_is)
      (case rf => decide +kernel)
      (case sa => k_is)
      (case ga => k_is)
      (case gg => k_is)
      (case nN => k_is)
      (case iC => k_is)
      (case tC => k_is)
      (case kC => k_is)
      (case eC => k_is)
      (case vC => k_is)
      (case tyC => k_is)
      (case hC => k_is)
      (case mC => k_is)
      (case sup => ks_is)
      (case opq => k_is)
      (case nsu => k_is)
      (case tsu => first | rfl | decide +kernel)
      (case l1 => k_is)
      (case c1 => k_is)
      (case l2 => k_is)
      (case v2 => rfl)
      (case fl => first | rfl | decide +kernel)
      (case l3 => k_is))
    (case EX =>
      refine' ⟨?cl, ?ga, ?gg, ?sb, ?ca, ?sp, ?tk, ?mo⟩
      (case cl => (show PySem.W.isClsIn _ _ = true; k_is))
      (case ga => k_is)
      (case gg => k_is)
      (case sb => k_is)
      (case ca => k_is)
      (case sp => k_is)
      (case tk => k_is)
      (case mo => k_is))
    (case e_BadNet => (refine' Kd.ErIn.mk ?a (Kd.kit_false ?n ?s ?t ?u); (case a => k_is); (case n => rfl); (case s => k_is); (case t => k_is); (case u => k_is)))
    (case e_BadWire => (refine' Kd.ErIn.mk ?a (Kd.kit_false ?n ?s ?t ?u); (case a => k_is); (case n => rfl); (case s => k_is); (case t => k_is); (case u => k_is)))
    (case e_NotBanyan => (refine' Kd.ErIn.mk ?a (Kd.kit_false ?n ?s ?t ?u); (case a => k_is); (case n => rfl); (case s => k_is); (case t => k_is); (case u => k_is)))
    (case e_BadDemands => (refine' Kd.ErIn.mk ?a (Kd.kit_false ?n ?s ?t ?u); (case a => k_is); (case n => rfl); (case s => k_is); (case t => k_is); (case u => k_is)))
    (case e_BadOrder => (refine' Kd.ErIn.mk ?a (Kd.kit_false ?n ?s ?t ?u); (case a => k_is); (case n => rfl); (case s => k_is); (case t => k_is); (case u => k_is)))
    (case e_BadSettings => (refine' Kd.ErIn.mk ?a (Kd.kit_false ?n ?s ?t ?u); (case a => k_is); (case n => rfl); (case s => k_is); (case t => k_is); (case u => k_is)))
    (case e_BadNumber => (refine' Kd.ErIn.mk ?a (Kd.kit_false ?n ?s ?t ?u); (case a => k_is); (case n => rfl); (case s => k_is); (case t => k_is); (case u => k_is)))
    (case e_BadPaper => (refine' Kd.ErIn.mk ?a Kd.kit_true; (case a => k_is)))
    (case e_TooGreat => (refine' Kd.ErIn.mk ?a (Kd.kit_false ?n ?s ?t ?u); (case a => k_is); (case n => rfl); (case s => k_is); (case t => k_is); (case u => k_is)))
    (case x_S => (refine' ⟨?a, Kd.exm_of ?n ?s ?t ?u⟩; (case a => k_is); (case n => k_is); (case s => k_is); (case t => k_is); (case u => k_is)))
    (case x_N => (refine' ⟨?a, Kd.exm_of ?n ?s ?t ?u⟩; (case a => k_is); (case n => k_is); (case s => k_is); (case t => k_is); (case u => k_is)))
    (case x_T => (refine' ⟨?a, Kd.exm_of ?n ?s ?t ?u⟩; (case a => k_is); (case n => k_is); (case s => k_is); (case t => k_is); (case u => k_is)))
    (case tab => exact PySem.W.km_tabs_of Y _ List.mem_cons_self)
    (case h_net_rightL => (refine' Kd.FnCode.mk ?a ?l ?c ?k; (case a => k_is); (case l => k_is); (case c => k_is); (case k => k_is)))
    (case cH => kernel_rfl)
    (case noK => kernel_rfl)
    (case h_law => (refine' Kd.FnIn.mk ?a ?l ?c ?k; (case a => k_is); (case l => k_is); (case c => k_is); (case k => k_is)))
    (case h_is_whole => (refine' Kd.FnIn.mk ?a ?l ?c ?k; (case a => k_is); (case l => k_is); (case c => k_is); (case k => k_is)))
    (case h_wires_of => (refine' Kd.FnIn.mk ?a ?l ?c ?k; (case a => k_is); (case l => k_is); (case c => k_is); (case k => k_is)))
    (case h_rows_of => (refine' Kd.FnIn.mk ?a ?l ?c ?k; (case a => k_is); (case l => k_is); (case c => k_is); (case k => k_is)))
    (case h_is_order => (refine' Kd.FnIn.mk ?a ?l ?c ?k; (case a => k_is); (case l => k_is); (case c => k_is); (case k => k_is)))
    (case h_need_net => (refine' Kd.FnIn.mk ?a ?l ?c ?k; (case a => k_is); (case l => k_is); (case c => k_is); (case k => k_is)))
    (case h_need_wire => (refine' Kd.FnIn.mk ?a ?l ?c ?k; (case a => k_is); (case l => k_is); (case c => k_is); (case k => k_is)))
    (case h_next_wires => (refine' Kd.FnIn.mk ?a ?l ?c ?k; (case a => k_is); (case l => k_is); (case c => k_is); (case k => k_is)))
    (case h_ways_of => (refine' Kd.FnIn.mk ?a ?l ?c ?k; (case a => k_is); (case l => k_is); (case c => k_is); (case k => k_is)))
    (case h_is_way_of => (refine' Kd.FnIn.mk ?a ?l ?c ?k; (case a => k_is); (case l => k_is); (case c => k_is); (case k => k_is)))
    (case h_is_spot => (refine' Kd.FnIn.mk ?a ?l ?c ?k; (case a => k_is); (case l => k_is); (case c => k_is); (case k => k_is)))
    (case h_do_rise => (refine' Kd.FnIn.mk ?a ?l ?c ?k; (case a => k_is); (case l => k_is); (case c => k_is); (case k => k_is)))
    (case h_need_broken => (refine' Kd.FnIn.mk ?a ?l ?c ?k; (case a => k_is); (case l => k_is); (case c => k_is); (case k => k_is)))
    (case h_left_of => (refine' Kd.FnIn.mk ?a ?l ?c ?k; (case a => k_is); (case l => k_is); (case c => k_is); (case k => k_is)))
    (case h_ways_left => (refine' Kd.FnIn.mk ?a ?l ?c ?k; (case a => k_is); (case l => k_is); (case c => k_is); (case k => k_is)))
    (case h_lost_pairs => (refine' Kd.FnIn.mk ?a ?l ?c ?k; (case a => k_is); (case l => k_is); (case c => k_is); (case k => k_is)))
    (case h_are_apart => (refine' Kd.FnIn.mk ?a ?l ?c ?k; (case a => k_is); (case l => k_is); (case c => k_is); (case k => k_is)))
    (case h_twins_of => (refine' Kd.FnIn.mk ?a ?l ?c ?k; (case a => k_is); (case l => k_is); (case c => k_is); (case k => k_is)))
    (case h_common_of => (refine' Kd.FnIn.mk ?a ?l ?c ?k; (case a => k_is); (case l => k_is); (case c => k_is); (case k => k_is)))
    (case h_apart_paper => (refine' Kd.FnIn.mk ?a ?l ?c ?k; (case a => k_is); (case l => k_is); (case c => k_is); (case k => k_is)))
    (case h_do_all_take => (refine' Kd.FnIn.mk ?a ?l ?c ?k; (case a => k_is); (case l => k_is); (case c => k_is); (case k => k_is)))
    (case h_is_lasting => (refine' Kd.FnIn.mk ?a ?l ?c ?k; (case a => k_is); (case l => k_is); (case c => k_is); (case k => k_is)))
    (case h_check_apart => (refine' Kd.FnIn.mk ?a ?l ?c ?k; (case a => k_is); (case l => k_is); (case c => k_is); (case k => k_is)))
    (case h_likeL => (refine' Kd.FnIn.mk ?a ?l ?c ?k; (case a => k_is); (case l => k_is); (case c => k_is); (case k => k_is)))
    (case h_error_wordL => (refine' Kd.FnIn.mk ?a ?l ?c ?k; (case a => k_is); (case l => k_is); (case c => k_is); (case k => k_is)))
    (case h_mixedL => (refine' Kd.FnIn.mk ?a ?l ?c ?k; (case a => k_is); (case l => k_is); (case c => k_is); (case k => k_is)))
    (case h_powerL => (refine' Kd.FnIn.mk ?a ?l ?c ?k; (case a => k_is); (case l => k_is); (case c => k_is); (case k => k_is)))
    (case h_is_intL => (refine' Kd.FnIn.mk ?a ?l ?c ?k; (case a => k_is); (case l => k_is); (case c => k_is); (case k => k_is)))
    (case h_plainL => (refine' Kd.FnIn.mk ?a ?l ?c ?k; (case a => k_is); (case l => k_is); (case c => k_is); (case k => k_is)))
    (case h_all_waysL => (refine' Kd.FnIn.mk ?a ?l ?c ?k; (case a => k_is); (case l => k_is); (case c => k_is); (case k => k_is)))
    (case h_waysL => (refine' Kd.FnIn.mk ?a ?l ?c ?k; (case a => k_is); (case l => k_is); (case c => k_is); (case k => k_is)))
    (case h_leftL => (refine' Kd.FnIn.mk ?a ?l ?c ?k; (case a => k_is); (case l => k_is); (case c => k_is); (case k => k_is)))
    (case h_apartL => (refine' Kd.FnIn.mk ?a ?l ?c ?k; (case a => k_is); (case l => k_is); (case c => k_is); (case k => k_is)))
    (case h_have_twoL => (refine' Kd.FnIn.mk ?a ?l ?c ?k; (case a => k_is); (case l => k_is); (case c => k_is); (case k => k_is)))
    (case h_sharedL => (refine' Kd.FnIn.mk ?a ?l ?c ?k; (case a => k_is); (case l => k_is); (case c => k_is); (case k => k_is)))
    (case h_due_wordL => (refine' Kd.FnIn.mk ?a ?l ?c ?k; (case a => k_is); (case l => k_is); (case c => k_is); (case k => k_is)))
    (case h_backL => (refine' Kd.FnIn.mk ?a ?l ?c ?k; (case a => k_is); (case l => k_is); (case c => k_is); (case k => k_is)))
    (case h_mirroredL => (refine' Kd.FnIn.mk ?a ?l ?c ?k; (case a => k_is); (case l => k_is); (case c => k_is); (case k => k_is)))
    (case h_namedL => (refine' Kd.FnIn.mk ?a ?l ?c ?k; (case a => k_is); (case l => k_is); (case c => k_is); (case k => k_is)))
    (case h_swappedL => (refine' Kd.FnIn.mk ?a ?l ?c ?k; (case a => k_is); (case l => k_is); (case c => k_is); (case k => k_is)))
    (case h_judgedL => (refine' Kd.FnIn.mk ?a ?l ?c ?k; (case a => k_is); (case l => k_is); (case c => k_is); (case k => k_is)))
    (case h_drawL => (refine' Kd.FnIn.mk ?a ?l ?c ?k; (case a => k_is); (case l => k_is); (case c => k_is); (case k => k_is)))
    (case h_ofL => (refine' Kd.FnIn.mk ?a ?l ?c ?k; (case a => k_is); (case l => k_is); (case c => k_is); (case k => k_is)))
    (case h_shuffledL => (refine' Kd.FnIn.mk ?a ?l ?c ?k; (case a => k_is); (case l => k_is); (case c => k_is); (case k => k_is)))
    (case h_flipsL => (refine' Kd.FnIn.mk ?a ?l ?c ?k; (case a => k_is); (case l => k_is); (case c => k_is); (case k => k_is)))
    (case h_rowsL => (refine' Kd.FnIn.mk ?a ?l ?c ?k; (case a => k_is); (case l => k_is); (case c => k_is); (case k => k_is)))
    (case h_bent_orderL => (refine' Kd.FnIn.mk ?a ?l ?c ?k; (case a => k_is); (case l => k_is); (case c => k_is); (case k => k_is)))
    (case h_like_plainL => (refine' Kd.FnIn.mk ?a ?l ?c ?k; (case a => k_is); (case l => k_is); (case c => k_is); (case k => k_is)))
    (case h_netL => (refine' Kd.FnIn.mk ?a ?l ?c ?k; (case a => k_is); (case l => k_is); (case c => k_is); (case k => k_is)))
    (case h_brokenL => (refine' Kd.FnIn.mk ?a ?l ?c ?k; (case a => k_is); (case l => k_is); (case c => k_is); (case k => k_is)))
    (case h_drawn_paperL => (refine' Kd.FnIn.mk ?a ?l ?c ?k; (case a => k_is); (case l => k_is); (case c => k_is); (case k => k_is)))
    (case h_foldedL => (refine' Kd.FnIn.mk ?a ?l ?c ?k; (case a => k_is); (case l => k_is); (case c => k_is); (case k => k_is)))
    (case h_begunL => (refine' Kd.FnIn.mk ?a ?l ?c ?k; (case a => k_is); (case l => k_is); (case c => k_is); (case k => k_is)))
    (case h_hand_rightL => (refine' Kd.FnIn.mk ?a ?l ?c ?k; (case a => k_is); (case l => k_is); (case c => k_is); (case k => k_is)))
    (case h_isL => (refine' Kd.FnIn.mk ?a ?l ?c ?k; (case a => k_is); (case l => k_is); (case c => k_is); (case k => k_is)))
    (case h_toldL => (refine' Kd.FnIn.mk ?a ?l ?c ?k; (case a => k_is); (case l => k_is); (case c => k_is); (case k => k_is)))
#print axioms PySem.Challenge.cw_bitswitches_k43_whole_broken_wires_holds

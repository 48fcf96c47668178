import PyProof.Rows.All
import Wide.All
import OpenK.AllK
import Wide.FinOn
import HandS.ForMost
import HandS.TupMul
import HandS.List
import HandS.Exc
import HandS.WordsExc
import HandS.CallSlots
import HandS.Lambda
import HandS.Wide
import HandS.Walk
import HandS.Zip
import HandS.IsInst
import HandS.TupAny
import HandS.Style
import HandS.ExcOwn
import HandS.Iter
import KE.GoesMore
import HandS.Flow
import HandS.ExcSuper
import KE.KExcSuper
import KE.KSuper
import HandS.SetFor
import HandS.ExcIs
import HandS.EndTab
import HandS.NestedK
import HandS.Defaults
import KE.KStateDown
import HandS.Head0
import HandS.Head1
import HandS.Head2
import HandS.HeadEnd
import HandS.HeadHook1
import HandS.HeadHook2
import PySem.Challenge.RW_signcells_k59_whole_heights_and_gaps
set_option Elab.async false
set_option linter.all false
set_option maxRecDepth 100000
-- part P0
set_option maxHeartbeats 4000000
namespace Pl
open PySem PySem.Spec PyProof.Rows L2
/-! tuple * int at the edges -/
theorem tuple_mulSelf (l : Addr) (items : Array Value) (n : Nat) (dd : Option Addr) (sl : Array (Option Value)) (x : Int) (u : Tok) (c0 : (decide (x < -(2 ^ 63)) || decide (x ≥ 2 ^ 63)) = false) (c1 : (items.isEmpty || x == 1) = true) :
    Meets (Builtin.«tuple.__mul__» ⟨[.ref l, .int x u], []⟩) (fun _ R s => s.heap.get? l = some { cls := .type "tuple", dict := dd, data := .seq items n, slots := sl } ∧
      R (.ok (.ret (Value.ref l))) s) :=
  .of_wp fun prog w A R s h => by
    obtain ⟨hp, g, d, tk, os⟩ := s
    obtain ⟨hl, h⟩ := h
    have f1 := AutoSeq1.idx_int
    wp_walk using wpAny_loadPart' hl
    repeat (first
      | (refine wpAny_ite_false (decide_eq_false (by rw [c0]; exact Bool.false_ne_true)) ?_; wp_walk using wpAny_loadPart' hl)
      | (refine wpAny_ite_true (decide_eq_true c1) ?_; wp_walk using wpAny_loadPart' hl))
    exact ⟨_, rfl, h⟩
theorem tuple_mulNone (l : Addr) (items : Array Value) (n : Nat) (dd : Option Addr) (sl : Array (Option Value)) (x : Int) (u : Tok) (c0 : (decide (x < -(2 ^ 63)) || decide (x ≥ 2 ^ 63)) = false) (c1 : (items.isEmpty || x == 1) = false) (c2 : (decide (x ≤ 0) || items.isEmpty) = true) :
    Meets (Builtin.«tuple.__mul__» ⟨[.ref l, .int x u], []⟩) (fun _ R s => s.heap.get? l = some { cls := .type "tuple", dict := dd, data := .seq items n, slots := sl } ∧
      R (.ok (.ret (Value.ref s.heap.objs.size))) { s with heap := s.heap.push { cls := Value.type "tuple", data := Data.seq #[] }, toks := s.toks }) :=
  .of_wp fun prog w A R s h => by
    obtain ⟨hp, g, d, tk, os⟩ := s
    obtain ⟨hl, h⟩ := h
    have f1 := AutoSeq1.idx_int
    wp_walk using wpAny_loadPart' hl
    repeat (first
      | (refine wpAny_ite_false (decide_eq_false (by rw [c0]; exact Bool.false_ne_true)) ?_; wp_walk using wpAny_loadPart' hl)
      | (refine wpAny_ite_false (decide_eq_false (by rw [c1]; exact Bool.false_ne_true)) ?_; wp_walk using wpAny_loadPart' hl)
      | (refine wpAny_ite_true (decide_eq_true c2) ?_; wp_walk using wpAny_loadPart' hl))
    exact ⟨_, rfl, h⟩
/-- tuple * int, any small int -/
def rRepTA (K : PySem.W.Frag) : R2 := fun x y H Q => ∃ l k xs, x = .ref l ∧ y = .int k ∧ SqT K H l xs ∧ -(2 ^ 63) ≤ k ∧ k ≤ 1000 ∧ xs.length ≤ 1000 ∧
  (xs = [] ∨ k = 1 → Q (.ref l) H) ∧ (¬ (xs = [] ∨ k = 1) → ∀ p, H p = none → Q (.ref p) (upd H p (.tup (List.replicate k.toNat xs).flatten)))
theorem op_repTA {X : Cx} : OpR X (binaryOp .Mult) (rRepTA X.K) := by
  intro pins s σ H x y v u Q I rx ry h
  obtain ⟨l, k, xs, rfl, rfl, hT, h0, h2, hz, q1, q2⟩ := h
  by_cases big : xs ≠ [] ∧ 2 ≤ k
  · exact op_repT pins s σ H (.ref l) (.int k) v u Q I rx ry ⟨l, k, xs, rfl, rfl, hT, big.1, big.2, h2, hz, q2 fun z => z.elim big.1 (fun e => by omega)⟩
  cases rx
  obtain ⟨t, rfl⟩ := ry
  obtain ⟨its, r, ⟨⟨cls, dd, data, sl⟩, ho, hc, n, hd⟩, hs⟩ := I.tuple hT
  simp only at hc hd
  subst hc hd
  have hle : its.length = xs.length := r.length.symm
  have c0 : (decide (k < -(2 ^ 63)) || decide (k ≥ 2 ^ 63)) = false := by
    rw [decide_eq_false (by omega), decide_eq_false (by omega)] <;> rfl
  have hem : its.toArray.isEmpty = true ↔ xs = [] := by
    constructor
    · intro e
      have : its = [] := by simpa using e
      rw [this] at hle
      exact List.eq_nil_of_length_eq_zero hle.symm
    · intro e
      rw [e] at hle
      have := List.eq_nil_of_length_eq_zero hle
      rw [this]
      rfl
  by_cases same : xs = [] ∨ k = 1
  · have c1 : (its.toArray.isEmpty || k == 1) = true := by
      rcases same with e | e
      · rw [hem.mpr e, Bool.true_or]
      · rw [e]
        simp
    refine wpAny_binaryOp_repeat_ref (T := "tuple") (U := "int") (by decide) ⟨_, ho, rfl⟩ (fun s' => typeIs_int s' k t) noFill_tuple_mul F.fills_int_mul F.slot_int_rmul repeat_tuple F.slot_int_index.lookup
      (call_meets F.slot_int_rmul (typeIs_int s k t) F.entry_int_rmul (F.args_int_rmul_2 _ _) (int_rmul_tuple k t l its.toArray n dd sl)
        ⟨ho, rfl, ⟨_, ho, rfl⟩, call_meets F.slot_tuple_mul ⟨_, ho, rfl⟩ F.entry_tuple_mul (F.args_tuple_mul_2 _ _) (tuple_mulSelf l its.toArray n dd sl k t c0 c1) ⟨ho, ?_⟩⟩)
    exact ⟨.ref l, H, I, rfl, q1 same⟩
  · have hne : xs ≠ [] := fun e => same (.inl e)
    have hk : k ≤ 0 := by
      by_cases h : k ≤ 0
      · exact h
      · have h1 : k ≠ 1 := fun e => same (.inr e)
        exact absurd ⟨hne, by omega⟩ big
    have he : its.toArray.isEmpty = false := by
      cases e : its.toArray.isEmpty with
      | false => rfl
      | true => exact absurd (hem.mp e) hne
    have c1 : (its.toArray.isEmpty || k == 1) = false := by
      rw [he, Bool.false_or]
      exact beq_eq_false_iff_ne.mpr (by omega)
    have c2 : (decide (k ≤ 0) || its.toArray.isEmpty) = true := by
      rw [decide_eq_true hk, Bool.true_or]
    refine wpAny_binaryOp_repeat_ref (T := "tuple") (U := "int") (by decide) ⟨_, ho, rfl⟩ (fun s' => typeIs_int s' k t) noFill_tuple_mul F.fills_int_mul F.slot_int_rmul repeat_tuple F.slot_int_index.lookup
      (call_meets F.slot_int_rmul (typeIs_int s k t) F.entry_int_rmul (F.args_int_rmul_2 _ _) (int_rmul_tuple k t l its.toArray n dd sl)
        ⟨ho, rfl, ⟨_, ho, rfl⟩, call_meets F.slot_tuple_mul ⟨_, ho, rfl⟩ F.entry_tuple_mul (F.args_tuple_mul_2 _ _) (tuple_mulNone l its.toArray n dd sl k t c0 c1 c2) ⟨ho, ?_⟩⟩)
    have e0 : (List.replicate k.toNat xs).flatten = [] := by
      rw [show k.toNat = 0 by omega]
      rfl
    have hn : H s.heap.objs.size = none := I.hok.fresh (Nat.le_refl _)
    have q3 := q2 same s.heap.objs.size hn
    rw [e0] at q3
    refine ⟨.ref s.heap.objs.size, _, I.laid (t' := s.toks) (o := .tup []) (fun b ob q => Heap.get?_push_of_some _ q) (Nat.le_refl _) ⟨Nat.zero_le _, [], .nil, ?_⟩, rfl, q3⟩
    exact IsTup.new _ _
end Pl

-- part P0b
set_option maxHeartbeats 4000000
namespace Pl
open PySem PySem.Spec PyProof.Rows L2
/-! t[::-1] of a tuple -/
theorem adj_rev (n : Nat) : Builtin.Slice.sliceAdjust none none (-1) (n : Int) = ((n : Int) - 1, -1) := by
  unfold Builtin.Slice.sliceAdjust
  simp
theorem plc_rev (n : Nat) : Builtin.Slice.slicePlaces ((n : Int) - 1) (-1) (-1) = n := by
  unfold Builtin.Slice.slicePlaces
  simp
  omega
theorem fm_congr {α β : Type} {f g : α → Option β} : ∀ {l : List α}, (∀ x ∈ l, f x = g x) → l.filterMap f = l.filterMap g
  | [], _ => rfl
  | a :: l, h => by
    rw [List.filterMap_cons, List.filterMap_cons, h a List.mem_cons_self, fm_congr fun x hx => h x (List.mem_cons_of_mem _ hx)]
theorem pick_rev (xs : Array Value) : ((List.range xs.size).filterMap fun (k : Nat) => xs[((xs.size : Int) - 1 + (k : Int) * (-1)).toNat]?).toArray = xs.toList.reverse.toArray := by
  congr 1
  apply List.ext_getElem?
  intro i
  have e : ((List.range xs.size).filterMap fun (k : Nat) => xs[((xs.size : Int) - 1 + (k : Int) * (-1)).toNat]?) = (List.range xs.size).map fun k => xs.toList.reverse[k]?.getD .none := by
    rw [← List.filterMap_eq_map]
    refine fm_congr fun k hk => ?_
    have hk : k < xs.size := List.mem_range.mp hk
    have : ((xs.size : Int) - 1 + (k : Int) * (-1)).toNat = xs.size - 1 - k := by omega
    rw [this]
    show xs[xs.size - 1 - k]? = some (xs.toList.reverse[k]?.getD Value.none)
    rw [List.getElem?_reverse (by rw [Array.length_toList]; exact hk), Array.length_toList, Array.getElem?_toList, Array.getElem?_eq_getElem (by omega)]
    rfl
  rw [e, List.getElem?_map]
  by_cases h : i < xs.size
  · rw [List.getElem?_range h, Option.map_some]
    rw [List.getElem?_eq_getElem (by simpa using h)]
    rfl
  · rw [List.getElem?_eq_none (by simpa using h), List.getElem?_eq_none (by simpa using h)]
    rfl
section
variable {prog : Program} {w : World} {A : Around} {E : Value → Shared → Prop} {s : Shared}
theorem getItem_tup_rev {t sl : Addr} {items : Array Value} {tk : Tok} {Q : Value → Shared → Prop} (ht : IsTup s.heap t items) (hs : s.heap.IsSliceOf sl .none .none (.int (-1) tk)) (hsz : items.size ≤ sizeLine)
    (h : Q (.ref s.heap.objs.size) { s with heap := s.heap.push { cls := .type "tuple", data := .seq items.toList.reverse.toArray } }) : wpAny (model prog w) A (getItem (.ref t) (.ref sl)) Q E s := by
  obtain ⟨o, ho, hc, hd⟩ := id hs
  have hT : s.TypeIs (.ref sl) "slice" := ⟨o, ho, hc⟩
  unfold getItem
  try with_reducible refine wpAny_holding ?_
  first | refine wpAny_bind (wpAny_pure ?_) | skip
  refine wpAny_bind (wpAny_sequenceKey ht.typeIs (by decide) (wpAny_bind (wpAny_callSpecial?_slot (name := Str.ofString "__getitem__") ht.typeIs slot_tuple_getitem (wpAny_call_entry slot_tuple_getitem ht.typeIs entry_tuple_getitem ?_ (args_tuple_getitem _ _)))))
  show wpAny _ _ (Builtin.Tuple.tupleItemsOf (.ref t) >>= _) _ _ s
  refine wpAny_bind (tupleItemsOf_ ht (wpAny_bind (wpAny_typeOf hT ?_)))
  rw [if_pos (by decide)]
  refine wpAny_bind ?_
  unfold Builtin.Slice.sliceApplied Builtin.Slice.sliceFields
  refine wpAny_bind (wpAny_bind (wpAny_field ho hd (x := .none) rfl (wpAny_bind (wpAny_field ho hd (x := .none) rfl (wpAny_bind (wpAny_field ho hd (x := .int (-1) tk) rfl (wpAny_pure ?_)))))))
  refine wpAny_bind (slicePart_int ?_)
  show wpAny _ _ (if ((-1 : Int) == 0) = true then _ else _) _ _ s
  rw [if_neg (by decide)]
  refine wpAny_bind (slicePart_none (wpAny_bind (slicePart_none (wpAny_bind (wpAny_pure ?_)))))
  show wpAny _ _ (match Builtin.Slice.sliceAdjust none none (-1) (items.size : Int) with | (lo, hi) => pure (lo, (-1 : Int), Builtin.Slice.slicePlaces lo hi (-1))) _ _ s
  rw [adj_rev]
  show wpAny _ _ (pure ((items.size : Int) - 1, (-1 : Int), Builtin.Slice.slicePlaces ((items.size : Int) - 1) (-1) (-1))) _ _ s
  rw [plc_rev]
  refine wpAny_pure ?_
  have hno : ¬ ((((items.size : Int) - 1) == 0 && (-1 : Int) == 1 && items.size == items.size) = true) := by
    intro q
    rw [Bool.and_eq_true, Bool.and_eq_true] at q
    exact absurd q.1.2 (by decide)
  show wpAny _ _ (if (((items.size : Int) - 1) == 0 && (-1 : Int) == 1 && items.size == items.size) = true then _ else _) _ _ s
  rw [if_neg hno, pick_rev]
  have htake : sizeOk (.seq items.toList.reverse.toArray) := by
    show items.toList.reverse.toArray.size ≤ sizeLine
    simpa using hsz
  first
    | exact wpAny_bind (m := Builtin.Tuple.tupleExact _) (wpAny_newObj_type (wpAny_pure ⟨_, rfl, wpAny_pure h⟩) htake)
    | exact wpAny_bind (m := Builtin.Tuple.tupleExact _) (wpAny_newObj_type (wpAny_bind (wpAny_pure (wpAny_pure ⟨_, rfl, wpAny_pure h⟩))) htake)
    | exact wpAny_bind (wpAny_bind (m := Builtin.Tuple.tupleExact _) (wpAny_newObj_type (wpAny_pure (wpAny_pure ⟨_, rfl, wpAny_pure h⟩)) htake))
    | exact wpAny_bind (wpAny_bind (m := Builtin.Tuple.tupleExact _) (wpAny_newObj_type (wpAny_pure ⟨_, rfl, wpAny_pure h⟩) htake))
end
/-- a[::-1], a a list or a tuple -/
def tRevA (K : PySem.W.Frag) (te : TE) : TE := fun σ H Q => te σ H fun x H1 => ∃ a xs, x = .ref a ∧ ((SqL K H1 a xs ∧ ∀ p, H1 p = none → Q (.ref p) (upd H1 p (.lst xs.reverse))) ∨ (SqT K H1 a xs ∧ ∀ p, H1 p = none → Q (.ref p) (upd H1 p (.tup xs.reverse))))
theorem pe_revA {X : Cx} {e : Expr} {te : TE} {k : Nat} {p1 p2 p3 pos : Pos} (he : PE X e te) : PE X (.Subscript e (.Slice none none (some (.UnaryOp .USub (.Constant (.int 1) k p1) p2)) p3) pos) (tRevA X.K te) := by
  refine ⟨fun pins s σ H Q I h => Subscript_ (thn (he.run pins s σ H _ I h) fun v s1 ⟨x, H1, I1, r1, a, xs, ex, q⟩ => ?_)⟩
  subst ex
  cases r1
  have hst : PO X (some (.UnaryOp .USub (.Constant (.int 1) k p1) p2)) (tPart (tUn (rU fun i => .int (-i)) (tC (.int 1)))) := po_some (pe_un un_neg pe_int)
  refine wpAny_Slice (thn (po_none.run pins s1 σ H1 (fun o H2 => o = none ∧ H2 = H1) I1 ⟨rfl, rfl⟩) fun vl s2 ⟨l, H2, I2, pl, el, e2⟩ => thn (po_none.run pins s2 σ H2 (fun o H3 => o = none ∧ H3 = H2) I2 ⟨rfl, rfl⟩) fun vu s3 ⟨u, H3, I3, pu, eu, e3⟩ =>
    thn (hst.run pins s3 σ H3 (fun o H4 => o = some (-1) ∧ H4 = H3) I3 ⟨1, rfl, -1, rfl, rfl, rfl⟩) fun vs s4 ⟨o, H4, I4, ps, eo, e4⟩ => ?_)
  subst el e2 eu e3 eo e4
  have I5 : Inv X pins σ H4 { s4 with heap := s4.heap.push { cls := .type "slice", data := .fields #[vl, vu, vs] } } := I4.kept (t' := s4.toks) fun b ob q => Heap.get?_push_of_some _ q
  have sl := Heap.IsSliceOf.new s4.heap vl vu vs
  rcases q with ⟨hx, q⟩ | ⟨hx, q⟩
  · obtain ⟨its, r, ht, hz⟩ := I5.list hx
    have hlen := r.length
    refine tail_any (ops := [.ref a, .ref s4.heap.objs.size]) ht.isList.typeIs (PySem.slot_list_getitem.lookup) ?_ (by with_unfolding_all rfl)
    refine wpAny_getItem_list_slice ht.isList sl pl pu ps (by decide) ?_ (by rw [List.size_toArray]; omega)
    rw [PySem.W.krv_pick]
    exact ⟨.ref _, _, I5.laid (t' := s4.toks) (o := .lst xs.reverse) (fun b ob q => Heap.get?_push_of_some _ q) (Nat.le_refl _) ⟨by rw [List.length_reverse]; exact hz, _, 0, r.reverse, Heap.get?_push_size _ rfl⟩, rfl, q _ (I5.hok.fresh (Nat.le_refl _))⟩
  · obtain ⟨its, r, ht, hz⟩ := I5.tuple hx
    have hlen := r.length
    cases pl
    cases pu
    cases ps
    refine tail_any (ops := [.ref a, .ref s4.heap.objs.size]) ht.typeIs slot_tuple_getitem.lookup ?_ (by with_unfolding_all rfl)
    refine getItem_tup_rev ht sl (by rw [List.size_toArray]; omega) ?_
    exact ⟨.ref _, _, I5.laid (t' := s4.toks) (o := .tup xs.reverse) (fun b ob q => Heap.get?_push_of_some _ q) (Nat.le_refl _) ⟨by rw [List.length_reverse]; exact hz, _, r.reverse, IsTup.new _ _⟩, rfl, q _ (I5.hok.fresh (Nat.le_refl _))⟩
end Pl

-- part P1
set_option maxHeartbeats 4000000
/-! The pure layer 1: data trees, how they stand in the abstract heap, what a step may change. -/
namespace Pl
open PySem PySem.Spec PyProof.Rows L2

/-- a value as a tree: tuples by content, lists by content where nobody changes them any more; bag i: the i-th list that is changed by whoever holds it -/
inductive D where
  | non | bl (b : Bool) | int (i : Int) | str (s : Str)
  | tup (l : List D) | lst (l : List D) | scr (l : List D) | dc
  | obj (c : Nat) (l : List D)
  | fn (i : Nat) | cl (c : Nat) | ty (n : String) | bag (i : Nat)
  | lam (i : Nat) (l : List D)
  | err (c : Nat)

/-- what is fixed: the written part, where the defs and classes stand, the classes' fields, the tables of code objects -/
structure Wd where
  K : PySem.W.Frag
  fa : Nat → Addr
  ca : Nat → Addr
  fl : Nat → List Str
  T : List (Addr × Str)
  e : Option (Addr × Nat) := none
  l : Option (Addr × Addr × (Heap → Prop)) := none

/-- Z: what is frozen (never changed again); b: where the bags stand -/
structure Gs where
  Z : Hp
  b : List Addr
  e : Option (Addr × Nat) := none

mutual
def Rp (W : Wd) (g : Gs) : D → V → Prop
  | .non, x => x = .non
  | .bl b, x => x = .bl b
  | .int i, x => x = .int i
  | .str s, x => x = .str s
  | .tup l, x => ∃ a xs, x = .ref a ∧ SqT W.K g.Z a xs ∧ RpL W g l xs
  | .lst l, x => ∃ a xs, x = .ref a ∧ g.Z a = some (.lst xs) ∧ RpL W g l xs
  | .scr l, x => ∃ a xs, x = .ref a ∧ SqL W.K g.Z a xs ∧ RpL W g l xs
  | .dc, x => ∃ a, x = .ref a ∧ g.Z a = some (.dK [])
  | .obj c l, x => ∃ a dx xs, x = .ref a ∧ g.Z a = some (.ins (W.ca c) dx ((W.fl c).zip xs)) ∧ g.Z dx = some (.own a) ∧ (W.fl c).length = xs.length ∧ RpL W g l xs
  | .fn i, x => x = .ref (W.fa i)
  | .cl c, x => x = .ref (W.ca c)
  | .ty n, x => x = .ty n
  | .bag i, x => ∃ a, x = .ref a ∧ g.b[i]? = some a
  | .lam _ _, _ => False
  | .err _, _ => False
def RpL (W : Wd) (g : Gs) : List D → List V → Prop
  | [], xs => xs = []
  | d :: ds, xs => ∃ y ys, xs = y :: ys ∧ Rp W g d y ∧ RpL W g ds ys
end

/-- the error that is handled does not matter for values -/
abbrev Wd.err (W : Wd) (x : Option (Addr × Nat)) (y : Option (Addr × Addr × (Heap → Prop))) : Wd := { W with e := x, l := y }
mutual
theorem Rp.err {W : Wd} {g : Gs} {x : Option (Addr × Nat)} {y : Option (Addr × Addr × (Heap → Prop))} : ∀ (d : D) (v : V), Rp (W.err x y) g d v ↔ Rp W g d v
  | .non, v => Iff.rfl
  | .bl _, v => Iff.rfl
  | .int _, v => Iff.rfl
  | .str _, v => Iff.rfl
  | .tup l, v => ⟨fun ⟨a, xs, h1, h2, h3⟩ => ⟨a, xs, h1, h2, (RpL.err l xs).mp h3⟩, fun ⟨a, xs, h1, h2, h3⟩ => ⟨a, xs, h1, h2, (RpL.err l xs).mpr h3⟩⟩
  | .lst l, v => ⟨fun ⟨a, xs, h1, h2, h3⟩ => ⟨a, xs, h1, h2, (RpL.err l xs).mp h3⟩, fun ⟨a, xs, h1, h2, h3⟩ => ⟨a, xs, h1, h2, (RpL.err l xs).mpr h3⟩⟩
  | .scr l, v => ⟨fun ⟨a, xs, h1, h2, h3⟩ => ⟨a, xs, h1, h2, (RpL.err l xs).mp h3⟩, fun ⟨a, xs, h1, h2, h3⟩ => ⟨a, xs, h1, h2, (RpL.err l xs).mpr h3⟩⟩
  | .dc, v => Iff.rfl
  | .obj c l, v => ⟨fun ⟨a, dx, xs, h1, h2, h3, h4, h5⟩ => ⟨a, dx, xs, h1, h2, h3, h4, (RpL.err l xs).mp h5⟩, fun ⟨a, dx, xs, h1, h2, h3, h4, h5⟩ => ⟨a, dx, xs, h1, h2, h3, h4, (RpL.err l xs).mpr h5⟩⟩
  | .fn _, v => Iff.rfl
  | .cl _, v => Iff.rfl
  | .ty _, v => Iff.rfl
  | .bag i, v => Iff.rfl
  | .lam _ _, v => Iff.rfl
  | .err _, v => Iff.rfl
theorem RpL.err {W : Wd} {g : Gs} {x : Option (Addr × Nat)} {y : Option (Addr × Addr × (Heap → Prop))} : ∀ (ds : List D) (vs : List V), RpL (W.err x y) g ds vs ↔ RpL W g ds vs
  | [], vs => Iff.rfl
  | d :: ds, vs => ⟨fun ⟨y, ys, h1, h2, h3⟩ => ⟨y, ys, h1, (Rp.err d y).mp h2, (RpL.err ds ys).mp h3⟩, fun ⟨y, ys, h1, h2, h3⟩ => ⟨y, ys, h1, (Rp.err d y).mpr h2, (RpL.err ds ys).mpr h3⟩⟩
end
/-- the frozen part and the bags have grown -/
structure Grow (g g' : Gs) : Prop where
  z : ∀ a o, g.Z a = some o → g'.Z a = some o
  b : ∃ l, g'.b = g.b ++ l
theorem Grow.refl (g : Gs) : Grow g g := ⟨fun _ _ h => h, [], by simp⟩
theorem Grow.trans {g g1 g2 : Gs} (a : Grow g g1) (c : Grow g1 g2) : Grow g g2 := by
  obtain ⟨l, e⟩ := a.b
  obtain ⟨l', e'⟩ := c.b
  exact ⟨fun x o h => c.z x o (a.z x o h), l ++ l', by rw [e', e, List.append_assoc]⟩
theorem Grow.sub {g g' : Gs} (e : Grow g g') {a : Addr} (h : a ∈ g.b) : a ∈ g'.b := by
  obtain ⟨l, e⟩ := e.b
  rw [e]
  exact List.mem_append_left _ h
theorem sqT_up {K : PySem.W.Frag} {H H' : Hp} {a : Addr} {xs : List V} (e : ∀ a o, H a = some o → H' a = some o) (h : SqT K H a xs) : SqT K H' a xs := by
  rcases h with (h | ⟨o, h⟩) | h
  · exact .inl (.inl (e _ _ h))
  · exact .inl (.inr ⟨o, e _ _ h⟩)
  · exact .inr h
theorem sqL_up {K : PySem.W.Frag} {H H' : Hp} {a : Addr} {xs : List V} (e : ∀ a o, H a = some o → H' a = some o) (h : SqL K H a xs) : SqL K H' a xs := by
  rcases h with (h | ⟨o, h⟩) | h
  · exact .inl (.inl (e _ _ h))
  · exact .inl (.inr ⟨o, e _ _ h⟩)
  · exact .inr h
mutual
theorem Rp.up {W : Wd} {g g' : Gs} (e : Grow g g') : ∀ (d : D) (x : V), Rp W g d x → Rp W g' d x
  | .non, x, h => h
  | .bl _, x, h => h
  | .int _, x, h => h
  | .str _, x, h => h
  | .tup l, x, ⟨a, xs, h1, h2, h3⟩ => ⟨a, xs, h1, sqT_up e.z h2, RpL.up e l xs h3⟩
  | .lst l, x, ⟨a, xs, h1, h2, h3⟩ => ⟨a, xs, h1, e.z _ _ h2, RpL.up e l xs h3⟩
  | .scr l, x, ⟨a, xs, h1, h2, h3⟩ => ⟨a, xs, h1, sqL_up e.z h2, RpL.up e l xs h3⟩
  | .dc, x, ⟨a, h1, h2⟩ => ⟨a, h1, e.z _ _ h2⟩
  | .obj c l, x, ⟨a, dx, xs, h1, h2, h3, h4, h5⟩ => ⟨a, dx, xs, h1, e.z _ _ h2, e.z _ _ h3, h4, RpL.up e l xs h5⟩
  | .fn _, x, h => h
  | .cl _, x, h => h
  | .ty _, x, h => h
  | .bag i, x, ⟨a, h1, h2⟩ => ⟨a, h1, by
      obtain ⟨l, q⟩ := e.b
      rw [q, List.getElem?_append_left (List.getElem?_eq_some_iff.mp h2).1]
      exact h2⟩
  | .lam _ _, x, h => h
  | .err _, x, h => h
theorem RpL.up {W : Wd} {g g' : Gs} (e : Grow g g') : ∀ (ds : List D) (xs : List V), RpL W g ds xs → RpL W g' ds xs
  | [], xs, h => h
  | d :: ds, xs, ⟨y, ys, h1, h2, h3⟩ => ⟨y, ys, h1, Rp.up e d y h2, RpL.up e ds ys h3⟩
end
section
variable {W : Wd} {g : Gs}
theorem RpL.length : ∀ {ds : List D} {xs : List V}, RpL W g ds xs → xs.length = ds.length
  | [], xs, h => by
    have h : xs = [] := h
    subst h
    rfl
  | d :: ds, xs, ⟨y, ys, h1, _, h3⟩ => by rw [h1, List.length_cons, List.length_cons, RpL.length h3]
theorem RpL.nil : RpL W g [] [] := rfl
theorem RpL.cons {d : D} {ds : List D} {x : V} {xs : List V} (h : Rp W g d x) (t : RpL W g ds xs) : RpL W g (d :: ds) (x :: xs) := ⟨x, xs, rfl, h, t⟩
theorem RpL.get : ∀ {ds : List D} {xs : List V} {i : Nat} {d : D}, RpL W g ds xs → ds[i]? = some d → ∃ x, xs[i]? = some x ∧ Rp W g d x
  | [], _, _, _, _, e => by simp at e
  | d :: ds, _, 0, _, ⟨y, ys, h1, h2, _⟩, e => by
    simp at e
    subst e
    exact ⟨y, by rw [h1]; rfl, h2⟩
  | d :: ds, _, i + 1, d', ⟨y, ys, h1, _, h3⟩, e => by
    obtain ⟨x, q1, q2⟩ := RpL.get (i := i) (d := d') h3 (by simpa using e)
    exact ⟨x, by rw [h1]; simpa using q1, q2⟩
theorem RpL.getV : ∀ {ds : List D} {xs : List V} {i : Nat} {x : V}, RpL W g ds xs → xs[i]? = some x → ∃ d, ds[i]? = some d ∧ Rp W g d x := by
  intro ds xs i x h e
  have hi : i < ds.length := by
    have := (List.getElem?_eq_some_iff.mp e).1
    rw [h.length] at this
    exact this
  obtain ⟨y, e2, r⟩ := h.get (i := i) (d := ds[i]) (List.getElem?_eq_getElem hi)
  rw [e] at e2
  cases e2
  exact ⟨_, List.getElem?_eq_getElem hi, r⟩
theorem RpL.app : ∀ {ds es : List D} {xs ys : List V}, RpL W g ds xs → RpL W g es ys → RpL W g (ds ++ es) (xs ++ ys)
  | [], _, _, _, h, k => by
    have h : _ = [] := h
    subst h
    exact k
  | d :: ds, _, _, _, ⟨y, ys, h1, h2, h3⟩, k => by
    subst h1
    exact RpL.cons h2 (RpL.app h3 k)
theorem RpL.take : ∀ {ds : List D} {xs : List V} (n : Nat), RpL W g ds xs → RpL W g (ds.take n) (xs.take n)
  | ds, xs, 0, h => by simp only [List.take_zero]; exact RpL.nil
  | [], xs, n + 1, h => by
    have h : xs = [] := h
    subst h
    simp only [List.take_nil]
    exact RpL.nil
  | d :: ds, xs, n + 1, ⟨y, ys, h1, h2, h3⟩ => by
    subst h1
    exact RpL.cons h2 (RpL.take n h3)
theorem RpL.drop : ∀ {ds : List D} {xs : List V} (n : Nat), RpL W g ds xs → RpL W g (ds.drop n) (xs.drop n)
  | ds, xs, 0, h => h
  | [], xs, n + 1, h => by
    have h : xs = [] := h
    subst h
    simp only [List.drop_nil]
    exact RpL.nil
  | d :: ds, xs, n + 1, ⟨y, ys, h1, h2, h3⟩ => by
    subst h1
    exact RpL.drop n h3
theorem RpL.set : ∀ {ds : List D} {xs : List V} (n : Nat) {d : D} {x : V}, RpL W g ds xs → Rp W g d x → RpL W g (ds.set n d) (xs.set n x)
  | [], xs, n, _, _, h, _ => by
    have h : xs = [] := h
    subst h
    exact RpL.nil
  | d :: ds, xs, 0, _, _, ⟨y, ys, h1, h2, h3⟩, k => by
    subst h1
    exact RpL.cons k h3
  | d :: ds, xs, n + 1, _, _, ⟨y, ys, h1, h2, h3⟩, k => by
    subst h1
    exact RpL.cons h2 (RpL.set n h3 k)
theorem RpL.rev : ∀ {ds : List D} {xs : List V}, RpL W g ds xs → RpL W g ds.reverse xs.reverse
  | [], xs, h => by
    have h : xs = [] := h
    subst h
    exact RpL.nil
  | d :: ds, xs, ⟨y, ys, h1, h2, h3⟩ => by
    subst h1
    rw [List.reverse_cons, List.reverse_cons]
    exact (RpL.rev h3).app (RpL.cons h2 RpL.nil)
theorem RpL.one {d : D} {xs : List V} (h : RpL W g [d] xs) : ∃ x, xs = [x] ∧ Rp W g d x := by
  obtain ⟨y, ys, h1, h2, h3⟩ := h
  have h3 : ys = [] := h3
  subst h3
  exact ⟨y, h1, h2⟩
theorem RpL.two {d e : D} {xs : List V} (h : RpL W g [d, e] xs) : ∃ x y, xs = [x, y] ∧ Rp W g d x ∧ Rp W g e y := by
  obtain ⟨y, ys, h1, h2, h3⟩ := h
  obtain ⟨z, e1, e2⟩ := h3.one
  subst e1
  exact ⟨y, z, h1, h2, e2⟩
end

/-! ### the lists that are changed by whoever holds them -/
abbrev Bs := List (List D)
structure Ok (W : Wd) (g : Gs) (B : Bs) (H : Hp) : Prop where
  ice : ∀ a o, g.Z a = some o → H a = some o
  kin : ∀ a ps, g.Z a ≠ some (.tbl ps)
  len : g.b.length = B.length
  nd : g.b.Nodup
  bag : ∀ (i : Nat) (a : Addr) (ds : List D), g.b[i]? = some a → B[i]? = some ds → g.Z a = none ∧ ∃ xs, H a = some (.lst xs) ∧ RpL W g ds xs
  tab : LamX.Tabs W.T H

theorem Ok.err {W : Wd} {g : Gs} {B : Bs} {H : Hp} {x : Option (Addr × Nat)} {y : Option (Addr × Addr × (Heap → Prop))} : Ok (W.err x y) g B H ↔ Ok W g B H :=
  ⟨fun o => ⟨o.ice, o.kin, o.len, o.nd, fun i a ds h1 h2 => let ⟨q1, xs, q2, q3⟩ := o.bag i a ds h1 h2; ⟨q1, xs, q2, (RpL.err ds xs).mp q3⟩, o.tab⟩,
   fun o => ⟨o.ice, o.kin, o.len, o.nd, fun i a ds h1 h2 => let ⟨q1, xs, q2, q3⟩ := o.bag i a ds h1 h2; ⟨q1, xs, q2, (RpL.err ds xs).mpr q3⟩, o.tab⟩⟩
/-- nothing that is known stands there -/
def Vac (H : Hp) (a : Addr) : Prop := ∀ o, H a = some o → ∃ ps, o = .tbl ps
theorem vac_none {H : Hp} {a : Addr} (h : H a = none) : Vac H a := fun o e => by
  rw [h] at e
  cases e
theorem ne_of_vac {H : Hp} {a b : Addr} {o : HO} (h : H a = some o) (n : ∀ ps, o ≠ .tbl ps) (v : Vac H b) : a ≠ b := fun z => by
  subst z
  obtain ⟨ps, e⟩ := v o h
  exact n ps e
/-- what an expression may change: nothing that stood there but the bags (and the tables) -/
structure Stp (g : Gs) (H : Hp) (g' : Gs) (H' : Hp) : Prop where
  grow : Grow g g'
  zn : ∀ a o, H a = some o → (∀ ps, o ≠ .tbl ps) → g'.Z a = g.Z a
  bn : ∀ a, a ∈ g'.b → a ∉ g.b → Vac H a
  h : ∀ a o, H a = some o → a ∉ g.b → (∀ ps, o ≠ .tbl ps) → H' a = some o
  hb : ∀ a, a ∈ g.b → ∃ xs, H' a = some (.lst xs)
  e : g'.e = g.e
theorem Ok.bagAt {W : Wd} {g : Gs} {B : Bs} {H : Hp} (ok : Ok W g B H) {a : Addr} (h : a ∈ g.b) : g.Z a = none ∧ ∃ xs, H a = some (.lst xs) := by
  obtain ⟨i, hi, e⟩ := List.getElem_of_mem h
  have hB : i < B.length := by rw [← ok.len]; exact hi
  obtain ⟨h1, xs, h2, _⟩ := ok.bag i a B[i] (by rw [List.getElem?_eq_getElem hi, e]) (List.getElem?_eq_getElem hB)
  exact ⟨h1, xs, h2⟩
theorem Stp.refl {W : Wd} {g : Gs} {B : Bs} {H : Hp} (ok : Ok W g B H) : Stp g H g H :=
  ⟨Grow.refl g, fun _ _ _ _ => rfl, fun _ h n => absurd h n, fun _ _ h _ _ => h, fun _ h => (ok.bagAt h).2, rfl⟩
theorem nt_lst {xs : List V} : ∀ ps, HO.lst xs ≠ .tbl ps := fun _ z => by cases z
theorem Stp.at {g g1 : Gs} {H H1 : Hp} (s : Stp g H g1 H1) {a : Addr} {o : HO} (h : H a = some o) (n : ∀ ps, o ≠ .tbl ps) : ∃ o', H1 a = some o' ∧ (∀ ps, o' ≠ .tbl ps) := by
  by_cases hb : a ∈ g.b
  · obtain ⟨xs, e⟩ := s.hb a hb
    exact ⟨_, e, nt_lst⟩
  · exact ⟨o, s.h a o h hb n, n⟩
theorem Stp.there {g g1 : Gs} {H H1 : Hp} (s : Stp g H g1 H1) {a : Addr} (h : Vac H1 a) : Vac H a := fun o q => Classical.byContradiction fun c => by
  have n : ∀ ps, o ≠ .tbl ps := fun ps z => c ⟨ps, z⟩
  obtain ⟨o', e, n'⟩ := s.at q n
  obtain ⟨ps, z⟩ := h o' e
  exact n' ps z
theorem Stp.trans {g g1 g2 : Gs} {H H1 H2 : Hp} (s : Stp g H g1 H1) (t : Stp g1 H1 g2 H2) : Stp g H g2 H2 where
  grow := s.grow.trans t.grow
  zn := fun a o h n => by
    obtain ⟨o', h', n'⟩ := s.at h n
    exact (t.zn a o' h' n').trans (s.zn a o h n)
  bn := fun a h n => by
    by_cases h1 : a ∈ g1.b
    · exact s.bn a h1 n
    · exact s.there (t.bn a h h1)
  h := fun a o h n k => t.h a o (s.h a o h n k) (fun z => by
    obtain ⟨ps, e⟩ := s.bn a z n o h
    exact k ps e) k
  hb := fun a h => t.hb a (s.grow.sub h)
  e := t.e.trans s.e

/-! ### a new object -/
section
variable {W : Wd} {g : Gs} {B : Bs} {H : Hp} {p : Addr} {o : HO}
def Gs.ice (g : Gs) (p : Addr) (o : HO) : Gs := ⟨upd g.Z p o, g.b, g.e⟩
theorem Ok.zfree (ok : Ok W g B H) (n : H p = none) : g.Z p = none := by
  cases q : g.Z p with
  | none => rfl
  | some o =>
    have := ok.ice p o q
    rw [n] at this
    cases this
theorem Ok.nbag (ok : Ok W g B H) (n : H p = none) : p ∉ g.b := fun h => by
  obtain ⟨_, xs, e⟩ := ok.bagAt h
  rw [n] at e
  cases e
theorem grow_ice (z : g.Z p = none) : Grow g (g.ice p o) := ⟨fun a u h => by
    show upd g.Z p o a = some u
    rw [upd_ne (ne_of_none h z)]
    exact h, [], by simp [Gs.ice]⟩
theorem same_upd' (n : H p = none) : ∀ a u, H a = some u → upd H p o a = some u := fun a u h => by
  rw [upd_ne (ne_of_none h n)]
  exact h
/-- a new object, not frozen -/
theorem Ok.new (ok : Ok W g B H) (n : H p = none) : Ok W g B (upd H p o) where
  ice := fun a u h => same_upd' n a u (ok.ice a u h)
  kin := ok.kin
  len := ok.len
  nd := ok.nd
  bag := fun i a ds h1 h2 => by
    obtain ⟨q1, xs, q2, q3⟩ := ok.bag i a ds h1 h2
    exact ⟨q1, xs, same_upd' n a _ q2, q3⟩
  tab := ok.tab.ext (same_upd' n)
theorem Stp.new (ok : Ok W g B H) (n : H p = none) : Stp g H g (upd H p o) :=
  ⟨Grow.refl g, fun _ _ _ _ => rfl, fun _ h k => absurd h k, fun a u h _ _ => same_upd' n a u h, fun a h => by
    obtain ⟨_, xs, e⟩ := ok.bagAt h
    exact ⟨xs, same_upd' n a _ e⟩, rfl⟩
/-- an object that stands is frozen: nobody will change it -/
theorem Ok.freeze (ok : Ok W g B H) (e : H p = some o) (z : g.Z p = none) (nb : p ∉ g.b) (k : ∀ ps, o ≠ .tbl ps) : Ok W (g.ice p o) B H where
  ice := fun a u h => by
    by_cases hp : a = p
    · subst hp
      have h : upd g.Z a o a = some u := h
      rw [upd_same] at h
      rw [e]
      exact h
    · have h : upd g.Z p o a = some u := h
      rw [upd_ne hp] at h
      exact ok.ice a u h
  kin := fun a ps h => by
    by_cases hp : a = p
    · subst hp
      have h : upd g.Z a o a = some _ := h
      rw [upd_same] at h
      exact k ps (Option.some.inj h)
    · have h : upd g.Z p o a = some _ := h
      rw [upd_ne hp] at h
      exact ok.kin a ps h
  len := ok.len
  nd := ok.nd
  bag := fun i a ds h1 h2 => by
    have h1 : g.b[i]? = some a := h1
    obtain ⟨q1, xs, q2, q3⟩ := ok.bag i a ds h1 h2
    have na : a ≠ p := fun e => nb (by rw [← e]; exact List.mem_of_getElem? h1)
    exact ⟨by show upd g.Z p o a = none; rw [upd_ne na]; exact q1, xs, q2, RpL.up (grow_ice z) ds xs q3⟩
  tab := ok.tab
/-- a new object, frozen -/
theorem Ok.newI (ok : Ok W g B H) (n : H p = none) (k : ∀ ps, o ≠ .tbl ps) : Ok W (g.ice p o) B (upd H p o) :=
  (ok.new n).freeze upd_same (ok.zfree n) (ok.nbag n) k
theorem Stp.newI (ok : Ok W g B H) (n : H p = none) : Stp g H (g.ice p o) (upd H p o) :=
  ⟨grow_ice (ok.zfree n), fun a u h _ => by
    show upd g.Z p o a = _
    rw [upd_ne (ne_of_none h n)], fun _ h k => absurd h k, fun a u h _ _ => same_upd' n a u h, fun a h => by
    obtain ⟨_, xs, e⟩ := ok.bagAt h
    exact ⟨xs, same_upd' n a _ e⟩, rfl⟩
theorem ice_at : (g.ice p o).Z p = some o := upd_same
end
end Pl

-- part P2
set_option maxHeartbeats 4000000
/-! The pure layer 2: small programs as trees, and what they do. -/
namespace Pl
open PySem PySem.Spec PyProof.Rows L2

/-! ### what a step gives: a value and the bags; an exception; or nothing is known -/
inductive R (α : Type) where
  | ok (a : α) (B : Bs) | ex (c : Nat) (B : Bs) | no
abbrev M (α : Type) := Bs → R α
def M.ret {α : Type} (a : α) : M α := fun B => .ok a B
def M.bind {α β : Type} (m : M α) (f : α → M β) : M β := fun B => match m B with
  | .ok a B' => f a B'
  | .ex c B' => .ex c B'
  | .no => .no
def M.lift {α : Type} : Option α → M α
  | some a => fun B => .ok a B
  | none => fun _ => .no
def M.stuck {α : Type} : M α := fun _ => .no
/-- no exception may leave -/
def M.calm {α : Type} (m : M α) : M α := fun B => match m B with
  | .ok a B' => .ok a B'
  | _ => .no

abbrev SZ : Nat := 16777216

/-! ### operators -/
inductive Bop where
  | add | sub | mul | fdiv | mod | pow
inductive Cop where
  | lt | le | gt | ge | eq | ne | is | isn | inn | nin
def mulOk (i j : Int) : Bool := decide (i.natAbs.log2 + j.natAbs.log2 < 1000000)
def divOk (j : Int) : Bool := decide (j ≠ 0) && decide (j.natAbs.log2 < 9000)
def powOk (i j : Int) : Bool := decide (0 ≤ j) && decide (j ≤ 1000000) && decide (i.natAbs < 2 ^ 64)
def binD : Bop → D → D → Option D
  | .add, .int i, .int j => some (.int (i + j))
  | .add, .str s, .str t => if s.length + t.length ≤ SZ then some (.str (s ++ t)) else none
  | .add, .tup a, .tup b => if a.length + b.length ≤ SZ then some (.tup (a ++ b)) else none
  | .add, .lst a, .lst b => if a.length + b.length ≤ SZ then some (.lst (a ++ b)) else none
  | .sub, .int i, .int j => some (.int (i - j))
  | .sub, .bl i, .bl j => some (.int ((if i then 1 else 0) - (if j then 1 else 0)))
  | .mul, .int i, .int j => if mulOk i j then some (.int (i * j)) else none
  | .mul, .tup l, .int k => if l.length ≤ 1000 ∧ -1000 ≤ k ∧ k ≤ 1000 then some (.tup (List.replicate k.toNat l).flatten) else none
  | .mul, .lst l, .int k => if l.length ≤ 1000 ∧ -1000 ≤ k ∧ k ≤ 1000 then some (.lst (List.replicate k.toNat l).flatten) else none
  | .fdiv, .int i, .int j => if divOk j then some (.int (i.fdiv j)) else none
  | .mod, .int i, .int j => if j ≠ 0 then some (.int (i.fmod j)) else none
  | .pow, .int i, .int j => if powOk i j then some (.int (i ^ j.toNat)) else none
  | _, _, _ => none
mutual
def toPd : D → Option PyData
  | .non => some .none
  | .bl b => some (.bool b)
  | .int i => some (.int i)
  | .str s => some (.str s)
  | .tup l => (toPds l).map .tuple
  | .lst l => (toPds l).map .list
  | _ => none
def toPds : List D → Option (List PyData)
  | [] => some []
  | d :: ds => match toPd d, toPds ds with
    | some x, some xs => some (x :: xs)
    | _, _ => none
end
/-- == of data -/
def eqD (a b : D) : Option Bool := match toPd a, toPd b with
  | some d, some e => if SeqAt.shaped d && SeqAt.shaped e then some (PyData.eqv d e) else none
  | _, _ => none
def flatD : D → Bool
  | .non => true
  | .bl _ => true
  | .int _ => true
  | .str _ => true
  | _ => false
def eqF : D → D → Bool
  | .non, .non => true
  | .bl a, .bl b => a == b
  | .bl a, .int j => (if a then 1 else 0) == j
  | .int i, .bl b => i == (if b then 1 else 0)
  | .int i, .int j => i == j
  | .str x, .str y => x == y
  | _, _ => false
def inD (a : D) (l : List D) : Option Bool := if flatD a && l.all flatD then some (l.any fun y => eqF y a) else none
def cmpD : Cop → D → D → Option Bool
  | .lt, .int i, .int j => some (decide (i < j))
  | .le, .int i, .int j => some (decide (i ≤ j))
  | .gt, .int i, .int j => some (decide (j < i))
  | .ge, .int i, .int j => some (decide (j ≤ i))
  | .eq, a, b => eqD a b
  | .ne, a, b => (eqD a b).map (!·)
  | .is, .bl a, .bl b => some (decide (a = b))
  | .is, a, .non => match a with
    | .lam _ _ => none
    | .non => some true
    | _ => some false
  | .isn, .bl a, .bl b => some (!decide (a = b))
  | .isn, a, .non => match a with
    | .lam _ _ => none
    | .non => some false
    | _ => some true
  | .inn, a, .lst l => inD a l
  | .inn, a, .tup l => inD a l
  | .nin, a, .lst l => (inD a l).map (!·)
  | .nin, a, .tup l => (inD a l).map (!·)
  | _, _, _ => none
def truD : D → Option Bool
  | .non => some false
  | .bl b => some b
  | .int i => some (i != 0)
  | .str s => if s.length ≤ SZ then some ((s.length : Int) != 0) else none
  | .tup l => some (!l.isEmpty)
  | .lst l => some (!l.isEmpty)
  | .dc => some false
  | _ => none
def cutD {α : Type} (xs : List α) (lo hi : Option Int) : List α := (xs.drop (HT.sIx xs.length 0 lo)).take (HT.sIx xs.length xs.length hi - HT.sIx xs.length 0 lo)
def ixD : D → D → Option D
  | .tup l, .int i => atI l i
  | .lst l, .int i => atI l i
  | _, _ => none
/-- a[i]; a may be a bag -/
def ixM (B : Bs) (x y : D) : Option D := match x, y with
  | .bag k, .int j => (B[k]?).bind fun l => atI l j
  | _, _ => ixD x y
def optI : Option D → Option (Option Int)
  | none => some none
  | some (.int i) => some (some i)
  | _ => none
def slD (a : D) (lo hi : Option Int) : Option D := match a with
  | .tup l => some (.tup (cutD l lo hi))
  | .lst l => some (.lst (cutD l lo hi))
  | .scr l => some (.lst (cutD l lo hi))
  | _ => none
def revD : D → Option D
  | .tup l => some (.tup l.reverse)
  | .lst l => some (.lst l.reverse)
  | _ => none
/-! ### built-ins -/
inductive Bi where
  | len | abs | int | max2 | min2 | tuple | list | all | any | sum | isi | repr | maxl | minl | bool
def typD : D → Option String
  | .non => some "NoneType"
  | .bl _ => some "bool"
  | .int _ => some "int"
  | .str _ => some "str"
  | .tup _ => some "tuple"
  | .lst _ => some "list"
  | .dc => some "dict"
  | .bag _ => some "list"
  | _ => none
def isiD (a : D) (n : String) : Option Bool := match typD a with
  | some t => if ["int", "bool", "str", "tuple", "list", "dict"].contains n then some (t == n || (t == "bool" && n == "int")) else none
  | none => none
def boolsD : List D → Option (List Bool)
  | [] => some []
  | .bl b :: r => (boolsD r).map (b :: ·)
  | _ => none
def intsD : List D → Option (List Int)
  | [] => some []
  | .int b :: r => (intsD r).map (b :: ·)
  | _ => none
def maxI : List Int → Option Int
  | [] => none
  | a :: r => some (r.foldl max a)
def minI : List Int → Option Int
  | [] => none
  | a :: r => some (r.foldl min a)
def reprD (a : D) : Option D := match toPd a with
  | some d => if d.showable && SeqAt.shaped d && decide (d.shown.length ≤ SZ) then some (.str d.shown) else none
  | none => none
def lenD : List D → Option D
  | [.tup l] => some (.int l.length)
  | [.lst l] => some (.int l.length)
  | [.scr l] => some (.int l.length)
  | [.str s] => if s.length ≤ SZ then some (.int s.length) else none
  | _ => none
def absD : List D → Option D
  | [.int i] => some (.int (if i < 0 then -i else i))
  | _ => none
def intD : List D → Option D
  | [.int i] => some (.int i)
  | [.bl b] => some (.int (if b then 1 else 0))
  | _ => none
def max2D : List D → Option D
  | [.int i, .int j] => some (.int (if j > i then j else i))
  | _ => none
def min2D : List D → Option D
  | [.int i, .int j] => some (.int (if j < i then j else i))
  | _ => none
def tupleD : List D → Option D
  | [.tup l] => some (.tup l)
  | [.lst l] => some (.tup l)
  | _ => none
def listD : List D → Option D
  | [.tup l] => some (.lst l)
  | [.lst l] => some (.lst l)
  | _ => none
def allD : List D → Option D
  | [.lst l] => (boolsD l).map fun bs => .bl (bs.all id)
  | _ => none
def anyD : List D → Option D
  | [.lst l] => (boolsD l).map fun bs => .bl (bs.any id)
  | _ => none
def isiA : List D → Option D
  | [a, .ty n] => (isiD a n).map .bl
  | _ => none
def sumD : List D → Option D
  | [.lst l] => (intsD l).map fun ns => .int ns.sum
  | _ => none
def maxlD : List D → Option D
  | [.lst l] => (intsD l).bind fun ns => (maxI ns).map .int
  | _ => none
def minlD : List D → Option D
  | [.lst l] => (intsD l).bind fun ns => (minI ns).map .int
  | _ => none
def reprA : List D → Option D
  | [a] => reprD a
  | _ => none
def biD : Bi → List D → Option D
  | .len => lenD
  | .abs => absD
  | .int => intD
  | .max2 => max2D
  | .min2 => min2D
  | .tuple => tupleD
  | .list => listD
  | .all => allD
  | .any => anyD
  | .isi => isiA
  | .sum => sumD
  | .maxl => maxlD
  | .minl => minlD
  | .repr => reprA
  | .bool => fun _ => none
inductive Mt where
  | count | index
def mtD : Mt → D → List D → Option D
  | .count, .lst l, [d] => if flatD d && l.all flatD then some (.int (l.countP fun y => eqF y d : Nat)) else none
  | .index, .lst l, [d] => if flatD d && l.all flatD then (l.findIdx? fun y => eqF y d).map fun i => .int (i : Nat) else none
  | _, _, _ => none
def lstD : D → Option (List D)
  | .lst l => some l
  | _ => none
def mtNm : Mt → String
  | .count => "count"
  | .index => "index"

/-! ### the trees -/
inductive Pg where
  | s (i : Nat) | t (l : List Pg)
/-- what a for or a comprehension walks -/
inductive Ik where
  | seq | rng | rng2 | enum | zip
inductive Pe where
  | c (d : D) | v (i : Nat)
  | bin (o : Bop) (a b : Pe) | neg (a : Pe) | nt (a : Pe)
  | an (l : List Pe) | or (l : List Pe)
  | cmp (o : Cop) (a b : Pe) | ch (o p : Cop) (a b c : Pe) | ite (t a b : Pe)
  | tup (l : List Pe) | lst (l : List Pe) | dc
  | ix (a i : Pe) | ixo (s : Nat) (i : Pe) | sl (a : Pe) (lo hi : Option Pe) | rv (a : Pe) | lno (s : Nat)
  | call (f : Nat) (l : List Pe) | bi (b : Bi) (l : List Pe) | mt (m : Mt) (a : Pe) (l : List Pe)
  | fld (a : Pe) (f : Str) | mk (c : Nat) (l : List Pe)
  | tv (a : Pe) | bag (l : List Pe) | act | lamc (f : Nat) (a : Pe) | ise (s : Nat) (c : Option Nat) | no
  | lc (g : Pg) (k : Ik) (l : List Pe) (t : List Pe) (e : Pe) (w : List Nat)
  | lc2 (g : Pg) (k : Ik) (l : List Pe) (g2 : Pg) (k2 : Ik) (l2 : List Pe) (t : List Pe) (e : Pe) (w : List Nat)

/-- a slot: empty, a value, a list that only this slot knows, an instance that is being made -/
inductive Sl where
  | e | v (d : D) | o (l : List D) | oi (c : Nat) (l : List D) | er (c : Nat) | la
abbrev Rho := List Sl
inductive Fl where
  | nx (r : Rho) | rt (d : D) | bk (r : Rho) | ct (r : Rho)

def getV (r : Rho) (i : Nat) : Option D := match r[i]? with
  | some (.v d) => some d
  | _ => none
def getO (r : Rho) (i : Nat) : Option (List D) := match r[i]? with
  | some (.o l) => some l
  | _ => none
mutual
def setG : Pg → D → Rho → Option Rho
  | .s i, d, r => if i < r.length then some (r.set i (.v d)) else none
  | .t l, .tup ds, r => setGs l ds r
  | .t _, _, _ => none
def setGs : List Pg → List D → Rho → Option Rho
  | [], [], r => some r
  | g :: gs, d :: ds, r => (setG g d r).bind fun r' => setGs gs ds r'
  | _, _, _ => none
end
def wipeR (r : Rho) : List Nat → Rho
  | [] => r
  | i :: l => (wipeR r l).set i .e
def gsl : Pg → List Nat
  | .s i => [i]
  | .t l => gsls l
where gsls : List Pg → List Nat
  | [] => []
  | g :: gs => gsl g ++ gsls gs
def rngD (lo : Int) (n : Nat) : List D := (List.range n).map fun i => .int (lo + (i : Nat))
def enumD : Nat → List D → List D
  | _, [] => []
  | i, d :: ds => .tup [.int (i : Nat), d] :: enumD (i + 1) ds
def zipD : List D → List D → List D
  | a :: l, b :: r => .tup [a, b] :: zipD l r
  | _, _ => []
def seqD : D → Option (List D)
  | .tup l => some l
  | .lst l => some l
  | .scr l => some l
  | _ => none
def itD : Ik → List D → Option (List D)
  | .seq, [a] => seqD a
  | .rng, [.int n] => if n ≤ 1000000 ∧ -1000000 ≤ n then some (rngD 0 n.toNat) else none
  | .rng2, [.int a, .int b] => if a ≤ 1000000 ∧ -1000000 ≤ a ∧ b ≤ 1000000 ∧ -1000000 ≤ b then some (rngD a (b - a).toNat) else none
  | .enum, [.tup l] => some (enumD 0 l)
  | .enum, [.lst l] => some (enumD 0 l)
  | .zip, [.tup l, .tup r] => some (zipD l r)
  | .zip, [.lst l, .lst r] => some (zipD l r)
  | _, _ => none
/-- a comprehension's turns -/
def lcM (f : D → M (Option D)) : List D → M (List D)
  | [] => M.ret []
  | d :: ds => M.bind (f d) fun o => M.bind (lcM f ds) fun r => M.ret (match o with
    | some x => x :: r
    | none => r)
def lc2M (f : D → M (List D)) : List D → M (List D)
  | [] => M.ret []
  | d :: ds => M.bind (f d) fun o => M.bind (lc2M f ds) fun r => M.ret (o ++ r)

/-- what the trees lean on: the defs, the makers, the fields, the while -/
structure Cf where
  F : Nat → List D → M D
  nw : Nat → List D → M D
  ac : M D
  lw : Nat → M D → M D
  xs : Nat → Option Nat → Bool
  fl : Nat → List Str
  wh : (Rho → M Bool) → (Rho → M Fl) → Rho → M Fl
def fldD (fl : Nat → List Str) (f : Str) : D → Option D
  | .obj c l => match (fl c).idxOf? f with
    | some i => l[i]?
    | none => none
  | _ => none
def M.lst (m : M (List D)) : M D := M.bind m fun l => M.ret (.lst l)
def lstM (xs : List D) : M (List D) := M.lift (if xs.length ≤ SZ then some xs else none)
def repM (xs : List D) (y : D) : M (List D) := M.lift (match binD .mul (.lst xs) y with
  | some (.lst l) => some l
  | _ => none)
def lisM (xs : List D) : M (List D) := M.lift (match listD xs with
  | some (.lst l) => some l
  | _ => none)
def getEr (r : Rho) (i : Nat) : Option Nat := match r[i]? with
  | some (.er c) => some c
  | _ => none
def getLa (r : Rho) (i : Nat) : Option Unit := match r[i]? with
  | some .la => some ()
  | _ => none
def Sl.isEr : Sl → Bool
  | .er _ => true
  | _ => false
def bagM (xs : List D) : M D := fun B => .ok (.bag B.length) (B ++ [xs])
section
variable (C : Cf)
mutual
def ev : Pe → Rho → M D
  | .c d, _ => M.ret d
  | .v i, r => M.lift (getV r i)
  | .bin o a b, r => M.bind (ev a r) fun x => M.bind (ev b r) fun y => M.lift (binD o x y)
  | .neg a, r => M.bind (ev a r) fun x => M.lift (match x with
    | .int i => some (.int (-i))
    | _ => none)
  | .nt a, r => M.bind (ev a r) fun x => M.bind (M.lift (truD x)) fun b => M.ret (.bl (!b))
  | .an l, r => evAn l r
  | .or l, r => evOr l r
  | .cmp o a b, r => M.bind (ev a r) fun x => M.bind (ev b r) fun y => M.lift ((cmpD o x y).map .bl)
  | .ch o p a b c, r => M.bind (ev a r) fun x => M.bind (ev b r) fun y => M.bind (M.lift (cmpD o x y)) fun k =>
      if k then M.bind (ev c r) fun z => M.lift ((cmpD p y z).map .bl) else M.ret (.bl false)
  | .ite t a b, r => M.bind (evT t r) fun k => if k then ev a r else ev b r
  | .tup l, r => M.bind (evs l r) fun xs => M.lift (if xs.length ≤ SZ then some (.tup xs) else none)
  | .lst l, r => M.lst (M.bind (evs l r) lstM)
  | .dc, _ => M.ret .dc
  | .ix a i, r => M.bind (ev a r) fun x => M.bind (ev i r) fun y => fun B => M.lift (ixM B x y) B
  | .ixo s i, r => M.bind (M.lift (getO r s)) fun l => M.bind (ev i r) fun y => M.lift (ixD (.lst l) y)
  | .sl a lo hi, r => M.bind (ev a r) fun x => M.bind (evo lo r) fun l => M.bind (M.lift (optI l)) fun l => M.bind (evo hi r) fun h => M.bind (M.lift (optI h)) fun h => M.lift (slD x l h)
  | .rv a, r => M.bind (ev a r) fun x => M.lift (revD x)
  | .lno s, r => M.lift ((getO r s).map fun l => .int l.length)
  | .call f l, r => M.bind (evs l r) fun xs => C.F f xs
  | .bi b l, r => M.bind (evs l r) fun xs => M.lift (biD b xs)
  | .mt m a l, r => M.bind (ev a r) fun x => M.bind (M.lift (lstD x)) fun k => M.bind (evs l r) fun xs => M.lift (mtD m (.lst k) xs)
  | .fld a f, r => M.bind (ev a r) fun x => M.lift (fldD C.fl f x)
  | .mk c l, r => M.bind (evs l r) fun xs => C.nw c xs
  | .lc g k l t e w, r => M.lst (M.bind (evs l r) fun xs => M.bind (M.lift (itD k xs)) fun its =>
      M.calm (lcM (fun d => M.bind (M.lift (setG g d (wipeR r w))) fun r1 => M.bind (evTs t r1) fun b => if b then M.bind (ev e r1) fun x => M.ret (some x) else M.ret none) its))
  | .lc2 g k l g2 k2 l2 t e w, r => M.lst (M.bind (evs l r) fun xs => M.bind (M.lift (itD k xs)) fun its => M.bind (M.calm (lc2M (fun d => M.bind (M.lift (setG g d (wipeR r w))) fun r1 => M.bind (evs l2 r1) fun ys => M.bind (M.lift (itD k2 ys)) fun its2 =>
        lcM (fun d2 => M.bind (M.lift (setG g2 d2 (wipeR r1 (gsl g2)))) fun r2 => M.bind (evTs t r2) fun b => if b then M.bind (ev e r2) fun x => M.ret (some x) else M.ret none) its2) its)) lstM)
  | .tv _, _ => M.stuck
  | .bag l, r => M.bind (evs l r) fun xs => M.bind (lstM xs) bagM
  | .act, r => M.bind (M.lift (getLa r 0)) fun _ => C.ac
  | .lamc f a, r => M.calm (C.lw f (ev a r))
  | .ise s c, r => M.bind (M.lift (getEr r s)) fun c0 => M.ret (.bl (C.xs c0 c))
  | .no, _ => M.stuck
def evo : Option Pe → Rho → M (Option D)
  | none, _ => M.ret none
  | some e, r => M.bind (ev e r) fun x => M.ret (some x)
def evs : List Pe → Rho → M (List D)
  | [], _ => M.ret []
  | e :: es, r => M.bind (ev e r) fun x => M.bind (evs es r) fun xs => M.ret (x :: xs)
/-- and, or as values -/
def evAn : List Pe → Rho → M D
  | [], _ => M.stuck
  | [e], r => ev e r
  | e :: es, r => M.bind (ev e r) fun x => M.bind (M.lift (truD x)) fun b => if b then evAn es r else M.ret x
def evOr : List Pe → Rho → M D
  | [], _ => M.stuck
  | [e], r => ev e r
  | e :: es, r => M.bind (ev e r) fun x => M.bind (M.lift (truD x)) fun b => if b then M.ret x else evOr es r
/-- a test -/
def evT : Pe → Rho → M Bool
  | .nt a, r => M.bind (evT a r) fun b => M.ret (!b)
  | .an l, r => evTan l r
  | .or l, r => evTor l r
  | .cmp o a b, r => M.bind (ev a r) fun x => M.bind (ev b r) fun y => M.lift (cmpD o x y)
  | .ch o p a b c, r => M.bind (ev a r) fun x => M.bind (ev b r) fun y => M.bind (M.lift (cmpD o x y)) fun k =>
      if k then M.bind (ev c r) fun z => M.lift (cmpD p y z) else M.ret false
  | .tv a, r => M.bind (ev a r) fun x => M.lift (truD x)
  | _, _ => M.stuck
def evTs : List Pe → Rho → M Bool
  | [], _ => M.ret true
  | [e], r => evT e r
  | _, _ => M.stuck
def evTan : List Pe → Rho → M Bool
  | [], _ => M.stuck
  | [e], r => evT e r
  | e :: es, r => M.bind (evT e r) fun b => if b then evTan es r else M.ret false
def evTor : List Pe → Rho → M Bool
  | [], _ => M.stuck
  | [e], r => evT e r
  | e :: es, r => M.bind (evT e r) fun b => if b then M.ret true else evTor es r
end
/-- a list that nobody else knows -/
def evF : Pe → Rho → M (List D)
  | .lst l, r => M.bind (evs C l r) lstM
  | .bin .mul (.lst l) k, r => M.bind (M.bind (evs C l r) lstM) fun xs => M.bind (ev C k r) fun y => repM xs y
  | .bi .list l, r => M.bind (evs C l r) lisM
  | .lc g k l t e w, r => M.bind (evs C l r) fun xs => M.bind (M.lift (itD k xs)) fun its =>
      M.calm (lcM (fun d => M.bind (M.lift (setG g d (wipeR r w))) fun r1 => M.bind (evTs C t r1) fun b => if b then M.bind (ev C e r1) fun x => M.ret (some x) else M.ret none) its)
  | .lc2 g k l g2 k2 l2 t e w, r => M.bind (evs C l r) fun xs => M.bind (M.lift (itD k xs)) fun its => M.bind (M.calm (lc2M (fun d => M.bind (M.lift (setG g d (wipeR r w))) fun r1 => M.bind (evs C l2 r1) fun ys => M.bind (M.lift (itD k2 ys)) fun its2 =>
        lcM (fun d2 => M.bind (M.lift (setG g2 d2 (wipeR r1 (gsl g2)))) fun r2 => M.bind (evTs C t r2) fun b => if b then M.bind (ev C e r2) fun x => M.ret (some x) else M.ret none) its2) its)) lstM
  | _, _ => M.stuck
end

/-! ### statements -/
inductive Ps where
  | set (g : Pg) (e : Pe)
  | seto (s : Nat) (e : Pe)
  | par (l : List Nat) (es : List Pe)
  | frz (s : Nat)
  | app (s : Nat) (e : Pe)
  | sto (s : Nat) (i e : Pe)
  | stoa (s : Nat) (o : Bop) (i e : Pe)
  | bst (b i e : Pe)
  | aug (s : Nat) (o : Bop) (e : Pe)
  | ex (e : Pe)
  | ret (e : Pe) | retn | pass | brk | cnt
  | ite (t : Pe) (a b : List Ps)
  | whl (t : Pe) (b : List Ps)
  | fr (g : Pg) (k : Ik) (l : List Pe) (b : List Ps)
  | rse (c : Nat) (l : List Pe)
  | tri (b : Ps) (cs : List Nat) (n : Option Nat) (h : List Ps)
  | fst (s : Nat) (f : Str) (e : Pe)
  | fst2 (s : Nat) (f g : Str) (e : Pe)
  | popo (g : Pg) (s : Nat)
  | paro (i : Nat) (e : Pe) (j : Nat) (f : Pe)
  | no
/-- what follows a statement -/
def thenM (m : M Fl) (k : Rho → M Fl) : M Fl := M.bind m fun f => match f with
  | .nx r => k r
  | f => M.ret f
/-- a loop's turns -/
def forM (g : Pg) (b : Rho → M Fl) : List D → Rho → M Fl
  | [], r => M.ret (.nx r)
  | d :: ds, r => M.bind (M.lift (setG g d r)) fun r1 => M.bind (b r1) fun f => match f with
    | .nx r' => forM g b ds r'
    | .ct r' => forM g b ds r'
    | .bk r' => M.ret (.nx r')
    | .rt d => M.ret (.rt d)
def whN (c : Rho → M Bool) (b : Rho → M Fl) : Nat → Rho → M Fl
  | 0, _ => M.stuck
  | n + 1, r => M.bind (c r) fun k => if k then M.bind (b r) fun f => match f with
      | .nx r' => whN c b n r'
      | .ct r' => whN c b n r'
      | .bk r' => M.ret (.nx r')
      | .rt d => M.ret (.rt d)
    else M.ret (.nx r)
def R.isNo {α : Type} : R α → Bool
  | .no => true
  | _ => false
open Classical in
noncomputable def whC (c : Rho → M Bool) (b : Rho → M Fl) : Rho → M Fl := fun r B => if h : ∃ n, (whN c b n r B).isNo = false then whN c b h.choose r B else .no
def setPar : List Nat → List D → Rho → Option Rho
  | [], [], r => some r
  | i :: l, d :: ds, r => if i < r.length then setPar l ds (r.set i (.v d)) else none
  | _, _, _ => none
def setO (r : Rho) (s : Nat) (l : List D) : Option Rho := if s < r.length then some (r.set s (.o l)) else none
def setV (r : Rho) (s : Nat) (d : D) : Option Rho := if s < r.length then some (r.set s (.v d)) else none
def frzR (s : Nat) (r : Rho) : Option Rho := match r[s]? with
  | some (.o l) => some (r.set s (.v (.lst l)))
  | some (.v d) => some r
  | _ => none
def putAt (l : List D) (j : Int) (d : D) : Option (List D) := (ixN l.length j).map fun n => l.set n d
def stoL (l : List D) : D → D → Option (List D)
  | .int j, d => putAt l j d
  | _, _ => none
def augD : Bop → D → D → Option D
  | .add, .int i, .int j => some (.int (i + j))
  | .sub, .int i, .int j => some (.int (i - j))
  | _, _, _ => none
/-- a field of the instance that is being made -/
def fstL (fl : List Str) (l : List D) (f : Str) (x : D) : Option (List D) := match fl.idxOf? f with
  | some i => if i = l.length then some (l ++ [x]) else if i < l.length then some (l.set i x) else none
  | none => none
def fstR (fl : Nat → List Str) (s : Nat) (f : Str) (x : D) (r : Rho) : Option Rho := match r[s]? with
  | some (.oi c l) => (fstL (fl c) l f x).map fun l' => r.set s (.oi c l')
  | _ => none
/-- an own list's last -/
def popO (r : Rho) (s : Nat) : Option (D × List D) := match getO r s with
  | some l => (l[l.length - 1]?).map fun x => (x, l.dropLast)
  | none => none
/-- try: .., except .. as n: .. -/
def triM (cs : List Nat) (n : Option Nat) (b : M Fl) (h : Rho → M Fl) (r : Rho) : M Fl := fun B => match b B with
  | .ex c B' => if cs.contains c then (match n with
      | none => .no
      | some i => M.bind (M.lift (if i < r.length then some ((List.replicate r.length Sl.e).set i (.er c)) else none)) (fun r1 => M.bind (M.calm (h r1)) fun f => match f with
        | .nx r' => M.lift (if (r'.set i .e).any Sl.isEr then none else some (.nx (r'.set i .e)))
        | .rt d => M.ret (.rt d)
        | _ => M.stuck) B') else .no
  | x => x
/-- a bag's item is stored -/
def bstM (b i x : D) : M Unit := fun B => match b with
  | .bag k => match (B[k]?).bind fun l => stoL l i x with
    | some l => .ok () (B.set k l)
    | none => .no
  | _ => .no
section
variable (C : Cf)
mutual
def run : Ps → Rho → M Fl
  | .set g e, r => M.bind (ev C e r) fun x => M.bind (M.lift (setG g x r)) fun r' => M.ret (.nx r')
  | .seto s e, r => M.bind (evF C e r) fun l => M.lift ((setO r s l).map .nx)
  | .par l es, r => M.bind (evs C es r) fun xs => M.lift ((setPar l xs r).map .nx)
  | .frz s, r => M.lift ((frzR s r).map .nx)
  | .app s e, r => M.bind (M.lift (getO r s)) fun l => M.bind (ev C e r) fun x => M.lift (if l.length < SZ then some (.nx (r.set s (.o (l ++ [x])))) else none)
  | .sto s i e, r => M.bind (ev C e r) fun x => M.bind (M.lift (getO r s)) fun l => M.bind (ev C i r) fun j => M.lift ((stoL l j x).map fun l' => .nx (r.set s (.o l')))
  | .stoa s o i e, r => M.bind (M.lift (getO r s)) fun l => M.bind (ev C i r) fun j => M.bind (M.lift (ixD (.lst l) j)) fun x => M.bind (ev C e r) fun y => M.lift ((augD o x y).bind fun z => (stoL l j z).map fun l' => .nx (r.set s (.o l')))
  | .bst b i e, r => M.bind (ev C e r) fun x => M.bind (ev C b r) fun y => M.bind (ev C i r) fun j => M.bind (bstM y j x) fun _ => M.ret (.nx r)
  | .aug s o e, r => M.bind (M.lift (getV r s)) fun x => M.bind (ev C e r) fun y => M.lift ((augD o x y).bind fun z => (setV r s z).map .nx)
  | .ex e, r => M.bind (ev C e r) fun _ => M.ret (.nx r)
  | .ret e, r => M.bind (ev C e r) fun x => M.ret (.rt x)
  | .retn, _ => M.ret (.rt .non)
  | .pass, r => M.ret (.nx r)
  | .brk, r => M.ret (.bk r)
  | .cnt, r => M.ret (.ct r)
  | .ite t a b, r => M.bind (evT C t r) fun k => if k then runs a r else runs b r
  | .whl t b, r => C.wh (fun r => evT C t r) (fun r => runs b r) r
  | .fr g k l b, r => M.bind (evs C l r) fun xs => M.bind (M.lift (itD k xs)) fun its => forM g (fun r => runs b r) its r
  | .rse c l, r => M.bind (evs C l r) fun xs => fun B => .ex c B
  | .tri b cs n h, r => triM cs n (run b r) (fun r1 => runs h r1) r
  | .fst s f e, r => M.bind (ev C e r) fun x => M.lift ((fstR C.fl s f x r).map .nx)
  | .fst2 s f g e, r => M.bind (ev C e r) fun x => M.lift (match x with
    | .tup [a, b] => (fstR C.fl s f a r).bind fun r1 => (fstR C.fl s g b r1).map .nx
    | _ => none)
  | .popo g s, r => M.bind (M.lift (popO r s)) fun p => M.bind (M.lift (setG g p.1 (r.set s (.o p.2)))) fun r' => M.ret (.nx r')
  | .paro i e j f, r => M.bind (evF C e r) fun l => M.bind (evF C f r) fun k => M.lift ((setO r i l).bind fun r1 => (setO r1 j k).map .nx)
  | .no, _ => M.stuck
def runs : List Ps → Rho → M Fl
  | [], r => M.ret (.nx r)
  | s :: ss, r => thenM (run s r) fun r' => runs ss r'
end
end
end Pl

-- part P3
set_option maxHeartbeats 4000000
/-! The pure layer 3: slots, what is wanted of a step. -/
namespace Pl
open PySem PySem.Spec PyProof.Rows L2

/-! ### slots -/
def SlR (W : Wd) (g : Gs) (H : Hp) : Sl → Option (Option V) → Prop
  | .e, _ => True
  | .v d, x => ∃ y, x = some (some y) ∧ Rp W g d y
  | .o l, x => ∃ a xs, x = some (some (.ref a)) ∧ H a = some (.lst xs) ∧ g.Z a = none ∧ a ∉ g.b ∧ RpL W g l xs
  | .oi c l, x => ∃ a dx xs, x = some (some (.ref a)) ∧ H a = some (.ins (W.ca c) dx ((W.fl c).zip xs)) ∧ g.Z a = none ∧ a ∉ g.b ∧ H dx = some (.own a) ∧ g.Z dx = none ∧ dx ∉ g.b ∧ RpL W g l xs ∧ l.length ≤ (W.fl c).length ∧ a = dx + 1 ∧ g.e = some (a, 0)
  | .er c, x => ∃ a, W.e = some (a, c) ∧ x = some (some (.ref a))
  | .la, x => ∃ f c' φ, W.l = some (f, c', φ) ∧ x = some (some (.ref f)) ∧ H c' = some (.ext φ) ∧ c' ∉ g.b
def Sl.own : Sl → Bool
  | .o _ => true
  | .oi _ _ => true
  | _ => false
structure EnvR (W : Wd) (g : Gs) (H : Hp) (r : Rho) (σ : L2.St) : Prop where
  len : r.length = σ.length
  sl : ∀ (i : Nat) (s : Sl), r[i]? = some s → SlR W g H s σ[i]?
  ap : ∀ (i j : Nat) (s t : Sl) (a : Addr), r[i]? = some s → r[j]? = some t → s.own = true → t.own = true → σ[i]? = some (some (.ref a)) → σ[j]? = some (some (.ref a)) → i = j
theorem nt_ins {C dx : Addr} {fs : List (Str × V)} : ∀ ps, HO.ins C dx fs ≠ .tbl ps := fun _ z => by cases z
theorem nt_ext {f : Heap → Prop} : ∀ ps, HO.ext f ≠ .tbl ps := fun _ z => by cases z
theorem nt_own {a : Addr} : ∀ ps, HO.own a ≠ .tbl ps := fun _ z => by cases z
theorem nt_tup {xs : List V} : ∀ ps, HO.tup xs ≠ .tbl ps := fun _ z => by cases z
theorem nt_dK {xs : List (Key × V)} : ∀ ps, HO.dK xs ≠ .tbl ps := fun _ z => by cases z
theorem Stp.nb {g g' : Gs} {H H' : Hp} (s : Stp g H g' H') {a : Addr} {o : HO} (h : H a = some o) (n : a ∉ g.b) (k : ∀ ps, o ≠ .tbl ps) : a ∉ g'.b := fun z => by
  obtain ⟨ps, e⟩ := s.bn a z n o h
  exact k ps e
theorem SlR.up {W : Wd} {g g' : Gs} {H H' : Hp} (s : Stp g H g' H') : ∀ {sl : Sl} {x : Option (Option V)}, SlR W g H sl x → SlR W g' H' sl x
  | .e, _, h => h
  | .v d, _, ⟨y, h1, h2⟩ => ⟨y, h1, Rp.up s.grow d y h2⟩
  | .o l, _, ⟨a, xs, h1, h2, h3, h4, h5⟩ => ⟨a, xs, h1, s.h a _ h2 h4 nt_lst, by rw [s.zn a _ h2 nt_lst]; exact h3, s.nb h2 h4 nt_lst, RpL.up s.grow l xs h5⟩
  | .oi c l, _, ⟨a, dx, xs, h1, h2, h3, h4, h5, h6, h7, h8, h9⟩ =>
    ⟨a, dx, xs, h1, s.h a _ h2 h4 nt_ins, by rw [s.zn a _ h2 nt_ins]; exact h3, s.nb h2 h4 nt_ins, s.h dx _ h5 h7 nt_own, by rw [s.zn dx _ h5 nt_own]; exact h6, s.nb h5 h7 nt_own, RpL.up s.grow l xs h8, h9.1, h9.2.1, by rw [s.e]; exact h9.2.2⟩
  | .er c, _, h => h
  | .la, _, ⟨f, c', φ, h1, h2, h3, h4⟩ => ⟨f, c', φ, h1, h2, s.h c' _ h3 h4 nt_ext, s.nb h3 h4 nt_ext⟩
theorem EnvR.up {W : Wd} {g g' : Gs} {H H' : Hp} {r : Rho} {σ : L2.St} (e : EnvR W g H r σ) (s : Stp g H g' H') : EnvR W g' H' r σ :=
  ⟨e.len, fun i sl h => (e.sl i sl h).up s, e.ap⟩

/-! ### what is wanted -/
section
variable (W : Wd) (Wx : WX)
def OutR {β : Type} (g : Gs) (H : Hp) (σ : L2.St) (r : R β) (q : β → Bs → Prop) : Prop := match r with
  | .ok b B => q b B
  | .ex c B => ∀ g' H', Stp g H g' H' → Ok W g' B H' → Wx (.ref (W.ca c)) none σ H'
  | .no => False
def okE (g : Gs) (H : Hp) (Q : VK) : D → Bs → Prop := fun d B => ∀ g' H' v, Stp g H g' H' → Ok W g' B H' → Rp W g' d v → Q v H'
def okT (g : Gs) (H : Hp) (Q : Bool → Hp → Prop) : Bool → Bs → Prop := fun b B => ∀ g' H', Stp g H g' H' → Ok W g' B H' → Q b H'
def okA (g : Gs) (H : Hp) (Q : List V → Hp → Prop) : List D → Bs → Prop := fun ds B => ∀ g' H' vs, Stp g H g' H' → Ok W g' B H' → RpL W g' ds vs → Q vs H'
/-- a list that nobody else knows -/
def okF (g : Gs) (H : Hp) (Q : VK) : List D → Bs → Prop := fun ds B => ∀ g' H' p xs, Stp g H g' H' → Ok W g' B H' → RpL W g' ds xs → H' p = some (.lst xs) → g'.Z p = none → p ∉ g'.b → Vac H p → Q (.ref p) H'
def tE (f : Rho → M D) : TE := fun σ H Q => ∃ r g B, Ok W g B H ∧ EnvR W g H r σ ∧ OutR W Wx g H σ (f r B) (okE W g H Q)
def tT (f : Rho → M Bool) : TT := fun σ H Q => ∃ r g B, Ok W g B H ∧ EnvR W g H r σ ∧ OutR W Wx g H σ (f r B) (okT W g H Q)
def tA (f : Rho → M (List D)) : TA := fun σ H Q => ∃ r g B, Ok W g B H ∧ EnvR W g H r σ ∧ OutR W Wx g H σ (f r B) (okA W g H Q)
def tF (f : Rho → M (List D)) : TE := fun σ H Q => ∃ r g B, Ok W g B H ∧ EnvR W g H r σ ∧ OutR W Wx g H σ (f r B) (okF W g H Q)
end
section
variable {W : Wd} {Wx : WX} {g g1 g2 : Gs} {B : Bs} {H H1 H2 : Hp} {σ : L2.St} {r : Rho} {α β : Type}
theorem OutR.bind {m : M α} {k : α → M β} {q : β → Bs → Prop} (h : OutR W Wx g H σ (M.bind m k B) q) : OutR W Wx g H σ (m B) fun a B1 => OutR W Wx g H σ (k a B1) q := by
  unfold M.bind at h
  cases e : m B with
  | ok a B1 => rw [e] at h; exact h
  | ex c B1 => rw [e] at h; exact h
  | no => rw [e] at h; exact h
theorem OutR.mono {x : R β} {q q' : β → Bs → Prop} (h : OutR W Wx g H σ x q) (k : ∀ b B, q b B → q' b B) : OutR W Wx g H σ x q' := by
  cases x with
  | ok a B1 => exact k a B1 h
  | ex c B1 => exact h
  | no => exact h
/-- the same from a later state -/
theorem OutR.from {x : R β} {q q' : β → Bs → Prop} (h : OutR W Wx g H σ x q) (s : Stp g H g1 H1) (k : ∀ b B, q b B → q' b B) : OutR W Wx g1 H1 σ x q' := by
  cases x with
  | ok a B1 => exact k a B1 h
  | ex c B1 => exact fun g' H' s' o => h g' H' (s.trans s') o
  | no => exact h
theorem OutR.lift {o : Option β} {q : β → Bs → Prop} (h : OutR W Wx g H σ (M.lift o B) q) : ∃ b, o = some b ∧ q b B := by
  cases o with
  | none => exact h.elim
  | some b => exact ⟨b, rfl, h⟩
theorem _root_.L2.PE.imp {X : Cx} {e : Expr} {t t' : TE} (h : PE X e t) (k : ∀ σ H Q, t' σ H Q → t σ H Q) : PE X e t' := ⟨fun pins s σ H Q I q => h.run pins s σ H Q I (k σ H Q q)⟩
theorem _root_.L2.PT.imp {X : Cx} {e : Expr} {t t' : TT} (h : PT X e t) (k : ∀ σ H Q, t' σ H Q → t σ H Q) : PT X e t' := ⟨fun pins s σ H Q I q => h.run pins s σ H Q I (k σ H Q q)⟩
theorem _root_.L2.PA.imp {X : Cx} {e : List Expr} {t t' : TA} (h : PA X e t) (k : ∀ σ H Q, t' σ H Q → t σ H Q) : PA X e t' := ⟨fun pos pins s σ H Q I q => h.run pos pins s σ H Q I (k σ H Q q)⟩
theorem _root_.L2.PS.imp {X : Cx} {e : Stmt} {t t' : TS} (h : PS X e t) (k : ∀ D σ H, t' D σ H → t D σ H) : PS X e t' := ⟨fun pins s σ H D I q => h.run pins s σ H D I (k D σ H q)⟩
theorem _root_.L2.PSs.imp {X : Cx} {e : List Stmt} {t t' : TS} (h : PSs X e t) (k : ∀ D σ H, t' D σ H → t D σ H) : PSs X e t' := ⟨fun pins s σ H D I q => h.run pins s σ H D I (k D σ H q)⟩
/-- an expression is run from a state that was reached: what is wanted is told of the outcome -/
theorem tE.go {f : Rho → M D} {Q : VK} (ok : Ok W g1 B H1) (er : EnvR W g1 H1 r σ) {q : D → Bs → Prop} (s : Stp g H g1 H1) (h : OutR W Wx g H σ (f r B) q)
    (k : ∀ d B2 g2 H2 v, q d B2 → Stp g H g2 H2 → Stp g1 H1 g2 H2 → Ok W g2 B2 H2 → Rp W g2 d v → Q v H2) : tE W Wx f σ H1 Q :=
  ⟨r, g1, B, ok, er, h.from s fun d B2 hq g2 H2 v s2 o2 r2 => k d B2 g2 H2 v hq (s.trans s2) s2 o2 r2⟩
theorem tT.go {f : Rho → M Bool} {Q : Bool → Hp → Prop} (ok : Ok W g1 B H1) (er : EnvR W g1 H1 r σ) {q : Bool → Bs → Prop} (s : Stp g H g1 H1) (h : OutR W Wx g H σ (f r B) q)
    (k : ∀ d B2 g2 H2, q d B2 → Stp g H g2 H2 → Stp g1 H1 g2 H2 → Ok W g2 B2 H2 → Q d H2) : tT W Wx f σ H1 Q :=
  ⟨r, g1, B, ok, er, h.from s fun d B2 hq g2 H2 s2 o2 => k d B2 g2 H2 hq (s.trans s2) s2 o2⟩
theorem tA.go {f : Rho → M (List D)} {Q : List V → Hp → Prop} (ok : Ok W g1 B H1) (er : EnvR W g1 H1 r σ) {q : List D → Bs → Prop} (s : Stp g H g1 H1) (h : OutR W Wx g H σ (f r B) q)
    (k : ∀ d B2 g2 H2 v, q d B2 → Stp g H g2 H2 → Stp g1 H1 g2 H2 → Ok W g2 B2 H2 → RpL W g2 d v → Q v H2) : tA W Wx f σ H1 Q :=
  ⟨r, g1, B, ok, er, h.from s fun d B2 hq g2 H2 v s2 o2 r2 => k d B2 g2 H2 v hq (s.trans s2) s2 o2 r2⟩
/-- a fresh list, frozen at once -/
theorem tF.ice {f : Rho → M (List D)} {Q : VK} (h : tE W Wx (fun r => M.bind (f r) fun l => M.ret (.lst l)) σ H Q) : tF W Wx f σ H Q := by
  obtain ⟨r, g, B, ok, er, h⟩ := h
  refine ⟨r, g, B, ok, er, h.bind.mono fun l B1 q g' H' p xs s o rl hp hz nb hn => ?_⟩
  have nt : ∀ ps, HO.lst xs ≠ .tbl ps := nt_lst
  have o2 := o.freeze hp hz nb nt
  have gr : Grow g' (g'.ice p (.lst xs)) := grow_ice hz
  have s2 : Stp g H (g'.ice p (.lst xs)) H' := ⟨s.grow.trans gr, fun a u h n => by
    have : a ≠ p := ne_of_vac h n hn
    show upd g'.Z p _ a = _
    rw [upd_ne this]
    exact s.zn a u h n, s.bn, s.h, s.hb, s.e⟩
  exact q (g'.ice p (.lst xs)) H' (.ref p) s2 o2 ⟨p, xs, rfl, upd_same, RpL.up gr l xs rl⟩
end
theorem isz : (sizeLine : Nat) = SZ := by rw [sizeLine_eq]

/-! ### operators by values -/
section
variable {X : Cx}
/-- what binD says, of any two values -/
def rBin (W : Wd) (o : Bop) : R2 := fun x y H Q => ∃ g B d e f, Ok W g B H ∧ Rp W g d x ∧ Rp W g e y ∧ binD o d e = some f ∧ okE W g H Q f B
theorem ite_some {α : Type} {c : Prop} [Decidable c] {a b : α} (h : (if c then some a else none) = some b) : c ∧ a = b := by
  by_cases e : c
  · rw [if_pos e] at h
    exact ⟨e, Option.some.inj h⟩
  · rw [if_neg e] at h
    cases h
theorem opAdd {W : Wd} (hK : X.K = W.K) : OpR X (binaryOp .Add) (rBin W .add) := by
  intro pins s σ H x y v u Q I rx ry ⟨g, B, d, e, f, ok, rd, re, hf, q⟩
  cases d with
  | int i => cases e with
    | int j =>
      cases hf
      have rd : x = .int i := rd
      have re : y = .int j := re
      exact op_add pins s σ H x y v u Q I rx ry ⟨i, j, rd, re, q g H _ (Stp.refl ok) ok rfl⟩
    | _ => cases hf
  | str a => cases e with
    | str b =>
      obtain ⟨h1, rfl⟩ := ite_some hf
      have rd : x = .str a := rd
      have re : y = .str b := re
      exact op_add_str pins s σ H x y v u Q I rx ry ⟨a, b, rd, re, by rw [isz]; exact h1, q g H _ (Stp.refl ok) ok rfl⟩
    | _ => cases hf
  | tup a => cases e with
    | tup b =>
      obtain ⟨h1, rfl⟩ := ite_some hf
      obtain ⟨p, xs, rfl, sx, lx⟩ := rd
      obtain ⟨p', ys, rfl, sy, ly⟩ := re
      refine op_catA pins s σ H _ _ v u Q I rx ry ⟨p, p', xs, ys, rfl, rfl, by rw [hK]; exact sqT_up ok.ice sx, by rw [hK]; exact sqT_up ok.ice sy, by rw [lx.length, ly.length, isz]; exact h1, fun z => ?_, fun _ z => ?_, fun n1 n2 t nt => ?_⟩
      · subst z
        have ea : a = [] := List.eq_nil_of_length_eq_zero lx.length.symm
        subst ea
        exact q g H _ (Stp.refl ok) ok ⟨p', ys, rfl, sy, ly⟩
      · subst z
        have eb : b = [] := List.eq_nil_of_length_eq_zero ly.length.symm
        subst eb
        rw [List.append_nil] at q
        exact q g H _ (Stp.refl ok) ok ⟨p, xs, rfl, sx, lx⟩
      · have gr : Grow g (g.ice t (.tup (xs ++ ys))) := grow_ice (ok.zfree nt)
        exact q _ _ _ (Stp.newI ok nt) (ok.newI nt nt_tup) ⟨t, xs ++ ys, rfl, .inl (.inl ice_at), RpL.up gr _ _ (lx.app ly)⟩
    | _ => cases hf
  | lst a => cases e with
    | lst b =>
      obtain ⟨h1, rfl⟩ := ite_some hf
      obtain ⟨p, xs, rfl, sx, lx⟩ := rd
      obtain ⟨p', ys, rfl, sy, ly⟩ := re
      refine op_cat pins s σ H _ _ v u Q I rx ry ⟨p, p', xs, ys, rfl, rfl, ok.ice _ _ sx, ok.ice _ _ sy, by rw [lx.length, ly.length, isz]; exact h1, fun t nt => ?_⟩
      have gr : Grow g (g.ice t (.lst (xs ++ ys))) := grow_ice (ok.zfree nt)
      exact q _ _ _ (Stp.newI ok nt) (ok.newI nt nt_lst) ⟨t, xs ++ ys, rfl, ice_at, RpL.up gr _ _ (lx.app ly)⟩
    | _ => cases hf
  | _ => cases hf
end
end Pl

-- part P4
set_option maxHeartbeats 4000000
/-! The pure layer 4: operators, comparisons, subscripts, built-ins by values. -/
namespace Pl
open PySem PySem.Spec PyProof.Rows L2
section
variable {X : Cx} {W : Wd}
theorem rp_int {g : Gs} {i : Int} {x : V} (h : Rp W g (.int i) x) : x = .int i := h
theorem rp_bl {g : Gs} {i : Bool} {x : V} (h : Rp W g (.bl i) x) : x = .bl i := h
theorem rp_str {g : Gs} {i : Str} {x : V} (h : Rp W g (.str i) x) : x = .str i := h
theorem rp_non {g : Gs} {x : V} (h : Rp W g .non x) : x = .non := h
theorem opSub : OpR X (binaryOp .Sub) (rBin W .sub) := by
  intro pins s σ H x y v u Q I rx ry ⟨g, B, d, e, f, ok, rd, re, hf, q⟩
  cases d with
  | int i => cases e with
    | int j =>
      cases hf
      exact op_sub pins s σ H x y v u Q I rx ry ⟨i, j, rd, re, q g H _ (Stp.refl ok) ok rfl⟩
    | _ => cases hf
  | bl i => cases e with
    | bl j =>
      cases hf
      have rd : x = .bl i := rd
      have re : y = .bl j := re
      subst rd re
      cases rx
      cases ry
      exact PyProof.Rows.sub_bool ⟨.int ((if i then 1 else 0) - (if j then 1 else 0)), H, I.tok _, ⟨_, rfl⟩, q g H _ (Stp.refl ok) ok rfl⟩
    | _ => cases hf
  | _ => cases hf
theorem opMod : OpR X (binaryOp .Mod) (rBin W .mod) := by
  intro pins s σ H x y v u Q I rx ry ⟨g, B, d, e, f, ok, rd, re, hf, q⟩
  cases d with
  | int i => cases e with
    | int j =>
      obtain ⟨h1, rfl⟩ := ite_some hf
      exact op_modN pins s σ H x y v u Q I rx ry ⟨i, j, rd, re, h1, q g H _ (Stp.refl ok) ok rfl⟩
    | _ => cases hf
  | _ => cases hf
theorem opDivAny : OpR X (binaryOp .FloorDiv) (rI (fun _ j => j ≠ 0 ∧ j.natAbs.log2 < 9000) fun i j => .int (i.fdiv j)) :=
  opI fun i j _ _ _ _ _ hc q => floordiv_int hc.1 q (.inl (PyProof.noPylong_of_log2 hc.2))
theorem opDiv : OpR X (binaryOp .FloorDiv) (rBin W .fdiv) := by
  intro pins s σ H x y v u Q I rx ry ⟨g, B, d, e, f, ok, rd, re, hf, q⟩
  cases d with
  | int i => cases e with
    | int j =>
      obtain ⟨h1, rfl⟩ := ite_some hf
      unfold divOk at h1
      simp only [Bool.and_eq_true, decide_eq_true_eq] at h1
      exact opDivAny pins s σ H x y v u Q I rx ry ⟨i, j, rd, re, h1, q g H _ (Stp.refl ok) ok rfl⟩
    | _ => cases hf
  | _ => cases hf
theorem opPow : OpR X (binaryOp .Pow) (rBin W .pow) := by
  intro pins s σ H x y v u Q I rx ry ⟨g, B, d, e, f, ok, rd, re, hf, q⟩
  cases d with
  | int i => cases e with
    | int j =>
      obtain ⟨h1, rfl⟩ := ite_some hf
      unfold powOk at h1
      simp only [Bool.and_eq_true, decide_eq_true_eq] at h1
      exact op_pow pins s σ H x y v u Q I rx ry ⟨i, j, rd, re, ⟨h1.1.1, h1.1.2, h1.2⟩, q g H _ (Stp.refl ok) ok rfl⟩
    | _ => cases hf
  | _ => cases hf
theorem RpL.flat {g : Gs} {ds : List D} {xs : List V} (h : RpL W g ds xs) : ∀ n : Nat, RpL W g (List.replicate n ds).flatten (List.replicate n xs).flatten
  | 0 => RpL.nil
  | n + 1 => by
    rw [List.replicate_succ, List.replicate_succ, List.flatten_cons, List.flatten_cons]
    exact h.app (RpL.flat h n)
theorem opMul (hK : X.K = W.K) : OpR X (binaryOp .Mult) (rBin W .mul) := by
  intro pins s σ H x y v u Q I rx ry ⟨g, B, d, e, f, ok, rd, re, hf, q⟩
  cases d with
  | int i => cases e with
    | int j =>
      obtain ⟨h1, rfl⟩ := ite_some hf
      exact op_mulW pins s σ H x y v u Q I rx ry ⟨i, j, rd, re, show i.natAbs.log2 + j.natAbs.log2 < 1000000 from of_decide_eq_true h1, q g H _ (Stp.refl ok) ok rfl⟩
    | _ => cases hf
  | tup l => cases e with
    | int k =>
      obtain ⟨⟨h1, h2, h3⟩, rfl⟩ : ((l.length ≤ 1000 ∧ -1000 ≤ k ∧ k ≤ 1000) ∧ D.tup (List.replicate k.toNat l).flatten = f) := ite_some hf
      obtain ⟨p, xs, rfl, sx, lx⟩ := rd
      refine op_repTA pins s σ H _ _ v u Q I rx ry ⟨p, k, xs, rfl, re, by rw [hK]; exact sqT_up ok.ice sx, by omega, h3, by rw [lx.length]; exact h1, fun z => ?_, fun n t nt => ?_⟩
      · have e : (List.replicate k.toNat l).flatten = l := by
          rcases z with z | z
          · subst z
            have el : l = [] := List.eq_nil_of_length_eq_zero lx.length.symm
            subst el
            simp
          · subst z
            simp
        rw [e] at q
        exact q g H _ (Stp.refl ok) ok ⟨p, xs, rfl, sx, lx⟩
      · have gr : Grow g (g.ice t (.tup (List.replicate k.toNat xs).flatten)) := grow_ice (ok.zfree nt)
        exact q _ _ _ (Stp.newI ok nt) (ok.newI nt nt_tup) ⟨t, _, rfl, .inl (.inl ice_at), RpL.up gr _ _ (lx.flat _)⟩
    | _ => cases hf
  | lst l => cases e with
    | int k =>
      obtain ⟨⟨h1, h2, h3⟩, rfl⟩ : ((l.length ≤ 1000 ∧ -1000 ≤ k ∧ k ≤ 1000) ∧ D.lst (List.replicate k.toNat l).flatten = f) := ite_some hf
      obtain ⟨p, xs, rfl, sx, lx⟩ := rd
      refine op_rep pins s σ H _ _ v u Q I rx ry ⟨p, k, xs, rfl, re, ok.ice _ _ sx, by omega, by omega, ?_, fun t nt => ?_⟩
      · rw [lx.length, isz]
        have a1 : l.length * k.toNat ≤ 1000 * 1000 := Nat.mul_le_mul h1 (by omega)
        show l.length * k.toNat ≤ 16777216
        omega
      · have gr : Grow g (g.ice t (.lst (List.replicate k.toNat xs).flatten)) := grow_ice (ok.zfree nt)
        exact q _ _ _ (Stp.newI ok nt) (ok.newI nt nt_lst) ⟨t, _, rfl, ice_at, RpL.up gr _ _ (lx.flat _)⟩
    | _ => cases hf
  | _ => cases hf
def opOf : Bop → Operator
  | .add => .Add
  | .sub => .Sub
  | .mul => .Mult
  | .fdiv => .FloorDiv
  | .mod => .Mod
  | .pow => .Pow
theorem opBin (hK : X.K = W.K) : ∀ o : Bop, OpR X (binaryOp (opOf o)) (rBin W o)
  | .add => opAdd hK
  | .sub => opSub
  | .mul => opMul hK
  | .fdiv => opDiv
  | .mod => opMod
  | .pow => opPow

/-! ### comparisons -/
def rCmp (W : Wd) (o : Cop) : R2 := fun x y H Q => ∃ g B d e f, Ok W g B H ∧ Rp W g d x ∧ Rp W g e y ∧ cmpD o d e = some f ∧ ∀ g' H', Stp g H g' H' → Ok W g' B H' → Q (.bl f) H'
theorem opLt : OpR X (compareOp .Lt) (rCmp W .lt) := by
  intro pins s σ H x y v u Q I rx ry ⟨g, B, d, e, f, ok, rd, re, hf, q⟩
  cases d with
  | int i => cases e with
    | int j =>
      cases hf
      exact op_lt pins s σ H x y v u Q I rx ry ⟨i, j, rd, re, q g H (Stp.refl ok) ok⟩
    | _ => cases hf
  | _ => cases hf
theorem opLe : OpR X (compareOp .LtE) (rCmp W .le) := by
  intro pins s σ H x y v u Q I rx ry ⟨g, B, d, e, f, ok, rd, re, hf, q⟩
  cases d with
  | int i => cases e with
    | int j =>
      cases hf
      exact op_le pins s σ H x y v u Q I rx ry ⟨i, j, rd, re, q g H (Stp.refl ok) ok⟩
    | _ => cases hf
  | _ => cases hf
theorem opGt : OpR X (compareOp .Gt) (rCmp W .gt) := by
  intro pins s σ H x y v u Q I rx ry ⟨g, B, d, e, f, ok, rd, re, hf, q⟩
  cases d with
  | int i => cases e with
    | int j =>
      cases hf
      exact op_gt pins s σ H x y v u Q I rx ry ⟨i, j, rd, re, q g H (Stp.refl ok) ok⟩
    | _ => cases hf
  | _ => cases hf
theorem opGe : OpR X (compareOp .GtE) (rCmp W .ge) := by
  intro pins s σ H x y v u Q I rx ry ⟨g, B, d, e, f, ok, rd, re, hf, q⟩
  cases d with
  | int i => cases e with
    | int j =>
      cases hf
      exact op_ge pins s σ H x y v u Q I rx ry ⟨i, j, rd, re, q g H (Stp.refl ok) ok⟩
    | _ => cases hf
  | _ => cases hf
mutual
theorem dp_of {g : Gs} {B : Bs} {H : Hp} (ok : Ok W g B H) : ∀ (d : D) (e : PyData) (x : V), toPd d = some e → Rp W g d x → Dp W.K H x e
  | .non, e, x, h, r => by
    cases h
    have r : x = .non := r
    subst r
    exact .non
  | .bl b, e, x, h, r => by
    cases h
    have r : x = .bl b := r
    subst r
    exact .bl b
  | .int b, e, x, h, r => by
    cases h
    have r : x = .int b := r
    subst r
    exact .int b
  | .str b, e, x, h, r => by
    cases h
    have r : x = .str b := r
    subst r
    exact .str b
  | .tup l, e, x, h, ⟨a, xs, r1, r2, r3⟩ => by
    subst r1
    cases q : toPds l with
    | none =>
      simp only [toPd, q] at h
      cases h
    | some es =>
      simp only [toPd, q] at h
      cases h
      exact .tup (sqT_up ok.ice r2) (dps_of ok l es xs q r3)
  | .lst l, e, x, h, ⟨a, xs, r1, r2, r3⟩ => by
    subst r1
    cases q : toPds l with
    | none =>
      simp only [toPd, q] at h
      cases h
    | some es =>
      simp only [toPd, q] at h
      cases h
      exact .lst (.inl (.inl (ok.ice _ _ r2))) (dps_of ok l es xs q r3)
  | .scr _, e, x, h, r => by cases h
  | .dc, e, x, h, r => by cases h
  | .obj _ _, e, x, h, r => by cases h
  | .fn _, e, x, h, r => by cases h
  | .cl _, e, x, h, r => by cases h
  | .ty _, e, x, h, r => by cases h
  | .bag _, e, x, h, r => by cases h
  | .lam _ _, e, x, h, r => by cases h
theorem dps_of {g : Gs} {B : Bs} {H : Hp} (ok : Ok W g B H) : ∀ (d : List D) (e : List PyData) (x : List V), toPds d = some e → RpL W g d x → DpAll W.K H x e
  | [], e, x, h, r => by
    cases h
    have r : x = [] := r
    subst r
    exact .nil
  | d :: ds, e, x, h, ⟨y, ys, r1, r2, r3⟩ => by
    subst r1
    simp only [toPds] at h
    cases q1 : toPd d with
    | none => rw [q1] at h; cases h
    | some e1 =>
      cases q2 : toPds ds with
      | none => rw [q1, q2] at h; cases h
      | some es =>
        rw [q1, q2] at h
        cases h
        exact .cons (dp_of ok d e1 y q1 r2) (dps_of ok ds es ys q2 r3)
end
theorem eqD_some {d e : D} {b : Bool} (h : eqD d e = some b) : ∃ p q, toPd d = some p ∧ toPd e = some q ∧ SeqAt.shaped p = true ∧ SeqAt.shaped q = true ∧ PyData.eqv p q = b := by
  unfold eqD at h
  cases q1 : toPd d with
  | none => rw [q1] at h; cases h
  | some p => cases q2 : toPd e with
    | none => rw [q1, q2] at h; cases h
    | some q =>
      rw [q1, q2] at h
      have h : (if (SeqAt.shaped p && SeqAt.shaped q) = true then some (PyData.eqv p q) else none) = some b := h
      obtain ⟨h1, h2⟩ := ite_some h
      obtain ⟨h3, h4⟩ := Bool.and_eq_true_iff.mp h1
      exact ⟨p, q, rfl, rfl, h3, h4, h2⟩
theorem opEq (hK : X.K = W.K) (hu : X.A.units + 64 < cLine) : OpR X (compareOp .Eq) (rCmp W .eq) := by
  intro pins s σ H x y v u Q I rx ry ⟨g, B, d, e, f, ok, rd, re, hf, q⟩
  obtain ⟨p, q', h1, h2, h3, h4, h5⟩ := eqD_some (show eqD d e = some f from hf)
  subst h5
  exact op_eqD hu pins s σ H x y v u Q I rx ry ⟨p, q', by rw [hK]; exact dp_of ok d p x h1 rd, by rw [hK]; exact dp_of ok e q' y h2 re, h3, h4, q g H (Stp.refl ok) ok⟩
theorem opNe (hK : X.K = W.K) (hu : X.A.units + 64 < cLine) : OpR X (compareOp .NotEq) (rCmp W .ne) := by
  intro pins s σ H x y v u Q I rx ry ⟨g, B, d, e, f, ok, rd, re, hf, q⟩
  have hf : (eqD d e).map (!·) = some f := hf
  cases z : eqD d e with
  | none => rw [z] at hf; cases hf
  | some b =>
    rw [z] at hf
    cases hf
    obtain ⟨p, q', h1, h2, h3, h4, h5⟩ := eqD_some z
    subst h5
    exact op_neD hu pins s σ H x y v u Q I rx ry ⟨p, q', by rw [hK]; exact dp_of ok d p x h1 rd, by rw [hK]; exact dp_of ok e q' y h2 re, h3, h4, q g H (Stp.refl ok) ok⟩
theorem rp_nonn {g : Gs} {d : D} {x : V} (r : Rp W g d x) (h : d ≠ .non) : x ≠ .non := by
  intro z
  subst z
  cases d with
  | non => exact h rfl
  | bl b => cases (show V.non = .bl b from r)
  | int b => cases (show V.non = .int b from r)
  | str b => cases (show V.non = .str b from r)
  | tup l => obtain ⟨a, xs, r1, _⟩ := r; cases r1
  | lst l => obtain ⟨a, xs, r1, _⟩ := r; cases r1
  | scr l => obtain ⟨a, xs, r1, _⟩ := r; cases r1
  | dc => obtain ⟨a, r1, _⟩ := r; cases r1
  | obj c l => obtain ⟨a, dx, xs, r1, _⟩ := r; cases r1
  | fn i => cases (show V.non = .ref _ from r)
  | cl i => cases (show V.non = .ref _ from r)
  | ty i => cases (show V.non = .ty _ from r)
  | bag i => obtain ⟨a, r1, _⟩ := r; cases r1
  | lam i l => exact r
  | err c => exact r
theorem opIs : OpR X (compareOp .Is) (rCmp W .is) := by
  intro pins s σ H x y v u Q I rx ry ⟨g, B, d, e, f, ok, rd, re, hf, q⟩
  cases e with
  | non =>
    have re := rp_non re
    refine op_isN pins s σ H x y v u Q I rx ry ⟨re, ?_⟩
    have e2 : decide (x = .non) = f := by
      cases d with
      | non => cases hf; rw [rp_non rd]; rfl
      | lam i l => cases hf
      | _ => cases hf; exact decide_eq_false (rp_nonn rd (by intro z; cases z))
    rw [e2]
    exact q g H (Stp.refl ok) ok
  | bl b => cases d with
    | bl a =>
      cases hf
      exact op_isBl pins s σ H x y v u Q I rx ry ⟨a, b, rp_bl rd, rp_bl re, q g H (Stp.refl ok) ok⟩
    | _ => cases hf
  | _ => cases d <;> cases hf
theorem opIsn : OpR X (compareOp .IsNot) (rCmp W .isn) := by
  intro pins s σ H x y v u Q I rx ry ⟨g, B, d, e, f, ok, rd, re, hf, q⟩
  cases e with
  | non =>
    have re := rp_non re
    refine op_notN pins s σ H x y v u Q I rx ry ⟨re, ?_⟩
    have e2 : (!decide (x = .non)) = f := by
      cases d with
      | non => cases hf; rw [rp_non rd]; rfl
      | lam i l => cases hf
      | _ => cases hf; rw [decide_eq_false (rp_nonn rd (by intro z; cases z))]; rfl
    rw [e2]
    exact q g H (Stp.refl ok) ok
  | bl b => cases d with
    | bl a =>
      cases hf
      exact op_notBl pins s σ H x y v u Q I rx ry ⟨a, b, rp_bl rd, rp_bl re, q g H (Stp.refl ok) ok⟩
    | _ => cases hf
  | _ => cases d <;> cases hf
theorem flat_of {g : Gs} {d : D} {x : V} (r : Rp W g d x) (h : flatD d = true) : flatV x = true := by
  cases d with
  | non => rw [rp_non r]; rfl
  | bl b => rw [rp_bl r]; rfl
  | int b => rw [rp_int r]; rfl
  | str b => rw [rp_str r]; rfl
  | _ => cases h
theorem flats_of {g : Gs} : ∀ {ds : List D} {xs : List V}, RpL W g ds xs → ds.all flatD = true → xs.all flatV = true
  | [], xs, r, _ => by
    have r : xs = [] := r
    subst r
    rfl
  | d :: ds, _, ⟨y, ys, r1, r2, r3⟩, h => by
    subst r1
    rw [List.all_cons, Bool.and_eq_true] at h
    rw [List.all_cons, Bool.and_eq_true]
    exact ⟨flat_of r2 h.1, flats_of r3 h.2⟩
theorem eqF_of {g : Gs} {d e : D} {x y : V} (r : Rp W g d x) (r2 : Rp W g e y) (h : flatD d = true) (h2 : flatD e = true) : eqV x y = eqF d e := by
  cases d with
  | non => rw [rp_non r]; cases e with
    | non => rw [rp_non r2]; rfl
    | bl b => rw [rp_bl r2]; rfl
    | int b => rw [rp_int r2]; rfl
    | str b => rw [rp_str r2]; rfl
    | _ => cases h2
  | bl a => rw [rp_bl r]; cases e with
    | non => rw [rp_non r2]; rfl
    | bl b => rw [rp_bl r2]; rfl
    | int b => rw [rp_int r2]; rfl
    | str b => rw [rp_str r2]; rfl
    | _ => cases h2
  | int a => rw [rp_int r]; cases e with
    | non => rw [rp_non r2]; rfl
    | bl b => rw [rp_bl r2]; rfl
    | int b => rw [rp_int r2]; rfl
    | str b => rw [rp_str r2]; rfl
    | _ => cases h2
  | str a => rw [rp_str r]; cases e with
    | non => rw [rp_non r2]; rfl
    | bl b => rw [rp_bl r2]; rfl
    | int b => rw [rp_int r2]; rfl
    | str b => rw [rp_str r2]; rfl
    | _ => cases h2
  | _ => cases h
theorem inV_of {g : Gs} {d : D} {x : V} (r : Rp W g d x) (h : flatD d = true) : ∀ {ds : List D} {xs : List V}, RpL W g ds xs → ds.all flatD = true → inV x xs = ds.any fun y => eqF y d
  | [], xs, r', _ => by
    have r' : xs = [] := r'
    subst r'
    rfl
  | e :: ds, _, ⟨y, ys, r1, r2, r3⟩, h' => by
    subst r1
    rw [List.all_cons, Bool.and_eq_true] at h'
    have := inV_of r h r3 h'.2
    unfold inV at this ⊢
    rw [List.any_cons, List.any_cons, this, eqF_of r2 r h'.1 h]
theorem inD_some {d : D} {l : List D} {b : Bool} (h : inD d l = some b) : flatD d = true ∧ l.all flatD = true ∧ (l.any fun y => eqF y d) = b := by
  unfold inD at h
  obtain ⟨h1, h2⟩ := ite_some h
  obtain ⟨h3, h4⟩ := Bool.and_eq_true_iff.mp h1
  exact ⟨h3, h4, h2⟩
theorem opIn (hK : X.K = W.K) : OpR X (compareOp .In) (rCmp W .inn) := by
  intro pins s σ H x y v u Q I rx ry ⟨g, B, d, e, f, ok, rd, re, hf, q⟩
  have key : ∀ l p ys, y = .ref p → (SqL W.K H p ys ∨ SqT W.K H p ys) → RpL W g l ys → inD d l = some f → wpAny (model X.prog X.w) X.A (compareOp .In v u) (EP X pins σ Q) X.xe s := by
    intro l p ys ey hs rl hi
    obtain ⟨h1, h2, h3⟩ := inD_some hi
    refine op_in_seq pins s σ H x y v u Q I rx ry ⟨p, ys, ey, by rw [hK]; exact hs, flat_of rd h1, flats_of rl h2, ?_⟩
    rw [if_neg Bool.false_ne_true, inV_of rd h1 rl h2, h3]
    exact q g H (Stp.refl ok) ok
  cases e with
  | lst l =>
    obtain ⟨p, ys, ey, hs, rl⟩ := re
    exact key l p ys ey (.inl (.inl (.inl (ok.ice _ _ hs)))) rl (by cases d <;> exact hf)
  | tup l =>
    obtain ⟨p, ys, ey, hs, rl⟩ := re
    exact key l p ys ey (.inr (sqT_up ok.ice hs)) rl (by cases d <;> exact hf)
  | _ => cases d <;> cases hf
theorem opNin (hK : X.K = W.K) : OpR X (compareOp .NotIn) (rCmp W .nin) := by
  intro pins s σ H x y v u Q I rx ry ⟨g, B, d, e, f, ok, rd, re, hf, q⟩
  have key : ∀ l p ys, y = .ref p → (SqL W.K H p ys ∨ SqT W.K H p ys) → RpL W g l ys → (inD d l).map (!·) = some f → wpAny (model X.prog X.w) X.A (compareOp .NotIn v u) (EP X pins σ Q) X.xe s := by
    intro l p ys ey hs rl hi
    cases z : inD d l with
    | none => rw [z] at hi; cases hi
    | some b =>
      rw [z] at hi
      cases hi
      obtain ⟨h1, h2, h3⟩ := inD_some z
      refine op_notIn_seq pins s σ H x y v u Q I rx ry ⟨p, ys, ey, by rw [hK]; exact hs, flat_of rd h1, flats_of rl h2, ?_⟩
      rw [if_pos rfl, inV_of rd h1 rl h2, h3]
      exact q g H (Stp.refl ok) ok
  cases e with
  | lst l =>
    obtain ⟨p, ys, ey, hs, rl⟩ := re
    exact key l p ys ey (.inl (.inl (.inl (ok.ice _ _ hs)))) rl (by cases d <;> exact hf)
  | tup l =>
    obtain ⟨p, ys, ey, hs, rl⟩ := re
    exact key l p ys ey (.inr (sqT_up ok.ice hs)) rl (by cases d <;> exact hf)
  | _ => cases d <;> cases hf
def copOf : Cop → CmpOp
  | .lt => .Lt
  | .le => .LtE
  | .gt => .Gt
  | .ge => .GtE
  | .eq => .Eq
  | .ne => .NotEq
  | .is => .Is
  | .isn => .IsNot
  | .inn => .In
  | .nin => .NotIn
theorem opCmp (hK : X.K = W.K) (hu : X.A.units + 64 < cLine) : ∀ o : Cop, OpR X (compareOp (copOf o)) (rCmp W o)
  | .lt => opLt
  | .le => opLe
  | .gt => opGt
  | .ge => opGe
  | .eq => opEq hK hu
  | .ne => opNe hK hu
  | .is => opIs
  | .isn => opIsn
  | .inn => opIn hK
  | .nin => opNin hK
end
end Pl

-- part P5
set_option maxHeartbeats 4000000
/-! The pure layer 5: subscripts, slices, built-ins by values. -/
namespace Pl
open PySem PySem.Spec PyProof.Rows L2
section
variable {X : Cx} {W : Wd}
theorem RpL.at {g : Gs} {ds : List D} {xs : List V} {i : Int} {d : D} (r : RpL W g ds xs) (h : atI ds i = some d) : ∃ x, atI xs i = some x ∧ Rp W g d x := by
  unfold atI at h ⊢
  rw [r.length]
  cases e : ixN ds.length i with
  | none => rw [e] at h; cases h
  | some j =>
    rw [e] at h
    exact r.get (i := j) h
def rIxD (W : Wd) : R2 := fun x y H Q => ∃ g B d e f, Ok W g B H ∧ Rp W g d x ∧ Rp W g e y ∧ ixM B d e = some f ∧ okE W g H Q f B
theorem ixAny (hK : X.K = W.K) : IxR X (rIxD W) := by
  intro value slice pins s σ H x y v u Q I rx ry h hs
  obtain ⟨g, B, d, e, f, ok, rd, re, hf, q⟩ := h
  refine ix_seq value slice pins s σ H x y v u Q I rx ry ?_ hs
  cases d with
  | tup l => cases e with
    | int i =>
      obtain ⟨p, xs, rfl, sx, lx⟩ := rd
      obtain ⟨z, h1, h2⟩ := lx.at (show atI l i = some f from hf)
      exact .inr (.inl ⟨p, xs, i, z, rfl, re, by rw [hK]; exact sqT_up ok.ice sx, h1, q g H z (Stp.refl ok) ok h2⟩)
    | _ => cases hf
  | lst l => cases e with
    | int i =>
      obtain ⟨p, xs, rfl, sx, lx⟩ := rd
      obtain ⟨z, h1, h2⟩ := lx.at (show atI l i = some f from hf)
      exact .inl ⟨p, xs, i, z, rfl, re, .inl (.inl (ok.ice _ _ sx)), h1, q g H z (Stp.refl ok) ok h2⟩
    | _ => cases hf
  | bag k => cases e with
    | int i =>
      have hf : (B[k]?).bind (fun l => atI l i) = some f := hf
      obtain ⟨p, rfl, hb⟩ := rd
      cases hB : B[k]? with
      | none => rw [hB] at hf; cases hf
      | some l =>
        rw [hB] at hf
        obtain ⟨_, xs, h3, h4⟩ := ok.bag k p l hb hB
        obtain ⟨z, h1, h2⟩ := h4.at (show atI l i = some f from hf)
        exact .inl ⟨p, xs, i, z, rfl, re, .inl (.inl h3), h1, q g H z (Stp.refl ok) ok h2⟩
    | _ => cases hf
  | _ => cases e <;> cases hf
/-! ### slices -/
theorem RpL.cut {g : Gs} {ds : List D} {xs : List V} {lo hi : Option Int} (r : RpL W g ds xs) : RpL W g (cutD ds lo hi) (cutV xs lo hi) := by
  unfold cutD cutV
  rw [r.length]
  exact (r.drop _).take _
def rSlD (W : Wd) : V → Option Int → Option Int → Hp → VK → Prop := fun x lo hi H Q => ∃ g B d f, Ok W g B H ∧ Rp W g d x ∧ slD d lo hi = some f ∧ okE W g H Q f B
theorem slAny (hK : X.K = W.K) : L2.SlR X (rSlD W) := by
  intro pins s σ H x v vl vu lo hi sl Q I rx hs pl pu h
  obtain ⟨g, B, d, f, ok, rd, hf, q⟩ := h
  have lst : ∀ (p : Addr) (xs : List V) (l : List D), x = .ref p → SqL W.K H p xs → RpL W g l xs → f = .lst (cutD l lo hi) → _ := fun p xs l ex sx lx ef =>
    sl_list pins s σ H x v vl vu lo hi sl Q I rx hs pl pu ⟨p, xs, ex, by rw [hK]; exact sx, fun t nt => by
      subst ef
      have gr : Grow g (g.ice t (.lst (cutV xs lo hi))) := grow_ice (ok.zfree nt)
      exact q _ _ _ (Stp.newI ok nt) (ok.newI nt nt_lst) ⟨t, _, rfl, ice_at, RpL.up gr _ _ lx.cut⟩⟩
  cases d with
  | lst l =>
    obtain ⟨p, xs, ex, sx, lx⟩ := rd
    exact lst p xs l ex (.inl (.inl (ok.ice _ _ sx))) lx (Option.some.inj hf).symm
  | scr l =>
    obtain ⟨p, xs, ex, sx, lx⟩ := rd
    exact lst p xs l ex (sqL_up ok.ice sx) lx (Option.some.inj hf).symm
  | tup l =>
    cases hf
    obtain ⟨p, xs, ex, sx, lx⟩ := rd
    refine sl_tupA pins s σ H x v vl vu lo hi sl Q I rx hs pl pu ⟨p, xs, ex, by rw [hK]; exact sqT_up ok.ice sx, fun z => ?_, fun _ t nt => ?_⟩
    · refine q g H _ (Stp.refl ok) ok ⟨p, xs, rfl, sx, ?_⟩
      have e : cutV xs lo hi = xs := by
        unfold cutV
        rw [z.1, z.2]
        simp
      rw [← e]
      exact lx.cut
    · have gr : Grow g (g.ice t (.tup (cutV xs lo hi))) := grow_ice (ok.zfree nt)
      exact q _ _ _ (Stp.newI ok nt) (ok.newI nt nt_tup) ⟨t, _, rfl, .inl (.inl ice_at), RpL.up gr _ _ lx.cut⟩
  | _ => cases hf

/-! ### built-ins -/
def rBi (W : Wd) (b : Bi) : List V → Hp → VK → Prop := fun xs H Q => ∃ g B ds f, Ok W g B H ∧ RpL W g ds xs ∧ biD b ds = some f ∧ okE W g H Q f B
theorem biLen (hK : X.K = W.K) : CallR X (.builtin "len") (rBi W .len) := by
  intro pins s σ H xs us Q I r ⟨g, B, ds, f, ok, rd, hf, q⟩
  cases ds with
  | nil => cases hf
  | cons d r2 => cases r2 with
    | cons _ _ => cases d <;> cases hf
    | nil =>
      obtain ⟨x, rfl, rx⟩ := rd.one
      cases d with
      | tup l =>
        cases hf
        obtain ⟨p, ys, rfl, sx, lx⟩ := rx
        exact call_len_seq pins s σ H _ us Q I r ⟨p, ys, rfl, .inr (by rw [hK]; exact sqT_up ok.ice sx), by rw [lx.length]; exact q g H _ (Stp.refl ok) ok rfl⟩
      | lst l =>
        cases hf
        obtain ⟨p, ys, rfl, sx, lx⟩ := rx
        exact call_len_seq pins s σ H _ us Q I r ⟨p, ys, rfl, .inl (.inl (.inl (ok.ice _ _ sx))), by rw [lx.length]; exact q g H _ (Stp.refl ok) ok rfl⟩
      | scr l =>
        cases hf
        obtain ⟨p, ys, rfl, sx, lx⟩ := rx
        exact call_len_seq pins s σ H _ us Q I r ⟨p, ys, rfl, .inl (by rw [hK]; exact sqL_up ok.ice sx), by rw [lx.length]; exact q g H _ (Stp.refl ok) ok rfl⟩
      | str z =>
        obtain ⟨h1, rfl⟩ := ite_some hf
        exact call_len_str pins s σ H _ us Q I r ⟨z, by rw [rp_str rx], by rw [isz]; exact h1, q g H _ (Stp.refl ok) ok rfl⟩
      | _ => cases hf
theorem biAbs : CallR X (.builtin "abs") (rBi W .abs) := by
  intro pins s σ H xs us Q I r ⟨g, B, ds, f, ok, rd, hf, q⟩
  cases ds with
  | nil => cases hf
  | cons d r2 => cases r2 with
    | cons _ _ => cases d <;> cases hf
    | nil =>
      obtain ⟨x, rfl, rx⟩ := rd.one
      cases d with
      | int i =>
        cases hf
        exact call_abs pins s σ H _ us Q I r ⟨i, by rw [rp_int rx], q g H _ (Stp.refl ok) ok rfl⟩
      | _ => cases hf
theorem biInt : CallR X (.type "int") (rBi W .int) := by
  intro pins s σ H xs us Q I r ⟨g, B, ds, f, ok, rd, hf, q⟩
  cases ds with
  | nil => cases hf
  | cons d r2 => cases r2 with
    | cons _ _ => cases d <;> cases hf
    | nil =>
      obtain ⟨x, rfl, rx⟩ := rd.one
      cases d with
      | int i =>
        cases hf
        exact call_int1 pins s σ H _ us Q I r (.inl ⟨i, by rw [rp_int rx], q g H _ (Stp.refl ok) ok rfl⟩)
      | bl b =>
        cases hf
        exact call_int1 pins s σ H _ us Q I r (.inr ⟨b, by rw [rp_bl rx], q g H _ (Stp.refl ok) ok rfl⟩)
      | _ => cases hf
theorem two_ints {d e : D} {b : Bi} (hb : b = .max2 ∨ b = .min2) {f : D} (h : biD b [d, e] = some f) : ∃ i j, d = .int i ∧ e = .int j := by
  rcases hb with rfl | rfl <;> (cases d with
    | int i => cases e with
      | int j => exact ⟨i, j, rfl, rfl⟩
      | _ => cases h
    | _ => cases h)
theorem biMax2 (hc : X.calm = true) : CallR X (.builtin "max") (rBi W .max2) := by
  intro pins s σ H xs us Q I r ⟨g, B, ds, f, ok, rd, hf, q⟩
  match ds, hf with
  | [d, e], hf =>
    obtain ⟨i, j, rfl, rfl⟩ := two_ints (.inl rfl) hf
    cases hf
    obtain ⟨x, y, rfl, rx, ry⟩ := rd.two
    exact call_max2 hc pins s σ H _ us Q I r ⟨i, j, by rw [rp_int rx, rp_int ry], q g H _ (Stp.refl ok) ok rfl⟩
  | [], hf => cases hf
  | [d], hf => cases d <;> cases hf
  | d :: e :: c :: l, hf => cases d <;> cases e <;> cases hf
theorem biMin2 (hc : X.calm = true) : CallR X (.builtin "min") (rBi W .min2) := by
  intro pins s σ H xs us Q I r ⟨g, B, ds, f, ok, rd, hf, q⟩
  match ds, hf with
  | [d, e], hf =>
    obtain ⟨i, j, rfl, rfl⟩ := two_ints (.inr rfl) hf
    cases hf
    obtain ⟨x, y, rfl, rx, ry⟩ := rd.two
    exact call_min2 hc pins s σ H _ us Q I r ⟨i, j, by rw [rp_int rx, rp_int ry], q g H _ (Stp.refl ok) ok rfl⟩
  | [], hf => cases hf
  | [d], hf => cases d <;> cases hf
  | d :: e :: c :: l, hf => cases d <;> cases e <;> cases hf
theorem biTuple (hK : X.K = W.K) : CallR X (.type "tuple") (rBi W .tuple) := by
  intro pins s σ H xs us Q I r ⟨g, B, ds, f, ok, rd, hf, q⟩
  cases ds with
  | nil => cases hf
  | cons d r2 => cases r2 with
    | cons _ _ => cases d <;> cases hf
    | nil =>
      obtain ⟨x, rfl, rx⟩ := rd.one
      cases d with
      | tup l =>
        cases hf
        obtain ⟨p, ys, rfl, sx, lx⟩ := rx
        exact call_tuple_of pins s σ H _ us Q I r ⟨p, ys, rfl, .inr ⟨by rw [hK]; exact sqT_up ok.ice sx, q g H _ (Stp.refl ok) ok ⟨p, ys, rfl, sx, lx⟩⟩⟩
      | lst l =>
        cases hf
        obtain ⟨p, ys, rfl, sx, lx⟩ := rx
        refine call_tuple_of pins s σ H _ us Q I r ⟨p, ys, rfl, .inl ⟨.inl (.inl (ok.ice _ _ sx)), fun t nt => ?_⟩⟩
        have gr : Grow g (g.ice t (.tup ys)) := grow_ice (ok.zfree nt)
        exact q _ _ _ (Stp.newI ok nt) (ok.newI nt nt_tup) ⟨t, _, rfl, .inl (.inl ice_at), RpL.up gr _ _ lx⟩
      | _ => cases hf
theorem biList (hK : X.K = W.K) : CallR X (.type "list") (rBi W .list) := by
  intro pins s σ H xs us Q I r ⟨g, B, ds, f, ok, rd, hf, q⟩
  cases ds with
  | nil => cases hf
  | cons d r2 => cases r2 with
    | cons _ _ => cases d <;> cases hf
    | nil =>
      obtain ⟨x, rfl, rx⟩ := rd.one
      have key : ∀ (p : Addr) (ys : List V) (l : List D), x = .ref p → (SqL X.K H p ys ∨ SqT X.K H p ys) → RpL W g l ys → f = .lst l → wpAny (model X.prog X.w) X.A (call (.type "list") us) (EP X pins σ Q) X.xe s := fun p ys l ex sx lx ef => by
        subst ex ef
        refine call_list_of pins s σ H _ us Q I r ⟨p, ys, rfl, sx, fun t nt => ?_⟩
        have gr : Grow g (g.ice t (.lst ys)) := grow_ice (ok.zfree nt)
        exact q _ _ _ (Stp.newI ok nt) (ok.newI nt nt_lst) ⟨t, _, rfl, ice_at, RpL.up gr _ _ lx⟩
      cases d with
      | tup l =>
        obtain ⟨p, ys, ex, sx, lx⟩ := rx
        exact key p ys l ex (.inr (by rw [hK]; exact sqT_up ok.ice sx)) lx (Option.some.inj hf).symm
      | lst l =>
        obtain ⟨p, ys, ex, sx, lx⟩ := rx
        exact key p ys l ex (.inl (.inl (.inl (ok.ice _ _ sx)))) lx (Option.some.inj hf).symm
      | _ => cases hf
theorem bools_of {g : Gs} : ∀ {l : List D} {bs : List Bool} {xs : List V}, boolsD l = some bs → RpL W g l xs → xs = bs.map V.bl
  | [], bs, xs, h, r => by
    cases h
    exact r
  | d :: l, bs, xs, h, ⟨y, ys, r1, r2, r3⟩ => by
    cases d with
    | bl b =>
      cases e : boolsD l with
      | none => simp only [boolsD, e] at h; cases h
      | some cs =>
        simp only [boolsD, e] at h
        cases h
        rw [r1, rp_bl r2, bools_of e r3]
        rfl
    | _ => cases h
theorem biAll (hc : X.calm = true) : CallR X (.builtin "all") (rBi W .all) := by
  intro pins s σ H xs us Q I r ⟨g, B, ds, f, ok, rd, hf, q⟩
  cases ds with
  | nil => cases hf
  | cons d r2 => cases r2 with
    | cons _ _ => cases d <;> cases hf
    | nil =>
      obtain ⟨x, rfl, rx⟩ := rd.one
      cases d with
      | lst l =>
        have hf : (boolsD l).map (fun bs => D.bl (bs.all id)) = some f := hf
        cases e : boolsD l with
        | none => rw [e] at hf; cases hf
        | some bs =>
          rw [e] at hf
          cases hf
          obtain ⟨p, ys, rfl, sx, lx⟩ := rx
          have ey := bools_of e lx
          subst ey
          exact cr_all hc pins s σ H _ us Q I r ⟨p, bs, rfl, .inl (.inl (ok.ice _ _ sx)), q g H _ (Stp.refl ok) ok rfl⟩
      | _ => cases hf
theorem biAny (hc : X.calm = true) : CallR X (.builtin "any") (rBi W .any) := by
  intro pins s σ H xs us Q I r ⟨g, B, ds, f, ok, rd, hf, q⟩
  cases ds with
  | nil => cases hf
  | cons d r2 => cases r2 with
    | cons _ _ => cases d <;> cases hf
    | nil =>
      obtain ⟨x, rfl, rx⟩ := rd.one
      cases d with
      | lst l =>
        have hf : (boolsD l).map (fun bs => D.bl (bs.any id)) = some f := hf
        cases e : boolsD l with
        | none => rw [e] at hf; cases hf
        | some bs =>
          rw [e] at hf
          cases hf
          obtain ⟨p, ys, rfl, sx, lx⟩ := rx
          have ey := bools_of e lx
          subst ey
          exact cr_any hc pins s σ H _ us Q I r ⟨p, bs, rfl, .inl (.inl (ok.ice _ _ sx)), q g H _ (Stp.refl ok) ok rfl⟩
      | _ => cases hf
theorem ints_of {g : Gs} : ∀ {l : List D} {bs : List Int} {xs : List V}, intsD l = some bs → RpL W g l xs → xs = bs.map V.int
  | [], bs, xs, h, r => by
    cases h
    exact r
  | d :: l, bs, xs, h, ⟨y, ys, r1, r2, r3⟩ => by
    cases d with
    | int b =>
      cases e : intsD l with
      | none => simp only [intsD, e] at h; cases h
      | some cs =>
        simp only [intsD, e] at h
        cases h
        rw [r1, rp_int r2, ints_of e r3]
        rfl
    | _ => cases h
/-- a list of ints as an argument -/
theorem one_ints {b : Bi} {F : List Int → Option D} (hb : ∀ l f, biD b [.lst l] = some f → ∃ ns, intsD l = some ns ∧ F ns = some f) (hn : ∀ d f, biD b [d] = some f → ∃ l, d = .lst l) (h0 : biD b [] = none) (h2 : ∀ d e r, biD b (d :: e :: r) = none)
    {pins : List (Addr × Obj)} {s : Shared} {σ : L2.St} {H : Hp} {xs : List V} {us : List Value} {Q : VK} {P : Prop} (I : Inv X pins σ H s) (r : Vals xs us) (h : rBi W b xs H Q)
    (k : ∀ g B p ns f, Ok W g B H → xs = [.ref p] → SqL X.K H p (ns.map V.int) → F ns = some f → okE W g H Q f B → P) : P := by
  obtain ⟨g, B, ds, f, ok, rd, hf, q⟩ := h
  match ds, rd, hf with
  | [], rd, hf => rw [h0] at hf; cases hf
  | [d], rd, hf =>
    obtain ⟨l, rfl⟩ := hn d f hf
    obtain ⟨ns, e1, e2⟩ := hb l f hf
    obtain ⟨x, rfl, rx⟩ := rd.one
    obtain ⟨p, ys, rfl, sx, lx⟩ := rx
    have ey := ints_of e1 lx
    subst ey
    exact k g B p ns f ok rfl (.inl (.inl (ok.ice _ _ sx))) e2 q
  | d :: e :: l, rd, hf => rw [h2] at hf; cases hf
theorem map_some' {α β : Type} {o : Option α} {F : α → β} {f : β} (h : o.map F = some f) : ∃ a, o = some a ∧ F a = f := by
  cases o with
  | none => cases h
  | some a => exact ⟨a, rfl, Option.some.inj h⟩
theorem bind_some' {α β : Type} {o : Option α} {F : α → Option β} {f : β} (h : o.bind F = some f) : ∃ a, o = some a ∧ F a = some f := by
  cases o with
  | none => cases h
  | some a => exact ⟨a, rfl, h⟩
theorem biSum (hc : X.calm = true) : CallR X (.builtin "sum") (rBi W .sum) := by
  intro pins s σ H xs us Q I r h
  refine one_ints (F := fun ns => some (.int ns.sum)) (fun l f hf => ?_) (fun d f hf => ?_) rfl (fun d e r => by cases d <;> rfl) I r h fun g B p ns f ok ex sx hf q => ?_
  · obtain ⟨ns, e1, e2⟩ := map_some' (show (intsD l).map (fun ns => D.int ns.sum) = some f from hf)
    exact ⟨ns, e1, by rw [e2]⟩
  · cases d <;> first | exact ⟨_, rfl⟩ | cases hf
  · cases hf
    exact cr_sum hc pins s σ H _ us Q I r ⟨p, ns, ex, sx, q g H _ (Stp.refl ok) ok rfl⟩
end
end Pl

-- part P5b
set_option maxHeartbeats 4000000
/-! The pure layer 5b: more built-ins by values. -/
namespace Pl
open PySem PySem.Spec PyProof.Rows L2
theorem foldl_max_mem : ∀ (r : List Int) (a : Int), r.foldl max a ∈ a :: r
  | [], a => List.mem_cons_self
  | b :: r, a => by
    have h := foldl_max_mem r (max a b)
    rw [List.foldl_cons]
    rcases List.mem_cons.mp h with h | h
    · rw [h]
      by_cases c : a ≤ b
      · rw [Int.max_eq_right c]
        exact List.mem_cons_of_mem _ List.mem_cons_self
      · rw [Int.max_eq_left (by omega)]
        exact List.mem_cons_self
    · exact List.mem_cons_of_mem _ (List.mem_cons_of_mem _ h)
theorem foldl_max_le : ∀ (r : List Int) (a : Int), ∀ y ∈ a :: r, y ≤ r.foldl max a
  | [], a, y, h => by
    have : y = a := by simpa using h
    rw [this]
    exact Int.le_refl _
  | b :: r, a, y, h => by
    rw [List.foldl_cons]
    have h0 := foldl_max_le r (max a b) (max a b) List.mem_cons_self
    rcases List.mem_cons.mp h with h | h
    · rw [h]
      omega
    · rcases List.mem_cons.mp h with h | h
      · rw [h]
        omega
      · exact foldl_max_le r (max a b) y (List.mem_cons_of_mem _ h)
theorem foldl_min_mem : ∀ (r : List Int) (a : Int), r.foldl min a ∈ a :: r
  | [], a => List.mem_cons_self
  | b :: r, a => by
    have h := foldl_min_mem r (min a b)
    rw [List.foldl_cons]
    rcases List.mem_cons.mp h with h | h
    · rw [h]
      by_cases c : a ≤ b
      · rw [Int.min_eq_left c]
        exact List.mem_cons_self
      · rw [Int.min_eq_right (by omega)]
        exact List.mem_cons_of_mem _ List.mem_cons_self
    · exact List.mem_cons_of_mem _ (List.mem_cons_of_mem _ h)
theorem foldl_min_le : ∀ (r : List Int) (a : Int), ∀ y ∈ a :: r, r.foldl min a ≤ y
  | [], a, y, h => by
    have : y = a := by simpa using h
    rw [this]
    exact Int.le_refl _
  | b :: r, a, y, h => by
    rw [List.foldl_cons]
    have h0 := foldl_min_le r (min a b) (min a b) List.mem_cons_self
    rcases List.mem_cons.mp h with h | h
    · rw [h]
      omega
    · rcases List.mem_cons.mp h with h | h
      · rw [h]
        omega
      · exact foldl_min_le r (min a b) y (List.mem_cons_of_mem _ h)
section
variable {X : Cx} {W : Wd}
theorem biMaxl (hc : X.calm = true) : CallR X (.builtin "max") (rBi W .maxl) := by
  intro pins s σ H xs us Q I r h
  refine one_ints (F := fun ns => (maxI ns).map .int) (fun l f hf => ?_) (fun d f hf => ?_) rfl (fun d e r => by cases d <;> rfl) I r h fun g B p ns f ok ex sx hf q => ?_
  · obtain ⟨ns, e1, e2⟩ := bind_some' (show (intsD l).bind (fun ns => (maxI ns).map D.int) = some f from hf)
    exact ⟨ns, e1, e2⟩
  · cases d <;> first | exact ⟨_, rfl⟩ | cases hf
  · cases ns with
    | nil => cases hf
    | cons a l =>
      cases hf
      refine cr_max hc pins s σ H _ us Q I r ⟨p, a :: l, ex, sx, Nat.succ_pos _, fun m h1 h2 => ?_⟩
      have e : m = l.foldl max a := Int.le_antisymm (foldl_max_le l a m h1) (h2 _ (foldl_max_mem l a))
      rw [e]
      exact q g H _ (Stp.refl ok) ok rfl
theorem biMinl (hc : X.calm = true) : CallR X (.builtin "min") (rBi W .minl) := by
  intro pins s σ H xs us Q I r h
  refine one_ints (F := fun ns => (minI ns).map .int) (fun l f hf => ?_) (fun d f hf => ?_) rfl (fun d e r => by cases d <;> rfl) I r h fun g B p ns f ok ex sx hf q => ?_
  · obtain ⟨ns, e1, e2⟩ := bind_some' (show (intsD l).bind (fun ns => (minI ns).map D.int) = some f from hf)
    exact ⟨ns, e1, e2⟩
  · cases d <;> first | exact ⟨_, rfl⟩ | cases hf
  · cases ns with
    | nil => cases hf
    | cons a l =>
      cases hf
      refine cr_min hc pins s σ H _ us Q I r ⟨p, a :: l, ex, sx, Nat.succ_pos _, fun m h1 h2 => ?_⟩
      have e : m = l.foldl min a := Int.le_antisymm (h2 _ (foldl_min_mem l a)) (foldl_min_le l a m h1)
      rw [e]
      exact q g H _ (Stp.refl ok) ok rfl
/-- repr of data -/
theorem biRepr (hK : X.K = W.K) (hg : X.A.guards = some []) (hu : X.A.units + 100 < cLine) : CallR X (.builtin "repr") (rBi W .repr) := by
  intro pins s σ H xs us Q I r ⟨g, B, ds, f, ok, rd, hf, q⟩
  match ds, rd, hf with
  | [], rd, hf => cases hf
  | d :: e :: l, rd, hf => cases d <;> cases hf
  | [a], rd, hf =>
    obtain ⟨x, rfl, rx⟩ := rd.one
    have hf : reprD a = some f := by cases a <;> exact hf
    unfold reprD at hf
    cases e : toPd a with
    | none => rw [e] at hf; cases hf
    | some d =>
      rw [e] at hf
      obtain ⟨h1, rfl⟩ := ite_some (show (if (d.showable && SeqAt.shaped d && decide (d.shown.length ≤ SZ)) = true then some (D.str d.shown) else none) = some f from hf)
      simp only [Bool.and_eq_true, decide_eq_true_eq] at h1
      obtain ⟨⟨h2, h3⟩, h4⟩ := h1
      obtain ⟨u, rfl, ru⟩ := vals1 r
      have hd := dp_of ok a d x e rx
      obtain ⟨as, rr⟩ := Dp.reads I d x u (by rw [hK]; exact hd) ru
      have hdep := SeqAt.depth_of_shaped h3
      have hnd := PyData.hasDict_of_canLay d (SeqAt.canLay_of_shaped h3)
      have fin : ∀ t h' tk, (∀ b o, s.heap.get? b = some o → h'.get? b = some o) → EP X pins σ Q (.str d.shown t) { s with heap := h', toks := tk } := fun t h' tk k => ⟨.str d.shown, H, I.kept k, ⟨t, rfl⟩, q g H _ (Stp.refl ok) ok rfl⟩
      cases rr with
      | none =>
        exact P.repr_of_none (fin s.toks s.heap _ fun _ _ z => z)
      | bool b => exact P.repr_of_bool (fin s.toks s.heap _ fun _ _ z => z)
      | int i t => exact P.repr_of_int (by simpa [PyData.showable] using h2) (fin s.toks s.heap _ fun _ _ z => z)
      | str z t => exact P.repr_of_str (fin s.toks s.heap _ fun _ _ z => z) (by rw [isz]; exact h4)
      | list a1 a2 a3 a4 => exact repr_of_reads' (.list a1 a2 a3 a4) h2 (fun z => by rw [hnd] at z; cases z) hg (by omega) (fun _ _ z => z) (fun h' u tk k => fin u h' tk k) (by rw [isz]; exact h4)
      | tuple a1 a2 a3 a4 => exact repr_of_reads' (.tuple a1 a2 a3 a4) h2 (fun z => by rw [hnd] at z; cases z) hg (by omega) (fun _ _ z => z) (fun h' u tk k => fin u h' tk k) (by rw [isz]; exact h4)
      | dict a1 a2 a3 a4 a5 => cases hnd
/-! ### isinstance with a built-in class -/
theorem kit_all : (["NoneType", "bool", "int", "str", "tuple", "list", "dict"] : List String).all (fun t => (["int", "bool", "str", "tuple", "list", "dict"] : List String).all fun n => kitB t n == some (t == n || (t == "bool" && n == "int"))) = true := by decide +kernel
theorem kit_at {t n : String} (h1 : t ∈ (["NoneType", "bool", "int", "str", "tuple", "list", "dict"] : List String)) (h2 : n ∈ (["int", "bool", "str", "tuple", "list", "dict"] : List String)) : kitB t n = some (t == n || (t == "bool" && n == "int")) := by
  have h := List.all_eq_true.mp (List.all_eq_true.mp kit_all t h1) n h2
  exact eq_of_beq h
theorem typ_of {g : Gs} {B : Bs} {H : Hp} (ok : Ok W g B H) {d : D} {x : V} {t : String} (r : Rp W g d x) (h : typD d = some t) : TyX W.K H x (.type t) ∧ t ∈ (["NoneType", "bool", "int", "str", "tuple", "list", "dict"] : List String) := by
  cases d with
  | non => cases h; rw [rp_non r]; exact ⟨.base .non, by decide⟩
  | bl b => cases h; rw [rp_bl r]; exact ⟨.base (.bl b), by decide⟩
  | int b => cases h; rw [rp_int r]; exact ⟨.base (.int b), by decide⟩
  | str b => cases h; rw [rp_str r]; exact ⟨.base (.str b), by decide⟩
  | tup l =>
    cases h
    obtain ⟨a, xs, rfl, sx, _⟩ := r
    refine ⟨?_, by decide⟩
    rcases sqT_up ok.ice sx with (z | ⟨o, z⟩) | ⟨o, its, n, h1, h2, _⟩
    · exact .base (.tup z)
    · exact .fTuple z
    · exact .kTuple h1 h2
  | lst l =>
    cases h
    obtain ⟨a, xs, rfl, sx, _⟩ := r
    exact ⟨.base (.lst (ok.ice _ _ sx)), by decide⟩
  | dc =>
    cases h
    obtain ⟨a, rfl, sx⟩ := r
    exact ⟨.base (.dK (ok.ice _ _ sx)), by decide⟩
  | bag i =>
    cases h
    obtain ⟨a, rfl, sx⟩ := r
    obtain ⟨_, xs, e⟩ := ok.bagAt (List.mem_of_getElem? sx)
    exact ⟨.base (.lst e), by decide⟩
  | _ => cases h
theorem biIsi (hK : X.K = W.K) : CallR X (.builtin "isinstance") (rBi W .isi) := by
  intro pins s σ H xs us Q I r ⟨g, B, ds, f, ok, rd, hf, q⟩
  match ds, rd, hf with
  | [], rd, hf => cases hf
  | [d], rd, hf => cases d <;> cases hf
  | [d, e], rd, hf =>
    obtain ⟨x, y, rfl, rx, ry⟩ := rd.two
    cases e with
    | ty n =>
      obtain ⟨b, h1, rfl⟩ := map_some' (show (isiD d n).map D.bl = some f by cases d <;> exact hf)
      unfold isiD at h1
      cases e : typD d with
      | none => rw [e] at h1; cases h1
      | some t =>
        rw [e] at h1
        obtain ⟨h2, h3⟩ := ite_some (show (if (["int", "bool", "str", "tuple", "list", "dict"] : List String).contains n then some (t == n || (t == "bool" && n == "int")) else none) = some b from h1)
        obtain ⟨h4, h5⟩ := typ_of ok rx e
        have h6 := kit_at h5 (by simpa using h2)
        rw [h3] at h6
        have ry : y = .ty n := ry
        subst ry
        exact call_isi pins s σ H _ us Q I r ⟨x, .ty n, .type t, .type n, b, rfl, .ty n, by rw [hK]; exact h4, kit_ty h6, q g H _ (Stp.refl ok) ok rfl⟩
    | _ => cases d <;> cases hf
  | d :: e :: c :: l, rd, hf => cases e <;> cases hf
end
end Pl

-- part P6
set_option maxHeartbeats 4000000
/-! The pure layer 6: the call of a def, where no repr is under way; the promise that a def does what a function on trees says. -/
namespace Pl
open PySem PySem.Spec PyProof.Rows L2

structure FnG (P : Program) (w : World) (K : PySem.W.Frag) (mg : Str → Option Value) (base : Heap) (k : Nat) (f : Addr) (fd : FuncData) (ps : List Str) (sp : Sp) (rg : Bool) : Prop where
  len : ∀ vs H Q E, sp vs H Q E → vs.length = ps.length
  run : ∀ (A : Around) (outer : List Env) (s : Shared) (H : Hp) (args : Args) (us : List Value) (vs : List V) (Q : VK) (E : XK), Room k A → (rg = true → A.guards = some []) → Env0 P w K mg base A outer s H → BindsTo s fd args (ps.zip us) → Vals vs us → sp vs H Q E →
    codeAny (model P w) A (.call (.ref f) args) (CR (L2.CX P w) outer P w H s Q E) s
/-- the promise -/
def spOf (W : Wd) (n : Nat) (m : List D → M D) : Sp := fun vs H Q E => vs.length = n ∧ ∃ ds g B, Ok W g B H ∧ RpL W g ds vs ∧ OutR W (fun c d _ H' => E c d H') g H [] (m ds B) (okE W g H Q)
/-- a def that may be called by its name or by its value -/
def Callable (P : Program) (w : World) (K : PySem.W.Frag) (mg : Str → Option Value) (base : Heap) (W : Wd) (k : Nat) (f : Addr) (n : Nat) (m : List D → M D) (rg : Bool) : Prop :=
  ∃ fd ps, ps.length = n ∧ FnG P w K mg base k f fd ps (spOf W n m) rg ∧ PySem.W.keepIn K (.ref f) = true ∧ Binds K fd ps []
section
variable {X : Cx} {W : Wd} {Wx : WX} {k : Nat} {f : Addr} {fd : FuncData} {ps : List Str} {sp : Sp} {E : XK} {rg : Bool}
theorem run_fnG {pins : List (Addr × Obj)} {σ : L2.St} {H : Hp} {s : Shared} {Q : VK} {us : List Value} {vs : List V} (F : FnG X.prog X.w X.K X.mg X.base k f fd ps sp rg) (hr : Room k X.A) (hg : rg = true → X.A.guards = some []) (hb : Binds X.K fd ps [])
    (hx : PassesAt (L2.CX X.prog X.w) X σ E) (I : Inv X pins σ H s) (r : Vals vs us) (h : sp vs H Q E) : wpAny (model X.prog X.w) X.A (call (.ref f) us) (EP X pins σ Q) X.xe s := by
  have hl : (us ++ ([] : List Value)).length = ps.length := by rw [List.append_nil, ← r.length]; exact F.len _ _ _ _ h
  have bt := hb s us I.kIn hl
  rw [List.append_nil] at bt
  refine wpAny_call (codeAny_mono (F.run X.A X.stack s H ⟨us, []⟩ us vs Q E hr hg I.env0 bt r h) fun x s' hq => ?_)
  cases x with
  | error e => exact hx pins H s e s' I hq
  | ok fl => cases fl with
    | ret u => exact I.after hq
    | next => exact False.elim hq
    | brk => exact False.elim hq
    | cont => exact False.elim hq
/-- how the promise is asked for, from an outcome -/
theorem OutR.wx {Wx Wx' : WX} {β : Type} {g : Gs} {H : Hp} {σ σ' : L2.St} {x : R β} {q : β → Bs → Prop} (h : OutR W Wx g H σ x q) (k : ∀ c d H', Wx c d σ H' → Wx' c d σ' H') : OutR W Wx' g H σ' x q := by
  cases x with
  | ok a B => exact h
  | ex c B => exact fun g' H' s o => k _ _ _ (h g' H' s o)
  | no => exact h
theorem run_callable {pins : List (Addr × Obj)} {σ : L2.St} {H : Hp} {s : Shared} {Q : VK} {us : List Value} {vs : List V} {n : Nat} {m : List D → M D} {ds : List D} {g : Gs} {B : Bs} (C : Callable X.prog X.w X.K X.mg X.base W k f n m rg) (hr : Room k X.A) (hg : rg = true → X.A.guards = some [])
    (tk : Takes X Wx) (I : Inv X pins σ H s) (r : Vals vs us) (hn : ds.length = n) (ok : Ok W g B H) (rd : RpL W g ds vs) (h : OutR W Wx g H σ (m ds B) (okE W g H Q)) :
    wpAny (model X.prog X.w) X.A (call (.ref f) us) (EP X pins σ Q) X.xe s := by
  obtain ⟨fd, ps, _, F, _, hb⟩ := C
  exact run_fnG F hr hg hb (passAt tk σ) I r ⟨by rw [rd.length, hn], ds, g, B, ok, rd, h.wx fun _ _ _ z => z⟩
/-- f(..), the arguments by PA -/
theorem pe_callG {x : Str} {p pos : Pos} {e : Expr} {es : List Expr} {n : Nat} {m : List D → M D} {fa : Rho → M (List D)} (C : Callable X.prog X.w X.K X.mg X.base W k f n m rg) (hr : Room k X.A) (hgd : rg = true → X.A.guards = some []) (tk : Takes X Wx) (hg : Gl X x) (hm : X.mg x = some (.ref f))
    (ha : PA X (e :: es) (tA W Wx fa)) (hn : ∀ r B ds B', fa r B = .ok ds B' → ds.length = n) (hdb : (x == ("__debug__" : Str)) = false) (he : starEach (e :: es) X.env = (false, eval e X.env) :: starEach es X.env) (hpl : (backTo pos (starEach es X.env)).any (·.1) = false) :
    PE X (.Call (.Name x p) (e :: es) [] pos) (tE W Wx fun r => M.bind (fa r) m) := by
  refine ⟨fun pins s σ H Q I ⟨r, g, B, ok, er, out⟩ => ?_⟩
  refine wpAny_Call_Name_kw (ld_glob I hg hm ?_ hdb)
  refine PySem.W.callWith_K (h₀ := X.base) I.ok.mod.kin C.choose_spec.choose_spec.2.2.1 (thn (ha.run pos pins s σ H (fun vs H1 => ∃ ds g1 B1, ds.length = n ∧ Ok W g1 B1 H1 ∧ RpL W g1 ds vs ∧ OutR W Wx g1 H1 σ (m ds B1) (okE W g1 H1 Q)) I ?_) fun us s1 ⟨vs, H1, I1, rv, ds, g1, B1, q1, q2, q3, q4⟩ => ⟨I1.kIn, ?_⟩) he hpl
  · refine ⟨r, g, B, ok, er, ?_⟩
    have out := out.bind
    cases e1 : fa r B with
    | ok ds B1 =>
      rw [e1] at out
      refine fun g1 H1 vs s1 o1 r1 => ⟨ds, g1, B1, hn r B ds B1 e1, o1, r1, ?_⟩
      exact OutR.from out s1 fun d B2 q g' H' v s2 o2 r2 => q g' H' v (s1.trans s2) o2 r2
    | ex c B1 => rw [e1] at out; exact out
    | no => rw [e1] at out; exact out
  · exact run_callable C hr hgd tk I1 rv q1 q2 q3 q4
theorem pe_callG0 {x : Str} {p pos : Pos} {m : List D → M D} (C : Callable X.prog X.w X.K X.mg X.base W k f 0 m rg) (hr : Room k X.A) (hgd : rg = true → X.A.guards = some []) (tk : Takes X Wx) (hg : Gl X x) (hm : X.mg x = some (.ref f)) (hdb : (x == ("__debug__" : Str)) = false) :
    PE X (.Call (.Name x p) [] [] pos) (tE W Wx fun r => m []) := by
  refine ⟨fun pins s σ H Q I ⟨r, g, B, ok, er, out⟩ => ?_⟩
  refine wpAny_Call_Name_kw (ld_glob I hg hm ?_ hdb)
  exact PySem.W.callWith_K0 I.kIn C.choose_spec.choose_spec.2.2.1 (run_callable (us := []) (vs := []) (ds := []) C hr hgd tk I .nil rfl ok RpL.nil out)
end

/-! ### a def's body keeps its promise -/
theorem Around.gd_deeper {A : Around} {env : Env} (h : A.guards = some []) : (A.deeper env).guards = some [] := h
theorem fn_ofG {P : Program} {w : World} {K : PySem.W.Frag} {mg : Str → Option Value} {base : Heap} {k : Nat} {f : Addr} {name qual : Str} {params : Arguments} {body : List Stmt} {scope : Scope} {dV kV doc pm cdv ct oc : Value} {an od : Option Addr}
    {osl : Array (Option Value)} {N ps : List Str} {sp : Sp} {rg : Bool} (lk : K.lookup f = some ⟨oc, od, .func (PySem.W.fnOf name qual params body scope dV kV doc pm an cdv ct), osl⟩) (hcd : PySem.W.codeIn K cdv qual = true) (S : FnScope N ps scope)
    (len : ∀ vs H Q E, sp vs H Q E → vs.length = ps.length)
    (hbody : ∀ (A : Around) (outer : List Env) (s : Shared) (H : Hp) (vs : List V) (Q : VK) (E : XK), Room k (A.deeper (envOfC qual scope s.heap.objs.size f cdv)) → (rg = true → A.guards = some []) → sp vs H Q E →
      ∃ t, PSs (cxOf (L2.CX P w) P w K mg base N qual scope f cdv A outer s H E) body t ∧ t { nx := fun _ H' => Q .non H', rt := Q } (start N vs) H) :
    FnG P w K mg base (k + 1) f (PySem.W.fnOf name qual params body scope dV kV doc pm an cdv ct) ps sp rg := by
  refine ⟨len, fun A outer s H args us vs Q E hr hg e0 hb r hsp => ?_⟩
  have KX : K.In s.heap := e0.mod.kin.keeps fun b o e => (e0.bs b o e).1
  have lim : s.heap.NoLimit := e0.mod.nolimit.keeps fun b o e => (e0.bs b o e).1
  have hl := len _ _ _ _ hsp
  have hkind : ∀ y ∈ ps.zip us, scope.names.lookup y.1 = some .local ∨ (scope.names.lookup y.1 = some .cell ∧ ((cellsFrom (s.heap.objs.size + 1) scope.names []).lookup y.1).isSome = true) := by
    rintro ⟨n, v⟩ hy
    rcases S.par n (List.of_mem_zip hy).1 with q | q
    · exact .inl q
    · exact .inr ⟨q, PySem.W.cellsFrom_some _ _ _ (.inl q)⟩
  refine codeAny_call_function hr.depth (KX _ _ lk) rfl S.co S.gen rfl (PySem.W.codeRec_of KX hcd) (hb _ _ _ _ (wpAny_newFunctionEnv_cells S.kind hkind fun env he s1 x => ?_))
  subst he
  obtain ⟨t, ht, hq⟩ := hbody A outer s H vs Q E (hr.deeper _) hg hsp
  have I := inv_start (CX := L2.CX P w) (E := E) S hr.hd e0 hl r x
  refine ⟨lim.keeps x.toInCall.keep, codeAny_func (wpAny_mono (ht.run [] s1 (start N vs) H _ I hq) (fun fl s' hs => ?_) fun e s' hs => hs)⟩
  cases fl with
  | ret u =>
    obtain ⟨v, σ', H', J, rv, q⟩ := hs
    exact ⟨v, H', J.os, J.bare, J.base, J.hok, rv, q⟩
  | next =>
    obtain ⟨σ', H', J, q⟩ := hs
    exact ⟨.non, H', J.os, J.bare, J.base, J.hok, rfl, q⟩
  | brk =>
    obtain ⟨_, _, _, q⟩ := hs
    exact False.elim q
  | cont =>
    obtain ⟨_, _, _, q⟩ := hs
    exact False.elim q
end Pl

-- part P6b
set_option maxHeartbeats 4000000
/-! The pure layer 6b: own classes: their fields are read, they are made. -/
namespace Pl
open PySem PySem.Spec PyProof.Rows L2
theorem putF_zip {y : V} : ∀ {fl : List Str} {xs : List V} {i : Nat} {f : Str}, fl.Nodup → fl[i]? = some f → i ≤ xs.length → putF f y (fl.zip xs) = fl.zip (if i = xs.length then xs ++ [y] else xs.set i y)
  | [], xs, i, f, _, h, _ => by simp at h
  | g :: fl, [], i, f, nd, h, hi => by
    have : i = 0 := by simpa using hi
    subst this
    simp at h
    subst h
    simp [putF]
  | g :: fl, x :: xs, 0, f, nd, h, hi => by
    simp at h
    subst h
    simp [putF]
  | g :: fl, x :: xs, i + 1, f, nd, h, hi => by
    have h : fl[i]? = some f := by simpa using h
    have hne : g ≠ f := fun z => by
      subst z
      exact (List.nodup_cons.mp nd).1 (List.mem_of_getElem? h)
    have ih := putF_zip (y := y) (xs := xs) (List.nodup_cons.mp nd).2 h (by simpa using hi)
    show putF f y ((g, x) :: fl.zip xs) = _
    rw [putF, if_neg hne, ih]
    by_cases e : i = xs.length
    · simp [e]
    · simp [e]
theorem lookup_zip : ∀ {fl : List Str} {xs : List V} {i : Nat} {f : Str} {v : V}, fl.Nodup → fl[i]? = some f → xs[i]? = some v → (fl.zip xs).lookup f = some v
  | [], xs, i, f, v, _, h, _ => by simp at h
  | g :: fl, [], i, f, v, _, _, h => by simp at h
  | g :: fl, x :: xs, 0, f, v, nd, h, hx => by
    simp at h hx
    subst h hx
    simp [List.lookup]
  | g :: fl, x :: xs, i + 1, f, v, nd, h, hx => by
    have h : fl[i]? = some f := by simpa using h
    have hx : xs[i]? = some v := by simpa using hx
    have hne : f ≠ g := fun z => by
      subst z
      exact (List.nodup_cons.mp nd).1 (List.mem_of_getElem? h)
    have := lookup_zip (List.nodup_cons.mp nd).2 h hx
    show List.lookup f ((g, x) :: fl.zip xs) = _
    rw [List.lookup_cons]
    have hb : (f == g) = false := by simpa using hne
    rw [hb]
    exact this
/-- what a class's fields are known by -/
structure ClsOk (K : PySem.W.Frag) (W : Wd) (c : Nat) : Prop where
  cls : Cls K (W.ca c)
  no : ∀ f ∈ W.fl c, NoAttr K (W.ca c) f
  nd : (W.fl c).Nodup
  few : (W.fl c).length < 1000
theorem idx_get {l : List Str} {x : Str} {i : Nat} (h : l.idxOf? x = some i) : l[i]? = some x := by
  unfold List.idxOf? at h
  obtain ⟨h1, h2, _⟩ := List.findIdx?_eq_some_iff_getElem.mp h
  rw [List.getElem?_eq_getElem h1]
  rw [eq_of_beq h2]
section
variable {X : Cx} {W : Wd} {Wx : WX}
theorem r_fld {o : Expr} {f : Str} {pos : Pos} {fl : Nat → List Str} {fe : Rho → M D} (hK : X.K = W.K) (hfl : ∀ c, fl c = W.fl c) (hcl : ∀ c, W.fl c ≠ [] → ClsOk X.K W c) (ho : PE X o (tE W Wx fe)) (hb : attributeBase o f X.env (eval o X.env) = eval o X.env) :
    PE X (.Attribute o f pos) (tE W Wx fun r => M.bind (fe r) fun x => M.lift (fldD fl f x)) :=
  (pe_fld ho hb).imp fun σ H Q ⟨r, g, B, ok, er, out⟩ =>
    tE.go ok er (Stp.refl ok) out.bind fun d B1 g1 H1 v q s1 _ ok1 rv => by
      obtain ⟨y, hy, q2⟩ := OutR.lift q
      unfold fldD at hy
      split at hy
      · rename_i c l
        split at hy
        · rename_i i hi
          rw [hfl] at hi
          have hf := idx_get hi
          obtain ⟨a, dx, xs, rfl, z1, z2, z3, z4⟩ := rv
          obtain ⟨x, hx, rx⟩ := z4.get hy
          have co := hcl c (fun z => by rw [z] at hf; simp at hf)
          exact ⟨a, _, dx, _, x, rfl, ok1.ice _ _ z1, co.cls, co.no f (List.mem_of_getElem? hf), lookup_zip co.nd hf hx, q2 g1 H1 x s1 ok1 rx⟩
        · cases hy
      · cases hy
end
/-- the promise of a class's __init__ : what is made is that tree -/
def spMk (W : Wd) (c n : Nat) (m : List D → M D) : Sp := fun vs H Q E => ∃ (dx : Addr) (vs' : List V) (ds : List D) (g : Gs) (B : Bs) (H0 : Hp), vs = .ref (dx + 1) :: vs' ∧ vs'.length = n ∧ H = upd (upd H0 dx (.own (dx + 1))) (dx + 1) (.ins (W.ca c) dx []) ∧ H0 dx = none ∧ H0 (dx + 1) = none ∧
  Ok W g B H0 ∧ RpL W g ds vs' ∧ OutR W (fun c d _ H' => E c d H') g H0 [] (m ds B) (okE W g H0 fun v H2 => v = .ref (dx + 1) → Q .non H2)
def Maker (P : Program) (w : World) (K : PySem.W.Frag) (mg : Str → Option Value) (base : Heap) (W : Wd) (k c n : Nat) (m : List D → M D) (rg : Bool) : Prop :=
  ∃ f fd ps, ps.length = n + 1 ∧ FnG P w K mg base k f fd ps (spMk W c n m) rg ∧ L2.Mk K (W.ca c) f ∧ Binds K fd ps []
section
variable {X : Cx} {W : Wd} {Wx : WX} {k c : Nat} {rg : Bool}
theorem guards_make {A : Around} {C : Addr} {us : List Value} {kw : List (Str × Value)} (h : A.guards = some []) : (A.under (.builtin "type.__call__" ⟨.ref C :: us, kw⟩)).guards = some [] := by
  first | exact h | simp [Around.under, Code.isGuard, guardIds, h]
theorem run_mk {pins : List (Addr × Obj)} {σ : L2.St} {H : Hp} {s : Shared} {Q : VK} {us : List Value} {vs : List V} {n : Nat} {m : List D → M D} {ds : List D} {g : Gs} {B : Bs} (C : Maker X.prog X.w X.K X.mg X.base W k c n m rg) (hr : Room (k + 1) X.A) (hg : rg = true → X.A.guards = some [])
    (tk : Takes X Wx) (I : Inv X pins σ H s) (r : Vals vs us) (hn : ds.length = n) (ok : Ok W g B H) (rd : RpL W g ds vs) (h : OutR W Wx g H σ (m ds B) (okE W g H Q)) :
    wpAny (model X.prog X.w) X.A (call (.ref (W.ca c)) us) (EP X pins σ Q) X.xe s := by
  obtain ⟨f, fd, ps, hps, F, M, hb⟩ := C
  have n1 := I.hok.fresh (Nat.le_refl s.heap.objs.size)
  have n2 := I.hok.fresh (Nat.le_succ s.heap.objs.size)
  have hq : spMk W c n m (V.ref (s.heap.objs.size + 1) :: vs) (upd (upd H s.heap.objs.size (.own (s.heap.objs.size + 1))) (s.heap.objs.size + 1) (.ins (W.ca c) s.heap.objs.size [])) (fun v H2 => v = .non ∧ Q (.ref (s.heap.objs.size + 1)) H2) (fun c d H' => Wx c d σ H') :=
    ⟨s.heap.objs.size, vs, ds, g, B, H, rfl, by rw [rd.length, hn], rfl, n1, n2, ok, rd, (h.wx (fun _ _ _ z => z)).mono fun d B1 q g' H' v s' o' r' e => ⟨rfl, e ▸ q g' H' v s' o' r'⟩⟩
  have I2 := Inv.made (C := W.ca c) I
  have r2 : Vals (V.ref (s.heap.objs.size + 1) :: vs) (Value.ref (s.heap.objs.size + 1) :: us) := .cons rfl r
  have hl : (Value.ref (s.heap.objs.size + 1) :: us).length = ps.length := by
    have e := r2.length
    rw [F.len _ _ _ _ hq] at e
    exact e.symm
  have bt := hb _ (Value.ref (s.heap.objs.size + 1) :: us) I2.kIn (by rw [List.append_nil]; exact hl)
  rw [List.append_nil] at bt
  refine wpAny_call (make_map (f := f) I.kIn M.makes M.init (beq_iff_eq.mp M.fn) (codeAny_mono (F.run _ X.stack _ _ ⟨Value.ref (s.heap.objs.size + 1) :: us, []⟩ (Value.ref (s.heap.objs.size + 1) :: us) _ _ (fun c d H' => Wx c d σ H') (hr.make (W.ca c) us [])
    (fun z => guards_make (hg z)) (I2.env0.make (W.ca c) us []) bt r2 hq) fun r s' hq' => ?_))
  cases r with
  | error e => exact passAt tk σ pins _ _ e s' I2 hq'
  | ok fl =>
    cases fl with
    | ret u =>
      obtain ⟨v, H', I3, rv, ev, q3⟩ := I2.after hq'
      subst ev
      exact ⟨rv, ⟨V.ref (s.heap.objs.size + 1), H', I3, rfl, q3⟩⟩
    | next => exact False.elim hq'
    | brk => exact False.elim hq'
    | cont => exact False.elim hq'
theorem pe_mkG {x : Str} {p pos : Pos} {e : Expr} {es : List Expr} {n : Nat} {m : List D → M D} {fa : Rho → M (List D)} (C : Maker X.prog X.w X.K X.mg X.base W k c n m rg) (hr : Room (k + 1) X.A) (hgd : rg = true → X.A.guards = some []) (tk : Takes X Wx) (hg : Gl X x) (hm : X.mg x = some (.ref (W.ca c)))
    (ha : PA X (e :: es) (tA W Wx fa)) (hn : ∀ r B ds B', fa r B = .ok ds B' → ds.length = n) (hdb : (x == ("__debug__" : Str)) = false) (he : starEach (e :: es) X.env = (false, eval e X.env) :: starEach es X.env) (hpl : (backTo pos (starEach es X.env)).any (·.1) = false) :
    PE X (.Call (.Name x p) (e :: es) [] pos) (tE W Wx fun r => M.bind (fa r) m) := by
  refine ⟨fun pins s σ H Q I ⟨r, g, B, ok, er, out⟩ => ?_⟩
  refine wpAny_Call_Name_kw (ld_glob I hg hm ?_ hdb)
  refine PySem.W.callWith_K (h₀ := X.base) I.ok.mod.kin C.choose_spec.choose_spec.choose_spec.2.2.1.kp (thn (ha.run pos pins s σ H (fun vs H1 => ∃ ds g1 B1, ds.length = n ∧ Ok W g1 B1 H1 ∧ RpL W g1 ds vs ∧ OutR W Wx g1 H1 σ (m ds B1) (okE W g1 H1 Q)) I ?_) fun us s1 ⟨vs, H1, I1, rv, ds, g1, B1, q1, q2, q3, q4⟩ => ⟨I1.kIn, ?_⟩) he hpl
  · refine ⟨r, g, B, ok, er, ?_⟩
    have out := out.bind
    cases e1 : fa r B with
    | ok ds B1 =>
      rw [e1] at out
      refine fun g1 H1 vs s1 o1 r1 => ⟨ds, g1, B1, hn r B ds B1 e1, o1, r1, ?_⟩
      exact OutR.from out s1 fun d B2 q g' H' v s2 o2 r2 => q g' H' v (s1.trans s2) o2 r2
    | ex c B1 => rw [e1] at out; exact out
    | no => rw [e1] at out; exact out
  · exact run_mk C hr hgd tk I1 rv q1 q2 q3 q4
end
end Pl

-- part P7a
set_option maxHeartbeats 4000000
/-! The pure layer 7a: enumerate over a tuple. -/
namespace Pl
open PySem PySem.Spec PyProof.Rows L2
open Sem (wp)

theorem meets_enumerate_newT1 {v : Value} {o : Obj} {H : Heap → Prop} (B : Begins v o H) :
    Meets (Builtin.«enumerate.__new__» ⟨[.type "enumerate", v], []⟩) (fun _ R s => H s.heap ∧
      R (.ok (.ret (.ref (s.heap.push o).objs.size)))
        { s with heap := (s.heap.push o).push { cls := .type "enumerate", data := .fields #[.none, .bool false, .ref s.heap.objs.size, rawInt 0, .none, .none] } }) :=
  .of_wp fun prog w A R s h => by
    obtain ⟨hp, g, d, tk, os⟩ := s; obtain ⟨h1, h⟩ := h
    have hsub := sub_enumerate
    have q1 : ∀ {A' : Around} {E : Value → Shared → Prop} {Q : Value → Shared → Prop}, Q (.ref hp.objs.size) ⟨hp.push o, g, d, tk, os⟩ → wpAny (model prog w) A' (pyIter v) Q E ⟨hp, g, d, tk, os⟩ :=
      fun q => B.iter prog w _ _ ⟨hp, g, d, tk, os⟩ _ h1 q
    wp_walk using q1
    refine wpAny_stack_any fun st => wpAny_pure ?_
    split
    · rename_i c _ _ _ _ _
      cases (c == Value.type "enumerate")
      · wp_walk using q1
        exact ⟨_, rfl, h⟩
      · wp_walk using q1
        exact ⟨_, rfl, h⟩
    · wp_walk using q1
      exact ⟨_, rfl, h⟩
theorem enum_begins1 {prog : Program} {w : World} {A : Around} {E : Value → Shared → Prop} {s : Shared} {v : Value} {o : Obj} {H : Heap → Prop} {Q : Value → Shared → Prop} (B : Begins v o H) (h1 : H s.heap)
    (h : ∀ h', IsEnum h' (s.heap.objs.size + 1) s.heap.objs.size 0 .none → h'.get? s.heap.objs.size = some o → h'.objs.size = s.heap.objs.size + 2 →
      (∀ b o, s.heap.get? b = some o → h'.get? b = some o) → Q (.ref (s.heap.objs.size + 1)) { s with heap := h' }) :
    wpAny (model prog w) A (call (.type "enumerate") [v]) Q E s := by
  refine callType_new F.called_enumerate (by decide) (F.typeCall_enumerate_1 _) (F.newCall_enumerate_1 _) (fun obj => F.args_object_init_2 obj _) F.entry_enumerate_new
    (meets_enumerate_newT1 B) ⟨h1, ?_⟩
  have hz : (s.heap.push o).objs.size = s.heap.objs.size + 1 := Heap.size_push ..
  show _ ∧ _
  rw [hz]
  have he : IsEnum ((s.heap.push o).push { cls := .type "enumerate", data := .fields #[.none, .bool false, .ref s.heap.objs.size, rawInt 0, .none, .none] }) (s.heap.objs.size + 1) s.heap.objs.size 0 .none := by
    have := Heap.get?_push_size (s.heap.push o) (o := { cls := .type "enumerate", data := .fields #[.none, .bool false, .ref s.heap.objs.size, rawInt 0, .none, .none] }) rfl
    rw [hz] at this; exact this
  refine ⟨⟨_, he, rfl⟩, h _ he (Heap.get?_push_of_some _ (Heap.get?_push_size _ B.free)) (by rw [Heap.size_push, hz]) fun b o x => Heap.get?_push_of_some _ (Heap.get?_push_of_some _ x)⟩
def IteT (K : PySem.W.Frag) (a : Addr) : It :=
  ⟨fun i H => ∃ (xs : List V) (x : V), SqT K H a xs ∧ xs[i]? = some x, fun i H v H' => ∃ T x, v = .ref T ∧ H T = none ∧ H' = upd H T (.tup [.int (i : Nat), x]) ∧ ∀ xs, SqT K H a xs → xs[i]? = some x, fun i H => ∃ xs : List V, SqT K H a xs ∧ xs.length ≤ i⟩
theorem IsTupleIter.ne {h : Heap} {it a : Addr} {i : Nat} {its : Array Value} (h1 : h.IsTupleIter it a i) (h2 : h.IsTuple a its) : a ≠ it := by
  obtain ⟨o, e, c, d⟩ := h1
  obtain ⟨o2, e2, c2, _⟩ := h2
  intro z
  subst z
  rw [e] at e2
  cases e2
  rw [c] at c2
  have c3 : Value.type "tuple_iterator" = Value.type "tuple" := c2
  injection c3 with c3
  exact absurd c3 (by decide)
theorem wpAny_pyNext_enum_endT {prog : Program} {w : World} {A : Around} {E : Value → Shared → Prop} {s : Shared} {e it l : Addr} {i : Nat} {items : Array Value} {old : Value} {Q : Option Value → Shared → Prop} (hh : A.handled = none)
    (he : IsEnum s.heap e it i old) (hit : s.heap.IsTupleIter it l i) (hl : s.heap.IsTuple l items) (hx : items[i]? = none)
    (hQ : ∀ h', Heap.ExtBut it s.heap h' → Q none { s with heap := h' }) : wpAny (model prog w) A (pyNext (.ref e)) Q E s := by
  have hT : s.TypeIs (.ref e) "enumerate" := ⟨_, he, rfl⟩
  unfold pyNext
  refine wpAny_bind (wpAny_attempt (wpAny_callSpecial?_slot (name := Str.ofString "__next__") hT F.slot_enumerate_next
    (wpAny_call_entry F.slot_enumerate_next hT F.entry_enumerate_next ?_ (F.args_enumerate_next_1 _))))
  show wpAny _ _ (field (.ref e) 2 >>= _) _ _ _
  refine wpAny_bind (wpAny_field he rfl (x := .ref it) rfl ?_)
  refine wpAny_bind (wpAny_nextOf_tuple_end hh hit hl hx fun h' x he' hx' => ?_)
  obtain ⟨o, ho, hc⟩ := hx'
  refine wpAny_bind (wpAny_isInstance (T := "StopIteration") (b := true) ⟨o, ho, hc⟩ isSubtype_stop ?_)
  exact wpAny_pure (hQ _ he')
theorem turn_enumT {P : Program} {w : World} {K : PySem.W.Frag} {elts : List Expr} {kk : Nat} {tpos : Pos} (a e it : Addr) (hea : e ≠ a) :
    Turn P w K (.Tuple elts kk tpos) (IteT K a) [e, it] e (fun i h => (∃ old, IsEnum h e it ((i : Nat) : Int) old) ∧ h.IsTupleIter it a i ∧ e ≠ it) where
  mem := by simp
  obj := fun i h st b hb => by
    obtain ⟨⟨old, he⟩, ⟨o, ho, hc, hd⟩, _⟩ := st
    have e' : b = e ∨ b = it := by simpa using hb
    rcases e' with z | z
    · rw [z]; exact ⟨_, he, fun v q => nomatch q⟩
    · rw [z]; exact ⟨o, ho, fun v q => by rw [hd] at q; cases q⟩
  keep := fun i h h' st k => let ⟨⟨old, he⟩, hi, hne⟩ := st; ⟨⟨old, k e (by simp) _ he⟩, hi.at fun o q => k it (by simp) o q, hne⟩
  item := by
    intro X hP hw hK hc i pins s σ H E I hf st hg
    subst hP hw hK
    obtain ⟨⟨old, he⟩, hit, hne⟩ := st
    obtain ⟨xs, x, hq, hx⟩ := hg
    obtain ⟨its, rv, p, hz⟩ := I.tuple hq
    obtain ⟨u, hu, ru⟩ := rv.get hx
    have p' : s.heap.IsTuple a its.toArray := p
    have hel : e < s.heap.objs.size := Heap.lt_size he
    have hil : it < s.heap.objs.size := by obtain ⟨_, q, _⟩ := hit; exact Heap.lt_size q
    have hat : a ≠ it := IsTupleIter.ne hit p'
    refine wpAny_pyNext_enum_itemD (Draws.tuple (prog := X.prog) (w := X.w) (A := X.A.in1) (I.ok.hd hc) it a hat its.toArray) he ⟨hit, p'⟩ (by
      have := (List.getElem?_eq_some_iff.mp hu).1
      simpa using this) hne (by simp [hne, hea]) fun x1 h' tk hx1 ho hit' hT hsz hk => ?_
    have ex1 : x1 = u := by
      have hx1 : its.toArray[i]? = some x1 := hx1
      have : its[i]? = some x1 := by simpa using hx1
      rw [hu] at this
      exact (Option.some.inj this).symm
    subst ex1
    refine ⟨_, rfl, wpAny_letOwnedTupleGo_enum (s := { s with heap := h', toks := tk + 1 }) ho fun h'' he' sb => ?_⟩
    have hT2 : h''.get? s.heap.objs.size = some { cls := .type "tuple", data := .seq #[.int i tk, x1] } := (sb.2 _ (Nat.ne_of_gt hel)).trans hT
    have new : ObjOk X.prog X.w (upd H s.heap.objs.size (.tup [.int (i : Nat), x])) h'' s.heap.objs.size (.tup [.int (i : Nat), x]) :=
      ⟨by show 2 ≤ sizeLine; decide, [.int i tk, x1], .cons ⟨_, rfl⟩ (.cons ru .nil), ⟨_, hT2, rfl, _, rfl⟩⟩
    have I1 : Inv X pins σ (upd H s.heap.objs.size (.tup [.int (i : Nat), x])) { s with heap := h'', toks := tk + 1 } :=
      I.turnedNew (ch := [e, it]) (fun b ob hb q => (sb.2 b (fun z => hb (by simp [z]))).trans (hk b ob (fun z => hb (by simp [z])) (fun z => hb (by simp [z])) q)) hf (Nat.le_refl _) new
    refine ⟨.ref s.heap.objs.size, _, I1, rfl, ⟨_, x, rfl, I.hok.fresh (Nat.le_refl _), rfl, fun ys hy => by rw [I.tuple_inj hy hq]; exact hx⟩, ⟨⟨x1, ?_⟩, hit'.1.at fun o q => (sb.2 it (Ne.symm hne)).trans q, hne⟩, fun b hb => ?_⟩
    · have e1 : ((i + 1 : Nat) : Int) = (i : Int) + 1 := by omega
      rw [e1]; exact he'
    · have hb' : b < s.heap.objs.size := by
        have e' : b = e ∨ b = it := by simpa using hb
        rcases e' with z | z
        · rw [z]; exact hel
        · rw [z]; exact hil
      rw [upd_ne (Nat.ne_of_lt hb')]
      exact (hf b hb).1
  done := by
    intro X hP hw hK hc i pins s σ H E I hf st hg
    subst hP hw hK
    obtain ⟨⟨old, he⟩, hit, hne⟩ := st
    obtain ⟨xs, hq, hx⟩ := hg
    obtain ⟨its, rv, p, hz⟩ := I.tuple hq
    have p' : s.heap.IsTuple a its.toArray := p
    obtain ⟨f0, f1, f2, f3, f4, f5⟩ := hf it (by simp)
    have hl := rv.length
    have hat : a ≠ it := IsTupleIter.ne hit p'
    -- the iterator told as one over the items that are drawn: it stands at or behind the end
    refine wpAny_pyNext_enum_endT (I.ok.hd hc) he hit p' (by simp; omega) fun h' eb => ⟨rfl, I.turned (t' := s.toks) (fun b o hb q => eb b o hb q) f0 f1 f3 f4 f5⟩
  self := fun A i s Q E st h => let ⟨⟨_, he⟩, _⟩ := st; wpAny_pyIter_enum he h
def iEnumA (K : PySem.W.Frag) (ta : TA) : TI := fun σ H R => ta σ H fun vs H1 => ∃ a xs, vs = [.ref a] ∧ ((SqL K H1 a xs ∧ R (Ite K a) H1) ∨ (SqT K H1 a xs ∧ R (IteT K a) H1))
theorem pi_enumA {X : Cx} {e : Expr} {ta : TA} {p pos tpos : Pos} {elts : List Expr} {kk : Nat} (hg : Gl X "enumerate") (hm : X.mg "enumerate" = none) (ha : PA X [e] ta) (hs : starEach [e] X.env = [(false, eval e X.env)]) :
    PI X (.Tuple elts kk tpos) (.Call (.Name "enumerate" p) [e] [] pos) (iEnumA X.K ta) := by
  refine ⟨fun pins s σ H R I h => ?_⟩
  refine Call_ (ld_blt I hg hm boot_enumerate (PyProof.Rows.callWith_type1 (thn (ha.run pos pins s σ H _ I h) fun us s1 ⟨vs, H1, I1, r1, q1⟩ => ?_) hs rfl))
  obtain ⟨a, xs, ex, q⟩ := q1
  subst ex
  cases r1 with
  | cons r rr =>
    cases rr
    cases r
    have fr : ∀ b ∈ [s1.heap.objs.size + 1, s1.heap.objs.size], FpOk X pins H1 b := fun b hb => by
      have e' : b = s1.heap.objs.size + 1 ∨ b = s1.heap.objs.size := by simpa using hb
      have hle : s1.heap.objs.size ≤ b := by
        rcases e' with z | z
        · rw [z]; exact Nat.le_add_right _ _
        · rw [z]; exact Nat.le_refl _
      exact I1.fpOk hle (I1.hok.fresh hle)
    rcases q with ⟨hq, q⟩ | ⟨hq, q⟩
    · obtain ⟨its, rv, p', hz⟩ := I1.list hq
      refine call_enumerate_list p'.isList fun h' he hit hsz hk => wpAny_pyIter_enum he ?_
      have I2 : Inv X pins σ H1 { s1 with heap := h' } := I1.kept (t' := s1.toks) hk
      exact ⟨s1.heap.objs.size + 1, [s1.heap.objs.size + 1, s1.heap.objs.size], _, _, H1, rfl, I2, turn_enum a (s1.heap.objs.size + 1) s1.heap.objs.size, ⟨⟨.none, he⟩, hit, Nat.succ_ne_self _⟩, fr, q⟩
    · obtain ⟨its, rv, p', hz⟩ := I1.tuple hq
      have p2 : s1.heap.IsTuple a its.toArray := p'
      have hlt : a < s1.heap.objs.size := by obtain ⟨o, e, _⟩ := id p2; exact Heap.lt_size e
      refine enum_begins1 (begins_tuple a its.toArray) p2 fun h' he hit hsz hk => wpAny_pyIter_enum he ?_
      have I2 : Inv X pins σ H1 { s1 with heap := h' } := I1.kept (t' := s1.toks) hk
      exact ⟨s1.heap.objs.size + 1, [s1.heap.objs.size + 1, s1.heap.objs.size], _, _, H1, rfl, I2, turn_enumT a (s1.heap.objs.size + 1) s1.heap.objs.size (Nat.ne_of_gt (Nat.lt_succ_of_lt hlt)), ⟨⟨.none, he⟩, ⟨_, hit, rfl, rfl⟩, Nat.succ_ne_self _⟩, fr, q⟩
end Pl

-- part P7b
set_option maxHeartbeats 4000000
/-! The pure layer 7b: the rules of expressions, by what functions on trees say. -/
namespace Pl
open PySem PySem.Spec PyProof.Rows L2
section
variable {X : Cx} {W : Wd} {Wx : WX}
theorem okE.up {g g1 : Gs} {H H1 : Hp} {Q : VK} {d : D} {B : Bs} (q : okE W g H Q d B) (s : Stp g H g1 H1) : okE W g1 H1 Q d B := fun g' H' v s' o r => q g' H' v (s.trans s') o r
theorem okE.now {g g1 : Gs} {H H1 : Hp} {Q : VK} {d : D} {B : Bs} {v : V} (q : okE W g H Q d B) (s : Stp g H g1 H1) (o : Ok W g1 B H1) (r : Rp W g1 d v) : Q v H1 := q g1 H1 v s o r
/-- a value that needs no heap -/
theorem r_const {e : Expr} {v : V} {d : D} (h : PE X e (tC v)) (hr : ∀ g, Rp W g d v) : PE X e (tE W Wx fun _ => M.ret d) :=
  h.imp fun σ H Q ⟨r, g, B, ok, er, out⟩ => okE.now (W := W) (B := B) (d := d) out (Stp.refl ok) ok (hr g)
theorem r_var {i : Nat} {e : Expr} (h : PE X e (tVar i)) : PE X e (tE W Wx fun r => M.lift (getV r i)) :=
  h.imp fun σ H Q ⟨r, g, B, ok, er, out⟩ => by
    obtain ⟨d, h1, q⟩ := out.lift
    unfold getV at h1
    split at h1
    · next d' e1 =>
      cases h1
      obtain ⟨y, e2, ry⟩ := er.sl _ _ e1
      exact ⟨y, e2, okE.now q (Stp.refl ok) ok ry⟩
    · cases h1
theorem r_bin {a b : Expr} {pos : Pos} {o : Bop} {fa fb : Rho → M D} (hK : X.K = W.K) (ha : PE X a (tE W Wx fa)) (hb : PE X b (tE W Wx fb)) :
    PE X (.BinOp a (opOf o) b pos) (tE W Wx fun r => M.bind (fa r) fun x => M.bind (fb r) fun y => M.lift (binD o x y)) :=
  (pe_op (opBin hK o) ha hb).imp fun σ H Q ⟨r, g, B, ok, er, out⟩ =>
    tE.go ok er (Stp.refl ok) out.bind fun x B1 g1 H1 v q s1 _ ok1 rx => tE.go ok1 (er.up s1) s1 q.bind fun y B2 g2 H2 u q2 s2 s12 ok2 ry => by
      obtain ⟨f, hf, q3⟩ := q2.lift
      exact ⟨g2, B2, x, y, f, ok2, Rp.up s12.grow _ _ rx, ry, hf, q3.up s2⟩
theorem r_cmp {a b : Expr} {pos : Pos} {o : Cop} {fa fb : Rho → M D} (hK : X.K = W.K) (hu : X.A.units + 64 < cLine) (ha : PE X a (tE W Wx fa)) (hb : PE X b (tE W Wx fb)) (hm : behindInMarks (copOf o) b = false) :
    PE X (.Compare a [copOf o] [b] pos) (tE W Wx fun r => M.bind (fa r) fun x => M.bind (fb r) fun y => M.lift ((cmpD o x y).map .bl)) :=
  (pe_cmpR (opCmp hK hu o) ha hb hm).imp fun σ H Q ⟨r, g, B, ok, er, out⟩ =>
    tE.go ok er (Stp.refl ok) out.bind fun x B1 g1 H1 v q s1 _ ok1 rx => tE.go ok1 (er.up s1) s1 q.bind fun y B2 g2 H2 u q2 s2 s12 ok2 ry => by
      obtain ⟨f, hf, q3⟩ := q2.lift
      obtain ⟨f1, hf1, rfl⟩ := map_some' hf
      exact ⟨g2, B2, x, y, f1, ok2, Rp.up s12.grow _ _ rx, ry, hf1, fun g' H' s' o' => q3.now (s2.trans s') o' rfl⟩
theorem rt_cmp {a b : Expr} {pos : Pos} {o : Cop} {fa fb : Rho → M D} (hK : X.K = W.K) (hu : X.A.units + 64 < cLine) (ha : PE X a (tE W Wx fa)) (hb : PE X b (tE W Wx fb)) (hm : behindInMarks (copOf o) b = false) :
    PT X (.Compare a [copOf o] [b] pos) (tT W Wx fun r => M.bind (fa r) fun x => M.bind (fb r) fun y => M.lift (cmpD o x y)) :=
  (pt_cmpR (opCmp hK hu o) ha hb hm).imp fun σ H Q ⟨r, g, B, ok, er, out⟩ =>
    tE.go ok er (Stp.refl ok) out.bind fun x B1 g1 H1 v q s1 _ ok1 rx => tE.go ok1 (er.up s1) s1 q.bind fun y B2 g2 H2 u q2 s2 s12 ok2 ry => by
      obtain ⟨f, hf, q3⟩ := q2.lift
      exact ⟨g2, B2, x, y, f, ok2, Rp.up s12.grow _ _ rx, ry, hf, fun g' H' s' o' => ⟨f, rfl, q3 g' H' (s2.trans s') o'⟩⟩
theorem r_ch {a b c : Expr} {pos : Pos} {o o' : Cop} {fa fb fc : Rho → M D} (hK : X.K = W.K) (hu : X.A.units + 64 < cLine) (ha : PE X a (tE W Wx fa)) (hb : PE X b (tE W Wx fb)) (hc : PE X c (tE W Wx fc)) (hm : lastMarks [copOf o, copOf o'] [b, c] = false) :
    PE X (.Compare a [copOf o, copOf o'] [b, c] pos) (tE W Wx fun r => M.bind (fa r) fun x => M.bind (fb r) fun y => M.bind (M.lift (cmpD o x y)) fun k =>
      if k then M.bind (fc r) fun z => M.lift ((cmpD o' y z).map .bl) else M.ret (.bl false)) :=
  (pe_chain (opCmp hK hu o) (opCmp hK hu o') ha hb hc hm).imp fun σ H Q ⟨r, g, B, ok, er, out⟩ =>
    tE.go ok er (Stp.refl ok) out.bind fun x B1 g1 H1 v q s1 _ ok1 rx => tE.go ok1 (er.up s1) s1 q.bind fun y B2 g2 H2 u q2 s2 s12 ok2 ry => by
      obtain ⟨f, hf, q3⟩ := q2.bind.lift
      refine ⟨g2, B2, x, y, f, ok2, Rp.up s12.grow _ _ rx, ry, hf, fun g3 H3 s3 o3 => ⟨f, rfl, ?_⟩⟩
      cases f with
      | false =>
        rw [if_neg (by simp)] at q3 ⊢
        exact okE.now (W := W) (d := .bl false) q3 (s2.trans s3) o3 rfl
      | true =>
        rw [if_pos rfl] at q3 ⊢
        refine tE.go o3 (er.up (s2.trans s3)) (s2.trans s3) q3.bind fun z B4 g4 H4 w q4 s4 s34 ok4 rz => ?_
        obtain ⟨f', hf', q5⟩ := q4.lift
        obtain ⟨f1, hf1, rfl⟩ := map_some' hf'
        exact ⟨g4, B4, y, z, f1, ok4, Rp.up (s3.trans s34).grow _ _ ry, rz, hf1, fun g' H' s' o' => q5.now (s4.trans s') o' rfl⟩
theorem rt_ch {a b c : Expr} {pos : Pos} {o o' : Cop} {fa fb fc : Rho → M D} (hK : X.K = W.K) (hu : X.A.units + 64 < cLine) (ha : PE X a (tE W Wx fa)) (hb : PE X b (tE W Wx fb)) (hc : PE X c (tE W Wx fc)) (hm : lastMarks [copOf o, copOf o'] [b, c] = false) :
    PT X (.Compare a [copOf o, copOf o'] [b, c] pos) (tT W Wx fun r => M.bind (fa r) fun x => M.bind (fb r) fun y => M.bind (M.lift (cmpD o x y)) fun k =>
      if k then M.bind (fc r) fun z => M.lift (cmpD o' y z) else M.ret false) :=
  (pt_chain (opCmp hK hu o) (opCmp hK hu o') ha hb hc hm).imp fun σ H Q ⟨r, g, B, ok, er, out⟩ =>
    tE.go ok er (Stp.refl ok) out.bind fun x B1 g1 H1 v q s1 _ ok1 rx => tE.go ok1 (er.up s1) s1 q.bind fun y B2 g2 H2 u q2 s2 s12 ok2 ry => by
      obtain ⟨f, hf, q3⟩ := q2.bind.lift
      refine ⟨g2, B2, x, y, f, ok2, Rp.up s12.grow _ _ rx, ry, hf, fun g3 H3 s3 o3 => ⟨f, rfl, ?_⟩⟩
      cases f with
      | false =>
        rw [if_neg (by simp)] at q3 ⊢
        exact ⟨false, rfl, q3 g3 H3 (s2.trans s3) o3⟩
      | true =>
        rw [if_pos rfl] at q3 ⊢
        refine tE.go o3 (er.up (s2.trans s3)) (s2.trans s3) q3.bind fun z B4 g4 H4 w q4 s4 s34 ok4 rz => ?_
        obtain ⟨f', hf', q5⟩ := q4.lift
        exact ⟨g4, B4, y, z, f', ok4, Rp.up (s3.trans s34).grow _ _ ry, rz, hf', fun g' H' s' o' => ⟨f', rfl, q5 g' H' (s4.trans s') o'⟩⟩
def negD : D → Option D
  | .int i => some (.int (-i))
  | _ => none
theorem r_neg {a : Expr} {pos : Pos} {fa : Rho → M D} (ha : PE X a (tE W Wx fa)) :
    PE X (.UnaryOp .USub a pos) (tE W Wx fun r => M.bind (fa r) fun x => M.lift (match x with
    | .int i => some (.int (-i))
    | _ => none)) :=
  (pe_un un_neg ha).imp fun σ H Q ⟨r, g, B, ok, er, out⟩ =>
    tE.go ok er (Stp.refl ok) out.bind fun x B1 g1 H1 v q s1 _ ok1 rx => by
      obtain ⟨f, hf, q3⟩ := q.lift
      cases x with
      | int i =>
        cases hf
        have rx : v = .int i := rx
        exact ⟨i, rx, q3.now s1 ok1 rfl⟩
      | _ => cases hf
/-! by truth -/
theorem tru_of {g : Gs} {B : Bs} {H : Hp} (ok : Ok W g B H) {d : D} {v : V} {k : Bool} (r : Rp W g d v) (h : truD d = some k) : TruV W.K v H k := by
  cases d with
  | non => cases h; have r : v = .non := r; subst r; rfl
  | bl b => cases h; have r : v = .bl k := r; subst r; rfl
  | int i => cases h; have r : v = .int i := r; subst r; rfl
  | str s =>
    have r : v = .str s := r
    subst r
    unfold truD at h
    obtain ⟨h1, h2⟩ := ite_some h
    exact ⟨by rw [isz]; exact h1, h2.symm⟩
  | tup l =>
    cases h
    obtain ⟨a, xs, rfl, h1, h2⟩ := r
    refine .inr (.inl ⟨xs, sqT_up ok.ice h1, ?_⟩)
    have := h2.length
    cases l with
    | nil => cases xs with
      | nil => rfl
      | cons x xs => simp at this
    | cons y l => cases xs with
      | nil => simp at this
      | cons x xs => rfl
  | lst l =>
    cases h
    obtain ⟨a, xs, rfl, h1, h2⟩ := r
    refine .inl ⟨xs, SqL.of (ok.ice _ _ h1), ?_⟩
    have := h2.length
    cases l with
    | nil => cases xs with
      | nil => rfl
      | cons x xs => simp at this
    | cons y l => cases xs with
      | nil => simp at this
      | cons x xs => rfl
  | dc =>
    cases h
    obtain ⟨a, rfl, h1⟩ := r
    exact .inr (.inr ⟨[], ok.ice _ _ h1, rfl⟩)
  | _ => cases h
theorem rt_tv {a : Expr} {fa : Rho → M D} (hK : X.K = W.K) (ha : PE X a (tE W Wx fa)) (he : ∀ whole, PySem.isTrue a X.env whole = (do let v ← whole; standAt a.pos; holding [v] (truthy v))) :
    PT X a (tT W Wx fun r => M.bind (fa r) fun x => M.lift (truD x)) :=
  (pt_truth ha he).imp fun σ H Q ⟨r, g, B, ok, er, out⟩ =>
    tE.go ok er (Stp.refl ok) out.bind fun x B1 g1 H1 v q s1 _ ok1 rx => by
      obtain ⟨f, hf, q3⟩ := q.lift
      rw [hK]
      exact ⟨f, tru_of ok1 rx hf, q3 g1 H1 s1 ok1⟩
theorem r_nt {a : Expr} {pos : Pos} {fa : Rho → M D} (hK : X.K = W.K) (ha : PE X a (tE W Wx fa)) :
    PE X (.UnaryOp .Not a pos) (tE W Wx fun r => M.bind (fa r) fun x => M.bind (M.lift (truD x)) fun b => M.ret (.bl (!b))) :=
  (pe_notT ha).imp fun σ H Q ⟨r, g, B, ok, er, out⟩ =>
    tE.go ok er (Stp.refl ok) out.bind fun x B1 g1 H1 v q s1 _ ok1 rx => by
      obtain ⟨f, hf, q3⟩ := q.bind.lift
      rw [hK]
      exact ⟨f, tru_of ok1 rx hf, okE.now (W := W) (d := .bl (!f)) q3 s1 ok1 rfl⟩
theorem rt_nt {a : Expr} {pos : Pos} {fa : Rho → M Bool} (ha : PT X a (tT W Wx fa)) :
    PT X (.UnaryOp .Not a pos) (tT W Wx fun r => M.bind (fa r) fun b => M.ret (!b)) :=
  (pt_not ha).imp fun σ H Q ⟨r, g, B, ok, er, out⟩ =>
    tT.go ok er (Stp.refl ok) out.bind fun x B1 g1 H1 q s1 _ ok1 => q g1 H1 s1 ok1
theorem r_and {a b : Expr} {rest : List Expr} {pos : Pos} {fa fb : Rho → M D} (hK : X.K = W.K) (ha : PE X a (tE W Wx fa)) (hb : PE X (.BoolOp .And (b :: rest) pos) (tE W Wx fb)) :
    PE X (.BoolOp .And (a :: b :: rest) pos) (tE W Wx fun r => M.bind (fa r) fun x => M.bind (M.lift (truD x)) fun k => if k then fb r else M.ret x) :=
  (pe_andT ha hb).imp fun σ H Q ⟨r, g, B, ok, er, out⟩ =>
    tE.go ok er (Stp.refl ok) out.bind fun x B1 g1 H1 v q s1 _ ok1 rx => by
      obtain ⟨f, hf, q3⟩ := q.bind.lift
      rw [hK]
      refine ⟨f, tru_of ok1 rx hf, ?_⟩
      cases f with
      | false =>
        rw [if_neg (by simp)] at q3 ⊢
        exact okE.now (W := W) (d := x) q3 s1 ok1 rx
      | true =>
        rw [if_pos rfl] at q3 ⊢
        exact tE.go ok1 (er.up s1) s1 q3 fun z B4 g4 H4 w q4 s4 s34 ok4 rz => q4.now s4 ok4 rz
theorem r_or {a b : Expr} {rest : List Expr} {pos : Pos} {fa fb : Rho → M D} (hK : X.K = W.K) (ha : PE X a (tE W Wx fa)) (hb : PE X (.BoolOp .Or (b :: rest) pos) (tE W Wx fb)) :
    PE X (.BoolOp .Or (a :: b :: rest) pos) (tE W Wx fun r => M.bind (fa r) fun x => M.bind (M.lift (truD x)) fun k => if k then M.ret x else fb r) :=
  (pe_orT ha hb).imp fun σ H Q ⟨r, g, B, ok, er, out⟩ =>
    tE.go ok er (Stp.refl ok) out.bind fun x B1 g1 H1 v q s1 _ ok1 rx => by
      obtain ⟨f, hf, q3⟩ := q.bind.lift
      rw [hK]
      refine ⟨f, tru_of ok1 rx hf, ?_⟩
      cases f with
      | true =>
        rw [if_pos rfl] at q3 ⊢
        exact okE.now (W := W) (d := x) q3 s1 ok1 rx
      | false =>
        rw [if_neg (by simp)] at q3 ⊢
        exact tE.go ok1 (er.up s1) s1 q3 fun z B4 g4 H4 w q4 s4 s34 ok4 rz => q4.now s4 ok4 rz
theorem rt_and {a b : Expr} {rest : List Expr} {pos : Pos} {fa fb : Rho → M Bool} (ha : PT X a (tT W Wx fa)) (hb : PW X (.BoolOp .And (b :: rest) pos) (tT W Wx fb)) :
    PW X (.BoolOp .And (a :: b :: rest) pos) (tT W Wx fun r => M.bind (fa r) fun k => if k then fb r else M.ret false) :=
  ⟨fun wh pins s σ H Q I ⟨r, g, B, ok, er, out⟩ => (pw_and ha hb).run wh pins s σ H Q I (tT.go ok er (Stp.refl ok) out.bind fun f B1 g1 H1 q s1 _ ok1 => by
      cases f with
      | false =>
        rw [if_neg (by simp)] at q ⊢
        exact q g1 H1 s1 ok1
      | true =>
        rw [if_pos rfl] at q ⊢
        exact tT.go ok1 (er.up s1) s1 q fun z B4 g4 H4 q4 s4 s34 ok4 => q4 g4 H4 s4 ok4)⟩
theorem rt_or {a b : Expr} {rest : List Expr} {pos : Pos} {fa fb : Rho → M Bool} (ha : PT X a (tT W Wx fa)) (hb : PW X (.BoolOp .Or (b :: rest) pos) (tT W Wx fb)) :
    PW X (.BoolOp .Or (a :: b :: rest) pos) (tT W Wx fun r => M.bind (fa r) fun k => if k then M.ret true else fb r) :=
  ⟨fun wh pins s σ H Q I ⟨r, g, B, ok, er, out⟩ => (pw_or ha hb).run wh pins s σ H Q I (tT.go ok er (Stp.refl ok) out.bind fun f B1 g1 H1 q s1 _ ok1 => by
      cases f with
      | true =>
        rw [if_pos rfl] at q ⊢
        exact q g1 H1 s1 ok1
      | false =>
        rw [if_neg (by simp)] at q ⊢
        exact tT.go ok1 (er.up s1) s1 q fun z B4 g4 H4 q4 s4 s34 ok4 => q4 g4 H4 s4 ok4)⟩
theorem r_ite {c a b : Expr} {pos : Pos} {fc : Rho → M Bool} {fa fb : Rho → M D} (hc : PT X c (tT W Wx fc)) (ha : PE X a (tE W Wx fa)) (hb : PE X b (tE W Wx fb)) :
    PE X (.IfExp c a b pos) (tE W Wx fun r => M.bind (fc r) fun k => if k then fa r else fb r) :=
  (pe_ifExp hc ha hb).imp fun σ H Q ⟨r, g, B, ok, er, out⟩ =>
    tT.go ok er (Stp.refl ok) out.bind fun f B1 g1 H1 q s1 _ ok1 => by
      cases f with
      | true =>
        rw [if_pos rfl] at q ⊢
        exact tE.go ok1 (er.up s1) s1 q fun z B4 g4 H4 w q4 s4 s34 ok4 rz => q4.now s4 ok4 rz
      | false =>
        rw [if_neg (by simp)] at q ⊢
        exact tE.go ok1 (er.up s1) s1 q fun z B4 g4 H4 w q4 s4 s34 ok4 rz => q4.now s4 ok4 rz
/-! lists of expressions -/
theorem ra_nil : PA X [] (tA W Wx fun _ => M.ret []) :=
  pa_nil.imp fun σ H Q ⟨r, g, B, ok, er, out⟩ => (show okA W g H Q [] B from out) g H [] (Stp.refl ok) ok RpL.nil
theorem ra_cons {e : Expr} {es : List Expr} {fa : Rho → M D} {fl : Rho → M (List D)} (ha : PE X e (tE W Wx fa)) (hl : PA X es (tA W Wx fl)) (hs : starEach (e :: es) X.env = (false, eval e X.env) :: starEach es X.env) :
    PA X (e :: es) (tA W Wx fun r => M.bind (fa r) fun x => M.bind (fl r) fun xs => M.ret (x :: xs)) :=
  (pa_cons ha hl hs).imp fun σ H Q ⟨r, g, B, ok, er, out⟩ =>
    tE.go ok er (Stp.refl ok) out.bind fun x B1 g1 H1 v q s1 _ ok1 rx => tA.go ok1 (er.up s1) s1 q.bind fun xs B2 g2 H2 vs q2 s2 s12 ok2 rxs =>
      (show okA W g H Q (x :: xs) B2 from q2) g2 H2 (v :: vs) s2 ok2 (RpL.cons (Rp.up s12.grow _ _ rx) rxs)
theorem r_tup {es : List Expr} {k : Nat} {pos : Pos} {fl : Rho → M (List D)} (hl : PA X es (tA W Wx fl)) :
    PE X (.Tuple es k pos) (tE W Wx fun r => M.bind (fl r) fun xs => M.lift (if xs.length ≤ SZ then some (.tup xs) else none)) :=
  (pe_tup hl).imp fun σ H Q ⟨r, g, B, ok, er, out⟩ =>
    tA.go ok er (Stp.refl ok) out.bind fun xs B1 g1 H1 vs q s1 _ ok1 rx => by
      obtain ⟨f, hf, q3⟩ := q.lift
      obtain ⟨hz, rfl⟩ := ite_some hf
      refine ⟨by rw [rx.length, isz]; exact hz, fun p hp => ?_⟩
      exact q3.now (s1.trans (Stp.newI ok1 hp)) (ok1.newI hp nt_tup) ⟨p, vs, rfl, .inl (.inl ice_at), RpL.up (grow_ice (ok1.zfree hp)) _ _ rx⟩
/-- a fresh list -/
theorem tF.new {g g1 : Gs} {B1 : Bs} {H H1 : Hp} {Q : VK} {xs : List D} {vs : List V} {p : Addr} (s1 : Stp g H g1 H1) (ok1 : Ok W g1 B1 H1) (rx : RpL W g1 xs vs) (hp : H1 p = none) (q : okF W g H Q xs B1) : Q (.ref p) (upd H1 p (.lst vs)) :=
  q g1 (upd H1 p (.lst vs)) p vs (s1.trans (Stp.new ok1 hp)) (ok1.new hp) rx upd_same (ok1.zfree hp) (ok1.nbag hp) (s1.there (vac_none hp))
theorem rf_lst {es : List Expr} {pos : Pos} {fl : Rho → M (List D)} (hl : PA X es (tA W Wx fl)) :
    PE X (.List es pos) (tF W Wx fun r => M.bind (fl r) lstM) :=
  (pe_lst hl).imp fun σ H Q ⟨r, g, B, ok, er, out⟩ =>
    tA.go ok er (Stp.refl ok) out.bind fun xs B1 g1 H1 vs q s1 _ ok1 rx => by
      obtain ⟨f, hf, q3⟩ := q.lift
      obtain ⟨hz, rfl⟩ := ite_some hf
      exact ⟨by rw [rx.length, isz]; exact hz, fun p hp => tF.new s1 ok1 rx hp q3⟩
theorem r_frz {e : Expr} {fl : Rho → M (List D)} (h : PE X e (tF W Wx fl)) : PE X e (tE W Wx fun r => M.lst (fl r)) := h.imp fun σ H Q q => tF.ice q
/-- [..] that is to be changed by whoever holds it -/
theorem r_bag {es : List Expr} {pos : Pos} {fl : Rho → M (List D)} (hl : PA X es (tA W Wx fl)) :
    PE X (.List es pos) (tE W Wx fun r => M.bind (fl r) fun xs => M.bind (lstM xs) bagM) :=
  (pe_lst hl).imp fun σ H Q ⟨r, g, B, ok, er, out⟩ =>
    tA.go ok er (Stp.refl ok) out.bind fun xs B1 g1 H1 vs q s1 _ ok1 rx => by
      obtain ⟨f, hf, q3⟩ := q.bind.lift
      obtain ⟨hz, rfl⟩ := ite_some hf
      refine ⟨by rw [rx.length, isz]; exact hz, fun p hp => ?_⟩
      have q3 : okE W g H Q (.bag B1.length) (B1 ++ [xs]) := q3
      have zf := ok1.zfree hp
      have nb := ok1.nbag hp
      have gr : Grow g1 ⟨g1.Z, g1.b ++ [p], g1.e⟩ := ⟨fun _ _ h => h, [p], rfl⟩
      have ok2 : Ok W ⟨g1.Z, g1.b ++ [p], g1.e⟩ (B1 ++ [xs]) (upd H1 p (.lst vs)) := by
        refine ⟨fun a o h => same_upd' hp a o (ok1.ice a o h), ok1.kin, by simp [ok1.len], ?_, fun i a ds h1 h2 => ?_, ok1.tab.ext (same_upd' hp)⟩
        · refine List.nodup_append.mpr ⟨ok1.nd, by simp, fun a ha b hb => ?_⟩
          simp only [List.mem_singleton] at hb
          subst hb
          exact fun z => nb (z ▸ ha)
        · have h1 : (g1.b ++ [p])[i]? = some a := h1
          by_cases hi : i < g1.b.length
          · rw [List.getElem?_append_left hi] at h1
            rw [List.getElem?_append_left (by rw [← ok1.len]; exact hi)] at h2
            obtain ⟨q1, ys, q2, q4⟩ := ok1.bag i a ds h1 h2
            exact ⟨q1, ys, same_upd' hp a _ q2, RpL.up gr _ _ q4⟩
          · rw [List.getElem?_append_right (by omega)] at h1
            rw [List.getElem?_append_right (by rw [← ok1.len]; omega)] at h2
            rw [← ok1.len] at h2
            cases e : i - g1.b.length with
            | zero =>
              rw [e] at h1 h2
              cases h1
              cases h2
              exact ⟨zf, vs, upd_same, RpL.up gr _ _ rx⟩
            | succ n => rw [e] at h1; cases h1
      have s2 : Stp g1 H1 ⟨g1.Z, g1.b ++ [p], g1.e⟩ (upd H1 p (.lst vs)) := by
        refine ⟨gr, fun _ _ _ _ => rfl, fun a h k => ?_, fun a u h _ _ => same_upd' hp a u h, fun a h => ?_, rfl⟩
        · rcases List.mem_append.mp h with z | z
          · exact absurd z k
          · simp only [List.mem_singleton] at z
            rw [z]; exact vac_none hp
        · obtain ⟨_, ys, e⟩ := ok1.bagAt h
          exact ⟨ys, same_upd' hp a _ e⟩
      refine q3.now (s1.trans s2) ok2 ⟨p, rfl, ?_⟩
      show (g1.b ++ [p])[B1.length]? = some p
      rw [← ok1.len]
      simp
theorem r_dc {pos : Pos} : PE X (.Dict [] [] pos) (tE W Wx fun _ => M.ret .dc) :=
  pe_dnewK.imp fun σ H Q ⟨r, g, B, ok, er, out⟩ p hp => by
    have nt : ∀ ps, HO.dK [] ≠ .tbl ps := nt_dK
    exact okE.now (W := W) (d := .dc) out (Stp.newI ok hp) (ok.newI hp nt) ⟨p, rfl, ice_at⟩
theorem r_ix {a b : Expr} {pos : Pos} {fa fb : Rho → M D} (hK : X.K = W.K) (ha : PE X a (tE W Wx fa)) (hb : PE X b (tE W Wx fb)) (hp : PlainIx b) :
    PE X (.Subscript a b pos) (tE W Wx fun r => M.bind (fa r) fun x => M.bind (fb r) fun y => fun B => M.lift (ixM B x y) B) :=
  (pe_ix (ixAny hK) ha hb hp).imp fun σ H Q ⟨r, g, B, ok, er, out⟩ =>
    tE.go ok er (Stp.refl ok) out.bind fun x B1 g1 H1 v q s1 _ ok1 rx => tE.go ok1 (er.up s1) s1 q.bind fun y B2 g2 H2 u q2 s2 s12 ok2 ry => by
      obtain ⟨f, hf, q3⟩ := OutR.lift q2
      exact ⟨g2, B2, x, y, f, ok2, Rp.up s12.grow _ _ rx, ry, hf, q3.up s2⟩
theorem getO_some {r : Rho} {i : Nat} {l : List D} (h : getO r i = some l) : r[i]? = some (.o l) := by
  unfold getO at h
  split at h
  · next l' e => cases h; exact e
  · cases h
theorem r_ixo {i : Nat} {a b : Expr} {pos : Pos} {fb : Rho → M D} (ha : PE X a (tVar i)) (hb : PE X b (tE W Wx fb)) (hp : PlainIx b) :
    PE X (.Subscript a b pos) (tE W Wx fun r => M.bind (M.lift (getO r i)) fun l => M.bind (fb r) fun y => M.lift (ixD (.lst l) y)) :=
  (pe_ix ix_list ha hb hp).imp fun σ H Q ⟨r, g, B, ok, er, out⟩ => by
    obtain ⟨l, hl, q⟩ := out.bind.lift
    obtain ⟨p, xs, e1, e2, e3, e4, e5⟩ := er.sl _ _ (getO_some hl)
    refine ⟨_, e1, tE.go ok er (Stp.refl ok) q.bind fun y B2 g2 H2 u q2 s2 _ ok2 ry => ?_⟩
    obtain ⟨f, hf, q3⟩ := q2.lift
    cases y with
    | int j =>
      have ry : u = .int j := ry
      have hf : atI l j = some f := hf
      obtain ⟨x, hx, rx⟩ := (RpL.up s2.grow _ _ e5).at hf
      exact ⟨p, xs, j, x, rfl, ry, SqL.of (s2.h p _ e2 e4 nt_lst), hx, q3.now s2 ok2 rx⟩
    | _ => cases hf
theorem r_lno {i : Nat} {x : Str} {a : Expr} {p pos : Pos} (ha : PE X a (tVar i)) (hs : starEach [a] X.env = [(false, eval a X.env)]) (hg : Gl X x) (hm : X.mg x = none) (hb : bootBuiltins x = some (.builtin "len")) (h1 : x ≠ "__name__") (h2 : (x == ("__debug__" : Str)) = false) :
    PE X (.Call (.Name x p) [a] [] pos) (tE W Wx fun r => M.lift ((getO r i).map fun l => .int l.length)) :=
  (pe_callB call_len_seq hg hm hb (pa_cons ha pa_nil hs) h1 h2 hs rfl).imp fun σ H Q ⟨r, g, B, ok, er, out⟩ => by
    obtain ⟨f, hf, q⟩ := out.lift
    obtain ⟨l, hl, rfl⟩ := map_some' hf
    obtain ⟨p, xs, e1, e2, e3, e4, e5⟩ := er.sl _ _ (getO_some hl)
    refine ⟨_, e1, p, xs, rfl, .inl (SqL.of e2), ?_⟩
    rw [e5.length]
    exact q.now (Stp.refl ok) ok rfl
/-! slices -/
def tO (W : Wd) (Wx : WX) (f : Rho → M (Option D)) : TO := fun σ H Q => ∃ r g B, Ok W g B H ∧ EnvR W g H r σ ∧ OutR W Wx g H σ (M.bind (f r) (fun o => M.lift (optI o)) B) fun i B' => ∀ g' H', Stp g H g' H' → Ok W g' B' H' → Q i H'
theorem tO.go {g g1 : Gs} {B : Bs} {H H1 : Hp} {σ : L2.St} {r : Rho} {f : Rho → M (Option D)} {Q : Option Int → Hp → Prop} (ok : Ok W g1 B H1) (er : EnvR W g1 H1 r σ) {q : Option Int → Bs → Prop} (s : Stp g H g1 H1) (h : OutR W Wx g H σ (M.bind (f r) (fun o => M.lift (optI o)) B) q)
    (k : ∀ i B2 g2 H2, q i B2 → Stp g H g2 H2 → Stp g1 H1 g2 H2 → Ok W g2 B2 H2 → Q i H2) : tO W Wx f σ H1 Q :=
  ⟨r, g1, B, ok, er, h.from s fun i B2 hq g2 H2 s2 o2 => k i B2 g2 H2 hq (s.trans s2) s2 o2⟩
theorem PO.imp {e : Option Expr} {t t' : TO} (h : PO X e t) (k : ∀ σ H Q, t' σ H Q → t σ H Q) : PO X e t' := ⟨fun pins s σ H Q I q => h.run pins s σ H Q I (k σ H Q q)⟩
theorem ro_none : PO X none (tO W Wx fun _ => M.ret none) :=
  PO.imp po_none fun σ H Q ⟨r, g, B, ok, er, out⟩ => by
    obtain ⟨i, hi, q⟩ := OutR.lift (show OutR W Wx g H σ (M.lift (optI none) B) _ from out)
    cases hi
    exact q g H (Stp.refl ok) ok
theorem ro_some {e : Expr} {fe : Rho → M D} (h : PE X e (tE W Wx fe)) : PO X (some e) (tO W Wx fun r => M.bind (fe r) fun x => M.ret (some x)) :=
  PO.imp (po_some h) fun σ H Q ⟨r, g, B, ok, er, out⟩ =>
    tE.go ok er (Stp.refl ok) out.bind.bind fun x B1 g1 H1 v q s1 _ ok1 rx => by
      obtain ⟨i, hi, q⟩ := OutR.lift q
      cases x with
      | int j =>
        cases hi
        have rx : v = .int j := rx
        exact ⟨j, rx, q g1 H1 s1 ok1⟩
      | _ => cases hi
theorem M.bind_assoc {α β γ : Type} (m : M α) (f : α → M β) (k : β → M γ) : M.bind (M.bind m f) k = M.bind m fun a => M.bind (f a) k := by
  funext B
  unfold M.bind
  cases m B <;> rfl
theorem r_sl {a : Expr} {lo hi : Option Expr} {pos p2 : Pos} {fa : Rho → M D} {fl fh : Rho → M (Option D)} (hK : X.K = W.K) (ha : PE X a (tE W Wx fa)) (hl : PO X lo (tO W Wx fl)) (hh : PO X hi (tO W Wx fh)) :
    PE X (.Subscript a (.Slice lo hi none p2) pos) (tE W Wx fun r => M.bind (fa r) fun x => M.bind (fl r) fun l => M.bind (M.lift (optI l)) fun l => M.bind (fh r) fun h => M.bind (M.lift (optI h)) fun h => M.lift (slD x l h)) :=
  (pe_slice (slAny hK) ha hl hh).imp fun σ H Q ⟨r, g, B, ok, er, out⟩ =>
    tE.go ok er (Stp.refl ok) out.bind fun x B1 g1 H1 v q s1 _ ok1 rx => by
      have q : OutR W Wx g H σ (M.bind (M.bind (fl r) fun l => M.lift (optI l)) (fun l => M.bind (fh r) fun h => M.bind (M.lift (optI h)) fun h => M.lift (slD x l h)) B1) (okE W g H Q) := by rw [M.bind_assoc]; exact q
      refine tO.go ok1 (er.up s1) s1 q.bind fun l B2 g2 H2 q2 s2 s12 ok2 => ?_
      have q2 : OutR W Wx g H σ (M.bind (M.bind (fh r) fun h => M.lift (optI h)) (fun h => M.lift (slD x l h)) B2) (okE W g H Q) := by rw [M.bind_assoc]; exact q2
      refine tO.go ok2 (er.up s2) s2 q2.bind fun h B3 g3 H3 q3 s3 s23 ok3 => ?_
      obtain ⟨f, hf, q4⟩ := q3.lift
      exact ⟨g3, B3, x, f, ok3, Rp.up (s12.trans s23).grow _ _ rx, hf, q4.up s3⟩
theorem r_rv {a : Expr} {k : Nat} {p1 p2 p3 pos : Pos} {fa : Rho → M D} (hK : X.K = W.K) (ha : PE X a (tE W Wx fa)) :
    PE X (.Subscript a (.Slice none none (some (.UnaryOp .USub (.Constant (.int 1) k p1) p2)) p3) pos) (tE W Wx fun r => M.bind (fa r) fun x => M.lift (revD x)) :=
  (pe_revA ha).imp fun σ H Q ⟨r, g, B, ok, er, out⟩ =>
    tE.go ok er (Stp.refl ok) out.bind fun x B1 g1 H1 v q s1 _ ok1 rx => by
      obtain ⟨f, hf, q3⟩ := q.lift
      cases x with
      | tup l =>
        cases hf
        obtain ⟨a, xs, e, h1, h2⟩ := rx
        refine ⟨a, xs, e, .inr ⟨by rw [hK]; exact sqT_up ok1.ice h1, fun p hp => ?_⟩⟩
        exact q3.now (s1.trans (Stp.newI ok1 hp)) (ok1.newI hp nt_tup) ⟨p, xs.reverse, rfl, .inl (.inl ice_at), RpL.up (grow_ice (ok1.zfree hp)) _ _ h2.rev⟩
      | lst l =>
        cases hf
        obtain ⟨a, xs, e, h1, h2⟩ := rx
        refine ⟨a, xs, e, .inl ⟨SqL.of (ok1.ice _ _ h1), fun p hp => ?_⟩⟩
        exact q3.now (s1.trans (Stp.newI ok1 hp)) (ok1.newI hp nt_lst) ⟨p, xs.reverse, rfl, ice_at, RpL.up (grow_ice (ok1.zfree hp)) _ _ h2.rev⟩
      | _ => cases hf
/-! built-ins -/
theorem r_bi {x : Str} {p pos : Pos} {e : Expr} {es : List Expr} {id : String} {b : Bi} {fl : Rho → M (List D)} (hc : CallR X (.builtin id) (rBi W b)) (hg : Gl X x) (hm : X.mg x = none) (hb : bootBuiltins x = some (.builtin id)) (hl : PA X (e :: es) (tA W Wx fl))
    (h1 : x ≠ "__name__") (h2 : (x == ("__debug__" : Str)) = false) (hs : starEach (e :: es) X.env = (false, eval e X.env) :: starEach es X.env) (hpl : (backTo pos (starEach es X.env)).any (·.1) = false) :
    PE X (.Call (.Name x p) (e :: es) [] pos) (tE W Wx fun r => M.bind (fl r) fun xs => M.lift (biD b xs)) :=
  (pe_callB hc hg hm hb hl h1 h2 hs hpl).imp fun σ H Q ⟨r, g, B, ok, er, out⟩ =>
    tA.go ok er (Stp.refl ok) out.bind fun xs B1 g1 H1 vs q s1 _ ok1 rx => by
      obtain ⟨f, hf, q3⟩ := q.lift
      exact ⟨g1, B1, xs, f, ok1, rx, hf, q3.up s1⟩
theorem r_biT {x : Str} {p pos : Pos} {e : Expr} {es : List Expr} {id : String} {b : Bi} {fl : Rho → M (List D)} (hc : CallR X (.type id) (rBi W b)) (hg : Gl X x) (hm : X.mg x = none) (hb : bootBuiltins x = some (.type id)) (hl : PA X (e :: es) (tA W Wx fl))
    (h1 : x ≠ "__name__") (h2 : (x == ("__debug__" : Str)) = false) (hs : starEach (e :: es) X.env = (false, eval e X.env) :: starEach es X.env) (hpl : (backTo pos (starEach es X.env)).any (·.1) = false) :
    PE X (.Call (.Name x p) (e :: es) [] pos) (tE W Wx fun r => M.bind (fl r) fun xs => M.lift (biD b xs)) :=
  (pe_callTy hc hg hm hb hl h1 h2 hs hpl).imp fun σ H Q ⟨r, g, B, ok, er, out⟩ =>
    tA.go ok er (Stp.refl ok) out.bind fun xs B1 g1 H1 vs q s1 _ ok1 rx => by
      obtain ⟨f, hf, q3⟩ := q.lift
      exact ⟨g1, B1, xs, f, ok1, rx, hf, q3.up s1⟩
end
end Pl

-- part P7c
set_option maxHeartbeats 4000000
/-! The pure layer 7c: slots changed, own lists, targets, walks, comprehensions. -/
namespace Pl
open PySem PySem.Spec PyProof.Rows L2
section
variable {X : Cx} {W : Wd} {Wx : WX} {g g1 : Gs} {B : Bs} {H H1 : Hp} {σ : L2.St} {r : Rho}
/-! ### slots -/
theorem EnvR.setV {i : Nat} {d : D} {v : V} (er : EnvR W g H r σ) (hr : Rp W g d v) (hi : i < r.length) : EnvR W g H (r.set i (.v d)) (σ.set i (some v)) := by
  have hσ : i < σ.length := by rw [← er.len]; exact hi
  refine ⟨by rw [List.length_set, List.length_set]; exact er.len, fun j s h => ?_, fun j k s t a h1 h2 o1 o2 h3 h4 => ?_⟩
  · by_cases hj : i = j
    · subst hj
      rw [List.getElem?_set_self hi] at h
      cases h
      exact ⟨v, List.getElem?_set_self hσ, hr⟩
    · rw [List.getElem?_set_ne hj] at h
      rw [List.getElem?_set_ne hj]
      exact er.sl j s h
  · have nj : i ≠ j := fun z => by
      subst z
      rw [List.getElem?_set_self hi] at h1
      cases h1
      cases o1
    have nk : i ≠ k := fun z => by
      subst z
      rw [List.getElem?_set_self hi] at h2
      cases h2
      cases o2
    rw [List.getElem?_set_ne nj] at h1 h3
    rw [List.getElem?_set_ne nk] at h2 h4
    exact er.ap j k s t a h1 h2 o1 o2 h3 h4
theorem EnvR.own_some {i : Nat} {s : Sl} {a : Addr} (er : EnvR W g H r σ) (h : r[i]? = some s) (o : s.own = true) (e : σ[i]? = some (some (.ref a))) : ∃ u, H a = some u ∧ ∀ ps, u ≠ .tbl ps := by
  have q := er.sl i s h
  cases s with
  | e => cases o
  | v d => cases o
  | er c => cases o
  | la => cases o
  | o l =>
    obtain ⟨b, xs, q1, q2, _⟩ := q
    rw [e] at q1
    cases q1
    exact ⟨_, q2, nt_lst⟩
  | oi c l =>
    obtain ⟨b, dx, xs, q1, q2, _⟩ := q
    rw [e] at q1
    cases q1
    exact ⟨_, q2, nt_ins⟩
/-- a slot gets a list that nobody else knows -/
theorem EnvR.setO {i : Nat} {p : Addr} {l : List D} {xs : List V} (er : EnvR W g H r σ) (s : Stp g H g1 H1) (hi : i < r.length) (h0 : Vac H p) (h1 : H1 p = some (.lst xs)) (hz : g1.Z p = none) (hb : p ∉ g1.b) (rl : RpL W g1 l xs) :
    EnvR W g1 H1 (r.set i (.o l)) (σ.set i (some (.ref p))) := by
  have hσ : i < σ.length := by rw [← er.len]; exact hi
  have er1 := er.up s
  have other : ∀ (j : Nat) (s : Sl) (a : Addr), r[j]? = some s → s.own = true → σ[j]? = some (some (.ref a)) → a ≠ p := fun j s a h o e z => by
    subst z
    obtain ⟨u, q, n⟩ := er.own_some h o e
    exact ne_of_vac q n h0 rfl
  refine ⟨by rw [List.length_set, List.length_set]; exact er.len, fun j s h => ?_, fun j k s t a h1 h2 o1 o2 h3 h4 => ?_⟩
  · by_cases hj : i = j
    · subst hj
      rw [List.getElem?_set_self hi] at h
      cases h
      exact ⟨p, xs, List.getElem?_set_self hσ, h1, hz, hb, rl⟩
    · rw [List.getElem?_set_ne hj] at h
      rw [List.getElem?_set_ne hj]
      exact er1.sl j s h
  · by_cases hj : i = j
    · subst hj
      by_cases hk : i = k
      · exact hk
      · rw [List.getElem?_set_self hσ] at h3
        cases h3
        rw [List.getElem?_set_ne hk] at h2 h4
        exact absurd rfl (other k t p h2 o2 h4)
    · by_cases hk : i = k
      · subst hk
        rw [List.getElem?_set_self hσ] at h4
        cases h4
        rw [List.getElem?_set_ne hj] at h1 h3
        exact absurd rfl (other j s p h1 o1 h3)
      · rw [List.getElem?_set_ne hj] at h1 h3
        rw [List.getElem?_set_ne hk] at h2 h4
        exact er.ap j k s t a h1 h2 o1 o2 h3 h4
/-- a slot is forgotten -/
theorem EnvR.setE {i : Nat} {x : Option V} (er : EnvR W g H r σ) : EnvR W g H (r.set i .e) (σ.set i x) := by
  refine ⟨by rw [List.length_set, List.length_set]; exact er.len, fun j s h => ?_, fun j k s t a h1 h2 o1 o2 h3 h4 => ?_⟩
  · by_cases hj : i = j
    · subst hj
      by_cases hi : i < r.length
      · rw [List.getElem?_set_self hi] at h
        cases h
        trivial
      · rw [List.getElem?_eq_none (by simpa using hi)] at h
        cases h
    · rw [List.getElem?_set_ne hj] at h
      rw [List.getElem?_set_ne hj]
      exact er.sl j s h
  · have aux : ∀ (m : Nat) (u : Sl), (r.set i .e)[m]? = some u → u.own = true → i ≠ m := fun m u h o z => by
      subst z
      by_cases hi : i < r.length
      · rw [List.getElem?_set_self hi] at h
        cases h
        cases o
      · rw [List.getElem?_eq_none (by simpa using hi)] at h
        cases h
    have nj := aux j s h1 o1
    have nk := aux k t h2 o2
    rw [List.getElem?_set_ne nj] at h1 h3
    rw [List.getElem?_set_ne nk] at h2 h4
    exact er.ap j k s t a h1 h2 o1 o2 h3 h4
theorem EnvR.wipe (er : EnvR W g H r σ) : ∀ w : List Nat, EnvR W g H (wipeR r w) (L2.wipe σ w)
  | [] => er
  | i :: w => by
    show EnvR W g H ((wipeR r w).set i .e) ((L2.wipe σ w).set i none)
    exact (er.wipe w).setE
theorem wipeR_length : ∀ (r : Rho) (w : List Nat), (wipeR r w).length = r.length
  | r, [] => rfl
  | r, i :: w => by
    show ((wipeR r w).set i .e).length = _
    rw [List.length_set, wipeR_length r w]
theorem wipe_in {i : Nat} : ∀ {vs : List Nat}, i ∈ vs → i < σ.length → (L2.wipe σ vs)[i]? = some none
  | [], h, _ => by cases h
  | v :: vs, h, hl => by
    show ((L2.wipe σ vs).set v none)[i]? = some none
    by_cases e : v = i
    · subst e
      rw [List.getElem?_set_self (by rw [L2.wipe_length]; exact hl)]
    · rw [List.getElem?_set_ne e]
      rcases List.mem_cons.mp h with z | z
      · exact absurd z.symm e
      · exact wipe_in z hl
/-- what was stored at slots that are wiped is not seen -/
theorem wipe_same {σ' : L2.St} {vs : List Nat} (hl : σ'.length = σ.length) (h : ∀ j, j ∉ vs → σ'[j]? = (L2.wipe σ vs)[j]?) : L2.wipe σ' vs = L2.wipe σ vs := by
  apply List.ext_getElem?
  intro j
  by_cases hj : j ∈ vs
  · by_cases hlt : j < σ.length
    · rw [wipe_in hj hlt, wipe_in hj (by rw [hl]; exact hlt)]
    · rw [List.getElem?_eq_none (by rw [L2.wipe_length, hl]; omega), List.getElem?_eq_none (by rw [L2.wipe_length]; omega)]
  · rw [L2.wipe_out hj, h j hj]

/-! ### lists that one slot alone knows -/
theorem TabS.own {D : Addr} {o o' : HO} {P : Addr} {q : Str} (t : LamX.TabS H P q) (e : H D = some o) (n : ∀ ps, o ≠ .tbl ps) (n2 : ∀ f, o ≠ .ext f) : LamX.TabS (upd H D o') P q := by
  obtain ⟨ps, h1, h2, h3⟩ := t
  have ne1 : P ≠ D := fun z => by
    subst z
    rw [e] at h1
    exact n _ (Option.some.inj h1)
  refine ⟨ps, by rw [upd_ne ne1]; exact h1, h2, fun pos cv hc => ?_⟩
  obtain ⟨c, e1, e2⟩ := h3 pos cv hc
  have ne2 : c ≠ D := fun z => by
    subst z
    rw [e] at e2
    exact n2 _ (Option.some.inj e2)
  exact ⟨c, e1, by rw [upd_ne ne2]; exact e2⟩
theorem Ok.own {p : Addr} {o o' : HO} (ok : Ok W g B H) (e : H p = some o) (n : ∀ ps, o ≠ .tbl ps) (n2 : ∀ f, o ≠ .ext f) (hz : g.Z p = none) (hb : p ∉ g.b) : Ok W g B (upd H p o') where
  ice := fun a u h => by
    have : a ≠ p := fun z => by rw [z, hz] at h; cases h
    rw [upd_ne this]
    exact ok.ice a u h
  kin := ok.kin
  len := ok.len
  nd := ok.nd
  bag := fun i a ds h1 h2 => by
    obtain ⟨q1, xs, q2, q3⟩ := ok.bag i a ds h1 h2
    have : a ≠ p := fun z => hb (by rw [← z]; exact List.mem_of_getElem? h1)
    exact ⟨q1, xs, by rw [upd_ne this]; exact q2, q3⟩
  tab := fun x hx => TabS.own (ok.tab x hx) e n n2
theorem Stp.own {p : Addr} {o' : HO} (ok : Ok W g B H) (s : Stp g H g1 H1) (h0 : Vac H p) : Stp g H g1 (upd H1 p o') where
  grow := s.grow
  zn := s.zn
  bn := s.bn
  h := fun a u h n k => by
    rw [upd_ne (ne_of_vac h k h0)]
    exact s.h a u h n k
  hb := fun a h => by
    obtain ⟨_, xs, e⟩ := ok.bagAt h
    rw [upd_ne (ne_of_vac e nt_lst h0)]
    exact s.hb a h
  e := s.e
theorem nx_lst {xs : List V} : ∀ f, HO.lst xs ≠ .ext f := fun _ z => by cases z

/-! ### more lists that nobody else knows -/
theorem OutR.lst {β : Type} {m : M (List D)} {k : List D → M β} {q : β → Bs → Prop} (h : OutR W Wx g H σ (M.bind m k B) q) : OutR W Wx g H σ (M.lst m B) fun d B1 => ∃ xs, d = .lst xs ∧ OutR W Wx g H σ (k xs B1) q := by
  have h := h.bind
  unfold M.lst M.bind
  cases e : m B with
  | ok a B1 => rw [e] at h; exact ⟨a, rfl, h⟩
  | ex c B1 => rw [e] at h; exact h
  | no => rw [e] at h; exact h
theorem rf_rep {a b : Expr} {pos : Pos} {fl : Rho → M (List D)} {fb : Rho → M D} (ha : PE X a (tF W Wx fl)) (hb : PE X b (tE W Wx fb)) :
    PE X (.BinOp a .Mult b pos) (tF W Wx fun r => M.bind (fl r) fun xs => M.bind (fb r) fun y => repM xs y) :=
  (pe_op op_rep (r_frz ha) hb).imp fun σ H Q ⟨r, g, B, ok, er, out⟩ =>
    tE.go ok er (Stp.refl ok) out.lst fun x B1 g1 H1 v q s1 _ ok1 rx => by
      obtain ⟨xs, rfl, q⟩ := q
      refine tE.go ok1 (er.up s1) s1 q.bind fun y B2 g2 H2 u q2 s2 s12 ok2 ry => ?_
      obtain ⟨f, hf, q3⟩ := OutR.lift q2
      cases y with
      | int k =>
        unfold binD at hf
        split at hf
        · next l' e =>
          cases hf
          obtain ⟨⟨h1, h2, h3⟩, e⟩ := ite_some e
          cases e
          obtain ⟨p, vs, rfl, sx, lx⟩ := Rp.up s12.grow _ _ rx
          refine ⟨p, k, vs, rfl, ry, ok2.ice _ _ sx, by omega, by omega, ?_, fun t nt => ?_⟩
          · rw [lx.length, isz]
            have a1 : xs.length * k.toNat ≤ 1000 * 1000 := Nat.mul_le_mul h1 (by omega)
            show xs.length * k.toNat ≤ 16777216
            omega
          · exact tF.new s2 ok2 (lx.flat _) nt q3
        · cases hf
      | _ => cases hf
theorem rf_list {x : Str} {p pos : Pos} {e : Expr} {es : List Expr} {fl : Rho → M (List D)} (hK : X.K = W.K) (hg : Gl X x) (hm : X.mg x = none) (hb : bootBuiltins x = some (.type "list")) (hl : PA X (e :: es) (tA W Wx fl))
    (h1 : x ≠ "__name__") (h2 : (x == ("__debug__" : Str)) = false) (hs : starEach (e :: es) X.env = (false, eval e X.env) :: starEach es X.env) (hpl : (backTo pos (starEach es X.env)).any (·.1) = false) :
    PE X (.Call (.Name x p) (e :: es) [] pos) (tF W Wx fun r => M.bind (fl r) lisM) :=
  (pe_callTy call_list_of hg hm hb hl h1 h2 hs hpl).imp fun σ H Q ⟨r, g, B, ok, er, out⟩ =>
    tA.go ok er (Stp.refl ok) out.bind fun xs B1 g1 H1 vs q s1 _ ok1 rx => by
      obtain ⟨f, hf, q3⟩ := OutR.lift q
      cases xs with
      | nil => cases hf
      | cons d r2 => cases r2 with
        | cons _ _ => cases d <;> cases hf
        | nil =>
          obtain ⟨v, rfl, rv⟩ := rx.one
          cases d with
          | tup l =>
            cases hf
            obtain ⟨p, ys, rfl, sx, lx⟩ := rv
            exact ⟨p, ys, rfl, .inr (by rw [hK]; exact sqT_up ok1.ice sx), fun t nt => tF.new s1 ok1 lx nt q3⟩
          | lst l =>
            cases hf
            obtain ⟨p, ys, rfl, sx, lx⟩ := rv
            exact ⟨p, ys, rfl, .inl (SqL.of (ok1.ice _ _ sx)), fun t nt => tF.new s1 ok1 lx nt q3⟩
          | _ => cases hf

/-! ### targets -/
def gR (W : Wd) (g : Pg) : TG := fun v σ H Q => ∃ r gs B d r', Ok W gs B H ∧ EnvR W gs H r σ ∧ Rp W gs d v ∧ setG g d r = some r' ∧ ∀ σ', EnvR W gs H r' σ' → σ'.length = σ.length → (∀ j, j ∉ gsl g → σ'[j]? = σ[j]?) → Q σ' H
def gRs (W : Wd) (l : List Pg) : TGs := fun vs σ H Q => ∃ r gs B ds r', Ok W gs B H ∧ EnvR W gs H r σ ∧ RpL W gs ds vs ∧ setGs l ds r = some r' ∧ ∀ σ', EnvR W gs H r' σ' → σ'.length = σ.length → (∀ j, j ∉ gsl.gsls l → σ'[j]? = σ[j]?) → Q σ' H
theorem _root_.L2.PG.imp {e : Expr} {t t' : TG} (h : PG X e t) (k : ∀ v σ H Q, t' v σ H Q → t v σ H Q) : PG X e t' := ⟨fun pins s σ H v u Q I rv q => h.run pins s σ H v u Q I rv (k v σ H Q q)⟩
theorem _root_.L2.PGs.imp {e : List Expr} {t t' : TGs} (h : PGs X e t) (k : ∀ v σ H Q, t' v σ H Q → t v σ H Q) : PGs X e t' := ⟨fun pins s σ H v u Q I rv q => h.run pins s σ H v u Q I rv (k v σ H Q q)⟩
theorem rg_name {x : Str} {pos : Pos} {i : Nat} (hN : X.N.Nodup) (hi : X.N[i]? = some x) (hx : L2.Loc X.env.scope x) (hf : X.fn x = true ∨ X.env.scope.names.lookup x = some .local) : PG X (.Name x pos) (gR W (.s i)) :=
  (pg_name hN hi hx hf).imp fun v σ H Q ⟨r, gs, B, d, r', ok, er, rd, hs, q⟩ => by
    obtain ⟨hl, rfl⟩ := ite_some hs
    exact q _ (er.setV rd hl) (by rw [List.length_set]) fun j hj => by
      rw [List.getElem?_set_ne]
      intro z
      exact hj (by rw [z]; exact List.mem_singleton.mpr rfl)
theorem rgs_nil : PGs X [] (gRs W []) :=
  pgs_nil.imp fun v σ H Q ⟨r, gs, B, d, r', ok, er, rd, hs, q⟩ => by
    cases d with
    | nil =>
      cases hs
      have rd : v = [] := rd
      exact ⟨rd, q σ er rfl fun _ _ => rfl⟩
    | cons _ _ => cases hs
theorem rgs_cons {e : Expr} {es : List Expr} {p : Pg} {l : List Pg} (h : PG X e (gR W p)) (t : PGs X es (gRs W l)) (hc : (assignEach (e :: es) X.env).map (·.2) = assign e X.env :: (assignEach es X.env).map (·.2)) : PGs X (e :: es) (gRs W (p :: l)) :=
  (pgs_cons h t hc).imp fun v σ H Q ⟨r, gs, B, d, r', ok, er, rd, hs, q⟩ => by
    cases d with
    | nil => cases hs
    | cons d ds =>
      obtain ⟨y, ys, rfl, ry, rys⟩ := rd
      obtain ⟨r1, h1, h2⟩ := bind_some' (o := setG p d r) (F := fun r' => setGs l ds r') hs
      refine ⟨y, ys, rfl, r, gs, B, d, r1, ok, er, ry, h1, fun σ1 er1 l1 k1 => ⟨r1, gs, B, ds, r', ok, er1, rys, h2, fun σ2 er2 l2 k2 => q σ2 er2 (l2.trans l1) fun j hj => ?_⟩⟩
      have hj : j ∉ gsl p ++ gsl.gsls l := hj
      rw [k2 j fun z => hj (List.mem_append_right _ z), k1 j fun z => hj (List.mem_append_left _ z)]
theorem setGs_len : ∀ {l : List Pg} {ds : List D} {r r' : Rho}, setGs l ds r = some r' → ds.length = l.length
  | [], [], _, _, _ => rfl
  | [], _ :: _, _, _, h => by cases h
  | _ :: _, [], _, _, h => by cases h
  | p :: l, d :: ds, r, r', h => by
    obtain ⟨r1, _, h2⟩ := bind_some' (o := setG p d r) (F := fun r' => setGs l ds r') h
    rw [List.length_cons, List.length_cons, setGs_len h2]
theorem rg_tup {es : List Expr} {l : List Pg} {k : Nat} {pos : Pos} (hK : X.K = W.K) (hc : X.calm = true) (h : PGs X es (gRs W l)) (hn : (assignEach es X.env).length = l.length) (hs : (assignEach es X.env).findIdx? (·.1) = none) : PG X (.Tuple es k pos) (gR W (.t l)) :=
  (pg_tup hc h hn hs).imp fun v σ H Q ⟨r, gs, B, d, r', ok, er, rd, hs, q⟩ => by
    cases d with
    | tup ds =>
      obtain ⟨a, xs, rfl, sx, lx⟩ := rd
      have hs : setGs l ds r = some r' := hs
      exact ⟨a, xs, rfl, by rw [hK]; exact sqT_up ok.ice sx, by rw [lx.length, setGs_len hs], r, gs, B, ds, r', ok, er, lx, hs, q⟩
    | _ => cases hs
end
end Pl

-- part P7d
set_option maxHeartbeats 4000000
/-! The pure layer 7d: what is walked; comprehensions. -/
namespace Pl
open PySem PySem.Spec PyProof.Rows L2
section
variable {X : Cx} {W : Wd} {Wx : WX} {g g1 : Gs} {B : Bs} {H H1 : Hp} {σ : L2.St} {r : Rho} {tg : Expr}
structure WalkD (W : Wd) (g1 : Gs) (J : It) (its : List D) : Prop where
  goes : ∀ (i : Nat) (g' : Gs) (B' : Bs) (H' : Hp), Grow g1 g' → Ok W g' B' H' → i < its.length → J.go i H'
  stops : ∀ (g' : Gs) (B' : Bs) (H' : Hp), Grow g1 g' → Ok W g' B' H' → J.stop its.length H'
  yields : ∀ (i : Nat) (d : D) (g' : Gs) (B' : Bs) (H' : Hp) (x : V) (H'' : Hp), Grow g1 g' → Ok W g' B' H' → its[i]? = some d → J.yld i H' x H'' → ∃ g'', Stp g' H' g'' H'' ∧ Ok W g'' B' H'' ∧ Rp W g'' d x
def iR (W : Wd) (Wx : WX) (f : Rho → M (List D)) : TI := fun σ H R => ∃ r g B, Ok W g B H ∧ EnvR W g H r σ ∧ OutR W Wx g H σ (f r B) fun its B' => ∀ g' H' J, Stp g H g' H' → Ok W g' B' H' → its.length ≤ SZ → WalkD W g' J its → R J H'
theorem PI.post {iter : Expr} {wi : TI} (h : PI X tg iter wi) : PI X tg iter (fun σ H R => wi σ H fun J H1 => (∀ pins s, Inv X pins σ H1 s → R J H1)) :=
  ⟨fun pins s σ H R I q => thn (h.run pins s σ H _ I q) fun v s1 h1 => thn h1 fun itv s2 ⟨it, fp, tn, J, H', e, I2, T, st, f, q⟩ => ⟨it, fp, tn, J, H', e, I2, T, st, f, q pins s2 I2⟩⟩
theorem _root_.L2.PI.imp {iter : Expr} {t t' : TI} (h : PI X tg iter t) (k : ∀ σ H R, t' σ H R → t σ H R) : PI X tg iter t' := ⟨fun pins s σ H R I q => h.run pins s σ H R I (k σ H R q)⟩
/-! the walks -/
theorem get_some {α : Type} {l : List α} {i : Nat} (h : i < l.length) : ∃ x, l[i]? = some x := ⟨l[i], List.getElem?_eq_getElem h⟩
theorem wd_tup {a : Addr} {xs : List V} {l : List D} (hs : SqT W.K g.Z a xs) (hl : RpL W g l xs) : WalkD W g (Itt W.K a) l where
  goes := fun i g' B' H' gr ok hi => by
    obtain ⟨d, hd⟩ := get_some hi
    obtain ⟨x, hx, _⟩ := hl.get hd
    exact ⟨xs, x, sqT_up ok.ice (sqT_up gr.z hs), hx⟩
  stops := fun g' B' H' gr ok => ⟨xs, sqT_up ok.ice (sqT_up gr.z hs), Nat.le_of_eq hl.length⟩
  yields := fun i d g' B' H' x H'' gr ok hd ⟨e, hy⟩ => by
    subst e
    obtain ⟨y, h1, h2⟩ := hl.get hd
    have := hy xs (sqT_up ok.ice (sqT_up gr.z hs))
    rw [h1] at this
    cases this
    exact ⟨g', Stp.refl ok, ok, Rp.up gr _ _ h2⟩
theorem wd_lst {a : Addr} {xs : List V} {l : List D} (hs : SqL W.K g.Z a xs) (hl : RpL W g l xs) : WalkD W g (Itl W.K a) l where
  goes := fun i g' B' H' gr ok hi => by
    obtain ⟨d, hd⟩ := get_some hi
    obtain ⟨x, hx, _⟩ := hl.get hd
    exact ⟨xs, x, sqL_up ok.ice (sqL_up gr.z hs), hx⟩
  stops := fun g' B' H' gr ok => ⟨xs, sqL_up ok.ice (sqL_up gr.z hs), Nat.le_of_eq hl.length⟩
  yields := fun i d g' B' H' x H'' gr ok hd ⟨e, hy⟩ => by
    subst e
    obtain ⟨y, h1, h2⟩ := hl.get hd
    have := hy xs (sqL_up ok.ice (sqL_up gr.z hs))
    rw [h1] at this
    cases this
    exact ⟨g', Stp.refl ok, ok, Rp.up gr _ _ h2⟩
theorem wd_rng {lo : Int} {n : Nat} : WalkD W g (Itr lo n) (rngD lo n) where
  goes := fun i g' B' H' gr ok hi => by
    have h : i < n := by simpa [rngD] using hi
    exact h
  stops := fun g' B' H' gr ok => by simp [rngD, Itr]
  yields := fun i d g' B' H' x H'' gr ok hd ⟨e, hy⟩ => by
    subst e
    have hi : i < n := by
      have := (List.getElem?_eq_some_iff.mp hd).1
      simpa [rngD] using this
    have hd2 : d = .int (lo + (i : Nat)) := by
      simp only [rngD, List.getElem?_map, List.getElem?_range hi, Option.map_some] at hd
      exact (Option.some.inj hd).symm
    subst hd2
    exact ⟨g', Stp.refl ok, ok, hy⟩
theorem enumD_get : ∀ (l : List D) (k i : Nat), (enumD k l)[i]? = (l[i]?).map fun d => .tup [.int ((k + i : Nat) : Int), d]
  | [], k, i => by simp [enumD]
  | d :: l, k, 0 => by simp [enumD]
  | d :: l, k, i + 1 => by
    simp only [enumD, List.getElem?_cons_succ]
    rw [enumD_get l (k + 1) i]
    have e : k + 1 + i = k + (i + 1) := by omega
    rw [e]
theorem enumD_len : ∀ (l : List D) (k : Nat), (enumD k l).length = l.length
  | [], k => rfl
  | d :: l, k => by simp only [enumD, List.length_cons, enumD_len l (k + 1)]
theorem new_pair {B : Bs} {T : Addr} {x y : V} {d e : D} (ok : Ok W g B H) (n : H T = none) (rx : Rp W g d x) (ry : Rp W g e y) :
    ∃ g'', Stp g H g'' (upd H T (.tup [x, y])) ∧ Ok W g'' B (upd H T (.tup [x, y])) ∧ Rp W g'' (.tup [d, e]) (.ref T) := by
  have gr : Grow g (g.ice T (.tup [x, y])) := grow_ice (ok.zfree n)
  exact ⟨_, Stp.newI ok n, ok.newI n nt_tup, T, [x, y], rfl, .inl (.inl ice_at), RpL.up gr _ _ (RpL.cons rx (RpL.cons ry RpL.nil))⟩
theorem wd_enumL {a : Addr} {xs : List V} {l : List D} (hs : SqL W.K g.Z a xs) (hl : RpL W g l xs) : WalkD W g (Ite W.K a) (enumD 0 l) where
  goes := fun i g' B' H' gr ok hi => by
    rw [enumD_len] at hi
    obtain ⟨d, hd⟩ := get_some hi
    obtain ⟨x, hx, _⟩ := hl.get hd
    exact ⟨xs, x, sqL_up ok.ice (sqL_up gr.z hs), hx⟩
  stops := fun g' B' H' gr ok => ⟨xs, sqL_up ok.ice (sqL_up gr.z hs), by rw [enumD_len]; exact Nat.le_of_eq hl.length⟩
  yields := fun i d g' B' H' x H'' gr ok hd ⟨T, y, ex, hn, eH, hy⟩ => by
    subst ex eH
    rw [enumD_get] at hd
    obtain ⟨d', hd', rfl⟩ := map_some' hd
    obtain ⟨z, h1, h2⟩ := hl.get hd'
    have := hy xs (sqL_up ok.ice (sqL_up gr.z hs))
    rw [h1] at this
    cases this
    rw [Nat.zero_add]
    exact new_pair ok hn rfl (Rp.up gr _ _ h2)
theorem wd_enumT {a : Addr} {xs : List V} {l : List D} (hs : SqT W.K g.Z a xs) (hl : RpL W g l xs) : WalkD W g (IteT W.K a) (enumD 0 l) where
  goes := fun i g' B' H' gr ok hi => by
    rw [enumD_len] at hi
    obtain ⟨d, hd⟩ := get_some hi
    obtain ⟨x, hx, _⟩ := hl.get hd
    exact ⟨xs, x, sqT_up ok.ice (sqT_up gr.z hs), hx⟩
  stops := fun g' B' H' gr ok => ⟨xs, sqT_up ok.ice (sqT_up gr.z hs), by rw [enumD_len]; exact Nat.le_of_eq hl.length⟩
  yields := fun i d g' B' H' x H'' gr ok hd ⟨T, y, ex, hn, eH, hy⟩ => by
    subst ex eH
    rw [enumD_get] at hd
    obtain ⟨d', hd', rfl⟩ := map_some' hd
    obtain ⟨z, h1, h2⟩ := hl.get hd'
    have := hy xs (sqT_up ok.ice (sqT_up gr.z hs))
    rw [h1] at this
    cases this
    rw [Nat.zero_add]
    exact new_pair ok hn rfl (Rp.up gr _ _ h2)
theorem zipD_get : ∀ (l r : List D) (i : Nat) (d : D), (zipD l r)[i]? = some d → ∃ x y, l[i]? = some x ∧ r[i]? = some y ∧ d = .tup [x, y]
  | [], r, i, d, h => by simp [zipD] at h
  | a :: l, [], i, d, h => by simp [zipD] at h
  | a :: l, b :: r, 0, d, h => by
    simp [zipD] at h
    exact ⟨a, b, rfl, rfl, h.symm⟩
  | a :: l, b :: r, i + 1, d, h => by
    simp only [zipD, List.getElem?_cons_succ] at h
    obtain ⟨x, y, h1, h2, h3⟩ := zipD_get l r i d h
    exact ⟨x, y, by simpa using h1, by simpa using h2, h3⟩
theorem zipD_len : ∀ (l r : List D), (zipD l r).length = min l.length r.length
  | [], r => by simp [zipD]
  | a :: l, [] => by simp [zipD]
  | a :: l, b :: r => by
    simp only [zipD, List.length_cons, zipD_len l r]
    omega
theorem wd_zipL {a b : Addr} {xs ys : List V} {l r : List D} (hs : SqL W.K g.Z a xs) (hl : RpL W g l xs) (ht : SqL W.K g.Z b ys) (hr : RpL W g r ys) : WalkD W g (Itz W.K a b) (zipD l r) where
  goes := fun i g' B' H' gr ok hi => by
    obtain ⟨d, hd⟩ := get_some hi
    obtain ⟨x, y, h1, h2, _⟩ := zipD_get _ _ _ _ hd
    obtain ⟨u, hu, _⟩ := hl.get h1
    obtain ⟨w, hw, _⟩ := hr.get h2
    exact ⟨xs, ys, u, w, sqL_up ok.ice (sqL_up gr.z hs), sqL_up ok.ice (sqL_up gr.z ht), hu, hw⟩
  stops := fun g' B' H' gr ok => ⟨xs, ys, sqL_up ok.ice (sqL_up gr.z hs), sqL_up ok.ice (sqL_up gr.z ht), by
    rw [zipD_len, hl.length, hr.length]
    omega⟩
  yields := fun i d g' B' H' x H'' gr ok hd ⟨T, u, w, ex, hn, eH, hu, hw⟩ => by
    subst ex eH
    obtain ⟨x, y, h1, h2, rfl⟩ := zipD_get _ _ _ _ hd
    obtain ⟨u', hu', ru⟩ := hl.get h1
    obtain ⟨w', hw', rw'⟩ := hr.get h2
    have e1 := hu xs (sqL_up ok.ice (sqL_up gr.z hs))
    have e2 := hw ys (sqL_up ok.ice (sqL_up gr.z ht))
    rw [hu'] at e1
    rw [hw'] at e2
    cases e1
    cases e2
    exact new_pair ok hn (Rp.up gr _ _ ru) (Rp.up gr _ _ rw')
theorem wd_zipT {a b : Addr} {xs ys : List V} {l r : List D} (hs : SqT W.K g.Z a xs) (hl : RpL W g l xs) (ht : SqT W.K g.Z b ys) (hr : RpL W g r ys) : WalkD W g (RZ.ItzT W.K a b) (zipD l r) where
  goes := fun i g' B' H' gr ok hi => by
    obtain ⟨d, hd⟩ := get_some hi
    obtain ⟨x, y, h1, h2, _⟩ := zipD_get _ _ _ _ hd
    obtain ⟨u, hu, _⟩ := hl.get h1
    obtain ⟨w, hw, _⟩ := hr.get h2
    exact ⟨xs, ys, u, w, sqT_up ok.ice (sqT_up gr.z hs), sqT_up ok.ice (sqT_up gr.z ht), hu, hw⟩
  stops := fun g' B' H' gr ok => ⟨xs, ys, sqT_up ok.ice (sqT_up gr.z hs), sqT_up ok.ice (sqT_up gr.z ht), by
    rw [zipD_len, hl.length, hr.length]
    omega⟩
  yields := fun i d g' B' H' x H'' gr ok hd ⟨T, u, w, ex, hn, eH, hu, hw⟩ => by
    subst ex eH
    obtain ⟨x, y, h1, h2, rfl⟩ := zipD_get _ _ _ _ hd
    obtain ⟨u', hu', ru⟩ := hl.get h1
    obtain ⟨w', hw', rw'⟩ := hr.get h2
    have e1 := hu xs (sqT_up ok.ice (sqT_up gr.z hs))
    have e2 := hw ys (sqT_up ok.ice (sqT_up gr.z ht))
    rw [hu'] at e1
    rw [hw'] at e2
    cases e1
    cases e2
    exact new_pair ok hn (Rp.up gr _ _ ru) (Rp.up gr _ _ rw')
/-! what itD says, told backwards -/
theorem itD_rng {xs its : List D} (h : itD .rng xs = some its) : ∃ n : Int, xs = [.int n] ∧ (n ≤ 1000000 ∧ -1000000 ≤ n) ∧ rngD 0 n.toNat = its := by
  cases xs with
  | nil => cases h
  | cons d ys => cases ys with
    | cons e zs => cases d <;> first | cases h | (cases zs <;> cases h)
    | nil => cases d with
      | int n => exact ⟨n, rfl, ite_some (show (if n ≤ 1000000 ∧ -1000000 ≤ n then some (rngD 0 n.toNat) else none) = some its from h)⟩
      | _ => cases h
theorem itD_rng2 {xs its : List D} (h : itD .rng2 xs = some its) : ∃ n m : Int, xs = [.int n, .int m] ∧ (n ≤ 1000000 ∧ -1000000 ≤ n ∧ m ≤ 1000000 ∧ -1000000 ≤ m) ∧ rngD n (m - n).toNat = its := by
  cases xs with
  | nil => cases h
  | cons d ys => cases ys with
    | nil => cases d <;> cases h
    | cons e zs => cases zs with
      | cons _ _ => cases d <;> first | cases h | (cases e <;> cases h)
      | nil => cases d with
        | int n => cases e with
          | int m => exact ⟨n, m, rfl, ite_some (show (if n ≤ 1000000 ∧ -1000000 ≤ n ∧ m ≤ 1000000 ∧ -1000000 ≤ m then some (rngD n (m - n).toNat) else none) = some its from h)⟩
          | _ => cases h
        | _ => cases h
theorem itD_enum {xs its : List D} (h : itD .enum xs = some its) : ∃ l, (xs = [.tup l] ∨ xs = [.lst l]) ∧ enumD 0 l = its := by
  cases xs with
  | nil => cases h
  | cons d ys => cases ys with
    | cons e zs => cases d <;> cases h
    | nil => cases d with
      | tup l => exact ⟨l, .inl rfl, Option.some.inj h⟩
      | lst l => exact ⟨l, .inr rfl, Option.some.inj h⟩
      | _ => cases h
theorem itD_zip {xs its : List D} (h : itD .zip xs = some its) : ∃ l m, (xs = [.tup l, .tup m] ∨ xs = [.lst l, .lst m]) ∧ zipD l m = its := by
  cases xs with
  | nil => cases h
  | cons d ys => cases ys with
    | nil => cases d <;> cases h
    | cons e zs => cases zs with
      | cons _ _ => cases d <;> first | cases h | (cases e <;> cases h)
      | nil => cases d with
        | tup l => cases e with
          | tup m => exact ⟨l, m, .inl rfl, Option.some.inj h⟩
          | _ => cases h
        | lst l => cases e with
          | lst m => exact ⟨l, m, .inr rfl, Option.some.inj h⟩
          | _ => cases h
        | _ => cases h
/-! the rules -/
theorem ri_seq {iter : Expr} {fe : Rho → M D} (hK : X.K = W.K) (hl : PE X iter (tE W Wx fe)) : PI X tg iter (iR W Wx fun r => M.bind (M.bind (fe r) fun x => M.ret [x]) fun xs => M.lift (itD .seq xs)) := by
  refine ⟨fun pins s σ H R I ⟨r, g, B, ok, er, out⟩ => ?_⟩
  refine thn (hl.run pins s σ H (fun v H1 => ∃ g1 B1 x its, Stp g H g1 H1 ∧ Ok W g1 B1 H1 ∧ Rp W g1 x v ∧ seqD x = some its ∧ ∀ J, its.length ≤ SZ → WalkD W g1 J its → R J H1) I ?_) fun v s1 ⟨x, H1, I1, r1, g1, B1, d, its, st, ok1, rd, hd, q⟩ => ?_
  · refine tE.go ok er (Stp.refl ok) out.bind.bind fun d B1 g1 H1 v q s1 _ ok1 rx => ?_
    obtain ⟨its, h1, q2⟩ := OutR.lift q
    exact ⟨g1, B1, d, its, s1, ok1, rx, h1, fun J hz wd => q2 g1 H1 J s1 ok1 hz wd⟩
  · have keyT : ∀ (a : Addr) (xs : List V), x = .ref a → SqT W.K g1.Z a xs → RpL W g1 its xs → wpAny (model X.prog X.w) X.A (pyIter v) (PIE X pins σ tg R) X.xe s1 := fun a xs e hs hl => by
      subst e
      cases r1
      have hq : SqT X.K H1 a xs := by rw [hK]; exact sqT_up ok1.ice hs
      obtain ⟨us, rv, p, hz⟩ := I1.tuple hq
      refine wpAny_pyIter_tuple (show s1.heap.IsTuple a us.toArray from p) ?_
      refine ⟨s1.heap.objs.size, [s1.heap.objs.size], _, _, H1, rfl, I1.kept (t' := s1.toks) fun b o e => Heap.get?_push_of_some _ e, turn_tuple a _, ⟨_, Heap.get?_push_size _ rfl, rfl, rfl⟩, fun b hb => ?_, ?_⟩
      · have e : b = s1.heap.objs.size := by simpa using hb
        subst e
        exact I1.fpOk (Nat.le_refl _) (I1.hok.fresh (Nat.le_refl _))
      · rw [hK]
        exact q _ (by rw [← hl.length, ← isz]; exact hz) (wd_tup hs hl)
    have keyL : ∀ (a : Addr) (xs : List V), x = .ref a → SqL W.K g1.Z a xs → RpL W g1 its xs → wpAny (model X.prog X.w) X.A (pyIter v) (PIE X pins σ tg R) X.xe s1 := fun a xs e hs hl => by
      subst e
      cases r1
      have hq : SqL X.K H1 a xs := by rw [hK]; exact sqL_up ok1.ice hs
      obtain ⟨us, rv, p, hz⟩ := I1.list hq
      refine wpAny_pyIter_list p.isList ?_
      refine ⟨s1.heap.objs.size, [s1.heap.objs.size], _, _, H1, rfl, I1.kept (t' := s1.toks) fun b o e => Heap.get?_push_of_some _ e, turn_list a _, ⟨_, Heap.get?_push_size _ rfl, rfl, rfl⟩, fun b hb => ?_, ?_⟩
      · have e : b = s1.heap.objs.size := by simpa using hb
        subst e
        exact I1.fpOk (Nat.le_refl _) (I1.hok.fresh (Nat.le_refl _))
      · rw [hK]
        exact q _ (by rw [← hl.length, ← isz]; exact hz) (wd_lst hs hl)
    cases d with
    | tup l =>
      cases hd
      obtain ⟨a, xs, e, h1, h2⟩ := rd
      exact keyT a xs e h1 h2
    | lst l =>
      cases hd
      obtain ⟨a, xs, e, h1, h2⟩ := rd
      exact keyL a xs e (SqL.of h1) h2
    | scr l =>
      cases hd
      obtain ⟨a, xs, e, h1, h2⟩ := rd
      exact keyL a xs e h1 h2
    | _ => cases hd
theorem rngD_len (lo : Int) (n : Nat) : (rngD lo n).length = n := by simp [rngD]
theorem ri_rng {a : Expr} {fl : Rho → M (List D)} {p pos : Pos} (hg : Gl X "range") (hm : X.mg "range" = none) (ha : PA X [a] (tA W Wx fl)) (hs : starEach [a] X.env = [(false, eval a X.env)]) :
    PI X tg (.Call (.Name "range" p) [a] [] pos) (iR W Wx fun r => M.bind (fl r) fun xs => M.lift (itD .rng xs)) :=
  (pi_range1 hg hm ha hs).imp fun σ H R ⟨r, g, B, ok, er, out⟩ =>
    tA.go ok er (Stp.refl ok) out.bind fun xs B1 g1 H1 vs q s1 _ ok1 rx => by
      obtain ⟨its, h1, q2⟩ := OutR.lift q
      obtain ⟨n, rfl, ⟨b1, b2⟩, rfl⟩ := itD_rng h1
      · obtain ⟨v, rfl, rv⟩ := rx.one
        have rv : v = .int n := rv
        subst rv
        refine ⟨n, rfl, by omega, by omega, q2 g1 H1 _ s1 ok1 ?_ wd_rng⟩
        rw [rngD_len]
        show _ ≤ 16777216
        omega
theorem ri_rng2 {a b : Expr} {fl : Rho → M (List D)} {p pos : Pos} (hg : Gl X "range") (hm : X.mg "range" = none) (ha : PA X [a, b] (tA W Wx fl)) (hs : starEach [a, b] X.env = [(false, eval a X.env), (false, eval b X.env)]) (hs2 : starEach [b] X.env = [(false, eval b X.env)]) :
    PI X tg (.Call (.Name "range" p) [a, b] [] pos) (iR W Wx fun r => M.bind (fl r) fun xs => M.lift (itD .rng2 xs)) :=
  (pi_range2 hg hm ha hs hs2).imp fun σ H R ⟨r, g, B, ok, er, out⟩ =>
    tA.go ok er (Stp.refl ok) out.bind fun xs B1 g1 H1 vs q s1 _ ok1 rx => by
      obtain ⟨its, h1, q2⟩ := OutR.lift q
      obtain ⟨n, m, rfl, ⟨b1, b2, b3, b4⟩, rfl⟩ := itD_rng2 h1
      · obtain ⟨v, w, rfl, rv, rw'⟩ := rx.two
        have rv : v = .int n := rv
        have rw' : w = .int m := rw'
        subst rv rw'
        refine ⟨n, m, rfl, ⟨by omega, by omega, by omega, by omega⟩, q2 g1 H1 _ s1 ok1 ?_ wd_rng⟩
        rw [rngD_len]
        show _ ≤ 16777216
        omega
theorem ri_enum {e : Expr} {fl : Rho → M (List D)} {p pos tpos : Pos} {elts : List Expr} {kk : Nat} (hK : X.K = W.K) (hg : Gl X "enumerate") (hm : X.mg "enumerate" = none) (ha : PA X [e] (tA W Wx fl)) (hs : starEach [e] X.env = [(false, eval e X.env)]) :
    PI X (.Tuple elts kk tpos) (.Call (.Name "enumerate" p) [e] [] pos) (iR W Wx fun r => M.bind (fl r) fun xs => M.lift (itD .enum xs)) :=
  (PI.post (pi_enumA hg hm ha hs)).imp fun σ H R ⟨r, g, B, ok, er, out⟩ =>
    tA.go ok er (Stp.refl ok) out.bind fun xs B1 g1 H1 vs q s1 _ ok1 rx => by
      obtain ⟨its, h1, q2⟩ := OutR.lift q
      obtain ⟨l, rfl | rfl, rfl⟩ := itD_enum h1
      · obtain ⟨v, rfl, a, ys, rfl, sx, lx⟩ := rx.one
        have hq : SqT X.K H1 a ys := by rw [hK]; exact sqT_up ok1.ice sx
        refine ⟨a, ys, rfl, .inr ⟨hq, fun pins s I => ?_⟩⟩
        obtain ⟨_, _, _, hz⟩ := I.tuple hq
        rw [hK]
        exact q2 g1 H1 _ s1 ok1 (by rw [enumD_len, ← lx.length, ← isz]; exact hz) (wd_enumT sx lx)
      · obtain ⟨v, rfl, a, ys, rfl, sx, lx⟩ := rx.one
        have hq : SqL X.K H1 a ys := SqL.of (ok1.ice _ _ sx)
        refine ⟨a, ys, rfl, .inl ⟨hq, fun pins s I => ?_⟩⟩
        obtain ⟨_, _, _, hz⟩ := I.list hq
        rw [hK]
        exact q2 g1 H1 _ s1 ok1 (by rw [enumD_len, ← lx.length, ← isz]; exact hz) (wd_enumL (SqL.of sx) lx)
theorem ri_zip {e e2 : Expr} {fl : Rho → M (List D)} {p pos tpos : Pos} {elts : List Expr} {kk : Nat} (hK : X.K = W.K) (hg : Gl X "zip") (hm : X.mg "zip" = none) (ha : PA X [e, e2] (tA W Wx fl))
    (hs : starEach [e, e2] X.env = (false, eval e X.env) :: starEach [e2] X.env) (hpl : (backTo pos (starEach [e2] X.env)).any (·.1) = false) :
    PI X (.Tuple elts kk tpos) (.Call (.Name "zip" p) [e, e2] [] pos) (iR W Wx fun r => M.bind (fl r) fun xs => M.lift (itD .zip xs)) :=
  (PI.post (RZ.pi_zipA hg hm ha hs hpl)).imp fun σ H R ⟨r, g, B, ok, er, out⟩ =>
    tA.go ok er (Stp.refl ok) out.bind fun xs B1 g1 H1 vs q s1 _ ok1 rx => by
      obtain ⟨its, h1, q2⟩ := OutR.lift q
      obtain ⟨l, m, rfl | rfl, rfl⟩ := itD_zip h1
      · obtain ⟨v, w, rfl, ⟨a, ys, rfl, sx, lx⟩, ⟨b, zs, rfl, sy, ly⟩⟩ := rx.two
        have hq : SqT X.K H1 a ys := by rw [hK]; exact sqT_up ok1.ice sx
        have hq2 : SqT X.K H1 b zs := by rw [hK]; exact sqT_up ok1.ice sy
        refine ⟨a, b, ys, zs, rfl, .inr ⟨hq, hq2, fun pins s I => ?_⟩⟩
        obtain ⟨_, _, _, hz⟩ := I.tuple hq
        rw [hK]
        refine q2 g1 H1 _ s1 ok1 ?_ (wd_zipT sx lx sy ly)
        rw [isz, lx.length] at hz
        rw [zipD_len]
        omega
      · obtain ⟨v, w, rfl, ⟨a, ys, rfl, sx, lx⟩, ⟨b, zs, rfl, sy, ly⟩⟩ := rx.two
        have hq : SqL X.K H1 a ys := SqL.of (ok1.ice _ _ sx)
        have hq2 : SqL X.K H1 b zs := SqL.of (ok1.ice _ _ sy)
        refine ⟨a, b, ys, zs, rfl, .inl ⟨hq, hq2, fun pins s I => ?_⟩⟩
        obtain ⟨_, _, _, hz⟩ := I.list hq
        rw [hK]
        refine q2 g1 H1 _ s1 ok1 ?_ (wd_zipL (SqL.of sx) lx (SqL.of sy) ly)
        rw [isz, lx.length] at hz
        rw [zipD_len]
        omega
end
end Pl

-- part P7e
set_option maxHeartbeats 4000000
/-! The pure layer 7e: comprehensions. -/
namespace Pl
open PySem PySem.Spec PyProof.Rows L2
/-- no exception leaves -/
abbrev Wf : WX := fun _ _ _ _ => False
section
variable {X : Cx} {W : Wd} {Wx : WX} {g g1 : Gs} {B : Bs} {H H1 : Hp} {σ : L2.St} {r : Rho} {tg : Expr}
/-- one turn of a comprehension -/
def turnM (g : Pg) (ft : Rho → M Bool) (fe : Rho → M D) (r : Rho) (d : D) : M (Option D) := M.bind (M.lift (setG g d r)) fun r1 => M.bind (ft r1) fun b => if b then M.bind (fe r1) fun x => M.ret (some x) else M.ret none
theorem bind_ok {α β : Type} {m : M α} {k : α → M β} {B B2 : Bs} {b : β} (h : M.bind m k B = .ok b B2) : ∃ a B1, m B = .ok a B1 ∧ k a B1 = .ok b B2 := by
  unfold M.bind at h
  cases e : m B with
  | ok a B1 => rw [e] at h; exact ⟨a, B1, rfl, h⟩
  | ex c B1 => rw [e] at h; cases h
  | no => rw [e] at h; cases h
theorem lift_ok {α : Type} {o : Option α} {B B2 : Bs} {b : α} (h : M.lift o B = .ok b B2) : o = some b ∧ B = B2 := by
  cases o with
  | none => cases h
  | some a => cases h; exact ⟨rfl, rfl⟩
theorem ret_ok {α : Type} {a b : α} {B B2 : Bs} (h : M.ret a B = .ok b B2) : a = b ∧ B = B2 := by
  cases h
  exact ⟨rfl, rfl⟩
theorem turnM_ok {g : Pg} {ft : Rho → M Bool} {fe : Rho → M D} {r : Rho} {d : D} {B B2 : Bs} {o : Option D} (h : turnM g ft fe r d B = .ok o B2) :
    ∃ r1 b B1, setG g d r = some r1 ∧ ft r1 B = .ok b B1 ∧ ((b = false ∧ o = none ∧ B1 = B2) ∨ (b = true ∧ ∃ x, fe r1 B1 = .ok x B2 ∧ o = some x)) := by
  obtain ⟨r1, B1, h1, h2⟩ := bind_ok h
  obtain ⟨h0, rfl⟩ := lift_ok h1
  obtain ⟨b, B2', h3, h4⟩ := bind_ok h2
  refine ⟨r1, b, B2', h0, h3, ?_⟩
  cases b with
  | false =>
    rw [if_neg (by simp)] at h4
    obtain ⟨rfl, rfl⟩ := ret_ok h4
    exact .inl ⟨rfl, rfl, rfl⟩
  | true =>
    rw [if_pos rfl] at h4
    obtain ⟨x, B3, h5, h6⟩ := bind_ok h4
    obtain ⟨rfl, rfl⟩ := ret_ok h6
    exact .inr ⟨rfl, x, h5, rfl⟩
theorem lcM_cons {f : D → M (Option D)} {d : D} {ds rs : List D} {B B2 : Bs} (h : lcM f (d :: ds) B = .ok rs B2) : ∃ o B1 r', f d B = .ok o B1 ∧ lcM f ds B1 = .ok r' B2 ∧ rs = (match o with | some x => [x] | none => []) ++ r' := by
  obtain ⟨o, B1, h1, h2⟩ := bind_ok h
  obtain ⟨r', B3, h3, h4⟩ := bind_ok h2
  obtain ⟨rfl, rfl⟩ := ret_ok h4
  refine ⟨o, B1, r', h1, h3, ?_⟩
  cases o <;> rfl
/-- how a block's step is told from its outcome -/
theorem outOk {β : Type} {x : R β} {b : β} {B2 : Bs} {q : β → Bs → Prop} (e : x = .ok b B2) (h : q b B2) : OutR W Wx g H σ x q := by
  rw [e]
  exact h
theorem calm_ok {α : Type} {m : M α} {q : α → Bs → Prop} (h : OutR W Wx g H σ (M.calm m B) q) : ∃ a B2, m B = .ok a B2 ∧ q a B2 := by
  unfold M.calm at h
  cases e : m B with
  | ok a B1 => rw [e] at h; exact ⟨a, B1, rfl, h⟩
  | ex c B1 => rw [e] at h; exact h.elim
  | no => rw [e] at h; exact h.elim
/-- the list of a comprehension, as it grows -/
structure Gr (W : Wd) (g1 : Gs) (H1 : Hp) (D₀ : Addr) (ds : List D) (B' : Bs) (g' : Gs) (H' : Hp) : Prop where
  st : Stp g1 H1 g' H'
  ok : Ok W g' B' H'
  at_ : ∃ acc, H' D₀ = some (.lst acc) ∧ RpL W g' ds acc
  z : g'.Z D₀ = none
  nb : D₀ ∉ g'.b
theorem Gr.step {D₀ : Addr} {ds : List D} {B' B2 : Bs} {g' g2 : Gs} {H' H2 : Hp} (G : Gr W g1 H1 D₀ ds B' g' H') (s : Stp g' H' g2 H2) (ok : Ok W g2 B2 H2) : Gr W g1 H1 D₀ ds B2 g2 H2 := by
  obtain ⟨acc, h1, h2⟩ := G.at_
  exact ⟨G.st.trans s, ok, ⟨acc, s.h _ _ h1 G.nb nt_lst, RpL.up s.grow _ _ h2⟩, by rw [s.zn _ _ h1 nt_lst]; exact G.z, s.nb h1 G.nb nt_lst⟩
theorem Gr.app {D₀ : Addr} {ds : List D} {B1 B' : Bs} {g' : Gs} {H' : Hp} {x : D} {y : V} (ok1 : Ok W g1 B1 H1) (hD : H1 D₀ = none) (G : Gr W g1 H1 D₀ ds B' g' H') (r : Rp W g' x y) : ∃ acc, H' D₀ = some (.lst acc) ∧ acc.length = ds.length ∧ Gr W g1 H1 D₀ (ds ++ [x]) B' g' (upd H' D₀ (.lst (acc ++ [y]))) := by
  obtain ⟨acc, h1, h2⟩ := G.at_
  exact ⟨acc, h1, h2.length, G.st.own ok1 (vac_none hD), G.ok.own h1 nt_lst nx_lst G.z G.nb, ⟨_, upd_same, h2.app (RpL.cons r RpL.nil)⟩, G.z, G.nb⟩
theorem drop_at {α : Type} {l : List α} {i : Nat} {d : α} (h : l[i]? = some d) : l.drop i = d :: l.drop (i + 1) := by
  obtain ⟨h1, h2⟩ := List.getElem?_eq_some_iff.mp h
  rw [List.drop_eq_getElem_cons h1, h2]
theorem lc_read {p : Pg} {fi : Rho → M (List D)} {ft : Rho → M Bool} {fe : Rho → M D} {w : List Nat} (hsub : ∀ j ∈ gsl p, j ∈ w) {Q : VK}
    (h : tF W Wx (fun r => M.bind (fi r) fun its => M.calm (lcM (turnM p ft fe (wipeR r w)) its)) σ H Q) : tLc (iR W Wx fi) (gR W p) (tT W Wf ft) (tE W Wf fe) w σ H Q := by
  obtain ⟨r, g, B, ok, er, out⟩ := h
  refine ⟨r, g, B, ok, er, out.bind.mono fun its B1 q g1 H1 J s1 ok1 hz wd D₀ hD => ?_⟩
  obtain ⟨rest, B2, hl, q⟩ := calm_ok q
  have ok0 : Ok W g1 B1 (upd H1 D₀ (.lst [])) := ok1.new hD
  refine lc_it (J := J) (n := its.length) (G := fun H' => ∃ g' B', Grow g1 g' ∧ Ok W g' B' H') (Y := fun i H' x H'' => J.yld i H' x H'') ⟨fun i H' hi ⟨g', B', gr, ok'⟩ => wd.goes i g' B' H' gr ok' hi, fun H' ⟨g', B', gr, ok'⟩ => wd.stops g' B' H' gr ok', fun i H' x H'' _ _ hy => hy⟩
    (g := gR W p) (tt := tT W Wf ft) (te := tE W Wf fe) (vs := w) (σ := σ) (H1 := H1) (D := D₀) (Qd := Q (.ref D₀))
    (fun i H' => ∃ g' B' ds rs, Gr W g1 H1 D₀ ds B' g' H' ∧ ds.length ≤ i ∧ lcM (turnM p ft fe (wipeR r w)) (its.drop i) B' = .ok rs B2 ∧ rest = ds ++ rs) ?_ ?_ ?_ ?_
  · refine ⟨g1, B1, [], rest, ⟨Stp.new ok1 hD, ok0, ⟨[], upd_same, RpL.nil⟩, ok1.zfree hD, ok1.nbag hD⟩, Nat.le_refl _, hl, rfl⟩
  · rintro i H' _ ⟨g', B', ds, rs, G, _, _, _⟩
    exact ⟨g', B', G.st.grow, G.ok⟩
  · rintro i x H' H'' hi ⟨g', B', ds, rs, G, hn, hr, e⟩ hy
    obtain ⟨d, hd⟩ := get_some hi
    obtain ⟨g2, s2, ok2, rx⟩ := wd.yields i d g' B' H' x H'' G.st.grow G.ok hd hy
    have G2 := G.step s2 ok2
    rw [drop_at hd] at hr
    obtain ⟨o, B3, r', h1, h2, h3⟩ := lcM_cons hr
    obtain ⟨r1, b, B4, e1, e2, e3⟩ := turnM_ok h1
    have er2 : EnvR W g2 H'' (wipeR r w) (L2.wipe σ w) := (er.up (s1.trans G2.st)).wipe w
    refine ⟨wipeR r w, g2, B', d, r1, ok2, er2, rx, e1, fun σ2 er3 hl2 hj => ⟨?_, ?_⟩⟩
    · exact wipe_same (by rw [hl2, L2.wipe_length]) fun j hj' => hj j fun z => hj' (hsub j z)
    · refine ⟨r1, g2, B', ok2, er3, outOk e2 fun g3 H3 s3 ok3 => ?_⟩
      have G3 := G2.step s3 ok3
      rcases e3 with ⟨rfl, rfl, rfl⟩ | ⟨rfl, x', e4, rfl⟩
      · simp only [Bool.false_eq_true, if_false]
        exact ⟨g3, B4, ds, r', G3, by omega, h2, by rw [e, h3]; rfl⟩
      · simp only [if_true]
        refine ⟨r1, g3, B4, ok3, er3.up s3, outOk e4 fun g4 H4 v s4 ok4 r4 => ?_⟩
        have G4 := G3.step s4 ok4
        obtain ⟨acc, a1, a2, a3⟩ := Gr.app ok1 hD G4 r4
        refine ⟨acc, a1, ?_, g4, B3, ds ++ [x'], r', a3, by simp; omega, h2, by rw [e, h3, List.append_assoc]⟩
        rw [a2, isz]
        omega
  · rintro H' ⟨g', B', ds, rs, G, hn, hr, e⟩
    rw [List.drop_length] at hr
    obtain ⟨rfl, rfl⟩ := ret_ok hr
    obtain ⟨acc, h1, h2⟩ := G.at_
    rw [e, List.append_nil] at q
    exact q g' H' D₀ acc (s1.trans G.st) G.ok h2 h1 G.z G.nb (s1.there (vac_none hD))
theorem rf_lc {elt iter : Expr} {ifs : List Expr} {scope : Scope} {own : List (Str × Nat)} {pos : Pos} {p : Pg} {fi : Rho → M (List D)} {ft : Rho → M Bool} {fe : Rho → M D} {w : List Nat} (hc : X.calm = true) (hN : X.N.Nodup) (hi : PI X tg iter (iR W Wx fi)) (ok : BlkOk X.N X.env.scope scope own)
    (hw : own.map (·.2) = w) (hsub : ∀ j ∈ gsl p, j ∈ w) (hg : ∀ (s : Shared) (H : Hp) (C : Addr) (cl : List (Str × Addr)) (fp : List Addr), PG (X.blk s H scope (compEnvC scope cl C X.env) fp) tg (gR W p)) (ht : ∀ (s : Shared) (H : Hp) (C : Addr) (cl : List (Str × Addr)) (fp : List Addr), PTs (X.blk s H scope (compEnvC scope cl C X.env) fp) ifs (tT W Wf ft))
    (he : ∀ (s : Shared) (H : Hp) (C : Addr) (cl : List (Str × Addr)) (fp : List Addr), PE (X.blk s H scope (compEnvC scope cl C X.env) fp) elt (tE W Wf fe)) (hs : ∀ x, foldedSetIterable iter X.env x = pure x) :
    PE X (.ListComp elt [⟨tg, iter, ifs, 0⟩] scope pos) (tF W Wx fun r => M.bind (fi r) fun its => M.calm (lcM (turnM p ft fe (wipeR r w)) its)) := by
  subst hw
  exact (pe_lc hc hN hi ok hg ht he hs).imp fun σ H Q h => lc_read hsub h
end
end Pl

-- part P7f
set_option maxHeartbeats 4000000
/-! The pure layer 7f: comprehensions of two fors. -/
namespace Pl
open PySem PySem.Spec PyProof.Rows L2
section
variable {X : Cx} {W : Wd} {Wx : WX} {g g1 : Gs} {B : Bs} {H H1 : Hp} {σ : L2.St} {r : Rho} {tg : Expr}
/-! all but one list stay -/
structure StpX (D₀ : Addr) (g : Gs) (H : Hp) (g' : Gs) (H' : Hp) : Prop where
  grow : Grow g g'
  zn : ∀ a o, H a = some o → (∀ ps, o ≠ .tbl ps) → g'.Z a = g.Z a
  nb : ∀ a o, H a = some o → a ∉ g.b → (∀ ps, o ≠ .tbl ps) → a ∉ g'.b
  h : ∀ a o, a ≠ D₀ → H a = some o → a ∉ g.b → (∀ ps, o ≠ .tbl ps) → H' a = some o
  at_ : ∀ xs, H D₀ = some (.lst xs) → D₀ ∉ g.b → ∃ ys, H' D₀ = some (.lst ys)
  hb : ∀ a, a ∈ g.b → ∃ xs, H' a = some (.lst xs)
  e : g'.e = g.e
theorem Stp.x {D₀ : Addr} (s : Stp g H g1 H1) : StpX D₀ g H g1 H1 := ⟨s.grow, s.zn, fun a o h n k => s.nb h n k, fun a o _ h n k => s.h a o h n k, fun xs h n => ⟨xs, s.h _ _ h n nt_lst⟩, s.hb, s.e⟩
theorem StpX.trans {D₀ : Addr} {g2 : Gs} {H2 : Hp} {xs : List V} (h0 : H D₀ = some (.lst xs)) (n0 : D₀ ∉ g.b) (s : StpX D₀ g H g1 H1) (t : StpX D₀ g1 H1 g2 H2) : StpX D₀ g H g2 H2 := by
  obtain ⟨ys, e0⟩ := s.at_ xs h0 n0
  have nb0 := s.nb D₀ _ h0 n0 nt_lst
  refine ⟨s.grow.trans t.grow, fun a o h k => ?_, fun a o h n k => ?_, fun a o d h n k => t.h a o d (s.h a o d h n k) (s.nb a o h n k) k, fun xs _ _ => t.at_ ys e0 nb0, fun a h => t.hb a (s.grow.sub h), t.e.trans s.e⟩
  · by_cases hd : a = D₀
    · subst hd
      exact (t.zn _ _ e0 nt_lst).trans (s.zn _ _ h k)
    · by_cases hb : a ∈ g.b
      · obtain ⟨zs, e⟩ := s.hb a hb
        exact (t.zn a _ e nt_lst).trans (s.zn a o h k)
      · exact (t.zn a o (s.h a o hd h hb k) k).trans (s.zn a o h k)
  · by_cases hd : a = D₀
    · subst hd
      exact t.nb _ _ e0 nb0 nt_lst
    · exact t.nb a o (s.h a o hd h n k) (s.nb a o h n k) k
theorem StpX.put {D₀ : Addr} {xs ys : List V} (h0 : H D₀ = some (.lst xs)) (n0 : D₀ ∉ g.b) : (ok : Ok W g B H) → StpX D₀ g H g (upd H D₀ (.lst ys)) := fun ok =>
  ⟨Grow.refl g, fun _ _ _ _ => rfl, fun _ _ _ n _ => n, fun a o d h _ _ => by rw [upd_ne d]; exact h, fun _ _ _ => ⟨ys, upd_same⟩, fun a h => by
    have : a ≠ D₀ := fun z => n0 (z ▸ h)
    rw [upd_ne this]
    exact (ok.bagAt h).2, rfl⟩
/-- the slots' own objects are not at D₀ -/
def Away (D₀ : Addr) (r : Rho) (σ : L2.St) : Prop := ∀ (j : Nat) (s : Sl), r[j]? = some s → s.own = true → σ[j]? ≠ some (some (.ref D₀))
theorem EnvR.upX {D₀ : Addr} {xs : List V} (e : EnvR W g H r σ) (s : StpX D₀ g H g1 H1) (h0 : H D₀ = some (.lst xs)) (aw : Away D₀ r σ) : EnvR W g1 H1 r σ := by
  refine ⟨e.len, fun i sl hi => ?_, e.ap⟩
  have q := e.sl i sl hi
  cases sl with
  | e => trivial
  | v d =>
    obtain ⟨y, h1, h2⟩ := q
    exact ⟨y, h1, Rp.up s.grow d y h2⟩
  | er c => exact q
  | la =>
    obtain ⟨f, c', φ, q1, q2, q3, q4⟩ := q
    have hc : c' ≠ D₀ := fun z => by rw [z, h0] at q3; cases q3
    exact ⟨f, c', φ, q1, q2, s.h c' _ hc q3 q4 nt_ext, s.nb c' _ q3 q4 nt_ext⟩
  | o l =>
    obtain ⟨a, ys, h1, h2, h3, h4, h5⟩ := q
    have na : a ≠ D₀ := fun z => aw i _ hi rfl (by rw [h1, z])
    exact ⟨a, ys, h1, s.h a _ na h2 h4 nt_lst, by rw [s.zn a _ h2 nt_lst]; exact h3, s.nb a _ h2 h4 nt_lst, RpL.up s.grow l ys h5⟩
  | oi c l =>
    obtain ⟨a, dx, ys, h1, h2, h3, h4, h5, h6, h7, h8, h9⟩ := q
    have na : a ≠ D₀ := fun z => aw i _ hi rfl (by rw [h1, z])
    have nd : dx ≠ D₀ := fun z => by rw [z, h0] at h5; cases h5
    exact ⟨a, dx, ys, h1, s.h a _ na h2 h4 nt_ins, by rw [s.zn a _ h2 nt_ins]; exact h3, s.nb a _ h2 h4 nt_ins, s.h dx _ nd h5 h7 nt_own, by rw [s.zn dx _ h5 nt_own]; exact h6, s.nb dx _ h5 h7 nt_own, RpL.up s.grow l ys h8, h9.1, h9.2.1, by rw [s.e]; exact h9.2.2⟩
theorem EnvR.away {D₀ : Addr} (e : EnvR W g H r σ) (h : H D₀ = none) : Away D₀ r σ := fun j s h1 o z => by
  obtain ⟨u, q, _⟩ := e.own_some h1 o z
  rw [h] at q
  cases q
mutual
theorem setG_own : ∀ (p : Pg) (d : D) (r r' : Rho), setG p d r = some r' → ∀ (j : Nat) (s : Sl), r'[j]? = some s → s.own = true → r[j]? = some s ∧ j ∉ gsl p
  | .s i, d, r, r', h, j, s, h1, o => by
    obtain ⟨hl, rfl⟩ := ite_some (show (if i < r.length then some (r.set i (.v d)) else none) = some r' from h)
    by_cases e : i = j
    · subst e
      rw [List.getElem?_set_self hl] at h1
      cases h1
      cases o
    · rw [List.getElem?_set_ne e] at h1
      exact ⟨h1, fun z => e (List.mem_singleton.mp z).symm⟩
  | .t l, .tup ds, r, r', h, j, s, h1, o => setGs_own l ds r r' h j s h1 o
  | .t l, .non, _, _, h, _, _, _, _ => by cases h
  | .t l, .bl _, _, _, h, _, _, _, _ => by cases h
  | .t l, .int _, _, _, h, _, _, _, _ => by cases h
  | .t l, .str _, _, _, h, _, _, _, _ => by cases h
  | .t l, .lst _, _, _, h, _, _, _, _ => by cases h
  | .t l, .scr _, _, _, h, _, _, _, _ => by cases h
  | .t l, .dc, _, _, h, _, _, _, _ => by cases h
  | .t l, .obj _ _, _, _, h, _, _, _, _ => by cases h
  | .t l, .fn _, _, _, h, _, _, _, _ => by cases h
  | .t l, .cl _, _, _, h, _, _, _, _ => by cases h
  | .t l, .ty _, _, _, h, _, _, _, _ => by cases h
  | .t l, .bag _, _, _, h, _, _, _, _ => by cases h
  | .t l, .lam _ _, _, _, h, _, _, _, _ => by cases h
  | .t l, .err _, _, _, h, _, _, _, _ => by cases h
theorem setGs_own : ∀ (l : List Pg) (ds : List D) (r r' : Rho), setGs l ds r = some r' → ∀ (j : Nat) (s : Sl), r'[j]? = some s → s.own = true → r[j]? = some s ∧ j ∉ gsl.gsls l
  | [], [], r, r', h, j, s, h1, o => by
    cases h
    exact ⟨h1, fun z => by cases z⟩
  | [], _ :: _, _, _, h, _, _, _, _ => by cases h
  | _ :: _, [], _, _, h, _, _, _, _ => by cases h
  | p :: l, d :: ds, r, r', h, j, s, h1, o => by
    obtain ⟨r1, e1, e2⟩ := bind_some' (o := setG p d r) (F := fun r' => setGs l ds r') h
    obtain ⟨q1, q2⟩ := setGs_own l ds r1 r' e2 j s h1 o
    obtain ⟨q3, q4⟩ := setG_own p d r r1 e1 j s q1 o
    exact ⟨q3, fun z => (List.mem_append.mp z).elim q4 q2⟩
end
theorem wipeR_own : ∀ (w : List Nat) (j : Nat) (s : Sl), (wipeR r w)[j]? = some s → s.own = true → r[j]? = some s ∧ j ∉ w
  | [], j, s, h, o => ⟨h, fun z => by cases z⟩
  | i :: w, j, s, h, o => by
    have h : ((wipeR r w).set i .e)[j]? = some s := h
    by_cases e : i = j
    · subst e
      by_cases hl : i < (wipeR r w).length
      · rw [List.getElem?_set_self hl] at h
        cases h
        cases o
      · rw [List.getElem?_eq_none (by simpa using hl)] at h
        cases h
    · rw [List.getElem?_set_ne e] at h
      obtain ⟨q1, q2⟩ := wipeR_own w j s h o
      exact ⟨q1, fun z => (List.mem_cons.mp z).elim (fun z => e z.symm) q2⟩
theorem Away.wipe {D₀ : Addr} (a : Away D₀ r σ) (w : List Nat) : Away D₀ (wipeR r w) (L2.wipe σ w) := fun j s h o z => by
  obtain ⟨q1, q2⟩ := wipeR_own w j s h o
  rw [L2.wipe_out q2] at z
  exact a j s q1 o z
theorem Away.set {D₀ : Addr} {p : Pg} {d : D} {r' : Rho} {σ' : L2.St} (a : Away D₀ r σ) (h : setG p d r = some r') (hj : ∀ j, j ∉ gsl p → σ'[j]? = σ[j]?) : Away D₀ r' σ' := fun j s h1 o z => by
  obtain ⟨q1, q2⟩ := setG_own p d r r' h j s h1 o
  rw [hj j q2] at z
  exact a j s q1 o z
def turn2M (p p2 : Pg) (fi2 : Rho → M (List D)) (ft : Rho → M Bool) (fe : Rho → M D) (r : Rho) (d : D) : M (List D) := M.bind (M.lift (setG p d r)) fun r1 => M.bind (fi2 r1) fun its2 => lcM (turnM p2 ft fe (wipeR r1 (gsl p2))) its2
theorem lc2M_cons {f : D → M (List D)} {d : D} {ds rs : List D} {B B2 : Bs} (h : lc2M f (d :: ds) B = .ok rs B2) : ∃ o B1 r', f d B = .ok o B1 ∧ lc2M f ds B1 = .ok r' B2 ∧ rs = o ++ r' := by
  obtain ⟨o, B1, h1, h2⟩ := bind_ok h
  obtain ⟨r', B3, h3, h4⟩ := bind_ok h2
  obtain ⟨rfl, rfl⟩ := ret_ok h4
  exact ⟨o, B1, r', h1, h3, rfl⟩
theorem lc2_read {p p2 : Pg} {fi fi2 : Rho → M (List D)} {ft : Rho → M Bool} {fe : Rho → M D} {w : List Nat} (hsub : ∀ j ∈ gsl p, j ∈ w) {Q : VK}
    (h : tF W Wx (fun r => M.bind (fi r) fun its => M.bind (M.calm (lc2M (turn2M p p2 fi2 ft fe (wipeR r w)) its)) lstM) σ H Q) : tLc2 (iR W Wx fi) (gR W p) tYes (iR W Wf fi2) (gR W p2) (tT W Wf ft) (tE W Wf fe) w (gsl p2) σ H Q := by
  obtain ⟨r, g, B, ok, er, out⟩ := h
  refine ⟨r, g, B, ok, er, out.bind.mono fun its B1 q g1 H1 J s1 ok1 hz wd D₀ hD => ?_⟩
  obtain ⟨rest, B2, hl, q⟩ := calm_ok (OutR.bind q)
  obtain ⟨f, hf, q⟩ := OutR.lift q
  obtain ⟨hlen, rfl⟩ := ite_some hf
  have ok0 : Ok W g1 B1 (upd H1 D₀ (.lst [])) := ok1.new hD
  let Pv : Nat → Hp → Prop := fun i H' => ∃ g' B' ds rs, Gr W g1 H1 D₀ ds B' g' H' ∧ lc2M (turn2M p p2 fi2 ft fe (wipeR r w)) (its.drop i) B' = .ok rs B2 ∧ rest = ds ++ rs
  refine ⟨fun i m H' => i + m = its.length ∧ Pv i H', ⟨its.length, by omega, g1, B1, [], rest, ⟨Stp.new ok1 hD, ok0, ⟨[], upd_same, RpL.nil⟩, ok1.zfree hD, ok1.nbag hD⟩, hl, rfl⟩, fun i m H' ⟨him, g', B', ds, rs, G, hr, e⟩ => ?_⟩
  by_cases hi : i < its.length
  · refine .inr ⟨wd.goes i g' B' H' G.st.grow G.ok hi, Pv (i + 1), fun H'' h => ⟨m - 1, by omega, by omega, h⟩, fun x H'' hy => ?_⟩
    obtain ⟨d, hd⟩ := get_some hi
    obtain ⟨g2, s2, ok2, rx⟩ := wd.yields i d g' B' H' x H'' G.st.grow G.ok hd hy
    have G2 := G.step s2 ok2
    rw [drop_at hd] at hr
    obtain ⟨o, B3, r', h1, h2, h3⟩ := lc2M_cons hr
    obtain ⟨r1, B4, e1, e2⟩ := bind_ok h1
    obtain ⟨e0, rfl⟩ := lift_ok e1
    obtain ⟨its2, B5, e3, e4⟩ := bind_ok e2
    have er2 : EnvR W g2 H'' (wipeR r w) (L2.wipe σ w) := (er.up (s1.trans G2.st)).wipe w
    refine ⟨wipeR r w, g2, B', d, r1, ok2, er2, rx, e0, fun σ2 er3 hl2 hj => ⟨?_, ?_⟩⟩
    · exact wipe_same (by rw [hl2, L2.wipe_length]) fun j hj' => hj j fun z => hj' (hsub j z)
    · unfold tYes
      simp only [if_true]
      have aw2 : Away D₀ r1 σ2 := (((er.up s1).away hD).wipe w).set e0 hj
      obtain ⟨acc0, a01, a02⟩ := G2.at_
      refine ⟨r1, g2, B', ok2, er3, outOk e3 fun g3 H3 J2 s3 ok3 hz2 wd2 => ?_⟩
      have G3 := G2.step s3 ok3
      let Pw : Nat → Hp → Prop := fun j H' => ∃ g' B' us vs, Gr W g1 H1 D₀ (ds ++ us) B' g' H' ∧ Grow g3 g' ∧ StpX D₀ g2 H'' g' H' ∧ lcM (turnM p2 ft fe (wipeR r1 (gsl p2))) (its2.drop j) B' = .ok vs B3 ∧ o = us ++ vs
      have hpw0 : Pw 0 H3 := ⟨g3, B5, [], o, by rw [List.append_nil]; exact G3, Grow.refl _, s3.x, e4, rfl⟩
      refine ⟨fun j k H' => j + k = its2.length ∧ Pw j H', ⟨its2.length, by omega, hpw0⟩, fun j k H4 ⟨hjk, g4, B6, us, vs, G4, gr4, s4, hv, eo⟩ => ?_⟩
      by_cases hj2 : j < its2.length
      · refine .inr ⟨wd2.goes j g4 B6 H4 gr4 G4.ok hj2, Pw (j + 1), fun H'' h => ⟨k - 1, by omega, by omega, h⟩, fun y H5 hy2 => ?_⟩
        obtain ⟨d2, hd2⟩ := get_some hj2
        obtain ⟨g5, s5, ok5, ry⟩ := wd2.yields j d2 g4 B6 H4 y H5 gr4 G4.ok hd2 hy2
        have G5 := G4.step s5 ok5
        rw [drop_at hd2] at hv
        obtain ⟨o2, B7, v', f1, f2, f3⟩ := lcM_cons hv
        obtain ⟨r2, b, B8, f4, f5, f6⟩ := turnM_ok f1
        have er5 : EnvR W g5 H5 (wipeR r1 (gsl p2)) (L2.wipe σ2 (gsl p2)) := (er3.upX (s4.trans a01 G2.nb s5.x) a01 aw2).wipe _
        refine ⟨wipeR r1 (gsl p2), g5, B6, d2, r2, ok5, er5, ry, f4, fun σ3 er6 hl3 hj3 => ⟨?_, ?_⟩⟩
        · exact wipe_same (by rw [hl3, L2.wipe_length]) fun j hj' => hj3 j hj'
        · refine ⟨r2, g5, B6, ok5, er6, outOk f5 fun g6 H6 s6 ok6 => ?_⟩
          have G6 := G5.step s6 ok6
          rcases f6 with ⟨rfl, rfl, rfl⟩ | ⟨rfl, x', f7, rfl⟩
          · simp only [Bool.false_eq_true, if_false]
            exact ⟨g6, B8, us, v', G6, gr4.trans (s5.grow.trans s6.grow), s4.trans a01 G2.nb (s5.trans s6).x, f2, by rw [eo, f3]; rfl⟩
          · simp only [if_true]
            refine ⟨r2, g6, B8, ok6, er6.up s6, outOk f7 fun g7 H7 v s7 ok7 r7 => ?_⟩
            have G7 := G6.step s7 ok7
            obtain ⟨acc, a1, a2, a3⟩ := Gr.app ok1 hD G7 r7
            refine ⟨acc, a1, ?_, g7, B7, us ++ [x'], v', by rw [← List.append_assoc]; exact a3, gr4.trans (s5.grow.trans (s6.grow.trans s7.grow)), ?_, f2, by rw [eo, f3, List.append_assoc]⟩
            · rw [a2, isz]
              rw [e, h3, eo, f3] at hlen
              simp only [List.length_append, List.length_cons] at hlen
              simp only [List.length_append]
              omega
            · exact s4.trans a01 G2.nb (((s5.trans s6).trans s7).x.trans (G4.at_.choose_spec.1) G4.nb (StpX.put a1 G7.nb G7.ok))
      · refine .inl ⟨?_, ?_⟩
        · have ej : j = its2.length := by omega
          rw [ej]
          exact wd2.stops g4 B6 H4 gr4 G4.ok
        · have ej : j = its2.length := by omega
          rw [ej, List.drop_length] at hv
          obtain ⟨rfl, rfl⟩ := ret_ok hv
          rw [List.append_nil] at eo
          subst eo
          exact ⟨g4, B6, ds ++ o, r', G4, h2, by rw [e, h3, List.append_assoc]⟩
  · refine .inl ⟨?_, ?_⟩
    · have ej : i = its.length := by omega
      rw [ej]
      exact wd.stops g' B' H' G.st.grow G.ok
    · have ej : i = its.length := by omega
      rw [ej, List.drop_length] at hr
      obtain ⟨rfl, rfl⟩ := ret_ok hr
      obtain ⟨acc, h1, h2⟩ := G.at_
      rw [e, List.append_nil] at q
      exact q g' H' D₀ acc (s1.trans G.st) G.ok h2 h1 G.z G.nb (s1.there (vac_none hD))
theorem rf_lc2 {elt iter tg1 iter1 : Expr} {scope : Scope} {ifs1 : List Expr} {own : List (Str × Nat)} {pos : Pos} {p p2 : Pg} {fi fi2 : Rho → M (List D)} {ft : Rho → M Bool} {fe : Rho → M D} {w : List Nat} (hc : X.calm = true) (hN : X.N.Nodup) (hi : PI X tg iter (iR W Wx fi)) (ok : BlkOk X.N X.env.scope scope own)
    (hw : own.map (·.2) = w) (hsub : ∀ j ∈ gsl p, j ∈ w) (hsub2 : ∀ j ∈ gsl p2, j ∈ w) (hg : ∀ (s : Shared) (H : Hp) (C : Addr) (cl : List (Str × Addr)) (fp : List Addr), PG (X.blk s H scope (compEnvC scope cl C X.env) fp) tg (gR W p))
    (hi2 : ∀ (s : Shared) (H : Hp) (C : Addr) (cl : List (Str × Addr)) (fp : List Addr), PI (X.blk s H scope (compEnvC scope cl C X.env) fp) tg1 iter1 (iR W Wf fi2))
    (hg2 : ∀ (s : Shared) (H : Hp) (C : Addr) (cl : List (Str × Addr)) (fp : List Addr), PG (X.blk s H scope (compEnvC scope cl C X.env) fp) tg1 (gR W p2)) (ht : ∀ (s : Shared) (H : Hp) (C : Addr) (cl : List (Str × Addr)) (fp : List Addr), PTs (X.blk s H scope (compEnvC scope cl C X.env) fp) ifs1 (tT W Wf ft))
    (he : ∀ (s : Shared) (H : Hp) (C : Addr) (cl : List (Str × Addr)) (fp : List Addr), PE (X.blk s H scope (compEnvC scope cl C X.env) fp) elt (tE W Wf fe)) (hs : ∀ x, foldedSetIterable iter X.env x = pure x) (hs2 : ∀ env x, foldedSetIterable iter1 env x = pure x) :
    PE X (.ListComp elt [⟨tg, iter, [], 0⟩, ⟨tg1, iter1, ifs1, 0⟩] scope pos) (tF W Wx fun r => M.bind (fi r) fun its => M.bind (M.calm (lc2M (turn2M p p2 fi2 ft fe (wipeR r w)) its)) lstM) := by
  subst hw
  exact (pe_lc2 (vs1 := gsl p2) hc hN hi ok hsub2 hg (fun _ _ _ _ _ => pts_nil) hi2 hg2 ht he hs hs2).imp fun σ H Q h => lc2_read hsub h
end
end Pl

-- part Q0
set_option maxHeartbeats 4000000
namespace Pl
open PySem PySem.Spec PySem.Calls PySem.W PyProof.Rows
/-- what an own exception's class is known by -/
structure XcOk (prog : Program) (K : PySem.W.Frag) (C : Addr) : Prop where
  it : ∃ (fI cc cda : Addr) (qual : Str) (params : Arguments) (scope : Scope) (dV kV doc pm ct oc : Value) (an od : Option Addr) (osl : Array (Option Value)) (ar : Arg) (vs : Array Value) (file : Str) (tf : Tok) (ccl cl : Value) (cdd cld : Option Addr) (ccs csl : Array (Option Value)) (cdC : ClassData) (msg : Str) (j : Nat) (p0 p1 p2 p3 p4 p5 : Pos),
    K.lookup fI = some ⟨oc, od, .func (ksFn "__init__" qual params [.Expr (.Call (.Attribute (.Call (.Name "super" p0) [] [] p1) "__init__" p2) [.Constant (.str msg) j p3] [] p4) p5] scope dV kV doc pm an (.ref cda) ct cc), osl⟩ ∧
    codeIn K (.ref cda) qual = true ∧ (params.posonlyargs ++ params.args).head? = some ar ∧ K.lookup cda = some ⟨ccl, cdd, .fields vs, ccs⟩ ∧ vs[2]? = some (.str file tf) ∧ ((prog.main.file : Str) == file) = true ∧
    K.lookup cc = some ⟨cl, cld, .cell (some (.ref C)), csl⟩ ∧ clsIn K C = some cdC ∧ scope.names.lookup ("super" : Str) = some .globalImplicit ∧ scope.names.lookup ("__class__" : Str) = some .free ∧ scope.names.lookup ar.arg = some .local ∧ scope.kind = .function ∧
    scope.isCoroutine = false ∧ scope.isGenerator = false ∧ (∀ x ∈ scope.names, x.2 ≠ .cell) ∧ L2.Binds K (ksFn "__init__" qual params [.Expr (.Call (.Attribute (.Call (.Name "super" p0) [] [] p1) "__init__" p2) [.Constant (.str msg) j p3] [] p4) p5] scope dV kV doc pm an (.ref cda) ct cc) [ar.arg] [] ∧
    findIn K (.ref C) "__init__" = some (some (.ref fI)) ∧ typeIn K (.ref fI) = some (.type "function") ∧ (p2.endLine == p4.line) = true
  sub : mroIn K C (.ref C) = some true
  any : nsIn K cStatics "thirdparty.any" = some none
  sup : ks_superIn K C C "__init__" = some (some (.builtin "ValueError.__init__"))
  ve : subIn K (.ref C) (.type "ValueError") = some true
  exc : excInitIn K C [.type "ValueError", .type "Exception", .type "BaseException", .type "object"] "ValueError.__new__" = true
  keep : keepIn K (.ref C) = true
  be : subIn K (.ref C) (.type "BaseException") = some true
  ty : typeIn K (.ref C) = some (.type "type")
end Pl

-- part P8
set_option maxHeartbeats 4000000
/-! The pure layer 8: is this expression that tree; expressions do what their trees say. -/
namespace Pl
open PySem PySem.Spec PyProof.Rows L2
/-! ### what is known of a def's text -/
structure Tc where
  N : List Str
  sc : Scope
  top : Bool
  calm : Bool
  rg : Bool
  fns : List (Str × Nat × Bool)
  csts : List (Str × D)
  blts : List Str
  xcs : List Str
  xmk : List Nat
  xsub : List (Nat × Nat)
  hear : Option Str
  lams : Bool
  hrs : List Str
  mks : List (Nat × Str × Nat × Bool) := []
def Tc.blk (t : Tc) (scope : Scope) : Tc := { t with sc := relS scope t.sc, top := false, hear := none, lams := false }
def Tc.suite (t : Tc) : Tc := { t with calm := false, hear := none, lams := false }
def Tc.lamb (t : Tc) (scope : Scope) : Tc := { t with sc := scope, top := false, hear := none, lams := false, rg := false, mks := [] }
def noStar : Expr → Bool
  | .Starred _ _ => false
  | _ => true
theorem star_ok {e : Expr} {es : List Expr} {env : Env} (h : noStar e = true) : starEach (e :: es) env = (false, eval e env) :: starEach es env := by
  cases e <;> first | rfl | cases h
theorem star_any {pos : Pos} {env : Env} : ∀ {es : List Expr}, es.all noStar = true → (backTo pos (starEach es env)).any (·.1) = false
  | [], _ => rfl
  | e :: es, h => by
    rw [List.all_cons, Bool.and_eq_true] at h
    rw [star_ok h.1]
    show (false || (backTo pos (starEach es env)).any (·.1)) = false
    rw [star_any h.2]
    rfl
theorem assign_ok {e : Expr} {es : List Expr} {env : Env} (h : noStar e = true) : assignEach (e :: es) env = (false, assign e env) :: assignEach es env := by
  cases e <;> first | rfl | cases h
theorem assign_any {env : Env} : ∀ {es : List Expr}, es.all noStar = true → (assignEach es env).length = es.length ∧ (assignEach es env).findIdx? (·.1) = none
  | [], _ => ⟨rfl, rfl⟩
  | e :: es, h => by
    rw [List.all_cons, Bool.and_eq_true] at h
    obtain ⟨h1, h2⟩ := assign_any (env := env) h.2
    rw [assign_ok h.1]
    refine ⟨by rw [List.length_cons, List.length_cons, h1], ?_⟩
    rw [List.findIdx?_cons, h2]
    rfl
def plainT : Expr → Bool
  | .UnaryOp .Not _ _ => false
  | .BoolOp _ _ _ => false
  | .IfExp _ _ _ _ => false
  | .Compare _ _ _ _ => false
  | _ => true
theorem plainT_ok {e : Expr} {env : Env} (h : plainT e = true) (whole : Sem Value) : PySem.isTrue e env whole = (do let v ← whole; standAt e.pos; holding [v] (truthy v)) := by
  cases e with
  | UnaryOp o a p => cases o <;> first | rfl | cases h
  | BoolOp _ _ _ => cases h
  | IfExp _ _ _ _ => cases h
  | Compare _ _ _ _ => cases h
  | _ => rfl
/-- what is asked for an attribute is evaluated as it stands -/
def plainO : Expr → Bool
  | .Call _ _ _ _ => false
  | _ => true
theorem plainO_ok {e : Expr} {f : Str} {env : Env} (h : plainO e = true) : attributeBase e f env (eval e env) = eval e env := by
  cases e <;> first | rfl | cases h
def plainI : Expr → Bool
  | .Slice _ _ _ _ => false
  | _ => true
theorem plainI_ok {e : Expr} (h : plainI e = true) : PlainIx e := by
  intro o i
  cases e <;> first | rfl | cases h
def noSet : Expr → Bool
  | .Set _ _ _ => false
  | _ => true
theorem noSet_ok {e : Expr} {env : Env} (h : noSet e = true) (x : Value) : foldedSetIterable e env x = pure x := by
  cases e <;> first | rfl | cases h
def kindV : Option NameKind → Bool
  | some .local => true
  | some .cell => true
  | some .free => true
  | _ => false
theorem kindV_ok {sc : Scope} {x : Str} (h : kindV (sc.names.lookup x) = true) : Vis sc x := by
  cases e : sc.names.lookup x with
  | none => rw [e] at h; cases h
  | some k => cases k with
    | «local» => exact .inl e
    | cell => exact .inr (.inl e)
    | free => exact .inr (.inr e)
    | _ => rw [e] at h; cases h
def okName (t : Tc) (x : Str) (i : Nat) : Bool := decide (t.N[i]? = some x) && kindV (t.sc.names.lookup x) && !(x == ("__debug__" : Str)) && !(x == ("__classdict__" : Str))
def okGlob (t : Tc) (x : Str) : Bool := decide (t.sc.names.lookup x = some .globalImplicit) && !(x == ("__debug__" : Str)) && decide (x ≠ "__name__")
def isBlt (t : Tc) (x : Str) : Bool := t.blts.any fun y => decide (y = x)
def tyNms : List String := ["int", "bool", "str", "tuple", "list", "dict"]
def bopIs : Bop → Operator → Bool
  | .add, .Add => true
  | .sub, .Sub => true
  | .mul, .Mult => true
  | .fdiv, .FloorDiv => true
  | .mod, .Mod => true
  | .pow, .Pow => true
  | _, _ => false
theorem bopIs_ok {o : Bop} {op : Operator} (h : bopIs o op = true) : op = opOf o := by
  cases o <;> cases op <;> first | rfl | cases h
def copIs : Cop → CmpOp → Bool
  | .lt, .Lt => true
  | .le, .LtE => true
  | .gt, .Gt => true
  | .ge, .GtE => true
  | .eq, .Eq => true
  | .ne, .NotEq => true
  | .is, .Is => true
  | .isn, .IsNot => true
  | .inn, .In => true
  | .nin, .NotIn => true
  | _, _ => false
theorem copIs_ok {o : Cop} {op : CmpOp} (h : copIs o op = true) : op = copOf o := by
  cases o <;> cases op <;> first | rfl | cases h
def biNm : Bi → String
  | .len => "len"
  | .abs => "abs"
  | .int => "int"
  | .max2 => "max"
  | .min2 => "min"
  | .tuple => "tuple"
  | .list => "list"
  | .all => "all"
  | .any => "any"
  | .sum => "sum"
  | .isi => "isinstance"
  | .repr => "repr"
  | .maxl => "max"
  | .minl => "min"
  | .bool => ""
/-- a written value, or a name of the module for it -/
def eqC : D → D → Bool
  | .int i, .int j => decide (i = j)
  | .bl i, .bl j => i == j
  | .str s, .str t => decide (s = t)
  | .non, .non => true
  | _, _ => false
theorem eqC_ok {d e : D} (h : eqC d e = true) : d = e := by
  cases d with
  | int i => cases e with
    | int j => rw [of_decide_eq_true h]
    | _ => cases h
  | bl i => cases e with
    | bl j => rw [eq_of_beq h]
    | _ => cases h
  | str i => cases e with
    | str j => rw [of_decide_eq_true h]
    | _ => cases h
  | non => cases e with
    | non => rfl
    | _ => cases h
  | _ => cases h
def chkC (t : Tc) : D → Expr → Bool
  | d, .Constant (.int i) _ _ => eqC d (.int i)
  | d, .Constant (.bool b) _ _ => eqC d (.bl b)
  | d, .Constant (.str s) _ _ => eqC d (.str s)
  | d, .Constant .none _ _ => eqC d .non
  | .ty n, .Name x _ => decide (x = Str.ofString n) && tyNms.contains n && isBlt t x && okGlob t x
  | d, .Name x _ => okGlob t x && t.csts.any fun p => decide (p.1 = x) && eqC p.2 d
  | _, _ => false
/-- the expressions that are evaluated of what is walked -/
def itArgs (t : Tc) : Ik → Expr → Expr → Option (List Expr)
  | .seq, _, e => if noSet e then some [e] else none
  | .rng, _, .Call (.Name x _) [a] [] _ => if decide (x = "range") && okGlob t x && isBlt t x && noStar a then some [a] else none
  | .rng2, _, .Call (.Name x _) [a, b] [] _ => if decide (x = "range") && okGlob t x && isBlt t x && noStar a && noStar b then some [a, b] else none
  | .enum, .Tuple _ _ _, .Call (.Name x _) [a] [] _ => if decide (x = "enumerate") && okGlob t x && isBlt t x && noStar a then some [a] else none
  | .zip, .Tuple _ _ _, .Call (.Name x _) [a, b] [] _ => if decide (x = "zip") && okGlob t x && isBlt t x && noStar a && noStar b then some [a, b] else none
  | _, _, _ => none
def okTgt (t : Tc) (x : Str) (i : Nat) : Bool := decide (t.N[i]? = some x) && (match t.sc.names.lookup x with
  | some .local => true
  | some .cell => t.top
  | _ => false)
mutual
def chkG (t : Tc) : Pg → Expr → Bool
  | .s i, e => match e with
    | .Name x _ => okTgt t x i
    | _ => false
  | .t l, e => match e with
    | .Tuple es _ _ => t.calm && es.all noStar && chkGs t l es
    | _ => false
def chkGs (t : Tc) : List Pg → List Expr → Bool
  | [], es => es.isEmpty
  | g :: gs, es => match es with
    | e :: es => chkG t g e && chkGs t gs es
    | [] => false
end
def ownOf (t : Tc) (w : List Nat) : List (Str × Nat) := w.filterMap fun i => (t.N[i]?).map fun x => (x, i)
def chkBlk (t : Tc) (w : List Nat) (scope : Scope) : Bool := decide ((ownOf t w).map (·.2) = w) && blkC t.N t.sc scope (ownOf t w)
def isNeg1 : Expr → Bool
  | .UnaryOp .USub (.Constant (.int 1) _ _) _ => true
  | _ => false
mutual
def chkE (t : Tc) : Pe → Expr → Bool
  | .c d, e => chkC t d e
  | .v i, e => match e with
    | .Name x _ => okName t x i
    | _ => false
  | .bin o a b, e => match e with
    | .BinOp l op r _ => bopIs o op && chkE t a l && chkE t b r
    | _ => false
  | .neg a, e => match e with
    | .UnaryOp .USub x _ => chkE t a x
    | _ => false
  | .nt a, e => match e with
    | .UnaryOp .Not x _ => chkE t a x
    | _ => false
  | .an l, e => match e with
    | .BoolOp .And es _ => chkEs t l es
    | _ => false
  | .or l, e => match e with
    | .BoolOp .Or es _ => chkEs t l es
    | _ => false
  | .cmp o a b, e => match e with
    | .Compare x [op] [y] _ => copIs o op && !behindInMarks op y && chkE t a x && chkE t b y
    | _ => false
  | .ch o p a b c, e => match e with
    | .Compare x [op, op'] [y, z] _ => copIs o op && copIs p op' && !lastMarks [op, op'] [y, z] && chkE t a x && chkE t b y && chkE t c z
    | _ => false
  | .ite c a b, e => match e with
    | .IfExp x y z _ => chkT t c x && chkE t a y && chkE t b z
    | _ => false
  | .tup l, e => match e with
    | .Tuple es _ _ => es.all noStar && chkEs t l es
    | _ => false
  | .lst l, e => match e with
    | .List es _ => es.all noStar && chkEs t l es
    | _ => false
  | .dc, e => match e with
    | .Dict [] [] _ => true
    | _ => false
  | .ix a i, e => match e with
    | .Subscript x y _ => plainI y && chkE t a x && chkE t i y
    | _ => false
  | .ixo s i, e => match e with
    | .Subscript (.Name x _) y _ => plainI y && okName t x s && chkE t i y
    | _ => false
  | .sl a lo hi, e => match e with
    | .Subscript x (.Slice l h none _) _ => chkE t a x && chkO t lo l && chkO t hi h
    | _ => false
  | .rv a, e => match e with
    | .Subscript x (.Slice none none (some s) _) _ => isNeg1 s && chkE t a x
    | _ => false
  | .lno s, e => match e with
    | .Call (.Name x _) [.Name y _] [] _ => decide (x = "len") && okGlob t x && isBlt t x && okName t y s
    | _ => false
  | .call f l, e => match e with
    | .Call (.Name x _) es [] _ => t.calm && (match t.fns[f]? with
      | some (y, n, b) => decide (x = y) && decide (n = l.length) && (!b || t.rg)
      | none => false) && okGlob t x && es.all noStar && chkEs t l es
    | _ => false
  | .bi b l, e => match e with
    | .Call (.Name x _) es [] _ => t.calm && (match b with
      | .bool => false
      | .repr => t.rg
      | _ => true) && decide (x = Str.ofString (biNm b)) && okGlob t x && isBlt t x && es.all noStar && !es.isEmpty && chkEs t l es
    | _ => false
  | .lc g k l ts e w, ex => match ex with
    | .ListComp elt [⟨tg, iter, ifs, 0⟩] scope _ => t.calm && chkBlk t w scope && (gsl g).all (fun i => w.contains i) && chkG (t.blk scope) g tg && (match itArgs t k tg iter with
      | some es => chkEs t l es
      | none => false) && chkTs (t.blk scope) ts ifs && chkE (t.blk scope) e elt
    | _ => false
  | .lc2 g k l g2 k2 l2 ts e w, ex => match ex with
    | .ListComp elt [⟨tg, iter, [], 0⟩, ⟨tg2, iter2, ifs, 0⟩] scope _ => t.calm && chkBlk t w scope && (gsl g).all (fun i => w.contains i) && (gsl g2).all (fun i => w.contains i) && chkG (t.blk scope) g tg && chkG (t.blk scope) g2 tg2 && (match itArgs t k tg iter with
      | some es => chkEs t l es
      | none => false) && (match itArgs (t.blk scope) k2 tg2 iter2 with
      | some es => chkEs (t.blk scope) l2 es
      | none => false) && chkTs (t.blk scope) ts ifs && chkE (t.blk scope) e elt
    | _ => false
  | .bag l, e => match e with
    | .List es _ => es.all noStar && chkEs t l es
    | _ => false
  | .fld a f, e => match e with
    | .Attribute o g _ => decide (f = g) && plainO o && chkE t a o
    | _ => false
  | .mk c l, e => match e with
    | .Call (.Name x _) es [] _ => t.calm && (t.mks.any fun m => decide (m.1 = c) && decide (m.2.1 = x) && decide (m.2.2.1 = l.length) && (!m.2.2.2 || t.rg)) && okGlob t x && es.all noStar && !es.isEmpty && chkEs t l es
    | _ => false
  | .mt m a l, e => match e with
    | .Call (.Attribute o nm apos) [x] [] cpos => decide (nm = Str.ofString (mtNm m)) && plainO o && noStar x && (apos.endLine == cpos.line) && chkE t a o && chkEs t l [x]
    | _ => false
  | .ise s c, e => match e with
    | .Call (.Name x _) [.Name y _, .Name z _] [] _ => decide (x = "isinstance") && okGlob t x && isBlt t x && okName t y s && okGlob t z && (match c with
      | none => decide (z = "ValueError") && isBlt t z
      | some c => decide (t.xcs[c]? = some z))
    | _ => false
  | .lamc f a, e => match e with
    | .Call (.Name x _) [.Lambda ⟨[], [], none, [], [], none, []⟩ body scope _] [] _ => t.lams && t.calm && decide (t.hrs[f]? = some x) && okGlob t x && LamX.lamSB t.sc scope && chkE (t.lamb scope) a body
    | _ => false
  | .no, _ => true
  | _, _ => false
def chkO (t : Tc) : Option Pe → Option Expr → Bool
  | none, e => e.isNone
  | some p, e => match e with
    | some e => chkE t p e
    | none => false
def chkEs (t : Tc) : List Pe → List Expr → Bool
  | [], es => es.isEmpty
  | p :: l, es => match es with
    | e :: es => chkE t p e && chkEs t l es
    | [] => false
def chkT (t : Tc) : Pe → Expr → Bool
  | .nt a, e => match e with
    | .UnaryOp .Not x _ => chkT t a x
    | _ => false
  | .an l, e => match e with
    | .BoolOp .And es _ => chkTl t l es
    | _ => false
  | .or l, e => match e with
    | .BoolOp .Or es _ => chkTl t l es
    | _ => false
  | .cmp o a b, e => match e with
    | .Compare x [op] [y] _ => copIs o op && !behindInMarks op y && chkE t a x && chkE t b y
    | _ => false
  | .ch o p a b c, e => match e with
    | .Compare x [op, op'] [y, z] _ => copIs o op && copIs p op' && !lastMarks [op, op'] [y, z] && chkE t a x && chkE t b y && chkE t c z
    | _ => false
  | .tv a, e => plainT e && chkE t a e
  | .no, _ => true
  | _, _ => false
def chkTs (t : Tc) : List Pe → List Expr → Bool
  | [], es => es.isEmpty
  | [p], es => match es with
    | [e] => chkT t p e
    | _ => false
  | _, _ => false
def chkTl (t : Tc) : List Pe → List Expr → Bool
  | [], es => es.isEmpty
  | p :: l, es => match es with
    | e :: es => chkT t p e && chkTl t l es
    | [] => false
end
end Pl

-- part P8a
set_option maxHeartbeats 4000000
/-! The pure layer 8a: methods of lists. -/
namespace Pl
open PySem PySem.Spec PyProof.Rows L2
/-! ### list methods -/
section
variable {X : Cx} {W : Wd} {Wx : WX}
def rMt (W : Wd) (m : Mt) : V → List V → Hp → VK → Prop := fun x xs H Q => ∃ g B d ds f, Ok W g B H ∧ Rp W g d x ∧ RpL W g ds xs ∧ mtD m d ds = some f ∧ okE W g H Q f B
theorem count_eqU {g : Gs} {d : D} {y : V} (r : Rp W g d y) (h : flatD d = true) : ∀ {ds : List D} {xs : List V} {us : List Value}, RpL W g ds xs → ds.all flatD = true → Vals xs us → us.countP (eqU y) = ds.countP fun z => eqF z d
  | [], _, us, h1, _, rv => by
    have h1 : _ = [] := h1
    subst h1
    cases rv
    rfl
  | e :: ds, _, us, ⟨z, zs, h1, h2, h3⟩, h4, rv => by
    subst h1
    rw [List.all_cons, Bool.and_eq_true] at h4
    cases rv with
    | cons ru rt =>
      rename_i u ut
      rw [List.countP_cons, List.countP_cons, count_eqU r h h3 h4.2 rt, eqU_of ru (flat_of h2 h4.1), eqF_of h2 r h4.1 h]
theorem mtCount (hK : X.K = W.K) : MtR X "list.count" (rMt W .count) := by
  intro pins s σ H x xs v us Q I rx rxs ⟨g, B, d, ds, f, ok, rd, rds, hf, q⟩
  cases d with
  | lst l => cases ds with
    | nil => cases hf
    | cons e r2 => cases r2 with
      | cons _ _ => cases hf
      | nil =>
        obtain ⟨h1, rfl⟩ := ite_some (show (if flatD e && l.all flatD then some (D.int (l.countP fun y => eqF y e : Nat)) else none) = some f from hf)
        rw [Bool.and_eq_true] at h1
        obtain ⟨y, rfl, ry⟩ := rds.one
        obtain ⟨p, ys, rfl, sx, lx⟩ := rd
        cases rx
        obtain ⟨u, rfl, ru⟩ := rxs.one
        have hs : SqL X.K H p ys := SqL.of (ok.ice _ _ sx)
        obtain ⟨its, rv, ⟨⟨cls, dd, data, sl⟩, n, ho, hc, hdn, hd⟩, hlen⟩ := I.list hs
        simp only at hc hd
        subst hc hd
        refine call_meets PySem.F.slot_list_count ⟨_, ho, rfl⟩ PySem.F.entry_list_count (PySem.F.args_list_count_2 _ _)
          (SeqAt.list_countAt p its.toArray n dd sl u (eqU y)) ⟨ho, fun u' hu' => mem_eqAt ru (flat_of ry h1.1) rv (flats_of lx h1.2) u' (by simpa using hu'), ?_⟩
        have ec : its.toArray.toList.countP (eqU y) = l.countP fun z => eqF z e := count_eqU ry h1.1 lx h1.2 rv
        refine ⟨.int (l.countP fun z => eqF z e : Nat), H, I.tok _, ⟨s.toks, ?_⟩, q g H _ (Stp.refl ok) ok rfl⟩
        show Value.int ((its.toArray.toList.countP (eqU y) : Nat) : Int) s.toks = _
        rw [ec]
  | _ => cases hf
theorem mtIndex (hK : X.K = W.K) : MtR X "list.index" (rMt W .index) := by
  intro pins s σ H x xs v us Q I rx rxs ⟨g, B, d, ds, f, ok, rd, rds, hf, q⟩
  cases d with
  | lst l => cases ds with
    | nil => cases hf
    | cons e r2 => cases r2 with
      | cons _ _ => cases hf
      | nil =>
        have hf : (if flatD e && l.all flatD then (l.findIdx? fun y => eqF y e).map fun i => D.int (i : Nat) else none) = some f := hf
        by_cases h1 : (flatD e && l.all flatD) = true
        · rw [if_pos h1] at hf
          rw [Bool.and_eq_true] at h1
          obtain ⟨j, hj, rfl⟩ := map_some' hf
          obtain ⟨y, rfl, ry⟩ := rds.one
          obtain ⟨p, ys, rfl, sx, lx⟩ := rd
          obtain ⟨j1, j2, j3⟩ := List.findIdx?_eq_some_iff_getElem.mp hj
          obtain ⟨z, hz, rz⟩ := lx.get (List.getElem?_eq_getElem j1)
          have fl : ∀ (m : Nat) (e' : D), l[m]? = some e' → flatD e' = true := fun m e' h => List.all_eq_true.mp h1.2 e' (List.mem_of_getElem? h)
          refine mt_index pins s σ H _ _ v us Q I rx rxs ⟨p, ys, y, j, z, rfl, rfl, SqL.of (ok.ice _ _ sx), flat_of ry h1.1, flats_of lx h1.2, hz, ?_, fun m z' hm hz' => ?_, q g H _ (Stp.refl ok) ok rfl⟩
          · rw [eqF_of rz ry (fl _ _ (List.getElem?_eq_getElem j1)) h1.1]
            exact j2
          · obtain ⟨e', he', re'⟩ := lx.getV hz'
            rw [eqF_of re' ry (fl _ _ he') h1.1]
            have := j3 m hm
            rw [List.getElem?_eq_some_iff] at he'
            obtain ⟨h2, h3⟩ := he'
            rw [h3] at this
            simpa using this
        · rw [if_neg h1] at hf
          cases hf
  | _ => cases hf
theorem r_mtid {m : Mt} {o x : Expr} {nm : Str} {apos cpos : Pos} {id : String} {fo : Rho → M D} {fl : Rho → M (List D)} (hK : X.K = W.K) (slot : Slot "list" nm id) (hty : typeOf (.builtin id) = pure (.type "method_descriptor")) (hm : MtR X id (rMt W m)) (ho : PE X o (tE W Wx fo)) (ha : PA X [x] (tA W Wx fl)) (hs : noStar x = true) (hb : attributeBase o nm X.env (eval o X.env) = eval o X.env) (hl : (apos.endLine == cpos.line) = true) :
    PE X (.Call (.Attribute o nm apos) [x] [] cpos) (tE W Wx fun r => M.bind (fo r) fun d => M.bind (M.lift (lstD d)) fun k => M.bind (fl r) fun xs => M.lift (mtD m (.lst k) xs)) := by
  have st : starEach [x] X.env = (false, eval x X.env) :: starEach [] X.env := star_ok hs
  refine (pe_bm (cpos := cpos) (apos := apos) PySem.F.plainAttrs_list slot hty hm ho ha hb (by rw [st]; rfl) hl st rfl).imp fun σ H Q ⟨r, g, B, ok, er, out⟩ =>
    tE.go ok er (Stp.refl ok) out.bind fun d B1 g1 H1 v q s1 _ ok1 rv => ?_
  obtain ⟨k, hk, q2⟩ := OutR.lift q.bind
  cases d with
  | lst l =>
    cases hk
    obtain ⟨p, xs, rfl, sx, lx⟩ := rv
    refine ⟨.inl ⟨rfl, xs, SqL.of (ok1.ice _ _ sx)⟩, tA.go ok1 (er.up s1) s1 q2.bind fun ds B2 g2 H2 vs q3 s2 s3 ok2 rvs => ?_⟩
    obtain ⟨f, hf, q4⟩ := OutR.lift q3
    exact ⟨g2, B2, .lst k, ds, f, ok2, ⟨p, xs, rfl, s3.grow.z _ _ sx, RpL.up s3.grow _ _ lx⟩, rvs, hf, fun g' H' v' s' o' r' => q4 g' H' v' (s2.trans s') o' r'⟩
  | _ => cases hk
theorem r_mt {m : Mt} {o x : Expr} {nm : Str} {apos cpos : Pos} {fo : Rho → M D} {fl : Rho → M (List D)} (hK : X.K = W.K) (hn : nm = Str.ofString (mtNm m)) (ho : PE X o (tE W Wx fo)) (ha : PA X [x] (tA W Wx fl)) (hs : noStar x = true) (hb : attributeBase o nm X.env (eval o X.env) = eval o X.env) (hl : (apos.endLine == cpos.line) = true) :
    PE X (.Call (.Attribute o nm apos) [x] [] cpos) (tE W Wx fun r => M.bind (fo r) fun d => M.bind (M.lift (lstD d)) fun k => M.bind (fl r) fun xs => M.lift (mtD m (.lst k) xs)) := by
  subst hn
  cases m with
  | count => exact r_mtid hK PySem.F.slot_list_count PySem.F.type_list_count (mtCount hK) ho ha hs hb hl
  | index => exact r_mtid hK PySem.F.slot_list_index PySem.F.type_list_index (mtIndex hK) ho ha hs hb hl
end
end Pl

-- part P8b
set_option maxHeartbeats 4000000
/-! The pure layer 8b: expressions do what their trees say. -/
namespace Pl
open PySem PySem.Spec PyProof.Rows L2
/-- what a def that calls what it got makes of a lambda -/
def TTl (W : Wd) (C : Cf) (f : Nat) : (XK → Hp → VK → Prop) → Hp → VK → Prop := fun tl H Q => ∃ g B m, Ok W g B H ∧
  (∀ (E : XK) (g' : Gs) (B' : Bs) (H' : Hp) (Q' : VK), Stp g H g' H' → Ok W g' B' H' → OutR W (fun c d _ H'' => E c d H'') g' H' [] (m B') (okE W g' H' Q') → tl E H' Q') ∧ OutR W Wf g H [] (M.calm (C.lw f m) B) (okE W g H Q)
def HearF (C : Cf) (W : Wd) (X : Cx) (f : Nat) (x : Str) : Prop :=
  ∃ (g : Addr) (a : Str) (pg : Arguments) (bg : List Stmt) (sg : Scope) (dV kV doc pm cdv ct oc : Value) (an od : Option Addr) (osl : Array (Option Value)) (Ng : List Str),
    X.mg x = some (.ref g) ∧ PySem.W.keepIn X.K (.ref g) = true ∧ X.K.lookup g = some ⟨oc, od, .func (PySem.W.fnOf x x pg bg sg dV kV doc pm an cdv ct), osl⟩ ∧ PySem.W.codeIn X.K cdv x = true ∧ L2.Binds X.K (PySem.W.fnOf x x pg bg sg dV kV doc pm an cdv ct) [a] [] ∧ FnScope Ng [a] sg ∧ Ng[0]? = some a ∧ Vis sg a ∧
    (a == ("__debug__" : Str)) = false ∧ (a == ("__classdict__" : Str)) = false ∧ LamX.GivesTo X Ng x sg g cdv bg a (X.env.qual ++ "<lambda>") (TTl W C f)
structure CtxOk (C : Cf) (W : Wd) (k : Nat) (t : Tc) (X : Cx) (Wx : WX) : Prop where
  hK : X.K = W.K
  hN : X.N = t.N
  sc : X.env.scope = t.sc
  nd : X.N.Nodup
  calm : t.calm = true → X.calm = true
  gd : t.rg = true → X.A.guards = some []
  hr : t.calm = true → Room k X.A
  hu : X.A.units + 100 < cLine
  tk : Takes X Wx
  fn : t.top = true → ∀ x, X.fn x = true
  fns : t.calm = true → ∀ (f : Nat) (x : Str) (n : Nat) (b : Bool), t.fns[f]? = some (x, n, b) → X.mg x = some (.ref (W.fa f)) ∧ Callable X.prog X.w X.K X.mg X.base W k (W.fa f) n (C.F f) b
  csts : ∀ p ∈ t.csts, ∃ u v, X.mg p.1 = some u ∧ RelV v u ∧ ∀ g, Rp W g p.2 v
  blts : ∀ x ∈ t.blts, X.mg x = none
  ne : t.calm = true → W.e = none
  xcs : ∀ (c : Nat) (x : Str), t.xcs[c]? = some x → X.mg x = some (.ref (W.ca c))
  xok : ∀ c ∈ t.xmk, XcOk X.prog X.K (W.ca c)
  sup : X.mg "super" = none ∧ (X.prog.main.scope.names.lookup ("super" : Str)).isSome = false
  xsub : ∀ p ∈ t.xsub, PySem.W.exmOne X.K (.ref (W.ca p.1)) (.ref (W.ca p.2)) = some true ∧ ExcC X.K (W.ca p.1) ∧ PySem.W.kitOne X.K (.ref (W.ca p.1)) (.type "ValueError") = some (C.xs p.1 none) ∧ ∀ (c' : Nat) (x : Str), t.xcs[c']? = some x → PySem.W.kitOne X.K (.ref (W.ca p.1)) (.ref (W.ca c')) = some (C.xs p.1 (some c'))
  lam : t.lams = true → Room (k + 2) X.A ∧ ∃ c P, LamX.TabB X.base X.mg c P ∧ X.env.code = .ref c ∧ (P, X.env.qual ++ "<lambda>") ∈ W.T ∧ ∀ p ∈ W.T, p.1 = P → p.2 = X.env.qual ++ "<lambda>"
  hrs : t.lams = true → ∀ (f : Nat) (x : Str), t.hrs[f]? = some x → HearF C W X f x
  flok : (∀ c, C.fl c = W.fl c) ∧ ∀ c, W.fl c ≠ [] → ClsOk X.K W c
  mks : t.calm = true → ∀ m ∈ t.mks, X.mg m.2.1 = some (.ref (W.ca m.1)) ∧ Room (k + 1) X.A ∧ Maker X.prog X.w X.K X.mg X.base W k m.1 m.2.2.1 (C.nw m.1) m.2.2.2
  ise : ∀ (a : Addr) (c : Nat), W.e = some (a, c) → CallR X (.builtin "isinstance") (rIsE X.K (W.ca c) a) ∧ PySem.W.kitOne X.K (.ref (W.ca c)) (.type "ValueError") = some (C.xs c none) ∧ ∀ (c' : Nat) (x : Str), t.xcs[c']? = some x → PySem.W.kitOne X.K (.ref (W.ca c)) (.ref (W.ca c')) = some (C.xs c (some c'))
section
variable {C : Cf} {W : Wd} {k : Nat} {t : Tc} {X : Cx} {Wx : WX}
theorem CtxOk.blk (cx : CtxOk C W k t X Wx) (hne : W.e = none) (s : Shared) (H : Hp) (scope : Scope) (cl : List (Str × Addr)) (A : Addr) (fp : List Addr) : CtxOk C W k (t.blk scope) (X.blk s H scope (compEnvC scope cl A X.env) fp) Wf where
  hK := cx.hK
  hN := cx.hN
  sc := by
    show (compEnvC scope cl A X.env).scope = relS scope t.sc
    rw [← cx.sc]
    rfl
  nd := cx.nd
  calm := cx.calm
  gd := cx.gd
  hr := cx.hr
  hu := cx.hu
  tk := takes0
  fn := fun h => by cases h
  fns := cx.fns
  csts := cx.csts
  blts := cx.blts
  ne := fun _ => hne
  xok := cx.xok
  sup := cx.sup
  xsub := cx.xsub
  xcs := cx.xcs
  lam := fun h => by cases h
  hrs := fun h => by cases h
  flok := cx.flok
  mks := cx.mks
  ise := fun a c h => by rw [hne] at h; cases h
theorem CtxOk.suite (cx : CtxOk C W k t X Wx) {a : Addr} {oe : Obj} {c cb : Nat} {pn : List (Addr × Obj)} (hc : (c, cb) ∈ t.xsub) (hz : Zc (.ref (W.ca c)) none oe) (hd : ∃ vs, oe.data = .fields vs) : CtxOk C (W.err (some (a, c)) W.l) k t.suite (X.suite a ((a, oe) :: pn)) Wf where
  hK := cx.hK
  hN := cx.hN
  sc := cx.sc
  nd := cx.nd
  calm := fun h => by cases h
  gd := cx.gd
  hr := fun h => by cases h
  hu := cx.hu
  tk := takes0
  fn := cx.fn
  fns := fun h => by cases h
  csts := fun p hp => by
    obtain ⟨u, v, h1, h2, h3⟩ := cx.csts p hp
    exact ⟨u, v, h1, h2, fun g => (Rp.err _ _).mpr (h3 g)⟩
  blts := cx.blts
  ne := fun h => by cases h
  xcs := cx.xcs
  xok := cx.xok
  sup := cx.sup
  xsub := cx.xsub
  lam := fun h => by cases h
  hrs := fun h => by cases h
  flok := ⟨cx.flok.1, fun c h => ⟨(cx.flok.2 c h).cls, (cx.flok.2 c h).no, (cx.flok.2 c h).nd, (cx.flok.2 c h).few⟩⟩
  mks := fun h => by cases h
  ise := fun a' c' h => by
    cases h
    obtain ⟨_, h2, h3, h4⟩ := cx.xsub _ hc
    exact ⟨call_isE h2 hz hd, h3, h4⟩
theorem CtxOk.name (cx : CtxOk C W k t X Wx) {x : Str} {i : Nat} {pos : Pos} (h : okName t x i = true) : PE X (.Name x pos) (tVar i) := by
  simp only [okName, Bool.and_eq_true, Bool.not_eq_true', decide_eq_true_eq] at h
  obtain ⟨⟨⟨h1, h2⟩, h3⟩, h4⟩ := h
  exact pe_var (by rw [cx.hN]; exact h1) (by rw [cx.sc]; exact kindV_ok h2) h3 h4
theorem CtxOk.glob (cx : CtxOk C W k t X Wx) {x : Str} (h : okGlob t x = true) : Gl X x ∧ (x == ("__debug__" : Str)) = false ∧ x ≠ "__name__" := by
  simp only [okGlob, Bool.and_eq_true, Bool.not_eq_true', decide_eq_true_eq] at h
  obtain ⟨⟨h1, h2⟩, h3⟩ := h
  refine ⟨?_, h2, h3⟩
  show X.env.scope.names.lookup x = _
  rw [cx.sc]
  exact h1
theorem CtxOk.blt (cx : CtxOk C W k t X Wx) {x : Str} (h : isBlt t x = true) : X.mg x = none := by
  obtain ⟨y, h1, h2⟩ := List.any_eq_true.mp h
  rw [← of_decide_eq_true h2]
  exact cx.blts y h1
theorem ty_boot : ∀ n ∈ tyNms, bootBuiltins (Str.ofString n) = some (.type n) := by
  intro n h
  simp only [tyNms, List.mem_cons, List.not_mem_nil, or_false] at h
  rcases h with rfl | rfl | rfl | rfl | rfl | rfl
  · decide +kernel
  · decide +kernel
  · decide +kernel
  · decide +kernel
  · decide +kernel
  · decide +kernel
theorem s_c (cx : CtxOk C W k t X Wx) {d : D} {e : Expr} (h : chkC t d e = true) : PE X e (tE W Wx fun _ => M.ret d) := by
  have glob : ∀ (x : Str) (p : Pos), (okGlob t x && t.csts.any fun p => decide (p.1 = x) && eqC p.2 d) = true → PE X (.Name x p) (tE W Wx fun _ => M.ret d) := fun x p h => by
    rw [Bool.and_eq_true] at h
    obtain ⟨h1, h2⟩ := h
    obtain ⟨⟨y, d'⟩, h3, h4⟩ := List.any_eq_true.mp h2
    rw [Bool.and_eq_true] at h4
    have e1 : y = x := of_decide_eq_true h4.1
    have e2 : d' = d := eqC_ok h4.2
    subst e1 e2
    obtain ⟨u, v, q1, q2, q3⟩ := cx.csts _ h3
    obtain ⟨g1, g2, g3⟩ := cx.glob h1
    exact r_const (pe_glob g1 q1 q2 g2) q3
  cases e with
  | Constant c j p =>
    cases c with
    | int i =>
      have h : eqC d (.int i) = true := by cases d <;> first | exact h | cases h
      rw [eqC_ok h]
      exact r_const pe_int fun _ => rfl
    | bool i =>
      have h : eqC d (.bl i) = true := by cases d <;> first | exact h | cases h
      rw [eqC_ok h]
      exact r_const pe_bl fun _ => rfl
    | str i =>
      have h : eqC d (.str i) = true := by cases d <;> first | exact h | cases h
      rw [eqC_ok h]
      exact r_const pe_str fun _ => rfl
    | none =>
      have h : eqC d .non = true := by cases d <;> first | exact h | cases h
      rw [eqC_ok h]
      exact r_const pe_non fun _ => rfl
    | _ => cases d <;> cases h
  | Name x p =>
    cases d with
    | ty n =>
      have h : (decide (x = Str.ofString n) && tyNms.contains n && isBlt t x && okGlob t x) = true := h
      simp only [Bool.and_eq_true] at h
      obtain ⟨⟨⟨h1, h2⟩, h3⟩, h4⟩ := h
      have h1 := of_decide_eq_true h1
      subst h1
      obtain ⟨g1, g2, g3⟩ := cx.glob h4
      exact r_const (v := .ty n) (pe_bltn g1 (cx.blt h3) (ty_boot n (List.contains_iff_mem.mp h2)) rfl g3 g2) fun _ => rfl
    | _ => exact glob x p h
  | _ => cases d <;> cases h
theorem s_bi (cx : CtxOk C W k t X Wx) {b : Bi} {x : Str} {p pos : Pos} {e : Expr} {es : List Expr} {fl : Rho → M (List D)} (hcm : t.calm = true) (hb : b ≠ .bool) (hrg : b = .repr → t.rg = true) (hx : x = Str.ofString (biNm b)) (hg : okGlob t x = true) (ht : isBlt t x = true) (hs : (e :: es).all noStar = true) (hl : PA X (e :: es) (tA W Wx fl)) :
    PE X (.Call (.Name x p) (e :: es) [] pos) (tE W Wx fun r => M.bind (fl r) fun xs => M.lift (biD b xs)) := by
  obtain ⟨g1, g2, g3⟩ := cx.glob hg
  rw [List.all_cons, Bool.and_eq_true] at hs
  have hK := cx.hK
  have hc := cx.calm hcm
  have s1 : starEach (e :: es) X.env = (false, eval e X.env) :: starEach es X.env := star_ok hs.1
  have s2 : (backTo pos (starEach es X.env)).any (·.1) = false := star_any hs.2
  subst hx
  cases b with
  | len => exact r_bi (biLen hK) g1 (cx.blt ht) PySem.boot_len hl g3 g2 s1 s2
  | abs => exact r_bi biAbs g1 (cx.blt ht) (by decide +kernel) hl g3 g2 s1 s2
  | int => exact r_biT biInt g1 (cx.blt ht) (by decide +kernel) hl g3 g2 s1 s2
  | max2 => exact r_bi (biMax2 hc) g1 (cx.blt ht) (by decide +kernel) hl g3 g2 s1 s2
  | min2 => exact r_bi (biMin2 hc) g1 (cx.blt ht) (by decide +kernel) hl g3 g2 s1 s2
  | tuple => exact r_biT (biTuple hK) g1 (cx.blt ht) (by decide +kernel) hl g3 g2 s1 s2
  | list => exact r_biT (biList hK) g1 (cx.blt ht) (by decide +kernel) hl g3 g2 s1 s2
  | all => exact r_bi (biAll hc) g1 (cx.blt ht) (by decide +kernel) hl g3 g2 s1 s2
  | any => exact r_bi (biAny hc) g1 (cx.blt ht) (by decide +kernel) hl g3 g2 s1 s2
  | sum => exact r_bi (biSum hc) g1 (cx.blt ht) (by decide +kernel) hl g3 g2 s1 s2
  | isi => exact r_bi (biIsi hK) g1 (cx.blt ht) (by decide +kernel) hl g3 g2 s1 s2
  | repr => exact r_bi (biRepr hK (cx.gd (hrg rfl)) cx.hu) g1 (cx.blt ht) (by decide +kernel) hl g3 g2 s1 s2
  | maxl => exact r_bi (biMaxl hc) g1 (cx.blt ht) (by decide +kernel) hl g3 g2 s1 s2
  | minl => exact r_bi (biMinl hc) g1 (cx.blt ht) (by decide +kernel) hl g3 g2 s1 s2
  | bool => exact absurd rfl hb
theorem getEr_some {r : Rho} {i c : Nat} (h : getEr r i = some c) : r[i]? = some (.er c) := by
  unfold getEr at h
  split at h
  · next l' e => cases h; exact e
  · cases h
theorem s_ise (cx : CtxOk C W k t X Wx) {s : Nat} {c : Option Nat} {e : Expr} (h : (match e with
    | .Call (.Name x _) [.Name y _, .Name z _] [] _ => decide (x = "isinstance") && okGlob t x && isBlt t x && okName t y s && okGlob t z && (match c with
      | none => decide (z = "ValueError") && isBlt t z
      | some c => decide (t.xcs[c]? = some z))
    | _ => false) = true) : PE X e (tE W Wx fun r => M.bind (M.lift (getEr r s)) fun c0 => M.ret (.bl (C.xs c0 c))) := by
  split at h
  · rename_i x p y p2 z p3 pos
    simp only [Bool.and_eq_true, decide_eq_true_eq] at h
    obtain ⟨⟨⟨⟨⟨rfl, h1⟩, h2⟩, h3⟩, h4⟩, h5⟩ := h
    obtain ⟨g1, g2, g3⟩ := cx.glob h1
    obtain ⟨z1, z2, z3⟩ := cx.glob h4
    cases he : W.e with
    | none =>
      refine ⟨fun pins s' σ H Q I ⟨r, g, B, ok, er, out⟩ => ?_⟩
      obtain ⟨c0, hc, q⟩ := OutR.lift (OutR.bind out)
      obtain ⟨a, e1, _⟩ := er.sl _ _ (getEr_some hc)
      rw [he] at e1
      cases e1
    | some w =>
      obtain ⟨a, c1⟩ := w
      obtain ⟨i1, i2, i3⟩ := cx.ise a c1 he
      -- the second argument as a value
      obtain ⟨cv, v, hz, rv, uq, hk⟩ : ∃ (cv : Value) (v : V), PE X (.Name z p3) (tC v) ∧ RelV v cv ∧ (∀ u, RelV v u → u = cv) ∧ PySem.W.kitOne X.K (.ref (W.ca c1)) cv = some (C.xs c1 c) := by
        cases c with
        | none =>
          simp only [Bool.and_eq_true, decide_eq_true_eq] at h5
          obtain ⟨rfl, h6⟩ := h5
          exact ⟨.type "ValueError", .ty "ValueError", pe_bltn z1 (cx.blt h6) (by decide +kernel) rfl z3 z2, rfl, fun u hu => hu, i2⟩
        | some c' =>
          have h5 := of_decide_eq_true h5
          exact ⟨.ref (W.ca c'), .ref (W.ca c'), pe_glob z1 (cx.xcs c' z h5) rfl z2, rfl, fun u hu => hu, i3 c' z h5⟩
      refine (pe_callB i1 g1 (cx.blt h2) (by decide +kernel) (pa_cons (cx.name h3) (pa_cons hz pa_nil rfl) rfl) g3 g2 rfl rfl).imp fun σ H Q ⟨r, g, B, ok, er, out⟩ => ?_
      obtain ⟨c0, hc, q⟩ := OutR.lift (OutR.bind out)
      obtain ⟨a', e1, e2⟩ := er.sl _ _ (getEr_some hc)
      rw [he] at e1
      cases e1
      exact ⟨_, e2, v, cv, C.xs c1 c, rfl, uq, hk, okE.now (W := W) (d := .bl (C.xs c1 c)) q (Stp.refl ok) ok rfl⟩
  · cases h
/-- all of a list -/
def AllE (C : Cf) (W : Wd) (X : Cx) (Wx : WX) : List Pe → List Expr → Prop
  | [], es => es = []
  | p :: l, es => ∃ e es', es = e :: es' ∧ PE X e (tE W Wx (ev C p)) ∧ AllE C W X Wx l es'
def AllT (C : Cf) (W : Wd) (X : Cx) (Wx : WX) : List Pe → List Expr → Prop
  | [], es => es = []
  | p :: l, es => ∃ e es', es = e :: es' ∧ PT X e (tT W Wx (evT C p)) ∧ AllT C W X Wx l es'
theorem AllE.len : ∀ {l : List Pe} {es : List Expr}, AllE C W X Wx l es → es.length = l.length
  | [], es, h => by
    have h : es = [] := h
    subst h
    rfl
  | p :: l, _, ⟨e, es', rfl, _, h⟩ => by rw [List.length_cons, List.length_cons, AllE.len h]
theorem AllE.pa : ∀ {l : List Pe} {es : List Expr}, AllE C W X Wx l es → es.all noStar = true → PA X es (tA W Wx (evs C l))
  | [], es, h, _ => by
    have h : es = [] := h
    subst h
    exact ra_nil
  | p :: l, _, ⟨e, es', rfl, h1, h⟩, hs => by
    rw [List.all_cons, Bool.and_eq_true] at hs
    exact ra_cons h1 (AllE.pa h hs.2) (star_ok hs.1)
theorem evs_len : ∀ (l : List Pe) (r : Rho) (B : Bs) (ds : List D) (B' : Bs), evs C l r B = .ok ds B' → ds.length = l.length
  | [], r, B, ds, B', h => by
    obtain ⟨rfl, _⟩ := ret_ok h
    rfl
  | p :: l, r, B, ds, B', h => by
    obtain ⟨x, B1, h1, h2⟩ := bind_ok h
    obtain ⟨xs, B2, h3, h4⟩ := bind_ok h2
    obtain ⟨rfl, _⟩ := ret_ok h4
    rw [List.length_cons, List.length_cons, evs_len l r B1 xs B2 h3]
theorem AllE.and {pos : Pos} : ∀ {l : List Pe} {es : List Expr}, X.K = W.K → AllE C W X Wx l es → PE X (.BoolOp .And es pos) (tE W Wx (evAn C l))
  | [], es, hK, h => ⟨fun pins s σ H Q I ⟨r, g, B, ok, er, out⟩ => out.elim⟩
  | [p], _, hK, ⟨e, es', rfl, h1, h⟩ => by
    have h : es' = [] := h
    subst h
    exact pe_one h1
  | p :: q :: l, _, hK, ⟨e, _, rfl, h1, ⟨e2, es2, rfl, h2, h3⟩⟩ => r_and hK h1 (AllE.and hK ⟨e2, es2, rfl, h2, h3⟩)
theorem AllE.or {pos : Pos} : ∀ {l : List Pe} {es : List Expr}, X.K = W.K → AllE C W X Wx l es → PE X (.BoolOp .Or es pos) (tE W Wx (evOr C l))
  | [], es, hK, h => ⟨fun pins s σ H Q I ⟨r, g, B, ok, er, out⟩ => out.elim⟩
  | [p], _, hK, ⟨e, es', rfl, h1, h⟩ => by
    have h : es' = [] := h
    subst h
    exact pe_one h1
  | p :: q :: l, _, hK, ⟨e, _, rfl, h1, ⟨e2, es2, rfl, h2, h3⟩⟩ => r_or hK h1 (AllE.or hK ⟨e2, es2, rfl, h2, h3⟩)
theorem AllT.and {pos : Pos} : ∀ {l : List Pe} {es : List Expr}, AllT C W X Wx l es → PW X (.BoolOp .And es pos) (tT W Wx (evTan C l))
  | [], es, h => ⟨fun wh pins s σ H Q I ⟨r, g, B, ok, er, out⟩ => out.elim⟩
  | [p], _, ⟨e, es', rfl, h1, h⟩ => by
    have h : es' = [] := h
    subst h
    exact pw_and1 h1
  | p :: q :: l, _, ⟨e, _, rfl, h1, ⟨e2, es2, rfl, h2, h3⟩⟩ => rt_and h1 (AllT.and ⟨e2, es2, rfl, h2, h3⟩)
theorem AllT.or {pos : Pos} : ∀ {l : List Pe} {es : List Expr}, AllT C W X Wx l es → PW X (.BoolOp .Or es pos) (tT W Wx (evTor C l))
  | [], es, h => ⟨fun wh pins s σ H Q I ⟨r, g, B, ok, er, out⟩ => out.elim⟩
  | [p], _, ⟨e, es', rfl, h1, h⟩ => by
    have h : es' = [] := h
    subst h
    exact pw_or1 h1
  | p :: q :: l, _, ⟨e, _, rfl, h1, ⟨e2, es2, rfl, h2, h3⟩⟩ => rt_or h1 (AllT.or ⟨e2, es2, rfl, h2, h3⟩)
/-! targets -/
theorem tgt_ok (cx : CtxOk C W k t X Wx) {x : Str} {i : Nat} (h : okTgt t x i = true) : X.N[i]? = some x ∧ L2.Loc X.env.scope x ∧ (X.fn x = true ∨ X.env.scope.names.lookup x = some .local) := by
  simp only [okTgt, Bool.and_eq_true, decide_eq_true_eq] at h
  obtain ⟨h1, h2⟩ := h
  refine ⟨by rw [cx.hN]; exact h1, ?_⟩
  unfold L2.Loc
  rw [cx.sc]
  cases e : t.sc.names.lookup x with
  | none => rw [e] at h2; cases h2
  | some kd => cases kd with
    | «local» => exact ⟨.inl rfl, .inr rfl⟩
    | cell =>
      rw [e] at h2
      exact ⟨.inr rfl, .inl (cx.fn h2 x)⟩
    | _ => rw [e] at h2; cases h2
mutual
theorem sG (cx : CtxOk C W k t X Wx) : ∀ (g : Pg) (e : Expr), chkG t g e = true → PG X e (gR W g)
  | .s i, e, h => by
    cases e with
    | Name x p =>
      obtain ⟨h1, h2, h3⟩ := tgt_ok cx (show okTgt t x i = true from h)
      exact rg_name cx.nd h1 h2 h3
    | _ => cases h
  | .t l, e, h => by
    cases e with
    | Tuple es kk p =>
      have h : (t.calm && es.all noStar && chkGs t l es) = true := h
      rw [Bool.and_eq_true, Bool.and_eq_true] at h
      obtain ⟨⟨hcm, h0⟩, h⟩ := h
      have h : es.all noStar = true ∧ chkGs t l es = true := ⟨h0, h⟩
      obtain ⟨h1, h2⟩ := sGs cx l es h.2 h.1
      obtain ⟨a1, a2⟩ := assign_any (env := X.env) h.1
      exact rg_tup cx.hK (cx.calm hcm) h1 (by rw [a1, h2]) a2
    | _ => cases h
theorem sGs (cx : CtxOk C W k t X Wx) : ∀ (l : List Pg) (es : List Expr), chkGs t l es = true → es.all noStar = true → PGs X es (gRs W l) ∧ es.length = l.length
  | [], es, h, _ => by
    cases es with
    | nil => exact ⟨rgs_nil, rfl⟩
    | cons _ _ => cases h
  | g :: gs, es, h, hs => by
    cases es with
    | nil => cases h
    | cons e es =>
      have h : (chkG t g e && chkGs t gs es) = true := h
      rw [Bool.and_eq_true] at h
      rw [List.all_cons, Bool.and_eq_true] at hs
      obtain ⟨h1, h2⟩ := sGs cx gs es h.2 hs.2
      exact ⟨rgs_cons (sG cx g e h.1) h1 (by rw [assign_ok hs.1]; rfl), by rw [List.length_cons, List.length_cons, h2]⟩
end
/-! what is walked -/
theorem AllE.one {l : List Pe} {e : Expr} (h : AllE C W X Wx l [e]) : ∃ p, l = [p] ∧ PE X e (tE W Wx (ev C p)) := by
  match l, h with
  | [], h => cases (show [e] = [] from h)
  | p :: l, ⟨e', es', e1, h2, h3⟩ =>
    cases e1
    cases l with
    | nil => exact ⟨p, rfl, h2⟩
    | cons q l =>
      obtain ⟨_, _, e2, _⟩ := h3
      cases e2
theorem blt_name (cx : CtxOk C W k t X Wx) {s : Str} {x : Str} (h : (decide (x = s) && okGlob t x && isBlt t x) = true) : x = s ∧ Gl X s ∧ X.mg s = none := by
  simp only [Bool.and_eq_true, decide_eq_true_eq] at h
  obtain ⟨⟨rfl, h2⟩, h3⟩ := h
  exact ⟨rfl, (cx.glob h2).1, cx.blt h3⟩
theorem s_it (cx : CtxOk C W k t X Wx) {ik : Ik} {tg iter : Expr} {es : List Expr} {l : List Pe} (h : itArgs t ik tg iter = some es) (hl : AllE C W X Wx l es) :
    PI X tg iter (iR W Wx fun r => M.bind (evs C l r) fun xs => M.lift (itD ik xs)) ∧ noSet iter = true := by
  unfold itArgs at h
  split at h
  · rename_i e
    obtain ⟨h1, rfl⟩ := ite_some h
    obtain ⟨p, rfl, h2⟩ := hl.one
    exact ⟨ri_seq cx.hK h2, h1⟩
  · rename_i x p a pos
    obtain ⟨h1, rfl⟩ := ite_some h
    rw [Bool.and_eq_true] at h1
    obtain ⟨rfl, g1, g2⟩ := blt_name cx h1.1
    exact ⟨ri_rng g1 g2 (hl.pa (by simp [h1.2])) (star_ok h1.2), rfl⟩
  · rename_i x p a b pos
    obtain ⟨h1, rfl⟩ := ite_some h
    rw [Bool.and_eq_true, Bool.and_eq_true] at h1
    obtain ⟨rfl, g1, g2⟩ := blt_name cx h1.1.1
    exact ⟨ri_rng2 g1 g2 (hl.pa (by simp [h1.2, h1.1.2])) (by rw [star_ok h1.1.2, star_ok h1.2]; rfl) (star_ok h1.2), rfl⟩
  · rename_i x p a pos
    obtain ⟨h1, rfl⟩ := ite_some h
    rw [Bool.and_eq_true] at h1
    obtain ⟨rfl, g1, g2⟩ := blt_name cx h1.1
    exact ⟨ri_enum cx.hK g1 g2 (hl.pa (by simp [h1.2])) (star_ok h1.2), rfl⟩
  · rename_i x p a b pos
    obtain ⟨h1, rfl⟩ := ite_some h
    rw [Bool.and_eq_true, Bool.and_eq_true] at h1
    obtain ⟨rfl, g1, g2⟩ := blt_name cx h1.1.1
    exact ⟨ri_zip cx.hK g1 g2 (hl.pa (by simp [h1.2, h1.1.2])) (star_ok h1.1.2) (star_any (by simp [h1.2])), rfl⟩
  · cases h
end
end Pl

-- part P8c
set_option maxHeartbeats 4000000
/-! The pure layer 8c: the soundness of expressions. -/
namespace Pl
open PySem PySem.Spec PyProof.Rows L2
section
variable {C : Cf} {W : Wd} {k : Nat}
theorem chkBlk_ok {t : Tc} {X : Cx} {Wx : WX} (cx : CtxOk C W k t X Wx) {w : List Nat} {scope : Scope} (h : chkBlk t w scope = true) : BlkOk X.N X.env.scope scope (ownOf t w) ∧ (ownOf t w).map (·.2) = w := by
  unfold chkBlk at h
  rw [Bool.and_eq_true, decide_eq_true_eq] at h
  exact ⟨blkOk_by (by rw [cx.hN, cx.sc]; exact h.2), h.1⟩
theorem all_mem {a w : List Nat} (h : a.all (fun i => w.contains i) = true) : ∀ j ∈ a, j ∈ w := fun j hj => List.contains_iff_mem.mp (List.all_eq_true.mp h j hj)
theorem s_lcF {t : Tc} {X : Cx} {Wx : WX} {elt tg iter : Expr} {ifs es : List Expr} {scope : Scope} {pos : Pos} {g : Pg} {ik : Ik} {l ts : List Pe} {el : Pe} {w : List Nat} (cx : CtxOk C W k t X Wx) (hcm : t.calm = true) (hb : chkBlk t w scope = true) (hsub : (gsl g).all (fun i => w.contains i) = true) (hG : chkG (t.blk scope) g tg = true)
    (hit : itArgs t ik tg iter = some es) (hl : AllE C W X Wx l es) (ht : ∀ X' : Cx, CtxOk C W k (t.blk scope) X' Wf → PTs X' ifs (tT W Wf (evTs C ts))) (he : ∀ X' : Cx, CtxOk C W k (t.blk scope) X' Wf → PE X' elt (tE W Wf (ev C el))) :
    PE X (.ListComp elt [⟨tg, iter, ifs, 0⟩] scope pos) (tF W Wx (evF C (.lc g ik l ts el w))) := by
  obtain ⟨b1, b2⟩ := chkBlk_ok cx hb
  obtain ⟨i1, i2⟩ := s_it cx hit hl
  have := rf_lc (pos := pos) (cx.calm hcm) cx.nd i1 b1 b2 (all_mem hsub) (fun s H A cl fp => sG (cx.blk (cx.ne hcm) s H scope cl A fp) g tg hG) (fun s H A cl fp => ht _ (cx.blk (cx.ne hcm) s H scope cl A fp)) (fun s H A cl fp => he _ (cx.blk (cx.ne hcm) s H scope cl A fp)) (noSet_ok i2)
  simp only [M.bind_assoc] at this
  exact this
theorem s_lc2F {t : Tc} {X : Cx} {Wx : WX} {elt tg iter tg2 iter2 : Expr} {ifs es es2 : List Expr} {scope : Scope} {pos : Pos} {g g2 : Pg} {ik ik2 : Ik} {l l2 ts : List Pe} {el : Pe} {w : List Nat} (cx : CtxOk C W k t X Wx) (hcm : t.calm = true) (hb : chkBlk t w scope = true) (hsub : (gsl g).all (fun i => w.contains i) = true) (hsub2 : (gsl g2).all (fun i => w.contains i) = true)
    (hG : chkG (t.blk scope) g tg = true) (hG2 : chkG (t.blk scope) g2 tg2 = true) (hit : itArgs t ik tg iter = some es) (hl : AllE C W X Wx l es) (hit2 : itArgs (t.blk scope) ik2 tg2 iter2 = some es2) (hl2 : ∀ X' : Cx, CtxOk C W k (t.blk scope) X' Wf → AllE C W X' Wf l2 es2)
    (ht : ∀ X' : Cx, CtxOk C W k (t.blk scope) X' Wf → PTs X' ifs (tT W Wf (evTs C ts))) (he : ∀ X' : Cx, CtxOk C W k (t.blk scope) X' Wf → PE X' elt (tE W Wf (ev C el))) :
    PE X (.ListComp elt [⟨tg, iter, [], 0⟩, ⟨tg2, iter2, ifs, 0⟩] scope pos) (tF W Wx (evF C (.lc2 g ik l g2 ik2 l2 ts el w))) := by
  obtain ⟨b1, b2⟩ := chkBlk_ok cx hb
  obtain ⟨i1, i2⟩ := s_it cx hit hl
  have i3 : noSet iter2 = true := by
    unfold itArgs at hit2
    split at hit2
    · exact (ite_some hit2).1
    all_goals first | rfl | cases hit2
  have := rf_lc2 (pos := pos) (cx.calm hcm) cx.nd i1 b1 b2 (all_mem hsub) (all_mem hsub2) (fun s H A cl fp => sG (cx.blk (cx.ne hcm) s H scope cl A fp) g tg hG) (fun s H A cl fp => (s_it (cx.blk (cx.ne hcm) s H scope cl A fp) hit2 (hl2 _ (cx.blk (cx.ne hcm) s H scope cl A fp))).1) (fun s H A cl fp => sG (cx.blk (cx.ne hcm) s H scope cl A fp) g2 tg2 hG2)
    (fun s H A cl fp => ht _ (cx.blk (cx.ne hcm) s H scope cl A fp)) (fun s H A cl fp => he _ (cx.blk (cx.ne hcm) s H scope cl A fp)) (noSet_ok i2) (fun _ => noSet_ok i3)
  unfold turn2M at this
  simp only [M.bind_assoc] at this
  exact this
theorem pts_ret {X : Cx} {Wx : WX} : PTs X [] (tT W Wx fun _ => M.ret true) := ⟨fun pins s σ H Q I ⟨r, g, B, ok, er, out⟩ => pts_nil.run pins s σ H Q I ((show okT W g H Q true B from out) g H (Stp.refl ok) ok)⟩
theorem isNeg1_ok {e : Expr} (h : isNeg1 e = true) : ∃ kk p1 p2, e = .UnaryOp .USub (.Constant (.int 1) kk p1) p2 := by
  unfold isNeg1 at h
  split at h
  · exact ⟨_, _, _, rfl⟩
  · cases h
/-- the context of a lambda's body -/
theorem CtxOk.lamb {t : Tc} {X : Cx} {Wx : WX} {scope : Scope} (cx : CtxOk C W k t X Wx) (hne : W.e = none) (A : Around) (outer : List Env) (s : Shared) (H : Hp) (E : XK) (f c' : Addr) (hr : Room k (A.deeper (LamX.lamEnv X scope s.heap.objs.size f c'))) :
    CtxOk C W k (t.lamb scope) (LamX.lamCx X A outer s H E scope f c') (fun c d _ H' => E c d H') where
  hK := cx.hK
  hN := cx.hN
  sc := rfl
  nd := cx.nd
  calm := fun _ => rfl
  gd := fun h => by cases h
  hr := fun _ => hr
  hu := by
    have h1 := hr.un
    have h2 : (A.deeper (LamX.lamEnv X scope s.heap.objs.size f c')).units + 100 < cLine := by omega
    exact h2
  tk := takes_of rfl rfl rfl rfl
  fn := fun h => by cases h
  fns := cx.fns
  csts := cx.csts
  blts := cx.blts
  ne := fun _ => hne
  xcs := cx.xcs
  xok := cx.xok
  sup := cx.sup
  xsub := cx.xsub
  lam := fun h => by cases h
  hrs := fun h => by cases h
  flok := cx.flok
  mks := fun _ m hm => by cases hm
  ise := fun a c h => by rw [hne] at h; cases h
theorem s_lamc {t : Tc} {X : Cx} {Wx : WX} {f : Nat} {x : Str} {p lpos pos : Pos} {body : Expr} {scope : Scope} {fe : Rho → M D} (cx : CtxOk C W k t X Wx) (hl : t.lams = true) (hne : W.e = none) (h1 : t.hrs[f]? = some x) (g1 : Gl X x) (g2 : (x == ("__debug__" : Str)) = false) (L : LamX.LamS X.env.scope scope)
    (hb : ∀ (X' : Cx) (E : XK), CtxOk C W k (t.lamb scope) X' (fun c d _ H' => E c d H') → PE X' body (tE W (fun c d _ H' => E c d H') fe)) :
    PE X (.Call (.Name x p) [.Lambda ⟨[], [], none, [], [], none, []⟩ body scope lpos] [] pos) (tE W Wx fun r => M.calm (C.lw f (fe r))) := by
  obtain ⟨hr, c, P, TB, hcode, hmT, hu⟩ := cx.lam hl
  obtain ⟨g, a, pg, bg, sg, dV, kV, doc, pm, cdv, ct, oc, an, od, osl, Ng, q1, q2, q3, q4, q5, q6, q7, q8, q9, q10, q11⟩ := cx.hrs hl f x h1
  have key := LamX.pe_lamcall (X := X) (T := W.T) (k := k) (t := fun E => tE W (fun c d _ H' => E c d H') fe) (params := ⟨[], [], none, [], [], none, []⟩) (p := p) (lpos := lpos) (pos := pos) g1 q1 q2 q3 q4 q5 q6 q7 q8 q11 TB hcode hmT hu hr L rfl (fun _ _ _ _ _ => rfl)
    (fun A outer s H E f c' hr' => hb _ E (cx.lamb hne A outer s H E f c' hr')) g2 q9 q10
  refine key.imp fun σ H Q ⟨r, g, B, ok, er, out⟩ => ⟨ok.tab, fun H1 eN T1 => ?_⟩
  have ok1 : Ok W g B H1 := ⟨fun a o h => eN a o (ok.ice a o h) (fun ps z => ok.kin a ps (by rw [← z]; exact h)), ok.kin, ok.len, ok.nd, fun i a ds h1 h2 => by
    obtain ⟨z1, xs, z2, z3⟩ := ok.bag i a ds h1 h2
    exact ⟨z1, xs, eN _ _ z2 nt_lst, z3⟩, T1⟩
  have st : Stp g H g H1 := ⟨Grow.refl g, fun _ _ _ _ => rfl, fun _ h n => absurd h n, fun a o h _ k => eN a o h k, fun a h => by
    obtain ⟨_, xs, e⟩ := ok.bagAt h
    exact ⟨xs, eN _ _ e nt_lst⟩, rfl⟩
  refine ⟨g, B, fe r, ok1, fun E g' B' H' Q' s' o' h' => ⟨r, g', B', o', (er.up st).up s', h'.wx fun _ _ _ z => z⟩, ?_⟩
  obtain ⟨d, B2, e, q⟩ := calm_ok out
  have : M.calm (C.lw f (fe r)) B = .ok d B2 := by unfold M.calm; rw [e]
  exact outOk this (q.up st)
mutual
theorem sE : ∀ (p : Pe) (t : Tc) (X : Cx) (Wx : WX) (e : Expr), CtxOk C W k t X Wx → chkE t p e = true → PE X e (tE W Wx (ev C p))
  | .c d, t, X, Wx, e, cx, h => s_c cx (by unfold chkE at h; exact h)
  | .v i, t, X, Wx, e, cx, h => by
    unfold chkE at h
    split at h
    · exact r_var (cx.name h)
    · cases h
  | .bin o a b, t, X, Wx, e, cx, h => by
    unfold chkE at h
    split at h
    · simp only [Bool.and_eq_true] at h
      rw [bopIs_ok h.1.1]
      exact r_bin cx.hK (sE a t X Wx _ cx h.1.2) (sE b t X Wx _ cx h.2)
    · cases h
  | .neg a, t, X, Wx, e, cx, h => by
    unfold chkE at h
    split at h
    · exact r_neg (sE a t X Wx _ cx h)
    · cases h
  | .nt a, t, X, Wx, e, cx, h => by
    unfold chkE at h
    split at h
    · exact r_nt cx.hK (sE a t X Wx _ cx h)
    · cases h
  | .an l, t, X, Wx, e, cx, h => by
    unfold chkE at h
    split at h
    · exact AllE.and cx.hK (sEs l t X Wx _ cx h)
    · cases h
  | .or l, t, X, Wx, e, cx, h => by
    unfold chkE at h
    split at h
    · exact AllE.or cx.hK (sEs l t X Wx _ cx h)
    · cases h
  | .cmp o a b, t, X, Wx, e, cx, h => by
    unfold chkE at h
    split at h
    · simp only [Bool.and_eq_true, Bool.not_eq_true'] at h
      rw [copIs_ok h.1.1.1]
      exact r_cmp cx.hK (by have := cx.hu; omega) (sE a t X Wx _ cx h.1.2) (sE b t X Wx _ cx h.2) (by rw [← copIs_ok h.1.1.1]; exact h.1.1.2)
    · cases h
  | .ch o p a b c, t, X, Wx, e, cx, h => by
    unfold chkE at h
    split at h
    · simp only [Bool.and_eq_true, Bool.not_eq_true'] at h
      obtain ⟨⟨⟨⟨⟨h1, h2⟩, h3⟩, h4⟩, h5⟩, h6⟩ := h
      have e1 := copIs_ok h1
      have e2 := copIs_ok h2
      subst e1 e2
      exact r_ch cx.hK (by have := cx.hu; omega) (sE a t X Wx _ cx h4) (sE b t X Wx _ cx h5) (sE c t X Wx _ cx h6) h3
    · cases h
  | .ite c a b, t, X, Wx, e, cx, h => by
    unfold chkE at h
    split at h
    · simp only [Bool.and_eq_true] at h
      exact r_ite (sT c t X Wx _ cx h.1.1) (sE a t X Wx _ cx h.1.2) (sE b t X Wx _ cx h.2)
    · cases h
  | .tup l, t, X, Wx, e, cx, h => by
    unfold chkE at h
    split at h
    · simp only [Bool.and_eq_true] at h
      exact r_tup ((sEs l t X Wx _ cx h.2).pa h.1)
    · cases h
  | .lst l, t, X, Wx, e, cx, h => by
    unfold chkE at h
    split at h
    · simp only [Bool.and_eq_true] at h
      exact r_frz (rf_lst ((sEs l t X Wx _ cx h.2).pa h.1))
    · cases h
  | .dc, t, X, Wx, e, cx, h => by
    unfold chkE at h
    split at h
    · exact r_dc
    · cases h
  | .ix a i, t, X, Wx, e, cx, h => by
    unfold chkE at h
    split at h
    · simp only [Bool.and_eq_true] at h
      exact r_ix cx.hK (sE a t X Wx _ cx h.1.2) (sE i t X Wx _ cx h.2) (plainI_ok h.1.1)
    · cases h
  | .ixo s i, t, X, Wx, e, cx, h => by
    unfold chkE at h
    split at h
    · simp only [Bool.and_eq_true] at h
      exact r_ixo (cx.name h.1.2) (sE i t X Wx _ cx h.2) (plainI_ok h.1.1)
    · cases h
  | .sl a lo hi, t, X, Wx, e, cx, h => by
    unfold chkE at h
    split at h
    · simp only [Bool.and_eq_true] at h
      exact r_sl cx.hK (sE a t X Wx _ cx h.1.1) (sO lo t X Wx _ cx h.1.2) (sO hi t X Wx _ cx h.2)
    · cases h
  | .rv a, t, X, Wx, e, cx, h => by
    unfold chkE at h
    split at h
    · simp only [Bool.and_eq_true] at h
      obtain ⟨kk, p1, p2, rfl⟩ := isNeg1_ok h.1
      exact r_rv cx.hK (sE a t X Wx _ cx h.2)
    · cases h
  | .lno s, t, X, Wx, e, cx, h => by
    unfold chkE at h
    split at h
    · simp only [Bool.and_eq_true, decide_eq_true_eq] at h
      obtain ⟨⟨⟨rfl, h2⟩, h3⟩, h4⟩ := h
      obtain ⟨g1, g2, g3⟩ := cx.glob h2
      exact r_lno (cx.name h4) rfl g1 (cx.blt h3) PySem.boot_len g3 g2
    · cases h
  | .call f l, t, X, Wx, e, cx, h => by
    unfold chkE at h
    split at h
    · rename_i x p es pos
      simp only [Bool.and_eq_true] at h
      obtain ⟨⟨⟨⟨hcm, h1⟩, h2⟩, h3⟩, h4⟩ := h
      split at h1
      · rename_i y n bg hy
        simp only [Bool.and_eq_true, decide_eq_true_eq] at h1
        obtain ⟨⟨rfl, hn⟩, hbg⟩ := h1
        obtain ⟨m1, m2⟩ := cx.fns hcm f _ n bg hy
        have hgd : bg = true → X.A.guards = some [] := fun z => cx.gd (by subst z; simpa using hbg)
        obtain ⟨g1, g2, g3⟩ := cx.glob h2
        have ae := sEs l t X Wx _ cx h4
        cases es with
        | nil =>
          cases l with
          | cons q l =>
            obtain ⟨_, _, e2, _⟩ := ae
            cases e2
          | nil =>
            have hn : n = 0 := hn
            subst hn
            exact pe_callG0 m2 (cx.hr hcm) hgd cx.tk g1 m1 g2
        | cons e1 es =>
          rw [List.all_cons, Bool.and_eq_true] at h3
          exact pe_callG m2 (cx.hr hcm) hgd cx.tk g1 m1 (ae.pa (by rw [List.all_cons, Bool.and_eq_true]; exact h3)) (fun r B ds B' q => by rw [evs_len l r B ds B' q, hn]) g2 (star_ok h3.1) (star_any h3.2)
      · cases h1
    · cases h
  | .bi b l, t, X, Wx, e, cx, h => by
    unfold chkE at h
    split at h
    · simp only [Bool.and_eq_true, decide_eq_true_eq, Bool.not_eq_true'] at h
      obtain ⟨⟨⟨⟨⟨⟨⟨hcm, h0⟩, h1⟩, h2⟩, h3⟩, h4⟩, h5⟩, h6⟩ := h
      have ae := sEs l t X Wx _ cx h6
      rename_i x p es pos
      cases es with
      | nil => cases h5
      | cons e1 es =>
        exact s_bi cx hcm (fun z => by subst z; cases h0) (fun z => by subst z; exact h0) h1 h2 h3 h4 (ae.pa h4)
    · cases h
  | .lc g ik l ts el w, t, X, Wx, e, cx, h => by
    unfold chkE at h
    split at h
    · simp only [Bool.and_eq_true] at h
      obtain ⟨⟨⟨⟨⟨⟨hcm, h1⟩, h2⟩, h3⟩, h4⟩, h5⟩, h6⟩ := h
      split at h4
      · rename_i es hit
        exact r_frz (s_lcF cx hcm h1 h2 h3 hit (sEs l t X Wx _ cx h4) (fun X' cx' => sTs ts _ X' Wf _ cx' h5) (fun X' cx' => sE el _ X' Wf _ cx' h6))
      · cases h4
    · cases h
  | .lc2 g ik l g2 ik2 l2 ts el w, t, X, Wx, e, cx, h => by
    unfold chkE at h
    split at h
    · simp only [Bool.and_eq_true] at h
      obtain ⟨⟨⟨⟨⟨⟨⟨⟨⟨hcm, h1⟩, h2⟩, h2b⟩, h3⟩, h3b⟩, h4⟩, h4b⟩, h5⟩, h6⟩ := h
      split at h4
      · rename_i es hit
        split at h4b
        · rename_i es2 hit2
          exact r_frz (s_lc2F cx hcm h1 h2 h2b h3 h3b hit (sEs l t X Wx _ cx h4) hit2 (fun X' cx' => sEs l2 _ X' Wf _ cx' h4b) (fun X' cx' => sTs ts _ X' Wf _ cx' h5) (fun X' cx' => sE el _ X' Wf _ cx' h6))
        · cases h4b
      · cases h4
    · cases h
  | .bag l, t, X, Wx, e, cx, h => by
    unfold chkE at h
    split at h
    · simp only [Bool.and_eq_true] at h
      exact r_bag ((sEs l t X Wx _ cx h.2).pa h.1)
    · cases h
  | .mt m a l, t, X, Wx, e, cx, h => by
    unfold chkE at h
    split at h
    · rename_i o nm apos x cpos
      simp only [Bool.and_eq_true, decide_eq_true_eq] at h
      obtain ⟨⟨⟨⟨⟨h1, h2⟩, h3⟩, h4⟩, h5⟩, h6⟩ := h
      exact r_mt cx.hK h1 (sE a t X Wx _ cx h5) ((sEs l t X Wx _ cx h6).pa (by simp [h3])) h3 (plainO_ok h2) h4
    · cases h
  | .fld a f, t, X, Wx, e, cx, h => by
    unfold chkE at h
    split at h
    · simp only [Bool.and_eq_true, decide_eq_true_eq] at h
      obtain ⟨⟨rfl, h2⟩, h3⟩ := h
      exact r_fld cx.hK cx.flok.1 cx.flok.2 (sE a t X Wx _ cx h3) (plainO_ok h2)
    · cases h
  | .mk c l, t, X, Wx, e, cx, h => by
    unfold chkE at h
    split at h
    · rename_i x p es pos
      simp only [Bool.and_eq_true, Bool.not_eq_true'] at h
      obtain ⟨⟨⟨⟨⟨hcm, h1⟩, h2⟩, h3⟩, h4⟩, h5⟩ := h
      obtain ⟨⟨c', x', n, b⟩, hm, h6⟩ := List.any_eq_true.mp h1
      simp only [Bool.and_eq_true, decide_eq_true_eq] at h6
      obtain ⟨⟨⟨rfl, rfl⟩, hn⟩, hb⟩ := h6
      obtain ⟨m1, m2, m3⟩ := cx.mks hcm _ hm
      have hgd : b = true → X.A.guards = some [] := fun z => cx.gd (by subst z; simpa using hb)
      obtain ⟨g1, g2, g3⟩ := cx.glob h2
      have ae := sEs l t X Wx _ cx h5
      cases es with
      | nil => cases h4
      | cons e1 es =>
        rw [List.all_cons, Bool.and_eq_true] at h3
        exact pe_mkG m3 m2 hgd cx.tk g1 m1 (ae.pa (by rw [List.all_cons, Bool.and_eq_true]; exact h3)) (fun r B ds B' q => by rw [evs_len l r B ds B' q]; exact hn.symm) g2 (star_ok h3.1) (star_any h3.2)
    · cases h
  | .tv _, t, X, Wx, e, cx, h => by unfold chkE at h; cases h
  | .act, t, X, Wx, e, cx, h => by unfold chkE at h; cases h
  | .lamc f a, t, X, Wx, e, cx, h => by
    unfold chkE at h
    split at h
    · rename_i x p body scope lpos pos
      simp only [Bool.and_eq_true, decide_eq_true_eq] at h
      obtain ⟨⟨⟨⟨⟨hl, hcm⟩, h1⟩, h2⟩, h3⟩, h4⟩ := h
      obtain ⟨g1, g2, g3⟩ := cx.glob h2
      rw [← cx.sc] at h3
      exact s_lamc cx hl (cx.ne hcm) h1 g1 g2 (LamX.lamS_by h3) fun X' E cx' => sE a (t.lamb scope) X' (fun c d _ H' => E c d H') body cx' h4
    · cases h
  | .ise s c, t, X, Wx, e, cx, h => by unfold chkE at h; exact s_ise cx h
  | .no, t, X, Wx, e, cx, h => ⟨fun pins s σ H Q I ⟨r, g, B, ok, er, out⟩ => out.elim⟩
theorem sO : ∀ (p : Option Pe) (t : Tc) (X : Cx) (Wx : WX) (e : Option Expr), CtxOk C W k t X Wx → chkO t p e = true → PO X e (tO W Wx (evo C p))
  | none, t, X, Wx, e, cx, h => by
    unfold chkO at h
    cases e with
    | none => exact ro_none
    | some _ => cases h
  | some p, t, X, Wx, e, cx, h => by
    unfold chkO at h
    cases e with
    | none => cases h
    | some e => exact ro_some (sE p t X Wx e cx h)
theorem sEs : ∀ (l : List Pe) (t : Tc) (X : Cx) (Wx : WX) (es : List Expr), CtxOk C W k t X Wx → chkEs t l es = true → AllE C W X Wx l es
  | [], t, X, Wx, es, cx, h => by
    unfold chkEs at h
    cases es with
    | nil => rfl
    | cons _ _ => cases h
  | p :: l, t, X, Wx, es, cx, h => by
    unfold chkEs at h
    cases es with
    | nil => cases h
    | cons e es =>
      simp only [Bool.and_eq_true] at h
      exact ⟨e, es, rfl, sE p t X Wx e cx h.1, sEs l t X Wx es cx h.2⟩
theorem sT : ∀ (p : Pe) (t : Tc) (X : Cx) (Wx : WX) (e : Expr), CtxOk C W k t X Wx → chkT t p e = true → PT X e (tT W Wx (evT C p))
  | .nt a, t, X, Wx, e, cx, h => by
    unfold chkT at h
    split at h
    · exact rt_nt (sT a t X Wx _ cx h)
    · cases h
  | .an l, t, X, Wx, e, cx, h => by
    unfold chkT at h
    split at h
    · exact (AllT.and (sTl l t X Wx _ cx h)).pt
    · cases h
  | .or l, t, X, Wx, e, cx, h => by
    unfold chkT at h
    split at h
    · exact (AllT.or (sTl l t X Wx _ cx h)).pt
    · cases h
  | .cmp o a b, t, X, Wx, e, cx, h => by
    unfold chkT at h
    split at h
    · simp only [Bool.and_eq_true, Bool.not_eq_true'] at h
      rw [copIs_ok h.1.1.1]
      exact rt_cmp cx.hK (by have := cx.hu; omega) (sE a t X Wx _ cx h.1.2) (sE b t X Wx _ cx h.2) (by rw [← copIs_ok h.1.1.1]; exact h.1.1.2)
    · cases h
  | .ch o p a b c, t, X, Wx, e, cx, h => by
    unfold chkT at h
    split at h
    · simp only [Bool.and_eq_true, Bool.not_eq_true'] at h
      obtain ⟨⟨⟨⟨⟨h1, h2⟩, h3⟩, h4⟩, h5⟩, h6⟩ := h
      have e1 := copIs_ok h1
      have e2 := copIs_ok h2
      subst e1 e2
      exact rt_ch cx.hK (by have := cx.hu; omega) (sE a t X Wx _ cx h4) (sE b t X Wx _ cx h5) (sE c t X Wx _ cx h6) h3
    · cases h
  | .tv a, t, X, Wx, e, cx, h => by
    unfold chkT at h
    simp only [Bool.and_eq_true] at h
    exact rt_tv cx.hK (sE a t X Wx _ cx h.2) (plainT_ok h.1)
  | .c _, t, X, Wx, e, cx, h => by unfold chkT at h; cases h
  | .v _, t, X, Wx, e, cx, h => by unfold chkT at h; cases h
  | .bin _ _ _, t, X, Wx, e, cx, h => by unfold chkT at h; cases h
  | .neg _, t, X, Wx, e, cx, h => by unfold chkT at h; cases h
  | .ite _ _ _, t, X, Wx, e, cx, h => by unfold chkT at h; cases h
  | .tup _, t, X, Wx, e, cx, h => by unfold chkT at h; cases h
  | .lst _, t, X, Wx, e, cx, h => by unfold chkT at h; cases h
  | .dc, t, X, Wx, e, cx, h => by unfold chkT at h; cases h
  | .ix _ _, t, X, Wx, e, cx, h => by unfold chkT at h; cases h
  | .ixo _ _, t, X, Wx, e, cx, h => by unfold chkT at h; cases h
  | .sl _ _ _, t, X, Wx, e, cx, h => by unfold chkT at h; cases h
  | .rv _, t, X, Wx, e, cx, h => by unfold chkT at h; cases h
  | .lno _, t, X, Wx, e, cx, h => by unfold chkT at h; cases h
  | .call _ _, t, X, Wx, e, cx, h => by unfold chkT at h; cases h
  | .bi _ _, t, X, Wx, e, cx, h => by unfold chkT at h; cases h
  | .mt _ _ _, t, X, Wx, e, cx, h => by unfold chkT at h; cases h
  | .fld _ _, t, X, Wx, e, cx, h => by unfold chkT at h; cases h
  | .mk _ _, t, X, Wx, e, cx, h => by unfold chkT at h; cases h
  | .lc _ _ _ _ _ _, t, X, Wx, e, cx, h => by unfold chkT at h; cases h
  | .lc2 _ _ _ _ _ _ _ _ _, t, X, Wx, e, cx, h => by unfold chkT at h; cases h
  | .bag _, t, X, Wx, e, cx, h => by unfold chkT at h; cases h
  | .act, t, X, Wx, e, cx, h => by unfold chkT at h; cases h
  | .lamc _ _, t, X, Wx, e, cx, h => by unfold chkT at h; cases h
  | .ise _ _, t, X, Wx, e, cx, h => by unfold chkT at h; cases h
  | .no, t, X, Wx, e, cx, h => ⟨fun pins s σ H Q I ⟨r, g, B, ok, er, out⟩ => out.elim⟩
theorem sTs : ∀ (l : List Pe) (t : Tc) (X : Cx) (Wx : WX) (es : List Expr), CtxOk C W k t X Wx → chkTs t l es = true → PTs X es (tT W Wx (evTs C l))
  | [], t, X, Wx, es, cx, h => by
    unfold chkTs at h
    cases es with
    | nil => exact pts_ret
    | cons _ _ => cases h
  | [p], t, X, Wx, es, cx, h => by
    unfold chkTs at h
    split at h
    · exact pts_one (sT p t X Wx _ cx h)
    · cases h
  | p :: q :: l, t, X, Wx, es, cx, h => by
    unfold chkTs at h
    cases h
theorem sTl : ∀ (l : List Pe) (t : Tc) (X : Cx) (Wx : WX) (es : List Expr), CtxOk C W k t X Wx → chkTl t l es = true → AllT C W X Wx l es
  | [], t, X, Wx, es, cx, h => by
    unfold chkTl at h
    cases es with
    | nil => rfl
    | cons _ _ => cases h
  | p :: l, t, X, Wx, es, cx, h => by
    unfold chkTl at h
    cases es with
    | nil => cases h
    | cons e es =>
      simp only [Bool.and_eq_true] at h
      exact ⟨e, es, rfl, sT p t X Wx e cx h.1, sTl l t X Wx es cx h.2⟩
end
end
end Pl

-- part P9a
set_option maxHeartbeats 4000000
/-! The pure layer 9a: the rules of statements. -/
namespace Pl
open PySem PySem.Spec PyProof.Rows L2
/-- the slots' own objects are younger than the def's entry -/
def Fr (H0 : Hp) (r : Rho) (σ : L2.St) : Prop := ∀ (j : Nat) (s : Sl) (a : Addr), r[j]? = some s → s.own = true → σ[j]? = some (some (.ref a)) → Vac H0 a
section
variable (W : Wd) (Wx : WX) (g0 : Gs) (H0 : Hp) (gb : Gs)
def OutS {β : Type} (x : R β) (q : β → Bs → Prop) : Prop := match x with
  | .ok b B => q b B
  | .ex c B => ∀ g' H' σ', Stp g0 H0 g' H' → Ok W g' B H' → Wx (.ref (W.ca c)) none σ' H'
  | .no => False
def okS (D : Ends) : Fl → Bs → Prop := fun f B => match f with
  | .nx r => ∀ g' H' σ', Stp g0 H0 g' H' → Grow gb g' → Ok W g' B H' → EnvR W g' H' r σ' → Fr H0 r σ' → D.nx σ' H'
  | .bk r => ∀ g' H' σ', Stp g0 H0 g' H' → Grow gb g' → Ok W g' B H' → EnvR W g' H' r σ' → Fr H0 r σ' → D.bk σ' H'
  | .ct r => ∀ g' H' σ', Stp g0 H0 g' H' → Grow gb g' → Ok W g' B H' → EnvR W g' H' r σ' → Fr H0 r σ' → D.ct σ' H'
  | .rt d => ∀ g' H' v, Stp g0 H0 g' H' → Grow gb g' → Ok W g' B H' → Rp W g' d v → D.rt v H'
structure At (g : Gs) (B : Bs) (H : Hp) (r : Rho) (σ : L2.St) : Prop where
  st : Stp g0 H0 g H
  gr : Grow gb g
  ok : Ok W g B H
  er : EnvR W g H r σ
  fr : Fr H0 r σ
def tSt (f : Rho → M Fl) : TS := fun D σ H => ∃ gb r g B, At W g0 H0 gb g B H r σ ∧ OutS W Wx g0 H0 (f r B) (okS W g0 H0 gb D)
end
section
variable {X : Cx} {W : Wd} {Wx : WX} {g g1 g0 gb gb' : Gs} {B : Bs} {H H1 H0 : Hp} {σ : L2.St} {r : Rho} {α β : Type}
theorem OutS.bind {m : M α} {k : α → M β} {q : β → Bs → Prop} (h : OutS W Wx g0 H0 (M.bind m k B) q) : OutS W Wx g0 H0 (m B) fun a B1 => OutS W Wx g0 H0 (k a B1) q := by
  unfold M.bind at h
  cases e : m B with
  | ok a B1 => rw [e] at h; exact h
  | ex c B1 => rw [e] at h; exact h
  | no => rw [e] at h; exact h
theorem OutS.mono {x : R β} {q q' : β → Bs → Prop} (h : OutS W Wx g0 H0 x q) (k : ∀ b B, q b B → q' b B) : OutS W Wx g0 H0 x q' := by
  cases x with
  | ok a B1 => exact k a B1 h
  | ex c B1 => exact h
  | no => exact h
/-- an expression's outcome within a statement's -/
theorem OutS.e {x : R β} {q : β → Bs → Prop} (h : OutS W Wx g0 H0 x q) (s : Stp g0 H0 g H) : OutR W Wx g H σ x q := by
  cases x with
  | ok a B1 => exact h
  | ex c B1 => exact fun g' H' s' o => h g' H' σ (s.trans s') o
  | no => exact h
theorem OutS.lift {o : Option β} {q : β → Bs → Prop} (h : OutS W Wx g0 H0 (M.lift o B) q) : ∃ b, o = some b ∧ q b B := by
  cases o with
  | none => exact h.elim
  | some b => exact ⟨b, rfl, h⟩
theorem At.up {g : Gs} {B : Bs} (a : At W g0 H0 gb g B H r σ) (s : Stp g H g1 H1) {B1 : Bs} (o : Ok W g1 B1 H1) : At W g0 H0 gb g1 B1 H1 r σ := ⟨a.st.trans s, a.gr.trans s.grow, o, a.er.up s, a.fr⟩
theorem okS.nx {D : Ends} {r : Rho} (h : okS W g0 H0 gb D (.nx r) B) (a : At W g0 H0 gb g B H r σ) : D.nx σ H := h g H σ a.st a.gr a.ok a.er a.fr
theorem okS.bk {D : Ends} {r : Rho} (h : okS W g0 H0 gb D (.bk r) B) (a : At W g0 H0 gb g B H r σ) : D.bk σ H := h g H σ a.st a.gr a.ok a.er a.fr
theorem okS.ct {D : Ends} {r : Rho} (h : okS W g0 H0 gb D (.ct r) B) (a : At W g0 H0 gb g B H r σ) : D.ct σ H := h g H σ a.st a.gr a.ok a.er a.fr
theorem okS.rt {E : Ends} {d : D} {v : V} (h : okS W g0 H0 gb E (.rt d) B) (a : At W g0 H0 gb g B H r σ) (rd : Rp W g d v) : E.rt v H := h g H v a.st a.gr a.ok rd
theorem okS.mono {D D' : Ends} (hg : Grow gb gb') (n : ∀ σ H, D.nx σ H → D'.nx σ H) (b : ∀ σ H, D.bk σ H → D'.bk σ H) (c : ∀ σ H, D.ct σ H → D'.ct σ H) (e : ∀ v H, D.rt v H → D'.rt v H) : ∀ f B, okS W g0 H0 gb D f B → okS W g0 H0 gb' D' f B := fun f B h => by
  cases f with
  | nx r => exact fun g' H' σ' a z b c d => n _ _ (h g' H' σ' a (hg.trans z) b c d)
  | bk r => exact fun g' H' σ' a z b' c d => b _ _ (h g' H' σ' a (hg.trans z) b' c d)
  | ct r => exact fun g' H' σ' a z b c' d => c _ _ (h g' H' σ' a (hg.trans z) b c' d)
  | rt r => exact fun g' H' σ' a z b c => e _ _ (h g' H' σ' a (hg.trans z) b c)
/-! ### slots that are stored -/
theorem Fr.setV {i : Nat} {d : D} {x : Option V} (h : Fr H0 r σ) (hi : i < r.length) : Fr H0 (r.set i (.v d)) (σ.set i x) := fun j s a h1 o e => by
  by_cases hj : i = j
  · subst hj
    rw [List.getElem?_set_self hi] at h1
    cases h1
    cases o
  · rw [List.getElem?_set_ne hj] at h1 e
    exact h j s a h1 o e
theorem Fr.setO {i : Nat} {l : List D} {p : Addr} (h : Fr H0 r σ) (hi : i < r.length) (hp : Vac H0 p) (hl : r.length = σ.length) : Fr H0 (r.set i (.o l)) (σ.set i (some (.ref p))) := fun j s a h1 o e => by
  by_cases hj : i = j
  · subst hj
    rw [List.getElem?_set_self (by rw [← hl]; exact hi)] at e
    cases e
    exact hp
  · rw [List.getElem?_set_ne hj] at h1 e
    exact h j s a h1 o e
theorem Fr.setE {i : Nat} {x : Option V} (h : Fr H0 r σ) : Fr H0 (r.set i .e) (σ.set i x) := fun j s a h1 o e => by
  by_cases hj : i = j
  · subst hj
    by_cases hi : i < r.length
    · rw [List.getElem?_set_self hi] at h1
      cases h1
      cases o
    · rw [List.getElem?_eq_none (by simpa using hi)] at h1
      cases h1
  · rw [List.getElem?_set_ne hj] at h1 e
    exact h j s a h1 o e
theorem Fr.tgt {p : Pg} {d : D} {r' : Rho} {σ' : L2.St} (h : Fr H0 r σ) (hs : setG p d r = some r') (hj : ∀ j, j ∉ gsl p → σ'[j]? = σ[j]?) : Fr H0 r' σ' := fun j s a h1 o e => by
  obtain ⟨q1, q2⟩ := setG_own p d r r' hs j s h1 o
  rw [hj j q2] at e
  exact h j s a q1 o e
/-! ### statements -/
/-- target = value -/
theorem rs_set {st : Stmt} {p : Pg} {fe : Rho → M D} (h : PS X st (tAsg (tE W Wx fe) (gR W p))) : PS X st (tSt W Wx g0 H0 fun r => M.bind (fe r) fun x => M.bind (M.lift (setG p x r)) fun r' => M.ret (.nx r')) :=
  h.imp fun D σ H ⟨gb, r, g, B, a, out⟩ =>
    tE.go a.ok a.er (Stp.refl a.ok) (out.bind.e a.st) fun x B1 g1 H1 v q s1 _ ok1 rx => by
      obtain ⟨r', hs, q2⟩ := OutS.lift (OutS.bind q)
      have a1 := a.up s1 ok1
      exact ⟨r, g1, B1, x, r', ok1, a1.er, rx, hs, fun σ' er' hl hj => okS.nx (W := W) (r := r') q2 ⟨a1.st, a1.gr, ok1, er', a1.fr.tgt hs hj⟩⟩
theorem g_name {i : Nat} {st : Stmt} {te : TE} (h : PS X st (tAsg te (gName i))) : PS X st (tAsg te (gName i)) := h
theorem rs_setn {st : Stmt} {i : Nat} {fe : Rho → M D} (h : PS X st (tAsg (tE W Wx fe) (gName i))) : PS X st (tSt W Wx g0 H0 fun r => M.bind (fe r) fun x => M.bind (M.lift (setG (.s i) x r)) fun r' => M.ret (.nx r')) :=
  h.imp fun D σ H ⟨gb, r, g, B, a, out⟩ =>
    tE.go a.ok a.er (Stp.refl a.ok) (out.bind.e a.st) fun x B1 g1 H1 v q s1 _ ok1 rx => by
      obtain ⟨r', hs, q2⟩ := OutS.lift (OutS.bind q)
      have a1 := a.up s1 ok1
      obtain ⟨hi, rfl⟩ := ite_some (show (if i < r.length then some (r.set i (.v x)) else none) = some r' from hs)
      exact okS.nx (W := W) (r := r.set i (.v x)) q2 ⟨a1.st, a1.gr, ok1, a1.er.setV rx hi, a1.fr.setV hi⟩
/-- x = a list that nobody else knows -/
theorem rs_seto {st : Stmt} {i : Nat} {fl : Rho → M (List D)} (h : PS X st (tAsg (tF W Wx fl) (gName i))) : PS X st (tSt W Wx g0 H0 fun r => M.bind (fl r) fun l => M.lift ((setO r i l).map .nx)) :=
  h.imp fun D σ H ⟨gb, r, g, B, a, out⟩ => by
    refine ⟨r, g, B, a.ok, a.er, (out.bind.e a.st).mono fun l B1 q g1 H1 p xs s1 ok1 rl hp hz nb hn => ?_⟩
    obtain ⟨f, hf, q2⟩ := OutS.lift q
    obtain ⟨r', hr, rfl⟩ := map_some' hf
    obtain ⟨hi, rfl⟩ := ite_some (show (if i < r.length then some (r.set i (.o l)) else none) = some r' from hr)
    exact okS.nx (W := W) (r := r.set i (.o l)) q2 ⟨a.st.trans s1, a.gr.trans s1.grow, ok1, a.er.setO s1 hi hn hp hz nb rl, a.fr.setO hi (a.st.there hn) a.er.len⟩
theorem rs_ex {st : Stmt} {fe : Rho → M D} (h : PS X st (tDrop (tE W Wx fe))) : PS X st (tSt W Wx g0 H0 fun r => M.bind (fe r) fun _ => M.ret (.nx r)) :=
  h.imp fun D σ H ⟨gb, r, g, B, a, out⟩ =>
    tE.go a.ok a.er (Stp.refl a.ok) (out.bind.e a.st) fun x B1 g1 H1 v q s1 _ ok1 rx => okS.nx (W := W) (r := r) q (a.up s1 ok1)
theorem rs_ret {e : Expr} {pos : Pos} {fe : Rho → M D} (h : PE X e (tE W Wx fe)) : PS X (.Return (some e) pos) (tSt W Wx g0 H0 fun r => M.bind (fe r) fun x => M.ret (.rt x)) :=
  (ps_ret h).imp fun D σ H ⟨gb, r, g, B, a, out⟩ =>
    tE.go a.ok a.er (Stp.refl a.ok) (out.bind.e a.st) fun x B1 g1 H1 v q s1 _ ok1 rx => okS.rt (W := W) (d := x) q (a.up s1 ok1) rx
theorem rs_retn {pos : Pos} : PS X (.Return none pos) (tSt W Wx g0 H0 fun r => M.ret (.rt .non)) :=
  ps_retN.imp fun D σ H ⟨gb, r, g, B, a, out⟩ => okS.rt (W := W) (d := .non) out a rfl
theorem rs_pass {st : Stmt} (h : PS X st tNext) : PS X st (tSt W Wx g0 H0 fun r => M.ret (.nx r)) := h.imp fun D σ H ⟨gb, r, g, B, a, out⟩ => okS.nx (W := W) (r := r) out a
theorem rs_brk {pos : Pos} : PS X (.Break pos) (tSt W Wx g0 H0 fun r => M.ret (.bk r)) := ps_break.imp fun D σ H ⟨gb, r, g, B, a, out⟩ => okS.bk (W := W) (r := r) out a
theorem rs_cnt {pos : Pos} : PS X (.Continue pos) (tSt W Wx g0 H0 fun r => M.ret (.ct r)) := ps_continue.imp fun D σ H ⟨gb, r, g, B, a, out⟩ => okS.ct (W := W) (r := r) out a
theorem rs_ite {c : Expr} {ss us : List Stmt} {pos : Pos} {fc : Rho → M Bool} {fa fb : Rho → M Fl} (hc : PT X c (tT W Wx fc)) (ha : PSs X ss (tSt W Wx g0 H0 fa)) (hb : PSs X us (tSt W Wx g0 H0 fb)) :
    PS X (.If c ss us pos) (tSt W Wx g0 H0 fun r => M.bind (fc r) fun k => if k then fa r else fb r) :=
  (ps_if hc ha hb).imp fun D σ H ⟨gb, r, g, B, a, out⟩ =>
    tT.go a.ok a.er (Stp.refl a.ok) (out.bind.e a.st) fun f B1 g1 H1 q s1 _ ok1 => by
      cases f with
      | true =>
        rw [if_pos rfl] at q ⊢
        exact ⟨gb, r, g1, B1, a.up s1 ok1, q⟩
      | false =>
        rw [if_neg (by simp)] at q ⊢
        exact ⟨gb, r, g1, B1, a.up s1 ok1, q⟩
/-! blocks -/
theorem rss_nil : PSs X [] (tSt W Wx g0 H0 fun r => M.ret (.nx r)) := pss_nil.imp fun D σ H ⟨gb, r, g, B, a, out⟩ => okS.nx (W := W) (r := r) out a
theorem rss_cons {st : Stmt} {rest : List Stmt} {fa fb : Rho → M Fl} (ha : PS X st (tSt W Wx g0 H0 fa)) (hb : PSs X rest (tSt W Wx g0 H0 fb)) : PSs X (st :: rest) (tSt W Wx g0 H0 fun r => thenM (fa r) fb) :=
  (pss_cons ha hb).imp fun D σ H ⟨gb, r, g, B, a, out⟩ => by
    refine ⟨gb, r, g, B, a, out.bind.mono fun f B1 q => ?_⟩
    cases f with
    | nx r' => exact fun g' H' σ' s gr o e fr => ⟨gb, r', g', B1, ⟨s, gr, o, e, fr⟩, q⟩
    | bk r' => exact q
    | ct r' => exact q
    | rt d => exact q
/-- a list is frozen: from now on everybody may know it -/
theorem rss_frz {sts : List Stmt} {i : Nat} {fa : Rho → M Fl} (h : PSs X sts (tSt W Wx g0 H0 fa)) : PSs X sts (tSt W Wx g0 H0 fun r => thenM (M.lift ((frzR i r).map .nx)) fa) :=
  h.imp fun D σ H ⟨gb, r, g, B, a, out⟩ => by
    obtain ⟨f, hf, q⟩ := OutS.lift out.bind
    obtain ⟨r', hr, rfl⟩ := map_some' hf
    have q : OutS W Wx g0 H0 (fa r' B) (okS W g0 H0 gb D) := q
    unfold frzR at hr
    split at hr
    · next l e =>
      cases hr
      obtain ⟨p, xs, e1, e2, e3, e4, e5⟩ := a.er.sl i _ e
      have hi : i < r.length := (List.getElem?_eq_some_iff.mp e).1
      have h0 := a.fr i _ p e rfl e1
      have gr : Grow g (g.ice p (.lst xs)) := grow_ice e3
      have ok2 := a.ok.freeze e2 e3 e4 nt_lst
      have s2 : Stp g0 H0 (g.ice p (.lst xs)) H := ⟨a.st.grow.trans gr, fun b o h n => by
        have : b ≠ p := ne_of_vac h n h0
        show upd g.Z p _ b = _
        rw [upd_ne this]
        exact a.st.zn b o h n, a.st.bn, a.st.h, a.st.hb, a.st.e⟩
      have eσ : σ.set i (some (.ref p)) = σ := by
        apply List.ext_getElem?
        intro j
        by_cases hj : i = j
        · subst hj
          rw [List.getElem?_set_self (by rw [← a.er.len]; exact hi), e1]
        · rw [List.getElem?_set_ne hj]
      refine ⟨gb, r.set i (.v (.lst l)), g.ice p (.lst xs), B, ⟨s2, a.gr.trans gr, ok2, ?_, ?_⟩, q⟩
      · refine ⟨by rw [List.length_set]; exact a.er.len, fun j s hs => ?_, fun j k s t b h1 h2 o1 o2 h3 h4 => ?_⟩
        · by_cases hj : i = j
          · subst hj
            rw [List.getElem?_set_self hi] at hs
            cases hs
            exact ⟨.ref p, e1, p, xs, rfl, upd_same, RpL.up gr _ _ e5⟩
          · rw [List.getElem?_set_ne hj] at hs
            have q := a.er.sl j s hs
            cases s with
            | e => trivial
            | v d =>
              obtain ⟨y, q1, q2⟩ := q
              exact ⟨y, q1, Rp.up gr _ _ q2⟩
            | er c => exact q
            | la => exact q
            | o l' =>
              obtain ⟨b, ys, q1, q2, q3, q4, q5⟩ := q
              have nb : b ≠ p := fun z => hj (a.er.ap i j _ _ p e hs rfl rfl e1 (by rw [q1, z]))
              exact ⟨b, ys, q1, q2, by show upd g.Z p _ b = none; rw [upd_ne nb]; exact q3, q4, RpL.up gr _ _ q5⟩
            | oi c l' =>
              obtain ⟨b, dx, ys, q1, q2, q3, q4, q5, q6, q7, q8, q9⟩ := q
              have nb : b ≠ p := fun z => hj (a.er.ap i j _ _ p e hs rfl rfl e1 (by rw [q1, z]))
              have nd : dx ≠ p := fun z => by rw [z, e2] at q5; cases q5
              exact ⟨b, dx, ys, q1, q2, by show upd g.Z p _ b = none; rw [upd_ne nb]; exact q3, q4, q5, by show upd g.Z p _ dx = none; rw [upd_ne nd]; exact q6, q7, RpL.up gr _ _ q8, q9⟩
        · have aux : ∀ (m : Nat) (u : Sl), (r.set i (.v (.lst l)))[m]? = some u → u.own = true → r[m]? = some u := fun m u h o => by
            by_cases hm : i = m
            · subst hm
              rw [List.getElem?_set_self hi] at h
              cases h
              cases o
            · rw [List.getElem?_set_ne hm] at h
              exact h
          exact a.er.ap j k s t b (aux j s h1 o1) (aux k t h2 o2) o1 o2 h3 h4
      · have := Fr.setV (d := .lst l) (x := some (.ref p)) a.fr hi
        rw [eσ] at this
        exact this
    · next d e =>
      cases hr
      exact ⟨gb, r, g, B, a, q⟩
    · cases hr
/-! own lists -/
theorem At.putO {i : Nat} {l l' : List D} {p : Addr} {xs ys : List V} (a : At W g0 H0 gb g B H r σ) (e : r[i]? = some (.o l)) (e1 : σ[i]? = some (some (.ref p))) (e2 : H p = some (.lst xs)) (e3 : g.Z p = none) (e4 : p ∉ g.b) (rl : RpL W g l' ys) :
    At W g0 H0 gb g B (upd H p (.lst ys)) (r.set i (.o l')) σ := by
  have hi : i < r.length := (List.getElem?_eq_some_iff.mp e).1
  have h0 := a.fr i _ p e rfl e1
  refine ⟨?_, a.gr, a.ok.own e2 nt_lst nx_lst e3 e4, ⟨by rw [List.length_set]; exact a.er.len, fun j s hs => ?_, fun j k s t b h1 h2 o1 o2 h3 h4 => ?_⟩, fun j s b h1 o e5 => ?_⟩
  · -- the def's entry does not know the list
    refine ⟨a.st.grow, a.st.zn, a.st.bn, fun b u h n k => ?_, fun b hb => ?_, a.st.e⟩
    · rw [upd_ne (ne_of_vac h k h0)]
      exact a.st.h b u h n k
    · have : b ≠ p := fun z => e4 (z ▸ a.st.grow.sub hb)
      rw [upd_ne this]
      exact a.st.hb b hb
  · by_cases hj : i = j
    · subst hj
      rw [List.getElem?_set_self hi] at hs
      cases hs
      exact ⟨p, ys, e1, upd_same, e3, e4, rl⟩
    · rw [List.getElem?_set_ne hj] at hs
      have q := a.er.sl j s hs
      cases s with
      | e => trivial
      | v d => exact q
      | er c => exact q
      | la =>
        obtain ⟨f, c', φ, q1, q2, q3, q4⟩ := q
        have nc : c' ≠ p := fun z => by rw [z, e2] at q3; cases q3
        exact ⟨f, c', φ, q1, q2, by rw [upd_ne nc]; exact q3, q4⟩
      | o l2 =>
        obtain ⟨b, zs, q1, q2, q3, q4, q5⟩ := q
        have nb : b ≠ p := fun z => hj (a.er.ap i j _ _ p e hs rfl rfl e1 (by rw [q1, z]))
        exact ⟨b, zs, q1, by rw [upd_ne nb]; exact q2, q3, q4, q5⟩
      | oi c l2 =>
        obtain ⟨b, dx, zs, q1, q2, q3, q4, q5, q6, q7, q8, q9⟩ := q
        have nb : b ≠ p := fun z => hj (a.er.ap i j _ _ p e hs rfl rfl e1 (by rw [q1, z]))
        have nd : dx ≠ p := fun z => by rw [z, e2] at q5; cases q5
        exact ⟨b, dx, zs, q1, by rw [upd_ne nb]; exact q2, q3, q4, by rw [upd_ne nd]; exact q5, q6, q7, q8, q9⟩
  · have aux : ∀ (m : Nat) (u : Sl), (r.set i (.o l'))[m]? = some u → u.own = true → ∃ w, r[m]? = some w ∧ w.own = true := fun m u h o => by
      by_cases hm : i = m
      · subst hm
        exact ⟨_, e, rfl⟩
      · rw [List.getElem?_set_ne hm] at h
        exact ⟨u, h, o⟩
    obtain ⟨w1, q1, p1⟩ := aux j s h1 o1
    obtain ⟨w2, q2, p2⟩ := aux k t h2 o2
    exact a.er.ap j k w1 w2 b q1 q2 p1 p2 h3 h4
  · by_cases hj : i = j
    · subst hj
      exact a.fr i _ b e rfl e5
    · rw [List.getElem?_set_ne hj] at h1
      exact a.fr j s b h1 o e5
theorem rs_app {x a : Expr} {i : Nat} {apos cpos spos : Pos} {fe : Rho → M D} (hx : PE X x (tVar i)) (ha : PE X a (tE W Wx fe)) (hs : noStar a = true) (hb : attributeBase x "append" X.env (eval x X.env) = eval x X.env) (hl : (apos.endLine == cpos.line) = true) :
    PS X (.Expr (.Call (.Attribute x "append" apos) [a] [] cpos) spos) (tSt W Wx g0 H0 fun r => M.bind (M.lift (getO r i)) fun l => M.bind (fe r) fun x => M.lift (if l.length < SZ then some (.nx (r.set i (.o (l ++ [x])))) else none)) := by
  have st : starEach [a] X.env = (false, eval a X.env) :: starEach [] X.env := star_ok hs
  have p0 := ps_expr (pos := spos) (pe_bm (cpos := cpos) (apos := apos) PySem.F.plainAttrs_list PySem.F.slot_list_append PySem.F.type_list_append mt_append hx (pa_cons ha pa_nil st) hb (by rw [st]; rfl) hl st rfl) rfl
  refine p0.imp fun D σ H ⟨gb, r, g, B, a, out⟩ => ?_
  obtain ⟨l, hl, q⟩ := OutS.lift out.bind
  have e := getO_some hl
  obtain ⟨p, xs, e1, e2, e3, e4, e5⟩ := a.er.sl _ _ e
  refine ⟨_, e1, .inl ⟨rfl, xs, SqL.of e2⟩, tE.go a.ok a.er (Stp.refl a.ok) (q.bind.e a.st) fun x B1 g1 H1 v q1 s1 _ ok1 rx => ?_⟩
  obtain ⟨f, hf, q2⟩ := OutS.lift q1
  obtain ⟨hz, rfl⟩ := ite_some hf
  have a1 := a.up s1 ok1
  have e2' := s1.h p _ e2 e4 nt_lst
  refine ⟨p, xs, v, rfl, rfl, e2', by rw [e5.length, isz]; exact hz, ?_⟩
  refine okS.nx (W := W) q2 (a1.putO e e1 e2' (by rw [s1.zn p _ e2 nt_lst]; exact e3) (s1.nb e2 e4 nt_lst) ((RpL.up s1.grow _ _ e5).app (RpL.cons rx RpL.nil)))
theorem rs_paro {st : Stmt} {i j : Nat} {f1 f2 : Rho → M (List D)} (h : PS X st (tPar i j (tCons (tF W Wx f1) (tCons (tF W Wx f2) tNil)))) : PS X st (tSt W Wx g0 H0 fun r => M.bind (f1 r) fun l => M.bind (f2 r) fun k => M.lift ((setO r i l).bind fun r1 => (setO r1 j k).map .nx)) :=
  h.imp fun D σ H ⟨gb, r, g, B, a, out⟩ => by
    refine ⟨r, g, B, a.ok, a.er, (out.bind.e a.st).mono fun l B1 q g1 H1 p1 xs1 s1 ok1 rl1 hp1 hz1 nb1 hn1 => ?_⟩
    refine ⟨r, g1, B1, ok1, a.er.up s1, (q.bind.e (a.st.trans s1)).mono fun k B2 q2 g2 H2 p2 xs2 s2 ok2 rl2 hp2 hz2 nb2 hn2 => ?_⟩
    obtain ⟨f, hf, q3⟩ := OutS.lift q2
    obtain ⟨r1, e1, e2⟩ := bind_some' hf
    obtain ⟨r2, e3, rfl⟩ := map_some' e2
    obtain ⟨hi, rfl⟩ := ite_some (show (if i < r.length then some (r.set i (.o l)) else none) = some r1 from e1)
    obtain ⟨hj, rfl⟩ := ite_some (show (if j < (r.set i (Sl.o l)).length then some ((r.set i (Sl.o l)).set j (.o k)) else none) = some r2 from e3)
    have er1 := a.er.setO s1 hi hn1 hp1 hz1 nb1 rl1
    have fr1 := a.fr.setO (l := l) hi (a.st.there hn1) a.er.len
    exact ⟨_, _, rfl, okS.nx (W := W) q3 ⟨(a.st.trans s1).trans s2, (a.gr.trans s1.grow).trans s2.grow, ok2, er1.setO s2 hj hn2 hp2 hz2 nb2 rl2, fr1.setO hj ((a.st.trans s1).there hn2) er1.len⟩⟩
theorem RpL.init : ∀ {ds : List D} {xs : List V}, RpL W g ds xs → RpL W g ds.dropLast xs.dropLast := fun h => by
  rw [List.dropLast_eq_take, List.dropLast_eq_take, h.length]
  exact h.take _
theorem rs_popo {ts : List Expr} {x : Expr} {kk i : Nat} {p : Pg} {tpos apos cpos spos : Pos} (hx : PE X x (tVar i)) (hg : PG X (.Tuple ts kk tpos) (gR W p)) (hb : attributeBase x "pop" X.env (eval x X.env) = eval x X.env) (hl : (apos.endLine == cpos.line) = true)
    (h1 : swapsWithSole [.Tuple ts kk tpos] (.Call (.Attribute x "pop" apos) [] [] cpos) spos.line X.env = pure false) (h2 : swappedStores [.Tuple ts kk tpos] (.Call (.Attribute x "pop" apos) [] [] cpos) X.env = pure none) :
    PS X (.Assign [.Tuple ts kk tpos] (.Call (.Attribute x "pop" apos) [] [] cpos) spos) (tSt W Wx g0 H0 fun r => M.bind (M.lift (popO r i)) fun q => M.bind (M.lift (setG p q.1 (r.set i (.o q.2)))) fun r' => M.ret (.nx r')) :=
  (ps_asg (pe_bm0 PySem.F.plainAttrs_list PySem.F.slot_list_pop PySem.F.type_list_pop mt_pop hx hb hl) hg h1 h2 rfl).imp fun D σ H ⟨gb, r, g, B, a, out⟩ => by
    obtain ⟨⟨d, l'⟩, hp, q⟩ := OutS.lift out.bind
    unfold popO at hp
    split at hp
    · rename_i l hl
      obtain ⟨y, hy, he⟩ := map_some' hp
      cases he
      have e := getO_some hl
      obtain ⟨ad, xs, e1, e2, e3, e4, e5⟩ := a.er.sl _ _ e
      obtain ⟨v, hv, rv⟩ := e5.get hy
      obtain ⟨r', hs, q2⟩ := OutS.lift (OutS.bind q)
      have a1 := a.putO e e1 e2 e3 e4 (RpL.init e5)
      refine ⟨_, e1, .inl ⟨rfl, xs, SqL.of e2⟩, ad, xs, v, rfl, rfl, e2, by rw [e5.length]; exact hv, r.set i (.o l.dropLast), g, B, d, r', a1.ok, a1.er, rv, hs, fun σ' er' hl' hj => ?_⟩
      exact okS.nx (W := W) (r := r') q2 ⟨a1.st, a1.gr, a1.ok, er', a1.fr.tgt hs hj⟩
    · cases hp
/-- target[i] = e, what the parts ask -/
theorem ps_sto {x i e : Expr} {pos spos : Pos} {te tx ti : TE} {t : TSet} (he : PE X e te) (hx : PE X x tx) (hi : PE X i ti) (ht : PSet X t) (hp : plainI i = true) : PS X (.Assign [.Subscript x i pos] e spos) (tAsg te (gSub tx ti t)) := by
  refine ps_asg he (pg_sub hx hi ht fun v => ?_) ?_ ?_ rfl
  · cases i <;> first | rfl | cases hp
  · cases e <;> rfl
  · cases e <;> rfl
theorem rs_sto {x i e : Expr} {s : Nat} {pos spos : Pos} {fe fi : Rho → M D} (he : PE X e (tE W Wx fe)) (hx : PE X x (tVar s)) (hi : PE X i (tE W Wx fi)) (hp : plainI i = true) :
    PS X (.Assign [.Subscript x i pos] e spos) (tSt W Wx g0 H0 fun r => M.bind (fe r) fun x => M.bind (M.lift (getO r s)) fun l => M.bind (fi r) fun j => M.lift ((stoL l j x).map fun l' => .nx (r.set s (.o l')))) :=
  (ps_sto he hx hi set_list hp).imp fun D σ H ⟨gb, r, g, B, a, out⟩ =>
    tE.go a.ok a.er (Stp.refl a.ok) (out.bind.e a.st) fun x B1 g1 H1 v q s1 _ ok1 rx => by
      obtain ⟨l, hl, q⟩ := OutS.lift q.bind
      have a1 := a.up s1 ok1
      have e := getO_some hl
      obtain ⟨p, xs, e1, e2, e3, e4, e5⟩ := a1.er.sl _ _ e
      refine ⟨_, e1, tE.go ok1 a1.er (Stp.refl ok1) (q.bind.e a1.st) fun j B2 g2 H2 w q1 s2 _ ok2 rj => ?_⟩
      obtain ⟨f, hf, q2⟩ := OutS.lift q1
      obtain ⟨l', hl', rfl⟩ := map_some' hf
      cases j with
      | int j =>
        have rj : w = .int j := rj
        obtain ⟨n, hn, rfl⟩ := map_some' (show (ixN l.length j).map (fun n => l.set n x) = some l' from hl')
        have a2 := a1.up s2 ok2
        have e2' := s2.h p _ e2 e4 nt_lst
        refine ⟨p, xs, j, n, rfl, rj, e2', by rw [e5.length]; exact hn, ?_⟩
        exact okS.nx (W := W) q2 (a2.putO e e1 e2' (by rw [s2.zn p _ e2 nt_lst]; exact e3) (s2.nb e2 e4 nt_lst) (RpL.set n (RpL.up s2.grow _ _ e5) (Rp.up s2.grow _ _ rx)))
      | _ => cases hl'
/-- a bag's item is stored -/
theorem At.putB {k : Nat} {l l' : List D} {p : Addr} {ys : List V} (a : At W g0 H0 gb g B H r σ) (e1 : g.b[k]? = some p) (e2 : B[k]? = some l) (rl : RpL W g l' ys) : At W g0 H0 gb g (B.set k l') (upd H p (.lst ys)) r σ := by
  obtain ⟨hz, xs, hp, _⟩ := a.ok.bag k p l e1 e2
  have hm : p ∈ g.b := List.mem_of_getElem? e1
  have hk : k < B.length := (List.getElem?_eq_some_iff.mp e2).1
  refine ⟨?_, a.gr, ?_, ?_, a.fr⟩
  · refine ⟨a.st.grow, a.st.zn, a.st.bn, fun b u h n k => ?_, fun b hb => ?_, a.st.e⟩
    · have : b ≠ p := fun z => by
        subst z
        exact ne_of_vac h k (a.st.bn b hm n) rfl
      rw [upd_ne this]
      exact a.st.h b u h n k
    · by_cases z : b = p
      · subst z
        exact ⟨ys, upd_same⟩
      · rw [upd_ne z]
        exact a.st.hb b hb
  · refine ⟨fun b u h => ?_, a.ok.kin, by rw [List.length_set]; exact a.ok.len, a.ok.nd, fun i b ds h1 h2 => ?_, fun x hx => TabS.own (a.ok.tab x hx) hp nt_lst nx_lst⟩
    · have : b ≠ p := fun z => by rw [z, hz] at h; cases h
      rw [upd_ne this]
      exact a.ok.ice b u h
    · by_cases hi : k = i
      · subst hi
        rw [e1] at h1
        cases h1
        rw [List.getElem?_set_self hk] at h2
        cases h2
        exact ⟨hz, ys, upd_same, rl⟩
      · rw [List.getElem?_set_ne hi] at h2
        obtain ⟨q1, zs, q2, q3⟩ := a.ok.bag i b ds h1 h2
        have : b ≠ p := fun z => by
          subst z
          obtain ⟨l1, m1⟩ := List.getElem?_eq_some_iff.mp e1
          obtain ⟨l2, m2⟩ := List.getElem?_eq_some_iff.mp h1
          exact hi ((List.getElem_inj a.ok.nd).mp (m1.trans m2.symm))
        exact ⟨q1, zs, by rw [upd_ne this]; exact q2, q3⟩
  · refine ⟨a.er.len, fun j s hs => ?_, a.er.ap⟩
    have q := a.er.sl j s hs
    cases s with
    | e => trivial
    | v d => exact q
    | er c => exact q
    | la =>
      obtain ⟨f, c', φ, q1, q2, q3, q4⟩ := q
      have nc : c' ≠ p := fun z => by rw [z, hp] at q3; cases q3
      exact ⟨f, c', φ, q1, q2, by rw [upd_ne nc]; exact q3, q4⟩
    | o l2 =>
      obtain ⟨b, zs, q1, q2, q3, q4, q5⟩ := q
      have nb : b ≠ p := fun z => q4 (z ▸ hm)
      exact ⟨b, zs, q1, by rw [upd_ne nb]; exact q2, q3, q4, q5⟩
    | oi c l2 =>
      obtain ⟨b, dx, zs, q1, q2, q3, q4, q5, q6, q7, q8, q9⟩ := q
      have nb : b ≠ p := fun z => q4 (z ▸ hm)
      have nd : dx ≠ p := fun z => q7 (z ▸ hm)
      exact ⟨b, dx, zs, q1, by rw [upd_ne nb]; exact q2, q3, q4, by rw [upd_ne nd]; exact q5, q6, q7, q8, q9⟩
theorem rs_bst {x i e : Expr} {pos spos : Pos} {fe fx fi : Rho → M D} (he : PE X e (tE W Wx fe)) (hx : PE X x (tE W Wx fx)) (hi : PE X i (tE W Wx fi)) (hp : plainI i = true) :
    PS X (.Assign [.Subscript x i pos] e spos) (tSt W Wx g0 H0 fun r => M.bind (fe r) fun x => M.bind (fx r) fun y => M.bind (fi r) fun j => M.bind (bstM y j x) fun _ => M.ret (.nx r)) :=
  (ps_sto he hx hi set_list hp).imp fun D σ H ⟨gb, r, g, B, a, out⟩ =>
    tE.go a.ok a.er (Stp.refl a.ok) (out.bind.e a.st) fun x B1 g1 H1 v q s1 _ ok1 rx => by
      have a1 := a.up s1 ok1
      refine tE.go ok1 a1.er (Stp.refl ok1) (q.bind.e a1.st) fun y B2 g2 H2 u q1 s2 _ ok2 ry => ?_
      have a2 := a1.up s2 ok2
      refine tE.go ok2 a2.er (Stp.refl ok2) (q1.bind.e a2.st) fun j B3 g3 H3 w q2 s3 _ ok3 rj => ?_
      have a3 := a2.up s3 ok3
      have q2 := q2.bind
      unfold bstM at q2
      cases y with
      | bag k =>
        simp only at q2
        cases eb : B3[k]? with
        | none => rw [eb] at q2; exact q2.elim
        | some l =>
          rw [eb] at q2
          simp only [Option.bind_some] at q2
          cases es : stoL l j x with
          | none => rw [es] at q2; exact q2.elim
          | some l' =>
            rw [es] at q2
            obtain ⟨p, rfl, e1⟩ := Rp.up s3.grow _ _ ry
            obtain ⟨hz, xs, hp, rl⟩ := ok3.bag k p l e1 eb
            cases j with
            | int j =>
              have rj : w = .int j := rj
              obtain ⟨n, hn, rfl⟩ := map_some' (show (ixN l.length j).map (fun n => l.set n x) = some l' from es)
              refine ⟨p, xs, j, n, rfl, rj, hp, by rw [rl.length]; exact hn, ?_⟩
              exact okS.nx (W := W) (r := r) q2 (a3.putB e1 eb (RpL.set n rl (Rp.up (s2.trans s3).grow _ _ rx)))
            | _ => cases es
      | _ => exact q2.elim
/-- x op= e -/
theorem rs_aug {x : Str} {i : Nat} {e : Expr} {pos' pos : Pos} {o : Bop} {fe : Rho → M D} (hN : X.N.Nodup) (hi : X.N[i]? = some x) (hx : L2.Loc X.env.scope x) (hf : X.fn x = true ∨ X.env.scope.names.lookup x = some .local) (he : PE X e (tE W Wx fe)) (ho : o = .add ∨ o = .sub) :
    PS X (.AugAssign (.Name x pos') (opOf o) e pos) (tSt W Wx g0 H0 fun r => M.bind (M.lift (getV r i)) fun x => M.bind (fe r) fun y => M.lift ((augD o x y).bind fun z => (setV r i z).map .nx)) := by
  have key : ∀ (ti : TIp) (f : Int → Int → Int), PIp X (opOf o) (ipI f) → (∀ x y z, augD o x y = some z → ∃ i j, x = .int i ∧ y = .int j ∧ z = .int (f i j)) →
      PS X (.AugAssign (.Name x pos') (opOf o) e pos) (tSt W Wx g0 H0 fun r => M.bind (M.lift (getV r i)) fun x => M.bind (fe r) fun y => M.lift ((augD o x y).bind fun z => (setV r i z).map .nx)) := fun ti f hp hd =>
    (ps_aug hN hi hx he hp hf).imp fun D σ H ⟨gb, r, g, B, a, out⟩ => by
      obtain ⟨d, h1, q⟩ := OutS.lift out.bind
      unfold getV at h1
      split at h1
      · next d' e1 =>
        cases h1
        obtain ⟨y, e2, ry⟩ := a.er.sl _ _ e1
        refine ⟨y, e2, tE.go a.ok a.er (Stp.refl a.ok) (q.bind.e a.st) fun x2 B1 g1 H1 v q1 s1 _ ok1 rx => ?_⟩
        obtain ⟨fl, hf, q2⟩ := OutS.lift q1
        obtain ⟨z, hz, hs⟩ := bind_some' hf
        obtain ⟨r', hr, rfl⟩ := map_some' hs
        obtain ⟨hl, rfl⟩ := ite_some (show (if i < r.length then some (r.set i (.v z)) else none) = some r' from hr)
        obtain ⟨m, n, rfl, rfl, rfl⟩ := hd _ _ _ hz
        have a1 := a.up s1 ok1
        refine ⟨m, n, ry, rx, okS.nx (W := W) q2 ⟨a1.st, a1.gr, ok1, a1.er.setV rfl hl, a1.fr.setV hl⟩⟩
      · cases h1
  have inv : ∀ x y z, augD o x y = some z → ∃ i j, x = .int i ∧ y = .int j ∧ augD o (.int i) (.int j) = some z := fun x y z h => by
    cases x with
    | int i => cases y with
      | int j => exact ⟨i, j, rfl, rfl, h⟩
      | _ => cases o <;> cases h
    | _ => cases o <;> cases h
  rcases ho with rfl | rfl
  · exact key (ipI fun i j => i + j) _ ip_add fun x y z h => by
      obtain ⟨i, j, h1, h2, h3⟩ := inv x y z h
      exact ⟨i, j, h1, h2, (Option.some.inj h3).symm⟩
  · exact key (ipI fun i j => i - j) _ ip_sub fun x y z h => by
      obtain ⟨i, j, h1, h2, h3⟩ := inv x y z h
      exact ⟨i, j, h1, h2, (Option.some.inj h3).symm⟩
theorem setPar_cons {i : Nat} {l : List Nat} {ds : List D} {r r' : Rho} (h : setPar (i :: l) ds r = some r') : ∃ d ds', ds = d :: ds' ∧ i < r.length ∧ setPar l ds' (r.set i (.v d)) = some r' := by
  cases ds with
  | nil => cases h
  | cons d ds =>
    have h : (if i < r.length then setPar l ds (r.set i (.v d)) else none) = some r' := h
    by_cases e : i < r.length
    · rw [if_pos e] at h
      exact ⟨d, ds, rfl, e, h⟩
    · rw [if_neg e] at h
      cases h
/-- a, b = x, y -/
theorem rs_par2 {st : Stmt} {i j : Nat} {fl : Rho → M (List D)} (h : PS X st (tPar i j (tA W Wx fl))) : PS X st (tSt W Wx g0 H0 fun r => M.bind (fl r) fun xs => M.lift ((setPar [i, j] xs r).map .nx)) :=
  h.imp fun D σ H ⟨gb, r, g, B, a, out⟩ =>
    tA.go a.ok a.er (Stp.refl a.ok) (out.bind.e a.st) fun xs B1 g1 H1 vs q s1 _ ok1 rx => by
      obtain ⟨fl, hf, q2⟩ := OutS.lift q
      obtain ⟨r', hr, rfl⟩ := map_some' hf
      have a1 := a.up s1 ok1
      obtain ⟨d, ds1, rfl, h1, h2⟩ := setPar_cons hr
      obtain ⟨e, ds2, rfl, h3, h4⟩ := setPar_cons h2
      cases ds2 with
      | cons _ _ => cases h4
      | nil =>
        cases h4
        obtain ⟨v, vs', rfl, rd, rx⟩ := rx
        obtain ⟨w, vs'', rfl, re, rx⟩ := rx
        have rx : vs'' = [] := rx
        subst rx
        exact ⟨v, w, rfl, okS.nx (W := W) q2 ⟨a1.st, a1.gr, ok1, (a1.er.setV rd h1).setV re h3, (a1.fr.setV h1).setV h3⟩⟩
theorem rs_par3 {st : Stmt} {i j k : Nat} {fl : Rho → M (List D)} (h : PS X st (tPar3 i j k (tA W Wx fl))) : PS X st (tSt W Wx g0 H0 fun r => M.bind (fl r) fun xs => M.lift ((setPar [i, j, k] xs r).map .nx)) :=
  h.imp fun D σ H ⟨gb, r, g, B, a, out⟩ =>
    tA.go a.ok a.er (Stp.refl a.ok) (out.bind.e a.st) fun xs B1 g1 H1 vs q s1 _ ok1 rx => by
      obtain ⟨fl, hf, q2⟩ := OutS.lift q
      obtain ⟨r', hr, rfl⟩ := map_some' hf
      have a1 := a.up s1 ok1
      obtain ⟨d, ds1, rfl, h1, h2⟩ := setPar_cons hr
      obtain ⟨e, ds2, rfl, h3, h4⟩ := setPar_cons h2
      obtain ⟨f, ds3, rfl, h5, h6⟩ := setPar_cons h4
      cases ds3 with
      | cons _ _ => cases h6
      | nil =>
        cases h6
        obtain ⟨v, vs', rfl, rd, rx⟩ := rx
        obtain ⟨w, vs'', rfl, re, rx⟩ := rx
        obtain ⟨u, vs3, rfl, rf, rx⟩ := rx
        have rx : vs3 = [] := rx
        subst rx
        exact ⟨v, w, u, rfl, okS.nx (W := W) q2 ⟨a1.st, a1.gr, ok1, ((a1.er.setV rd h1).setV re h3).setV rf h5, ((a1.fr.setV h1).setV h3).setV h5⟩⟩
/-- for -/
theorem rs_for {tg iter : Expr} {body : List Stmt} {pos : Pos} {p : Pg} {fi : Rho → M (List D)} {fb : Rho → M Fl} (hp : PassesOwn (model X.prog X.w) X.A X.env X.xe) (hc : X.calm = true) (hi : PI X tg iter (iR W Wx fi)) (hg : PG X tg (gR W p)) (hb : PSs X body (tSt W Wx g0 H0 fb))
    (hs : ∀ x, foldedSetIterable iter X.env x = pure x) : PS X (.For tg iter body [] pos) (tSt W Wx g0 H0 fun r => M.bind (fi r) fun its => forM p fb its r) :=
  (ps_for hp hc hi hg hb hs).imp fun D σ H ⟨gb, r, g, B, a, out⟩ => by
    refine ⟨r, g, B, a.ok, a.er, (out.bind.e a.st).mono fun its B1 q g1 H1 J s1 ok1 hz wd => ?_⟩
    let Inv' : Nat → L2.St → Hp → Prop := fun i σ' H' => ∃ g' B' r', At W g0 H0 g1 g' B' H' r' σ' ∧ OutS W Wx g0 H0 (forM p fb (its.drop i) r' B') (okS W g0 H0 gb D)
    have a1 : At W g0 H0 g1 g1 B1 H1 r σ := ⟨a.st.trans s1, Grow.refl _, ok1, a.er.up s1, a.fr⟩
    refine ⟨fun i m σ' H' => i + m = its.length ∧ Inv' i σ' H', ⟨its.length, by omega, g1, B1, r, a1, q⟩, fun i m σ' H' ⟨him, g', B', r', a', q'⟩ => ?_⟩
    have gb1 : Grow gb g1 := a.gr.trans s1.grow
    by_cases hi : i < its.length
    · refine .inr ⟨wd.goes i g' B' H' a'.gr a'.ok hi, Inv' (i + 1), fun σ2 H2 h => ⟨m - 1, by omega, by omega, h⟩, fun x H'' hy => ?_⟩
      obtain ⟨d, hd⟩ := get_some hi
      obtain ⟨g2, s2, ok2, rx⟩ := wd.yields i d g' B' H' x H'' a'.gr a'.ok hd hy
      rw [drop_at hd] at q'
      obtain ⟨r1, h1, q1⟩ := OutS.lift (OutS.bind q')
      have a2 := a'.up s2 ok2
      refine ⟨r', g2, B', d, r1, ok2, a2.er, rx, h1, fun σ2 er2 hl hj => ⟨g1, r1, g2, B', ⟨a2.st, a2.gr, ok2, er2, a2.fr.tgt h1 hj⟩, (OutS.bind q1).mono fun f B3 q3 => ?_⟩⟩
      cases f with
      | nx r2 => exact fun g3 H3 σ3 st3 gr3 ok3 er3 fr3 => ⟨g3, B3, r2, ⟨st3, gr3, ok3, er3, fr3⟩, q3⟩
      | ct r2 => exact fun g3 H3 σ3 st3 gr3 ok3 er3 fr3 => ⟨g3, B3, r2, ⟨st3, gr3, ok3, er3, fr3⟩, q3⟩
      | bk r2 => exact fun g3 H3 σ3 st3 gr3 ok3 er3 fr3 => (show okS W g0 H0 gb D (.nx r2) B3 from q3) g3 H3 σ3 st3 (gb1.trans gr3) ok3 er3 fr3
      | rt d2 => exact fun g3 H3 v st3 gr3 ok3 rv => (show okS W g0 H0 gb D (.rt d2) B3 from q3) g3 H3 v st3 (gb1.trans gr3) ok3 rv
    · have ej : i = its.length := by omega
      refine .inl ⟨by rw [ej]; exact wd.stops g' B' H' a'.gr a'.ok, ?_⟩
      rw [ej, List.drop_length] at q'
      exact (show okS W g0 H0 gb D (.nx r') B' from q') g' H' σ' a'.st (gb1.trans a'.gr) a'.ok a'.er a'.fr
/-! while -/
theorem whN_mono {c : Rho → M Bool} {b : Rho → M Fl} : ∀ (n : Nat) (r : Rho) (B : Bs), (whN c b n r B).isNo = false → whN c b (n + 1) r B = whN c b n r B
  | 0, r, B, h => by cases h
  | n + 1, r, B, h => by
    have e1 : ∀ m, whN c b (m + 1) r B = M.bind (c r) (fun k => if k then M.bind (b r) fun f => match f with
      | .nx r' => whN c b m r'
      | .ct r' => whN c b m r'
      | .bk r' => M.ret (.nx r')
      | .rt d => M.ret (.rt d)
    else M.ret (.nx r)) B := fun m => rfl
    rw [e1 (n + 1), e1 n]
    rw [e1 n] at h
    unfold M.bind at h ⊢
    cases e : c r B with
    | ex x B1 => rfl
    | no => rfl
    | ok k B1 =>
      rw [e] at h
      cases k with
      | false => rfl
      | true =>
        simp only [if_true] at h ⊢
        cases e2 : b r B1 with
        | ex x B2 => rfl
        | no => rfl
        | ok f B2 =>
          rw [e2] at h
          cases f with
          | nx r' => exact whN_mono n r' B2 h
          | ct r' => exact whN_mono n r' B2 h
          | bk r' => rfl
          | rt d => rfl
theorem whN_le {c : Rho → M Bool} {b : Rho → M Fl} {n : Nat} {r : Rho} {B : Bs} (h : (whN c b n r B).isNo = false) : ∀ m, whN c b (n + m) r B = whN c b n r B
  | 0 => rfl
  | m + 1 => by
    rw [← whN_le h m]
    exact whN_mono (n + m) r B (by rw [whN_le h m]; exact h)
theorem whC_of {c : Rho → M Bool} {b : Rho → M Fl} {n : Nat} {r : Rho} {B : Bs} (h : (whN c b n r B).isNo = false) : whC c b r B = whN c b n r B := by
  unfold whC
  have hx : ∃ n, (whN c b n r B).isNo = false := ⟨n, h⟩
  rw [dif_pos hx]
  have h2 := hx.choose_spec
  rcases Nat.le_total n hx.choose with q | q
  · obtain ⟨m, e⟩ := Nat.le.dest q
    rw [← e]
    exact whN_le h m
  · obtain ⟨m, e⟩ := Nat.le.dest q
    rw [← e]
    exact (whN_le h2 m).symm
theorem whC_get {c : Rho → M Bool} {b : Rho → M Fl} {r : Rho} {B : Bs} : (∃ n, whC c b r B = whN c b n r B ∧ (whN c b n r B).isNo = false) ∨ whC c b r B = .no := by
  by_cases h : ∃ n, (whN c b n r B).isNo = false
  · exact .inl ⟨_, whC_of h.choose_spec, h.choose_spec⟩
  · right
    unfold whC
    rw [dif_neg h]
theorem OutS.isNo {x : R β} {q : β → Bs → Prop} (h : OutS W Wx g0 H0 x q) : x.isNo = false := by
  cases x with
  | ok a B => rfl
  | ex c B => rfl
  | no => exact h.elim
theorem rs_whl {c : Expr} {body : List Stmt} {pos : Pos} {fc : Rho → M Bool} {fb : Rho → M Fl} (hp : PassesOwn (model X.prog X.w) X.A X.env X.xe) (hc : PT X c (tT W Wx fc)) (hb : PSs X body (tSt W Wx g0 H0 fb)) :
    PS X (.While c body [] pos) (tSt W Wx g0 H0 fun r => whC fc fb r) :=
  (ps_while hp hc hb).imp fun D σ H ⟨gb, r, g, B, a, out⟩ => by
    rcases whC_get (c := fc) (b := fb) (r := r) (B := B) with ⟨n, e, _⟩ | e
    · have out : OutS W Wx g0 H0 (whC fc fb r B) (okS W g0 H0 gb D) := out
      rw [e] at out
      refine ⟨fun m σ' H' => ∃ g' B' r', At W g0 H0 gb g' B' H' r' σ' ∧ OutS W Wx g0 H0 (whN fc fb m r' B') (okS W g0 H0 gb D), ⟨n, g, B, r, a, out⟩, fun m σ' H' ⟨g', B', r', a', q⟩ => ?_⟩
      cases m with
      | zero => exact q.elim
      | succ m =>
        refine tT.go a'.ok a'.er (Stp.refl a'.ok) ((OutS.bind q).e a'.st) fun k B1 g1 H1 q1 s1 _ ok1 => ?_
        have a1 := a'.up s1 ok1
        cases k with
        | false =>
          simp only [Bool.false_eq_true, if_false] at q1 ⊢
          exact okS.nx (W := W) (r := r') q1 a1
        | true =>
          simp only [if_true] at q1 ⊢
          refine ⟨fun σ2 H2 => ∃ g' B' r', At W g0 H0 gb g' B' H2 r' σ2 ∧ OutS W Wx g0 H0 (whN fc fb m r' B') (okS W g0 H0 gb D), fun σ2 H2 h => ⟨m, by omega, h⟩, gb, r', g1, B1, a1, (OutS.bind q1).mono fun f B3 q3 => ?_⟩
          cases f with
          | nx r2 => exact fun g3 H3 σ3 st3 gr3 ok3 er3 fr3 => ⟨g3, B3, r2, ⟨st3, gr3, ok3, er3, fr3⟩, q3⟩
          | ct r2 => exact fun g3 H3 σ3 st3 gr3 ok3 er3 fr3 => ⟨g3, B3, r2, ⟨st3, gr3, ok3, er3, fr3⟩, q3⟩
          | bk r2 => exact q3
          | rt d2 => exact q3
    · have out : OutS W Wx g0 H0 (whC fc fb r B) (okS W g0 H0 gb D) := out
      rw [e] at out
      exact out.elim
end
end Pl

-- part P9b
set_option maxHeartbeats 4000000
/-! The pure layer 9b: is this statement that tree; statements do what their trees say. -/
namespace Pl
open PySem PySem.Spec PyProof.Rows L2
section
variable {X : Cx} {W : Wd} {Wx : WX} {g g1 : Gs} {B : Bs} {H H1 : Hp} {σ : L2.St} {r : Rho} {tg : Expr}
theorem rs_setlc {elt iter : Expr} {y : Str} {py spos : Pos} {i : Nat} {ifs : List Expr} {scope : Scope} {own : List (Str × Nat)} {pos : Pos} {p : Pg} {fi : Rho → M (List D)} {ft : Rho → M Bool} {fe : Rho → M D} {w : List Nat} (hc : X.calm = true) (hN : X.N.Nodup) (hy : X.N[i]? = some y) (hyl : X.env.scope.names.lookup y = some .local)
    (hsw : swapsWith (.ListComp elt [⟨tg, iter, ifs, 0⟩] scope pos) (some (.Name y py)) spos.line X.env = pure true) (hi : PI X tg iter (iR W Wx fi)) (ok : BlkOk X.N X.env.scope scope own)
    (hw : own.map (·.2) = w) (hsub : ∀ j ∈ gsl p, j ∈ w) (hg : ∀ (s : Shared) (H : Hp) (C : Addr) (cl : List (Str × Addr)) (fp : List Addr), PG (X.blk s H scope (compEnvC scope cl C X.env) fp) tg (gR W p)) (ht : ∀ (s : Shared) (H : Hp) (C : Addr) (cl : List (Str × Addr)) (fp : List Addr), PTs (X.blk s H scope (compEnvC scope cl C X.env) fp) ifs (tT W Wf ft))
    (he : ∀ (s : Shared) (H : Hp) (C : Addr) (cl : List (Str × Addr)) (fp : List Addr), PE (X.blk s H scope (compEnvC scope cl C X.env) fp) elt (tE W Wf fe)) (hs : ∀ x, foldedSetIterable iter X.env x = pure x) :
    PS X (.Assign [.Name y py] (.ListComp elt [⟨tg, iter, ifs, 0⟩] scope pos) spos) (tAsg (tF W Wx fun r => M.bind (fi r) fun its => M.calm (lcM (turnM p ft fe (wipeR r w)) its)) (gName i)) := by
  subst hw
  exact (ps_setLc hc hN hy hyl hsw hi ok hg ht he hs).imp fun D σ H h => lc_read hsub h
theorem rs_setlc2 {elt iter tg1 iter1 : Expr} {y : Str} {py spos : Pos} {i : Nat} {scope : Scope} {ifs1 : List Expr} {own : List (Str × Nat)} {pos : Pos} {p p2 : Pg} {fi fi2 : Rho → M (List D)} {ft : Rho → M Bool} {fe : Rho → M D} {w : List Nat} (hc : X.calm = true) (hN : X.N.Nodup) (hy : X.N[i]? = some y) (hyl : X.env.scope.names.lookup y = some .local)
    (hsw : swapsWith (.ListComp elt [⟨tg, iter, [], 0⟩, ⟨tg1, iter1, ifs1, 0⟩] scope pos) (some (.Name y py)) spos.line X.env = pure true) (hi : PI X tg iter (iR W Wx fi)) (ok : BlkOk X.N X.env.scope scope own)
    (hw : own.map (·.2) = w) (hsub : ∀ j ∈ gsl p, j ∈ w) (hsub2 : ∀ j ∈ gsl p2, j ∈ w) (hg : ∀ (s : Shared) (H : Hp) (C : Addr) (cl : List (Str × Addr)) (fp : List Addr), PG (X.blk s H scope (compEnvC scope cl C X.env) fp) tg (gR W p))
    (hi2 : ∀ (s : Shared) (H : Hp) (C : Addr) (cl : List (Str × Addr)) (fp : List Addr), PI (X.blk s H scope (compEnvC scope cl C X.env) fp) tg1 iter1 (iR W Wf fi2))
    (hg2 : ∀ (s : Shared) (H : Hp) (C : Addr) (cl : List (Str × Addr)) (fp : List Addr), PG (X.blk s H scope (compEnvC scope cl C X.env) fp) tg1 (gR W p2)) (ht : ∀ (s : Shared) (H : Hp) (C : Addr) (cl : List (Str × Addr)) (fp : List Addr), PTs (X.blk s H scope (compEnvC scope cl C X.env) fp) ifs1 (tT W Wf ft))
    (he : ∀ (s : Shared) (H : Hp) (C : Addr) (cl : List (Str × Addr)) (fp : List Addr), PE (X.blk s H scope (compEnvC scope cl C X.env) fp) elt (tE W Wf fe)) (hs : ∀ x, foldedSetIterable iter X.env x = pure x) (hs2 : ∀ env x, foldedSetIterable iter1 env x = pure x) :
    PS X (.Assign [.Name y py] (.ListComp elt [⟨tg, iter, [], 0⟩, ⟨tg1, iter1, ifs1, 0⟩] scope pos) spos) (tAsg (tF W Wx fun r => M.bind (fi r) fun its => M.bind (M.calm (lc2M (turn2M p p2 fi2 ft fe (wipeR r w)) its)) lstM) (gName i)) := by
  subst hw
  exact (ps_setLc2 (vs1 := gsl p2) hc hN hy hyl hsw hi ok hsub2 hg (fun _ _ _ _ _ => pts_nil) hi2 hg2 ht he hs hs2).imp fun D σ H h => lc2_read hsub h
end
/-- whether a comprehension that is stored by that name is stored ahead of its variables' end -/
def swapB (env : Env) (y : Str) (py pos : Pos) (scope : Scope) : Bool := env.blockKind == .function && env.kindOf y == some .local && py.line == pos.line && !(scope.names.any fun (n, k) => n == y && (k == .local || k == .cell))
theorem swapB_ok {elt : Expr} {gens : List Comprehension} {scope : Scope} {pos py : Pos} {y : Str} {l : Nat} {env : Env} : swapsWith (.ListComp elt gens scope pos) (some (.Name y py)) l env = pure (swapB env y py pos scope) := rfl
def noComp : Expr → Bool
  | .ListComp _ _ _ _ => false
  | .SetComp _ _ _ _ => false
  | .DictComp _ _ _ _ _ => false
  | _ => true
theorem noComp_ok {e : Expr} {tg : Option Expr} {l : Nat} {env : Env} (h : noComp e = true) : swapsWith e tg l env = pure false := by
  cases e <;> first | rfl | cases h
section
variable {C : Cf} {W : Wd} {k : Nat} {t : Tc} {X : Cx} {Wx : WX}
theorem s_lcS {elt tg iter : Expr} {ifs es : List Expr} {scope : Scope} {pos py spos : Pos} {y : Str} {i : Nat} {g : Pg} {ik : Ik} {l ts : List Pe} {el : Pe} {w : List Nat} (cx : CtxOk C W k t X Wx) (hy : okTgt t y i = true) (hcm : t.calm = true) (hb : chkBlk t w scope = true) (hsub : (gsl g).all (fun i => w.contains i) = true) (hG : chkG (t.blk scope) g tg = true)
    (hit : itArgs t ik tg iter = some es) (hl : AllE C W X Wx l es) (ht : ∀ X' : Cx, CtxOk C W k (t.blk scope) X' Wf → PTs X' ifs (tT W Wf (evTs C ts))) (he : ∀ X' : Cx, CtxOk C W k (t.blk scope) X' Wf → PE X' elt (tE W Wf (ev C el))) :
    PS X (.Assign [.Name y py] (.ListComp elt [⟨tg, iter, ifs, 0⟩] scope pos) spos) (tAsg (tF W Wx (evF C (.lc g ik l ts el w))) (gName i)) := by
  obtain ⟨h1, h2, h3⟩ := tgt_ok cx hy
  cases e : swapB X.env y py pos scope with
  | false => exact ps_set cx.nd h1 h2 (s_lcF cx hcm hb hsub hG hit hl ht he) (by rw [swapB_ok, e]) h3
  | true =>
    obtain ⟨b1, b2⟩ := chkBlk_ok cx hb
    obtain ⟨i1, i2⟩ := s_it cx hit hl
    have hyl : X.env.scope.names.lookup y = some .local := by
      unfold swapB at e
      simp only [Bool.and_eq_true] at e
      have := e.1.1.2
      unfold Env.kindOf at this
      exact eq_of_beq this
    have := rs_setlc (pos := pos) (py := py) (spos := spos) (cx.calm hcm) cx.nd h1 hyl (by rw [swapB_ok, e]) i1 b1 b2 (all_mem hsub) (fun s H A cl fp => sG (cx.blk (cx.ne hcm) s H scope cl A fp) g tg hG) (fun s H A cl fp => ht _ (cx.blk (cx.ne hcm) s H scope cl A fp)) (fun s H A cl fp => he _ (cx.blk (cx.ne hcm) s H scope cl A fp)) (noSet_ok i2)
    simp only [M.bind_assoc] at this
    exact this
theorem s_lc2S {elt tg iter tg2 iter2 : Expr} {ifs es es2 : List Expr} {scope : Scope} {pos py spos : Pos} {y : Str} {i : Nat} {g g2 : Pg} {ik ik2 : Ik} {l l2 ts : List Pe} {el : Pe} {w : List Nat} (cx : CtxOk C W k t X Wx) (hy : okTgt t y i = true) (hcm : t.calm = true) (hb : chkBlk t w scope = true) (hsub : (gsl g).all (fun i => w.contains i) = true) (hsub2 : (gsl g2).all (fun i => w.contains i) = true)
    (hG : chkG (t.blk scope) g tg = true) (hG2 : chkG (t.blk scope) g2 tg2 = true) (hit : itArgs t ik tg iter = some es) (hl : AllE C W X Wx l es) (hit2 : itArgs (t.blk scope) ik2 tg2 iter2 = some es2) (hl2 : ∀ X' : Cx, CtxOk C W k (t.blk scope) X' Wf → AllE C W X' Wf l2 es2)
    (ht : ∀ X' : Cx, CtxOk C W k (t.blk scope) X' Wf → PTs X' ifs (tT W Wf (evTs C ts))) (he : ∀ X' : Cx, CtxOk C W k (t.blk scope) X' Wf → PE X' elt (tE W Wf (ev C el))) :
    PS X (.Assign [.Name y py] (.ListComp elt [⟨tg, iter, [], 0⟩, ⟨tg2, iter2, ifs, 0⟩] scope pos) spos) (tAsg (tF W Wx (evF C (.lc2 g ik l g2 ik2 l2 ts el w))) (gName i)) := by
  obtain ⟨h1, h2, h3⟩ := tgt_ok cx hy
  cases e : swapB X.env y py pos scope with
  | false => exact ps_set cx.nd h1 h2 (s_lc2F cx hcm hb hsub hsub2 hG hG2 hit hl hit2 hl2 ht he) (by rw [swapB_ok, e]) h3
  | true =>
    obtain ⟨b1, b2⟩ := chkBlk_ok cx hb
    obtain ⟨i1, i2⟩ := s_it cx hit hl
    have i3 : noSet iter2 = true := by
      unfold itArgs at hit2
      split at hit2
      · exact (ite_some hit2).1
      all_goals first | rfl | cases hit2
    have hyl : X.env.scope.names.lookup y = some .local := by
      unfold swapB at e
      simp only [Bool.and_eq_true] at e
      have := e.1.1.2
      unfold Env.kindOf at this
      exact eq_of_beq this
    have := rs_setlc2 (pos := pos) (py := py) (spos := spos) (cx.calm hcm) cx.nd h1 hyl (by rw [swapB_ok, e]) i1 b1 b2 (all_mem hsub) (all_mem hsub2) (fun s H A cl fp => sG (cx.blk (cx.ne hcm) s H scope cl A fp) g tg hG) (fun s H A cl fp => (s_it (cx.blk (cx.ne hcm) s H scope cl A fp) hit2 (hl2 _ (cx.blk (cx.ne hcm) s H scope cl A fp))).1) (fun s H A cl fp => sG (cx.blk (cx.ne hcm) s H scope cl A fp) g2 tg2 hG2)
      (fun s H A cl fp => ht _ (cx.blk (cx.ne hcm) s H scope cl A fp)) (fun s H A cl fp => he _ (cx.blk (cx.ne hcm) s H scope cl A fp)) (noSet_ok i2) (fun _ => noSet_ok i3)
    unfold turn2M at this
    simp only [M.bind_assoc] at this
    exact this
/-- a list that nobody else knows, stored by a name -/
def freshP : Pe → Bool
  | .lst _ => true
  | .bin .mul (.lst _) _ => true
  | .bi .list _ => true
  | .lc _ _ _ _ _ _ => true
  | .lc2 _ _ _ _ _ _ _ _ _ => true
  | _ => false
theorem sFset {p : Pe} {e : Expr} {y : Str} {i : Nat} {py spos : Pos} (cx : CtxOk C W k t X Wx) (hy : okTgt t y i = true) (hf : freshP p = true) (h : chkE t p e = true) : PS X (.Assign [.Name y py] e spos) (tAsg (tF W Wx (evF C p)) (gName i)) := by
  obtain ⟨h1, h2, h3⟩ := tgt_ok cx hy
  unfold freshP at hf
  split at hf
  · rename_i l
    unfold chkE at h
    split at h
    · simp only [Bool.and_eq_true] at h
      exact ps_set cx.nd h1 h2 (rf_lst ((sEs l t X Wx _ cx h.2).pa h.1)) rfl h3
    · cases h
  · rename_i l b
    unfold chkE at h
    split at h
    · rename_i el op er pos
      simp only [Bool.and_eq_true] at h
      obtain ⟨⟨q1, q2⟩, q3⟩ := h
      have e1 := bopIs_ok q1
      subst e1
      unfold chkE at q2
      split at q2
      · simp only [Bool.and_eq_true] at q2
        exact ps_set cx.nd h1 h2 (rf_rep (rf_lst ((sEs l t X Wx _ cx q2.2).pa q2.1)) (sE b t X Wx _ cx q3)) rfl h3
      · cases q2
    · cases h
  · rename_i l
    unfold chkE at h
    split at h
    · rename_i x p es pos
      simp only [Bool.and_eq_true, decide_eq_true_eq, Bool.not_eq_true'] at h
      obtain ⟨⟨⟨⟨⟨⟨⟨hcm, h0⟩, q1⟩, q2⟩, q3⟩, q4⟩, q5⟩, q6⟩ := h
      have ae := sEs l t X Wx _ cx q6
      cases es with
      | nil => cases q5
      | cons e1 es =>
        obtain ⟨g1, g2, g3⟩ := cx.glob q2
        have q4' := q4
        rw [List.all_cons, Bool.and_eq_true] at q4
        subst q1
        exact ps_set cx.nd h1 h2 (rf_list cx.hK g1 (cx.blt q3) (by decide +kernel) (ae.pa q4') g3 g2 (star_ok q4.1) (star_any q4.2)) rfl h3
    · cases h
  · rename_i g ik l ts el w
    unfold chkE at h
    split at h
    · simp only [Bool.and_eq_true] at h
      obtain ⟨⟨⟨⟨⟨⟨hcm, q1⟩, q2⟩, q3⟩, q4⟩, q5⟩, q6⟩ := h
      split at q4
      · rename_i es hit
        exact s_lcS cx hy hcm q1 q2 q3 hit (sEs l t X Wx _ cx q4) (fun X' cx' => sTs ts _ X' Wf _ cx' q5) (fun X' cx' => sE el _ X' Wf _ cx' q6)
      · cases q4
    · cases h
  · rename_i g ik l g2 ik2 l2 ts el w
    unfold chkE at h
    split at h
    · simp only [Bool.and_eq_true] at h
      obtain ⟨⟨⟨⟨⟨⟨⟨⟨⟨hcm, q1⟩, q2⟩, q2b⟩, q3⟩, q3b⟩, q4⟩, q4b⟩, q5⟩, q6⟩ := h
      split at q4
      · rename_i es hit
        split at q4b
        · rename_i es2 hit2
          exact s_lc2S cx hy hcm q1 q2 q2b q3 q3b hit (sEs l t X Wx _ cx q4) hit2 (fun X' cx' => sEs l2 _ X' Wf _ cx' q4b) (fun X' cx' => sTs ts _ X' Wf _ cx' q5) (fun X' cx' => sE el _ X' Wf _ cx' q6)
        · cases q4b
      · cases q4
    · cases h
  · cases hf
/-- a value, stored by a name -/
theorem sEset {p : Pe} {e : Expr} {y : Str} {i : Nat} {py spos : Pos} (cx : CtxOk C W k t X Wx) (hy : okTgt t y i = true) (h : chkE t p e = true) : PS X (.Assign [.Name y py] e spos) (tAsg (tE W Wx (ev C p)) (gName i)) := by
  obtain ⟨h1, h2, h3⟩ := tgt_ok cx hy
  cases hc : noComp e with
  | true => exact ps_set cx.nd h1 h2 (sE p t X Wx e cx h) (noComp_ok hc) h3
  | false =>
    -- a comprehension
    have key : freshP p = true → ev C p = (fun r => M.lst (evF C p r)) → PS X (.Assign [.Name y py] e spos) (tAsg (tE W Wx (ev C p)) (gName i)) := fun hf he => by
      rw [he]
      exact (sFset cx hy hf h).imp fun D σ H q => tF.ice q
    cases e with
    | ListComp elt gens scope pos =>
      cases p with
      | lc g ik l ts el w => exact key rfl rfl
      | lc2 g ik l g2 ik2 l2 ts el w => exact key rfl rfl
      | c d => unfold chkE chkC at h; cases d <;> cases h
      | no => exact ⟨fun pins s σ H D I ⟨r, g, B, ok, er, out⟩ => out.elim⟩
      | _ => unfold chkE at h; cases h
    | SetComp _ _ _ _ =>
      cases p with
      | c d => unfold chkE chkC at h; cases d <;> cases h
      | no => exact ⟨fun pins s σ H D I ⟨r, g, B, ok, er, out⟩ => out.elim⟩
      | _ => unfold chkE at h; cases h
    | DictComp _ _ _ _ _ =>
      cases p with
      | c d => unfold chkE chkC at h; cases d <;> cases h
      | no => exact ⟨fun pins s σ H D I ⟨r, g, B, ok, er, out⟩ => out.elim⟩
      | _ => unfold chkE at h; cases h
    | _ => cases hc
/-! tuples that are stored at once -/
def swapN (sc : Scope) (ts vs : List Expr) : Option (Option (List Str)) :=
  if !(ts.length == 2 || ts.length == 3) || vs.length != ts.length then some none else
  if (vs.any fun | .Starred .. => true | _ => false) then some none else
  let line := (ts.head?.map (·.pos.line)).getD 0
  let names := ts.filterMap fun
    | .Name id pos => if sc.names.lookup id == some .local && pos.line == line then some id else none
    | _ => none
  if names.length != ts.length || names.eraseDups.length != names.length then some none else
  if vs.all (foldedForSure 8) then some none else
  if vs.all (constantsAlone 8) then none else some (some names)
theorem swapN_ok {env : Env} {ts vs : List Expr} {kt k2 : Nat} {pt pt2 : Pos} {o : Option (List Str)} (hk : env.blockKind = .function) (h : swapN env.scope ts vs = some o) : swappedStores [.Tuple ts kt pt] (.Tuple vs k2 pt2) env = pure o := by
  have hb : (env.blockKind != .function) = false := by rw [hk]; rfl
  unfold swapN at h
  unfold swappedStores
  simp only [hb, Bool.or_false]
  split at h
  · rename_i q
    cases h
    exact if_pos q
  · rename_i q
    refine (if_neg q).trans ?_
    split at h
    · rename_i q2
      cases h
      exact if_pos q2
    · rename_i q2
      refine (if_neg q2).trans ?_
      simp only at h
      split at h
      · rename_i q3
        cases h
        exact if_pos q3
      · rename_i q3
        refine (if_neg q3).trans ?_
        split at h
        · rename_i q4
          cases h
          exact if_pos q4
        · rename_i q4
          refine (if_neg q4).trans ?_
          split at h
          · cases h
          · rename_i q5
            cases h
            exact if_neg q5
end
end Pl

-- part Q1
set_option maxHeartbeats 4000000
/-! The own exceptions: __init__ says super().__init__('..'). -/
namespace Pl
open PySem PySem.Spec PySem.Calls PySem.W PyProof.Rows
section
variable {prog : Program} {w : World} {A : Around} {E : Value → Shared → Prop} {s : Shared} {h₀ : Heap} {L : Addr} {m mg mb : Str → Option Value} {news : List (Addr × Obj)} {K : PySem.W.Frag} {x C D f cc cda so : Addr} {ox : Obj} {odx : Option Obj}
theorem sup_node {body : List Stmt} {q : Str} {scope : Scope} {p0 p1 : Pos} {attr : Str} {whole : Sem Value} {fd : FuncData} {ar : Arg} {vs : Array Value} {file : Str} {tf : Tok} {oc ccl cl : Value} {od cdd cld : Option Addr} {osl ccs csl : Array (Option Value)} {cdD : ClassData} {Q : Value → Shared → Prop}
    (F : PyProof.Rows.Fr h₀ L s.heap m) (X₀ : K.In h₀) (N : News h₀ L s.heap news) (tg : h₀.Ns mainGlobals mg) (tgs : mg "super" = none) (tb : h₀.Ns builtinsNs mb) (tbs : mb "super" = some (.type "super"))
    (hf : K.lookup f = some ⟨oc, od, .func fd, osl⟩) (hp : (fd.params.posonlyargs ++ fd.params.args).head? = some ar) (hv : m ar.arg = some (.ref x)) (I : PySem.W.InstAt s.heap x ox C odx)
    (hcode : K.lookup cda = some ⟨ccl, cdd, .fields vs, ccs⟩) (hvs : vs[2]? = some (.str file tf)) (hfile : ((prog.main.file : Str) == file) = true)
    (hcell : K.lookup cc = some ⟨cl, cld, .cell (some (.ref D)), csl⟩) (hD : clsIn K D = some cdD) (hsub : mroIn K C (.ref D) = some true)
    (hat : (attr == ("__class__" : Str)) = false) (hks : scope.names.lookup ("super" : Str) = some .globalImplicit) (hkc : scope.names.lookup ("__class__" : Str) = some .free) (hka : scope.names.lookup ar.arg = some .local) (hk : scope.kind = .function)
    (htop : (prog.main.scope.names.lookup ("super" : Str)).isSome = false)
    (h : ∀ so h', PyProof.Rows.Fr h₀ L h' m → News h₀ L h' ((so, ks_superObj D x C) :: news) → (∀ p ∈ news, p.1 < so) → Q (.ref so) { s with heap := h' }) :
    _root_.PySem.wpAt (model prog w) A (.func body (ksEnv q scope L f (.ref cda) cc)) (attributeBase (.Call (.Name "super" p0) [] [] p1) attr (ksEnv q scope L f (.ref cda) cc) whole) Q E s := by
  have X : K.In s.heap := X₀.keeps F.keep
  obtain ⟨hh, g, d, t, os⟩ := s
  obtain ⟨oD, hD1, hD2⟩ : ∃ oD, hh.get? D = some oD ∧ oD.data = .cls cdD := by
    unfold clsIn at hD
    split at hD
    · rename_i c d cd' sl ho
      cases hD
      exact ⟨_, X _ _ ho, rfl⟩
    · cases hD
  refine ks_wpAt_super_base (env := ksEnv q scope L f (.ref cda) cc) hks hkc hat rfl (X _ _ hf) rfl hp rfl (X _ _ hcode) rfl hvs hfile htop ?_
  refine ks_loadName_global hk hks (loadGlobal_builtin (env := ksEnv q scope L f (.ref cda) cc) (tg.keeps F.keep) tgs (tb.keeps F.keep) tbs ⟨rfl, ?_⟩)
  refine wpAny_loadName_free hk hkc rfl ⟨_, X _ _ hcell, rfl⟩ ?_
  refine wpAny_loadName_local hk hka F.ns hv ?_
  refine ks_wpAny_isType_cls hD1 hD2 ⟨rfl, ?_⟩
  refine ks_wpAny_call_super hD1 hD2 I.at_ I.cls (fun c e => ?_) (looks_mroIn X hsub) (fun h' e k => ?_)
  · have := I.no
    unfold notCls at this
    rw [e] at this
    exact Bool.noConfusion this
  · obtain ⟨F', N', l'⟩ := ks_newsPush (s := ⟨hh, g, d, t, os⟩) F N rfl e k
    exact h _ _ F' N' l'
end
theorem eval_super_call {env : Env} {msg : Str} {j : Nat} {p0 p1 p2 p3 p4 : Pos} (hline : (p2.endLine == p4.line) = true) : eval (.Call (.Attribute (.Call (.Name "super" p0) [] [] p1) "__init__" p2) [.Constant (.str msg) j p3] [] p4) env = (do
      let ov ← attributeBase (.Call (.Name "super" p0) [] [] p1) "__init__" env (eval (.Call (.Name "super" p0) [] [] p1) env)
      standAt p2.atName
      let (f, first) ← holding [ov] (getMethod ov "__init__" (do return (← importBound (.Call (.Name "super" p0) [] [] p1) env).getD true))
      callWith p4 f first (backTo p4 (starEach [.Constant (.str msg) j p3] env)) []) := by
  have hpos : methodCallPos true (.Call (.Name "super" p0) [] [] p1) env p2 p4 = pure p4 := by unfold methodCallPos; simp [hline]
  rw [arm_eval_Call]
  unfold methodCall
  have hform : methodCallForm ([Expr.Constant (Const.str msg) j p3].length + ([] : List Keyword).length) (backTo p4 (starEach [Expr.Constant (Const.str msg) j p3] env)) (backToKw p4 (keywordEach [] env)) = true := rfl
  rw [hform]
  simp only [hpos, pure_bind]
  rfl
section
variable {prog : Program} {w : World} {A : Around} {s : Shared} {h₀ : Heap} {mg mb : Str → Option Value} {K : PySem.W.Frag} {C : Addr}
theorem call_init0 {R : Result → Shared → Prop} {e t0 fI cc cda : Addr} {qual : Str} {params : Arguments} {scope : Scope} {dV kV doc pm ct oc : Value} {an od : Option Addr} {osl : Array (Option Value)} {ar : Arg} {vs : Array Value} {file : Str} {tf : Tok} {ccl cl : Value} {cdd cld : Option Addr} {ccs csl : Array (Option Value)} {cdC : ClassData} {msg : Str} {j : Nat} {p0 p1 p2 p3 p4 p5 : Pos}
    (T : XcOk prog K C) (X₀ : K.In h₀) (kp : ∀ b o, h₀.get? b = some o → s.heap.get? b = some o) (hsz : h₀.objs.size ≤ s.heap.objs.size) (e0 : h₀.get? e = none) (he : s.heap.get? e = some (HandSPX.excO C t0))
    (tg : h₀.Ns mainGlobals mg) (tgs : mg "super" = none) (tb : h₀.Ns builtinsNs mb) (tbs : mb "super" = some (.type "super")) (lim : s.heap.NoLimit) (hroom : A.depth < recursionLimit) (htop : (prog.main.scope.names.lookup ("super" : Str)).isSome = false)
    (lk : K.lookup fI = some ⟨oc, od, .func (ksFn "__init__" qual params [.Expr (.Call (.Attribute (.Call (.Name "super" p0) [] [] p1) "__init__" p2) [.Constant (.str msg) j p3] [] p4) p5] scope dV kV doc pm an (.ref cda) ct cc), osl⟩)
    (hcd : codeIn K (.ref cda) qual = true) (hp : (params.posonlyargs ++ params.args).head? = some ar) (hcode : K.lookup cda = some ⟨ccl, cdd, .fields vs, ccs⟩) (hvs : vs[2]? = some (.str file tf)) (hfile : ((prog.main.file : Str) == file) = true)
    (hcell : K.lookup cc = some ⟨cl, cld, .cell (some (.ref C)), csl⟩) (hD : clsIn K C = some cdC) (hks : scope.names.lookup ("super" : Str) = some .globalImplicit) (hkc : scope.names.lookup ("__class__" : Str) = some .free) (hka : scope.names.lookup ar.arg = some .local) (hk : scope.kind = .function)
    (hco : scope.isCoroutine = false) (hgen : scope.isGenerator = false) (hnc : ∀ x ∈ scope.names, x.2 ≠ .cell) (hb : L2.Binds K (ksFn "__init__" qual params [.Expr (.Call (.Attribute (.Call (.Name "super" p0) [] [] p1) "__init__" p2) [.Constant (.str msg) j p3] [] p4) p5] scope dV kV doc pm an (.ref cda) ct cc) [ar.arg] [])
    (hline : (p2.endLine == p4.line) = true)
    (hR : ∀ h' t1 tk, (∀ b o, h₀.get? b = some o → h'.get? b = some o) → h'.get? e = some (HandSPX.excO C t1) → R (.ok (.ret .none)) { s with heap := h', toks := tk }) :
    codeAny (model prog w) A (.call (.ref fI) ⟨[.ref e], []⟩) R s := by
  have KX : K.In s.heap := X₀.keeps kp
  have bt := hb s [.ref e] KX rfl
  refine ks_codeAny_call_defAt hroom (KX _ _ lk) rfl lim (codeRec_of KX hcd) rfl bt hnc ?_ (fun h₁ hns hk₁ => ?_) hco hgen hk
  · intro y hy
    have : y = (ar.arg, .ref e) := by simpa using hy
    subst this
    exact hka
  have F1 : PyProof.Rows.Fr h₀ s.heap.objs.size h₁ (fun x => [(ar.arg, Value.ref e)].reverse.lookup x) := ⟨hns, fun b o z => hk₁ b o (kp b o z), hsz⟩
  have N1 : News h₀ s.heap.objs.size h₁ [(e, HandSPX.excO C t0)] := fun p hp => by
    have : p = (e, HandSPX.excO C t0) := by simpa using hp
    subst this
    exact ⟨hk₁ _ _ he, Nat.ne_of_lt (Heap.lt_size he), e0⟩
  have xe : ∀ {p : Addr × Obj} {q : Addr} {o : Obj}, p ∈ [(q, o)] → p.1 = q := fun {p q o} h => by
    have : p = (q, o) := by simpa using h
    rw [this]
  refine ks_wpAt_execs_cons (ks_wpAt_Expr_any (ks_wpAt_MethodCall (sup_node (x := e) (C := C) (D := C) (s := { s with heap := h₁, toks := s.toks + 1 }) F1 X₀ N1 tg tgs tb tbs lk hp (by simp [List.lookup]) (InstAt.of_exc0 (t := t0) (c2 := .none) N1 (by simp)) hcode hvs hfile hcell hD T.sub (by decide) hks hkc hka hk htop fun so h2 F2 N2 l2 => ?_) (eval_super_call hline)) ?_ rfl)
  · refine kxs_method (x := e) (C := C) (D := C) (s := { s with heap := h2, toks := s.toks + 1 }) kxs_ValueError F2 X₀ N2 (by simp) (InstAt.of_exc0 (t := t0) (c2 := .none) N2 (by simp)) T.any T.sup T.ve (by decide) fun q h3 F3 N3 l3 => ?_
    have le : e < so := l2 (e, HandSPX.excO C t0) (by simp)
    have lq : so < q := l3 (so, ks_superObj C e C) (by simp)
    have leq : e < q := l3 (e, HandSPX.excO C t0) (by simp)
    refine kxs_callWith1 (x := e) (i := "ValueError.__init__") N3 (by simp) (Calls.spliced_cons (Calls.Constant_str (k := j) (pos := p3) (Calls.spliced_nil ⟨kxs_at (u := q) (x := e) (i := "ValueError.__init__") N3 (by simp), ?_⟩)))
    refine kxs_call (x := e) (C := C) (t := t0) (s := { s with heap := h3, toks := s.toks + 1 + 1 + 1 }) (dv := none) (c2 := .none) F3 X₀ N3 F.excBase_ValueError T.exc (by simp) (.tail (Nat.ne_of_gt leq) (.tail (Nat.ne_of_gt le) (.head fun p hp => by cases hp))) (by show 1 ≤ sizeLine; decide) fun t' h4 F4 N4 l4 => ?_
    show _root_.PySem.wpAt _ _ _ (execs [] _) _ _ _
    rw [execs_nil]
    refine wpAt_of_wpAny (wpAny_pure ?_)
    exact hR h4 t' _ F4.keep (N4 (e, _) (by simp)).1
  · show (scope.kind == .module && _) = false
    rw [hk]
    rfl
end
end Pl

-- part Q2
set_option maxHeartbeats 4000000
/-! An own exception is made. -/
namespace Pl
open PySem PySem.Spec PyProof.Rows L2
section
variable {X : Cx} {C : Addr} {x : Str} {p pos : Pos}
theorem pmk_xc (T : XcOk X.prog X.K C) (hg : Gl X x) (hm : X.mg x = some (.ref C)) (hd : X.A.depth + 5 < recursionLimit) (htop : (X.prog.main.scope.names.lookup ("super" : Str)).isSome = false) (hs : X.mg "super" = none) (hdb : (x == ("__debug__" : Str)) = false) :
    PMk X (.Call (.Name x p) [] [] pos) (fun σ H Q => Q (.ref C) none H) := by
  intro pins s σ H Q I h
  obtain ⟨fI, cc, cda, qual, params, scope, dV, kV, doc, pm, ct, oc, an, od, osl, ar, vs, file, tf, ccl, cl, cdd, cld, ccs, csl, cdC, msg, j, p0, p1, p2, p3, p4, p5, lk, hcd, hp, hcode, hvs, hfile, hcell, hD, hks, hkc, hka, hk, hco, hgen, hnc, hb, iC, tI, hline⟩ := T.it
  refine wpAny_Call_Name_kw (ld_glob I hg hm ?_ hdb)
  refine PySem.W.callWith_K0 I.kIn T.keep ?_
  obtain ⟨nm, N', qn, bs, bm, hdct, sn, sub, ab, col, dd, k0, k1, k2, k3, k5, hC, hT⟩ := PySem.W.excInit_of I.kIn T.exc
  obtain ⟨mb, b1, b2⟩ := I.mod.blt
  have kB := I.bk
  have nl := I.nolimit
  have tg := I.mod.glob.keeps I.bk
  have tb := b1.keeps I.bk
  have KI := I.kIn
  have hn : H (s.heap.objs.size + 1) = none := I.hok.fresh (Nat.le_succ _)
  obtain ⟨hp', g, dr, tk, os⟩ := s
  have kk : ∀ b o, hp'.get? b = some o → ((hp'.push (PySem.W.kdv_tup [])).push (PySem.HandSPX.excO C hp'.objs.size)).get? b = some o := fun b o e => Heap.get?_push_of_some _ (Heap.get?_push_of_some _ e)
  have hget : ((hp'.push (PySem.W.kdv_tup [])).push (PySem.HandSPX.excO C hp'.objs.size)).get? (hp'.objs.size + 1) = some (PySem.HandSPX.excO C hp'.objs.size) := by heap_get
  have e0 : hp'.get? (hp'.objs.size + 1) = none := by
    cases q : hp'.get? (hp'.objs.size + 1) with
    | none => rfl
    | some o => exact absurd (Heap.lt_size q) (Nat.not_lt.mpr (Nat.le_succ _))
  refine wpAny_call (PySem.HandSPX.call_own F.excBase_ValueError hT hC (PySem.W.looks_findIn KI iC) (fun self => PySem.W.bind_fn KI self tI) (Nat.zero_le _)
    (call_init0 (h₀ := hp') (mg := X.mg) (mb := mb) (t0 := hp'.objs.size) T KI kk ?_ e0 hget tg hs tb ((b2 "super" (by decide)).trans (by decide +kernel)) ?_ ?_ htop lk hcd hp hcode hvs hfile hcell hD hks hkc hka hk hco hgen hnc hb hline ?_))
  · show hp'.objs.size ≤ ((hp'.push _).push _).objs.size
    rw [Heap.size_push, Heap.size_push]; exact Nat.le_succ_of_le (Nat.le_succ _)
  · exact nl.keeps kk
  · rw [make_depth]; omega
  · intro h' t1 tk' kp he
    exact ⟨rfl, hp'.objs.size + 1, _, _, ⟨hp', g, dr, tk, os⟩, H, .ref C, none, rfl, I, kp, e0, he, ⟨rfl, rfl⟩, rfl, rfl, hn, rfl, I.bare, raises_own T.be T.ty, h⟩
end
end Pl

-- part Q3
set_option maxHeartbeats 4000000
/-! try: a(), except X as n: suite. -/
namespace Pl
open PySem PySem.Spec PyProof.Rows L2
section
variable {X : Cx} {W : Wd} {Wx : WX} {g g0 gb : Gs} {B : Bs} {H H0 : Hp} {σ : L2.St} {r : Rho}
/-- the error comes into its slot -/
theorem EnvR.setEr {i c : Nat} {a : Addr} (e : EnvR W g H r σ) (hne : W.e = none) (hi : i < r.length) : EnvR (W.err (some (a, c)) W.l) g H (r.set i (.er c)) (σ.set i (some (.ref a))) := by
  have hσ : i < σ.length := by rw [← e.len]; exact hi
  have aux : ∀ (j : Nat) (s : Sl), (r.set i (.er c))[j]? = some s → s.own = true → i ≠ j ∧ r[j]? = some s := fun j s h o => by
    by_cases hj : i = j
    · subst hj
      rw [List.getElem?_set_self hi] at h
      cases h
      cases o
    · rw [List.getElem?_set_ne hj] at h
      exact ⟨hj, h⟩
  refine ⟨by rw [List.length_set, List.length_set]; exact e.len, fun j s h => ?_, fun j k s t b h1 h2 o1 o2 h3 h4 => ?_⟩
  · by_cases hj : i = j
    · subst hj
      rw [List.getElem?_set_self hi] at h
      cases h
      exact ⟨a, rfl, List.getElem?_set_self hσ⟩
    · rw [List.getElem?_set_ne hj] at h
      rw [List.getElem?_set_ne hj]
      have q := e.sl j s h
      cases s with
      | e => trivial
      | v d =>
        obtain ⟨y, h1, h2⟩ := q
        exact ⟨y, h1, (Rp.err d y).mpr h2⟩
      | o l =>
        obtain ⟨b, xs, h1, h2, h3, h4, h5⟩ := q
        exact ⟨b, xs, h1, h2, h3, h4, (RpL.err l xs).mpr h5⟩
      | oi c' l =>
        obtain ⟨b, dx, xs, h1, h2, h3, h4, h5, h6, h7, h8, h9⟩ := q
        exact ⟨b, dx, xs, h1, h2, h3, h4, h5, h6, h7, (RpL.err l xs).mpr h8, h9⟩
      | er c' =>
        obtain ⟨b, h1, _⟩ := q
        rw [hne] at h1
        cases h1
      | la => exact q
  · obtain ⟨nj, q1⟩ := aux j s h1 o1
    obtain ⟨nk, q2⟩ := aux k t h2 o2
    rw [List.getElem?_set_ne nj] at h3
    rw [List.getElem?_set_ne nk] at h4
    exact e.ap j k s t b q1 q2 o1 o2 h3 h4
/-- no error is in a slot any more -/
theorem EnvR.unEr {x : Option (Addr × Nat)} (e : EnvR (W.err x W.l) g H r σ) (h : r.any Sl.isEr = false) : EnvR W g H r σ := by
  refine ⟨e.len, fun j s hs => ?_, e.ap⟩
  have q := e.sl j s hs
  cases s with
  | e => trivial
  | v d =>
    obtain ⟨y, h1, h2⟩ := q
    exact ⟨y, h1, (Rp.err d y).mp h2⟩
  | o l =>
    obtain ⟨b, xs, h1, h2, h3, h4, h5⟩ := q
    exact ⟨b, xs, h1, h2, h3, h4, (RpL.err l xs).mp h5⟩
  | oi c' l =>
    obtain ⟨b, dx, xs, h1, h2, h3, h4, h5, h6, h7, h8, h9⟩ := q
    exact ⟨b, dx, xs, h1, h2, h3, h4, h5, h6, h7, (RpL.err l xs).mp h8, h9⟩
  | er c' =>
    have : r.any Sl.isEr = true := List.any_eq_true.mpr ⟨_, List.mem_of_getElem? hs, rfl⟩
    rw [h] at this
    cases this
  | la => exact q
theorem nil_env {n : Nat} {σ : L2.St} (h : σ.length = n) : EnvR W g H (List.replicate n Sl.e) σ := by
  refine ⟨by simp [h], fun i s hs => ?_, fun i j s t a h1 _ o1 _ _ _ => ?_⟩
  · have := (List.mem_replicate.mp (List.mem_of_getElem? hs)).2
    subst this
    trivial
  · have := (List.mem_replicate.mp (List.mem_of_getElem? h1)).2
    subst this
    cases o1
/-- the wish of an exception, whatever the slots are -/
abbrev allW (Wx : WX) : WX := fun cls d _ H => ∀ σ', Wx cls d σ' H
/-- an expression's reading, from a state that came from (g0, H0) -/
def tEb (W : Wd) (Wx : WX) (g0 : Gs) (H0 : Hp) (f : Rho → M D) : TE := fun σ H Q => ∃ r g B, Stp g0 H0 g H ∧ Ok W g B H ∧ EnvR W g H r σ ∧ OutR W Wx g H σ (f r B) (okE W g H Q)
theorem rs_tri {x n : Str} {cb i : Nat} {cs : List Nat} {suite : List Stmt} {b₀ : Stmt} {call : Expr} {np pos pos' p : Pos} {fa : Rho → M D} {fh : Rho → M Fl} (hs : X.stack = X.env :: X.outer) (hf : X.env.frame = some X.env.locals) (hN : X.N.Nodup) (hi : X.N[i]? = some n) (hln : X.env.kindOf n = some .local)
    (hc : Names X x (.ref (W.ca cb))) (tk : Takes X Wx) (hsw : noComp call = true) (hact : ∀ (pn : List (Addr × Obj)) (xe : Value → Shared → Prop) (W' : WX), Takes (X.tr pn xe) W' → PE (X.tr pn xe) call (tEb W (allW W') g0 H0 fa))
    (hsu : ∀ (a : Addr) (oe : Obj) (c : Nat) (pn : List (Addr × Obj)), c ∈ cs → Zc (.ref (W.ca c)) none oe → (∃ vs, oe.data = .fields vs) → PSs (X.suite a ((a, oe) :: pn)) (b₀ :: suite) (tSt (W.err (some (a, c)) W.l) Wf g0 H0 fh))
    (hex : ∀ c ∈ cs, PySem.W.exmOne X.K (.ref (W.ca c)) (.ref (W.ca cb)) = some true) (hne : W.e = none) :
    PS X (.Try [.Expr call p] [.ExceptHandler (some (.Name x np)) (some n) (b₀ :: suite) pos'] [] [] pos) (tSt W Wx g0 H0 fun r => triM cs (some i) (M.bind (fa r) fun _ => M.ret (.nx r)) fh r) := by
  have key := ps_try_as (pos := pos) (pos' := pos') (np := np) (tb := fun W' => tDrop (tEb W (allW W') g0 H0 fa)) (ts := fun a cls d D σ H => σ.length = X.N.length → ∃ c, c ∈ cs ∧ cls = .ref (W.ca c) ∧ d = none ∧ tSt (W.err (some (a, c)) W.l) Wf g0 H0 fh D σ H) hs hf hN hi hln hc tk
    (fun W' pn xe tk' _ => pss_one (ps_expr (pos := p) (hact pn xe W' tk') (noComp_ok hsw))) (fun a oe cls d pn hz hd => ⟨fun pins s σ H D I q => by
      obtain ⟨c, hcs, e1, e2, q2⟩ := q I.len
      subst e1 e2
      exact (hsu a oe c pn hcs hz hd).run pins s σ H D I q2⟩)
  refine ⟨fun pins s σ H D I ⟨gb, r, g, B, a, out⟩ => key.run pins s σ H D I ⟨r, g, B, a.st, a.ok, a.er, ?_⟩⟩
  have hrl : r.length = X.N.length := a.er.len.trans I.len
  have out : OutS W Wx g0 H0 (triM cs (some i) (M.bind (fa r) fun _ => M.ret (.nx r)) fh r B) (okS W g0 H0 gb D) := out
  unfold triM at out
  cases e : fa r B with
  | no =>
    have e1 : M.bind (fa r) (fun _ => M.ret (Fl.nx r)) B = .no := by unfold M.bind; rw [e]
    rw [e1] at out
    exact out
  | ok v B1 =>
    have e1 : M.bind (fa r) (fun _ => M.ret (Fl.nx r)) B = .ok (.nx r) B1 := by unfold M.bind; rw [e]; rfl
    rw [e1] at out
    exact fun g' H' v' s' o' _ => okS.nx (W := W) (r := r) out (a.up s' o')
  | ex c B1 =>
    have e1 : M.bind (fa r) (fun _ => M.ret (Fl.nx r)) B = .ex c B1 := by unfold M.bind; rw [e]
    rw [e1] at out
    simp only at out
    cases hcs : cs.contains c with
    | false => rw [hcs] at out; exact out.elim
    | true =>
      rw [hcs, if_pos rfl] at out
      have hmem := List.contains_iff_mem.mp hcs
      obtain ⟨r1, hr, q⟩ := OutS.lift (OutS.bind out)
      obtain ⟨hl, rfl⟩ := ite_some hr
      have q := OutS.bind q
      intro g' H' s' o' σ'
      have a1 := a.up s' o'
      refine ⟨true, hex c hmem, fun _ a0 ha hlen => ⟨c, hmem, rfl, rfl, gb, (List.replicate r.length Sl.e).set i (.er c), g', B1, ⟨a1.st, a1.gr, Ok.err.mpr o', ?_, fun j s b h1 o2 h2 => ?_⟩, ?_⟩, fun z => by cases z⟩
      · refine EnvR.setEr (nil_env ?_) hne (by simpa using hl)
        rw [List.length_set] at hlen
        rw [hlen, hrl]
      · by_cases hj : i = j
        · subst hj
          rw [List.getElem?_set_self (by simpa using hl)] at h1
          cases h1
          cases o2
        · rw [List.getElem?_set_ne hj] at h1
          have := (List.mem_replicate.mp (List.mem_of_getElem? h1)).2
          subst this
          cases o2
      · unfold M.calm at q
        cases e2 : fh ((List.replicate r.length Sl.e).set i (.er c)) B1 with
        | no => rw [e2] at q; exact q.elim
        | ex c2 B2 => rw [e2] at q; exact q.elim
        | ok f B2 =>
          rw [e2] at q
          cases f with
          | nx r' =>
            obtain ⟨f', hf', q3⟩ := OutS.lift q
            intro g2 H2 σ2 st2 gr2 ok2 er2 fr2
            cases he : (r'.set i .e).any Sl.isEr with
            | true => rw [he] at hf'; cases hf'
            | false =>
              rw [he] at hf'
              cases hf'
              show D.nx (σ2.set i none) H2
              exact okS.nx (W := W) (r := r'.set i .e) q3 ⟨st2, gr2, Ok.err.mp ok2, (er2.setE (x := none)).unEr he, fr2.setE⟩
          | rt d => exact fun g2 H2 v st2 gr2 ok2 rv => (show okS W g0 H0 gb D (.rt d) B2 from q) g2 H2 v st2 gr2 (Ok.err.mp ok2) ((Rp.err d v).mp rv)
          | bk r' => exact q.elim
          | ct r' => exact q.elim
end
end Pl

-- part Q4
set_option maxHeartbeats 4000000
/-! xs[i] op= e. -/
namespace Pl
open PySem PySem.Spec PyProof.Rows L2
theorem get_list {X : Cx} : PGet X (rIxL X.K) := by
  intro pins s σ H x y v u Q I rx ry h
  obtain ⟨p, xs, i, z, rfl, rfl, hq, he, q⟩ := h
  cases rx
  obtain ⟨t, rfl⟩ := ry
  obtain ⟨its, r, pl, hz⟩ := I.list hq
  obtain ⟨j, h1, h2, h3, h4, h5⟩ := atI_get he
  obtain ⟨w, ew, rw'⟩ := r.get h2
  have hl := r.length
  have hn := line63
  have fin : EP X pins σ Q w s := ⟨z, H, I, rw', q⟩
  by_cases h0 : 0 ≤ i
  · have hj : i.toNat = j := by
      rw [seqIndex_of h0 h5] at h1
      exact Option.some.inj h1
    exact wpAny_getItem_list pl.isList h0 (by omega) (by rw [hj]; simpa using ew) fin
  · have hj : (i + (its.toArray.size : Int)).toNat = j := by
      rw [seqIndex_neg (by omega) h4] at h1
      rw [List.size_toArray, ← hl]
      exact Option.some.inj h1
    exact wpAny_getItem_list_neg pl.isList (by omega) (by rw [List.size_toArray] <;> omega) (by omega) (by rw [hj]; simpa using ew) fin
section
variable {X : Cx} {W : Wd} {Wx : WX} {g0 : Gs} {H0 : Hp}
theorem augD_inv {o : Bop} {x y z : D} (h : augD o x y = some z) : ∃ i j, x = .int i ∧ y = .int j ∧ augD o (.int i) (.int j) = some z := by
  cases x with
  | int i => cases y with
    | int j => exact ⟨i, j, rfl, rfl, h⟩
    | _ => cases o <;> cases h
  | _ => cases o <;> cases h
theorem rs_stoa {x i e : Expr} {s : Nat} {o : Bop} {tpos pos : Pos} {fe fi : Rho → M D} (hK : X.K = W.K) (hx : PE X x (tVar s)) (hi : PE X i (tE W Wx fi)) (he : PE X e (tE W Wx fe)) (hp : plainI i = true) (ho : o = .add ∨ o = .sub) :
    PS X (.AugAssign (.Subscript x i tpos) (opOf o) e pos) (tSt W Wx g0 H0 fun r => M.bind (M.lift (getO r s)) fun l => M.bind (fi r) fun j => M.bind (M.lift (ixD (.lst l) j)) fun x => M.bind (fe r) fun y => M.lift ((augD o x y).bind fun z => (stoL l j z).map fun l' => .nx (r.set s (.o l')))) := by
  have key : ∀ (f : Int → Int → Int), PIp X (opOf o) (ipI f) → (∀ i j z, augD o (.int i) (.int j) = some z → z = .int (f i j)) →
      PS X (.AugAssign (.Subscript x i tpos) (opOf o) e pos) (tSt W Wx g0 H0 fun r => M.bind (M.lift (getO r s)) fun l => M.bind (fi r) fun j => M.bind (M.lift (ixD (.lst l) j)) fun x => M.bind (fe r) fun y => M.lift ((augD o x y).bind fun z => (stoL l j z).map fun l' => .nx (r.set s (.o l')))) := fun f hip hz =>
    (ps_augS hx hi get_list he hip set_list (fun ov iv new => by cases i <;> first | rfl | cases hp)).imp fun D σ H ⟨gb, r, g, B, a, out⟩ => by
      obtain ⟨l, hl, q⟩ := OutS.lift (OutS.bind out)
      have eo := getO_some hl
      obtain ⟨p, xs, e1, e2, e3, e4, e5⟩ := a.er.sl _ _ eo
      refine ⟨_, e1, tE.go a.ok a.er (Stp.refl a.ok) (q.bind.e a.st) fun j B1 g1 H1 w q1 s1 _ ok1 rj => ?_⟩
      obtain ⟨d, hd, q2⟩ := OutS.lift (OutS.bind q1)
      cases j with
      | int jj =>
        have rj : w = .int jj := rj
        have hd : atI l jj = some d := hd
        obtain ⟨y, hy, ry⟩ := (RpL.up s1.grow _ _ e5).at hd
        have e21 := s1.h p _ e2 e4 nt_lst
        refine ⟨p, xs, jj, y, rfl, rj, SqL.of e21, hy, ?_⟩
        have a1 := a.up s1 ok1
        refine tE.go ok1 a1.er (Stp.refl ok1) (q2.bind.e a1.st) fun u B2 g2 H2 v q3 s2 _ ok2 ru => ?_
        obtain ⟨fl, hf, q4⟩ := OutS.lift q3
        obtain ⟨z, hz', hs⟩ := bind_some' hf
        obtain ⟨l', hl', rfl⟩ := map_some' hs
        obtain ⟨m, n, rfl, rfl, h3⟩ := augD_inv hz'
        have hzz := hz m n z h3
        subst hzz
        obtain ⟨nn, hn, rfl⟩ := map_some' (show (ixN l.length jj).map (fun n' => l.set n' (Pl.D.int (f m n))) = some l' from hl')
        have a2 := a1.up s2 ok2
        have n1 : p ∉ g1.b := s1.nb e2 e4 nt_lst
        have z1 : g1.Z p = none := by rw [s1.zn p _ e2 nt_lst]; exact e3
        have e22 := s2.h p _ e21 n1 nt_lst
        refine ⟨m, n, ry, ru, p, xs, jj, nn, rfl, rj, e22, by rw [e5.length]; exact hn, ?_⟩
        exact okS.nx (W := W) q4 (a2.putO eo e1 e22 (by rw [s2.zn p _ e21 nt_lst]; exact z1) (s2.nb e21 n1 nt_lst) (RpL.set nn (RpL.up (s1.trans s2).grow _ _ e5) rfl))
      | _ => cases hd
  rcases ho with rfl | rfl
  · exact key _ ip_add fun i j z h => (Option.some.inj h).symm
  · exact key _ ip_sub fun i j z h => (Option.some.inj h).symm
end
end Pl

-- part P11
set_option maxHeartbeats 4000000
/-! The pure layer 11: own classes. -/
namespace Pl
open PySem PySem.Spec PyProof.Rows L2
theorem nx_ins {C dx : Addr} {fs : List (Str × V)} : ∀ f, HO.ins C dx fs ≠ .ext f := fun _ z => by cases z
section
variable {X : Cx} {W : Wd} {Wx : WX} {g g0 gb : Gs} {B : Bs} {H H0 : Hp} {σ : L2.St} {r : Rho}
/-- a field of the instance that is being made -/
theorem At.putI {i c : Nat} {l l' : List D} {p dx : Addr} {xs ys : List V} (a : At W g0 H0 gb g B H r σ) (e : r[i]? = some (.oi c l)) (e1 : σ[i]? = some (some (.ref p))) (e2 : H p = some (.ins (W.ca c) dx ((W.fl c).zip xs))) (e3 : g.Z p = none) (e4 : p ∉ g.b) (f1 : H dx = some (.own p)) (f2 : g.Z dx = none) (f3 : dx ∉ g.b)
    (rl : RpL W g l' ys) (hl : l'.length ≤ (W.fl c).length) (hd : p = dx + 1 ∧ g.e = some (p, 0)) :
    At W g0 H0 gb g B (upd H p (.ins (W.ca c) dx ((W.fl c).zip ys))) (r.set i (.oi c l')) σ := by
  have hi : i < r.length := (List.getElem?_eq_some_iff.mp e).1
  have h0 := a.fr i _ p e rfl e1
  have dp : dx ≠ p := fun z => by rw [z, e2] at f1; cases f1
  refine ⟨?_, a.gr, a.ok.own e2 nt_ins nx_ins e3 e4, ⟨by rw [List.length_set]; exact a.er.len, fun j s hs => ?_, fun j k s t b h1 h2 o1 o2 h3 h4 => ?_⟩, fun j s b h1 o e5 => ?_⟩
  · refine ⟨a.st.grow, a.st.zn, a.st.bn, fun b u h n k => ?_, fun b hb => ?_, a.st.e⟩
    · rw [upd_ne (ne_of_vac h k h0)]
      exact a.st.h b u h n k
    · have : b ≠ p := fun z => e4 (z ▸ a.st.grow.sub hb)
      rw [upd_ne this]
      exact a.st.hb b hb
  · by_cases hj : i = j
    · subst hj
      rw [List.getElem?_set_self hi] at hs
      cases hs
      exact ⟨p, dx, ys, e1, upd_same, e3, e4, by rw [upd_ne dp]; exact f1, f2, f3, rl, hl, hd⟩
    · rw [List.getElem?_set_ne hj] at hs
      have q := a.er.sl j s hs
      cases s with
      | e => trivial
      | v d => exact q
      | er c => exact q
      | la =>
        obtain ⟨f, c', φ, q1, q2, q3, q4⟩ := q
        have nc : c' ≠ p := fun z => by rw [z, e2] at q3; cases q3
        exact ⟨f, c', φ, q1, q2, by rw [upd_ne nc]; exact q3, q4⟩
      | o l2 =>
        obtain ⟨b, zs, q1, q2, q3, q4, q5⟩ := q
        have nb : b ≠ p := fun z => hj (a.er.ap i j _ _ p e hs rfl rfl e1 (by rw [q1, z]))
        exact ⟨b, zs, q1, by rw [upd_ne nb]; exact q2, q3, q4, q5⟩
      | oi c2 l2 =>
        obtain ⟨b, dx2, zs, q1, q2, q3, q4, q5, q6, q7, q8, q9⟩ := q
        have nb : b ≠ p := fun z => hj (a.er.ap i j _ _ p e hs rfl rfl e1 (by rw [q1, z]))
        have nd : dx2 ≠ p := fun z => by rw [z, e2] at q5; cases q5
        exact ⟨b, dx2, zs, q1, by rw [upd_ne nb]; exact q2, q3, q4, by rw [upd_ne nd]; exact q5, q6, q7, q8, q9⟩
  · have aux : ∀ (m : Nat) (u : Sl), (r.set i (.oi c l'))[m]? = some u → u.own = true → ∃ w, r[m]? = some w ∧ w.own = true := fun m u h o => by
      by_cases hm : i = m
      · subst hm
        exact ⟨_, e, rfl⟩
      · rw [List.getElem?_set_ne hm] at h
        exact ⟨u, h, o⟩
    obtain ⟨w1, q1, p1⟩ := aux j s h1 o1
    obtain ⟨w2, q2, p2⟩ := aux k t h2 o2
    exact a.er.ap j k w1 w2 b q1 q2 p1 p2 h3 h4
  · by_cases hj : i = j
    · subst hj
      exact a.fr i _ b e rfl e5
    · rw [List.getElem?_set_ne hj] at h1
      exact a.fr j s b h1 o e5
/-- one field is stored: what follows is told of the new state -/
theorem At.fst {fl : Nat → List Str} {s : Nat} {f : Str} {x : D} {v : V} {r' : Rho} (hfl : ∀ c, fl c = W.fl c) (a : At W g0 H0 gb g B H r σ) (rx : Rp W g x v) (h : fstR fl s f x r = some r') :
    ∃ c p dx xs, σ[s]? = some (some (.ref p)) ∧ H p = some (.ins (W.ca c) dx ((W.fl c).zip xs)) ∧ f ∈ W.fl c ∧ ((W.fl c).zip xs).length ≤ (W.fl c).length ∧ ((W.fl c).Nodup → At W g0 H0 gb g B (upd H p (.ins (W.ca c) dx (putF f v ((W.fl c).zip xs)))) r' σ) := by
  unfold fstR at h
  split at h
  · rename_i c l e
    obtain ⟨l', hl', rfl⟩ := map_some' h
    obtain ⟨p, dx, xs, q1, q2, q3, q4, q5, q6, q7, q8, q9, hd⟩ := a.er.sl _ _ e
    unfold fstL at hl'
    rw [hfl] at hl'
    split at hl'
    · rename_i i hi
      have hf := idx_get hi
      refine ⟨c, p, dx, xs, q1, q2, List.mem_of_getElem? hf, by simp [List.length_zip]; omega, fun nd => ?_⟩
      have hlen := q8.length
      by_cases e1 : i = l.length
      · rw [if_pos e1] at hl'
        cases hl'
        rw [putF_zip nd hf (by omega), if_pos (by omega)]
        refine a.putI e q1 q2 q3 q4 q5 q6 q7 (q8.app (RpL.cons rx RpL.nil)) ?_ hd
        have := (List.getElem?_eq_some_iff.mp hf).1
        simp
        omega
      · rw [if_neg e1] at hl'
        obtain ⟨e2, rfl⟩ := ite_some hl'
        rw [putF_zip nd hf (by omega), if_neg (by omega)]
        exact a.putI e q1 q2 q3 q4 q5 q6 q7 (RpL.set i q8 rx) (by rw [List.length_set]; exact q9) hd
    · cases hl'
  · cases h
theorem rs_fst {o e : Expr} {s : Nat} {f : Str} {pos pos' : Pos} {fl : Nat → List Str} {fe : Rho → M D} (hfl : ∀ c, fl c = W.fl c) (hcl : ∀ c, W.fl c ≠ [] → ClsOk X.K W c) (ho : PE X o (tVar s)) (he : PE X e (tE W Wx fe)) (hs : swapsWith e (some (.Attribute o f pos')) pos.line X.env = pure false) :
    PS X (.Assign [.Attribute o f pos'] e pos) (tSt W Wx g0 H0 fun r => M.bind (fe r) fun x => M.lift ((fstR fl s f x r).map .nx)) :=
  (ps_fld ho he hs).imp fun D σ H ⟨gb, r, g, B, a, out⟩ =>
    tE.go a.ok a.er (Stp.refl a.ok) (out.bind.e a.st) fun x B1 g1 H1 v q s1 _ ok1 rx => by
      obtain ⟨fl', hf, q2⟩ := OutS.lift q
      obtain ⟨r', hr, rfl⟩ := map_some' hf
      have a1 := a.up s1 ok1
      obtain ⟨c, p, dx, xs, e1, e2, e3, e4, k⟩ := a1.fst hfl rx hr
      have co := hcl c (fun z => by rw [z] at e3; cases e3)
      exact ⟨_, e1, p, _, dx, _, rfl, e2, co.cls, co.no f e3, Nat.lt_of_le_of_lt e4 co.few, okS.nx (W := W) q2 (k co.nd)⟩
/-- o.f = .., as a target -/
def gAtt (K : PySem.W.Frag) (to : TE) (f : Str) : TG := fun v σ H Q => to σ H fun x H1 => ∃ a C dx fs, x = .ref a ∧ H1 a = some (.ins C dx fs) ∧ Cls K C ∧ NoAttr K C f ∧ fs.length < 1000 ∧ Q σ (upd H1 a (.ins C dx (putF f v fs)))
theorem pg_att {o : Expr} {f : Str} {to : TE} {pos : Pos} (ho : PE X o to) : PG X (.Attribute o f pos) (gAtt X.K to f) := by
  refine ⟨fun pins s σ H v u Q I r h => ?_⟩
  rw [assign_Attribute]
  refine wpAny_bind (wpAny_holding (thn (ho.run pins s σ H _ I h) fun ov s1 ⟨x, H1, I1, r1, a, C, dx, fs, ex, ea, c, n, l, q⟩ => ?_))
  subst ex
  obtain rfl : ov = Value.ref a := r1
  refine wpAny_bind (wpAny_standAt (wpAny_bind (wpAny_holding (setattr_ok I1 ea c n l r fun s3 I3 => wpAny_release ⟨σ, _, I3, q⟩))))
theorem rs_fst2 {o o' e : Expr} {s : Nat} {f f' : Str} {kk : Nat} {pos p1 p2 p3 : Pos} {fl : Nat → List Str} {fe : Rho → M D} (hK : X.K = W.K) (hc : X.calm = true) (hfl : ∀ c, fl c = W.fl c) (hcl : ∀ c, W.fl c ≠ [] → ClsOk X.K W c) (ho : PE X o (tVar s)) (ho' : PE X o' (tVar s)) (he : PE X e (tE W Wx fe))
    (hs : swapsWithSole [.Tuple [.Attribute o f p1, .Attribute o' f' p2] kk p3] e pos.line X.env = pure false) (hw : swappedStores [.Tuple [.Attribute o f p1, .Attribute o' f' p2] kk p3] e X.env = pure none) :
    PS X (.Assign [.Tuple [.Attribute o f p1, .Attribute o' f' p2] kk p3] e pos) (tSt W Wx g0 H0 fun r => M.bind (fe r) fun x => M.lift (match x with
      | .tup [a, b] => (fstR fl s f a r).bind fun r1 => (fstR fl s f' b r1).map .nx
      | _ => none)) :=
  (ps_asg he (pg_tup hc (pgs_cons (pg_att ho) (pgs_cons (pg_att ho') pgs_nil))) hs hw).imp fun D σ H ⟨gb, r, g, B, a, out⟩ =>
    tE.go a.ok a.er (Stp.refl a.ok) (out.bind.e a.st) fun x B1 g1 H1 v q s1 _ ok1 rx => by
      obtain ⟨fl', hf, q2⟩ := OutS.lift q
      split at hf
      · rename_i d1 d2
        obtain ⟨r1, h1, h2⟩ := bind_some' hf
        obtain ⟨r2, h3, rfl⟩ := map_some' h2
        obtain ⟨t, xs, rfl, st, sl⟩ := rx
        obtain ⟨y1, y2, rfl, ry1, ry2⟩ := sl.two
        have a1 := a.up s1 ok1
        obtain ⟨c, p, dx, zs, e1, e2, e3, e4, k⟩ := a1.fst hfl ry1 h1
        have co := hcl c (fun z => by rw [z] at e3; cases e3)
        have a2 := k co.nd
        obtain ⟨c', p', dx', zs', e1', e2', e3', e4', k'⟩ := a2.fst hfl ry2 h3
        have co' := hcl c' (fun z => by rw [z] at e3'; cases e3')
        exact ⟨t, [y1, y2], rfl, by rw [hK]; exact sqT_up ok1.ice st, rfl, y1, [y2], rfl, _, e1, p, _, dx, _, rfl, e2, co.cls, co.no f e3, Nat.lt_of_le_of_lt e4 co.few, y2, [], rfl, _, e1', p', _, dx', _, rfl, e2', co'.cls, co'.no f' e3', Nat.lt_of_le_of_lt e4' co'.few, rfl, okS.nx (W := W) q2 (k' co'.nd)⟩
      · cases hf
end
end Pl

-- part P9c
set_option maxHeartbeats 4000000
/-! The pure layer 9c: statements are checked, and do what their trees say. -/
namespace Pl
open PySem PySem.Spec PyProof.Rows L2
def isDoc : Stmt → Bool
  | .Pass _ => true
  | .Expr (.Constant (.str _) _ _) _ => true
  | _ => false
def par2 (t : Tc) (i j : Nat) (ts vs : List Expr) : Bool := match ts, vs with
  | [.Name x _, .Name y _], [a, b] => decide (t.N[i]? = some x) && decide (t.N[j]? = some y) && decide (i ≠ j) && decide (t.sc.names.lookup x = some .local) && decide (t.sc.names.lookup y = some .local) && noStar a && noStar b && decide (swapN t.sc ts vs = some (some [x, y]))
  | _, _ => false
def par3 (t : Tc) (i j k : Nat) (ts vs : List Expr) : Bool := match ts, vs with
  | [.Name x _, .Name y _, .Name z _], [a, b, c] => decide (t.N[i]? = some x) && decide (t.N[j]? = some y) && decide (t.N[k]? = some z) && decide (i ≠ j) && decide (i ≠ k) && decide (j ≠ k) && decide (t.sc.names.lookup x = some .local) && decide (t.sc.names.lookup y = some .local) && decide (t.sc.names.lookup z = some .local) &&
      noStar a && noStar b && noStar c && decide (swapN t.sc ts vs = some (some [x, y, z]))
  | _, _ => false
/-- a tuple of targets gets what is one value -/
def oneVal (t : Tc) (ts : List Expr) : Expr → Bool
  | .Tuple vs _ _ => decide (swapN t.sc ts vs = some none)
  | _ => true
def isFrz : Ps → Option Nat
  | .frz s => some s
  | _ => none
/-- not written as a tuple -/
def plainO2 : Expr → Bool
  | .Tuple _ _ _ => false
  | _ => true
theorem plainO2_sole {ts : List Expr} {kk : Nat} {pp : Pos} {ex : Expr} {l : Nat} {env : Env} (h : plainO2 ex = true) : swapsWithSole [.Tuple ts kk pp] ex l env = pure false := by
  cases ex <;> first | rfl | cases h
theorem plainO2_sw {ts : List Expr} {kk : Nat} {pp : Pos} {ex : Expr} {env : Env} (h : plainO2 ex = true) : swappedStores [.Tuple ts kk pp] ex env = pure none := by
  cases ex <;> first | rfl | cases h
def addSub : Bop → Bool
  | .add => true
  | .sub => true
  | _ => false
mutual
def chkS (t : Tc) : Ps → Stmt → Bool
  | .set g e, st => match st with
    | .Assign [tg] ex _ => (match g, tg with
      | .s i, .Name x _ => okTgt t x i && chkE t e ex
      | .t l, .Tuple ts _ _ => chkG t (.t l) tg && oneVal t ts ex && chkE t e ex
      | _, _ => false)
    | _ => false
  | .seto s e, st => match st with
    | .Assign [.Name x _] ex _ => okTgt t x s && freshP e && chkE t e ex
    | _ => false
  | .par l es, st => match st with
    | .Assign [.Tuple ts _ _] (.Tuple vs _ _) _ => t.calm && (match l with
      | [i, j] => par2 t i j ts vs
      | [i, j, k] => par3 t i j k ts vs
      | _ => false) && chkEs t es vs
    | _ => false
  | .frz _, _ => false
  | .app s e, st => match st with
    | .Expr (.Call (.Attribute (.Name x _) nm apos) [a] [] cpos) _ => decide (nm = "append") && okName t x s && noStar a && (apos.endLine == cpos.line) && chkE t e a
    | _ => false
  | .sto s i e, st => match st with
    | .Assign [.Subscript (.Name x _) ie _] ex _ => okName t x s && plainI ie && chkE t i ie && chkE t e ex
    | _ => false
  | .stoa s o i e, st => match st with
    | .AugAssign (.Subscript (.Name x _) ie _) op ex _ => okName t x s && plainI ie && bopIs o op && addSub o && chkE t i ie && chkE t e ex
    | _ => false
  | .bst b i e, st => match st with
    | .Assign [.Subscript be ie _] ex _ => plainI ie && chkE t b be && chkE t i ie && chkE t e ex
    | _ => false
  | .aug s o e, st => match st with
    | .AugAssign (.Name x _) op ex _ => okTgt t x s && bopIs o op && addSub o && chkE t e ex
    | _ => false
  | .ex e, st => match st with
    | .Expr ex _ => noComp ex && chkE t e ex
    | _ => false
  | .ret e, st => match st with
    | .Return (some ex) _ => chkE t e ex
    | _ => false
  | .retn, st => match st with
    | .Return none _ => true
    | _ => false
  | .pass, st => isDoc st
  | .brk, st => match st with
    | .Break _ => true
    | _ => false
  | .cnt, st => match st with
    | .Continue _ => true
    | _ => false
  | .ite c a b, st => match st with
    | .If ce as bs _ => chkT t c ce && chkSs t a as && chkSs t b bs
    | _ => false
  | .whl c b, st => match st with
    | .While ce bs [] _ => chkT t c ce && chkSs t b bs
    | _ => false
  | .fr g k l b, st => match st with
    | .For tg it bs [] _ => t.calm && chkG t g tg && (match itArgs t k tg it with
      | some es => chkEs t l es
      | none => false) && chkSs t b bs
    | _ => false
  | .rse c l, st => match st with
    | .Raise (some (.Call (.Name x _) [] [] _)) none _ => t.calm && l.isEmpty && okGlob t x && decide (t.xcs[c]? = some x) && t.xmk.contains c
    | _ => false
  | .tri b cs n h, st => match b, n, st with
    | .ex .act, some i, .Try [.Expr (.Call (.Name a _) [] [] _) _] [.ExceptHandler (some (.Name x _)) (some nm) (b₀ :: suite) _] [] [] _ => t.calm && decide (t.hear = some a) && decide (t.N[i]? = some nm) && decide (t.sc.names.lookup nm = some .local) && okGlob t x && (match t.xcs.idxOf? x with
      | some cb => cs.all (fun c => t.xsub.contains (c, cb))
      | none => false) && chkSs t.suite h (b₀ :: suite)
    | _, _, _ => false
  | .fst s f e, st => match st with
    | .Assign [.Attribute (.Name x _) g _] ex _ => decide (f = g) && okName t x s && noComp ex && chkE t e ex
    | _ => false
  | .fst2 s f g e, st => match st with
    | .Assign [.Tuple [.Attribute (.Name x _) f' _, .Attribute (.Name y _) g' _] _ _] ex _ => t.calm && decide (f = f') && decide (g = g') && okName t x s && okName t y s && plainO2 ex && chkE t e ex
    | _ => false
  | .popo g s, st => match g, st with
    | .t l, .Assign [.Tuple ts k p] (.Call (.Attribute (.Name x _) nm apos) [] [] cpos) _ => decide (nm = "pop") && okName t x s && (apos.endLine == cpos.line) && chkG t (.t l) (.Tuple ts k p)
    | _, _ => false
  | .paro i e j f, st => match e, f, st with
    | .lst l, .lst k, .Assign [.Tuple ts _ _] (.Tuple [.List es1 p1, .List es2 p2] _ _) _ => t.calm && par2 t i j ts [.List es1 p1, .List es2 p2] && es1.all noStar && es2.all noStar && chkEs t l es1 && chkEs t k es2
    | _, _, _ => false
  | .no, _ => true
def chkSs (t : Tc) : List Ps → List Stmt → Bool
  | [], sts => sts.isEmpty
  | s :: ss, sts => match isFrz s with
    | some _ => chkSs t ss sts
    | none => match sts with
      | st :: sts => chkS t s st && chkSs t ss sts
      | [] => false
end
section
variable {C : Cf} {W : Wd} {k : Nat} {g0 : Gs} {H0 : Hp}
structure TopX (C : Cf) (W : Wd) (g0 : Gs) (H0 : Hp) (t : Tc) (X : Cx) : Prop where
  po : PassesOwn (model X.prog X.w) X.A X.env X.xe
  hear : ∀ a, t.hear = some a → X.stack = X.env :: X.outer ∧ X.env.frame = some X.env.locals ∧ ∀ (pn : List (Addr × Obj)) (xe : Value → Shared → Prop) (W' : WX), Takes (X.tr pn xe) W' → ∀ p1 p2, PE (X.tr pn xe) (.Call (.Name a p1) [] [] p2) (tEb W (allW W') g0 H0 (ev C .act))
theorem blockKind_fn {X : Cx} {pins : List (Addr × Obj)} {σ : L2.St} {H : Hp} {s : Shared} (I : Inv X pins σ H s) : X.env.blockKind = .function := by
  unfold Env.blockKind
  have := I.ok.kind
  split
  · rfl
  · exact this
theorem PS.inv {X : Cx} {st : Stmt} {t : TS} (h : (∃ pins σ H s, Inv X pins σ H s) → PS X st t) : PS X st t := ⟨fun pins s σ H D I q => (h ⟨pins, σ, H, s, I⟩).run pins s σ H D I q⟩
theorem idx_at {l : List Str} {x : Str} {i : Nat} (h : l.idxOf? x = some i) : l[i]? = some x := by
  have h := h
  unfold List.idxOf? at h
  obtain ⟨h1, h2, _⟩ := List.findIdx?_eq_some_iff_getElem.mp h
  rw [List.getElem?_eq_getElem h1]
  rw [eq_of_beq h2]
theorem asg_tup {ts : List Expr} {kk : Nat} {pp : Pos} {ex : Expr} {l : Nat} {env : Env} : swapsWithSole [.Tuple ts kk pp] ex l env = pure false := by cases ex <;> rfl
theorem one_ok {t : Tc} {ts : List Expr} {kk : Nat} {pp : Pos} {ex : Expr} {env : Env} (hb : env.blockKind = .function) (hs : env.scope = t.sc) (h : oneVal t ts ex = true) : swappedStores [.Tuple ts kk pp] ex env = pure none := by
  cases ex with
  | Tuple vs _ _ =>
    have h2 := of_decide_eq_true h
    rw [← hs] at h2
    exact swapN_ok hb h2
  | _ => rfl
theorem rs_rse {X : Cx} {Wx : WX} {c : Nat} {e : Expr} {pos : Pos} (tk : Takes X Wx) (hc : X.calm = true) (he : PMk X e (fun σ H Q => Q (.ref (W.ca c)) none H)) : PS X (.Raise (some e) none pos) (tSt W Wx g0 H0 fun r => M.bind (M.ret ([] : List D)) fun _ => fun B => .ex c B) :=
  (ps_raise hc tk he).imp fun D σ H ⟨gb, r, g, B, a, out⟩ => (show ∀ g' H' σ', Stp g0 H0 g' H' → Ok W g' B H' → Wx (.ref (W.ca c)) none σ' H' from out) g H σ a.st a.ok
mutual
theorem sS (hw : C.wh = whC) : ∀ (p : Ps) (W : Wd) (t : Tc) (X : Cx) (Wx : WX) (st : Stmt), CtxOk C W k t X Wx → TopX C W g0 H0 t X → chkS t p st = true → PS X st (tSt W Wx g0 H0 (run C p))
  | .set g e, W, t, X, Wx, st, cx, po, h => by
    unfold chkS at h
    split at h
    · split at h
      · simp only [Bool.and_eq_true] at h
        exact rs_setn (sEset cx h.1 h.2)
      · rename_i l ts kk pp
        simp only [Bool.and_eq_true] at h
        obtain ⟨⟨h1, h2⟩, h3⟩ := h
        exact PS.inv fun ⟨pins, σ, H, s, I⟩ => rs_set (ps_asg (sE e t X Wx _ cx h3) (sG cx (.t l) _ h1) asg_tup (one_ok (blockKind_fn I) cx.sc h2) rfl)
      · cases h
    · cases h
  | .seto s e, W, t, X, Wx, st, cx, po, h => by
    unfold chkS at h
    split at h
    · simp only [Bool.and_eq_true] at h
      exact rs_seto (sFset cx h.1.1 h.1.2 h.2)
    · cases h
  | .par l es, W, t, X, Wx, st, cx, po, h => by
    unfold chkS at h
    split at h
    · rename_i ts kt pt vs k2 pt2 spos
      simp only [Bool.and_eq_true] at h
      obtain ⟨⟨hcm, h1⟩, h2⟩ := h
      refine PS.inv fun ⟨pins, σ, H, s, I⟩ => ?_
      split at h1
      · rename_i i j
        unfold par2 at h1
        split at h1
        · simp only [Bool.and_eq_true, decide_eq_true_eq] at h1
          obtain ⟨⟨⟨⟨⟨⟨⟨a1, a2⟩, a3⟩, a4⟩, a5⟩, a6⟩, a7⟩, a8⟩ := h1
          have ae := sEs es t X Wx _ cx h2
          rw [← cx.sc] at a8 a4 a5
          rw [← cx.hN] at a1 a2
          exact rs_par2 (ps_par (cx.calm hcm) cx.nd a1 a2 a3 a4 a5 (ae.pa (by simp [a6, a7])) (swapN_ok (blockKind_fn I) a8) rfl)
        · cases h1
      · rename_i i j kk
        unfold par3 at h1
        split at h1
        · simp only [Bool.and_eq_true, decide_eq_true_eq] at h1
          obtain ⟨⟨⟨⟨⟨⟨⟨⟨⟨⟨⟨⟨a1, a2⟩, a3⟩, a4⟩, a5⟩, a6⟩, a7⟩, a8⟩, a9⟩, b1⟩, b2⟩, b3⟩, b4⟩ := h1
          have ae := sEs es t X Wx _ cx h2
          rw [← cx.sc] at b4 a7 a8 a9
          rw [← cx.hN] at a1 a2 a3
          exact rs_par3 (ps_par3 (cx.calm hcm) cx.nd a1 a2 a3 a4 a5 a6 a7 a8 a9 (ae.pa (by simp [b1, b2, b3])) (swapN_ok (blockKind_fn I) b4) rfl)
        · cases h1
      · cases h1
    · cases h
  | .frz _, W, t, X, Wx, st, cx, po, h => by
    unfold chkS at h
    cases h
  | .app s e, W, t, X, Wx, st, cx, po, h => by
    unfold chkS at h
    split at h
    · simp only [Bool.and_eq_true, decide_eq_true_eq] at h
      obtain ⟨⟨⟨⟨rfl, h2⟩, h3⟩, h4⟩, h5⟩ := h
      exact rs_app (cx.name h2) (sE e t X Wx _ cx h5) h3 rfl h4
    · cases h
  | .sto s i e, W, t, X, Wx, st, cx, po, h => by
    unfold chkS at h
    split at h
    · simp only [Bool.and_eq_true] at h
      exact rs_sto (sE e t X Wx _ cx h.2) (cx.name h.1.1.1) (sE i t X Wx _ cx h.1.2) h.1.1.2
    · cases h
  | .stoa s o i e, W, t, X, Wx, st, cx, po, h => by
    unfold chkS at h
    split at h
    · simp only [Bool.and_eq_true] at h
      obtain ⟨⟨⟨⟨⟨h1, h2⟩, h3⟩, h4⟩, h5⟩, h6⟩ := h
      rw [bopIs_ok h3]
      exact rs_stoa cx.hK (cx.name h1) (sE i t X Wx _ cx h5) (sE e t X Wx _ cx h6) h2 (by cases o <;> first | exact .inl rfl | exact .inr rfl | cases h4)
    · cases h
  | .bst b i e, W, t, X, Wx, st, cx, po, h => by
    unfold chkS at h
    split at h
    · simp only [Bool.and_eq_true] at h
      exact rs_bst (sE e t X Wx _ cx h.2) (sE b t X Wx _ cx h.1.1.2) (sE i t X Wx _ cx h.1.2) h.1.1.1
    · cases h
  | .aug s o e, W, t, X, Wx, st, cx, po, h => by
    unfold chkS at h
    split at h
    · simp only [Bool.and_eq_true] at h
      obtain ⟨h1, h2, h3⟩ := tgt_ok cx h.1.1.1
      rw [bopIs_ok h.1.1.2]
      exact rs_aug cx.nd h1 h2 h3 (sE e t X Wx _ cx h.2) (by
        have := h.1.2
        cases o <;> first | exact .inl rfl | exact .inr rfl | cases this)
    · cases h
  | .ex e, W, t, X, Wx, st, cx, po, h => by
    unfold chkS at h
    split at h
    · simp only [Bool.and_eq_true] at h
      exact rs_ex (ps_expr (sE e t X Wx _ cx h.2) (noComp_ok h.1))
    · cases h
  | .ret e, W, t, X, Wx, st, cx, po, h => by
    unfold chkS at h
    split at h
    · exact rs_ret (sE e t X Wx _ cx h)
    · cases h
  | .retn, W, t, X, Wx, st, cx, po, h => by
    unfold chkS at h
    split at h
    · exact rs_retn
    · cases h
  | .pass, W, t, X, Wx, st, cx, po, h => by
    unfold chkS isDoc at h
    split at h
    · exact rs_pass ps_pass
    · exact rs_pass ps_doc
    · cases h
  | .brk, W, t, X, Wx, st, cx, po, h => by
    unfold chkS at h
    split at h
    · exact rs_brk
    · cases h
  | .cnt, W, t, X, Wx, st, cx, po, h => by
    unfold chkS at h
    split at h
    · exact rs_cnt
    · cases h
  | .ite c a b, W, t, X, Wx, st, cx, po, h => by
    unfold chkS at h
    split at h
    · simp only [Bool.and_eq_true] at h
      exact rs_ite (sT c t X Wx _ cx h.1.1) (sSs hw a W t X Wx _ cx po h.1.2) (sSs hw b W t X Wx _ cx po h.2)
    · cases h
  | .whl c b, W, t, X, Wx, st, cx, po, h => by
    unfold chkS at h
    split at h
    · simp only [Bool.and_eq_true] at h
      have e : run C (.whl c b) = fun r => whC (evT C c) (runs C b) r := by
        funext r
        show C.wh _ _ r = _
        rw [hw]
      rw [e]
      exact rs_whl po.po (sT c t X Wx _ cx h.1) (sSs hw b W t X Wx _ cx po h.2)
    · cases h
  | .fr g ik l b, W, t, X, Wx, st, cx, po, h => by
    unfold chkS at h
    split at h
    · simp only [Bool.and_eq_true] at h
      obtain ⟨⟨⟨hcm, h1⟩, h2⟩, h3⟩ := h
      split at h2
      · rename_i es hit
        obtain ⟨i1, i2⟩ := s_it cx hit (sEs l t X Wx _ cx h2)
        have e : run C (.fr g ik l b) = fun r => M.bind (M.bind (evs C l r) fun xs => M.lift (itD ik xs)) fun its => forM g (runs C b) its r := by
          funext r
          rw [M.bind_assoc]
          rfl
        rw [e]
        exact rs_for po.po (cx.calm hcm) i1 (sG cx g _ h1) (sSs hw b W t X Wx _ cx po h3) (noSet_ok i2)
      · cases h2
    · cases h
  | .rse c l, W, t, X, Wx, st, cx, po, h => by
    unfold chkS at h
    split at h
    · simp only [Bool.and_eq_true, decide_eq_true_eq] at h
      obtain ⟨⟨⟨⟨hcm, h1⟩, h2⟩, h3⟩, h4⟩ := h
      obtain ⟨g1, g2, g3⟩ := cx.glob h2
      have hr := (cx.hr hcm).dp
      cases l with
      | cons _ _ => cases h1
      | nil => exact rs_rse cx.tk (cx.calm hcm) (pmk_xc (cx.xok c (List.contains_iff_mem.mp h4)) g1 (cx.xcs c _ h3) (by omega) cx.sup.2 cx.sup.1 g2)
    · cases h
  | .tri b cs n hd, W, t, X, Wx, st, cx, po, h => by
    unfold chkS at h
    split at h
    · rename_i i a p1 p2 p3 x np nm b₀ suite pos' pos
      simp only [Bool.and_eq_true, decide_eq_true_eq] at h
      obtain ⟨⟨⟨⟨⟨⟨hcm, h1⟩, h2⟩, h3⟩, h4⟩, h5⟩, h6⟩ := h
      split at h5
      · rename_i cb hcb
        obtain ⟨g1, g2, g3⟩ := cx.glob h4
        obtain ⟨t1, t2, t3⟩ := po.hear a h1
        have hall := List.all_eq_true.mp h5
        have hm : ∀ c ∈ cs, (c, cb) ∈ t.xsub := fun c hc => List.contains_iff_mem.mp (hall c hc)
        have hx : t.xcs[cb]? = some x := idx_at hcb
        have key := rs_tri (W := W) (g0 := g0) (H0 := H0) (pos := pos) (pos' := pos') (np := np) (p := p3) (fh := fun r1 => runs C hd r1) (cs := cs) t1 t2 cx.nd (by rw [cx.hN]; exact h2) (by unfold Env.kindOf; rw [cx.sc]; exact h3) ⟨g1, g2, .inl (cx.xcs cb x hx)⟩ cx.tk rfl (fun pn xe W' tk' => t3 pn xe W' tk' p1 p2)
          (fun a' oe c pn hc hz hv => sSs hw hd (W.err (some (a', c)) W.l) t.suite (X.suite a' ((a', oe) :: pn)) Wf (b₀ :: suite) (cx.suite (hm c hc) hz hv) ⟨PassesOwn.never, fun _ z => by cases z⟩ h6) (fun c hc => (cx.xsub _ (hm c hc)).1) (cx.ne hcm)
        exact key
      · cases h5
    · cases h
  | .fst s f e, W, t, X, Wx, st, cx, po, h => by
    unfold chkS at h
    split at h
    · simp only [Bool.and_eq_true, decide_eq_true_eq] at h
      obtain ⟨⟨⟨rfl, h2⟩, h3⟩, h4⟩ := h
      exact rs_fst cx.flok.1 cx.flok.2 (cx.name h2) (sE e t X Wx _ cx h4) (noComp_ok h3)
    · cases h
  | .fst2 s f g e, W, t, X, Wx, st, cx, po, h => by
    unfold chkS at h
    split at h
    · simp only [Bool.and_eq_true, decide_eq_true_eq] at h
      obtain ⟨⟨⟨⟨⟨⟨hcm, rfl⟩, rfl⟩, h3⟩, h4⟩, h5⟩, h6⟩ := h
      exact rs_fst2 cx.hK (cx.calm hcm) cx.flok.1 cx.flok.2 (cx.name h3) (cx.name h4) (sE e t X Wx _ cx h6) (plainO2_sole h5) (plainO2_sw h5)
    · cases h
  | .popo g s, W, t, X, Wx, st, cx, po, h => by
    unfold chkS at h
    split at h
    · rename_i l ts kk pp x p2 nm apos cpos spos
      simp only [Bool.and_eq_true, decide_eq_true_eq] at h
      obtain ⟨⟨⟨rfl, h2⟩, h3⟩, h4⟩ := h
      exact PS.inv fun ⟨pins, σ, H, s, I⟩ => rs_popo (cx.name h2) (sG cx (.t l) _ h4) rfl h3 asg_tup (one_ok (t := t) (blockKind_fn I) cx.sc rfl)
    · cases h
  | .paro i e j f, W, t, X, Wx, st, cx, po, h => by
    unfold chkS at h
    split at h
    · rename_i l k ts kt pt es1 p1 es2 p2 k2 pt2 spos
      simp only [Bool.and_eq_true] at h
      obtain ⟨⟨⟨⟨⟨hcm, h1⟩, h2⟩, h3⟩, h4⟩, h5⟩ := h
      refine PS.inv fun ⟨pins, σ, H, s, I⟩ => ?_
      unfold par2 at h1
      split at h1
      · rename_i x px y py a b hab
        cases hab
        simp only [Bool.and_eq_true, decide_eq_true_eq] at h1
        obtain ⟨⟨⟨⟨⟨⟨⟨a1, a2⟩, a3⟩, a4⟩, a5⟩, a6⟩, a7⟩, a8⟩ := h1
        have f1 := rf_lst (pos := p1) ((sEs l t X Wx _ cx h4).pa h2)
        have f2 := rf_lst (pos := p2) ((sEs k t X Wx _ cx h5).pa h3)
        rw [← cx.sc] at a8 a4 a5
        rw [← cx.hN] at a1 a2
        exact rs_paro (ps_par (cx.calm hcm) cx.nd a1 a2 a3 a4 a5 (pa_cons f1 (pa_cons f2 pa_nil rfl) rfl) (swapN_ok (blockKind_fn I) a8) rfl)
      · cases h1
    · cases h
  | .no, W, t, X, Wx, st, cx, po, h => ⟨fun pins s σ H D I ⟨gb, r, g, B, a, out⟩ => out.elim⟩
theorem sSs (hw : C.wh = whC) : ∀ (l : List Ps) (W : Wd) (t : Tc) (X : Cx) (Wx : WX) (sts : List Stmt), CtxOk C W k t X Wx → TopX C W g0 H0 t X → chkSs t l sts = true → PSs X sts (tSt W Wx g0 H0 (runs C l))
  | [], W, t, X, Wx, sts, cx, po, h => by
    unfold chkSs at h
    cases sts with
    | nil => exact rss_nil
    | cons _ _ => cases h
  | p :: l, W, t, X, Wx, sts, cx, po, h => by
    unfold chkSs at h
    split at h
    · rename_i i hi
      cases p with
      | frz s =>
        have := rss_frz (g0 := g0) (H0 := H0) (i := s) (sSs hw l W t X Wx sts cx po h)
        exact this
      | _ => cases hi
    · cases sts with
      | nil => cases h
      | cons st sts =>
        simp only [Bool.and_eq_true] at h
        exact rss_cons (sS hw p W t X Wx st cx po h.1) (sSs hw l W t X Wx sts cx po h.2)
end
end
end Pl

-- part P10
set_option maxHeartbeats 4000000
/-! The pure layer 10: all defs of a module at once. -/
namespace Pl
open PySem PySem.Spec PyProof.Rows L2
structure Df where
  ps : Nat
  N : Nat
  rg : Bool
  lams : Bool
  body : List Ps
  ini : Option Nat := none
def startR (N : Nat) (ds : List D) : Rho := ds.map Sl.v ++ List.replicate (N - ds.length) Sl.e
def finM (m : M Fl) : M D := M.bind m fun f => match f with
  | .nx _ => M.ret .non
  | .rt d => M.ret d
  | _ => M.stuck
def startI (c N : Nat) (ds : List D) : Rho := .oi c [] :: startR (N - 1) ds
/-- an __init__ is at its end: the instance is made -/
def iniD (fl : Nat → List Str) (c : Nat) (r : Rho) : Option D := match (r[0]? : Option Sl) with
  | some (Sl.oi c' l) => if c' = c ∧ l.length = (fl c).length then some (.obj c l) else none
  | _ => none
def iniM (fl : Nat → List Str) (c : Nat) (m : M Fl) : M D := M.bind m fun f => match f with
  | .nx r => M.lift (iniD fl c r)
  | _ => M.stuck
def callM (C : Cf) (d : Df) (ds : List D) : M D := match d.ini with
  | none => finM (runs C d.body (startR d.N ds))
  | some c => iniM C.fl c (runs C d.body (startI c d.N ds))
/-- what is fixed for a module: the makers, which error is of which class, the fields -/
structure Mkr where
  mi : Nat → Nat
  xs : Nat → Option Nat → Bool
  fl : Nat → List Str
/-- a def that calls what it got -/
noncomputable def heC (K : Mkr) (m : M D) : Cf := ⟨fun _ _ => M.stuck, fun _ _ => M.stuck, m, fun _ _ => M.stuck, K.xs, K.fl, whC⟩
def startL (n : Nat) : Rho := (List.replicate n Sl.e).set 0 .la
noncomputable def lwM (K : Mkr) (Hs : List Df) (f : Nat) (m : M D) : M D := match Hs[f]? with
  | some d => finM (runs (heC K m) d.body (startL d.N))
  | none => M.stuck
noncomputable def cfOf (K : Mkr) (Hs : List Df) (F : Nat → List D → M D) : Cf := ⟨F, fun c => F (K.mi c), M.stuck, lwM K Hs, K.xs, K.fl, whC⟩
/-- the defs, to a depth of calls -/
noncomputable def FF (K : Mkr) (Hs Ds : List Df) : Nat → Nat → List D → M D
  | 0, _, _ => M.stuck
  | n + 1, i, ds => match Ds[i]? with
    | some d => callM (cfOf K Hs (FF K Hs Ds n)) d ds
    | none => M.stuck
section
variable {W : Wd} {g : Gs} {H : Hp}
theorem start_ok (N : List Str) {ds : List D} {vs : List V} (h : RpL W g ds vs) (hn : vs.length ≤ N.length) : EnvR W g H (startR N.length ds) (L2.start N vs) := by
  have hl := h.length
  refine ⟨?_, fun i s hs => ?_, fun i j s t a h1 h2 o1 o2 _ _ => ?_⟩
  · unfold startR L2.start
    simp
    omega
  · unfold startR at hs
    unfold L2.start
    by_cases hi : i < ds.length
    · rw [List.getElem?_append_left (by simpa using hi)] at hs
      rw [List.getElem?_append_left (by simpa [hl] using hi)]
      obtain ⟨d, hd, rfl⟩ := map_some' (by simpa using hs)
      obtain ⟨x, hx, rx⟩ := h.get hd
      exact ⟨x, by simp [hx], rx⟩
    · rw [List.getElem?_append_right (by simpa using Nat.le_of_not_lt hi)] at hs
      have : s = .e := by
        have := List.mem_of_getElem? hs
        exact (List.mem_replicate.mp this).2
      subst this
      trivial
  · have : s = .e ∨ ∃ d, s = .v d := by
      unfold startR at h1
      by_cases hi : i < ds.length
      · rw [List.getElem?_append_left (by simpa using hi)] at h1
        obtain ⟨d, hd, rfl⟩ := map_some' (by simpa using h1)
        exact .inr ⟨d, rfl⟩
      · rw [List.getElem?_append_right (by simpa using Nat.le_of_not_lt hi)] at h1
        exact .inl (List.mem_replicate.mp (List.mem_of_getElem? h1)).2
    rcases this with rfl | ⟨d, rfl⟩ <;> cases o1
theorem start_fr {H0 : Hp} {σ : L2.St} (n : Nat) (ds : List D) : Fr H0 (startR n ds) σ := fun j s a h o _ => by
  unfold startR at h
  by_cases hi : j < ds.length
  · rw [List.getElem?_append_left (by simpa using hi)] at h
    obtain ⟨d, hd, rfl⟩ := map_some' (by simpa using h)
    cases o
  · rw [List.getElem?_append_right (by simpa using Nat.le_of_not_lt hi)] at h
    have := (List.mem_replicate.mp (List.mem_of_getElem? h)).2
    subst this
    cases o
end
/-- what the module's texts are known by -/
structure Tb where
  fns : List (Str × Nat × Bool)
  csts : List (Str × D)
  blts : List Str
  xcs : List Str
  xmk : List Nat
  xsub : List (Nat × Nat)
  hrs : List Str
  mks : List (Nat × Str × Nat × Bool) := []
def Tb.tc (T : Tb) (N : List Str) (sc : Scope) (rg lams : Bool) : Tc := { N := N, sc := sc, top := true, calm := true, rg := rg, fns := T.fns, csts := T.csts, blts := T.blts, xcs := T.xcs, xmk := T.xmk, xsub := T.xsub, hear := none, lams := lams, hrs := T.hrs, mks := T.mks }
/-- a def stands at its place, and its text is that tree -/
def DefOk (K : PySem.W.Frag) (mg : Str → Option Value) (base : Heap) (TT : List (Addr × Str)) (T : Tb) (f : Addr) (d : Df) : Prop :=
  ∃ (name qual : Str) (params : Arguments) (body : List Stmt) (scope : Scope) (dV kV doc pm cdv ct oc : Value) (an od : Option Addr) (osl : Array (Option Value)) (N ps : List Str),
    K.lookup f = some ⟨oc, od, .func (PySem.W.fnOf name qual params body scope dV kV doc pm an cdv ct), osl⟩ ∧ PySem.W.codeIn K cdv qual = true ∧ FnScope N ps scope ∧ ps.length = d.ps ∧ N.length = d.N ∧ d.ps ≤ d.N ∧
    chkSs (T.tc N scope d.rg d.lams) d.body body = true ∧ Binds K (PySem.W.fnOf name qual params body scope dV kV doc pm an cdv ct) ps [] ∧ PySem.W.keepIn K (.ref f) = true ∧
    (d.lams = true → ∃ c P, cdv = .ref c ∧ LamX.TabB base mg c P ∧ (P, (qual ++ (".<locals>." : Str)) ++ ("<lambda>" : Str)) ∈ TT ∧ ∀ p ∈ TT, p.1 = P → p.2 = (qual ++ (".<locals>." : Str)) ++ ("<lambda>" : Str))
structure ModOk (P : Program) (w : World) (K : PySem.W.Frag) (mg : Str → Option Value) (base : Heap) (W : Wd) (T : Tb) (xs : Nat → Option Nat → Bool) (fl : Nat → List Str) (mi : Nat → Nat) (Ds : List Df) : Prop where
  hK : K = W.K
  we : W.e = none
  fns : ∀ (f : Nat) (x : Str) (n : Nat) (b : Bool), T.fns[f]? = some (x, n, b) → mg x = some (.ref (W.fa f)) ∧ ∃ d, Ds[f]? = some d ∧ d.ps = n ∧ d.rg = b ∧ d.ini = none
  flok : (∀ c, fl c = W.fl c) ∧ ∀ c, W.fl c ≠ [] → ClsOk K W c
  mks : ∀ m ∈ T.mks, mg m.2.1 = some (.ref (W.ca m.1)) ∧ ∃ d f, Ds[mi m.1]? = some d ∧ d.ps = m.2.2.1 + 1 ∧ d.rg = m.2.2.2 ∧ d.ini = some m.1 ∧ DefOk K mg base W.T T f d ∧ L2.Mk K (W.ca m.1) f
  defs : ∀ (f : Nat) (d : Df), Ds[f]? = some d → d.ini = none → DefOk K mg base W.T T (W.fa f) d
  csts : ∀ p ∈ T.csts, ∃ u v, mg p.1 = some u ∧ RelV v u ∧ ∀ g, Rp W g p.2 v
  blts : ∀ x ∈ T.blts, mg x = none
  xcs : ∀ (c : Nat) (x : Str), T.xcs[c]? = some x → mg x = some (.ref (W.ca c))
  xok : ∀ c ∈ T.xmk, XcOk P K (W.ca c)
  sup : mg "super" = none ∧ (P.main.scope.names.lookup ("super" : Str)).isSome = false
  xsub : ∀ p ∈ T.xsub, PySem.W.exmOne K (.ref (W.ca p.1)) (.ref (W.ca p.2)) = some true ∧ ExcC K (W.ca p.1) ∧ PySem.W.kitOne K (.ref (W.ca p.1)) (.type "ValueError") = some (xs p.1 none) ∧ ∀ (c' : Nat) (x : Str), T.xcs[c']? = some x → PySem.W.kitOne K (.ref (W.ca p.1)) (.ref (W.ca c')) = some (xs p.1 (some c'))
def Tb.hc (T : Tb) (N : List Str) (sc : Scope) (a : Str) : Tc := { T.tc N sc false false with fns := [], hear := some a, hrs := [], mks := [] }
/-- a def that calls what it got stands there, and its text is that tree -/
def HearOk (K : PySem.W.Frag) (mg : Str → Option Value) (T : Tb) (x : Str) (d : Df) : Prop :=
  ∃ (g : Addr) (a : Str) (pg : Arguments) (bg : List Stmt) (sg : Scope) (dV kV doc pm cdv ct oc : Value) (an od : Option Addr) (osl : Array (Option Value)) (Ng : List Str),
    mg x = some (.ref g) ∧ PySem.W.keepIn K (.ref g) = true ∧ K.lookup g = some ⟨oc, od, .func (PySem.W.fnOf x x pg bg sg dV kV doc pm an cdv ct), osl⟩ ∧ PySem.W.codeIn K cdv x = true ∧ L2.Binds K (PySem.W.fnOf x x pg bg sg dV kV doc pm an cdv ct) [a] [] ∧ FnScope Ng [a] sg ∧ Ng[0]? = some a ∧ Vis sg a ∧
    (a == ("__debug__" : Str)) = false ∧ (a == ("__classdict__" : Str)) = false ∧ Ng.length = d.N ∧ 1 ≤ d.N ∧ chkSs (T.hc Ng sg a) d.body bg = true
theorem startL_env {W : Wd} {g : Gs} {H : Hp} {N : List Str} {f c' : Addr} {φ : Heap → Prop} (hN : 1 ≤ N.length) (hl : W.l = some (f, c', φ)) (hc : H c' = some (.ext φ)) (hb : c' ∉ g.b) : EnvR W g H (startL N.length) (L2.start N [.ref f]) := by
  have own : ∀ (i : Nat) (s : Sl), (startL N.length)[i]? = some s → s = .e ∨ (i = 0 ∧ s = .la) := fun i s h => by
    unfold startL at h
    by_cases hi : 0 = i
    · subst hi
      rw [List.getElem?_set_self (by rw [List.length_replicate]; omega)] at h
      cases h
      exact .inr ⟨rfl, rfl⟩
    · rw [List.getElem?_set_ne hi] at h
      exact .inl (List.mem_replicate.mp (List.mem_of_getElem? h)).2
  refine ⟨?_, fun i s h => ?_, fun i j s t a h1 _ o1 _ _ _ => ?_⟩
  · unfold startL L2.start
    simp
    omega
  · rcases own i s h with rfl | ⟨rfl, rfl⟩
    · trivial
    · exact ⟨f, c', φ, hl, rfl, hc, hb⟩
  · rcases own i s h1 with rfl | ⟨_, rfl⟩ <;> cases o1
section
variable {P : Program} {w : World} {K : PySem.W.Frag} {mg : Str → Option Value} {base : Heap} {W : Wd} {T : Tb} {Ds Hs : List Df} {Mk : Mkr}
theorem hear_gives (Mo : ModOk P w K mg base W T Mk.xs Mk.fl Mk.mi Ds) {X : Cx} (hP : X.prog = P) (hw : X.w = w) (hK : X.K = K) (hm : X.mg = mg) (hr : Room 1 X.A) {f : Nat} {x a : Str} {d : Df} (hd : Hs[f]? = some d) {g : Addr} {bg : List Stmt} {sg : Scope} {cdv : Value} {Ng : List Str} {q : Str} {C : Cf} (hC : C.lw = lwM Mk Hs)
    (Sg : FnScope Ng [a] sg) (hn : Ng.length = d.N) (h1 : 1 ≤ d.N) (hc : chkSs (T.hc Ng sg a) d.body bg = true) : LamX.GivesTo X Ng x sg g cdv bg a q (TTl W C f) := by
  subst hP hw hK hm
  intro f' c' s H Q tl act hc' ⟨g0, B, m, ok, htl, out⟩
  let φ : Heap → Prop := fun h => ∃ (oc : Obj) (vs : Array Value) (t : Tok), h.get? c' = some oc ∧ oc.data = .fields vs ∧ vs[1]? = some (.str q t)
  have hφ : H c' = some (.ext φ) := hc'
  let W' : Wd := W.err none (some (f', c', φ))
  have nb : c' ∉ g0.b := fun z => by
    obtain ⟨_, xs, e⟩ := ok.bagAt z
    rw [hφ] at e
    cases e
  have cx : CtxOk (heC Mk m) W' 0 (T.hc Ng sg a) (cxOf C8.CX0 X.prog X.w X.K X.mg X.base Ng x sg g cdv X.A X.stack s H C8.E0).nox Wf := {
    hK := Mo.hK
    hN := rfl
    sc := rfl
    nd := Sg.nd
    calm := fun _ => rfl
    gd := fun h => by cases h
    hr := fun _ => hr.deeper _
    hu := by
      have h1 := (hr.deeper (envOfC x sg s.heap.objs.size g cdv)).un
      have h2 : (X.A.deeper (envOfC x sg s.heap.objs.size g cdv)).units + 100 < cLine := by omega
      exact h2
    tk := takes0
    fn := fun _ _ => rfl
    fns := fun _ f x n b h => by cases h
    csts := fun p hp => by
      obtain ⟨u, v, h1, h2, h3⟩ := Mo.csts p hp
      exact ⟨u, v, h1, h2, fun g => (Rp.err _ _).mpr (h3 g)⟩
    blts := Mo.blts
    ne := fun _ => rfl
    xcs := Mo.xcs
    xok := Mo.xok
    sup := Mo.sup
    xsub := Mo.xsub
    lam := fun h => by cases h
    hrs := fun h => by cases h
    flok := ⟨Mo.flok.1, fun c h => ⟨(Mo.flok.2 c h).cls, (Mo.flok.2 c h).no, (Mo.flok.2 c h).nd, (Mo.flok.2 c h).few⟩⟩
    mks := fun _ m hm => by cases hm
    ise := fun a c h => by cases h }
  refine ⟨_, sSs (g0 := g0) (H0 := H) rfl d.body W' _ _ _ bg cx ⟨PassesOwn.never, fun b hb => ?_⟩ hc, ?_⟩
  · cases hb
    refine ⟨rfl, rfl, fun pn xe W'' tk' p1 p2 => ?_⟩
    refine (act W'' pn xe (fun cls d H' => ∀ σ', W'' cls d σ' H') p1 p2 tk' (fun cls d σ' H' h => h σ')).imp fun σ H' Q' ⟨r, g', B', st, ok', er', out'⟩ => ?_
    obtain ⟨u, hu, q2⟩ := OutR.lift (OutR.bind out')
    have hs : r[0]? = some .la := by
      unfold getLa at hu
      split at hu
      · assumption
      · cases hu
    obtain ⟨f2, c2, φ2, e1, e2, e3, e4⟩ := er'.sl _ _ hs
    cases e1
    refine ⟨e2, e3, htl _ g' B' H' Q' st (Ok.err.mp ok') ?_⟩
    have q2 : OutR W' (allW W'') g' H' σ (m B') (okE W' g' H' Q') := q2
    cases e : m B' with
    | ok v B2 => rw [e] at q2; exact fun g2 H2 v2 s2 o2 r2 => q2 g2 H2 v2 s2 (Ok.err.mpr o2) ((Rp.err _ _).mpr r2)
    | ex c B2 => rw [e] at q2; exact fun g2 H2 s2 o2 => q2 g2 H2 s2 (Ok.err.mpr o2)
    | no => rw [e] at q2; exact q2.elim
  · obtain ⟨v, B2, e, qv⟩ := calm_ok out
    have e : C.lw f m B = .ok v B2 := e
    rw [hC] at e
    have e : (match Hs[f]? with | some d => finM (runs (heC Mk m) d.body (startL d.N)) | none => M.stuck) B = .ok v B2 := e
    rw [hd] at e
    obtain ⟨fl, B3, e1, e2⟩ := bind_ok e
    refine ⟨g0, startL d.N, g0, B, ⟨Stp.refl ok, Grow.refl _, Ok.err.mpr ok, ?_, ?_⟩, ?_⟩
    · rw [← hn]
      exact startL_env (by rw [hn]; exact h1) rfl hφ nb
    · intro j s b hj o2 _
      unfold startL at hj
      by_cases h0 : 0 = j
      · subst h0
        rw [List.getElem?_set_self (by rw [List.length_replicate]; omega)] at hj
        cases hj
        cases o2
      · rw [List.getElem?_set_ne h0] at hj
        have := (List.mem_replicate.mp (List.mem_of_getElem? hj)).2
        subst this
        cases o2
    · rw [e1]
      cases fl with
      | nx r =>
        obtain ⟨rfl, rfl⟩ := ret_ok e2
        exact fun g' H' σ' s' _ o _ _ => qv g' H' .non s' (Ok.err.mp o) rfl
      | rt u =>
        obtain ⟨rfl, rfl⟩ := ret_ok e2
        exact fun g' H' z s' _ o rv => qv g' H' z s' (Ok.err.mp o) ((Rp.err _ _).mp rv)
      | bk r => cases e2
      | ct r => cases e2
end
section
variable {P : Program} {w : World} {K : PySem.W.Frag} {mg : Str → Option Value} {base : Heap} {W : Wd} {T : Tb} {Ds Hs : List Df} {Mk : Mkr}
/-- the context of a def's body -/
theorem body_cx (M : ModOk P w K mg base W T Mk.xs Mk.fl Mk.mi Ds) (hh : ∀ (f : Nat) (x : Str), T.hrs[f]? = some x → ∃ d, Hs[f]? = some d ∧ HearOk K mg T x d) {n : Nat}
    (IH : ∀ (f : Nat) (x : Str) (m : Nat) (b : Bool), T.fns[f]? = some (x, m, b) → Callable P w K mg base W (3 * n) (W.fa f) m (FF Mk Hs Ds n f) b)
    (IM : ∀ m ∈ T.mks, Maker P w K mg base W (3 * n) m.1 m.2.2.1 (FF Mk Hs Ds n (Mk.mi m.1)) m.2.2.2)
    {d : Df} {N ps : List Str} {qual : Str} {scope : Scope} {f : Addr} {cdv : Value} {A : Around} {outer : List Env} {s : Shared} {H : Hp} {E : XK} (S : FnScope N ps scope)
    (hlam : d.lams = true → ∃ c P', cdv = .ref c ∧ LamX.TabB base mg c P' ∧ (P', (qual ++ (".<locals>." : Str)) ++ ("<lambda>" : Str)) ∈ W.T ∧ ∀ p ∈ W.T, p.1 = P' → p.2 = (qual ++ (".<locals>." : Str)) ++ ("<lambda>" : Str))
    (hr : Room (3 * n + 2) (A.deeper (envOfC qual scope s.heap.objs.size f cdv))) (hg : d.rg = true → A.guards = some []) :
    CtxOk (cfOf Mk Hs (FF Mk Hs Ds n)) W (3 * n) (T.tc N scope d.rg d.lams) (cxOf (L2.CX P w) P w K mg base N qual scope f cdv A outer s H E) (fun c d _ H' => E c d H') := {
  hK := M.hK
  hN := rfl
  sc := rfl
  nd := S.nd
  calm := fun _ => rfl
  gd := hg
  hr := fun _ => hr.mono (by omega)
  hu := by
    have h1 := hr.un
    have h2 : (A.deeper (envOfC qual scope s.heap.objs.size f cdv)).units + 100 < cLine := by omega
    exact h2
  tk := takes_of rfl rfl rfl rfl
  fn := fun _ _ => rfl
  fns := fun _ f' x' n' b' h' => ⟨(M.fns f' x' n' b' h').1, IH f' x' n' b' h'⟩
  csts := M.csts
  blts := M.blts
  ne := fun _ => M.we
  xcs := M.xcs
  xok := M.xok
  sup := M.sup
  xsub := M.xsub
  lam := fun h => by
    obtain ⟨c, P', e1, e2, e3, e4⟩ := hlam h
    exact ⟨hr, c, P', e2, e1, e3, e4⟩
  hrs := fun h f' x' h' => by
    obtain ⟨d', hd', g', a', pg', bg', sg', dV', kV', doc', pm', cdv', ct', oc', an', od', osl', Ng', q1, q2, q3, q4, q5, q6, q7, q8, q9, q10, q11, q12, q13⟩ := hh f' x' h'
    exact ⟨g', a', pg', bg', sg', dV', kV', doc', pm', cdv', ct', oc', an', od', osl', Ng', q1, q2, q3, q4, q5, q6, q7, q8, q9, q10, hear_gives M rfl rfl rfl rfl (hr.mono (by omega)) hd' rfl q6 q11 q12 q13⟩
  flok := M.flok
  mks := fun _ m hm => ⟨(M.mks m hm).1, hr.mono (by omega), IM m hm⟩
  ise := fun a c h => by rw [M.we] at h; cases h }
abbrev Gs.mk1 (g : Gs) (e : Option (Addr × Nat)) : Gs := ⟨g.Z, g.b, e⟩
theorem mk1_grow {g : Gs} {e : Option (Addr × Nat)} : Grow g (g.mk1 e) := ⟨fun _ _ h => h, [], by simp⟩
theorem mk1_grow' {g : Gs} {e : Option (Addr × Nat)} : Grow (g.mk1 e) g := ⟨fun _ _ h => h, [], by simp⟩
theorem mk1_ok {g : Gs} {e : Option (Addr × Nat)} {B : Bs} {H : Hp} (ok : Ok W g B H) : Ok W (g.mk1 e) B H := ⟨ok.ice, ok.kin, ok.len, ok.nd, fun i a ds h1 h2 => let ⟨q1, xs, q2, q3⟩ := ok.bag i a ds h1 h2; ⟨q1, xs, q2, RpL.up mk1_grow ds xs q3⟩, ok.tab⟩
/-- the mark of what is being made is taken back -/
theorem mk1_stp {g g' : Gs} {e : Option (Addr × Nat)} {H H' : Hp} (s : Stp (g.mk1 e) H g' H') : Stp g H (g'.mk1 g.e) H' := ⟨⟨s.grow.z, s.grow.b⟩, s.zn, s.bn, s.h, s.hb, rfl⟩
theorem startI_ok {g : Gs} {H : Hp} {c : Nat} {dx : Addr} {B : Bs} (N : List Str) {ds : List D} {vs : List V} (ok : Ok W g B H) (h : RpL W g ds vs) (hn : vs.length + 1 ≤ N.length) (n1 : H dx = none) (n2 : H (dx + 1) = none) :
    EnvR W (g.mk1 (some (dx + 1, 0))) (upd (upd H dx (.own (dx + 1))) (dx + 1) (.ins (W.ca c) dx [])) (startI c N.length ds) (L2.start N (.ref (dx + 1) :: vs)) := by
  have hne : dx ≠ dx + 1 := Nat.ne_of_lt (Nat.lt_succ_self dx)
  have hl := h.length
  have eS : L2.start N (.ref (dx + 1) :: vs) = some (.ref (dx + 1)) :: (vs.map some ++ List.replicate (N.length - 1 - vs.length) none) := by
    unfold L2.start
    rw [List.map_cons, List.cons_append, List.length_cons, Nat.sub_sub, Nat.add_comm 1]
  have own : ∀ (i : Nat) (s : Sl), (startI c N.length ds)[i]? = some s → s.own = true → i = 0 := fun i s hs o => by
    cases i with
    | zero => rfl
    | succ i =>
      have hs : (startR (N.length - 1) ds)[i]? = some s := by simpa [startI] using hs
      unfold startR at hs
      by_cases hi : i < ds.length
      · rw [List.getElem?_append_left (by simpa using hi)] at hs
        obtain ⟨d, hd, rfl⟩ := map_some' (by simpa using hs)
        cases o
      · rw [List.getElem?_append_right (by simpa using Nat.le_of_not_lt hi)] at hs
        have := (List.mem_replicate.mp (List.mem_of_getElem? hs)).2
        subst this
        cases o
  refine ⟨?_, fun i s hs => ?_, fun i j s t a h1 h2 o1 o2 _ _ => by rw [own i s h1 o1, own j t h2 o2]⟩
  · rw [eS]
    unfold startI startR
    simp
    omega
  · rw [eS]
    cases i with
    | zero =>
      have hs : some (Sl.oi c []) = some s := hs
      cases hs
      refine ⟨dx + 1, dx, [], rfl, by rw [upd_same]; simp, ok.zfree n2, ok.nbag n2, by rw [upd_ne hne, upd_same], ok.zfree n1, ok.nbag n1, RpL.nil, Nat.zero_le _, rfl, rfl⟩
    | succ i =>
      have hs : (startR (N.length - 1) ds)[i]? = some s := by simpa [startI] using hs
      unfold startR at hs
      show SlR W (g.mk1 (some (dx + 1, 0))) _ s (vs.map some ++ List.replicate (N.length - 1 - vs.length) none)[i]?
      by_cases hi : i < ds.length
      · rw [List.getElem?_append_left (by simpa using hi)] at hs
        rw [List.getElem?_append_left (by simpa [hl] using hi)]
        obtain ⟨d, hd, rfl⟩ := map_some' (by simpa using hs)
        obtain ⟨x, hx, rx⟩ := h.get hd
        exact ⟨x, by simp [hx], Rp.up mk1_grow _ _ rx⟩
      · rw [List.getElem?_append_right (by simpa using Nat.le_of_not_lt hi)] at hs
        have := (List.mem_replicate.mp (List.mem_of_getElem? hs)).2
        subst this
        trivial
theorem startI_fr {H0 : Hp} {c n : Nat} {dx : Addr} (N : List Str) (ds : List D) (vs : List V) (n2 : H0 (dx + 1) = none) : Fr H0 (startI c n ds) (L2.start N (.ref (dx + 1) :: vs)) := fun j s a h o e => by
  cases j with
  | zero =>
    have e : some (some (V.ref (dx + 1))) = some (some (.ref a)) := e
    cases e
    exact vac_none n2
  | succ i =>
    have hs : (startR (n - 1) ds)[i]? = some s := by simpa [startI] using h
    unfold startR at hs
    by_cases hi : i < ds.length
    · rw [List.getElem?_append_left (by simpa using hi)] at hs
      obtain ⟨d, hd, rfl⟩ := map_some' (by simpa using hs)
      cases o
    · rw [List.getElem?_append_right (by simpa using Nat.le_of_not_lt hi)] at hs
      have := (List.mem_replicate.mp (List.mem_of_getElem? hs)).2
      subst this
      cases o
theorem Stp.new2 {g : Gs} {B : Bs} {H : Hp} {dx x : Addr} {o o' : HO} (ok : Ok W g B H) (n1 : H dx = none) (n2 : H x = none) (ne : dx ≠ x) : Stp g H g (upd (upd H dx o) x o') ∧ Ok W g B (upd (upd H dx o) x o') :=
  have n3 : (upd H dx o) x = none := by rw [upd_ne (Ne.symm ne)]; exact n2
  ⟨(Stp.new ok n1).trans (Stp.new (ok.new n1) n3), (ok.new n1).new n3⟩
/-- an instance that nobody changes any more -/
theorem ins_ice {g g' : Gs} {B : Bs} {H H' : Hp} {c : Nat} {p dx : Addr} {l : List D} {xs : List V} (s : Stp g H g' H') (ok : Ok W g' B H') (e2 : H' p = some (.ins (W.ca c) dx ((W.fl c).zip xs))) (e3 : g'.Z p = none) (e4 : p ∉ g'.b) (f1 : H' dx = some (.own p)) (f2 : g'.Z dx = none) (f3 : dx ∉ g'.b) (rl : RpL W g' l xs) (hl : l.length = (W.fl c).length) (v1 : Vac H p) (v2 : Vac H dx) (ne : dx ≠ p) :
    ∃ g2, Stp g H g2 H' ∧ Ok W g2 B H' ∧ Rp W g2 (.obj c l) (.ref p) := by
  have gr1 : Grow g' (g'.ice p (.ins (W.ca c) dx ((W.fl c).zip xs))) := grow_ice e3
  have z2 : (g'.ice p (.ins (W.ca c) dx ((W.fl c).zip xs))).Z dx = none := by
    show upd g'.Z p _ dx = none
    rw [upd_ne ne]
    exact f2
  have gr2 : Grow (g'.ice p (.ins (W.ca c) dx ((W.fl c).zip xs))) ((g'.ice p (.ins (W.ca c) dx ((W.fl c).zip xs))).ice dx (.own p)) := grow_ice z2
  have ok1 := ok.freeze e2 e3 e4 nt_ins
  have ok2 := ok1.freeze f1 z2 f3 nt_own
  refine ⟨_, ⟨s.grow.trans (gr1.trans gr2), fun a o h n => ?_, s.bn, s.h, s.hb, s.e⟩, ok2, p, dx, xs, rfl, ?_, upd_same, by rw [← hl, rl.length], RpL.up (gr1.trans gr2) _ _ rl⟩
  · have na : a ≠ p := ne_of_vac h n v1
    have nb : a ≠ dx := ne_of_vac h n v2
    show upd (upd g'.Z p _) dx _ a = _
    rw [upd_ne nb, upd_ne na]
    exact s.zn a o h n
  · show upd (upd g'.Z p _) dx _ p = _
    rw [upd_ne (Ne.symm ne), upd_same]
theorem both (M : ModOk P w K mg base W T Mk.xs Mk.fl Mk.mi Ds) (hh : ∀ (f : Nat) (x : Str), T.hrs[f]? = some x → ∃ d, Hs[f]? = some d ∧ HearOk K mg T x d) : ∀ (n : Nat), (∀ (f : Nat) (x : Str) (m : Nat) (b : Bool), T.fns[f]? = some (x, m, b) → Callable P w K mg base W (3 * n) (W.fa f) m (FF Mk Hs Ds n f) b) ∧
    (∀ m ∈ T.mks, Maker P w K mg base W (3 * n) m.1 m.2.2.1 (FF Mk Hs Ds n (Mk.mi m.1)) m.2.2.2)
  | 0 => by
    refine ⟨fun f x m b h => ?_, fun m hm => ?_⟩
    · obtain ⟨_, d, hd, rfl, rfl, hmk⟩ := M.fns f x m b h
      obtain ⟨name, qual, params, body, scope, dV, kV, doc, pm, cdv, ct, oc, an, od, osl, N, ps, lk, hcd, S, hps, hN, hle, hc, hb, hk, hlam⟩ := M.defs f d hd hmk
      exact ⟨_, ps, hps, ⟨fun vs H Q E h => by rw [h.1, hps], fun A outer s H args us vs Q E _ _ _ _ _ ⟨_, ds, g, B, _, _, out⟩ => out.elim⟩, hk, hb⟩
    · obtain ⟨_, d, f, hd, hps', hrg, hmk, ⟨name, qual, params, body, scope, dV, kV, doc, pm, cdv, ct, oc, an, od, osl, N, ps, lk, hcd, S, hps, hN, hle, hc, hb, hk, hlam⟩, hM⟩ := M.mks m hm
      exact ⟨f, _, ps, by rw [hps, hps'], ⟨fun vs H Q E ⟨dx, vs', ds, g, B, H0, h1, h2, _⟩ => by rw [h1, List.length_cons, h2, hps, hps'], fun A outer s H args us vs Q E _ _ _ _ _ ⟨dx, vs', ds, g, B, H0, _, _, _, _, _, _, _, out⟩ => out.elim⟩, hM, hb⟩
  | n + 1 => by
    obtain ⟨IH, IM⟩ := both M hh n
    refine ⟨fun f x m b h => ?_, fun m hm => ?_⟩
    · obtain ⟨_, d, hd, rfl, rfl, hmk⟩ := M.fns f x m b h
      obtain ⟨name, qual, params, body, scope, dV, kV, doc, pm, cdv, ct, oc, an, od, osl, N, ps, lk, hcd, S, hps, hN, hle, hc, hb, hk, hlam⟩ := M.defs f d hd hmk
      refine ⟨_, ps, hps, (show 3 * (n + 1) = (3 * n + 2) + 1 by omega) ▸ fn_ofG lk hcd S (fun vs H Q E h => by rw [h.1, hps]) fun A outer s H vs Q E hr hg ⟨hl, ds, g, B, ok, rl, out⟩ => ?_, hk, hb⟩
      have cx := body_cx (Hs := Hs) (outer := outer) (H := H) (E := E) M hh IH IM (d := d) S hlam hr hg
      refine ⟨_, sSs (g0 := g) (H0 := H) rfl d.body W _ _ _ body cx ⟨passes_of (K := fun e s'' => L2.CX P w outer H s E e s'') rfl, fun _ z => by cases z⟩ hc, ?_⟩
      have e1 : FF Mk Hs Ds (n + 1) f ds = finM (runs (cfOf Mk Hs (FF Mk Hs Ds n)) d.body (startR d.N ds)) := by
        show (match Ds[f]? with | some d => _ | none => _) = _
        rw [hd]
        show callM _ d ds = _
        unfold callM
        rw [hmk]
      rw [e1] at out
      refine ⟨g, startR d.N ds, g, B, ⟨Stp.refl ok, Grow.refl g, ok, ?_, start_fr _ _⟩, ?_⟩
      · rw [← hN]
        exact start_ok N rl (by rw [hl, hN]; exact hle)
      · have out := OutR.bind out
        cases er : runs (cfOf Mk Hs (FF Mk Hs Ds n)) d.body (startR d.N ds) B with
        | ok fl B1 =>
          rw [er] at out
          have out : OutR W _ g H [] (_) _ := out
          show okS W g H g _ fl B1
          cases fl with
          | nx r => exact fun g' H' σ' s' _ o _ _ => (show okE W g H Q .non B1 from out) g' H' .non s' o rfl
          | rt v => exact fun g' H' u s' _ o rv => (show okE W g H Q v B1 from out) g' H' u s' o rv
          | bk r => exact out.elim
          | ct r => exact out.elim
        | ex c B1 =>
          rw [er] at out
          exact fun g' H' σ' s' o => out g' H' s' o
        | no =>
          rw [er] at out
          exact out.elim
    · obtain ⟨_, d, f, hd, hps', hrg, hmk, ⟨name, qual, params, body, scope, dV, kV, doc, pm, cdv, ct, oc, an, od, osl, N, ps, lk, hcd, S, hps, hN, hle, hc, hb, hk, hlam⟩, hM⟩ := M.mks m hm
      refine ⟨f, _, ps, by rw [hps, hps'], (show 3 * (n + 1) = (3 * n + 2) + 1 by omega) ▸ hrg ▸ fn_ofG lk hcd S (fun vs H Q E ⟨dx, vs', ds, g, B, H0, h1, h2, _⟩ => by rw [h1, List.length_cons, h2, hps, hps']) fun A outer s H vs Q E hr hg ⟨dx, vs', ds, g, B, H0, hv, hl, hH, n1, n2, ok, rl, out⟩ => ?_, hM, hb⟩
      have hne : dx ≠ dx + 1 := Nat.ne_of_lt (Nat.lt_succ_self dx)
      subst hv hH
      have cx := body_cx (Hs := Hs) (outer := outer) (H := upd (upd H0 dx (.own (dx + 1))) (dx + 1) (.ins (W.ca m.1) dx [])) (E := E) M hh IH IM (d := d) S hlam hr hg
      refine ⟨_, sSs (g0 := g.mk1 (some (dx + 1, 0))) (H0 := H0) rfl d.body W _ _ _ body cx ⟨passes_of (K := fun e s'' => L2.CX P w outer (upd (upd H0 dx (.own (dx + 1))) (dx + 1) (.ins (W.ca m.1) dx [])) s E e s'') rfl, fun _ z => by cases z⟩ hc, ?_⟩
      have e1 : FF Mk Hs Ds (n + 1) (Mk.mi m.1) ds = iniM Mk.fl m.1 (runs (cfOf Mk Hs (FF Mk Hs Ds n)) d.body (startI m.1 d.N ds)) := by
        show (match Ds[Mk.mi m.1]? with | some d => _ | none => _) = _
        rw [hd]
        show callM _ d ds = _
        unfold callM
        rw [hmk]
        rfl
      rw [e1] at out
      have ok1 : Ok W (g.mk1 (some (dx + 1, 0))) B H0 := mk1_ok ok
      obtain ⟨st2, ok2⟩ := Stp.new2 (o := .own (dx + 1)) (o' := .ins (W.ca m.1) dx []) ok1 n1 n2 hne
      refine ⟨g.mk1 (some (dx + 1, 0)), startI m.1 d.N ds, g.mk1 (some (dx + 1, 0)), B, ⟨st2, Grow.refl _, ok2, ?_, startI_fr _ _ _ n2⟩, ?_⟩
      · rw [← hN]
        exact startI_ok N ok rl (by rw [hl, hN]; omega) n1 n2
      · have out := OutR.bind out
        cases er : runs (cfOf Mk Hs (FF Mk Hs Ds n)) d.body (startI m.1 d.N ds) B with
        | ok fl B1 =>
          rw [er] at out
          have out : OutR W _ g H0 [] (_) _ := out
          show okS W (g.mk1 (some (dx + 1, 0))) H0 (g.mk1 (some (dx + 1, 0))) _ fl B1
          cases fl with
          | nx r =>
            intro g' H' σ' s' gr o eR fR
            obtain ⟨x, hx, q⟩ := OutR.lift (B := B1) (show OutR W (fun c d _ H' => E c d H') g H0 [] (Pl.M.lift (iniD Mk.fl m.1 r) B1) (okE W g H0 fun v H2 => v = .ref (dx + 1) → Q .non H2) from out)
            unfold iniD at hx
            split at hx
            · rename_i c' l hr0
              obtain ⟨⟨rfl, hlen⟩, rfl⟩ := ite_some hx
              obtain ⟨p, dx', xs, z1, z2, z3, z4, z5, z6, z7, z8, z9, z10, z11⟩ := eR.sl 0 _ hr0
              have ep : p = dx + 1 := by
                rw [s'.e] at z11
                cases z11
                rfl
              have ed : dx' = dx := Nat.succ.inj (z10.symm.trans ep)
              subst ep ed
              obtain ⟨g2, w1, w2, w3⟩ := ins_ice s' o z2 z3 z4 z5 z6 z7 z8 (by rw [hlen, M.flok.1]) (vac_none n2) (vac_none n1) hne
              exact q (g2.mk1 g.e) H' _ (mk1_stp w1) (mk1_ok w2) (Rp.up mk1_grow _ _ w3) rfl
            · cases hx
          | rt v => exact out.elim
          | bk r => exact out.elim
          | ct r => exact out.elim
        | ex c B1 =>
          rw [er] at out
          exact fun g' H' σ' s' o => out (g'.mk1 g.e) H' (mk1_stp s') (mk1_ok o)
        | no =>
          rw [er] at out
          exact out.elim
theorem callable (M : ModOk P w K mg base W T Mk.xs Mk.fl Mk.mi Ds) (hh : ∀ (f : Nat) (x : Str), T.hrs[f]? = some x → ∃ d, Hs[f]? = some d ∧ HearOk K mg T x d) (n f : Nat) (x : Str) (m : Nat) (b : Bool) (h : T.fns[f]? = some (x, m, b)) : Callable P w K mg base W (3 * n) (W.fa f) m (FF Mk Hs Ds n f) b := (both M hh n).1 f x m b h
end
end Pl

-- part PE
set_option maxHeartbeats 4000000
/-! The pure layer E: the law's own call, from what its def gives. -/
namespace Pl
open PySem PySem.Spec PyProof.Rows L2
section
variable {P : Program} {w : World} {K : PySem.W.Frag} {mg mb : Str → Option Value} {fa a : Addr} {cs : List (Addr × Addr)} {s1 : Shared} {vs : List Value} {ns : List Int}
abbrev tabE : Obj := { cls := .none, data := .fields #[] }
abbrev lisE (vs : List Value) : Obj := { cls := .type "list", data := .seq vs.toArray }
/-- what is tracked at the law's entry: the tables, the script where K does not hold it -/
noncomputable def hpE (K : PySem.W.Frag) (cs : List (Addr × Addr)) (a : Addr) (vs : List Value) (ns : List Int) : Hp := fun b =>
  if b ∈ cs.map Prod.snd then some (.tbl #[]) else if b = a ∧ K.lookup a = none then some (.frz (lisE vs) (.lst (ns.map V.int))) else none
theorem hpE_tab {b : Addr} (h : b ∈ cs.map Prod.snd) : hpE K cs a vs ns b = some (.tbl #[]) := if_pos h
theorem hpE_cases (b : Addr) : (b ∈ cs.map Prod.snd ∧ hpE K cs a vs ns b = some (.tbl #[])) ∨ (b ∉ cs.map Prod.snd ∧ b = a ∧ K.lookup a = none ∧ hpE K cs a vs ns b = some (.frz (lisE vs) (.lst (ns.map V.int)))) ∨ (b ∉ cs.map Prod.snd ∧ ¬ (b = a ∧ K.lookup a = none) ∧ hpE K cs a vs ns b = none) := by
  unfold hpE
  by_cases h1 : b ∈ cs.map Prod.snd
  · exact .inl ⟨h1, if_pos h1⟩
  · by_cases h2 : b = a ∧ K.lookup a = none
    · exact .inr (.inl ⟨h1, h2.1, h2.2, by rw [if_neg h1, if_pos h2]⟩)
    · exact .inr (.inr ⟨h1, h2, by rw [if_neg h1, if_neg h2]⟩)
/-- what the law's def is known to do -/
def LawDo (l : PySem.W.OpenLaw) (w : World) (mg : Str → Option Value) (fa : Addr) (h : Heap) (n : Nat) : Prop :=
  ∃ (K : PySem.W.Frag) (W : Wd) (cs : List (Addr × Addr)) (k : Nat) (rg : Bool) (m : List D → M D), K.In h ∧ W.K = K ∧ (∀ p ∈ cs, h.get? p.2 = some tabE) ∧ (∀ p ∈ cs, K.lookup p.2 = none) ∧ (∀ p ∈ cs, PySem.W.CodeHd h p.1 p.2) ∧ W.T.map Prod.fst = cs.map Prod.snd ∧ Room k callerA ∧
    (∀ base : Heap, K.In base → base.Ns mainGlobals mg → (∀ p ∈ cs, LamX.TabB base mg p.1 p.2) → Callable l.prog w K mg base W k fa 1 m rg) ∧
    ∀ ns : List Int, ns.length ≤ n → (∀ z ∈ ns, Builtin.Int.intBits z ≤ 1048576) → ∃ B, m [.scr (ns.map D.int)] [] = .ok (.bl true) B
theorem rpl_ints {W : Wd} {g : Gs} : ∀ ns : List Int, RpL W g (ns.map D.int) (ns.map V.int)
  | [] => RpL.nil
  | i :: ns => RpL.cons rfl (rpl_ints ns)
theorem law_does {k : Nat} {rg : Bool} {m : List D → M D} {W : Wd} (hW : W.K = K) (kin : K.In s1.heap) (hns : s1.heap.Ns mainGlobals mg) (hbi : s1.heap.Ns builtinsNs mb) (hbb : ∀ x : Str, x ≠ "__name__" → mb x = bootBuiltins x) (nolim : s1.heap.NoLimit) (nog : s1.gens = #[])
    (tabs : ∀ p ∈ cs, s1.heap.get? p.2 = some tabE) (free : ∀ p ∈ cs, K.lookup p.2 = none) (codes : ∀ p ∈ cs, PySem.W.CodeHd s1.heap p.1 p.2) (hT : W.T.map Prod.fst = cs.map Prod.snd)
    (hbm : ∃ (bm : Addr) (ob : Obj), mg "__builtins__" = some (.ref bm) ∧ bm ≠ builtinsNs ∧ s1.heap.get? bm = some ob ∧ ob.cls = .type "module" ∧ ob.dict = some builtinsNs ∧ ob.data = .plain)
    (here : s1.heap.get? a = some (lisE vs)) (intz : IntsAre vs ns) (few : ns.length ≤ sizeLine) (room : Room k callerA)
    (F : ∀ base : Heap, K.In base → base.Ns mainGlobals mg → (∀ p ∈ cs, LamX.TabB base mg p.1 p.2) → Callable P w K mg base W k fa 1 m rg) (hm : ∃ B, m [.scr (ns.map D.int)] [] = .ok (.bl true) B) :
    codeAny (model P w) callerA (.call (.ref fa) ⟨[.ref a], []⟩) (fun r s' => r = .ok (.ret (.bool true)) ∧ OldK s1.heap s'.heap ∧ s'.os = s1.os ∧ AllBare s'.gens) s1 := by
  have relv := vals_ints intz
  have tabAt : ∀ b, b ∈ cs.map Prod.snd → s1.heap.get? b = some tabE := fun b hb => by
    obtain ⟨p, hp, rfl⟩ := List.mem_map.mp hb
    exact tabs p hp
  obtain ⟨H, eH⟩ : ∃ H, H = hpE K cs a vs ns := ⟨_, rfl⟩
  have cas := fun b => hpE_cases (K := K) (cs := cs) (a := a) (vs := vs) (ns := ns) b
  rw [← eH] at cas
  have aN : a ∉ cs.map Prod.snd := fun z => by
    have q := tabAt a z
    rw [here] at q
    cases congrArg Obj.data (Option.some.inj q)
  have tabH : ∀ p ∈ cs, H p.2 = some (.tbl #[]) := fun p hp => by
    rw [eH]
    exact hpE_tab (List.mem_map.mpr ⟨p, hp, rfl⟩)
  have hok : HOk P w H s1.heap := fun b u z => by
    rcases cas b with ⟨h1, h2⟩ | ⟨h1, h2, h3, h4⟩ | ⟨h1, h2, h3⟩
    · rw [h2] at z
      cases z
      exact tabAt b h1
    · rw [h4] at z
      cases z
      rw [h2]
      exact ⟨here, by rw [List.length_map]; exact few, vs, _, relv, here⟩
    · rw [h3] at z
      cases z
  have untr : ∀ {b : Addr} {o : Obj}, s1.heap.get? b = some o → (∀ xs k, o.data ≠ .seq xs k) → o.data ≠ .fields #[] → H b = none := fun {b o} e n1 n2 => by
    rcases cas b with ⟨h1, _⟩ | ⟨_, h2, _⟩ | ⟨_, _, h3⟩
    · rw [tabAt b h1] at e
      cases e
      exact (n2 rfl).elim
    · rw [h2, here] at e
      cases e
      exact (n1 _ _ rfl).elim
    · exact h3
  have stay : ∀ {b : Addr} {o : Obj}, s1.heap.get? b = some o → H b = none → (hidT s1.heap H).get? b = some o := fun e z => hidT_get e z
  have dic : ∀ {b : Addr} {o : Obj} {es : Array DictEntry} {ep : Nat}, s1.heap.get? b = some o → o.data = .dict es ep → H b = none := fun e d => untr e (fun xs k z => by rw [d] at z; cases z) fun z => by rw [d] at z; cases z
  have nsD : ∀ {b : Addr} {f : Str → Option Value}, s1.heap.Ns b f → (hidT s1.heap H).Ns b f := fun ⟨o, es, ep, e, d, r⟩ => ⟨o, es, ep, stay e (dic e d), d, r⟩
  have kinD : K.In (hidT s1.heap H) := fun b o e => stay (kin b o e) (by
    rcases cas b with ⟨h1, _⟩ | ⟨_, h2, h3, _⟩ | ⟨_, _, h3⟩
    · obtain ⟨p, hp, rfl⟩ := List.mem_map.mp h1
      rw [free p hp] at e
      cases e
    · rw [h2, h3] at e
      cases e
    · exact h3)
  have modD : L2.Mod K mg (hidT s1.heap H) := ⟨kinD, nsD hns, ⟨mb, nsD hbi, hbb⟩, let ⟨mc, q1, q2⟩ := nolim; ⟨mc, nsD q1, q2⟩⟩
  have tabD : ∀ p ∈ cs, LamX.TabB (hidT s1.heap H) mg p.1 p.2 := fun p hp => by
    have at_ := tabs p hp
    obtain ⟨og, esg, epg, eg, dg, _⟩ := hns
    refine ⟨?_, ?_, fun z => ?_⟩
    · obtain ⟨o, us, c1, c2, c3, c4, c5, c6, c7, q1, q2, q3, q4, q5, q6, q7, q8, q9, q10⟩ := codes p hp
      exact ⟨o, us, c1, c2, c3, c4, c5, c6, c7, stay q1 (untr q1 (fun xs k z => by rw [q3] at z; cases z) fun z => by
        rw [q3] at z
        cases z
        simp at q4), q2, q3, q4, q5, q6, q7, q8, q9, q10⟩
    · obtain ⟨bm, ob, b1, b2, b3, b4, b5, b6⟩ := hbm
      refine ⟨bm, ob, b1, b2, fun q => ?_, fun q => ?_, stay b3 (untr b3 (fun xs k z => by rw [b6] at z; cases z) fun z => by rw [b6] at z; cases z), b4, b5, b6⟩
      · rw [q, eg] at b3
        cases b3
        rw [dg] at b6
        cases b6
      · rw [q, at_] at b3
        cases b3
        cases b6
    · rw [z, at_] at eg
      cases eg
      cases dg
  have seen : SqL K H a (ns.map V.int) := by
    cases hk : K.lookup a with
    | some o =>
      have e := kin a o hk
      rw [here] at e
      cases e
      exact .inr ⟨_, vs.toArray, _, hk, rfl, rfl, rfl, by rw [List.size_toArray, intz.length]; exact few, by simpa using relv⟩
    | none =>
      rcases cas a with ⟨h1, _⟩ | ⟨_, _, _, h4⟩ | ⟨_, h2, _⟩
      · exact absurd h1 aN
      · exact .inl (.inr ⟨_, h4⟩)
      · exact absurd ⟨rfl, hk⟩ h2
  have env : Env0 P w K mg (hidT s1.heap H) callerA [] s1 H := ⟨rfl, modD, fun b o e => of_hidT e, Nat.le_of_eq (hidT_size _ _), trivial, fun b hb => (by cases hb), hok, .of_eq nog⟩
  -- the promise at this state
  let g : Gs := ⟨fun b => match H b with | some (.tbl _) => none | o => o, [], none⟩
  have gZ : ∀ b o, g.Z b = some o → H b = some o ∧ ∀ ps, o ≠ .tbl ps := fun b o h => by
    have h : (match H b with | some (.tbl _) => none | o => o) = some o := h
    split at h
    · cases h
    · rename_i z
      exact ⟨h, fun ps e => z ps (by rw [h, e])⟩
  have gA : ∀ b o, H b = some o → (∀ ps, o ≠ .tbl ps) → g.Z b = some o := fun b o h n => by
    show (match H b with | some (.tbl _) => none | o => o) = some o
    rw [h]
    cases o with
    | tbl ps => exact absurd rfl (n ps)
    | _ => rfl
  have okg : Ok W g [] H := ⟨fun b o h => (gZ b o h).1, fun b ps h => (gZ b _ h).2 ps rfl, rfl, List.nodup_nil, fun i b ds h _ => by simp [g] at h, fun p hp => by
    have q : p.1 ∈ W.T.map Prod.fst := List.mem_map.mpr ⟨p, hp, rfl⟩
    rw [hT] at q
    obtain ⟨c, hc, e⟩ := List.mem_map.mp q
    refine ⟨#[], by rw [← e]; exact tabH c hc, ?_, ?_⟩
    · first | exact trivial | exact TriplesOk.nil | (intro; simp) | simp [TriplesOk]
    · intro pos cv h
      first | cases h | (simp [codeAmong] at h)⟩
  have seenZ : SqL W.K g.Z a (ns.map V.int) := by
    rw [hW]
    rcases seen with (z | ⟨o, z⟩) | z
    · exact .inl (.inl (gA _ _ z fun ps q => by cases q))
    · exact .inl (.inr ⟨o, gA _ _ z fun ps q => by cases q⟩)
    · exact .inr z
  obtain ⟨fd, ps, hps, G, _, hb⟩ := F _ kinD (nsD hns) tabD
  have bt := hb s1 [.ref a] kin (by simp [hps])
  rw [List.append_nil] at bt
  have want : spOf W 1 m [.ref a] H (fun v _ => v = .bl true) fun _ _ _ => False := by
    refine ⟨rfl, [.scr (ns.map D.int)], g, [], okg, RpL.cons ⟨a, _, rfl, seenZ, rpl_ints ns⟩ RpL.nil, ?_⟩
    obtain ⟨B, e⟩ := hm
    rw [e]
    exact fun g' H' v _ _ r => r
  refine codeAny_mono (G.run callerA [] s1 H ⟨[.ref a], []⟩ [.ref a] [.ref a] _ _ room (fun _ => rfl) env bt (.cons rfl .nil) want) fun r s' h => ?_
  cases r with
  | error e =>
    obtain ⟨_, _, _, _, _, _, _, _, _, _, _, _, z⟩ := h
    exact z.elim
  | ok fl =>
    cases fl with
    | next => exact h.elim
    | brk => exact h.elim
    | cont => exact h.elim
    | ret u =>
      obtain ⟨v, H', os, bare, un, hok', rv, q⟩ := h
      have q : v = .bl true := q
      subst q
      obtain rfl : u = Value.bool true := rv
      have kept : ∀ b o, b ∉ cs.map Prod.snd → s1.heap.get? b = some o → s'.heap.get? b = some o := fun b o nb e => by
        rcases cas b with ⟨h1, _⟩ | ⟨_, _, _, h4⟩ | ⟨_, _, h3⟩
        · exact absurd h1 nb
        · obtain ⟨e1, _⟩ := hok b _ h4
          obtain ⟨e2, _⟩ := hok' b _ (un.frzs b _ _ h4)
          rw [e1] at e
          cases e
          exact e2
        · exact un.keep b o e h3 (fun z => by cases z) (fun z => by cases z)
      have grew : ∀ p ∈ cs, ∃ more : Array Value, s'.heap.get? p.2 = some { cls := .none, data := .fields more } := fun p hp => by
        obtain ⟨more, z⟩ := un.tbls p.2 #[] (tabH p hp)
        exact ⟨_, hok' p.2 _ z⟩
      refine ⟨rfl, ⟨fun b o e => ?_, fun b o e => ?_⟩, os, bare⟩
      · by_cases hb : b ∈ cs.map Prod.snd
        · obtain ⟨p, hp, rfl⟩ := List.mem_map.mp hb
          obtain ⟨more, hm⟩ := grew p hp
          rw [tabs p hp] at e
          cases e
          exact .inr (.inl ⟨((codes p hp).tab (tabs p hp)).isCodeTable, rfl, #[], more, rfl, by rw [Array.empty_append]; exact hm⟩)
        · exact .inl (kept b o hb e)
      · by_cases hb : b ∈ cs.map Prod.snd
        · obtain ⟨p, hp, rfl⟩ := List.mem_map.mp hb
          obtain ⟨more, hm⟩ := grew p hp
          exact ⟨_, hm⟩
        · exact ⟨o, kept b o hb e⟩
end
theorem law_walk {l : PySem.W.OpenLaw} {n : Nat} {q : Program} {loose : List Str} {XP : (Str → Option Value) → Heap → Prop} {YP : World → Heap → Prop} {d : DefRec} (hn : l.most = some n) (hz : n ≤ sizeLine) (hd : d.params.defaults = [])
    (F : ∀ (w : World) (mg : Str → Option Value) (fa : Addr) (h : Heap), YP w h → h.Ns mainGlobals mg → mg d.name = some (.ref fa) → LawDo l w mg fa h n) : PySem.W.WalkO q loose XP YP l.row.toRowW d [] (fun f vs => PySem.call f vs) := by
  refine Att.attach_callB hn hd fun w s₀ s1 mg mb fa o pm cd doc a vs ns G Y ho hdt hcd hmg here intz len bits nog => ?_
  obtain ⟨K, W, cs, k, rg, m, k1, k2, k3, k4, k5, k6, k7, k8, k9⟩ := F w mg fa _ Y G.T.g hmg
  exact law_does k2 k1 G.T.g G.T.b G.T.builtins G.T.nolimit nog k3 k4 k5 k6 G.T.bmain here intz (Nat.le_trans len hz) k7 k8 (k9 ns len bits)
end Pl

-- part PB
set_option maxHeartbeats 4000000
namespace Pl
open PySem PySem.Spec PyProof.Rows L2
theorem zip_look {β : Type} : ∀ {l : List Str} {us : List β}, us.length = l.length → l.filter (fun n => ((l.zip us).lookup n).isNone) = [] := by
  intro l us h
  rw [List.filter_eq_nil_iff]
  intro n hn
  have : ∀ (l : List Str) (us : List β), us.length = l.length → n ∈ l → ((l.zip us).lookup n).isSome = true := by
    intro l
    induction l with
    | nil => intro us _ h; cases h
    | cons x l ih =>
      intro us hl hm
      cases us with
      | nil => simp at hl
      | cons u us =>
        rw [List.zip_cons_cons, List.lookup_cons]
        cases e : (n == x) with
        | true => rfl
        | false =>
          rcases List.mem_cons.mp hm with rfl | hm
          · simp at e
          · exact ih us (by simpa using hl) hm
  have := this l us h hn
  cases e : (l.zip us).lookup n with
  | none => rw [e] at this; cases this
  | some _ => simp
theorem zip_map {β : Type} : ∀ {l : List Str} {us : List β}, l.Nodup → us.length = l.length → l.filterMap (fun n => ((l.zip us).lookup n).map (n, ·)) = l.zip us := by
  intro l
  induction l with
  | nil => intro us _ _; rfl
  | cons x l ih =>
    intro us nd hl
    cases us with
    | nil => simp at hl
    | cons u us =>
      rw [List.nodup_cons] at nd
      rw [List.zip_cons_cons, List.filterMap_cons]
      have e0 : (((x, u) :: l.zip us).lookup x) = some u := by rw [List.lookup_cons]; simp
      rw [e0]
      show (x, u) :: _ = _
      congr 1
      have aux : ∀ m : List Str, (∀ n ∈ m, n ≠ x) → m.filterMap (fun n => (((x, u) :: l.zip us).lookup n).map (n, ·)) = m.filterMap (fun n => ((l.zip us).lookup n).map (n, ·)) := by
        intro m
        induction m with
        | nil => intro _; rfl
        | cons y m im =>
          intro hm
          have e : (y == x) = false := by
            rw [beq_eq_false_iff_ne]
            exact hm y List.mem_cons_self
          rw [List.filterMap_cons, List.filterMap_cons, im fun n hn => hm n (List.mem_cons_of_mem _ hn), List.lookup_cons, e]
      rw [aux l fun n hn z => nd.1 (z ▸ hn)]
      exact ih nd.2 (by simpa using hl)
theorem bind_simple {fd : FuncData} {args : List Arg} (hp : fd.params = ⟨[], args, none, [], [], none, []⟩) (hd : fd.defaults = .none) (nd : (args.map (·.arg)).Nodup) {us : List Value} (h : us.length = (args.map (·.arg)).length) : bindArgs fd ⟨us, []⟩ = pure ((args.map (·.arg)).zip us) := by
  unfold bindArgs
  rw [hp, hd]
  have e1 : ¬ (us.length > (args.map (·.arg)).length) := by omega
  have z1 := zip_look (l := args.map (·.arg)) h
  have z2 := zip_map nd h
  have q : seqItems? Value.none = pure none := by rfl
  have l1 : us.length = args.length := by simpa using h
  rw [List.filterMap_map] at z2
  simp [q, h, z1, l1]
  split
  · rename_i c
    exfalso
    have e3 : List.take args.length (args.map (·.arg)) = args.map (·.arg) := by rw [← List.length_map (f := fun x : Arg => x.arg), List.take_length]
    simp [e3, z1] at c
  · rw [z2]
end Pl

-- part PH
set_option maxHeartbeats 4000000
/-! The pure layer H: what the head's run tells of a module. -/
namespace Pl
open PySem PySem.Spec PyProof.Rows L2
open PySem.W (Frag)
def isTabO (o : Obj) : Bool := match o.data with
  | .fields vs => vs.size == 0
  | _ => false
def noTabAt (g : Addr → Option Obj) (a : Addr) : Bool := match g a with
  | some o => !isTabO o
  | none => false
def frN (g : Addr → Option Obj) (as : List Addr) : Frag := He.frG g (as.filter (noTabAt g))
theorem look_mem {a : Addr} {o : Obj} : ∀ {K : Frag}, K.lookup a = some o → (a, o) ∈ K
  | [], h => by cases h
  | (b, p) :: K, h => by
    have h : List.lookup a ((b, p) :: K) = some o := h
    rw [List.lookup_cons] at h
    cases e : (a == b) with
    | true =>
      rw [e] at h
      have h : some p = some o := h
      rw [beq_iff_eq.mp e, Option.some.inj h]
      exact List.mem_cons_self
    | false =>
      rw [e] at h
      exact List.mem_cons_of_mem _ (look_mem h)
theorem frN_no {g : Addr → Option Obj} {a : Addr} {o : Obj} : ∀ (as : List Addr), (frN g as).lookup a = some o → isTabO o = false := fun as h => by
  have e := He.frG_at _ h
  have m := look_mem h
  unfold frN He.frG at m
  obtain ⟨b, hb, e2⟩ := List.mem_filterMap.mp m
  obtain ⟨_, hc⟩ := List.mem_filter.mp hb
  cases e3 : g b with
  | none => rw [e3] at e2; cases e2
  | some o' =>
    rw [e3] at e2
    cases e2
    unfold noTabAt at hc
    rw [e3] at hc
    simpa using hc
/-- what of an object is followed: a dict's values, a def's code and cells, a class's dict and its mro, a code object's table -/
def refsQ (o : Obj) : List Addr := match o.data with
  | .dict es _ => es.toList.flatMap fun e => He.refV e.val
  | .func fd => He.refV fd.code ++ fd.closure.map (·.2)
  | .cls cd => cd.ns :: cd.mro.flatMap He.refV
  | .fields vs => (match (vs[11]? : Option Value) with
    | some v => He.refV v
    | none => [])
  | _ => []
def stepQ (g : Addr → Option Obj) (as : List Addr) : List Addr := as.flatMap fun a => match g a with
  | some o => refsQ o
  | none => []
def asN (g : Addr → Option Obj) : Nat → List Addr → List Addr
  | 0, as => as
  | n + 1, as => as ++ asN g n (stepQ g as)
def asP (g : Addr → Option Obj) (n : Nat) : List Addr := PySem.cStatics :: asN g n [mainGlobals]
abbrev AlP : Type := Bool × List He.FnW
def obsP (chk : Frag → Frag → Bool) (fn : List He.DefD) (K K' : Frag) : AlP := (chk K K' && fn.all fun d => d.ok K, fn.map fun d => He.fnW K d.at_)
def SaysP (chk : Frag → Frag → Bool) (fn : List He.DefD) (K K' : Frag) : Prop := obsP chk fn K K' = He.valD fn
def obsQ (chk : Frag → Frag → Bool) (fn : List He.DefD) (g : Addr → Option Obj) (as : List Addr) : AlP := obsP chk fn (frN g as) (He.frG g as)
def hookP (n : Nat) (chk : Frag → Frag → Bool) (fn : List He.DefD) : PySem.W.Hook where
  α := AlP
  obs := fun s => obsQ chk fn s.heap.get? (asP s.heap.get? n)
  val := fun _ => He.valD fn
  says := fun _ h => ∃ K K' : Frag, K.In h ∧ K'.In h ∧ (∀ a o, K.lookup a = some o → isTabO o = false) ∧ SaysP chk fn K K'
  of := fun _ _ e => ⟨_, _, He.frG_in, He.frG_in, fun _ _ h => frN_no _ h, e⟩
  keeps := fun _ _ _ ⟨K, K', h1, h2, h3, c⟩ k => ⟨K, K', PySem.W.Frag.In.keeps h1 k, PySem.W.Frag.In.keeps h2 k, h3, c⟩
def obP (n : Nat) (chk : Frag → Frag → Bool) (fn : List He.DefD) (s : PySem.W.SharedT) : AlP := obsQ chk fn (HandSHeadRun.getT s) (asP (HandSHeadRun.getT s) n)
theorem obP_eq {n : Nat} {chk : Frag → Frag → Bool} {fn : List He.DefD} (s : PySem.W.SharedT) : obP n chk fn s = (hookP n chk fn).obs s.abs := by
  have e : HandSHeadRun.getT s = s.abs.heap.get? := funext (HandSHeadRun.getT_eq s)
  unfold obP
  rw [e]
  rfl
section
variable {chk : Frag → Frag → Bool} {fn : List He.DefD} {K K' : Frag}
theorem SaysP.ck (c : SaysP chk fn K K') : chk K K' = true := (He.ba (show (chk K K' && fn.all fun d => d.ok K) = true from congrArg (fun z : AlP => z.1) c)).1
theorem SaysP.def_ (c : SaysP chk fn K K') (i : Nat) {d : He.DefD} (h : fn[i]? = some d) : ∃ fd, FunD K d.name d.qual d.params d.body d.scope (d.dvs K) (d.kws K) (He.fAd K d.at_) fd := by
  have c2 := (He.ba (show (chk K K' && fn.all fun d => d.ok K) = true from congrArg (fun z : AlP => z.1) c)).2
  have e : fn.map (fun d => He.fnW K d.at_) = fn.map He.DefD.val := congrArg (fun z : AlP => z.2) c
  have e2 : (fn.map fun d => He.fnW K d.at_)[i]? = (fn.map He.DefD.val)[i]? := by rw [e]
  rw [List.getElem?_map, List.getElem?_map, h] at e2
  exact He.DefD.funD (Option.some.inj e2) (List.all_eq_true.mp c2 d (List.mem_of_getElem? h))
end
/-! ### a def's text -/
def argsOf : Arguments → Option (List Arg)
  | ⟨[], args, none, [], [], none, []⟩ => some args
  | _ => none
theorem argsOf_ok {a : Arguments} {l : List Arg} (h : argsOf a = some l) : a = ⟨[], l, none, [], [], none, []⟩ := by
  unfold argsOf at h
  split at h
  · cases h; rfl
  · cases h
def kindL : Option NameKind → Bool
  | some .local => true
  | some .cell => true
  | _ => false
def isFree : NameKind → Bool
  | .free => true
  | _ => false
def isFun : ScopeKind → Bool
  | .function => true
  | _ => false
def scopeB (N ps : List Str) (sc : Scope) : Bool := isFun sc.kind && !sc.isCoroutine && !sc.isGenerator && decide N.Nodup && decide (N.take ps.length = ps) && (ps.all fun x => kindL (sc.names.lookup x)) && sc.names.all fun y => !isFree y.2
theorem scopeB_ok {N ps : List Str} {sc : Scope} (h : scopeB N ps sc = true) : FnScope N ps sc := by
  unfold scopeB at h
  simp only [Bool.and_eq_true, Bool.not_eq_true', decide_eq_true_eq] at h
  obtain ⟨⟨⟨⟨⟨⟨h1, h2⟩, h3⟩, h4⟩, h5⟩, h6⟩, h7⟩ := h
  refine ⟨?_, h2, h3, h4, h5, fun x hx => ?_, fun y hy => ?_⟩
  · cases e : sc.kind <;> first | rfl | (rw [e] at h1; cases h1)
  · have := List.all_eq_true.mp h6 x hx
    cases e : sc.names.lookup x with
    | none => rw [e] at this; cases this
    | some kd =>
      rw [e] at this
      cases kd <;> first | exact .inl rfl | exact .inr rfl | cases this
  · have := List.all_eq_true.mp h7 y hy
    intro e
    rw [e] at this
    cases this
def txtB (T : Tb) (lamN : List Str) (dd : He.DefD) (d : Df) (N : List Str) : Bool := match argsOf dd.params with
  | some args => scopeB N (args.map (·.arg)) dd.scope && decide (args.length = d.ps) && decide (N.length = d.N) && decide (d.ps ≤ d.N) && chkSs (T.tc N dd.scope d.rg d.lams) d.body dd.body && dd.dfl.isEmpty && dd.kwd.isEmpty && decide (args.map (·.arg)).Nodup && (!d.lams || (lamN.contains dd.name && decide (dd.qual = dd.name) && decide (dd.at_ = (dd.name, none))))
  | none => false
/-! ### tables of code objects -/
def tabP (K : Frag) (x : Str) : Addr := match PySem.W.tabIn K x with
  | some (_, P) => P
  | none => 0
def tabC (K : Frag) (x : Str) : Addr := match PySem.W.tabIn K x with
  | some (c, _) => c
  | none => 0
def emptyTab : Obj → Bool
  | ⟨.none, none, .fields vs, sl⟩ => vs.size == 0 && sl.size == 0
  | _ => false
theorem emptyTab_ok {o : Obj} (h : emptyTab o = true) : o = tabE := by
  unfold emptyTab at h
  split at h
  · rename_i vs sl
    simp only [Bool.and_eq_true, beq_iff_eq] at h
    rw [Array.eq_empty_of_size_eq_zero h.1, Array.eq_empty_of_size_eq_zero h.2]
  · cases h
def lamB (K K' : Frag) (x : Str) : Bool := match PySem.W.tabIn K x with
  | some (c, P) => PySem.W.codeHdIn K c P && (match K'.lookup P with
    | some o => emptyTab o
    | none => false)
  | none => false
theorem lamB_ok {K K' : Frag} {x : Str} {h : Heap} (h1 : K.In h) (h2 : K'.In h) (hn : ∀ a o, K.lookup a = some o → isTabO o = false) (c : lamB K K' x = true) : PySem.W.tabIn K x = some (tabC K x, tabP K x) ∧ h.get? (tabP K x) = some tabE ∧ K.lookup (tabP K x) = none ∧ PySem.W.CodeHd h (tabC K x) (tabP K x) ∧ PySem.W.codeHdIn K (tabC K x) (tabP K x) = true := by
  unfold lamB at c
  unfold tabC tabP
  split at c
  · rename_i cc P e
    rw [e]
    obtain ⟨c1, c2⟩ := He.ba c
    split at c2
    · rename_i o ho
      have eo := emptyTab_ok c2
      subst eo
      have hP := h2 _ _ ho
      refine ⟨rfl, hP, ?_, PySem.W.codeHd_of_K h1 c1, c1⟩
      cases q : K.lookup P with
      | none => rfl
      | some o' =>
        have z := h1 _ _ q
        rw [hP] at z
        cases z
        have := hn _ _ q
        cases this
    · cases c2
  · cases c
/-- what tabIn says of the def's code -/
theorem tabIn_fd {K : Frag} {x : Str} {c P : Addr} (h : PySem.W.tabIn K x = some (c, P)) {oc : Value} {od : Option Addr} {fd : FuncData} {osl : Array (Option Value)} (lk : K.lookup (He.ga K x) = some ⟨oc, od, .func fd, osl⟩) : fd.code = .ref c := by
  unfold PySem.W.tabIn at h
  unfold He.ga at lk
  split at h
  · rename_i f hf
    rw [hf] at lk
    have lk : K.lookup f = _ := lk
    rw [lk] at h
    dsimp only at h
    split at h
    · rename_i c' hc
      split at h
      · split at h
        · cases h
          exact hc
        · cases h
      · cases h
    · cases h
  · cases h
/-! ### the classes of errors -/
def eqV2 (a b : Option (Option Value)) : Bool := decide (a = b)
def excCB (K : Frag) (C : Addr) : Bool :=
  decide (PySem.W.findIn K (.ref C) "__getattribute__" = some (some (.builtin "BaseException.__getattribute__"))) && decide (PySem.W.findIn K (.ref C) "__getattr__" = some none) && decide (PySem.W.subIn K (.ref C) (.type "BaseException") = some true) && PySem.W.hasDictIn K C &&
  decide (PySem.W.findIn K (.ref C) "__class__" = some (some (.builtin "object.__class__"))) && decide (PySem.W.specialIn K (.builtin "object.__class__") "__get__" = some (some (.builtin "getset_descriptor.__get__"))) && decide (PySem.W.takesIn K (.builtin "object.__class__") = some true) && decide (PySem.W.mroIn K C (.type "object") = some true)
theorem excCB_ok {K : Frag} {C : Addr} (h : excCB K C = true) : ExcC K C := by
  unfold excCB at h
  simp only [Bool.and_eq_true, decide_eq_true_eq] at h
  obtain ⟨⟨⟨⟨⟨⟨⟨h1, h2⟩, h3⟩, h4⟩, h5⟩, h6⟩, h7⟩, h8⟩ := h
  exact ⟨h1, h2, h3, h4, h5, h6, h7, h8⟩
/-- __init__ of an own error: super().__init__('..') -/
def iniB (K : Frag) (file : Str) (C fI : Addr) : Bool := match K.lookup fI with
  | some ⟨_, _, .func ⟨nm, qual, ⟨[], [ar], none, [], [], none, []⟩, .stmts [.Expr (.Call (.Attribute (.Call (.Name su p0) [] [] p1) ini p2) [.Constant (.str msg) j p3] [] p4) p5], scope, gl, [(cl, cc)], dV, _, _, _, _, .ref cda, _, bi⟩, _⟩ =>
    decide (nm = "__init__") && decide (su = "super") && decide (ini = "__init__") && decide (cl = "__class__") && decide (gl = mainGlobals) && decide (bi = builtinsNs) && (match dV with | .none => true | _ => false) &&
    PySem.W.codeIn K (.ref cda) qual && (match K.lookup cda with
      | some ⟨_, _, .fields vs, _⟩ => (match (vs[2]? : Option Value) with
        | some (.str f _) => decide (file = f)
        | _ => false)
      | _ => false) && (match K.lookup cc with
      | some ⟨_, _, .cell (some (.ref C')), _⟩ => decide (C' = C)
      | _ => false) && (PySem.W.clsIn K C).isSome && decide (scope.names.lookup ("super" : Str) = some .globalImplicit) && decide (scope.names.lookup ("__class__" : Str) = some .free) && decide (scope.names.lookup ar.arg = some .local) && isFun scope.kind && !scope.isCoroutine && !scope.isGenerator && (scope.names.all fun y => decide (y.2 ≠ .cell)) && (p2.endLine == p4.line)
  | _ => false
def xcB (K : Frag) (file : Str) (x : Str) : Bool :=
  let C := He.ga K x
  let fI := He.ma K C "__init__"
  iniB K file C fI && decide (PySem.W.findIn K (.ref C) "__init__" = some (some (.ref fI))) && decide (PySem.W.typeIn K (.ref fI) = some (.type "function")) && decide (PySem.W.mroIn K C (.ref C) = some true) && decide (PySem.W.nsIn K PySem.cStatics "thirdparty.any" = some none) &&
  decide (PySem.W.ks_superIn K C C "__init__" = some (some (.builtin "ValueError.__init__"))) && decide (PySem.W.subIn K (.ref C) (.type "ValueError") = some true) && PySem.W.excInitIn K C [.type "ValueError", .type "Exception", .type "BaseException", .type "object"] "ValueError.__new__" && PySem.W.keepIn K (.ref C) &&
  decide (PySem.W.subIn K (.ref C) (.type "BaseException") = some true) && decide (PySem.W.typeIn K (.ref C) = some (.type "type"))
theorem xcB_ok {K : Frag} {prog : Program} {x : Str} (h : xcB K prog.main.file x = true) : XcOk prog K (He.ga K x) := by
  unfold xcB at h
  simp only [Bool.and_eq_true, decide_eq_true_eq] at h
  obtain ⟨⟨⟨⟨⟨⟨⟨⟨⟨⟨h1, h2⟩, h3⟩, h4⟩, h5⟩, h6⟩, h7⟩, h8⟩, h9⟩, h10⟩, h11⟩ := h
  refine ⟨?_, h4, h5, h6, h7, h8, h9, h10, h11⟩
  unfold iniB at h1
  split at h1
  · rename_i oc od nm qual ar su p0 p1 ini p2 msg j p3 p4 p5 scope gl cl cc dV kV doc pm an cda ct bi osl lk
    simp only [Bool.and_eq_true, decide_eq_true_eq, Bool.not_eq_true'] at h1
    obtain ⟨⟨⟨⟨⟨⟨⟨⟨⟨⟨⟨⟨⟨⟨⟨⟨⟨⟨rfl, rfl⟩, rfl⟩, rfl⟩, rfl⟩, rfl⟩, a1⟩, a2⟩, a3⟩, a4⟩, a5⟩, a6⟩, a7⟩, a8⟩, a9⟩, a10⟩, a11⟩, a12⟩, a13⟩ := h1
    split at a3
    · rename_i cco ccd vs ccs lk2
      split at a3
      · rename_i f tf hv
        have a3 := of_decide_eq_true a3
        split at a4
        · rename_i clo cld C' csl lk3
          have a4 := of_decide_eq_true a4
          subst a4
          obtain ⟨cdC, a5⟩ := Option.isSome_iff_exists.mp a5
          have dn : dV = .none := by
            cases dV <;> first | rfl | cases a1
          subst dn
          refine ⟨_, cc, cda, qual, _, scope, .none, kV, doc, pm, ct, oc, an, od, osl, ar, vs, f, tf, cco, clo, ccd, cld, ccs, csl, cdC, msg, j, p0, p1, p2, p3, p4, p5, lk, a2, rfl, lk2, hv, by rw [a3]; simp, lk3, a5, a6, a7, a8, ?_, a10, a11, fun y hy => of_decide_eq_true (List.all_eq_true.mp a12 y hy), ?_, h2, h3, a13⟩
          · cases e : scope.kind <;> first | rfl | (rw [e] at a9; cases a9)
          · exact Binds.all fun us hl => bind_simple (args := [ar]) rfl rfl (by simp) hl
        · cases a4
      · cases a3
    · cases a3
  · cases h1
end Pl

-- part PM
set_option maxHeartbeats 4000000
/-! The pure layer M: a module from its head's run and its checked texts. -/
namespace Pl
open PySem PySem.Spec PyProof.Rows L2
open PySem.W (Frag)
/-- what is put in of a module -/
structure Lw where
  T : Tb
  fls : List (List Str)
  lamN : List Str
  ents : List (He.DefD × Df × List Str)
  hents : List (He.DefD × Df × List Str)
  mi : Nat → Nat
def Lw.nmF (L : Lw) (f : Nat) : Str := (L.T.fns.map (·.1)).getD f ""
def Lw.nmC (L : Lw) (c : Nat) : Str := L.T.xcs.getD c ""
def Lw.fl (L : Lw) (c : Nat) : List Str := L.fls.getD c []
def Lw.W (L : Lw) (K : Frag) : Wd := { K := K, fa := fun f => He.ga K (L.nmF f), ca := fun c => He.ga K (L.nmC c), fl := L.fl, T := L.lamN.map fun x => (tabP K x, (x ++ (".<locals>." : Str)) ++ ("<lambda>" : Str)) }
def Lw.Ds (L : Lw) : List Df := L.ents.map (·.2.1)
def Lw.Hs (L : Lw) : List Df := L.hents.map (·.2.1)
def Lw.fn (L : Lw) : List He.DefD := L.ents.map (·.1) ++ L.hents.map (·.1)
def Lw.cs (L : Lw) (K : Frag) : List (Addr × Addr) := L.lamN.map fun x => (tabC K x, tabP K x)
/-- own errors hang on the class 0 -/
def xsF (c : Nat) : Option Nat → Bool
  | none => true
  | some c' => c == c' || c' == 0
def Lw.Mk (L : Lw) : Mkr := ⟨L.mi, xsF, L.fl⟩
def glB (K : Frag) (x : Str) : Bool := (He.Fa.glo x).ok K
def frB (K : Frag) (x : Str) : Bool := (He.Fa.free x).ok K
def cstB (K : Frag) (p : Str × D) : Bool := match p.2 with
  | .int i => (He.Fa.int p.1 i).ok K
  | .str z => (He.Fa.str p.1 z).ok K
  | _ => false
def clB (L : Lw) (K : Frag) (c : Nat) : Bool := (L.fl c).isEmpty || ((He.Fa.cls (L.nmC c)).ok K && (L.fl c).all (fun f => (He.Fa.noat (L.nmC c) f).ok K) && decide (L.fl c).Nodup && decide ((L.fl c).length < 1000))
def subB (L : Lw) (K : Frag) (p : Nat × Nat) : Bool := (He.Fa.exm (L.nmC p.1) (L.nmC p.2) true).ok K && excCB K (He.ga K (L.nmC p.1)) && decide (PySem.W.kitOne K (.ref (He.ga K (L.nmC p.1))) (.type "ValueError") = some true) && (List.range L.T.xcs.length).all fun c' => decide (PySem.W.kitOne K (.ref (He.ga K (L.nmC p.1))) (.ref (He.ga K (L.nmC c'))) = some (xsF p.1 (some c')))
def chkP (L : Lw) (file : Str) (K K' : Frag) : Bool :=
  (L.T.fns.all fun f => glB K f.1) && (L.T.csts.all (cstB K)) && (L.T.blts.all (frB K)) && frB K "super" && (L.T.xcs.all (glB K)) && (L.T.xmk.all fun c => xcB K file (L.nmC c)) && (L.T.xsub.all (subB L K)) && ((List.range L.fls.length).all (clB L K)) &&
  (L.T.mks.all fun m => decide (L.nmC m.1 = m.2.1) && (glB K m.2.1 && (He.Fa.mkr m.2.1).ok K)) && (L.T.hrs.all (glB K)) && (L.lamN.all (lamB K K')) && decide (L.lamN.map (tabP K)).Nodup
/-! ### what is written -/
def hearB (T : Tb) (dd : He.DefD) (d : Df) (N : List Str) : Bool := match argsOf dd.params with
  | some [ar] => scopeB N [ar.arg] dd.scope && decide (N.length = d.N) && decide (1 ≤ d.N) && chkSs (T.hc N dd.scope ar.arg) d.body dd.body && dd.dfl.isEmpty && dd.kwd.isEmpty && decide (N[0]? = some ar.arg) && kindV (dd.scope.names.lookup ar.arg) && !(ar.arg == ("__debug__" : Str)) && !(ar.arg == ("__classdict__" : Str)) && decide (dd.qual = dd.name) && decide (dd.at_ = (dd.name, none))
  | _ => false
def entB (L : Lw) (e : He.DefD × Df × List Str) : Bool := txtB L.T L.lamN e.1 e.2.1 e.2.2
def fnsB (L : Lw) : Bool := (List.range L.T.fns.length).all fun f => match L.T.fns[f]?, L.ents[f]? with
  | some (x, n, b), some (dd, d, _) => decide (d.ps = n) && decide (d.rg = b) && d.ini.isNone && decide (dd.at_ = (x, none))
  | _, _ => false
def mksB (L : Lw) : Bool := L.T.mks.all fun m => match L.ents[L.mi m.1]? with
  | some (dd, d, _) => decide (d.ps = m.2.2.1 + 1) && decide (d.rg = m.2.2.2) && decide (d.ini = some m.1) && decide (dd.at_ = (m.2.1, some ("__init__" : Str)))
  | none => false
/-- defs that are no __init__ stand among the functions -/
def outB (L : Lw) : Bool := (List.range L.ents.length).all fun i => match L.ents[i]? with
  | some (_, d, _) => decide (i < L.T.fns.length) || d.ini.isSome
  | none => false
def hrsB (L : Lw) : Bool := decide (L.T.hrs = L.hents.map (·.1.name)) && L.hents.all fun e => hearB L.T e.1 e.2.1 e.2.2
structure Lw.Txt (L : Lw) : Prop where
  ents : ∀ e ∈ L.ents, entB L e = true
  fns : fnsB L = true
  mks : mksB L = true
  out : outB L = true
  hrs : hrsB L = true
theorem nil_map {α β : Type} {l : List α} {f : α → β} (h : l.isEmpty = true) : l.map f = [] := by
  cases l with
  | nil => rfl
  | cons _ _ => cases h
theorem getD_of {α : Type} {l : List α} {i : Nat} {x d : α} (h : l[i]? = some x) : l.getD i d = x := by rw [List.getD_eq_getElem?_getD, h]; rfl
theorem map_nodup_inj {α β : Type} {f : α → β} : ∀ {l : List α}, (l.map f).Nodup → ∀ {x y : α}, x ∈ l → y ∈ l → f x = f y → x = y
  | [], _, x, _, h, _, _ => by cases h
  | a :: l, nd, x, y, hx, hy, e => by
    rw [List.map_cons, List.nodup_cons] at nd
    rcases List.mem_cons.mp hx with e1 | e1
    · rcases List.mem_cons.mp hy with e2 | e2
      · rw [e1, e2]
      · rw [e1] at e
        exact absurd (e ▸ List.mem_map.mpr ⟨y, e2, rfl⟩) nd.1
    · rcases List.mem_cons.mp hy with e2 | e2
      · rw [e2] at e
        exact absurd (e ▸ List.mem_map.mpr ⟨x, e1, rfl⟩) nd.1
      · exact map_nodup_inj nd.2 e1 e2 e
section
variable {P : Program} {w : World} {K K' : Frag} {mg : Str → Option Value} {base : Heap} {L : Lw}
theorem entB_ok {dd : He.DefD} {d : Df} {N : List Str} (h : entB L (dd, d, N) = true) {f : Addr} {fd : FuncData} (F : FunD K dd.name dd.qual dd.params dd.body dd.scope (dd.dvs K) (dd.kws K) f fd)
    (hat : d.lams = true → f = He.ga K dd.name) (tabs : ∀ x ∈ L.lamN, PySem.W.tabIn K x = some (tabC K x, tabP K x) ∧ LamX.TabB base mg (tabC K x) (tabP K x)) (nd : (L.lamN.map (tabP K)).Nodup) : DefOk K mg base (L.W K).T L.T f d := by
  unfold entB txtB at h
  split at h
  · rename_i args ha
    simp only [Bool.and_eq_true, decide_eq_true_eq, Bool.or_eq_true, Bool.not_eq_true'] at h
    obtain ⟨⟨⟨⟨⟨⟨⟨⟨h1, h2⟩, h3⟩, h4⟩, h5⟩, h6⟩, h7⟩, h8⟩, h9⟩ := h
    obtain ⟨oc, od, dV, kV, doc, pm, an, cdv, ct, osl, e, lk, hcd, hD, hKw⟩ := F.ex
    have hdv : dV = .none := by
      rcases hD with ⟨_, q⟩ | ⟨q, _⟩
      · exact q
      · exact absurd (nil_map h6) q
    subst hdv
    subst e
    have hp := argsOf_ok ha
    refine ⟨dd.name, dd.qual, dd.params, dd.body, dd.scope, .none, kV, doc, pm, cdv, ct, oc, an, od, osl, N, args.map (·.arg), lk, hcd, scopeB_ok h1, by rw [List.length_map]; exact h2, h3, h4, h5, ?_, F.kp, fun hl => ?_⟩
    · exact Binds.all fun us hus => bind_simple hp rfl h8 hus
    · rcases h9 with h9 | ⟨⟨h10, h11⟩, h12⟩
      · rw [hl] at h9
        cases h9
      · have hm : dd.name ∈ L.lamN := List.contains_iff_mem.mp h10
        obtain ⟨t1, t2⟩ := tabs _ hm
        have ef := hat hl
        subst ef
        have ec := tabIn_fd t1 lk
        refine ⟨_, _, ec, t2, List.mem_map.mpr ⟨dd.name, hm, by rw [h11]⟩, fun p hp' e => ?_⟩
        obtain ⟨y, hy, rfl⟩ := List.mem_map.mp hp'
        have := map_nodup_inj nd hy hm e
        rw [this, h11]
  · cases h
theorem ba2 {a b : Bool} (h : (a && b) = true) : a = true ∧ b = true := Bool.and_eq_true_iff.mp h
theorem modOk (Tx : L.Txt) (c : SaysP (chkP L P.main.file) L.fn K K') (X : K.In base) (G : base.Ns mainGlobals mg) (tabs : ∀ x ∈ L.lamN, PySem.W.tabIn K x = some (tabC K x, tabP K x) ∧ LamX.TabB base mg (tabC K x) (tabP K x))
    (hsup : (P.main.scope.names.lookup ("super" : Str)).isSome = false) : ModOk P w K mg base (L.W K) L.T L.Mk.xs L.Mk.fl L.Mk.mi L.Ds ∧ (∀ (f : Nat) (x : Str), L.T.hrs[f]? = some x → ∃ d, L.Hs[f]? = some d ∧ HearOk K mg L.T x d) := by
  have ck := c.ck
  unfold chkP at ck
  obtain ⟨ck, k12⟩ := ba2 ck
  obtain ⟨ck, k11⟩ := ba2 ck
  obtain ⟨ck, k10⟩ := ba2 ck
  obtain ⟨ck, k9⟩ := ba2 ck
  obtain ⟨ck, k8⟩ := ba2 ck
  obtain ⟨ck, k7⟩ := ba2 ck
  obtain ⟨ck, k6⟩ := ba2 ck
  obtain ⟨ck, k5⟩ := ba2 ck
  obtain ⟨ck, k4⟩ := ba2 ck
  obtain ⟨ck, k3⟩ := ba2 ck
  obtain ⟨k1, k2⟩ := ba2 ck
  have nd := of_decide_eq_true k12
  have hnC : ∀ (i : Nat) (x : Str), L.T.xcs[i]? = some x → L.nmC i = x := fun i x h => getD_of h
  have hnF : ∀ (f : Nat) (x : Str) (n : Nat) (b : Bool), L.T.fns[f]? = some (x, n, b) → L.nmF f = x := fun f x n b h => getD_of (by rw [List.getElem?_map, h]; rfl)
  have fAt : ∀ (i : Nat) (dd : He.DefD) (d : Df) (N : List Str), L.ents[i]? = some (dd, d, N) → L.fn[i]? = some dd := fun i dd d N h => by
    unfold Lw.fn
    rw [List.getElem?_append_left (by rw [List.length_map]; exact (List.getElem?_eq_some_iff.mp h).1), List.getElem?_map, h]
    rfl
  have entD : ∀ (i : Nat) (dd : He.DefD) (d : Df) (N : List Str), L.ents[i]? = some (dd, d, N) → DefOk K mg base (L.W K).T L.T (He.fAd K dd.at_) d := fun i dd d N h => by
    obtain ⟨fd, F⟩ := c.def_ i (fAt i dd d N h)
    have hB := Tx.ents _ (List.mem_of_getElem? h)
    refine entB_ok hB F (fun hl => ?_) tabs nd
    unfold entB txtB at hB
    dsimp only at hB
    split at hB
    · have z := (ba2 hB).2
      rw [hl] at z
      simp only [Bool.not_true, Bool.false_or, Bool.and_eq_true, decide_eq_true_eq] at z
      rw [z.2]
      rfl
    · cases hB
  have hDs : ∀ (i : Nat) (d : Df), L.Ds[i]? = some d → ∃ dd N, L.ents[i]? = some (dd, d, N) := fun i d h => by
    unfold Lw.Ds at h
    rw [List.getElem?_map] at h
    obtain ⟨⟨dd, d', N⟩, h1, h2⟩ := map_some' h
    cases h2
    exact ⟨dd, N, h1⟩
  have fnsS : ∀ (f : Nat) (x : Str) (n : Nat) (b : Bool), L.T.fns[f]? = some (x, n, b) → ∃ dd d N, L.ents[f]? = some (dd, d, N) ∧ d.ps = n ∧ d.rg = b ∧ d.ini = none ∧ dd.at_ = (x, none) := fun f x n b h => by
    have z := List.all_eq_true.mp Tx.fns f (List.mem_range.mpr (List.getElem?_eq_some_iff.mp h).1)
    rw [h] at z
    cases e : L.ents[f]? with
    | none => rw [e] at z; cases z
    | some q =>
      obtain ⟨dd, d, N⟩ := q
      rw [e] at z
      simp only [Bool.and_eq_true, decide_eq_true_eq, Option.isNone_iff_eq_none] at z
      exact ⟨dd, d, N, rfl, z.1.1.1, z.1.1.2, z.1.2, z.2⟩
  refine ⟨{
    hK := rfl
    we := rfl
    fns := fun f x n b h => ?_
    flok := ⟨fun _ => rfl, fun cc hc => ?_⟩
    mks := fun m hm => ?_
    defs := fun f d h hi => ?_
    csts := fun p hp => ?_
    blts := fun x hx => He.free_ok X G (List.all_eq_true.mp k3 x hx)
    xcs := fun cc x h => ?_
    xok := fun cc hc => ?_
    sup := ⟨He.free_ok X G k4, hsup⟩
    xsub := fun p hp => ?_ }, fun f x h => ?_⟩
  · obtain ⟨dd, d, N, h1, h2, h3, h4, h5⟩ := fnsS f x n b h
    have g := He.glo_ok X G (List.all_eq_true.mp k1 _ (List.mem_of_getElem? h))
    refine ⟨?_, d, ?_, h2, h3, h4⟩
    · show mg x = some (.ref (He.ga K (L.nmF f)))
      rw [hnF f x n b h]
      exact g
    · show L.Ds[f]? = _
      unfold Lw.Ds
      rw [List.getElem?_map, h1]
      rfl
  · have hlt : cc < L.fls.length := by
      apply Classical.byContradiction
      intro hge
      apply hc
      show L.fls.getD cc [] = []
      rw [List.getD_eq_getElem?_getD, List.getElem?_eq_none (Nat.le_of_not_lt hge)]
      rfl
    have z := List.all_eq_true.mp k8 cc (List.mem_range.mpr hlt)
    unfold clB at z
    have ne : (L.fl cc).isEmpty = false := by
      cases e : L.fl cc with
      | nil => exact absurd e hc
      | cons _ _ => rfl
    rw [ne, Bool.false_or] at z
    simp only [Bool.and_eq_true, decide_eq_true_eq] at z
    obtain ⟨⟨⟨z1, z2⟩, z3⟩, z4⟩ := z
    exact ⟨He.cls_ok z1, fun f hf => He.noat_ok (List.all_eq_true.mp z2 f hf), z3, z4⟩
  · obtain ⟨z1, z2⟩ := ba2 (List.all_eq_true.mp k9 m hm)
    obtain ⟨z2, z3⟩ := ba2 z2
    have z1 := of_decide_eq_true z1
    have e : (L.W K).ca m.1 = He.ga K m.2.1 := by
      show He.ga K (L.nmC m.1) = _
      rw [z1]
    have y := List.all_eq_true.mp Tx.mks m hm
    cases q : L.ents[L.mi m.1]? with
    | none => rw [q] at y; cases y
    | some en =>
      obtain ⟨dd, d, N⟩ := en
      rw [q] at y
      simp only [Bool.and_eq_true, decide_eq_true_eq] at y
      obtain ⟨⟨⟨y1, y2⟩, y3⟩, y4⟩ := y
      have D1 := entD _ _ _ _ q
      rw [y4] at D1
      refine ⟨by rw [e]; exact He.glo_ok X G z2, d, He.fAd K (m.2.1, some ("__init__" : Str)), ?_, y1, y2, y3, D1, ?_⟩
      · show L.Ds[L.mi m.1]? = _
        unfold Lw.Ds
        rw [List.getElem?_map, q]
        rfl
      · rw [e]
        exact He.mkr_ok z3
  · obtain ⟨dd, N, h1⟩ := hDs f d h
    have hlt : f < L.T.fns.length := by
      have z := List.all_eq_true.mp Tx.out f (List.mem_range.mpr (List.getElem?_eq_some_iff.mp h1).1)
      rw [h1] at z
      dsimp only at z
      rw [hi] at z
      simpa using z
    obtain ⟨⟨x, n, b⟩, hx⟩ : ∃ q, L.T.fns[f]? = some q := ⟨_, List.getElem?_eq_getElem hlt⟩
    obtain ⟨dd', d', N', e1, _, _, _, e5⟩ := fnsS f x n b hx
    rw [h1] at e1
    cases e1
    have D1 := entD _ _ _ _ h1
    rw [e5] at D1
    show DefOk K mg base (L.W K).T L.T (He.ga K (L.nmF f)) d
    rw [hnF f x n b hx]
    exact D1
  · have z := List.all_eq_true.mp k2 p hp
    obtain ⟨x, dv⟩ := p
    cases dv with
    | int i =>
      obtain ⟨t, ht⟩ := He.int_ok X G z
      exact ⟨_, .int i, ht, ⟨_, rfl⟩, fun g => rfl⟩
    | str s =>
      obtain ⟨t, ht⟩ := He.str_ok X G z
      exact ⟨_, .str s, ht, ⟨_, rfl⟩, fun g => rfl⟩
    | _ => cases z
  · show mg x = some (.ref (He.ga K (L.nmC cc)))
    rw [hnC cc x h]
    exact He.glo_ok X G (List.all_eq_true.mp k5 x (List.mem_of_getElem? h))
  · exact xcB_ok (List.all_eq_true.mp k6 cc hc)
  · have z := List.all_eq_true.mp k7 p hp
    unfold subB at z
    obtain ⟨z, z4⟩ := ba2 z
    obtain ⟨z, z3⟩ := ba2 z
    obtain ⟨z1, z2⟩ := ba2 z
    refine ⟨He.exm_ok z1, excCB_ok z2, of_decide_eq_true z3, fun c' x h => ?_⟩
    exact of_decide_eq_true (List.all_eq_true.mp z4 c' (List.mem_range.mpr (List.getElem?_eq_some_iff.mp h).1))
  · obtain ⟨y1, y2⟩ := ba2 Tx.hrs
    have y1 := of_decide_eq_true y1
    have hx : (L.hents.map (·.1.name))[f]? = some x := by rw [← y1]; exact h
    rw [List.getElem?_map] at hx
    obtain ⟨⟨dd, d, N⟩, h1, h2⟩ := map_some' hx
    have h2 : dd.name = x := h2
    have hB : hearB L.T dd d N = true := List.all_eq_true.mp y2 _ (List.mem_of_getElem? h1)
    refine ⟨d, by unfold Lw.Hs; rw [List.getElem?_map, h1]; rfl, ?_⟩
    have hf : L.fn[L.ents.length + f]? = some dd := by
      unfold Lw.fn
      rw [List.getElem?_append_right (by rw [List.length_map]; omega), List.length_map, Nat.add_sub_cancel_left, List.getElem?_map, h1]
      rfl
    obtain ⟨fd, F⟩ := c.def_ _ hf
    unfold hearB at hB
    split at hB
    · rename_i ar ha
      simp only [Bool.and_eq_true, decide_eq_true_eq, Bool.not_eq_true'] at hB
      obtain ⟨⟨⟨⟨⟨⟨⟨⟨⟨⟨⟨b1, b2⟩, b3⟩, b4⟩, b5⟩, b6⟩, b7⟩, b8⟩, b9⟩, b10⟩, b11⟩, b12⟩ := hB
      obtain ⟨oc, od, dV, kV, doc, pm, an, cdv, ct, osl, e, lk, hcd, hD, hKw⟩ := F.ex
      have hdv : dV = .none := by
        rcases hD with ⟨_, q⟩ | ⟨q, _⟩
        · exact q
        · exact absurd (nil_map b5) q
      subst hdv
      subst e
      subst h2
      rw [b11] at lk hcd
      rw [b12] at lk
      have kp := F.kp
      rw [b12] at kp
      refine ⟨He.ga K dd.name, ar.arg, dd.params, dd.body, dd.scope, .none, kV, doc, pm, cdv, ct, oc, an, od, osl, N, He.glo_ok X G (List.all_eq_true.mp k10 _ (List.mem_of_getElem? h)), kp, lk, hcd, ?_, scopeB_ok b1, b7, kindV_ok b8, b9, b10, b2, b3, b4⟩
      exact Binds.all fun us hus => bind_simple (args := [ar]) (argsOf_ok ha) rfl (by simp) hus
    · cases hB
end
/-- the law: from the head's run, the checked texts, and what the trees give -/
theorem law_holds {l : PySem.W.OpenLaw} {L : Lw} {n n0 i : Nat} {b : Bool} {q : Program} {loose : List Str} {XP : (Str → Option Value) → Heap → Prop} {m : Nat} {d : DefRec} (hn : l.most = some n) (hz : n ≤ sizeLine) (hd : d.params.defaults = []) (Tx : L.Txt) (hl : L.T.fns[i]? = some (d.name, 1, b))
    (hsup : (l.prog.main.scope.names.lookup ("super" : Str)).isSome = false) (hr : Room (3 * n0) callerA) (gives : ∀ ns : List Int, ns.length ≤ n → (∀ z ∈ ns, Builtin.Int.intBits z ≤ 1048576) → ∃ B, FF L.Mk L.Hs L.Ds n0 i [.scr (ns.map D.int)] [] = .ok (.bl true) B) :
    PySem.W.WalkO q loose XP (hookP m (chkP L l.prog.main.file) L.fn).says l.row.toRowW d [] (fun f vs => PySem.call f vs) := by
  refine law_walk hn hz hd fun w mg fa h Y G hmg => ?_
  obtain ⟨K, K', h1, h2, h3, c⟩ := Y
  have ck := c.ck
  unfold chkP at ck
  have k11 : (L.lamN.all (lamB K K')) = true := (ba2 (ba2 ck).1).2
  have k1 : (L.T.fns.all fun f => glB K f.1) = true := by
    have := ck
    simp only [Bool.and_eq_true] at this
    exact this.1.1.1.1.1.1.1.1.1.1.1
  have lam : ∀ x ∈ L.lamN, _ := fun x hx => lamB_ok h1 h2 h3 (List.all_eq_true.mp k11 x hx)
  have hfa : fa = (L.W K).fa i := by
    have g := He.glo_ok h1 G (List.all_eq_true.mp k1 _ (List.mem_of_getElem? hl))
    have e : mg d.name = some (.ref (He.ga K d.name)) := g
    rw [hmg] at e
    cases e
    show _ = He.ga K (L.nmF i)
    unfold Lw.nmF
    rw [getD_of (by rw [List.getElem?_map, hl]; rfl)]
  refine ⟨K, L.W K, L.cs K, 3 * n0, b, FF L.Mk L.Hs L.Ds n0 i, h1, rfl, fun p hp => ?_, fun p hp => ?_, fun p hp => ?_, ?_, hr, fun base X2 G2 TB => ?_, gives⟩
  · obtain ⟨x, hx, rfl⟩ := List.mem_map.mp hp
    exact (lam x hx).2.1
  · obtain ⟨x, hx, rfl⟩ := List.mem_map.mp hp
    exact (lam x hx).2.2.1
  · obtain ⟨x, hx, rfl⟩ := List.mem_map.mp hp
    exact (lam x hx).2.2.2.1
  · unfold Lw.W Lw.cs
    rw [List.map_map, List.map_map]
    rfl
  · rw [hfa]
    obtain ⟨M, hh⟩ := modOk (w := w) Tx c X2 G2 (fun x hx => ⟨(lam x hx).1, TB (tabC K x, tabP K x) (List.mem_map.mpr ⟨x, hx, rfl⟩)⟩) hsup
    exact callable M hh n0 i d.name 1 b hl
end Pl

-- part EV
set_option maxHeartbeats 4000000
/-! The pure layer V: trees are evaluated: by fuel where all is known, step by step otherwise. -/
namespace Pl
open PySem PySem.Spec PyProof.Rows L2
/-! ### more fuel tells no less -/
def R.le {α : Type} (x y : R α) : Prop := x = .no ∨ x = y
def M.le {α : Type} (m m' : M α) : Prop := ∀ B, R.le (m B) (m' B)
theorem R.le_refl {α : Type} (x : R α) : R.le x x := .inr rfl
theorem M.le_refl {α : Type} (m : M α) : M.le m m := fun _ => .inr rfl
theorem M.stuck_le {α : Type} {m : M α} : M.le M.stuck m := fun _ => .inl rfl
theorem M.bind_le {α β : Type} {m m' : M α} {f f' : α → M β} (h : M.le m m') (k : ∀ a, M.le (f a) (f' a)) : M.le (M.bind m f) (M.bind m' f') := fun B => by
  unfold M.bind
  rcases h B with e | e
  · left
    rw [e]
  · rw [← e]
    cases m B with
    | ok a B' => exact k a B'
    | ex c B' => exact .inr rfl
    | no => exact .inr rfl
theorem M.calm_le {α : Type} {m m' : M α} (h : M.le m m') : M.le (M.calm m) (M.calm m') := fun B => by
  unfold M.calm
  rcases h B with e | e
  · left
    rw [e]
  · rw [← e]
    exact .inr rfl
theorem ite_le {α : Type} {b : Bool} {m m' n n' : M α} (h : M.le m m') (k : M.le n n') : M.le (if b then m else n) (if b then m' else n') := by
  cases b
  · exact k
  · exact h
theorem lcM_le {f f' : D → M (Option D)} (h : ∀ d, M.le (f d) (f' d)) : ∀ l, M.le (lcM f l) (lcM f' l)
  | [] => M.le_refl _
  | d :: ds => M.bind_le (h d) fun _ => M.bind_le (lcM_le h ds) fun _ => M.le_refl _
theorem lc2M_le {f f' : D → M (List D)} (h : ∀ d, M.le (f d) (f' d)) : ∀ l, M.le (lc2M f l) (lc2M f' l)
  | [] => M.le_refl _
  | d :: ds => M.bind_le (h d) fun _ => M.bind_le (lc2M_le h ds) fun _ => M.le_refl _
theorem thenM_le {m m' : M Fl} {k k' : Rho → M Fl} (h : M.le m m') (hk : ∀ r, M.le (k r) (k' r)) : M.le (thenM m k) (thenM m' k') := M.bind_le h fun f => by
  cases f with
  | nx r => exact hk r
  | _ => exact M.le_refl _
theorem forM_le {g : Pg} {b b' : Rho → M Fl} (h : ∀ r, M.le (b r) (b' r)) : ∀ l r, M.le (forM g b l r) (forM g b' l r)
  | [], r => M.le_refl _
  | d :: ds, r => M.bind_le (M.le_refl _) fun r1 => M.bind_le (h r1) fun f => by
    cases f with
    | nx r' => exact forM_le h ds r'
    | ct r' => exact forM_le h ds r'
    | bk r' => exact M.le_refl _
    | rt d => exact M.le_refl _
theorem whN_le2 {c c' : Rho → M Bool} {b b' : Rho → M Fl} (hc : ∀ r, M.le (c r) (c' r)) (hb : ∀ r, M.le (b r) (b' r)) : ∀ n r, M.le (whN c b n r) (whN c' b' n r)
  | 0, r => M.stuck_le
  | n + 1, r => M.bind_le (hc r) fun k => ite_le (M.bind_le (hb r) fun f => by
    cases f with
    | nx r' => exact whN_le2 hc hb n r'
    | ct r' => exact whN_le2 hc hb n r'
    | bk r' => exact M.le_refl _
    | rt d => exact M.le_refl _) (M.le_refl _)
theorem whC_le {c c' : Rho → M Bool} {b b' : Rho → M Fl} (hc : ∀ r, M.le (c r) (c' r)) (hb : ∀ r, M.le (b r) (b' r)) (n : Nat) (r : Rho) : M.le (whN c b n r) (whC c' b' r) := fun B => by
  rcases whN_le2 hc hb n r B with e | e
  · exact .inl e
  · by_cases q : (whN c' b' n r B).isNo = false
    · rw [whC_of q, e]
      exact .inr rfl
    · left
      rw [e]
      cases z : whN c' b' n r B with
      | no => rfl
      | ok a B' => rw [z] at q; exact absurd rfl q
      | ex a B' => rw [z] at q; exact absurd rfl q
theorem triM_le {cs : List Nat} {n : Option Nat} {b b' : M Fl} {h h' : Rho → M Fl} {r : Rho} (hb : M.le b b') (hh : ∀ r, M.le (h r) (h' r)) : M.le (triM cs n b h r) (triM cs n b' h' r) := fun B => by
  unfold triM
  rcases hb B with e | e
  · left
    rw [e]
  · rw [← e]
    cases b B with
    | ok a B' => exact .inr rfl
    | no => exact .inr rfl
    | ex c B' =>
      dsimp only
      by_cases q : cs.contains c = true
      · rw [if_pos q, if_pos q]
        cases n with
        | none => exact .inr rfl
        | some i => exact (M.bind_le (M.le_refl _) fun r1 => M.bind_le (M.calm_le (hh r1)) fun f => M.le_refl _) B'
      · rw [if_neg q, if_neg q]
        exact .inr rfl
structure Cf.le (C C' : Cf) : Prop where
  F : ∀ f l, M.le (C.F f l) (C'.F f l)
  nw : ∀ f l, M.le (C.nw f l) (C'.nw f l)
  ac : M.le C.ac C'.ac
  lw : ∀ f m m', M.le m m' → M.le (C.lw f m) (C'.lw f m')
  xs : C.xs = C'.xs
  fl : C.fl = C'.fl
  wh : ∀ (c c' : Rho → M Bool) (b b' : Rho → M Fl), (∀ r, M.le (c r) (c' r)) → (∀ r, M.le (b r) (b' r)) → ∀ r, M.le (C.wh c b r) (C'.wh c' b' r)
section
variable {C C' : Cf} (h : C.le C')
include h
mutual
theorem ev_le : ∀ (p : Pe) (r : Rho), M.le (ev C p r) (ev C' p r)
  | .c d, r => M.le_refl _
  | .v i, r => M.le_refl _
  | .bin o a b, r => M.bind_le (ev_le a r) fun x => M.bind_le (ev_le b r) fun y => M.le_refl _
  | .neg a, r => M.bind_le (ev_le a r) fun x => M.le_refl _
  | .nt a, r => M.bind_le (ev_le a r) fun x => M.le_refl _
  | .an l, r => evAn_le l r
  | .or l, r => evOr_le l r
  | .cmp o a b, r => M.bind_le (ev_le a r) fun x => M.bind_le (ev_le b r) fun y => M.le_refl _
  | .ch o p a b c, r => M.bind_le (ev_le a r) fun x => M.bind_le (ev_le b r) fun y => M.bind_le (M.le_refl _) fun k => ite_le (M.bind_le (ev_le c r) fun z => M.le_refl _) (M.le_refl _)
  | .ite t a b, r => M.bind_le (evT_le t r) fun k => ite_le (ev_le a r) (ev_le b r)
  | .tup l, r => M.bind_le (evs_le l r) fun xs => M.le_refl _
  | .lst l, r => M.bind_le (M.bind_le (evs_le l r) fun xs => M.le_refl _) fun xs => M.le_refl _
  | .dc, r => M.le_refl _
  | .ix a i, r => M.bind_le (ev_le a r) fun x => M.bind_le (ev_le i r) fun y => M.le_refl _
  | .ixo s i, r => M.bind_le (M.le_refl _) fun l => M.bind_le (ev_le i r) fun y => M.le_refl _
  | .sl a lo hi, r => M.bind_le (ev_le a r) fun x => M.bind_le (evo_le lo r) fun l => M.bind_le (M.le_refl _) fun l => M.bind_le (evo_le hi r) fun h => M.le_refl _
  | .rv a, r => M.bind_le (ev_le a r) fun x => M.le_refl _
  | .lno s, r => M.le_refl _
  | .call f l, r => M.bind_le (evs_le l r) fun xs => h.F f xs
  | .bi b l, r => M.bind_le (evs_le l r) fun xs => M.le_refl _
  | .mt m a l, r => M.bind_le (ev_le a r) fun x => M.bind_le (M.le_refl _) fun k => M.bind_le (evs_le l r) fun xs => M.le_refl _
  | .fld a f, r => M.bind_le (ev_le a r) fun x => by rw [h.fl]; exact M.le_refl _
  | .mk c l, r => M.bind_le (evs_le l r) fun xs => h.nw c xs
  | .lc g k l t e w, r => M.bind_le (M.bind_le (evs_le l r) fun xs => M.bind_le (M.le_refl _) fun its => M.calm_le (lcM_le (fun d => M.bind_le (M.le_refl _) fun r1 => M.bind_le (evTs_le t r1) fun b => ite_le (M.bind_le (ev_le e r1) fun x => M.le_refl _) (M.le_refl _)) its)) fun xs => M.le_refl _
  | .lc2 g k l g2 k2 l2 t e w, r => M.bind_le (M.bind_le (evs_le l r) fun xs => M.bind_le (M.le_refl _) fun its => M.bind_le (M.calm_le (lc2M_le (fun d => M.bind_le (M.le_refl _) fun r1 => M.bind_le (evs_le l2 r1) fun ys => M.bind_le (M.le_refl _) fun its2 =>
      lcM_le (fun d2 => M.bind_le (M.le_refl _) fun r2 => M.bind_le (evTs_le t r2) fun b => ite_le (M.bind_le (ev_le e r2) fun x => M.le_refl _) (M.le_refl _)) its2) its)) fun xs => M.le_refl _) fun xs => M.le_refl _
  | .tv a, r => M.le_refl _
  | .bag l, r => M.bind_le (evs_le l r) fun xs => M.le_refl _
  | .act, r => M.bind_le (M.le_refl _) fun _ => h.ac
  | .lamc f a, r => M.calm_le (h.lw f _ _ (ev_le a r))
  | .ise s c, r => M.bind_le (M.le_refl _) fun c0 => by rw [h.xs]; exact M.le_refl _
  | .no, r => M.le_refl _
theorem evo_le : ∀ (p : Option Pe) (r : Rho), M.le (evo C p r) (evo C' p r)
  | none, r => M.le_refl _
  | some e, r => M.bind_le (ev_le e r) fun x => M.le_refl _
theorem evs_le : ∀ (l : List Pe) (r : Rho), M.le (evs C l r) (evs C' l r)
  | [], r => M.le_refl _
  | e :: es, r => M.bind_le (ev_le e r) fun x => M.bind_le (evs_le es r) fun xs => M.le_refl _
theorem evAn_le : ∀ (l : List Pe) (r : Rho), M.le (evAn C l r) (evAn C' l r)
  | [], r => M.le_refl _
  | [e], r => ev_le e r
  | e :: f :: es, r => M.bind_le (ev_le e r) fun x => M.bind_le (M.le_refl _) fun b => ite_le (evAn_le (f :: es) r) (M.le_refl _)
theorem evOr_le : ∀ (l : List Pe) (r : Rho), M.le (evOr C l r) (evOr C' l r)
  | [], r => M.le_refl _
  | [e], r => ev_le e r
  | e :: f :: es, r => M.bind_le (ev_le e r) fun x => M.bind_le (M.le_refl _) fun b => ite_le (M.le_refl _) (evOr_le (f :: es) r)
theorem evT_le : ∀ (p : Pe) (r : Rho), M.le (evT C p r) (evT C' p r)
  | .nt a, r => M.bind_le (evT_le a r) fun x => M.le_refl _
  | .an l, r => evTan_le l r
  | .or l, r => evTor_le l r
  | .cmp o a b, r => M.bind_le (ev_le a r) fun x => M.bind_le (ev_le b r) fun y => M.le_refl _
  | .ch o p a b c, r => M.bind_le (ev_le a r) fun x => M.bind_le (ev_le b r) fun y => M.bind_le (M.le_refl _) fun k => ite_le (M.bind_le (ev_le c r) fun z => M.le_refl _) (M.le_refl _)
  | .tv a, r => M.bind_le (ev_le a r) fun x => M.le_refl _
  | .c _, r => M.le_refl _
  | .v _, r => M.le_refl _
  | .bin _ _ _, r => M.le_refl _
  | .neg _, r => M.le_refl _
  | .ite _ _ _, r => M.le_refl _
  | .tup _, r => M.le_refl _
  | .lst _, r => M.le_refl _
  | .dc, r => M.le_refl _
  | .ix _ _, r => M.le_refl _
  | .ixo _ _, r => M.le_refl _
  | .sl _ _ _, r => M.le_refl _
  | .rv _, r => M.le_refl _
  | .lno _, r => M.le_refl _
  | .call _ _, r => M.le_refl _
  | .bi _ _, r => M.le_refl _
  | .mt _ _ _, r => M.le_refl _
  | .fld _ _, r => M.le_refl _
  | .mk _ _, r => M.le_refl _
  | .lc _ _ _ _ _ _, r => M.le_refl _
  | .lc2 _ _ _ _ _ _ _ _ _, r => M.le_refl _
  | .bag _, r => M.le_refl _
  | .act, r => M.le_refl _
  | .lamc _ _, r => M.le_refl _
  | .ise _ _, r => M.le_refl _
  | .no, r => M.le_refl _
theorem evTs_le : ∀ (l : List Pe) (r : Rho), M.le (evTs C l r) (evTs C' l r)
  | [], r => M.le_refl _
  | [e], r => evT_le e r
  | _ :: _ :: _, r => M.le_refl _
theorem evTan_le : ∀ (l : List Pe) (r : Rho), M.le (evTan C l r) (evTan C' l r)
  | [], r => M.le_refl _
  | [e], r => evT_le e r
  | e :: f :: es, r => M.bind_le (evT_le e r) fun b => ite_le (evTan_le (f :: es) r) (M.le_refl _)
theorem evTor_le : ∀ (l : List Pe) (r : Rho), M.le (evTor C l r) (evTor C' l r)
  | [], r => M.le_refl _
  | [e], r => evT_le e r
  | e :: f :: es, r => M.bind_le (evT_le e r) fun b => ite_le (M.le_refl _) (evTor_le (f :: es) r)
end
theorem evF_le : ∀ (p : Pe) (r : Rho), M.le (evF C p r) (evF C' p r) := fun p r => by
  unfold evF
  split
  · exact M.bind_le (evs_le h _ r) fun xs => M.le_refl _
  · exact M.bind_le (M.bind_le (evs_le h _ r) fun xs => M.le_refl _) fun xs => M.bind_le (ev_le h _ r) fun y => M.le_refl _
  · exact M.bind_le (evs_le h _ r) fun xs => M.le_refl _
  · exact M.bind_le (evs_le h _ r) fun xs => M.bind_le (M.le_refl _) fun its => M.calm_le (lcM_le (fun d => M.bind_le (M.le_refl _) fun r1 => M.bind_le (evTs_le h _ r1) fun b => ite_le (M.bind_le (ev_le h _ r1) fun x => M.le_refl _) (M.le_refl _)) its)
  · exact M.bind_le (evs_le h _ r) fun xs => M.bind_le (M.le_refl _) fun its => M.bind_le (M.calm_le (lc2M_le (fun d => M.bind_le (M.le_refl _) fun r1 => M.bind_le (evs_le h _ r1) fun ys => M.bind_le (M.le_refl _) fun its2 =>
      lcM_le (fun d2 => M.bind_le (M.le_refl _) fun r2 => M.bind_le (evTs_le h _ r2) fun b => ite_le (M.bind_le (ev_le h _ r2) fun x => M.le_refl _) (M.le_refl _)) its2) its)) fun xs => M.le_refl _
  · exact M.le_refl _
mutual
theorem run_le : ∀ (p : Ps) (r : Rho), M.le (run C p r) (run C' p r)
  | .set g e, r => M.bind_le (ev_le h e r) fun x => M.le_refl _
  | .seto s e, r => M.bind_le (evF_le h e r) fun x => M.le_refl _
  | .par l es, r => M.bind_le (evs_le h es r) fun x => M.le_refl _
  | .frz s, r => M.le_refl _
  | .app s e, r => M.bind_le (M.le_refl _) fun l => M.bind_le (ev_le h e r) fun x => M.le_refl _
  | .sto s i e, r => M.bind_le (ev_le h e r) fun x => M.bind_le (M.le_refl _) fun l => M.bind_le (ev_le h i r) fun j => M.le_refl _
  | .stoa s o i e, r => M.bind_le (M.le_refl _) fun l => M.bind_le (ev_le h i r) fun j => M.bind_le (M.le_refl _) fun x => M.bind_le (ev_le h e r) fun y => M.le_refl _
  | .bst b i e, r => M.bind_le (ev_le h e r) fun x => M.bind_le (ev_le h b r) fun y => M.bind_le (ev_le h i r) fun j => M.le_refl _
  | .aug s o e, r => M.bind_le (M.le_refl _) fun x => M.bind_le (ev_le h e r) fun y => M.le_refl _
  | .ex e, r => M.bind_le (ev_le h e r) fun x => M.le_refl _
  | .ret e, r => M.bind_le (ev_le h e r) fun x => M.le_refl _
  | .retn, r => M.le_refl _
  | .pass, r => M.le_refl _
  | .brk, r => M.le_refl _
  | .cnt, r => M.le_refl _
  | .ite t a b, r => M.bind_le (evT_le h t r) fun k => ite_le (runs_le a r) (runs_le b r)
  | .whl t b, r => h.wh _ _ _ _ (fun r => evT_le h t r) (fun r => runs_le b r) r
  | .fr g k l b, r => M.bind_le (evs_le h l r) fun xs => M.bind_le (M.le_refl _) fun its => forM_le (fun r => runs_le b r) its r
  | .rse c l, r => M.bind_le (evs_le h l r) fun xs => M.le_refl _
  | .tri b cs n hd, r => triM_le (run_le b r) fun r1 => runs_le hd r1
  | .fst s f e, r => M.bind_le (ev_le h e r) fun x => by rw [h.fl]; exact M.le_refl _
  | .fst2 s f g e, r => M.bind_le (ev_le h e r) fun x => by rw [h.fl]; exact M.le_refl _
  | .popo g s, r => M.le_refl _
  | .paro i e j f, r => M.bind_le (evF_le h e r) fun l => M.bind_le (evF_le h f r) fun k => M.le_refl _
  | .no, r => M.le_refl _
theorem runs_le : ∀ (l : List Ps) (r : Rho), M.le (runs C l r) (runs C' l r)
  | [], r => M.le_refl _
  | s :: ss, r => thenM_le (run_le s r) fun r' => runs_le ss r'
end
end
/-! ### evaluation by fuel -/
section
variable (k : Nat) (K : Mkr) (Hs Ds : List Df)
def whK (c : Rho → M Bool) (b : Rho → M Fl) (r : Rho) : M Fl := whN c b k r
def heK (m : M D) : Cf := ⟨fun _ _ => M.stuck, fun _ _ => M.stuck, m, fun _ _ => M.stuck, K.xs, K.fl, whK k⟩
def lwK (f : Nat) (m : M D) : M D := match Hs[f]? with
  | some d => finM (runs (heK k K m) d.body (startL d.N))
  | none => M.stuck
def cfK (F : Nat → List D → M D) : Cf := ⟨F, fun c => F (K.mi c), M.stuck, lwK k K Hs, K.xs, K.fl, whK k⟩
def FFk : Nat → Nat → List D → M D
  | 0, _, _ => M.stuck
  | n + 1, i, ds => match Ds[i]? with
    | some d => callM (cfK k K Hs (FFk n)) d ds
    | none => M.stuck
end
section
variable {k : Nat} {K : Mkr} {Hs Ds : List Df}
theorem he_le {m m' : M D} (h : M.le m m') : (heK k K m).le (heC K m') := ⟨fun _ _ => M.le_refl _, fun _ _ => M.le_refl _, h, fun _ _ _ _ => M.le_refl _, rfl, rfl, fun c c' b b' h1 h2 r => whC_le h1 h2 k r⟩
theorem lw_le (f : Nat) {m m' : M D} (h : M.le m m') : M.le (lwK k K Hs f m) (lwM K Hs f m') := by
  unfold lwK lwM
  cases Hs[f]? with
  | none => exact M.le_refl _
  | some d => exact M.bind_le (runs_le (he_le h) _ _) fun f => M.le_refl _
theorem cf_le {F F' : Nat → List D → M D} (h : ∀ f l, M.le (F f l) (F' f l)) : (cfK k K Hs F).le (cfOf K Hs F') := ⟨h, fun c l => h _ l, M.le_refl _, fun f m m' hm => lw_le f hm, rfl, rfl, fun c c' b b' h1 h2 r => whC_le h1 h2 k r⟩
theorem FFk_le : ∀ (n i : Nat) (ds : List D), M.le (FFk k K Hs Ds n i ds) (FF K Hs Ds n i ds)
  | 0, i, ds => M.le_refl _
  | n + 1, i, ds => by
    show M.le (match Ds[i]? with | some d => _ | none => _) (match Ds[i]? with | some d => _ | none => _)
    cases Ds[i]? with
    | none => exact M.le_refl _
    | some d =>
      show M.le (callM _ d ds) (callM _ d ds)
      unfold callM
      cases d.ini with
      | none => exact M.bind_le (runs_le (cf_le (FFk_le n)) _ _) fun f => M.le_refl _
      | some c => exact M.bind_le (runs_le (cf_le (FFk_le n)) _ _) fun f => M.le_refl _
theorem whC_le2 {c c' : Rho → M Bool} {b b' : Rho → M Fl} (h1 : ∀ r, M.le (c r) (c' r)) (h2 : ∀ r, M.le (b r) (b' r)) (r : Rho) : M.le (whC c b r) (whC c' b' r) := fun B => by
  rcases whC_get (c := c) (b := b) (r := r) (B := B) with ⟨n, e, _⟩ | e
  · rw [e]
    exact whC_le h1 h2 n r B
  · exact .inl e
theorem he_le' {m m' : M D} (h : M.le m m') : (heC K m).le (heC K m') := ⟨fun _ _ => M.le_refl _, fun _ _ => M.le_refl _, h, fun _ _ _ _ => M.le_refl _, rfl, rfl, fun c c' b b' h1 h2 r => whC_le2 h1 h2 r⟩
theorem lw_le' (f : Nat) {m m' : M D} (h : M.le m m') : M.le (lwM K Hs f m) (lwM K Hs f m') := by
  unfold lwM
  cases Hs[f]? with
  | none => exact M.le_refl _
  | some d => exact M.bind_le (runs_le (he_le' h) _ _) fun f => M.le_refl _
/-- deeper calls tell no less -/
theorem cf_le' {F F' : Nat → List D → M D} (h : ∀ f l, M.le (F f l) (F' f l)) : (cfOf K Hs F).le (cfOf K Hs F') := ⟨h, fun c l => h _ l, M.le_refl _, fun f m m' hm => lw_le' f hm, rfl, rfl, fun c c' b b' h1 h2 r => whC_le2 h1 h2 r⟩
theorem FF_up : ∀ (n i : Nat) (ds : List D), M.le (FF K Hs Ds n i ds) (FF K Hs Ds (n + 1) i ds)
  | 0, i, ds => M.stuck_le
  | n + 1, i, ds => by
    show M.le (match Ds[i]? with | some d => _ | none => _) (match Ds[i]? with | some d => _ | none => _)
    cases Ds[i]? with
    | none => exact M.le_refl _
    | some d =>
      show M.le (callM _ d ds) (callM _ d ds)
      unfold callM
      cases d.ini with
      | none => exact M.bind_le (runs_le (cf_le' (FF_up n)) _ _) fun f => M.le_refl _
      | some c => exact M.bind_le (runs_le (cf_le' (FF_up n)) _ _) fun f => M.le_refl _
theorem R.le_trans {α : Type} {x y z : R α} (a : R.le x y) (b : R.le y z) : R.le x z := by
  rcases a with e | e
  · exact .inl e
  · rw [e]; exact b
theorem FF_ups {n m : Nat} (h : n ≤ m) (i : Nat) (ds : List D) : M.le (FF K Hs Ds n i ds) (FF K Hs Ds m i ds) := by
  obtain ⟨j, rfl⟩ := Nat.le.dest h
  induction j with
  | zero => exact M.le_refl _
  | succ j ih => exact fun B => R.le_trans (ih (Nat.le_add_right _ _) B) (FF_up (n + j) i ds B)
/-- what fuel tells is so, at every greater depth -/
theorem FF_ok {n m i : Nat} {ds : List D} {B B' : Bs} {v : D} (h : FFk k K Hs Ds n i ds B = .ok v B') (hm : n ≤ m) : FF K Hs Ds m i ds B = .ok v B' := by
  rcases R.le_trans (FFk_le (k := k) (K := K) (Hs := Hs) (Ds := Ds) n i ds B) (FF_ups hm i ds B) with e | e
  · rw [h] at e; cases e
  · rw [← e, h]
theorem FF_ex {n m i : Nat} {ds : List D} {B B' : Bs} {c : Nat} (h : FFk k K Hs Ds n i ds B = .ex c B') (hm : n ≤ m) : FF K Hs Ds m i ds B = .ex c B' := by
  rcases R.le_trans (FFk_le (k := k) (K := K) (Hs := Hs) (Ds := Ds) n i ds B) (FF_ups hm i ds B) with e | e
  · rw [h] at e; cases e
  · rw [← e, h]
end
end Pl

-- part V0
set_option maxHeartbeats 4000000
/-! The pure layer V0: the rules of reckoning. -/
namespace Pl
open PySem PySem.Spec PyProof.Rows L2
theorem bind_ret {α β : Type} (a : α) (f : α → M β) : M.bind (M.ret a) f = f a := rfl
theorem bind_lift {α β : Type} (a : α) (f : α → M β) : M.bind (M.lift (some a)) f = f a := rfl
theorem lift_some {α : Type} (a : α) : M.lift (some a) = M.ret a := rfl
theorem bind_bind {α β γ : Type} (m : M α) (f : α → M β) (g : β → M γ) : M.bind (M.bind m f) g = M.bind m fun a => M.bind (f a) g := M.bind_assoc m f g
theorem calm_ret {α : Type} (a : α) : M.calm (M.ret a) = M.ret a := rfl
theorem then_ret {r : Rho} {k : Rho → M Fl} : thenM (M.ret (.nx r)) k = k r := rfl
theorem then_rt {d : D} {k : Rho → M Fl} : thenM (M.ret (.rt d)) k = M.ret (.rt d) := rfl
theorem fin_rt {d : D} : finM (M.ret (.rt d)) = M.ret d := rfl
theorem fin_nx {r : Rho} : finM (M.ret (.nx r)) = M.ret .non := rfl
theorem bind_ok' {α β : Type} {m : M α} {f : α → M β} {B B' : Bs} {a : α} (h : m B = .ok a B') : M.bind m f B = f a B' := by
  unfold M.bind
  rw [h]
theorem then_ok {m : M Fl} {k : Rho → M Fl} {B B' : Bs} {r : Rho} (h : m B = .ok (.nx r) B') : thenM m k B = k r B' := by
  unfold thenM
  rw [bind_ok' h]
section
variable {c : Rho → M Bool} {b : Rho → M Fl} {r r1 : Rho} {B B1 B2 : Bs}
theorem whC_f (h : c r B = .ok false B1) : whC c b r B = .ok (.nx r) B1 := by
  have e : whN c b 1 r B = .ok (.nx r) B1 := by
    show M.bind (c r) _ B = _
    rw [bind_ok' h]
    rfl
  rw [whC_of (n := 1) (by rw [e]; rfl), e]
theorem whN_t (h : c r B = .ok true B1) (h2 : b r B1 = .ok (.nx r1) B2) (n : Nat) : whN c b (n + 1) r B = whN c b n r1 B2 := by
  show M.bind (c r) _ B = _
  rw [bind_ok' h]
  show M.bind (b r) _ B1 = _
  rw [bind_ok' h2]
theorem whC_t (h : c r B = .ok true B1) (h2 : b r B1 = .ok (.nx r1) B2) : whC c b r B = whC c b r1 B2 := by
  rcases whC_get (c := c) (b := b) (r := r1) (B := B2) with ⟨n, e, q⟩ | e
  · rw [e, ← whN_t h h2 n]
    exact whC_of (by rw [whN_t h h2 n]; exact q)
  · rw [e]
    rcases whC_get (c := c) (b := b) (r := r) (B := B) with ⟨n, e2, q⟩ | e2
    · cases n with
      | zero => cases q
      | succ n =>
        rw [whN_t h h2 n] at q
        rw [whC_of q] at e
        rw [e] at q
        cases q
    · exact e2
end
/-- a loop over what is walked, by an invariant -/
theorem forM_inv {σ : Type} {g : Pg} {b : Rho → M Fl} {stp : σ → D → σ} (I : σ → Rho → Prop) : ∀ (l : List D) (s : σ) (r : Rho), (∀ s r d, d ∈ l → I s r → ∃ r1, setG g d r = some r1 ∧ ∃ r2, b r1 = M.ret (.nx r2) ∧ I (stp s d) r2) → I s r → ∃ r', forM g b l r = M.ret (.nx r') ∧ I (l.foldl stp s) r'
  | [], s, r, _, h => ⟨r, rfl, h⟩
  | d :: l, s, r, hs, h => by
    obtain ⟨r1, e1, r2, e2, h2⟩ := hs s r d List.mem_cons_self h
    obtain ⟨r', e3, h3⟩ := forM_inv I l (stp s d) r2 (fun s r d hd => hs s r d (List.mem_cons_of_mem _ hd)) h2
    refine ⟨r', ?_, h3⟩
    show M.bind (M.lift (setG g d r)) _ = _
    rw [e1]
    show M.bind (b r1) _ = _
    rw [e2]
    exact e3
theorem lcM_map {f : D → M (Option D)} {g : D → D} : ∀ {l : List D}, (∀ d ∈ l, f d = M.ret (some (g d))) → lcM f l = M.ret (l.map g)
  | [], _ => rfl
  | d :: l, h => by
    show M.bind (f d) _ = _
    rw [h d List.mem_cons_self]
    show M.bind (lcM f l) _ = _
    rw [lcM_map fun d hd => h d (List.mem_cons_of_mem _ hd)]
    rfl
theorem lcM_filter {f : D → M (Option D)} {p : D → Bool} {g : D → D} : ∀ {l : List D}, (∀ d ∈ l, f d = M.ret (if p d then some (g d) else none)) → lcM f l = M.ret ((l.filter p).map g)
  | [], _ => rfl
  | d :: l, h => by
    show M.bind (f d) _ = _
    rw [h d List.mem_cons_self]
    show M.bind (lcM f l) _ = _
    rw [lcM_filter fun d hd => h d (List.mem_cons_of_mem _ hd)]
    rw [List.filter_cons]
    cases p d <;> rfl
/-! ### small numbers -/
theorem mul_fits {i j : Int} (h1 : i.natAbs < 2 ^ 1000) (h2 : j.natAbs < 2 ^ 1000) : mulOk i j = true := by
  have aux : ∀ k : Nat, k < 2 ^ 1000 → k.log2 < 1000 := fun k hk => by
    by_cases z : k = 0
    · subst z
      decide
    · exact (Nat.log2_lt z).mpr hk
  unfold mulOk
  have := aux _ h1
  have := aux _ h2
  exact decide_eq_true (by omega)
abbrev il (l : List Int) : List D := l.map D.int
abbrev tl (l : List Int) : D := .tup (il l)
abbrev ll (l : List Int) : D := .lst (il l)
end Pl

-- part K59
set_option maxHeartbeats 0
/-! The module of law_k59_whole_heights_and_gaps: its trees, its tables, its head. -/
namespace Md
open PySem PySem.Spec PyProof.Rows L2 Pl
def top (i : Nat) : Stmt := PySem.Challenge.pw_signcells_k59_whole_heights_and_gaps.main.body.getD i (.Pass ⟨0, 0, 0, 0⟩)
def meth (i j : Nat) : Stmt := match top i with
  | .ClassDef _ _ _ b _ _ _ _ _ _ _ => b.getD j (.Pass ⟨0, 0, 0, 0⟩)
  | s => s
def mk (x : Str) (i : Nat) : He.DefD := ⟨(x, none), x, x, defArgs (top i), defBody (top i), defScope (top i), [], []⟩
def mkI (x q : Str) (i j : Nat) : He.DefD := ⟨(x, some ("__init__" : Str)), "__init__", q, defArgs (meth i j), defBody (meth i j), defScope (meth i j), [], []⟩
/-- is_integer(thing): 0 thing, -/
def d0 : Df := ⟨1, 1, false, false,
  [.ret (.an [(.bi .isi [(.v 0), (.c (.ty "int"))]), (.nt (.bi .isi [(.v 0), (.c (.ty "bool"))]))])], none⟩
/-- is_within(thing, least, most): 0 thing, 1 least, 2 most, -/
def d1 : Df := ⟨3, 3, false, false,
  [.ret (.an [(.call 0 [(.v 0)]), (.ch .le .le (.v 1) (.v 0) (.v 2))])], none⟩
/-- is_tuple(thing, least, most): 0 thing, 1 least, 2 most, -/
def d2 : Df := ⟨3, 3, false, false,
  [.ret (.an [(.bi .isi [(.v 0), (.c (.ty "tuple"))]), (.ch .le .le (.v 1) (.bi .len [(.v 0)]) (.v 2))])], none⟩
/-- gcd_of(one, other): 0 one, 1 other, -/
def d3 : Df := ⟨2, 2, false, false,
  [.par [0, 1] [(.bi .abs [(.v 0)]), (.bi .abs [(.v 1)])],
    .whl (.cmp .gt (.v 1) (.c (.int 0)))
      [.par [0, 1] [(.v 1), (.bin .mod (.v 0) (.v 1))]],
    .ret (.v 0)], none⟩
/-- lowest(top, bottom): 0 top, 1 bottom, 2 shared, -/
def d4 : Df := ⟨2, 3, false, false,
  [.set (.s 2) (.call 3 [(.v 0), (.v 1)]),
    .ite (.cmp .lt (.v 1) (.c (.int 0)))
      [.set (.s 2) (.neg (.v 2))]
      [],
    .ret (.tup [(.bin .fdiv (.v 0) (.v 2)), (.bin .fdiv (.v 1) (.v 2))])], none⟩
/-- plus(one, other): 0 one, 1 other, -/
def d5 : Df := ⟨2, 2, false, false,
  [.ret (.call 4 [(.bin .add (.bin .mul (.ix (.v 0) (.c (.int 0))) (.ix (.v 1) (.c (.int 1)))) (.bin .mul (.ix (.v 1) (.c (.int 0))) (.ix (.v 0) (.c (.int 1))))), (.bin .mul (.ix (.v 0) (.c (.int 1))) (.ix (.v 1) (.c (.int 1))))])], none⟩
/-- less(one, other): 0 one, 1 other, -/
def d6 : Df := ⟨2, 2, false, false,
  [.ret (.call 4 [(.bin .sub (.bin .mul (.ix (.v 0) (.c (.int 0))) (.ix (.v 1) (.c (.int 1)))) (.bin .mul (.ix (.v 1) (.c (.int 0))) (.ix (.v 0) (.c (.int 1))))), (.bin .mul (.ix (.v 0) (.c (.int 1))) (.ix (.v 1) (.c (.int 1))))])], none⟩
/-- times(one, other): 0 one, 1 other, -/
def d7 : Df := ⟨2, 2, false, false,
  [.ret (.call 4 [(.bin .mul (.ix (.v 0) (.c (.int 0))) (.ix (.v 1) (.c (.int 0)))), (.bin .mul (.ix (.v 0) (.c (.int 1))) (.ix (.v 1) (.c (.int 1))))])], none⟩
/-- halfway(one, other): 0 one, 1 other, -/
def d8 : Df := ⟨2, 2, false, false,
  [.ret (.call 4 [(.bin .add (.bin .mul (.ix (.v 0) (.c (.int 0))) (.ix (.v 1) (.c (.int 1)))) (.bin .mul (.ix (.v 1) (.c (.int 0))) (.ix (.v 0) (.c (.int 1))))), (.bin .mul (.bin .mul (.c (.int 2)) (.ix (.v 0) (.c (.int 1)))) (.ix (.v 1) (.c (.int 1))))])], none⟩
/-- is_pair(thing): 0 thing, 1 one, -/
def d9 : Df := ⟨1, 2, false, false,
  [.ite (.or [(.nt (.tv (.call 2 [(.v 0), (.c (.int 2)), (.c (.int 2))]))), (.nt (.tv (.bi .all [(.lc (.s 1) .seq [(.v 0)] [] (.call 0 [(.v 1)]) [1])]))), (.cmp .lt (.ix (.v 0) (.c (.int 1))) (.c (.int 1)))])
      [.ret (.c (.bl false))]
      [],
    .ret (.cmp .eq (.call 4 [(.ix (.v 0) (.c (.int 0))), (.ix (.v 0) (.c (.int 1)))]) (.v 0))], none⟩
/-- check_fraction(thing): 0 thing, -/
def d10 : Df := ⟨1, 1, false, false,
  [.ite (.nt (.tv (.call 9 [(.v 0)])))
      [.rse 2 []]
      []], none⟩
/-- is_row(thing): 0 thing, 1 one, -/
def d11 : Df := ⟨1, 2, false, false,
  [.ite (.or [(.nt (.tv (.call 2 [(.v 0), (.c (.int 0)), (.bin .add (.c (.int 8)) (.c (.int 1)))]))), (.nt (.tv (.bi .all [(.lc (.s 1) .seq [(.v 0)] [] (.an [(.call 0 [(.v 1)]), (.cmp .le (.bi .abs [(.v 1)]) (.c (.int 1000000)))]) [1])])))])
      [.ret (.c (.bl false))]
      [],
    .ret (.or [(.cmp .eq (.bi .len [(.v 0)]) (.c (.int 0))), (.cmp .ne (.ix (.v 0) (.neg (.c (.int 1)))) (.c (.int 0)))])], none⟩
/-- check_row(thing): 0 thing, -/
def d12 : Df := ⟨1, 1, false, false,
  [.ite (.nt (.tv (.call 11 [(.v 0)])))
      [.rse 3 []]
      []], none⟩
/-- trimmed(some): 0 some, 1 many, -/
def d13 : Df := ⟨1, 2, false, false,
  [.set (.s 1) (.bi .len [(.v 0)]),
    .whl (.an [(.cmp .gt (.v 1) (.c (.int 0))), (.cmp .eq (.ix (.v 0) (.bin .sub (.v 1) (.c (.int 1)))) (.c (.int 0)))])
      [.aug 1 .sub (.c (.int 1))],
    .ret (.bi .tuple [(.sl (.v 0) none (some (.v 1)))])], none⟩
/-- degree_of(row): 0 row, -/
def d14 : Df := ⟨1, 1, false, false,
  [.ret (.bin .sub (.bi .len [(.v 0)]) (.c (.int 1)))], none⟩
/-- plus_of(one, other): 0 one, 1 other, 2 many, 3 first, 4 second, 5 a, 6 b, -/
def d15 : Df := ⟨2, 7, false, false,
  [.set (.s 2) (.bi .max2 [(.bi .len [(.v 0)]), (.bi .len [(.v 1)])]),
    .set (.s 3) (.bin .add (.bi .tuple [(.v 0)]) (.bin .mul (.tup [(.c (.int 0))]) (.bin .sub (.v 2) (.bi .len [(.v 0)])))),
    .set (.s 4) (.bin .add (.bi .tuple [(.v 1)]) (.bin .mul (.tup [(.c (.int 0))]) (.bin .sub (.v 2) (.bi .len [(.v 1)])))),
    .ret (.call 13 [(.lc (.t [(.s 5), (.s 6)]) .zip [(.v 3), (.v 4)] [] (.bin .add (.v 5) (.v 6)) [5, 6])])], none⟩
/-- scaled_of(row, number): 0 row, 1 number, 2 one, -/
def d16 : Df := ⟨2, 3, false, false,
  [.ret (.call 13 [(.lc (.s 2) .seq [(.v 0)] [] (.bin .mul (.v 1) (.v 2)) [2])])], none⟩
/-- less_of(one, other): 0 one, 1 other, -/
def d17 : Df := ⟨2, 2, false, false,
  [.ret (.call 15 [(.v 0), (.call 16 [(.v 1), (.neg (.c (.int 1)))])])], none⟩
/-- times_of(one, other): 0 one, 1 other, 2 found, 3 at, 4 a, 5 far, 6 b, -/
def d18 : Df := ⟨2, 7, false, false,
  [.ite (.or [(.cmp .eq (.bi .len [(.v 0)]) (.c (.int 0))), (.cmp .eq (.bi .len [(.v 1)]) (.c (.int 0)))])
      [.ret (.tup [])]
      [],
    .seto 2 (.bin .mul (.lst [(.c (.int 0))]) (.bin .sub (.bin .add (.bi .len [(.v 0)]) (.bi .len [(.v 1)])) (.c (.int 1)))),
    .fr (.t [(.s 3), (.s 4)]) .enum [(.v 0)]
      [.ite (.cmp .ne (.v 4) (.c (.int 0)))
        [.fr (.t [(.s 5), (.s 6)]) .enum [(.v 1)]
          [.stoa 2 .add (.bin .add (.v 3) (.v 5)) (.bin .mul (.v 4) (.v 6))]]
        []],
    .frz 2,
    .ret (.call 13 [(.v 2)])], none⟩
/-- product_of(rows): 0 rows, 1 found, 2 row, -/
def d19 : Df := ⟨1, 3, false, false,
  [.set (.s 1) (.tup [(.c (.int 1))]),
    .fr (.s 2) .seq [(.v 0)]
      [.set (.s 1) (.call 18 [(.v 1), (.v 2)])],
    .ret (.v 1)], none⟩
/-- slope_of(row): 0 row, 1 at, 2 one, -/
def d20 : Df := ⟨1, 3, false, false,
  [.ret (.call 13 [(.sl (.lc (.t [(.s 1), (.s 2)]) .enum [(.v 0)] [] (.bin .mul (.v 1) (.v 2)) [1, 2]) (some (.c (.int 1))) none)])], none⟩
/-- top_at(row, spot): 0 row, 1 spot, 2 one, 3 found, 4 power, -/
def d21 : Df := ⟨2, 5, false, false,
  [.set (.t [(.s 3), (.s 4)]) (.tup [(.c (.int 0)), (.c (.int 1))]),
    .fr (.s 2) .seq [(.rv (.v 0))]
      [.set (.s 3) (.bin .add (.bin .mul (.v 3) (.ix (.v 1) (.c (.int 0)))) (.bin .mul (.v 2) (.v 4))),
      .set (.s 4) (.bin .mul (.v 4) (.ix (.v 1) (.c (.int 1))))],
    .ret (.v 3)], none⟩
/-- sign_at_of(row, spot): 0 row, 1 spot, 2 told, -/
def d22 : Df := ⟨2, 3, false, false,
  [.set (.s 2) (.call 21 [(.v 0), (.v 1)]),
    .ret (.bin .sub (.cmp .gt (.v 2) (.c (.int 0))) (.cmp .lt (.v 2) (.c (.int 0))))], none⟩
/-- content_of(row): 0 row, 1 found, 2 one, -/
def d23 : Df := ⟨1, 3, false, false,
  [.set (.s 1) (.c (.int 0)),
    .fr (.s 2) .seq [(.v 0)]
      [.set (.s 1) (.call 3 [(.v 1), (.v 2)])],
    .ret (.v 1)], none⟩
/-- plain_of(row): 0 row, 1 shared, 2 one, -/
def d24 : Df := ⟨1, 3, false, false,
  [.set (.s 1) (.call 23 [(.v 0)]),
    .ret (.ite (.cmp .gt (.v 1) (.c (.int 1))) (.bi .tuple [(.lc (.s 2) .seq [(.v 0)] [] (.bin .fdiv (.v 2) (.v 1)) [2])]) (.bi .tuple [(.v 0)]))], none⟩
/-- upright_of(row): 0 row, 1 told, -/
def d25 : Df := ⟨1, 2, false, false,
  [.set (.s 1) (.call 24 [(.v 0)]),
    .ret (.ite (.or [(.cmp .eq (.bi .len [(.v 1)]) (.c (.int 0))), (.cmp .gt (.ix (.v 1) (.neg (.c (.int 1)))) (.c (.int 0)))]) (.v 1) (.call 16 [(.v 1), (.neg (.c (.int 1)))]))], none⟩
/-- rest_of(one, other): 0 one, 1 other, 2 sign, 3 row, 4 lead, 5 shift, 6 taken, -/
def d26 : Df := ⟨2, 7, false, false,
  [.par [3, 4] [(.bi .tuple [(.v 0)]), (.ix (.v 1) (.neg (.c (.int 1))))],
    .set (.s 2) (.ite (.cmp .gt (.v 4) (.c (.int 0))) (.c (.int 1)) (.neg (.c (.int 1)))),
    .whl (.cmp .ge (.bi .len [(.v 3)]) (.bi .len [(.v 1)]))
      [.set (.s 5) (.bin .sub (.bi .len [(.v 3)]) (.bi .len [(.v 1)])),
      .set (.s 6) (.bin .add (.bin .mul (.tup [(.c (.int 0))]) (.v 5)) (.call 16 [(.v 1), (.bin .mul (.v 2) (.ix (.v 3) (.neg (.c (.int 1)))))])),
      .set (.s 3) (.call 24 [(.call 17 [(.call 16 [(.v 3), (.bi .abs [(.v 4)])]), (.v 6)])])],
    .ret (.call 24 [(.v 3)])], none⟩
/-- common_of(one, other): 0 one, 1 other, 2 a, 3 b, -/
def d27 : Df := ⟨2, 4, false, false,
  [.par [2, 3] [(.call 25 [(.v 0)]), (.call 25 [(.v 1)])],
    .whl (.cmp .gt (.bi .len [(.v 3)]) (.c (.int 0)))
      [.par [2, 3] [(.v 3), (.call 25 [(.call 26 [(.v 2), (.v 3)])])]],
    .ret (.v 2)], none⟩
/-- divided_of(one, other): 0 one, 1 other, 2 row, 3 found, 4 lead, 5 shift, 6 shared, 7 up, 8 down, 9 part, -/
def d28 : Df := ⟨2, 10, false, false,
  [.no,
    .whl (.cmp .ge (.bi .len [(.v 2)]) (.bi .len [(.v 1)]))
      [.set (.s 5) (.bin .sub (.bi .len [(.v 2)]) (.bi .len [(.v 1)])),
      .set (.s 6) (.call 3 [(.ix (.v 2) (.neg (.c (.int 1)))), (.v 4)]),
      .set (.t [(.s 7), (.s 8)]) (.tup [(.bin .fdiv (.v 4) (.v 6)), (.bin .fdiv (.ix (.v 2) (.neg (.c (.int 1)))) (.v 6))]),
      .frz 3,
      .seto 3 (.lc (.s 9) .seq [(.v 3)] [] (.bin .mul (.v 7) (.v 9)) [9]),
      .sto 3 (.v 5) (.v 8),
      .set (.s 2) (.call 17 [(.call 16 [(.v 2), (.v 7)]), (.bin .add (.bin .mul (.tup [(.c (.int 0))]) (.v 5)) (.call 16 [(.v 1), (.v 8)]))])],
    .frz 3,
    .ret (.call 25 [(.call 13 [(.v 3)])])], none⟩
/-- single_of(row): 0 row, 1 shared, -/
def d29 : Df := ⟨1, 2, false, false,
  [.ite (.cmp .lt (.bi .len [(.v 0)]) (.c (.int 2)))
      [.ret (.call 25 [(.v 0)])]
      [],
    .set (.s 1) (.call 27 [(.v 0), (.call 20 [(.v 0)])]),
    .ret (.ite (.cmp .lt (.bi .len [(.v 1)]) (.c (.int 2))) (.call 25 [(.v 0)]) (.call 28 [(.v 0), (.v 1)]))], none⟩
/-- shifted_of(row, number): 0 row, 1 number, 2 found, 3 one, -/
def d30 : Df := ⟨2, 4, false, false,
  [.set (.s 2) (.tup []),
    .fr (.s 3) .seq [(.rv (.v 0))]
      [.set (.s 2) (.call 15 [(.call 18 [(.v 2), (.tup [(.v 1), (.c (.int 1))])]), (.ite (.cmp .ne (.v 3) (.c (.int 0))) (.tup [(.v 3)]) (.tup []))])],
    .ret (.v 2)], none⟩
/-- sum_row(one, other): 0 one, 1 other, -/
def d31 : Df := ⟨2, 2, false, false,
  [.ex (.call 12 [(.v 0)]),
    .ex (.call 12 [(.v 1)]),
    .ret (.call 15 [(.v 0), (.v 1)])], none⟩
/-- product_row(one, other): 0 one, 1 other, -/
def d32 : Df := ⟨2, 2, false, false,
  [.ex (.call 12 [(.v 0)]),
    .ex (.call 12 [(.v 1)]),
    .ret (.call 18 [(.v 0), (.v 1)])], none⟩
/-- from_roots(some): 0 some, 1 one, -/
def d33 : Df := ⟨1, 2, false, false,
  [.ite (.or [(.nt (.tv (.call 2 [(.v 0), (.c (.int 0)), (.c (.int 8))]))), (.nt (.tv (.bi .all [(.lc (.s 1) .seq [(.v 0)] [] (.an [(.call 0 [(.v 1)]), (.cmp .le (.bi .abs [(.v 1)]) (.c (.int 20)))]) [1])])))])
      [.rse 3 []]
      [],
    .ret (.call 19 [(.lc (.s 1) .seq [(.v 0)] [] (.tup [(.neg (.v 1)), (.c (.int 1))]) [1])])], none⟩
/-- chain_of(one, other): 0 one, 1 other, 2 found, -/
def d34 : Df := ⟨2, 3, false, false,
  [.seto 2 (.lst [(.call 24 [(.v 0)]), (.call 24 [(.v 1)])]),
    .whl (.cmp .gt (.bi .len [(.ixo 2 (.neg (.c (.int 1))))]) (.c (.int 0)))
      [.app 2 (.call 16 [(.call 26 [(.ixo 2 (.neg (.c (.int 2)))), (.ixo 2 (.neg (.c (.int 1))))]), (.neg (.c (.int 1)))])],
    .frz 2,
    .ret (.sl (.v 2) none (some (.neg (.c (.int 1)))))], none⟩
/-- changes(signs): 0 signs, 1 some, 2 one, 3 a, 4 b, -/
def d35 : Df := ⟨1, 5, false, false,
  [.set (.s 1) (.lc (.s 2) .seq [(.v 0)] [(.cmp .ne (.v 2) (.c (.int 0)))] (.v 2) [2]),
    .ret (.bi .len [(.lc (.t [(.s 3), (.s 4)]) .zip [(.v 1), (.sl (.v 1) (some (.c (.int 1))) none)] [(.cmp .ne (.v 3) (.v 4))] (.c (.int 1)) [3, 4])])], none⟩
/-- signs_at(chain, spot): 0 chain, 1 spot, 2 row, -/
def d36 : Df := ⟨2, 3, false, false,
  [.ret (.lc (.s 2) .seq [(.v 0)] [] (.call 22 [(.v 2), (.v 1)]) [2])], none⟩
/-- signs_far(chain, is_high): 0 chain, 1 is_high, 2 found, 3 row, 4 sign, -/
def d37 : Df := ⟨2, 5, false, false,
  [.seto 2 (.lst []),
    .fr (.s 3) .seq [(.v 0)]
      [.set (.s 4) (.ite (.cmp .gt (.ix (.v 3) (.neg (.c (.int 1)))) (.c (.int 0))) (.c (.int 1)) (.neg (.c (.int 1)))),
      .app 2 (.ite (.or [(.tv (.v 1)), (.cmp .eq (.bin .mod (.call 14 [(.v 3)]) (.c (.int 2))) (.c (.int 0)))]) (.v 4) (.neg (.v 4)))],
    .frz 2,
    .ret (.v 2)], none⟩
/-- summed_of(row, other, low, high): 0 row, 1 other, 2 low, 3 high, 4 chain, 5 first, 6 last, -/
def d38 : Df := ⟨4, 7, false, false,
  [.set (.s 4) (.call 34 [(.v 0), (.call 18 [(.call 20 [(.v 0)]), (.v 1)])]),
    .set (.s 5) (.ite (.cmp .is (.v 2) (.c .non)) (.call 37 [(.v 4), (.c (.bl false))]) (.call 36 [(.v 4), (.v 2)])),
    .set (.s 6) (.ite (.cmp .is (.v 3) (.c .non)) (.call 37 [(.v 4), (.c (.bl true))]) (.call 36 [(.v 4), (.v 3)])),
    .ret (.bin .sub (.call 35 [(.v 5)]) (.call 35 [(.v 6)]))], none⟩
/-- count_of(row, low, high): 0 row, 1 low, 2 high, -/
def d39 : Df := ⟨3, 3, false, false,
  [.ret (.ite (.cmp .lt (.bi .len [(.v 0)]) (.c (.int 2))) (.c (.int 0)) (.call 38 [(.v 0), (.tup [(.c (.int 1))]), (.v 1), (.v 2)]))], none⟩
/-- bound_of(row): 0 row, 1 lead, 2 one, -/
def d40 : Df := ⟨1, 3, false, false,
  [.set (.s 1) (.bi .abs [(.ix (.v 0) (.neg (.c (.int 1))))]),
    .ret (.bin .add (.c (.int 1)) (.bi .maxl [(.bin .add (.lst [(.c (.int 0))]) (.lc (.s 2) .seq [(.sl (.v 0) none (some (.neg (.c (.int 1)))))] [] (.neg (.bin .fdiv (.neg (.bi .abs [(.v 2)])) (.v 1))) [2]))]))], none⟩
/-- free_spot(low, high, is_root): 0 low, 1 high, 2 is_root, 3 spot, 4 parts, -/
def d41 : Df := ⟨3, 5, false, false,
  [.par [3, 4] [(.call 8 [(.v 0), (.v 1)]), (.c (.int 3))],
    .whl .no
      [.set (.s 3) (.call 5 [(.v 0), (.call 7 [(.call 4 [(.c (.int 1)), (.v 4)]), (.call 6 [(.v 1), (.v 0)])])]),
      .aug 4 .add (.c (.int 1))],
    .ret (.v 3)], none⟩
/-- stretches_of(row): 0 row, 1 far_end, 2 stack, 3 found, 4 many, 5 low, 6 high, 7 spot, -/
def d42 : Df := ⟨1, 8, false, false,
  [.set (.s 1) (.bin .add (.call 40 [(.v 0)]) (.c (.int 1))),
    .paro 2 (.lst [(.tup [(.tup [(.neg (.v 1)), (.c (.int 1))]), (.tup [(.v 1), (.c (.int 1))])])]) 3 (.lst []),
    .whl (.cmp .gt (.lno 2) (.c (.int 0)))
      [.popo (.t [(.s 5), (.s 6)]) 2,
      .set (.s 4) (.call 39 [(.v 0), (.v 5), (.v 6)]),
      .ite (.cmp .eq (.v 4) (.c (.int 1)))
        [.app 3 (.tup [(.v 5), (.v 6)])]
        [.ite (.cmp .gt (.v 4) (.c (.int 1)))
          [.no,
          .no]
          []]],
    .frz 3,
    .ret (.v 3)], none⟩
/-- sign_there(row, one): 0 row, 1 one, -/
def d43 : Df := ⟨2, 2, false, false,
  [.ite (.cmp .eq (.bi .len [(.v 0)]) (.c (.int 0)))
      [.ret (.c (.int 0))]
      [],
    .ite (.cmp .eq (.bi .len [(.v 0)]) (.c (.int 1)))
      [.ret (.ite (.cmp .gt (.ix (.v 0) (.c (.int 0))) (.c (.int 0))) (.c (.int 1)) (.neg (.c (.int 1))))]
      [],
    .ite (.cmp .eq (.bi .len [(.fld (.v 1) "single")]) (.c (.int 2)))
      [.ret (.call 22 [(.v 0), (.call 4 [(.neg (.ix (.fld (.v 1) "single") (.c (.int 0)))), (.ix (.fld (.v 1) "single") (.c (.int 1)))])])]
      [],
    .ret (.call 38 [(.fld (.v 1) "single"), (.v 0), (.fld (.v 1) "low"), (.fld (.v 1) "high")])], none⟩
/-- sign_at(row, root): 0 row, 1 root, -/
def d44 : Df := ⟨2, 2, false, false,
  [.ex (.call 12 [(.v 0)]),
    .ret (.call 43 [(.v 0), (.v 1)])], none⟩
/-- of_fraction(spot): 0 spot, -/
def d45 : Df := ⟨1, 1, false, false,
  [.ex (.call 10 [(.v 0)]),
    .ite (.nt (.tv (.call 11 [(.tup [(.neg (.ix (.v 0) (.c (.int 0)))), (.ix (.v 0) (.c (.int 1)))])])))
      [.rse 2 []]
      [],
    .ret (.mk 5 [(.tup [(.neg (.ix (.v 0) (.c (.int 0)))), (.ix (.v 0) (.c (.int 1)))]), (.c (.int 0))])], none⟩
/-- check_shift(number): 0 number, -/
def d46 : Df := ⟨1, 1, false, false,
  [.ite (.or [(.nt (.tv (.call 0 [(.v 0)]))), (.cmp .gt (.bi .abs [(.v 0)]) (.c (.int 100)))])
      [.rse 4 []]
      []], none⟩
/-- shifted(row, number): 0 row, 1 number, -/
def d47 : Df := ⟨2, 2, false, false,
  [.ex (.call 12 [(.v 0)]),
    .ex (.call 46 [(.v 1)]),
    .ret (.call 30 [(.v 0), (.v 1)])], none⟩
/-- sign_at_integer(row, number): 0 row, 1 number, 2 found, 3 one, -/
def d48 : Df := ⟨2, 4, false, false,
  [.ex (.call 12 [(.v 0)]),
    .ex (.call 46 [(.v 1)]),
    .set (.s 2) (.c (.int 0)),
    .fr (.s 3) .seq [(.rv (.v 0))]
      [.set (.s 2) (.bin .add (.bin .mul (.v 2) (.v 1)) (.v 3))],
    .ret (.bin .sub (.cmp .gt (.v 2) (.c (.int 0))) (.cmp .lt (.v 2) (.c (.int 0))))], none⟩
/-- from_heights(values): 0 values, 1 many, 2 number, 3 scale, 4 at, 5 found, 6 whole, 7 base, 8 gaps, 9 part, 10 one, 11 a, 12 b, -/
def d49 : Df := ⟨1, 13, false, false,
  [.ite (.or [(.nt (.tv (.bi .isi [(.v 0), (.c (.ty "tuple"))]))), (.nt (.ch .le .le (.c (.int 1)) (.bi .len [(.v 0)]) (.c (.int 6))))])
      [.rse 4 []]
      [],
    .ite (.nt (.tv (.bi .all [(.lc (.s 10) .seq [(.v 0)] [] (.an [(.call 0 [(.v 10)]), (.cmp .le (.bi .abs [(.v 10)]) (.c (.int 100)))]) [10])])))
      [.rse 4 []]
      [],
    .set (.s 1) (.bi .len [(.v 0)]),
    .set (.t [(.s 5), (.s 6)]) (.tup [(.tup []), (.c (.int 1))]),
    .fr (.s 2) .rng2 [(.c (.int 1)), (.v 1)]
      [.set (.s 6) (.bin .mul (.v 6) (.v 2))],
    .par [7, 8] [(.tup [(.c (.int 1))]), (.bi .list [(.v 0)])],
    .set (.s 3) (.v 6),
    .fr (.s 4) .rng [(.v 1)]
      [.set (.s 9) (.bin .mul (.ix (.v 8) (.c (.int 0))) (.v 3)),
      .set (.s 5) (.ite (.cmp .ne (.v 9) (.c (.int 0))) (.call 15 [(.v 5), (.call 16 [(.v 7), (.v 9)])]) (.v 5)),
      .set (.s 8) (.lc (.t [(.s 11), (.s 12)]) .zip [(.v 8), (.sl (.v 8) (some (.c (.int 1))) none)] [] (.bin .sub (.v 12) (.v 11)) [11, 12]),
      .set (.s 7) (.call 18 [(.v 7), (.tup [(.neg (.v 4)), (.c (.int 1))])]),
      .set (.s 3) (.bin .fdiv (.v 3) (.bin .add (.v 4) (.c (.int 1))))],
    .ret (.tup [(.call 13 [(.v 5)]), (.v 6)])], none⟩
/-- power_gap(row, many): 0 row, 1 many, 2 turn, -/
def d50 : Df := ⟨2, 3, false, false,
  [.ex (.call 12 [(.v 0)]),
    .ite (.nt (.tv (.call 1 [(.v 1), (.c (.int 0)), (.c (.int 5))])))
      [.rse 4 []]
      [],
    .fr (.s 2) .rng [(.v 1)]
      [.set (.s 0) (.call 15 [(.call 30 [(.v 0), (.c (.int 1))]), (.call 16 [(.v 0), (.neg (.c (.int 1)))])])],
    .ret (.v 0)], none⟩
/-- _law_hand(script): 0 script, 1 cells, 2 cell, -/
def d51 : Df := ⟨1, 3, false, false,
  [.set (.s 1) (.lc (.s 2) .seq [(.sl (.v 0) none (some (.c (.int 63))))] [] (.bin .mod (.bi .int [(.bi .abs [(.bi .int [(.v 2)])])]) (.bin .pow (.c (.int 10)) (.c (.int 36)))) [2]),
    .ret (.bag [(.v 1), (.c (.int 0)), (.c (.int 0)), (.bin .add (.c (.int 59)) (.bin .mul (.c (.int 9)) (.bi .len [(.v 1)]))), (.c (.int 0))])], none⟩
/-- _law_draw(hand, many): 0 hand, 1 many, 2 number, 3 cell, 4 digit, -/
def d52 : Df := ⟨2, 5, false, false,
  [.ite (.an [(.cmp .eq (.ix (.v 0) (.c (.int 2))) (.c (.int 0))), (.cmp .lt (.ix (.v 0) (.c (.int 1))) (.bi .len [(.ix (.v 0) (.c (.int 0)))]))])
      [.set (.s 3) (.ix (.ix (.v 0) (.c (.int 0))) (.ix (.v 0) (.c (.int 1)))),
      .bst (.v 0) (.c (.int 1)) (.bin .add (.ix (.v 0) (.c (.int 1))) (.c (.int 1))),
      .bst (.v 0) (.c (.int 3)) (.bin .mod (.bi .int [(.bin .add (.bin .add (.bin .mul (.ix (.v 0) (.c (.int 3))) (.c (.int 69621))) (.bin .mul (.v 3) (.c (.int 40692)))) (.c (.int 211)))]) (.c (.int 2147483629))),
      .ite (.cmp .ge (.v 3) (.bin .pow (.c (.int 10)) (.c (.int 18))))
        [.bst (.v 0) (.c (.int 2)) (.v 3)]
        []]
      [],
    .ite (.cmp .gt (.ix (.v 0) (.c (.int 2))) (.c (.int 0)))
      [.set (.s 4) (.bin .mod (.bi .int [(.ix (.v 0) (.c (.int 2)))]) (.v 1)),
      .bst (.v 0) (.c (.int 2)) (.bin .fdiv (.ix (.v 0) (.c (.int 2))) (.v 1)),
      .ret (.v 4)]
      [],
    .bst (.v 0) (.c (.int 4)) (.bin .add (.ix (.v 0) (.c (.int 4))) (.c (.int 1))),
    .set (.s 2) (.bin .mod (.bi .int [(.bin .mul (.bi .int [(.bin .add (.ix (.v 0) (.c (.int 3))) (.bin .mul (.c (.int 7919)) (.ix (.v 0) (.c (.int 4)))))]) (.c (.int 48271)))]) (.c (.int 2147483647))),
    .set (.s 2) (.bin .mod (.bi .int [(.bin .mul (.v 2) (.bin .add (.bin .fdiv (.v 2) (.c (.int 1009))) (.c (.int 69621))))]) (.c (.int 2147483647))),
    .set (.s 2) (.bin .mod (.bi .int [(.bin .mul (.v 2) (.bin .add (.bin .fdiv (.v 2) (.c (.int 2003))) (.c (.int 40014))))]) (.c (.int 2147483563))),
    .ret (.bin .mod (.bi .int [(.bin .fdiv (.v 2) (.c (.int 16)))]) (.v 1))], none⟩
/-- _law_any(hand, some): 0 hand, 1 some, -/
def d53 : Df := ⟨2, 2, false, false,
  [.ret (.ix (.v 1) (.call 52 [(.v 0), (.bi .len [(.v 1)])]))], none⟩
/-- _law_trimmed(row): 0 row, 1 some, 2 at, 3 one, -/
def d54 : Df := ⟨1, 4, false, false,
  [.set (.s 1) (.lc (.t [(.s 2), (.s 3)]) .enum [(.v 0)] [(.cmp .ne (.v 3) (.c (.int 0)))] (.v 2) [2, 3]),
    .ret (.ite (.cmp .gt (.bi .len [(.v 1)]) (.c (.int 0))) (.bi .tuple [(.sl (.v 0) none (some (.bin .add (.ix (.v 1) (.neg (.c (.int 1)))) (.c (.int 1)))))]) (.tup []))], none⟩
/-- _law_product(one, other): 0 one, 1 other, 2 found, 3 at, 4 here, 5 spot, 6 there, -/
def d55 : Df := ⟨2, 7, false, false,
  [.seto 2 (.bin .mul (.lst [(.c (.int 0))]) (.bin .sub (.bin .add (.bi .len [(.v 0)]) (.bi .len [(.v 1)])) (.c (.int 1)))),
    .fr (.t [(.s 3), (.s 4)]) .enum [(.v 0)]
      [.fr (.t [(.s 5), (.s 6)]) .enum [(.v 1)]
        [.sto 2 (.bin .add (.v 3) (.v 5)) (.bin .add (.ixo 2 (.bin .add (.v 3) (.v 5))) (.bin .mul (.v 4) (.v 6)))]],
    .frz 2,
    .ret (.v 2)], none⟩
/-- _law_value(row, number): 0 row, 1 number, 2 found, 3 one, -/
def d56 : Df := ⟨2, 4, false, false,
  [.set (.s 2) (.c (.int 0)),
    .fr (.s 3) .seq [(.rv (.v 0))]
      [.set (.s 2) (.bin .add (.bin .mul (.v 2) (.v 1)) (.v 3))],
    .ret (.v 2)], none⟩
/-- _law_gap(row): 0 row, 1 found, 2 at, 3 one, 4 line, 5 turn, 6 spot, 7 part, -/
def d57 : Df := ⟨1, 8, false, false,
  [.seto 1 (.bin .mul (.lst [(.c (.int 0))]) (.bi .len [(.v 0)])),
    .fr (.t [(.s 2), (.s 3)]) .enum [(.v 0)]
      [.set (.s 4) (.lst [(.c (.int 1))]),
      .fr (.s 5) .rng [(.v 2)]
        [.set (.s 4) (.call 55 [(.v 4), (.lst [(.c (.int 1)), (.c (.int 1))])])],
      .fr (.t [(.s 6), (.s 7)]) .enum [(.sl (.v 4) none (some (.neg (.c (.int 1)))))]
        [.sto 1 (.v 6) (.bin .add (.ixo 1 (.v 6)) (.bin .mul (.v 3) (.v 7)))]],
    .frz 1,
    .ret (.call 54 [(.v 1)])], none⟩
/-- _law_heights(values): 0 values, 1 at, 2 many, 3 factor, 4 found, 5 base, 6 here, 7 below, 8 part, 9 spot, 10 one, 11 other, -/
def d58 : Df := ⟨1, 12, false, false,
  [.par [2, 3] [(.bi .len [(.v 0)]), (.c (.int 1))],
    .fr (.s 1) .rng2 [(.c (.int 1)), (.v 2)]
      [.set (.s 3) (.bin .mul (.v 3) (.v 1))],
    .set (.t [(.s 4), (.s 5), (.s 6), (.s 7)]) (.tup [(.bin .mul (.lst [(.c (.int 0))]) (.v 2)), (.lst [(.c (.int 1))]), (.bi .list [(.v 0)]), (.c (.int 1))]),
    .fr (.s 1) .rng [(.v 2)]
      [.set (.s 8) (.bin .mul (.ix (.v 6) (.c (.int 0))) (.bin .fdiv (.v 3) (.v 7))),
      .set (.s 4) (.lc (.t [(.s 9), (.s 10)]) .enum [(.v 4)] [] (.bin .add (.v 10) (.bin .mul (.v 8) (.ite (.cmp .lt (.v 9) (.bi .len [(.v 5)])) (.ix (.v 5) (.v 9)) (.c (.int 0))))) [9, 10]),
      .set (.t [(.s 5), (.s 7)]) (.tup [(.call 55 [(.v 5), (.lst [(.bin .sub (.c (.int 0)) (.v 1)), (.c (.int 1))])]), (.bin .mul (.v 7) (.bin .add (.v 1) (.c (.int 1))))]),
      .set (.s 6) (.lc (.t [(.s 10), (.s 11)]) .zip [(.v 6), (.sl (.v 6) (some (.c (.int 1))) none)] [] (.bin .sub (.v 11) (.v 10)) [10, 11])],
    .ret (.tup [(.call 54 [(.v 4)]), (.v 3)])], none⟩
/-- _law_gap_word(row, many): 0 row, 1 many, -/
def d59 : Df := ⟨2, 2, false, true,
  [.ret (.lamc 0 (.call 50 [(.v 0), (.v 1)]))], none⟩
/-- _law_are_heights_right(hand): 0 hand, 1 many, 2 values, 3 told, 4 bad, 5 some, 6 kept, 7 due, 8 row, 9 factor, 10 place, 11 one, -/
def d60 : Df := ⟨1, 12, true, true,
  [.set (.s 1) (.bin .add (.c (.int 1)) (.call 52 [(.v 0), (.c (.int 6))])),
    .set (.s 2) (.bi .tuple [(.lc (.s 10) .rng [(.v 1)] [] (.bin .sub (.call 52 [(.v 0), (.c (.int 21))]) (.c (.int 10))) [10])]),
    .ite (.cmp .eq (.call 52 [(.v 0), (.c (.int 2))]) (.c (.int 0)))
      [.set (.s 5) (.lc (.s 10) .rng [(.bin .add (.c (.int 1)) (.call 52 [(.v 0), (.c (.int 3))]))] [] (.bin .sub (.call 52 [(.v 0), (.c (.int 5))]) (.c (.int 2))) [10]),
      .set (.s 2) (.bi .tuple [(.lc (.s 10) .rng [(.v 1)] [] (.call 56 [(.v 5), (.v 10)]) [10])]),
      .ite (.cmp .ge (.v 1) (.bi .len [(.v 5)]))
        [.set (.t [(.s 8), (.s 9)]) (.call 49 [(.v 2)]),
        .ite (.cmp .ne (.v 8) (.call 54 [(.lc (.s 11) .seq [(.v 5)] [] (.bin .mul (.v 9) (.v 11)) [11])]))
          [.ret (.c (.bl false))]
          []]
        []]
      [],
    .par [6, 7] [(.bi .repr [(.v 2)]), (.call 58 [(.v 2)])],
    .set (.s 3) (.call 49 [(.v 2)]),
    .ite (.or [(.cmp .ne (.bi .tuple [(.v 3)]) (.v 7)), (.cmp .ne (.bi .repr [(.v 2)]) (.v 6)), (.cmp .gt (.bi .len [(.ix (.v 7) (.c (.int 0)))]) (.v 1))])
      [.ret (.c (.bl false))]
      [],
    .set (.t [(.s 8), (.s 9)]) (.v 7),
    .ite (.cmp .ne (.lc (.s 10) .rng [(.v 1)] [] (.call 56 [(.v 8), (.v 10)]) [10]) (.lc (.s 11) .seq [(.v 2)] [] (.bin .mul (.v 9) (.v 11)) [11]))
      [.ret (.c (.bl false))]
      [],
    .ite (.an [(.cmp .gt (.bi .len [(.v 8)]) (.c (.int 0))), (.cmp .ne (.lc (.s 10) .rng [(.v 1)] [] (.call 48 [(.v 8), (.v 10)]) [10]) (.lc (.s 11) .seq [(.v 2)] [] (.call 61 [(.v 11)]) [11]))])
      [.ret (.c (.bl false))]
      [],
    .set (.s 4) (.call 53 [(.v 0), (.lst [(.tup []), (.bin .mul (.tup [(.c (.int 1))]) (.c (.int 7))), (.tup [(.c (.int 101))]), (.tup [(.c (.bl true))]), (.tup [(.c (.str "1"))]), (.c .non), (.c (.int 0)), (.c (.str "?")), .dc, (.tup [(.c (.int 1)), (.c .non)])])]),
    .ret (.cmp .eq (.lamc 0 (.call 49 [(.v 4)])) (.c (.str "number")))], none⟩
/-- _law_sign(number): 0 number, -/
def d61 : Df := ⟨1, 1, false, false,
  [.ret (.ite (.cmp .gt (.v 0) (.c (.int 0))) (.c (.int 1)) (.ite (.cmp .lt (.v 0) (.c (.int 0))) (.neg (.c (.int 1))) (.c (.int 0))))], none⟩
/-- _law_are_gaps_right(hand): 0 hand, 1 row, 2 here, 3 many, 4 places, 5 product, 6 both, 7 far, 8 words, 9 under, 10 later, 11 place, 12 one, -/
def d62 : Df := ⟨1, 13, false, false,
  [.set (.s 1) (.call 54 [(.lc (.s 11) .rng [(.bin .add (.c (.int 1)) (.call 52 [(.v 0), (.c (.int 5))]))] [] (.bin .sub (.call 52 [(.v 0), (.c (.int 13))]) (.c (.int 6))) [11])]),
    .ite (.cmp .eq (.bi .len [(.v 1)]) (.c (.int 0)))
      [.ret (.c (.bl true))]
      [],
    .set (.s 2) (.v 1),
    .fr (.s 3) .rng [(.c (.int 6))]
      [.ite (.or [(.cmp .ne (.call 50 [(.v 1), (.v 3)]) (.v 2)), (.cmp .gt (.bi .len [(.v 2)]) (.bi .max2 [(.c (.int 0)), (.bin .sub (.bi .len [(.v 1)]) (.v 3))]))])
        [.ret (.c (.bl false))]
        [],
      .ite (.cmp .gt (.bi .len [(.v 2)]) (.c (.int 0)))
        [.set (.s 9) (.bi .tuple [(.lc (.s 12) .seq [(.v 2)] [] (.bin .sub (.c (.int 0)) (.v 12)) [12])]),
        .set (.s 10) (.call 31 [(.call 47 [(.v 2), (.c (.int 1))]), (.v 9)]),
        .ite (.cmp .ne (.v 10) (.call 57 [(.v 2)]))
          [.ret (.c (.bl false))]
          [],
        .set (.s 2) (.v 10)]
        []],
    .set (.s 4) (.bin .add (.call 52 [(.v 0), (.c (.int 4))]) (.c (.int 1))),
    .set (.s 5) (.call 33 [(.bi .tuple [(.lc (.s 11) .rng [(.v 4)] [] (.v 11) [11])])]),
    .set (.s 6) (.call 32 [(.v 1), (.v 5)]),
    .ite (.cmp .ne (.lc (.s 11) .rng [(.v 4)] [] (.call 44 [(.v 6), (.call 45 [(.tup [(.v 11), (.c (.int 1))])])]) [11]) (.bin .mul (.lst [(.c (.int 0))]) (.v 4)))
      [.ret (.c (.bl false))]
      [],
    .set (.s 7) (.bin .add (.v 4) (.c (.int 1))),
    .ite (.cmp .ne (.call 48 [(.v 6), (.v 7)]) (.call 61 [(.call 56 [(.v 1), (.v 7)])]))
      [.ret (.c (.bl false))]
      [],
    .set (.s 8) (.lst [(.call 59 [(.bin .add (.v 1) (.tup [(.c (.int 0))])), (.c (.int 1))]), (.call 59 [(.v 1), (.call 53 [(.v 0), (.lst [(.c (.int 6)), (.neg (.c (.int 1))), (.c .non), (.c (.bl true)), (.c (.str "1")), (.tup [(.c (.int 1))]), .dc])])])]),
    .ret (.cmp .eq (.v 8) (.lst [(.c (.str "row")), (.c (.str "number"))]))], none⟩
/-- law(script): 0 script, 1 hand, 2 turn, -/
def d63 : Df := ⟨1, 3, true, false,
  [.set (.s 1) (.call 51 [(.v 0)]),
    .ite (.or [(.cmp .ne (.bi .tuple [(.call 49 [(.tup [(.c (.int 0)), (.c (.int 1)), (.c (.int 4))])])]) (.tup [(.tup [(.c (.int 0)), (.c (.int 0)), (.c (.int 2))]), (.c (.int 2))])), (.cmp .ne (.bi .tuple [(.call 49 [(.tup [(.c (.int 5))])])]) (.tup [(.tup [(.c (.int 5))]), (.c (.int 1))]))])
      [.ret (.c (.bl false))]
      [],
    .ite (.or [(.cmp .ne (.call 50 [(.tup [(.c (.int 0)), (.c (.int 0)), (.c (.int 1))]), (.c (.int 1))]) (.tup [(.c (.int 1)), (.c (.int 2))])), (.cmp .ne (.call 50 [(.tup [(.c (.int 0)), (.c (.int 0)), (.c (.int 1))]), (.c (.int 2))]) (.tup [(.c (.int 2))])), (.cmp .ne (.call 50 [(.tup [(.c (.int 0)), (.c (.int 0)), (.c (.int 1))]), (.c (.int 3))]) (.tup []))])
      [.ret (.c (.bl false))]
      [],
    .ret (.bi .all [(.lc (.s 2) .rng [(.c (.int 6))] [] (.an [(.call 60 [(.v 1)]), (.call 62 [(.v 1)])]) [2])])], none⟩
/-- Root(self, row, at): 0 self, 1 row, 2 at, 3 told, 4 some, -/
def d64 : Df := ⟨3, 5, false, false,
  [.ite (.or [(.nt (.tv (.call 11 [(.v 1)]))), (.cmp .lt (.bi .len [(.v 1)]) (.c (.int 2)))])
      [.no]
      [],
    .fst 0 "row" (.v 1),
    .set (.s 3) (.call 29 [(.v 1)]),
    .set (.s 4) (.call 42 [(.v 3)]),
    .ite (.nt (.tv (.call 1 [(.v 2), (.c (.int 0)), (.bin .sub (.bi .len [(.v 4)]) (.c (.int 1)))])))
      [.no]
      [],
    .fst 0 "at" (.v 2),
    .fst 0 "single" (.v 3),
    .fst2 0 "low" "high" (.ix (.v 4) (.v 2))], some 5⟩
/-- _law_word -/
def h0 : Df := ⟨1, 3, false, false,
  [.tri (.ex .act) [2, 3, 4] (some 1)
      [.set (.s 2) (.lst [(.ise 1 (some 4)), (.ise 1 (some 3))]),
      .ite (.or [(.cmp .ne (.mt .count (.v 2) [(.c (.bl true))]) (.c (.int 1))), (.nt (.tv (.ise 1 none)))])
        [.ret (.c (.str "other"))]
        [],
      .ret (.ite (.tv (.ix (.v 2) (.c (.int 0)))) (.c (.str "number")) (.c (.str "row")))],
    .ret (.c (.str "told"))], none⟩
def en0 : List (He.DefD × Df × List Str) := [(mk "is_integer" 1, d0, (["thing"] : List Str)),
  (mk "is_within" 2, d1, (["thing", "least", "most"] : List Str)),
  (mk "is_tuple" 3, d2, (["thing", "least", "most"] : List Str)),
  (mk "gcd_of" 11, d3, (["one", "other"] : List Str)),
  (mk "lowest" 12, d4, (["top", "bottom", "shared"] : List Str)),
  (mk "plus" 13, d5, (["one", "other"] : List Str)),
  (mk "less" 14, d6, (["one", "other"] : List Str)),
  (mk "times" 15, d7, (["one", "other"] : List Str)),
  (mk "halfway" 17, d8, (["one", "other"] : List Str)),
  (mk "is_pair" 18, d9, (["thing", "one"] : List Str))]
def en1 : List (He.DefD × Df × List Str) := [(mk "check_fraction" 19, d10, (["thing"] : List Str)),
  (mk "is_row" 23, d11, (["thing", "one"] : List Str)),
  (mk "check_row" 24, d12, (["thing"] : List Str)),
  (mk "trimmed" 25, d13, (["some", "many"] : List Str)),
  (mk "degree_of" 26, d14, (["row"] : List Str)),
  (mk "plus_of" 27, d15, (["one", "other", "many", "first", "second", "a", "b"] : List Str)),
  (mk "scaled_of" 28, d16, (["row", "number", "one"] : List Str)),
  (mk "less_of" 29, d17, (["one", "other"] : List Str)),
  (mk "times_of" 30, d18, (["one", "other", "found", "at", "a", "far", "b"] : List Str)),
  (mk "product_of" 31, d19, (["rows", "found", "row"] : List Str))]
def en2 : List (He.DefD × Df × List Str) := [(mk "slope_of" 32, d20, (["row", "at", "one"] : List Str)),
  (mk "top_at" 33, d21, (["row", "spot", "one", "found", "power"] : List Str)),
  (mk "sign_at_of" 34, d22, (["row", "spot", "told"] : List Str)),
  (mk "content_of" 35, d23, (["row", "found", "one"] : List Str)),
  (mk "plain_of" 36, d24, (["row", "shared", "one"] : List Str)),
  (mk "upright_of" 37, d25, (["row", "told"] : List Str)),
  (mk "rest_of" 38, d26, (["one", "other", "sign", "row", "lead", "shift", "taken"] : List Str)),
  (mk "common_of" 39, d27, (["one", "other", "a", "b"] : List Str)),
  (mk "divided_of" 40, d28, (["one", "other", "row", "found", "lead", "shift", "shared", "up", "down", "part"] : List Str)),
  (mk "single_of" 41, d29, (["row", "shared"] : List Str))]
def en3 : List (He.DefD × Df × List Str) := [(mk "shifted_of" 42, d30, (["row", "number", "found", "one"] : List Str)),
  (mk "sum_row" 43, d31, (["one", "other"] : List Str)),
  (mk "product_row" 44, d32, (["one", "other"] : List Str)),
  (mk "from_roots" 45, d33, (["some", "one"] : List Str)),
  (mk "chain_of" 47, d34, (["one", "other", "found"] : List Str)),
  (mk "changes" 48, d35, (["signs", "some", "one", "a", "b"] : List Str)),
  (mk "signs_at" 49, d36, (["chain", "spot", "row"] : List Str)),
  (mk "signs_far" 50, d37, (["chain", "is_high", "found", "row", "sign"] : List Str)),
  (mk "summed_of" 51, d38, (["row", "other", "low", "high", "chain", "first", "last"] : List Str)),
  (mk "count_of" 52, d39, (["row", "low", "high"] : List Str))]
def en4 : List (He.DefD × Df × List Str) := [(mk "bound_of" 53, d40, (["row", "lead", "one"] : List Str)),
  (mk "free_spot" 54, d41, (["low", "high", "is_root", "spot", "parts"] : List Str)),
  (mk "stretches_of" 55, d42, (["row", "far_end", "stack", "found", "many", "low", "high", "spot"] : List Str)),
  (mk "sign_there" 59, d43, (["row", "one"] : List Str)),
  (mk "sign_at" 60, d44, (["row", "root"] : List Str)),
  (mk "of_fraction" 63, d45, (["spot"] : List Str)),
  (mk "check_shift" 65, d46, (["number"] : List Str)),
  (mk "shifted" 66, d47, (["row", "number"] : List Str)),
  (mk "sign_at_integer" 67, d48, (["row", "number", "found", "one"] : List Str)),
  (mk "from_heights" 68, d49, (["values", "many", "number", "scale", "at", "found", "whole", "base", "gaps", "part", "one", "a", "b"] : List Str))]
def en5 : List (He.DefD × Df × List Str) := [(mk "power_gap" 69, d50, (["row", "many", "turn"] : List Str)),
  (mk "_law_hand" 71, d51, (["script", "cells", "cell"] : List Str)),
  (mk "_law_draw" 72, d52, (["hand", "many", "number", "cell", "digit"] : List Str)),
  (mk "_law_any" 73, d53, (["hand", "some"] : List Str)),
  (mk "_law_trimmed" 74, d54, (["row", "some", "at", "one"] : List Str)),
  (mk "_law_product" 75, d55, (["one", "other", "found", "at", "here", "spot", "there"] : List Str)),
  (mk "_law_value" 76, d56, (["row", "number", "found", "one"] : List Str)),
  (mk "_law_gap" 77, d57, (["row", "found", "at", "one", "line", "turn", "spot", "part"] : List Str)),
  (mk "_law_heights" 78, d58, (["values", "at", "many", "factor", "found", "base", "here", "below", "part", "spot", "one", "other"] : List Str)),
  (mk "_law_gap_word" 80, d59, (["row", "many"] : List Str))]
def en6 : List (He.DefD × Df × List Str) := [(mk "_law_are_heights_right" 81, d60, (["hand", "many", "values", "told", "bad", "some", "kept", "due", "row", "factor", "place", "one"] : List Str)),
  (mk "_law_sign" 82, d61, (["number"] : List Str)),
  (mk "_law_are_gaps_right" 83, d62, (["hand", "row", "here", "many", "places", "product", "both", "far", "words", "under", "later", "place", "one"] : List Str)),
  (mk "law" 84, d63, (["script", "hand", "turn"] : List Str)),
  (mkI "Root" "Root.__init__" 58 0, d64, (["self", "row", "at", "told", "some"] : List Str))]
def ents : List (He.DefD × Df × List Str) := en0 ++ en1 ++ en2 ++ en3 ++ en4 ++ en5 ++ en6
def hents : List (He.DefD × Df × List Str) := [(mk "_law_word" 79, h0, (["call", "fault", "flags"] : List Str))]
def fnsT : List (Str × Nat × Bool) := ([("is_integer", 1, false), ("is_within", 3, false), ("is_tuple", 3, false), ("gcd_of", 2, false), ("lowest", 2, false), ("plus", 2, false), ("less", 2, false), ("times", 2, false), ("halfway", 2, false), ("is_pair", 1, false), ("check_fraction", 1, false), ("is_row", 1, false), ("check_row", 1, false), ("trimmed", 1, false), ("degree_of", 1, false), ("plus_of", 2, false), ("scaled_of", 2, false), ("less_of", 2, false), ("times_of", 2, false), ("product_of", 1, false)] : List (Str × Nat × Bool)) ++ ([("slope_of", 1, false), ("top_at", 2, false), ("sign_at_of", 2, false), ("content_of", 1, false), ("plain_of", 1, false), ("upright_of", 1, false), ("rest_of", 2, false), ("common_of", 2, false), ("divided_of", 2, false), ("single_of", 1, false), ("shifted_of", 2, false), ("sum_row", 2, false), ("product_row", 2, false), ("from_roots", 1, false), ("chain_of", 2, false), ("changes", 1, false), ("signs_at", 2, false), ("signs_far", 2, false), ("summed_of", 4, false), ("count_of", 3, false)] : List (Str × Nat × Bool)) ++ ([("bound_of", 1, false), ("free_spot", 3, false), ("stretches_of", 1, false), ("sign_there", 2, false), ("sign_at", 2, false), ("of_fraction", 1, false), ("check_shift", 1, false), ("shifted", 2, false), ("sign_at_integer", 2, false), ("from_heights", 1, false), ("power_gap", 2, false), ("_law_hand", 1, false), ("_law_draw", 2, false), ("_law_any", 2, false), ("_law_trimmed", 1, false), ("_law_product", 2, false), ("_law_value", 2, false), ("_law_gap", 1, false), ("_law_heights", 1, false), ("_law_gap_word", 2, false)] : List (Str × Nat × Bool)) ++ ([("_law_are_heights_right", 1, true), ("_law_sign", 1, false), ("_law_are_gaps_right", 1, false), ("law", 1, true)] : List (Str × Nat × Bool))
def tb : Tb := { fns := fnsT, csts := [("MOST_DEGREE", .int 8), ("MOST_SIZE", .int 1000000)], blts := ["ValueError", "abs", "all", "bool", "enumerate", "int", "isinstance", "len", "list", "max", "range", "repr", "tuple", "zip"], xcs := ["CellError", "BadRoot", "NoFraction", "NoRow", "NoNumber", "Root"], xmk := [2, 3, 4], xsub := [(2, 0), (3, 0), (4, 0)], hrs := ["_law_word"], mks := [(5, "Root", 2, false)] }
def lw : Lw := { T := tb, fls := [[], [], [], [], [], ["row", "at", "single", "low", "high"]], lamN := ["_law_gap_word", "_law_are_heights_right"], ents := ents, hents := hents, mi := fun c => if c = 5 then 64 else 0 }
def loose : List Str := (["__name__", "is_integer", "is_within", "is_tuple", "CellError", "BadRoot", "NoFraction", "NoRow", "NoNumber", "gcd_of", "lowest", "plus", "less", "times", "is_less", "halfway", "is_pair", "check_fraction", "MOST_DEGREE", "MOST_SIZE"] : List (Str)) ++ (["is_row", "check_row", "trimmed", "degree_of", "plus_of", "scaled_of", "less_of", "times_of", "product_of", "slope_of", "top_at", "sign_at_of", "content_of", "plain_of", "upright_of", "rest_of", "common_of", "divided_of", "single_of", "shifted_of"] : List (Str)) ++ (["sum_row", "product_row", "from_roots", "chain_of", "changes", "signs_at", "signs_far", "summed_of", "count_of", "bound_of", "free_spot", "stretches_of", "narrowed_of", "Root", "sign_there", "sign_at", "compare_of", "are_same", "of_fraction", "check_shift"] : List (Str)) ++ (["shifted", "sign_at_integer", "from_heights", "power_gap", "_law_hand", "_law_draw", "_law_any", "_law_trimmed", "_law_product", "_law_value", "_law_gap", "_law_heights", "_law_word", "_law_gap_word", "_law_are_heights_right", "_law_sign", "_law_are_gaps_right"] : List (Str))
abbrev R : PySem.W.OpenRow := PySem.W.OpenLaw.row PySem.Challenge.rw_signcells_k59_whole_heights_and_gaps
abbrev file : Str := PySem.Challenge.pw_signcells_k59_whole_heights_and_gaps.main.file
def lawAt : Nat := 84
-- LAWI 63
end Md

-- part K59t
set_option maxHeartbeats 0
namespace Md
open PySem PySem.Spec PyProof.Rows L2 Pl
theorem t_ents : lw.ents.all (entB lw) = true := by decide +kernel
theorem t_fns : fnsB lw = true := by decide +kernel
theorem t_mks : mksB lw = true := by decide +kernel
theorem t_out : outB lw = true := by decide +kernel
theorem t_hrs : hrsB lw = true := by decide +kernel
theorem txt : lw.Txt := ⟨List.all_eq_true.mp t_ents, t_fns, t_mks, t_out, t_hrs⟩
abbrev hk : PySem.W.Hook := hookP 4 (chkP lw file) lw.fn
theorem run (w : World) : HandSHeadRun.RunEq R (PySem.W.view R.prog [lawAt]) hk (obP 4 (chkP lw file) lw.fn) 8000 loose w := by
  intro os
  kernel_rfl
end Md

-- part V1
set_option maxHeartbeats 4000000
set_option exponentiation.threshold 3000
/-! The pure layer V1: a tree is run step by step. -/
namespace Pl
open PySem PySem.Spec PyProof.Rows L2
theorem getV_0 (d : D) (r : Rho) : getV (.v d :: r) 0 = some d := rfl
theorem getV_s (s : Sl) (r : Rho) (i : Nat) : getV (s :: r) (i + 1) = getV r i := rfl
theorem getO_0 (d : List D) (r : Rho) : getO (.o d :: r) 0 = some d := rfl
theorem getO_s (s : Sl) (r : Rho) (i : Nat) : getO (s :: r) (i + 1) = getO r i := rfl
theorem bin_add (i j : Int) : binD .add (.int i) (.int j) = some (.int (i + j)) := rfl
theorem bin_sub (i j : Int) : binD .sub (.int i) (.int j) = some (.int (i - j)) := rfl
theorem bin_subb (i j : Bool) : binD .sub (.bl i) (.bl j) = some (.int ((if i then 1 else 0) - (if j then 1 else 0))) := rfl
theorem bin_mul (i j : Int) : binD .mul (.int i) (.int j) = if mulOk i j then some (.int (i * j)) else none := rfl
theorem bin_fdiv (i j : Int) : binD .fdiv (.int i) (.int j) = if divOk j then some (.int (i.fdiv j)) else none := rfl
theorem bin_mod (i j : Int) : binD .mod (.int i) (.int j) = if j ≠ 0 then some (.int (i.fmod j)) else none := rfl
theorem bin_addt (a b : List D) : binD .add (.tup a) (.tup b) = if a.length + b.length ≤ SZ then some (.tup (a ++ b)) else none := rfl
theorem bin_mult (l : List D) (k : Int) : binD .mul (.tup l) (.int k) = if l.length ≤ 1000 ∧ -1000 ≤ k ∧ k ≤ 1000 then some (.tup (List.replicate k.toNat l).flatten) else none := rfl
theorem bin_mull (l : List D) (k : Int) : binD .mul (.lst l) (.int k) = if l.length ≤ 1000 ∧ -1000 ≤ k ∧ k ≤ 1000 then some (.lst (List.replicate k.toNat l).flatten) else none := rfl
theorem cmp_lt (i j : Int) : cmpD .lt (.int i) (.int j) = some (decide (i < j)) := rfl
theorem cmp_le (i j : Int) : cmpD .le (.int i) (.int j) = some (decide (i ≤ j)) := rfl
theorem cmp_gt (i j : Int) : cmpD .gt (.int i) (.int j) = some (decide (j < i)) := rfl
theorem cmp_ge (i j : Int) : cmpD .ge (.int i) (.int j) = some (decide (j ≤ i)) := rfl
theorem eqD_int (i j : Int) : eqD (.int i) (.int j) = some (i == j) := rfl
theorem cmp_eq (i j : Int) : cmpD .eq (.int i) (.int j) = some (i == j) := rfl
theorem cmp_ne (i j : Int) : cmpD .ne (.int i) (.int j) = some (!(i == j)) := rfl
theorem tru_bl (b : Bool) : truD (.bl b) = some b := rfl
theorem tru_int (i : Int) : truD (.int i) = some (i != 0) := rfl
theorem bi_lent (l : List D) : biD .len [.tup l] = some (.int l.length) := rfl
theorem bi_lenl (l : List D) : biD .len [.lst l] = some (.int l.length) := rfl
theorem bi_lens (l : List D) : biD .len [.scr l] = some (.int l.length) := rfl
theorem bi_abs (i : Int) : biD .abs [.int i] = some (.int (if i < 0 then -i else i)) := rfl
theorem bi_int (i : Int) : biD .int [.int i] = some (.int i) := rfl
theorem bi_max (i j : Int) : biD .max2 [.int i, .int j] = some (.int (if j > i then j else i)) := rfl
theorem bi_min (i j : Int) : biD .min2 [.int i, .int j] = some (.int (if j < i then j else i)) := rfl
theorem bi_tupt (l : List D) : biD .tuple [.tup l] = some (.tup l) := rfl
theorem bi_tupl (l : List D) : biD .tuple [.lst l] = some (.tup l) := rfl
theorem bi_listt (l : List D) : biD .list [.tup l] = some (.lst l) := rfl
theorem bi_listl (l : List D) : biD .list [.lst l] = some (.lst l) := rfl
theorem bi_all (l : List D) : biD .all [.lst l] = (boolsD l).map fun bs => .bl (bs.all id) := rfl
theorem bi_isi_int (i : Int) : biD .isi [.int i, .ty "int"] = some (.bl true) := rfl
theorem bi_isi_bool (i : Int) : biD .isi [.int i, .ty "bool"] = some (.bl false) := rfl
theorem bi_isi_tup (l : List D) : biD .isi [.tup l, .ty "tuple"] = some (.bl true) := rfl
theorem set_s (i : Nat) (d : D) (r : Rho) : setG (.s i) d r = if i < r.length then some (r.set i (.v d)) else none := rfl
theorem set_t (l : List Pg) (ds : List D) (r : Rho) : setG (.t l) (.tup ds) r = setGs l ds r := rfl
theorem sets_n (r : Rho) : setGs [] [] r = some r := rfl
theorem sets_c (g : Pg) (gs : List Pg) (d : D) (ds : List D) (r : Rho) : setGs (g :: gs) (d :: ds) r = (setG g d r).bind fun r' => setGs gs ds r' := rfl
theorem par_n (r : Rho) : setPar [] [] r = some r := rfl
theorem par_c (i : Nat) (l : List Nat) (d : D) (ds : List D) (r : Rho) : setPar (i :: l) (d :: ds) r = if i < r.length then setPar l ds (r.set i (.v d)) else none := rfl
theorem aug_add (i j : Int) : augD .add (.int i) (.int j) = some (.int (i + j)) := rfl
theorem aug_sub (i j : Int) : augD .sub (.int i) (.int j) = some (.int (i - j)) := rfl
theorem opt_n : optI none = some none := rfl
theorem opt_i (i : Int) : optI (some (.int i)) = some (some i) := rfl
theorem sl_t (l : List D) (a b : Option Int) : slD (.tup l) a b = some (.tup (Pl.cutD l a b)) := rfl
theorem sl_l (l : List D) (a b : Option Int) : slD (.lst l) a b = some (.lst (Pl.cutD l a b)) := rfl
theorem sl_s (l : List D) (a b : Option Int) : slD (.scr l) a b = some (.lst (Pl.cutD l a b)) := rfl
theorem rev_t (l : List D) : revD (.tup l) = some (.tup l.reverse) := rfl
theorem rev_l (l : List D) : revD (.lst l) = some (.lst l.reverse) := rfl
theorem it_t (l : List D) : itD .seq [.tup l] = some l := rfl
theorem it_l (l : List D) : itD .seq [.lst l] = some l := rfl
theorem it_s (l : List D) : itD .seq [.scr l] = some l := rfl
theorem it_et (l : List D) : itD .enum [.tup l] = some (enumD 0 l) := rfl
theorem it_el (l : List D) : itD .enum [.lst l] = some (enumD 0 l) := rfl
theorem it_zt (l k : List D) : itD .zip [.tup l, .tup k] = some (zipD l k) := rfl
theorem it_zl (l k : List D) : itD .zip [.lst l, .lst k] = some (zipD l k) := rfl
theorem it_r (n : Int) : itD .rng [.int n] = if n ≤ 1000000 ∧ -1000000 ≤ n then some (rngD 0 n.toNat) else none := rfl
theorem it_r2 (a b : Int) : itD .rng2 [.int a, .int b] = if a ≤ 1000000 ∧ -1000000 ≤ a ∧ b ≤ 1000000 ∧ -1000000 ≤ b then some (rngD a (b - a).toNat) else none := rfl
theorem wipe_n (r : Rho) : wipeR r [] = r := rfl
theorem wipe_c (r : Rho) (i : Nat) (l : List Nat) : wipeR r (i :: l) = (wipeR r l).set i .e := rfl
theorem lift_none {α : Type} : (M.lift (none : Option α)) = M.stuck := rfl
theorem ixm_t (l : List D) (i : Int) : (fun B => M.lift (ixM B (.tup l) (.int i)) B) = M.lift (atI l i) := rfl
theorem ixm_l (l : List D) (i : Int) : (fun B => M.lift (ixM B (.lst l) (.int i)) B) = M.lift (atI l i) := rfl
theorem frz_o (s : Nat) (r : Rho) (l : List D) (h : r[s]? = some (.o l)) : frzR s r = some (r.set s (.v (.lst l))) := by unfold frzR; rw [h]
def M.raise {α : Type} (c : Nat) : M α := fun B => .ex c B
theorem bind_raise {α β : Type} (c : Nat) (f : α → M β) : M.bind (M.raise c) f = M.raise c := rfl
theorem then_raise (c : Nat) (k : Rho → M Fl) : thenM (M.raise c) k = M.raise c := rfl
theorem fin_raise (c : Nat) : finM (M.raise c) = M.raise c := rfl
theorem rse_eq {α : Type} (c : Nat) : (fun B => (Pl.R.ex c B : Pl.R α)) = M.raise c := rfl
theorem bools_map {α : Type} (f : α → Bool) : ∀ l : List α, boolsD (l.map fun x => D.bl (f x)) = some (l.map f)
  | [] => rfl
  | x :: l => by
    show (boolsD (l.map fun x => D.bl (f x))).map _ = _
    rw [bools_map f l]
    rfl
theorem atI_map {α β : Type} (f : α → β) (l : List α) (i : Int) : atI (l.map f) i = (atI l i).map f := by
  unfold atI
  rw [List.length_map]
  cases ixN l.length i with
  | none => rfl
  | some j => simp
theorem runs_ok {C : Cf} {s : Ps} {ss : List Ps} {r r1 : Rho} (h : Pl.run C s r = M.ret (.nx r1)) : runs C (s :: ss) r = runs C ss r1 := by
  show thenM (Pl.run C s r) _ = _
  rw [h]
  rfl
theorem runs_rt {C : Cf} {s : Ps} {ss : List Ps} {r : Rho} {d : D} (h : Pl.run C s r = M.ret (.rt d)) : runs C (s :: ss) r = M.ret (.rt d) := by
  show thenM (Pl.run C s r) _ = _
  rw [h]
  rfl
theorem runs_ex {C : Cf} {s : Ps} {ss : List Ps} {r : Rho} {c : Nat} (h : Pl.run C s r = M.raise c) : runs C (s :: ss) r = M.raise c := by
  show thenM (Pl.run C s r) _ = _
  rw [h]
  rfl
theorem lcM_on {α : Type} {f : D → M (Option D)} (h : α → D) (g : α → D) : ∀ {l : List α}, (∀ a ∈ l, f (h a) = M.ret (some (g a))) → lcM f (l.map h) = M.ret (l.map g)
  | [], _ => rfl
  | a :: l, H => by
    show M.bind (f (h a)) _ = _
    rw [H a List.mem_cons_self]
    show M.bind (lcM f (l.map h)) _ = _
    rw [lcM_on h g fun d hd => H d (List.mem_cons_of_mem _ hd)]
    rfl
theorem lcM_onf {α : Type} {f : D → M (Option D)} (h : α → D) (p : α → Bool) (g : α → D) : ∀ {l : List α}, (∀ a ∈ l, f (h a) = M.ret (if p a then some (g a) else none)) → lcM f (l.map h) = M.ret ((l.filter p).map g)
  | [], _ => rfl
  | a :: l, H => by
    show M.bind (f (h a)) _ = _
    rw [H a List.mem_cons_self]
    show M.bind (lcM f (l.map h)) _ = _
    rw [lcM_onf h p g fun d hd => H d (List.mem_cons_of_mem _ hd), List.filter_cons]
    cases p a <;> rfl
theorem forM_on {α σ : Type} {g : Pg} {b : Rho → M Fl} {stp : σ → α → σ} (h : α → D) (I : σ → Rho → Prop) : ∀ (l : List α) (s : σ) (r : Rho), (∀ s r a, a ∈ l → I s r → ∃ r1, setG g (h a) r = some r1 ∧ ∃ r2, b r1 = M.ret (.nx r2) ∧ I (stp s a) r2) → I s r → ∃ r', forM g b (l.map h) r = M.ret (.nx r') ∧ I (l.foldl stp s) r'
  | [], s, r, _, h0 => ⟨r, rfl, h0⟩
  | a :: l, s, r, hs, h0 => by
    obtain ⟨r1, e1, r2, e2, h2⟩ := hs s r a List.mem_cons_self h0
    obtain ⟨r', e3, h3⟩ := forM_on h I l (stp s a) r2 (fun s r d hd => hs s r d (List.mem_cons_of_mem _ hd)) h2
    refine ⟨r', ?_, h3⟩
    show M.bind (M.lift (setG g (h a) r)) _ = _
    rw [e1]
    show M.bind (b r1) _ = _
    rw [e2]
    exact e3
theorem zip_il : ∀ a b : List Int, zipD (il a) (il b) = (a.zip b).map fun p => D.tup [.int p.1, .int p.2]
  | [], b => by cases b <;> rfl
  | x :: a, [] => rfl
  | x :: a, y :: b => by
    show D.tup [.int x, .int y] :: zipD (il a) (il b) = _
    rw [zip_il a b]
    rfl
theorem enum_il : ∀ (a : List Int) (k : Nat), enumD k (il a) = (a.zipIdx k).map fun p => D.tup [.int p.2, .int p.1]
  | [], k => rfl
  | x :: a, k => by
    show D.tup [.int (k : Nat), .int x] :: enumD (k + 1) (il a) = _
    rw [enum_il a (k + 1)]
    rfl
theorem fr_ok {C : Cf} {g : Pg} {k : Ik} {l : List Pe} {b : List Ps} {r : Rho} {xs its : List D} (h1 : evs C l r = M.ret xs) (h2 : itD k xs = some its) : Pl.run C (.fr g k l b) r = Pl.forM g (fun r => runs C b r) its r := by
  show M.bind (evs C l r) _ = _
  rw [h1]
  show M.bind (M.lift (itD k xs)) _ = _
  rw [h2]
  rfl
theorem ite_t {C : Cf} {t : Pe} {a b : List Ps} {r : Rho} (h : evT C t r = M.ret true) : Pl.run C (.ite t a b) r = runs C a r := by
  show M.bind (evT C t r) _ = _
  rw [h]
  rfl
theorem ite_f {C : Cf} {t : Pe} {a b : List Ps} {r : Rho} (h : evT C t r = M.ret false) : Pl.run C (.ite t a b) r = runs C b r := by
  show M.bind (evT C t r) _ = _
  rw [h]
  rfl
theorem runs_nil {C : Cf} {r : Rho} : runs C [] r = M.ret (.nx r) := rfl
end Pl
namespace Md
open PySem PySem.Spec PyProof.Rows L2 Pl
noncomputable abbrev G (n : Nat) : Nat → List D → M D := FF lw.Mk lw.Hs lw.Ds n
noncomputable abbrev cf (n : Nat) : Cf := cfOf lw.Mk lw.Hs (G n)
theorem pred {k n : Nat} (h : k + 1 ≤ n) : ∃ m, n = m + 1 ∧ k ≤ m := ⟨n - 1, by omega, by omega⟩
theorem cfF (n i : Nat) (l : List D) : (cf n).F i l = G n i l := rfl
theorem cfW (n : Nat) : (cf n).wh = whC := rfl
/-! ### checks -/
theorem s0 {n : Nat} (hn : 1 ≤ n) (i : Int) : G n 0 [.int i] = M.ret (.bl true) := by
  obtain ⟨m, rfl, _⟩ := pred hn
  rfl
theorem s1 {n : Nat} (hn : 2 ≤ n) (i a b : Int) : G n 1 [.int i, .int a, .int b] = M.ret (.bl (decide (a ≤ i) && decide (i ≤ b))) := by
  obtain ⟨m, rfl, h⟩ := pred hn
  show finM (runs (cf m) [.ret (.an [(.call 0 [(.v 0)]), (.ch .le .le (.v 1) (.v 0) (.v 2))])] [.v (.int i), .v (.int a), .v (.int b)]) = _
  simp only [runs, Pl.run, ev, evs, evo, evAn, evOr, evT, evTs, evTan, evTor, Pl.evF, bind_ret, bind_lift, bind_bind, lift_some, then_ret, then_rt, fin_rt, fin_nx, calm_ret, bind_raise, then_raise, fin_raise, rse_eq, M.lst, lstM, getV_0, getV_s, getO_0, getO_s, List.getElem?_cons_zero, List.getElem?_cons_succ, List.set_cons_zero, List.set_cons_succ, List.length_cons, List.length_nil, List.length_map, List.length_append, bin_add, bin_sub, bin_subb, cmp_lt, cmp_le, cmp_gt, cmp_ge, cmp_eq, cmp_ne, tru_bl, tru_int, bi_lent, bi_lenl, bi_lens, bi_abs, bi_int, bi_max, bi_min, bi_tupt, bi_tupl, bi_listt, bi_listl, bi_all, bi_isi_int, bi_isi_bool, bi_isi_tup, set_s, set_t, sets_n, sets_c, par_n, par_c, aug_add, aug_sub, opt_n, opt_i, sl_t, sl_l, sl_s, rev_t, rev_l, it_t, it_l, it_s, it_et, it_el, it_zt, it_zl, wipe_n, wipe_c, ixm_t, ixm_l, setV, setO, Option.map_some, Option.bind_some, gsl, if_true, if_false, Bool.false_eq_true, reduceIte, Nat.zero_add, Nat.reduceAdd, Nat.reduceLT, SZ, Nat.reduceLeDiff, Nat.zero_le]
  simp only [cfF]
  rw [s0 h]
  simp only [runs, Pl.run, ev, evs, evo, evAn, evOr, evT, evTs, evTan, evTor, Pl.evF, bind_ret, bind_lift, bind_bind, lift_some, then_ret, then_rt, fin_rt, fin_nx, calm_ret, bind_raise, then_raise, fin_raise, rse_eq, M.lst, lstM, getV_0, getV_s, getO_0, getO_s, List.getElem?_cons_zero, List.getElem?_cons_succ, List.set_cons_zero, List.set_cons_succ, List.length_cons, List.length_nil, List.length_map, List.length_append, bin_add, bin_sub, bin_subb, cmp_lt, cmp_le, cmp_gt, cmp_ge, cmp_eq, cmp_ne, tru_bl, tru_int, bi_lent, bi_lenl, bi_lens, bi_abs, bi_int, bi_max, bi_min, bi_tupt, bi_tupl, bi_listt, bi_listl, bi_all, bi_isi_int, bi_isi_bool, bi_isi_tup, set_s, set_t, sets_n, sets_c, par_n, par_c, aug_add, aug_sub, opt_n, opt_i, sl_t, sl_l, sl_s, rev_t, rev_l, it_t, it_l, it_s, it_et, it_el, it_zt, it_zl, wipe_n, wipe_c, ixm_t, ixm_l, setV, setO, Option.map_some, Option.bind_some, gsl, if_true, if_false, Bool.false_eq_true, reduceIte, Nat.zero_add, Nat.reduceAdd, Nat.reduceLT, SZ, Nat.reduceLeDiff, Nat.zero_le]
  by_cases c : a ≤ i <;> simp [c] <;> rfl
theorem s2 {n : Nat} (hn : 1 ≤ n) (l : List D) (a b : Int) : G n 2 [.tup l, .int a, .int b] = M.ret (.bl (decide (a ≤ l.length) && decide ((l.length : Int) ≤ b))) := by
  obtain ⟨m, rfl, h⟩ := pred hn
  show finM (runs (cf m) [.ret (.an [(.bi .isi [(.v 0), (.c (.ty "tuple"))]), (.ch .le .le (.v 1) (.bi .len [(.v 0)]) (.v 2))])] [.v (.tup l), .v (.int a), .v (.int b)]) = _
  simp only [runs, Pl.run, ev, evs, evo, evAn, evOr, evT, evTs, evTan, evTor, Pl.evF, bind_ret, bind_lift, bind_bind, lift_some, then_ret, then_rt, fin_rt, fin_nx, calm_ret, bind_raise, then_raise, fin_raise, rse_eq, M.lst, lstM, getV_0, getV_s, getO_0, getO_s, List.getElem?_cons_zero, List.getElem?_cons_succ, List.set_cons_zero, List.set_cons_succ, List.length_cons, List.length_nil, List.length_map, List.length_append, bin_add, bin_sub, bin_subb, cmp_lt, cmp_le, cmp_gt, cmp_ge, cmp_eq, cmp_ne, tru_bl, tru_int, bi_lent, bi_lenl, bi_lens, bi_abs, bi_int, bi_max, bi_min, bi_tupt, bi_tupl, bi_listt, bi_listl, bi_all, bi_isi_int, bi_isi_bool, bi_isi_tup, set_s, set_t, sets_n, sets_c, par_n, par_c, aug_add, aug_sub, opt_n, opt_i, sl_t, sl_l, sl_s, rev_t, rev_l, it_t, it_l, it_s, it_et, it_el, it_zt, it_zl, wipe_n, wipe_c, ixm_t, ixm_l, setV, setO, Option.map_some, Option.bind_some, gsl, if_true, if_false, Bool.false_eq_true, reduceIte, Nat.zero_add, Nat.reduceAdd, Nat.reduceLT, SZ, Nat.reduceLeDiff, Nat.zero_le]
  by_cases c : a ≤ (l.length : Int) <;> simp [c] <;> rfl
/-! ### trimmed -/
def trimL (l : List Int) : List Int := (l.reverse.dropWhile (· == 0)).reverse
theorem trimL_snoc (l : List Int) (x : Int) : trimL (l ++ [x]) = if x = 0 then trimL l else l ++ [x] := by
  unfold trimL
  rw [List.reverse_append, List.reverse_singleton, List.singleton_append, List.dropWhile_cons]
  by_cases h : x = 0
  · rw [if_pos h, if_pos (by simpa using h)]
  · rw [if_neg h, if_neg (by simpa using h)]
    simp
theorem take_snoc {l : List Int} {k : Nat} {z : Int} (hk : l[k]? = some z) : l.take (k + 1) = l.take k ++ [z] := by
  rw [List.take_add_one, hk]
  rfl
theorem trim_loop {x : D} {l : List Int} (hx : x = ll l ∨ x = tl l) (m : Nat) : ∀ k : Nat, k ≤ l.length → ∀ B, whC (fun r => evT (cf m) (.an [(.cmp .gt (.v 1) (.c (.int 0))), (.cmp .eq (.ix (.v 0) (.bin .sub (.v 1) (.c (.int 1)))) (.c (.int 0)))]) r) (fun r => runs (cf m) [.aug 1 .sub (.c (.int 1))] r) [.v x, .v (.int k)] B = .ok (.nx [.v x, .v (.int (trimL (l.take k)).length)]) B
  | 0, hk, B => by
    rw [whC_f (B1 := B) (by rfl)]
    rfl
  | k + 1, hk, B => by
    have hlt : k < l.length := hk
    obtain ⟨z, hz⟩ : ∃ z, l[k]? = some z := ⟨_, List.getElem?_eq_getElem hlt⟩
    have e0 : (((k + 1 : Nat) : Int) - 1) = (k : Int) := by omega
    have at_ : atI (il l) (k : Int) = some (.int z) := by
      unfold atI ixN
      rw [if_pos (by omega), if_pos (by simp; omega)]
      show (il l)[k]? = _
      simp [hz]
    have ix : (fun B => M.lift (ixM B x (.int (k : Int))) B) = M.ret (.int z) := by
      rcases hx with rfl | rfl
      · rw [ixm_l, at_]; rfl
      · rw [ixm_t, at_]; rfl
    have ct : evT (cf m) (.an [(.cmp .gt (.v 1) (.c (.int 0))), (.cmp .eq (.ix (.v 0) (.bin .sub (.v 1) (.c (.int 1)))) (.c (.int 0)))]) [.v x, .v (.int (k + 1 : Nat))] = M.ret (z == 0) := by
      simp only [runs, Pl.run, ev, evs, evo, evAn, evOr, evT, evTs, evTan, evTor, Pl.evF, bind_ret, bind_lift, bind_bind, lift_some, then_ret, then_rt, fin_rt, fin_nx, calm_ret, bind_raise, then_raise, fin_raise, rse_eq, M.lst, lstM, getV_0, getV_s, getO_0, getO_s, List.getElem?_cons_zero, List.getElem?_cons_succ, List.set_cons_zero, List.set_cons_succ, List.length_cons, List.length_nil, List.length_map, List.length_append, bin_add, bin_sub, bin_subb, cmp_lt, cmp_le, cmp_gt, cmp_ge, cmp_eq, cmp_ne, tru_bl, tru_int, bi_lent, bi_lenl, bi_lens, bi_abs, bi_int, bi_max, bi_min, bi_tupt, bi_tupl, bi_listt, bi_listl, bi_all, bi_isi_int, bi_isi_bool, bi_isi_tup, set_s, set_t, sets_n, sets_c, par_n, par_c, aug_add, aug_sub, opt_n, opt_i, sl_t, sl_l, sl_s, rev_t, rev_l, it_t, it_l, it_s, it_et, it_el, it_zt, it_zl, wipe_n, wipe_c, ixm_t, ixm_l, setV, setO, Option.map_some, Option.bind_some, gsl, if_true, if_false, Bool.false_eq_true, reduceIte, Nat.zero_add, Nat.reduceAdd, Nat.reduceLT, SZ, Nat.reduceLeDiff, Nat.zero_le]
      rw [decide_eq_true (show (0 : Int) < ((k + 1 : Nat) : Int) by omega), e0, ix]
      simp only [runs, Pl.run, ev, evs, evo, evAn, evOr, evT, evTs, evTan, evTor, Pl.evF, bind_ret, bind_lift, bind_bind, lift_some, then_ret, then_rt, fin_rt, fin_nx, calm_ret, bind_raise, then_raise, fin_raise, rse_eq, M.lst, lstM, getV_0, getV_s, getO_0, getO_s, List.getElem?_cons_zero, List.getElem?_cons_succ, List.set_cons_zero, List.set_cons_succ, List.length_cons, List.length_nil, List.length_map, List.length_append, bin_add, bin_sub, bin_subb, cmp_lt, cmp_le, cmp_gt, cmp_ge, cmp_eq, cmp_ne, tru_bl, tru_int, bi_lent, bi_lenl, bi_lens, bi_abs, bi_int, bi_max, bi_min, bi_tupt, bi_tupl, bi_listt, bi_listl, bi_all, bi_isi_int, bi_isi_bool, bi_isi_tup, set_s, set_t, sets_n, sets_c, par_n, par_c, aug_add, aug_sub, opt_n, opt_i, sl_t, sl_l, sl_s, rev_t, rev_l, it_t, it_l, it_s, it_et, it_el, it_zt, it_zl, wipe_n, wipe_c, ixm_t, ixm_l, setV, setO, Option.map_some, Option.bind_some, gsl, if_true, if_false, Bool.false_eq_true, reduceIte, Nat.zero_add, Nat.reduceAdd, Nat.reduceLT, SZ, Nat.reduceLeDiff, Nat.zero_le]
    have st : runs (cf m) [.aug 1 .sub (.c (.int 1))] [.v x, .v (.int (k + 1 : Nat))] = M.ret (.nx [.v x, .v (.int k)]) := by
      simp only [runs, Pl.run, ev, evs, evo, evAn, evOr, evT, evTs, evTan, evTor, Pl.evF, bind_ret, bind_lift, bind_bind, lift_some, then_ret, then_rt, fin_rt, fin_nx, calm_ret, bind_raise, then_raise, fin_raise, rse_eq, M.lst, lstM, getV_0, getV_s, getO_0, getO_s, List.getElem?_cons_zero, List.getElem?_cons_succ, List.set_cons_zero, List.set_cons_succ, List.length_cons, List.length_nil, List.length_map, List.length_append, bin_add, bin_sub, bin_subb, cmp_lt, cmp_le, cmp_gt, cmp_ge, cmp_eq, cmp_ne, tru_bl, tru_int, bi_lent, bi_lenl, bi_lens, bi_abs, bi_int, bi_max, bi_min, bi_tupt, bi_tupl, bi_listt, bi_listl, bi_all, bi_isi_int, bi_isi_bool, bi_isi_tup, set_s, set_t, sets_n, sets_c, par_n, par_c, aug_add, aug_sub, opt_n, opt_i, sl_t, sl_l, sl_s, rev_t, rev_l, it_t, it_l, it_s, it_et, it_el, it_zt, it_zl, wipe_n, wipe_c, ixm_t, ixm_l, setV, setO, Option.map_some, Option.bind_some, gsl, if_true, if_false, Bool.false_eq_true, reduceIte, Nat.zero_add, Nat.reduceAdd, Nat.reduceLT, SZ, Nat.reduceLeDiff, Nat.zero_le]
      rw [e0]
    by_cases h0 : z = 0
    · rw [whC_t (B1 := B) (r1 := [.v x, .v (.int k)]) (B2 := B) (by rw [ct, h0]; rfl) (by rw [st]; rfl), trim_loop hx m k (by omega) B, take_snoc hz, trimL_snoc, if_pos h0]
    · rw [whC_f (B1 := B) (by rw [ct, beq_false_of_ne h0]; rfl), take_snoc hz, trimL_snoc, if_neg h0]
      congr 5
      simp
      omega
theorem trimL_len (l : List Int) : (trimL l).length ≤ l.length := by
  unfold trimL
  rw [List.length_reverse]
  refine Nat.le_trans (List.dropWhile_suffix _).length_le ?_
  simp
theorem trimL_pre (l : List Int) : l.take (trimL l).length = trimL l := by
  have h : trimL l <+: l := by
    unfold trimL
    have := List.reverse_prefix.mpr (List.dropWhile_suffix (l := l.reverse) (fun x : Int => x == 0))
    rwa [List.reverse_reverse] at this
  exact (List.prefix_iff_eq_take.mp h).symm
theorem s13 {n : Nat} (hn : 1 ≤ n) {x : D} {l : List Int} (hx : x = ll l ∨ x = tl l) : G n 13 [x] = M.ret (tl (trimL l)) := by
  obtain ⟨m, rfl, h⟩ := pred hn
  show finM (runs (cf m) d13.body [.v x, .e]) = _
  unfold d13
  have lenx : biD .len [x] = some (.int l.length) := by
    rcases hx with rfl | rfl <;> simp [bi_lenl, bi_lent]
  have cut : ∀ k : Nat, Pl.cutD (il l) none (some (k : Int)) = il (l.take k) := fun k => by
    unfold Pl.cutD
    rw [HT.sIx_none, HT.sIx_nat]
    simp
  rw [runs_ok (r1 := [.v x, .v (.int l.length)]) (by simp only [runs, Pl.run, ev, evs, evo, evAn, evOr, evT, evTs, evTan, evTor, Pl.evF, bind_ret, bind_lift, bind_bind, lift_some, then_ret, then_rt, fin_rt, fin_nx, calm_ret, bind_raise, then_raise, fin_raise, rse_eq, M.lst, lstM, getV_0, getV_s, getO_0, getO_s, List.getElem?_cons_zero, List.getElem?_cons_succ, List.set_cons_zero, List.set_cons_succ, List.length_cons, List.length_nil, List.length_map, List.length_append, bin_add, bin_sub, bin_subb, cmp_lt, cmp_le, cmp_gt, cmp_ge, cmp_eq, cmp_ne, tru_bl, tru_int, bi_lent, bi_lenl, bi_lens, bi_abs, bi_int, bi_max, bi_min, bi_tupt, bi_tupl, bi_listt, bi_listl, bi_all, bi_isi_int, bi_isi_bool, bi_isi_tup, set_s, set_t, sets_n, sets_c, par_n, par_c, aug_add, aug_sub, opt_n, opt_i, sl_t, sl_l, sl_s, rev_t, rev_l, it_t, it_l, it_s, it_et, it_el, it_zt, it_zl, wipe_n, wipe_c, ixm_t, ixm_l, setV, setO, Option.map_some, Option.bind_some, gsl, if_true, if_false, Bool.false_eq_true, reduceIte, Nat.zero_add, Nat.reduceAdd, Nat.reduceLT, SZ, Nat.reduceLeDiff, Nat.zero_le]; rw [lenx]; simp only [runs, Pl.run, ev, evs, evo, evAn, evOr, evT, evTs, evTan, evTor, Pl.evF, bind_ret, bind_lift, bind_bind, lift_some, then_ret, then_rt, fin_rt, fin_nx, calm_ret, bind_raise, then_raise, fin_raise, rse_eq, M.lst, lstM, getV_0, getV_s, getO_0, getO_s, List.getElem?_cons_zero, List.getElem?_cons_succ, List.set_cons_zero, List.set_cons_succ, List.length_cons, List.length_nil, List.length_map, List.length_append, bin_add, bin_sub, bin_subb, cmp_lt, cmp_le, cmp_gt, cmp_ge, cmp_eq, cmp_ne, tru_bl, tru_int, bi_lent, bi_lenl, bi_lens, bi_abs, bi_int, bi_max, bi_min, bi_tupt, bi_tupl, bi_listt, bi_listl, bi_all, bi_isi_int, bi_isi_bool, bi_isi_tup, set_s, set_t, sets_n, sets_c, par_n, par_c, aug_add, aug_sub, opt_n, opt_i, sl_t, sl_l, sl_s, rev_t, rev_l, it_t, it_l, it_s, it_et, it_el, it_zt, it_zl, wipe_n, wipe_c, ixm_t, ixm_l, setV, setO, Option.map_some, Option.bind_some, gsl, if_true, if_false, Bool.false_eq_true, reduceIte, Nat.zero_add, Nat.reduceAdd, Nat.reduceLT, SZ, Nat.reduceLeDiff, Nat.zero_le]), runs_ok (r1 := [.v x, .v (.int (trimL l).length)]) (by
    funext B
    exact (trim_loop hx m l.length (Nat.le_refl _) B).trans (by rw [List.take_length]; rfl))]
  rcases hx with rfl | rfl
  · simp only [runs, Pl.run, ev, evs, evo, evAn, evOr, evT, evTs, evTan, evTor, Pl.evF, bind_ret, bind_lift, bind_bind, lift_some, then_ret, then_rt, fin_rt, fin_nx, calm_ret, bind_raise, then_raise, fin_raise, rse_eq, M.lst, lstM, getV_0, getV_s, getO_0, getO_s, List.getElem?_cons_zero, List.getElem?_cons_succ, List.set_cons_zero, List.set_cons_succ, List.length_cons, List.length_nil, List.length_map, List.length_append, bin_add, bin_sub, bin_subb, cmp_lt, cmp_le, cmp_gt, cmp_ge, cmp_eq, cmp_ne, tru_bl, tru_int, bi_lent, bi_lenl, bi_lens, bi_abs, bi_int, bi_max, bi_min, bi_tupt, bi_tupl, bi_listt, bi_listl, bi_all, bi_isi_int, bi_isi_bool, bi_isi_tup, set_s, set_t, sets_n, sets_c, par_n, par_c, aug_add, aug_sub, opt_n, opt_i, sl_t, sl_l, sl_s, rev_t, rev_l, it_t, it_l, it_s, it_et, it_el, it_zt, it_zl, wipe_n, wipe_c, ixm_t, ixm_l, setV, setO, Option.map_some, Option.bind_some, gsl, if_true, if_false, Bool.false_eq_true, reduceIte, Nat.zero_add, Nat.reduceAdd, Nat.reduceLT, SZ, Nat.reduceLeDiff, Nat.zero_le]
    rw [cut, trimL_pre]
  · simp only [runs, Pl.run, ev, evs, evo, evAn, evOr, evT, evTs, evTan, evTor, Pl.evF, bind_ret, bind_lift, bind_bind, lift_some, then_ret, then_rt, fin_rt, fin_nx, calm_ret, bind_raise, then_raise, fin_raise, rse_eq, M.lst, lstM, getV_0, getV_s, getO_0, getO_s, List.getElem?_cons_zero, List.getElem?_cons_succ, List.set_cons_zero, List.set_cons_succ, List.length_cons, List.length_nil, List.length_map, List.length_append, bin_add, bin_sub, bin_subb, cmp_lt, cmp_le, cmp_gt, cmp_ge, cmp_eq, cmp_ne, tru_bl, tru_int, bi_lent, bi_lenl, bi_lens, bi_abs, bi_int, bi_max, bi_min, bi_tupt, bi_tupl, bi_listt, bi_listl, bi_all, bi_isi_int, bi_isi_bool, bi_isi_tup, set_s, set_t, sets_n, sets_c, par_n, par_c, aug_add, aug_sub, opt_n, opt_i, sl_t, sl_l, sl_s, rev_t, rev_l, it_t, it_l, it_s, it_et, it_el, it_zt, it_zl, wipe_n, wipe_c, ixm_t, ixm_l, setV, setO, Option.map_some, Option.bind_some, gsl, if_true, if_false, Bool.false_eq_true, reduceIte, Nat.zero_add, Nat.reduceAdd, Nat.reduceLT, SZ, Nat.reduceLeDiff, Nat.zero_le]
    rw [cut, trimL_pre]
/-! ### rows are added, scaled, multiplied -/
theorem il_rep (k : Nat) : il (List.replicate k 0) = (List.replicate k [D.int 0]).flatten := by
  induction k with
  | zero => rfl
  | succ k ih => rw [List.replicate_succ, List.replicate_succ, List.flatten_cons, ← ih]; rfl
def padL (n : Nat) (l : List Int) : List Int := l ++ List.replicate (n - l.length) 0
def addL (a b : List Int) : List Int := ((padL (max a.length b.length) a).zip (padL (max a.length b.length) b)).map fun p => p.1 + p.2
theorem il_app (a b : List Int) : il (a ++ b) = il a ++ il b := List.map_append
theorem il_map (f : Int → Int) (a : List Int) : il (a.map f) = a.map fun x => D.int (f x) := by simp
theorem pad_mul {k c : Nat} (h : k ≤ 100) (hc : c ≤ 100) : binD .mul (.tup [.int 0]) (.int ((k : Int) - (c : Int))) = some (tl (List.replicate (k - c) 0)) := by
  rw [bin_mult, if_pos ⟨by decide, by omega, by omega⟩]
  have : ((k : Int) - (c : Int)).toNat = k - c := by omega
  rw [this, ← il_rep]
theorem pad_add {k : Nat} (a : List Int) (h : k ≤ 100) (ha : a.length ≤ 100) : binD .add (tl a) (tl (List.replicate (k - a.length) 0)) = some (tl (padL k a)) := by
  rw [bin_addt, if_pos (by show _ ≤ 16777216; simp; omega), ← il_app]
  rfl
theorem s15 {n : Nat} (hn : 2 ≤ n) {a b : List Int} (ha : a.length ≤ 100) (hb : b.length ≤ 100) : G n 15 [tl a, tl b] = M.ret (tl (trimL (addL a b))) := by
  obtain ⟨m, rfl, h⟩ := pred hn
  show finM (runs (cf m) d15.body [.v (tl a), .v (tl b), .e, .e, .e, .e, .e]) = _
  unfold d15
  obtain ⟨k, hk, k1, k2, k3⟩ : ∃ k, k = max a.length b.length ∧ a.length ≤ k ∧ b.length ≤ k ∧ k ≤ 100 := ⟨_, rfl, by omega, by omega, by omega⟩
  have mx : (if (b.length : Int) > (a.length : Int) then (b.length : Int) else (a.length : Int)) = (k : Int) := by
    split <;> omega
  rw [runs_ok (r1 := [.v (tl a), .v (tl b), .v (.int k), .e, .e, .e, .e]) (by simp only [runs, Pl.run, ev, evs, evo, evAn, evOr, evT, evTs, evTan, evTor, Pl.evF, bind_ret, bind_lift, bind_bind, lift_some, then_ret, then_rt, fin_rt, fin_nx, calm_ret, bind_raise, then_raise, fin_raise, rse_eq, M.lst, lstM, getV_0, getV_s, getO_0, getO_s, List.getElem?_cons_zero, List.getElem?_cons_succ, List.set_cons_zero, List.set_cons_succ, List.length_cons, List.length_nil, List.length_map, List.length_append, bin_add, bin_sub, bin_subb, cmp_lt, cmp_le, cmp_gt, cmp_ge, cmp_eq, cmp_ne, tru_bl, tru_int, bi_lent, bi_lenl, bi_lens, bi_abs, bi_int, bi_max, bi_min, bi_tupt, bi_tupl, bi_listt, bi_listl, bi_all, bi_isi_int, bi_isi_bool, bi_isi_tup, set_s, set_t, sets_n, sets_c, par_n, par_c, aug_add, aug_sub, opt_n, opt_i, sl_t, sl_l, sl_s, rev_t, rev_l, it_t, it_l, it_s, it_et, it_el, it_zt, it_zl, wipe_n, wipe_c, ixm_t, ixm_l, setV, setO, Option.map_some, Option.bind_some, gsl, if_true, if_false, Bool.false_eq_true, reduceIte, Nat.zero_add, Nat.reduceAdd, Nat.reduceLT, SZ, Nat.reduceLeDiff, Nat.zero_le]; rw [mx]),
    runs_ok (r1 := [.v (tl a), .v (tl b), .v (.int k), .v (tl (padL k a)), .e, .e, .e]) (by simp only [runs, Pl.run, ev, evs, evo, evAn, evOr, evT, evTs, evTan, evTor, Pl.evF, bind_ret, bind_lift, bind_bind, lift_some, then_ret, then_rt, fin_rt, fin_nx, calm_ret, bind_raise, then_raise, fin_raise, rse_eq, M.lst, lstM, getV_0, getV_s, getO_0, getO_s, List.getElem?_cons_zero, List.getElem?_cons_succ, List.set_cons_zero, List.set_cons_succ, List.length_cons, List.length_nil, List.length_map, List.length_append, bin_add, bin_sub, bin_subb, cmp_lt, cmp_le, cmp_gt, cmp_ge, cmp_eq, cmp_ne, tru_bl, tru_int, bi_lent, bi_lenl, bi_lens, bi_abs, bi_int, bi_max, bi_min, bi_tupt, bi_tupl, bi_listt, bi_listl, bi_all, bi_isi_int, bi_isi_bool, bi_isi_tup, set_s, set_t, sets_n, sets_c, par_n, par_c, aug_add, aug_sub, opt_n, opt_i, sl_t, sl_l, sl_s, rev_t, rev_l, it_t, it_l, it_s, it_et, it_el, it_zt, it_zl, wipe_n, wipe_c, ixm_t, ixm_l, setV, setO, Option.map_some, Option.bind_some, gsl, if_true, if_false, Bool.false_eq_true, reduceIte, Nat.zero_add, Nat.reduceAdd, Nat.reduceLT, SZ, Nat.reduceLeDiff, Nat.zero_le]; rw [pad_mul k3 ha]; simp only [runs, Pl.run, ev, evs, evo, evAn, evOr, evT, evTs, evTan, evTor, Pl.evF, bind_ret, bind_lift, bind_bind, lift_some, then_ret, then_rt, fin_rt, fin_nx, calm_ret, bind_raise, then_raise, fin_raise, rse_eq, M.lst, lstM, getV_0, getV_s, getO_0, getO_s, List.getElem?_cons_zero, List.getElem?_cons_succ, List.set_cons_zero, List.set_cons_succ, List.length_cons, List.length_nil, List.length_map, List.length_append, bin_add, bin_sub, bin_subb, cmp_lt, cmp_le, cmp_gt, cmp_ge, cmp_eq, cmp_ne, tru_bl, tru_int, bi_lent, bi_lenl, bi_lens, bi_abs, bi_int, bi_max, bi_min, bi_tupt, bi_tupl, bi_listt, bi_listl, bi_all, bi_isi_int, bi_isi_bool, bi_isi_tup, set_s, set_t, sets_n, sets_c, par_n, par_c, aug_add, aug_sub, opt_n, opt_i, sl_t, sl_l, sl_s, rev_t, rev_l, it_t, it_l, it_s, it_et, it_el, it_zt, it_zl, wipe_n, wipe_c, ixm_t, ixm_l, setV, setO, Option.map_some, Option.bind_some, gsl, if_true, if_false, Bool.false_eq_true, reduceIte, Nat.zero_add, Nat.reduceAdd, Nat.reduceLT, SZ, Nat.reduceLeDiff, Nat.zero_le]; rw [pad_add a k3 ha]; simp only [runs, Pl.run, ev, evs, evo, evAn, evOr, evT, evTs, evTan, evTor, Pl.evF, bind_ret, bind_lift, bind_bind, lift_some, then_ret, then_rt, fin_rt, fin_nx, calm_ret, bind_raise, then_raise, fin_raise, rse_eq, M.lst, lstM, getV_0, getV_s, getO_0, getO_s, List.getElem?_cons_zero, List.getElem?_cons_succ, List.set_cons_zero, List.set_cons_succ, List.length_cons, List.length_nil, List.length_map, List.length_append, bin_add, bin_sub, bin_subb, cmp_lt, cmp_le, cmp_gt, cmp_ge, cmp_eq, cmp_ne, tru_bl, tru_int, bi_lent, bi_lenl, bi_lens, bi_abs, bi_int, bi_max, bi_min, bi_tupt, bi_tupl, bi_listt, bi_listl, bi_all, bi_isi_int, bi_isi_bool, bi_isi_tup, set_s, set_t, sets_n, sets_c, par_n, par_c, aug_add, aug_sub, opt_n, opt_i, sl_t, sl_l, sl_s, rev_t, rev_l, it_t, it_l, it_s, it_et, it_el, it_zt, it_zl, wipe_n, wipe_c, ixm_t, ixm_l, setV, setO, Option.map_some, Option.bind_some, gsl, if_true, if_false, Bool.false_eq_true, reduceIte, Nat.zero_add, Nat.reduceAdd, Nat.reduceLT, SZ, Nat.reduceLeDiff, Nat.zero_le]),
    runs_ok (r1 := [.v (tl a), .v (tl b), .v (.int k), .v (tl (padL k a)), .v (tl (padL k b)), .e, .e]) (by simp only [runs, Pl.run, ev, evs, evo, evAn, evOr, evT, evTs, evTan, evTor, Pl.evF, bind_ret, bind_lift, bind_bind, lift_some, then_ret, then_rt, fin_rt, fin_nx, calm_ret, bind_raise, then_raise, fin_raise, rse_eq, M.lst, lstM, getV_0, getV_s, getO_0, getO_s, List.getElem?_cons_zero, List.getElem?_cons_succ, List.set_cons_zero, List.set_cons_succ, List.length_cons, List.length_nil, List.length_map, List.length_append, bin_add, bin_sub, bin_subb, cmp_lt, cmp_le, cmp_gt, cmp_ge, cmp_eq, cmp_ne, tru_bl, tru_int, bi_lent, bi_lenl, bi_lens, bi_abs, bi_int, bi_max, bi_min, bi_tupt, bi_tupl, bi_listt, bi_listl, bi_all, bi_isi_int, bi_isi_bool, bi_isi_tup, set_s, set_t, sets_n, sets_c, par_n, par_c, aug_add, aug_sub, opt_n, opt_i, sl_t, sl_l, sl_s, rev_t, rev_l, it_t, it_l, it_s, it_et, it_el, it_zt, it_zl, wipe_n, wipe_c, ixm_t, ixm_l, setV, setO, Option.map_some, Option.bind_some, gsl, if_true, if_false, Bool.false_eq_true, reduceIte, Nat.zero_add, Nat.reduceAdd, Nat.reduceLT, SZ, Nat.reduceLeDiff, Nat.zero_le]; rw [pad_mul k3 hb]; simp only [runs, Pl.run, ev, evs, evo, evAn, evOr, evT, evTs, evTan, evTor, Pl.evF, bind_ret, bind_lift, bind_bind, lift_some, then_ret, then_rt, fin_rt, fin_nx, calm_ret, bind_raise, then_raise, fin_raise, rse_eq, M.lst, lstM, getV_0, getV_s, getO_0, getO_s, List.getElem?_cons_zero, List.getElem?_cons_succ, List.set_cons_zero, List.set_cons_succ, List.length_cons, List.length_nil, List.length_map, List.length_append, bin_add, bin_sub, bin_subb, cmp_lt, cmp_le, cmp_gt, cmp_ge, cmp_eq, cmp_ne, tru_bl, tru_int, bi_lent, bi_lenl, bi_lens, bi_abs, bi_int, bi_max, bi_min, bi_tupt, bi_tupl, bi_listt, bi_listl, bi_all, bi_isi_int, bi_isi_bool, bi_isi_tup, set_s, set_t, sets_n, sets_c, par_n, par_c, aug_add, aug_sub, opt_n, opt_i, sl_t, sl_l, sl_s, rev_t, rev_l, it_t, it_l, it_s, it_et, it_el, it_zt, it_zl, wipe_n, wipe_c, ixm_t, ixm_l, setV, setO, Option.map_some, Option.bind_some, gsl, if_true, if_false, Bool.false_eq_true, reduceIte, Nat.zero_add, Nat.reduceAdd, Nat.reduceLT, SZ, Nat.reduceLeDiff, Nat.zero_le]; rw [pad_add b k3 hb]; simp only [runs, Pl.run, ev, evs, evo, evAn, evOr, evT, evTs, evTan, evTor, Pl.evF, bind_ret, bind_lift, bind_bind, lift_some, then_ret, then_rt, fin_rt, fin_nx, calm_ret, bind_raise, then_raise, fin_raise, rse_eq, M.lst, lstM, getV_0, getV_s, getO_0, getO_s, List.getElem?_cons_zero, List.getElem?_cons_succ, List.set_cons_zero, List.set_cons_succ, List.length_cons, List.length_nil, List.length_map, List.length_append, bin_add, bin_sub, bin_subb, cmp_lt, cmp_le, cmp_gt, cmp_ge, cmp_eq, cmp_ne, tru_bl, tru_int, bi_lent, bi_lenl, bi_lens, bi_abs, bi_int, bi_max, bi_min, bi_tupt, bi_tupl, bi_listt, bi_listl, bi_all, bi_isi_int, bi_isi_bool, bi_isi_tup, set_s, set_t, sets_n, sets_c, par_n, par_c, aug_add, aug_sub, opt_n, opt_i, sl_t, sl_l, sl_s, rev_t, rev_l, it_t, it_l, it_s, it_et, it_el, it_zt, it_zl, wipe_n, wipe_c, ixm_t, ixm_l, setV, setO, Option.map_some, Option.bind_some, gsl, if_true, if_false, Bool.false_eq_true, reduceIte, Nat.zero_add, Nat.reduceAdd, Nat.reduceLT, SZ, Nat.reduceLeDiff, Nat.zero_le])]
  simp only [runs, Pl.run, ev, evs, evo, evAn, evOr, evT, evTs, evTan, evTor, Pl.evF, bind_ret, bind_lift, bind_bind, lift_some, then_ret, then_rt, fin_rt, fin_nx, calm_ret, bind_raise, then_raise, fin_raise, rse_eq, M.lst, lstM, getV_0, getV_s, getO_0, getO_s, List.getElem?_cons_zero, List.getElem?_cons_succ, List.set_cons_zero, List.set_cons_succ, List.length_cons, List.length_nil, List.length_map, List.length_append, bin_add, bin_sub, bin_subb, cmp_lt, cmp_le, cmp_gt, cmp_ge, cmp_eq, cmp_ne, tru_bl, tru_int, bi_lent, bi_lenl, bi_lens, bi_abs, bi_int, bi_max, bi_min, bi_tupt, bi_tupl, bi_listt, bi_listl, bi_all, bi_isi_int, bi_isi_bool, bi_isi_tup, set_s, set_t, sets_n, sets_c, par_n, par_c, aug_add, aug_sub, opt_n, opt_i, sl_t, sl_l, sl_s, rev_t, rev_l, it_t, it_l, it_s, it_et, it_el, it_zt, it_zl, wipe_n, wipe_c, ixm_t, ixm_l, setV, setO, Option.map_some, Option.bind_some, gsl, if_true, if_false, Bool.false_eq_true, reduceIte, Nat.zero_add, Nat.reduceAdd, Nat.reduceLT, SZ, Nat.reduceLeDiff, Nat.zero_le]
  rw [zip_il, lcM_on _ (fun p => D.int (p.1 + p.2)) (by
    intro p hp
    simp only [runs, Pl.run, ev, evs, evo, evAn, evOr, evT, evTs, evTan, evTor, Pl.evF, bind_ret, bind_lift, bind_bind, lift_some, then_ret, then_rt, fin_rt, fin_nx, calm_ret, bind_raise, then_raise, fin_raise, rse_eq, M.lst, lstM, getV_0, getV_s, getO_0, getO_s, List.getElem?_cons_zero, List.getElem?_cons_succ, List.set_cons_zero, List.set_cons_succ, List.length_cons, List.length_nil, List.length_map, List.length_append, bin_add, bin_sub, bin_subb, cmp_lt, cmp_le, cmp_gt, cmp_ge, cmp_eq, cmp_ne, tru_bl, tru_int, bi_lent, bi_lenl, bi_lens, bi_abs, bi_int, bi_max, bi_min, bi_tupt, bi_tupl, bi_listt, bi_listl, bi_all, bi_isi_int, bi_isi_bool, bi_isi_tup, set_s, set_t, sets_n, sets_c, par_n, par_c, aug_add, aug_sub, opt_n, opt_i, sl_t, sl_l, sl_s, rev_t, rev_l, it_t, it_l, it_s, it_et, it_el, it_zt, it_zl, wipe_n, wipe_c, ixm_t, ixm_l, setV, setO, Option.map_some, Option.bind_some, gsl, if_true, if_false, Bool.false_eq_true, reduceIte, Nat.zero_add, Nat.reduceAdd, Nat.reduceLT, SZ, Nat.reduceLeDiff, Nat.zero_le])]
  simp only [runs, Pl.run, ev, evs, evo, evAn, evOr, evT, evTs, evTan, evTor, Pl.evF, bind_ret, bind_lift, bind_bind, lift_some, then_ret, then_rt, fin_rt, fin_nx, calm_ret, bind_raise, then_raise, fin_raise, rse_eq, M.lst, lstM, getV_0, getV_s, getO_0, getO_s, List.getElem?_cons_zero, List.getElem?_cons_succ, List.set_cons_zero, List.set_cons_succ, List.length_cons, List.length_nil, List.length_map, List.length_append, bin_add, bin_sub, bin_subb, cmp_lt, cmp_le, cmp_gt, cmp_ge, cmp_eq, cmp_ne, tru_bl, tru_int, bi_lent, bi_lenl, bi_lens, bi_abs, bi_int, bi_max, bi_min, bi_tupt, bi_tupl, bi_listt, bi_listl, bi_all, bi_isi_int, bi_isi_bool, bi_isi_tup, set_s, set_t, sets_n, sets_c, par_n, par_c, aug_add, aug_sub, opt_n, opt_i, sl_t, sl_l, sl_s, rev_t, rev_l, it_t, it_l, it_s, it_et, it_el, it_zt, it_zl, wipe_n, wipe_c, ixm_t, ixm_l, setV, setO, Option.map_some, Option.bind_some, gsl, if_true, if_false, Bool.false_eq_true, reduceIte, Nat.zero_add, Nat.reduceAdd, Nat.reduceLT, SZ, Nat.reduceLeDiff, Nat.zero_le]
  simp only [cfF]
  have := s13 (n := m) h (l := addL a b) (x := ll (addL a b)) (.inl rfl)
  unfold addL ll il at this
  rw [← hk, List.map_map] at this
  rw [show (fun p : Int × Int => D.int (p.1 + p.2)) = D.int ∘ (fun p : Int × Int => p.1 + p.2) from rfl, this]
  unfold addL
  rw [← hk]
  rfl
def scL (k : Int) (a : List Int) : List Int := a.map (k * ·)
/-- all small -/
def Sm (a : List Int) : Prop := ∀ x ∈ a, x.natAbs < 2 ^ 900
theorem s16 {n : Nat} (hn : 2 ≤ n) {a : List Int} {k : Int} (ha : Sm a) (hk : k.natAbs < 2 ^ 900) : G n 16 [tl a, .int k] = M.ret (tl (trimL (scL k a))) := by
  obtain ⟨m, rfl, h⟩ := pred hn
  show finM (runs (cf m) d16.body [.v (tl a), .v (.int k), .e]) = _
  unfold d16
  simp only [runs, Pl.run, ev, evs, evo, evAn, evOr, evT, evTs, evTan, evTor, Pl.evF, bind_ret, bind_lift, bind_bind, lift_some, then_ret, then_rt, fin_rt, fin_nx, calm_ret, bind_raise, then_raise, fin_raise, rse_eq, M.lst, lstM, getV_0, getV_s, getO_0, getO_s, List.getElem?_cons_zero, List.getElem?_cons_succ, List.set_cons_zero, List.set_cons_succ, List.length_cons, List.length_nil, List.length_map, List.length_append, bin_add, bin_sub, bin_subb, cmp_lt, cmp_le, cmp_gt, cmp_ge, cmp_eq, cmp_ne, tru_bl, tru_int, bi_lent, bi_lenl, bi_lens, bi_abs, bi_int, bi_max, bi_min, bi_tupt, bi_tupl, bi_listt, bi_listl, bi_all, bi_isi_int, bi_isi_bool, bi_isi_tup, set_s, set_t, sets_n, sets_c, par_n, par_c, aug_add, aug_sub, opt_n, opt_i, sl_t, sl_l, sl_s, rev_t, rev_l, it_t, it_l, it_s, it_et, it_el, it_zt, it_zl, wipe_n, wipe_c, ixm_t, ixm_l, setV, setO, Option.map_some, Option.bind_some, gsl, if_true, if_false, Bool.false_eq_true, reduceIte, Nat.zero_add, Nat.reduceAdd, Nat.reduceLT, SZ, Nat.reduceLeDiff, Nat.zero_le]
  rw [lcM_on D.int (fun x => D.int (k * x))]
  · simp only [runs, Pl.run, ev, evs, evo, evAn, evOr, evT, evTs, evTan, evTor, Pl.evF, bind_ret, bind_lift, bind_bind, lift_some, then_ret, then_rt, fin_rt, fin_nx, calm_ret, bind_raise, then_raise, fin_raise, rse_eq, M.lst, lstM, getV_0, getV_s, getO_0, getO_s, List.getElem?_cons_zero, List.getElem?_cons_succ, List.set_cons_zero, List.set_cons_succ, List.length_cons, List.length_nil, List.length_map, List.length_append, bin_add, bin_sub, bin_subb, cmp_lt, cmp_le, cmp_gt, cmp_ge, cmp_eq, cmp_ne, tru_bl, tru_int, bi_lent, bi_lenl, bi_lens, bi_abs, bi_int, bi_max, bi_min, bi_tupt, bi_tupl, bi_listt, bi_listl, bi_all, bi_isi_int, bi_isi_bool, bi_isi_tup, set_s, set_t, sets_n, sets_c, par_n, par_c, aug_add, aug_sub, opt_n, opt_i, sl_t, sl_l, sl_s, rev_t, rev_l, it_t, it_l, it_s, it_et, it_el, it_zt, it_zl, wipe_n, wipe_c, ixm_t, ixm_l, setV, setO, Option.map_some, Option.bind_some, gsl, if_true, if_false, Bool.false_eq_true, reduceIte, Nat.zero_add, Nat.reduceAdd, Nat.reduceLT, SZ, Nat.reduceLeDiff, Nat.zero_le]
    simp only [cfF]
    have := s13 (n := m) h (l := scL k a) (x := ll (scL k a)) (.inl rfl)
    unfold scL ll il at this
    rw [List.map_map] at this
    rw [show (fun x : Int => D.int (k * x)) = D.int ∘ (fun x : Int => k * x) from rfl, this]
    rfl
  · intro x hx
    rw [bin_mul, if_pos (mul_fits (Nat.lt_of_lt_of_le hk (by decide)) (Nat.lt_of_lt_of_le (ha x hx) (by decide)))]
    rfl
theorem ixN_nat {n k : Nat} (h : k < n) : ixN n (k : Int) = some k := by
  unfold ixN
  rw [if_pos (by omega), if_pos (by omega)]
  rfl
theorem ix_il {f : List Int} {k : Nat} (h : k < f.length) : ixD (.lst (il f)) (.int (k : Int)) = some (.int (f.getD k 0)) := by
  show atI (il f) (k : Int) = _
  unfold atI
  rw [ixN_nat (by simpa using h)]
  simp [List.getD_eq_getElem?_getD, List.getElem?_eq_getElem h]
theorem st_il {f : List Int} {k : Nat} (h : k < f.length) (z : Int) : stoL (il f) (.int (k : Int)) (.int z) = some (il (f.set k z)) := by
  show Pl.putAt (il f) (k : Int) (.int z) = _
  unfold Pl.putAt
  rw [ixN_nat (by simpa using h)]
  simp [List.map_set]
def stepI (at_ : Nat) (a : Int) (f : List Int) (p : Int × Nat) : List Int := f.set (at_ + p.2) (f.getD (at_ + p.2) 0 + a * p.1)
def rowI (b : List Int) (f : List Int) (q : Int × Nat) : List Int := b.zipIdx.foldl (stepI q.2 q.1) f
def mulL (a b : List Int) : List Int := if a = [] ∨ b = [] then [] else a.zipIdx.foldl (rowI b) (List.replicate (a.length + b.length - 1) 0)
theorem stepI_len (at_ : Nat) (a : Int) (f : List Int) (p : Int × Nat) : (stepI at_ a f p).length = f.length := by
  unfold stepI
  rw [List.length_set]
theorem foldI_len (at_ : Nat) (a : Int) : ∀ (l : List (Int × Nat)) (f : List Int), (l.foldl (stepI at_ a) f).length = f.length
  | [], f => rfl
  | p :: l, f => by rw [List.foldl_cons, foldI_len at_ a l, stepI_len]
theorem foldI_zero (at_ : Nat) : ∀ (l : List (Int × Nat)) (f : List Int), l.foldl (stepI at_ 0) f = f
  | [], f => rfl
  | p :: l, f => by
    rw [List.foldl_cons, foldI_zero at_ l]
    unfold stepI
    rw [Int.zero_mul, Int.add_zero]
    by_cases h : at_ + p.2 < f.length
    · rw [List.getD_eq_getElem?_getD, List.getElem?_eq_getElem h]
      simp
    · rw [List.set_eq_of_length_le (Nat.le_of_not_lt h)]
theorem mem_zipIdx {a : List Int} {p : Int × Nat} (h : p ∈ a.zipIdx) : p.2 < a.length ∧ p.1 ∈ a := by
  obtain ⟨x, i⟩ := p
  have := List.mem_zipIdx h
  refine ⟨by simpa using this.2.1, ?_⟩
  rw [this.2.2]
  exact List.getElem_mem _
theorem s18 {n : Nat} (hn : 2 ≤ n) {a b : List Int} (la : a.length ≤ 100) (lb : b.length ≤ 100) (ha : Sm a) (hb : Sm b) : G n 18 [tl a, tl b] = M.ret (tl (trimL (mulL a b))) := by
  obtain ⟨m, rfl, h⟩ := pred hn
  show finM (runs (cf m) d18.body [.v (tl a), .v (tl b), .e, .e, .e, .e, .e]) = _
  unfold d18
  by_cases he : a = [] ∨ b = []
  · have e1 : mulL a b = [] := if_pos he
    rw [e1, runs_rt (d := .tup []) (by
      rcases he with rfl | rfl
      · rfl
      · cases a <;> rfl)]
    rfl
  · have na : a ≠ [] := fun z => he (.inl z)
    have nb : b ≠ [] := fun z => he (.inr z)
    have pa : 0 < a.length := List.length_pos_iff.mpr na
    have pb : 0 < b.length := List.length_pos_iff.mpr nb
    have e1 : mulL a b = a.zipIdx.foldl (rowI b) (List.replicate (a.length + b.length - 1) 0) := if_neg he
    rw [runs_ok (r1 := [.v (tl a), .v (tl b), .e, .e, .e, .e, .e]) (by
      simp only [runs, Pl.run, ev, evs, evo, evAn, evOr, evT, evTs, evTan, evTor, Pl.evF, bind_ret, bind_lift, bind_bind, lift_some, then_ret, then_rt, fin_rt, fin_nx, calm_ret, bind_raise, then_raise, fin_raise, rse_eq, M.lst, lstM, getV_0, getV_s, getO_0, getO_s, List.getElem?_cons_zero, List.getElem?_cons_succ, List.set_cons_zero, List.set_cons_succ, List.length_cons, List.length_nil, List.length_map, List.length_append, bin_add, bin_sub, bin_subb, cmp_lt, cmp_le, cmp_gt, cmp_ge, cmp_eq, cmp_ne, tru_bl, tru_int, bi_lent, bi_lenl, bi_lens, bi_abs, bi_int, bi_max, bi_min, bi_tupt, bi_tupl, bi_listt, bi_listl, bi_all, bi_isi_int, bi_isi_bool, bi_isi_tup, set_s, set_t, sets_n, sets_c, par_n, par_c, aug_add, aug_sub, opt_n, opt_i, sl_t, sl_l, sl_s, rev_t, rev_l, it_t, it_l, it_s, it_et, it_el, it_zt, it_zl, wipe_n, wipe_c, ixm_t, ixm_l, setV, setO, Option.map_some, Option.bind_some, gsl, if_true, if_false, Bool.false_eq_true, reduceIte, Nat.zero_add, Nat.reduceAdd, Nat.reduceLT, SZ, Nat.reduceLeDiff, Nat.zero_le]
      rw [beq_false_of_ne (show (a.length : Int) ≠ 0 by omega), beq_false_of_ne (show (b.length : Int) ≠ 0 by omega)]
      rfl)]
    rw [runs_ok (r1 := [.v (tl a), .v (tl b), .o (il (List.replicate (a.length + b.length - 1) 0)), .e, .e, .e, .e]) (by
      have : binD .mul (.lst [.int 0]) (.int ((a.length : Int) + b.length - 1)) = some (ll (List.replicate (a.length + b.length - 1) 0)) := by
        rw [bin_mull, if_pos ⟨by decide, by omega, by omega⟩]
        have : ((a.length : Int) + b.length - 1).toNat = a.length + b.length - 1 := by omega
        rw [this, ← il_rep]
      simp only [runs, Pl.run, ev, evs, evo, evAn, evOr, evT, evTs, evTan, evTor, Pl.evF, bind_ret, bind_lift, bind_bind, lift_some, then_ret, then_rt, fin_rt, fin_nx, calm_ret, bind_raise, then_raise, fin_raise, rse_eq, M.lst, lstM, getV_0, getV_s, getO_0, getO_s, List.getElem?_cons_zero, List.getElem?_cons_succ, List.set_cons_zero, List.set_cons_succ, List.length_cons, List.length_nil, List.length_map, List.length_append, bin_add, bin_sub, bin_subb, cmp_lt, cmp_le, cmp_gt, cmp_ge, cmp_eq, cmp_ne, tru_bl, tru_int, bi_lent, bi_lenl, bi_lens, bi_abs, bi_int, bi_max, bi_min, bi_tupt, bi_tupl, bi_listt, bi_listl, bi_all, bi_isi_int, bi_isi_bool, bi_isi_tup, set_s, set_t, sets_n, sets_c, par_n, par_c, aug_add, aug_sub, opt_n, opt_i, sl_t, sl_l, sl_s, rev_t, rev_l, it_t, it_l, it_s, it_et, it_el, it_zt, it_zl, wipe_n, wipe_c, ixm_t, ixm_l, setV, setO, Option.map_some, Option.bind_some, gsl, if_true, if_false, Bool.false_eq_true, reduceIte, Nat.zero_add, Nat.reduceAdd, Nat.reduceLT, SZ, Nat.reduceLeDiff, Nat.zero_le]
      unfold repM
      rw [this]
      rfl)]
    obtain ⟨r', e2, x3, x4, x5, x6, rfl, hl⟩ := forM_on (g := .t [(.s 3), (.s 4)]) (b := fun r => runs (cf m) [.ite (.cmp .ne (.v 4) (.c (.int 0)))
        [.fr (.t [(.s 5), (.s 6)]) .enum [(.v 1)]
          [.stoa 2 .add (.bin .add (.v 3) (.v 5)) (.bin .mul (.v 4) (.v 6))]]
        []] r) (stp := rowI b) (fun p : Int × Nat => D.tup [.int p.2, .int p.1]) (fun f r => ∃ x3 x4 x5 x6, r = [.v (tl a), .v (tl b), .o (il f), x3, x4, x5, x6] ∧ f.length = a.length + b.length - 1) a.zipIdx (List.replicate (a.length + b.length - 1) 0) [.v (tl a), .v (tl b), .o (il (List.replicate (a.length + b.length - 1) 0)), .e, .e, .e, .e] (fun f r p hp ⟨x3, x4, x5, x6, er, hf⟩ => by
          subst er
          obtain ⟨hp1, hp2⟩ := mem_zipIdx hp
          refine ⟨[.v (tl a), .v (tl b), .o (il f), .v (.int p.2), .v (.int p.1), x5, x6], rfl, ?_⟩
          by_cases h0 : p.1 = 0
          · refine ⟨[.v (tl a), .v (tl b), .o (il f), .v (.int p.2), .v (.int p.1), x5, x6], ?_, .v (.int p.2), .v (.int p.1), x5, x6, ?_, ?_⟩
            · rw [h0]
              rfl
            · unfold rowI
              rw [h0, foldI_zero]
            · unfold rowI
              rw [foldI_len]
              exact hf
          · obtain ⟨r2, e3, y5, y6, rfl, hl2⟩ := forM_on (g := .t [(.s 5), (.s 6)]) (b := fun r => runs (cf m) [.stoa 2 .add (.bin .add (.v 3) (.v 5)) (.bin .mul (.v 4) (.v 6))] r) (stp := stepI p.2 p.1) (fun q : Int × Nat => D.tup [.int q.2, .int q.1]) (fun f r => ∃ y5 y6, r = [.v (tl a), .v (tl b), .o (il f), .v (.int p.2), .v (.int p.1), y5, y6] ∧ f.length = a.length + b.length - 1) b.zipIdx f [.v (tl a), .v (tl b), .o (il f), .v (.int p.2), .v (.int p.1), x5, x6] (fun f r q hq ⟨y5, y6, er, hf⟩ => by
              subst er
              obtain ⟨hq1, hq2⟩ := mem_zipIdx hq
              refine ⟨[.v (tl a), .v (tl b), .o (il f), .v (.int p.2), .v (.int p.1), .v (.int q.2), .v (.int q.1)], rfl, [.v (tl a), .v (tl b), .o (il (stepI p.2 p.1 f q)), .v (.int p.2), .v (.int p.1), .v (.int q.2), .v (.int q.1)], ?_, _, _, rfl, by rw [stepI_len]; exact hf⟩
              have hk : p.2 + q.2 < f.length := by omega
              have ei : ((p.2 : Int) + (q.2 : Int)) = ((p.2 + q.2 : Nat) : Int) := by omega
              simp only [runs, Pl.run, ev, evs, evo, evAn, evOr, evT, evTs, evTan, evTor, Pl.evF, bind_ret, bind_lift, bind_bind, lift_some, then_ret, then_rt, fin_rt, fin_nx, calm_ret, bind_raise, then_raise, fin_raise, rse_eq, M.lst, lstM, getV_0, getV_s, getO_0, getO_s, List.getElem?_cons_zero, List.getElem?_cons_succ, List.set_cons_zero, List.set_cons_succ, List.length_cons, List.length_nil, List.length_map, List.length_append, bin_add, bin_sub, bin_subb, cmp_lt, cmp_le, cmp_gt, cmp_ge, cmp_eq, cmp_ne, tru_bl, tru_int, bi_lent, bi_lenl, bi_lens, bi_abs, bi_int, bi_max, bi_min, bi_tupt, bi_tupl, bi_listt, bi_listl, bi_all, bi_isi_int, bi_isi_bool, bi_isi_tup, set_s, set_t, sets_n, sets_c, par_n, par_c, aug_add, aug_sub, opt_n, opt_i, sl_t, sl_l, sl_s, rev_t, rev_l, it_t, it_l, it_s, it_et, it_el, it_zt, it_zl, wipe_n, wipe_c, ixm_t, ixm_l, setV, setO, Option.map_some, Option.bind_some, gsl, if_true, if_false, Bool.false_eq_true, reduceIte, Nat.zero_add, Nat.reduceAdd, Nat.reduceLT, SZ, Nat.reduceLeDiff, Nat.zero_le]
              rw [ei, ix_il hk]
              simp only [runs, Pl.run, ev, evs, evo, evAn, evOr, evT, evTs, evTan, evTor, Pl.evF, bind_ret, bind_lift, bind_bind, lift_some, then_ret, then_rt, fin_rt, fin_nx, calm_ret, bind_raise, then_raise, fin_raise, rse_eq, M.lst, lstM, getV_0, getV_s, getO_0, getO_s, List.getElem?_cons_zero, List.getElem?_cons_succ, List.set_cons_zero, List.set_cons_succ, List.length_cons, List.length_nil, List.length_map, List.length_append, bin_add, bin_sub, bin_subb, cmp_lt, cmp_le, cmp_gt, cmp_ge, cmp_eq, cmp_ne, tru_bl, tru_int, bi_lent, bi_lenl, bi_lens, bi_abs, bi_int, bi_max, bi_min, bi_tupt, bi_tupl, bi_listt, bi_listl, bi_all, bi_isi_int, bi_isi_bool, bi_isi_tup, set_s, set_t, sets_n, sets_c, par_n, par_c, aug_add, aug_sub, opt_n, opt_i, sl_t, sl_l, sl_s, rev_t, rev_l, it_t, it_l, it_s, it_et, it_el, it_zt, it_zl, wipe_n, wipe_c, ixm_t, ixm_l, setV, setO, Option.map_some, Option.bind_some, gsl, if_true, if_false, Bool.false_eq_true, reduceIte, Nat.zero_add, Nat.reduceAdd, Nat.reduceLT, SZ, Nat.reduceLeDiff, Nat.zero_le]
              rw [bin_mul, if_pos (mul_fits (Nat.lt_of_lt_of_le (ha _ hp2) (by decide)) (Nat.lt_of_lt_of_le (hb _ hq2) (by decide)))]
              simp only [runs, Pl.run, ev, evs, evo, evAn, evOr, evT, evTs, evTan, evTor, Pl.evF, bind_ret, bind_lift, bind_bind, lift_some, then_ret, then_rt, fin_rt, fin_nx, calm_ret, bind_raise, then_raise, fin_raise, rse_eq, M.lst, lstM, getV_0, getV_s, getO_0, getO_s, List.getElem?_cons_zero, List.getElem?_cons_succ, List.set_cons_zero, List.set_cons_succ, List.length_cons, List.length_nil, List.length_map, List.length_append, bin_add, bin_sub, bin_subb, cmp_lt, cmp_le, cmp_gt, cmp_ge, cmp_eq, cmp_ne, tru_bl, tru_int, bi_lent, bi_lenl, bi_lens, bi_abs, bi_int, bi_max, bi_min, bi_tupt, bi_tupl, bi_listt, bi_listl, bi_all, bi_isi_int, bi_isi_bool, bi_isi_tup, set_s, set_t, sets_n, sets_c, par_n, par_c, aug_add, aug_sub, opt_n, opt_i, sl_t, sl_l, sl_s, rev_t, rev_l, it_t, it_l, it_s, it_et, it_el, it_zt, it_zl, wipe_n, wipe_c, ixm_t, ixm_l, setV, setO, Option.map_some, Option.bind_some, gsl, if_true, if_false, Bool.false_eq_true, reduceIte, Nat.zero_add, Nat.reduceAdd, Nat.reduceLT, SZ, Nat.reduceLeDiff, Nat.zero_le]
              rw [st_il hk]
              rfl) ⟨_, _, rfl, hf⟩
            refine ⟨[.v (tl a), .v (tl b), .o (il (rowI b f p)), .v (.int p.2), .v (.int p.1), y5, y6], ?_, .v (.int p.2), .v (.int p.1), y5, y6, rfl, hl2⟩
            have hb0 : (!(p.1 == 0)) = true := by simpa using h0
            exact runs_ok ((ite_t (by simp only [runs, Pl.run, ev, evs, evo, evAn, evOr, evT, evTs, evTan, evTor, Pl.evF, bind_ret, bind_lift, bind_bind, lift_some, then_ret, then_rt, fin_rt, fin_nx, calm_ret, bind_raise, then_raise, fin_raise, rse_eq, M.lst, lstM, getV_0, getV_s, getO_0, getO_s, List.getElem?_cons_zero, List.getElem?_cons_succ, List.set_cons_zero, List.set_cons_succ, List.length_cons, List.length_nil, List.length_map, List.length_append, bin_add, bin_sub, bin_subb, cmp_lt, cmp_le, cmp_gt, cmp_ge, cmp_eq, cmp_ne, tru_bl, tru_int, bi_lent, bi_lenl, bi_lens, bi_abs, bi_int, bi_max, bi_min, bi_tupt, bi_tupl, bi_listt, bi_listl, bi_all, bi_isi_int, bi_isi_bool, bi_isi_tup, set_s, set_t, sets_n, sets_c, par_n, par_c, aug_add, aug_sub, opt_n, opt_i, sl_t, sl_l, sl_s, rev_t, rev_l, it_t, it_l, it_s, it_et, it_el, it_zt, it_zl, wipe_n, wipe_c, ixm_t, ixm_l, setV, setO, Option.map_some, Option.bind_some, gsl, if_true, if_false, Bool.false_eq_true, reduceIte, Nat.zero_add, Nat.reduceAdd, Nat.reduceLT, SZ, Nat.reduceLeDiff, Nat.zero_le]; rw [hb0])).trans (runs_ok ((fr_ok (xs := [tl b]) rfl (by rw [it_et, enum_il])).trans e3)))) ⟨_, _, _, _, rfl, by simp⟩
    rw [runs_ok ((fr_ok (xs := [tl a]) rfl (by rw [it_et, enum_il])).trans e2), ← e1, runs_ok (r1 := [.v (tl a), .v (tl b), .v (ll (mulL a b)), x3, x4, x5, x6]) (by rfl)]
    simp only [runs, Pl.run, ev, evs, evo, evAn, evOr, evT, evTs, evTan, evTor, Pl.evF, bind_ret, bind_lift, bind_bind, lift_some, then_ret, then_rt, fin_rt, fin_nx, calm_ret, bind_raise, then_raise, fin_raise, rse_eq, M.lst, lstM, getV_0, getV_s, getO_0, getO_s, List.getElem?_cons_zero, List.getElem?_cons_succ, List.set_cons_zero, List.set_cons_succ, List.length_cons, List.length_nil, List.length_map, List.length_append, bin_add, bin_sub, bin_subb, cmp_lt, cmp_le, cmp_gt, cmp_ge, cmp_eq, cmp_ne, tru_bl, tru_int, bi_lent, bi_lenl, bi_lens, bi_abs, bi_int, bi_max, bi_min, bi_tupt, bi_tupl, bi_listt, bi_listl, bi_all, bi_isi_int, bi_isi_bool, bi_isi_tup, set_s, set_t, sets_n, sets_c, par_n, par_c, aug_add, aug_sub, opt_n, opt_i, sl_t, sl_l, sl_s, rev_t, rev_l, it_t, it_l, it_s, it_et, it_el, it_zt, it_zl, wipe_n, wipe_c, ixm_t, ixm_l, setV, setO, Option.map_some, Option.bind_some, gsl, if_true, if_false, Bool.false_eq_true, reduceIte, Nat.zero_add, Nat.reduceAdd, Nat.reduceLT, SZ, Nat.reduceLeDiff, Nat.zero_le]
    simp only [cfF]
    rw [s13 h (.inl rfl)]
    rfl
end Md

-- part V2
set_option maxHeartbeats 4000000
set_option exponentiation.threshold 3000
namespace Md
open PySem PySem.Spec PyProof.Rows L2 Pl
/-! ### rows by their coefficients -/
def co (l : List Int) (i : Nat) : Int := l.getD i 0
theorem co_nil (i : Nat) : co [] i = 0 := by simp [co]
theorem co_big {l : List Int} {i : Nat} (h : l.length ≤ i) : co l i = 0 := by simp [co, List.getD_eq_getElem?_getD, List.getElem?_eq_none h]
theorem co_get {l : List Int} {i : Nat} (h : i < l.length) : co l i = l[i] := by simp [co, List.getD_eq_getElem?_getD, List.getElem?_eq_getElem h]
theorem co_app (l m : List Int) (i : Nat) : co (l ++ m) i = if i < l.length then co l i else co m (i - l.length) := by
  unfold co
  by_cases h : i < l.length
  · rw [if_pos h, List.getD_eq_getElem?_getD, List.getD_eq_getElem?_getD, List.getElem?_append_left h]
  · rw [if_neg h, List.getD_eq_getElem?_getD, List.getD_eq_getElem?_getD, List.getElem?_append_right (Nat.le_of_not_lt h)]
theorem co_rep (n i : Nat) : co (List.replicate n 0) i = 0 := by
  by_cases h : i < n
  · rw [co_get (by simpa using h)]
    simp
  · exact co_big (by simpa using h)
theorem trim_split (l : List Int) : l = trimL l ++ List.replicate (l.length - (trimL l).length) 0 := by
  have e : l = (l.reverse.takeWhile (· == 0) ++ l.reverse.dropWhile (· == 0)).reverse := by rw [List.takeWhile_append_dropWhile, List.reverse_reverse]
  rw [List.reverse_append] at e
  have z : (l.reverse.takeWhile (· == 0)).reverse = List.replicate (l.length - (trimL l).length) 0 := by
    apply List.eq_replicate_iff.mpr
    refine ⟨?_, fun x hx => ?_⟩
    · have := congrArg List.length e
      rw [List.length_append] at this
      unfold trimL
      omega
    · have := List.all_eq_true.mp (List.all_takeWhile (p := fun x : Int => x == 0) (l := l.reverse)) x (List.mem_reverse.mp hx)
      simpa using this
  rw [z] at e
  exact e
theorem co_trim (l : List Int) (i : Nat) : co (trimL l) i = co l i := by
  have e : co l i = co (trimL l ++ List.replicate (l.length - (trimL l).length) 0) i := by rw [← trim_split]
  rw [e, co_app]
  split
  · rfl
  · rename_i h
    rw [co_rep, co_big (Nat.le_of_not_lt h)]
theorem trim_last (l : List Int) (h : trimL l ≠ []) : (trimL l).getLast h ≠ 0 := by
  unfold trimL at h ⊢
  have h2 : l.reverse.dropWhile (· == 0) ≠ [] := fun z => h (by rw [z]; rfl)
  have := List.head_dropWhile_not (fun x : Int => x == 0) h2
  rw [List.getLast_reverse]
  simpa using this
theorem trim_ext {a b : List Int} (h : ∀ i, co a i = co b i) : trimL a = trimL b := by
  have key : ∀ a b : List Int, (∀ i, co a i = co b i) → (trimL a).length ≤ (trimL b).length := fun a b h => by
    by_cases e : trimL a = []
    · rw [e]
      exact Nat.zero_le _
    · have hp : 0 < (trimL a).length := List.length_pos_iff.mpr e
      have hl := trim_last a e
      rw [List.getLast_eq_getElem, ← co_get (by omega), co_trim, h, ← co_trim] at hl
      apply Classical.byContradiction
      intro hc
      exact hl (co_big (by omega))
  have hl : (trimL a).length = (trimL b).length := Nat.le_antisymm (key a b h) (key b a fun i => (h i).symm)
  apply List.ext_getElem hl
  intro i h1 h2
  rw [← co_get h1, ← co_get h2, co_trim, co_trim, h]
theorem trim_trim (a : List Int) : trimL (trimL a) = trimL a := trim_ext fun i => co_trim a i
theorem co_add (a b : List Int) (i : Nat) : co (addL a b) i = co a i + co b i := by
  have pc : ∀ (c : List Int) (k : Nat), co (padL k c) i = co c i := fun c k => by
    unfold padL
    rw [co_app]
    split
    · rfl
    · rename_i h
      rw [co_rep, co_big (Nat.le_of_not_lt h)]
  have pl : ∀ (c : List Int) (k : Nat), c.length ≤ k → (padL k c).length = k := fun c k h => by
    unfold padL
    simp
    omega
  rw [← pc a (max a.length b.length), ← pc b (max a.length b.length)]
  have l1 := pl a (max a.length b.length) (by omega)
  have l2 := pl b (max a.length b.length) (by omega)
  unfold addL
  by_cases h : i < max a.length b.length
  · rw [co_get (by simp [l1, l2]; omega), co_get (by omega), co_get (by omega)]
    simp
  · rw [co_big (by simp [l1, l2]; omega), co_big (by omega), co_big (by omega)]
    rfl
theorem co_sc (k : Int) (a : List Int) (i : Nat) : co (scL k a) i = k * co a i := by
  unfold scL
  by_cases h : i < a.length
  · rw [co_get (by simpa using h), co_get h]
    simp
  · rw [co_big (by simpa using h), co_big (by omega), Int.mul_zero]
/-- Σ over j < n -/
def sumN (g : Nat → Int) : Nat → Int
  | 0 => 0
  | n + 1 => sumN g n + g n
theorem sumN_ext {g h : Nat → Int} : ∀ {n : Nat}, (∀ j, j < n → g j = h j) → sumN g n = sumN h n
  | 0, _ => rfl
  | n + 1, e => by
    rw [sumN, sumN, sumN_ext fun j hj => e j (by omega), e n (by omega)]
theorem sumN_tail {g : Nat → Int} {n : Nat} (h : ∀ j, n ≤ j → g j = 0) : ∀ k, sumN g (n + k) = sumN g n
  | 0 => rfl
  | k + 1 => by
    rw [← Nat.add_assoc, sumN, sumN_tail h k, h _ (by omega), Int.add_zero]
theorem sumN_succ' (g : Nat → Int) : ∀ n, sumN g (n + 1) = g 0 + sumN (fun j => g (j + 1)) n
  | 0 => by simp [sumN]
  | n + 1 => by
    rw [sumN, sumN_succ' g n, sumN]
    omega
def cb (b : List Int) (i k : Nat) : Int := if k ≤ i then co b (i - k) else 0
theorem co_set {f : List Int} {k : Nat} (h : k < f.length) (d : Int) (i : Nat) : co (f.set k (f.getD k 0 + d)) i = co f i + if i = k then d else 0 := by
  unfold co
  rw [List.getD_eq_getElem?_getD, List.getElem?_set]
  by_cases e : i = k
  · subst e
    rw [if_pos rfl, if_pos rfl, if_pos h]
    rfl
  · rw [if_neg (fun z => e z.symm), if_neg e, Int.add_zero, ← List.getD_eq_getElem?_getD]
theorem co_row (at_ : Nat) (a : Int) (i : Nat) : ∀ (b : List Int) (f : List Int) (k : Nat), at_ + k + b.length ≤ f.length → co ((b.zipIdx k).foldl (stepI at_ a) f) i = co f i + a * cb b i (at_ + k)
  | [], f, k, h => by
    have : cb [] i (at_ + k) = 0 := by unfold cb; rw [co_nil]; simp
    rw [this]
    simp
  | x :: b, f, k, h => by
    have hl : b.length + 1 = (x :: b).length := rfl
    rw [List.zipIdx_cons, List.foldl_cons, co_row at_ a i b _ (k + 1) (by rw [stepI_len]; omega)]
    have e1 : co (stepI at_ a f (x, k)) i = co f i + if i = at_ + k then a * x else 0 := co_set (by omega) _ _
    rw [e1]
    unfold cb
    by_cases h1 : i = at_ + k
    · subst h1
      rw [if_pos rfl, if_neg (by omega), if_pos (Nat.le_refl _), Nat.sub_self]
      simp [co]
    · rw [if_neg h1]
      by_cases h2 : at_ + k ≤ i
      · rw [if_pos (by omega), if_pos h2]
        obtain ⟨j, rfl⟩ : ∃ j, i = at_ + k + 1 + j := ⟨i - (at_ + k + 1), by omega⟩
        have e2 : at_ + k + 1 + j - (at_ + (k + 1)) = j := by omega
        have e3 : at_ + k + 1 + j - (at_ + k) = j + 1 := by omega
        rw [e2, e3]
        simp [co]
      · rw [if_neg (by omega), if_neg h2]
        simp
theorem rowI_len (b f : List Int) (q : Int × Nat) : (rowI b f q).length = f.length := foldI_len _ _ _ _
theorem co_rows (b : List Int) (i : Nat) : ∀ (a f : List Int) (k : Nat), k + a.length + b.length ≤ f.length + 1 → co ((a.zipIdx k).foldl (rowI b) f) i = co f i + sumN (fun j => co a j * cb b i (k + j)) a.length
  | [], f, k, h => by simp [sumN]
  | x :: a, f, k, h => by
    have hl : a.length + 1 = (x :: a).length := rfl
    rw [List.zipIdx_cons, List.foldl_cons, co_rows b i a _ (k + 1) (by rw [rowI_len]; omega)]
    have e1 : co (rowI b f (x, k)) i = co f i + x * cb b i k := co_row k x i b f 0 (by omega)
    rw [e1, ← hl, sumN_succ']
    have e2 : sumN (fun j => co a j * cb b i (k + 1 + j)) a.length = sumN (fun j => co (x :: a) (j + 1) * cb b i (k + (j + 1))) a.length := sumN_ext fun j _ => by
      have : k + 1 + j = k + (j + 1) := by omega
      rw [this]
      simp [co]
    rw [e2]
    have e3 : co (x :: a) 0 = x := by simp [co]
    rw [e3, Nat.add_zero, Int.add_assoc]
theorem co_mul (a b : List Int) (i : Nat) : co (mulL a b) i = sumN (fun j => co a j * cb b i j) a.length := by
  unfold mulL
  split
  · rename_i h
    rw [co_nil]
    rcases h with rfl | rfl
    · rfl
    · have : ∀ n, sumN (fun j => co a j * cb [] i j) n = 0 := fun n => by
        induction n with
        | zero => rfl
        | succ n ih =>
          rw [sumN, ih]
          unfold cb
          simp [co_nil]
      rw [this]
  · rename_i h
    have pb : 0 < b.length := List.length_pos_iff.mpr fun z => h (.inr z)
    have pa : 0 < a.length := List.length_pos_iff.mpr fun z => h (.inl z)
    rw [co_rows b i a _ 0 (by simp; omega), co_rep, Int.zero_add]
    exact sumN_ext fun j _ => by rw [Nat.zero_add]
theorem co_mul_n (a b : List Int) (i n : Nat) (h : a.length ≤ n) : co (mulL a b) i = sumN (fun j => co a j * cb b i j) n := by
  rw [co_mul]
  obtain ⟨k, rfl⟩ := Nat.le.dest h
  exact (sumN_tail (fun j hj => by rw [co_big hj, Int.zero_mul]) k).symm
theorem mul_trim (a b : List Int) : trimL (mulL (trimL a) b) = trimL (mulL a b) := trim_ext fun i => by
  rw [co_mul_n (trimL a) b i a.length (trimL_len a), co_mul]
  exact sumN_ext fun j _ => by rw [co_trim]
/-- times a linear factor -/
theorem co_lin (a : List Int) (c0 c1 : Int) (i : Nat) : co (mulL a [c0, c1]) i = co a i * c0 + (if i = 0 then 0 else co a (i - 1)) * c1 := by
  rw [co_mul_n a _ i (a.length + i + 2) (by omega)]
  have z : ∀ n m : Nat, sumN (fun j => co a j * cb [c0, c1] i j) n = (if i < n then co a i * c0 else 0) + (if 0 < i ∧ i - 1 < n then co a (i - 1) * c1 else 0) := fun n m => by
    induction n with
    | zero => simp [sumN]
    | succ n ih =>
      rw [sumN, ih]
      by_cases h1 : n = i
      · subst h1
        have : cb [c0, c1] n n = c0 := by simp [cb, co]
        rw [this]
        rcases Nat.eq_zero_or_pos n with h2 | h2
        · subst h2
          simp
        · have a1 : n - 1 < n := by omega
          have a2 : n - 1 < n + 1 := by omega
          simp [h2, a1, a2]
          omega
      · by_cases h3 : n + 1 = i
        · subst h3
          have : cb [c0, c1] (n + 1) n = c1 := by simp [cb, co]
          rw [this, if_neg (by omega), if_neg (by omega), if_neg (by omega), if_pos ⟨by omega, by omega⟩]
          simp
        · have : cb [c0, c1] i n = 0 := by
            unfold cb
            split
            · exact co_big (by simp; omega)
            · rfl
          rw [this, Int.mul_zero, Int.add_zero]
          congr 1
          · by_cases q : i < n
            · rw [if_pos q, if_pos (by omega)]
            · rw [if_neg q, if_neg (by omega)]
          · by_cases q : 0 < i ∧ i - 1 < n
            · rw [if_pos q, if_pos ⟨q.1, by omega⟩]
            · rw [if_neg q, if_neg (by omega)]
  rw [z _ 0, if_pos (by omega)]
  by_cases h : i = 0
  · rw [if_neg (by omega), if_pos h]
    simp
  · rw [if_pos ⟨by omega, by omega⟩, if_neg h]
/-! ### values -/
def val (l : List Int) (x : Int) : Int := l.foldr (fun a r => a + x * r) 0
theorem val_app (l m : List Int) (x : Int) : val (l ++ m) x = val l x + x ^ l.length * val m x := by
  induction l with
  | nil => simp [val]
  | cons a l ih =>
    have : val (a :: l ++ m) x = a + x * val (l ++ m) x := rfl
    rw [this, ih]
    have : val (a :: l) x = a + x * val l x := rfl
    rw [this, List.length_cons, Int.pow_succ, Int.mul_add, Int.add_assoc, Int.mul_comm (x ^ l.length) x, Int.mul_assoc]
theorem val_rep (n : Nat) (x : Int) : val (List.replicate n 0) x = 0 := by
  induction n with
  | zero => rfl
  | succ n ih =>
    have : val (List.replicate (n + 1) 0) x = 0 + x * val (List.replicate n 0) x := rfl
    rw [this, ih]
    simp
theorem val_trim (l : List Int) (x : Int) : val (trimL l) x = val l x := by
  have e : val l x = val (trimL l ++ List.replicate (l.length - (trimL l).length) 0) x := by rw [← trim_split]
  rw [e, val_app, val_rep]
  simp
end Md

-- part V3
set_option maxHeartbeats 4000000
set_option exponentiation.threshold 3000
namespace Pl
open PySem PySem.Spec PyProof.Rows L2
theorem forM_pre {α : Type} {g : Pg} {b : Rho → M Fl} (h : α → D) (I : List α → Rho → Prop) : ∀ (l pre : List α) (r : Rho), (∀ p a s r, p ++ a :: s = pre ++ l → I p r → ∃ r1, setG g (h a) r = some r1 ∧ ∃ r2, b r1 = M.ret (.nx r2) ∧ I (p ++ [a]) r2) → I pre r → ∃ r', Pl.forM g b (l.map h) r = M.ret (.nx r') ∧ I (pre ++ l) r'
  | [], pre, r, _, h0 => ⟨r, rfl, by rw [List.append_nil]; exact h0⟩
  | a :: l, pre, r, hs, h0 => by
    obtain ⟨r1, e1, r2, e2, h2⟩ := hs pre a l r rfl h0
    obtain ⟨r', e3, h3⟩ := forM_pre h I l (pre ++ [a]) r2 (fun p a' s r' e => hs p a' s r' (by rw [e]; simp)) h2
    refine ⟨r', ?_, by simpa using h3⟩
    show M.bind (M.lift (setG g (h a) r)) _ = _
    rw [e1]
    show M.bind (b r1) _ = _
    rw [e2]
    exact e3
end Pl
namespace Md
open PySem PySem.Spec PyProof.Rows L2 Pl
/-- small enough for a row -/
def Bd (m : Nat) (l : List Int) : Prop := ∀ x ∈ l, x.natAbs ≤ m
theorem abs_le (x : Int) : decide ((if x < 0 then -x else x) ≤ 1000000) = decide (x.natAbs ≤ 1000000) := by
  apply decide_eq_decide.mpr
  split <;> omega
theorem s11 {n : Nat} (hn : 2 ≤ n) {l : List Int} (hl : l.length ≤ 9) (hb : Bd 1000000 l) : G n 11 [tl l] = M.ret (.bl (decide (trimL l = l))) := by
  obtain ⟨m, rfl, h⟩ := pred hn
  show finM (runs (cf m) d11.body [.v (tl l), .e]) = _
  unfold d11
  have first : evT (cf m) (.or [(.nt (.tv (.call 2 [(.v 0), (.c (.int 0)), (.bin .add (.c (.int 8)) (.c (.int 1)))]))), (.nt (.tv (.bi .all [(.lc (.s 1) .seq [(.v 0)] [] (.an [(.call 0 [(.v 1)]), (.cmp .le (.bi .abs [(.v 1)]) (.c (.int 1000000)))]) [1])])))]) [.v (tl l), .e] = M.ret false := by
    simp only [runs, Pl.run, ev, evs, evo, evAn, evOr, evT, evTs, evTan, evTor, Pl.evF, bind_ret, bind_lift, bind_bind, lift_some, then_ret, then_rt, fin_rt, fin_nx, calm_ret, bind_raise, then_raise, fin_raise, rse_eq, M.lst, lstM, getV_0, getV_s, getO_0, getO_s, List.getElem?_cons_zero, List.getElem?_cons_succ, List.set_cons_zero, List.set_cons_succ, List.length_cons, List.length_nil, List.length_map, List.length_append, bin_add, bin_sub, bin_subb, cmp_lt, cmp_le, cmp_gt, cmp_ge, cmp_eq, cmp_ne, tru_bl, tru_int, bi_lent, bi_lenl, bi_lens, bi_abs, bi_int, bi_max, bi_min, bi_tupt, bi_tupl, bi_listt, bi_listl, bi_all, bi_isi_int, bi_isi_bool, bi_isi_tup, set_s, set_t, sets_n, sets_c, par_n, par_c, aug_add, aug_sub, opt_n, opt_i, sl_t, sl_l, sl_s, rev_t, rev_l, it_t, it_l, it_s, it_et, it_el, it_zt, it_zl, wipe_n, wipe_c, ixm_t, ixm_l, setV, setO, Option.map_some, Option.bind_some, gsl, if_true, if_false, Bool.false_eq_true, reduceIte, Nat.zero_add, Nat.reduceAdd, Nat.reduceLT, SZ, Nat.reduceLeDiff, Nat.zero_le]
    simp only [cfF]
    rw [s2 h]
    simp only [runs, Pl.run, ev, evs, evo, evAn, evOr, evT, evTs, evTan, evTor, Pl.evF, bind_ret, bind_lift, bind_bind, lift_some, then_ret, then_rt, fin_rt, fin_nx, calm_ret, bind_raise, then_raise, fin_raise, rse_eq, M.lst, lstM, getV_0, getV_s, getO_0, getO_s, List.getElem?_cons_zero, List.getElem?_cons_succ, List.set_cons_zero, List.set_cons_succ, List.length_cons, List.length_nil, List.length_map, List.length_append, bin_add, bin_sub, bin_subb, cmp_lt, cmp_le, cmp_gt, cmp_ge, cmp_eq, cmp_ne, tru_bl, tru_int, bi_lent, bi_lenl, bi_lens, bi_abs, bi_int, bi_max, bi_min, bi_tupt, bi_tupl, bi_listt, bi_listl, bi_all, bi_isi_int, bi_isi_bool, bi_isi_tup, set_s, set_t, sets_n, sets_c, par_n, par_c, aug_add, aug_sub, opt_n, opt_i, sl_t, sl_l, sl_s, rev_t, rev_l, it_t, it_l, it_s, it_et, it_el, it_zt, it_zl, wipe_n, wipe_c, ixm_t, ixm_l, setV, setO, Option.map_some, Option.bind_some, gsl, if_true, if_false, Bool.false_eq_true, reduceIte, Nat.zero_add, Nat.reduceAdd, Nat.reduceLT, SZ, Nat.reduceLeDiff, Nat.zero_le]
    rw [decide_eq_true (show (0 : Int) ≤ (l.length : Int) by omega), decide_eq_true (show (l.length : Int) ≤ 8 + 1 by omega)]
    rw [show (!(true && true)) = false from rfl]
    simp only [runs, Pl.run, ev, evs, evo, evAn, evOr, evT, evTs, evTan, evTor, Pl.evF, bind_ret, bind_lift, bind_bind, lift_some, then_ret, then_rt, fin_rt, fin_nx, calm_ret, bind_raise, then_raise, fin_raise, rse_eq, M.lst, lstM, getV_0, getV_s, getO_0, getO_s, List.getElem?_cons_zero, List.getElem?_cons_succ, List.set_cons_zero, List.set_cons_succ, List.length_cons, List.length_nil, List.length_map, List.length_append, bin_add, bin_sub, bin_subb, cmp_lt, cmp_le, cmp_gt, cmp_ge, cmp_eq, cmp_ne, tru_bl, tru_int, bi_lent, bi_lenl, bi_lens, bi_abs, bi_int, bi_max, bi_min, bi_tupt, bi_tupl, bi_listt, bi_listl, bi_all, bi_isi_int, bi_isi_bool, bi_isi_tup, set_s, set_t, sets_n, sets_c, par_n, par_c, aug_add, aug_sub, opt_n, opt_i, sl_t, sl_l, sl_s, rev_t, rev_l, it_t, it_l, it_s, it_et, it_el, it_zt, it_zl, wipe_n, wipe_c, ixm_t, ixm_l, setV, setO, Option.map_some, Option.bind_some, gsl, if_true, if_false, Bool.false_eq_true, reduceIte, Nat.zero_add, Nat.reduceAdd, Nat.reduceLT, SZ, Nat.reduceLeDiff, Nat.zero_le]
    rw [lcM_on D.int (fun x => D.bl (decide (x.natAbs ≤ 1000000)))]
    · simp only [runs, Pl.run, ev, evs, evo, evAn, evOr, evT, evTs, evTan, evTor, Pl.evF, bind_ret, bind_lift, bind_bind, lift_some, then_ret, then_rt, fin_rt, fin_nx, calm_ret, bind_raise, then_raise, fin_raise, rse_eq, M.lst, lstM, getV_0, getV_s, getO_0, getO_s, List.getElem?_cons_zero, List.getElem?_cons_succ, List.set_cons_zero, List.set_cons_succ, List.length_cons, List.length_nil, List.length_map, List.length_append, bin_add, bin_sub, bin_subb, cmp_lt, cmp_le, cmp_gt, cmp_ge, cmp_eq, cmp_ne, tru_bl, tru_int, bi_lent, bi_lenl, bi_lens, bi_abs, bi_int, bi_max, bi_min, bi_tupt, bi_tupl, bi_listt, bi_listl, bi_all, bi_isi_int, bi_isi_bool, bi_isi_tup, set_s, set_t, sets_n, sets_c, par_n, par_c, aug_add, aug_sub, opt_n, opt_i, sl_t, sl_l, sl_s, rev_t, rev_l, it_t, it_l, it_s, it_et, it_el, it_zt, it_zl, wipe_n, wipe_c, ixm_t, ixm_l, setV, setO, Option.map_some, Option.bind_some, gsl, if_true, if_false, Bool.false_eq_true, reduceIte, Nat.zero_add, Nat.reduceAdd, Nat.reduceLT, SZ, Nat.reduceLeDiff, Nat.zero_le]
      rw [bools_map]
      have : (l.map fun x => decide (x.natAbs ≤ 1000000)).all id = true := by
        rw [List.all_map, List.all_eq_true]
        intro x hx
        simpa using hb x hx
      simp only [Option.map_some, this]
      rfl
    · intro x hx
      rw [s0 h]
      simp only [runs, Pl.run, ev, evs, evo, evAn, evOr, evT, evTs, evTan, evTor, Pl.evF, bind_ret, bind_lift, bind_bind, lift_some, then_ret, then_rt, fin_rt, fin_nx, calm_ret, bind_raise, then_raise, fin_raise, rse_eq, M.lst, lstM, getV_0, getV_s, getO_0, getO_s, List.getElem?_cons_zero, List.getElem?_cons_succ, List.set_cons_zero, List.set_cons_succ, List.length_cons, List.length_nil, List.length_map, List.length_append, bin_add, bin_sub, bin_subb, cmp_lt, cmp_le, cmp_gt, cmp_ge, cmp_eq, cmp_ne, tru_bl, tru_int, bi_lent, bi_lenl, bi_lens, bi_abs, bi_int, bi_max, bi_min, bi_tupt, bi_tupl, bi_listt, bi_listl, bi_all, bi_isi_int, bi_isi_bool, bi_isi_tup, set_s, set_t, sets_n, sets_c, par_n, par_c, aug_add, aug_sub, opt_n, opt_i, sl_t, sl_l, sl_s, rev_t, rev_l, it_t, it_l, it_s, it_et, it_el, it_zt, it_zl, wipe_n, wipe_c, ixm_t, ixm_l, setV, setO, Option.map_some, Option.bind_some, gsl, if_true, if_false, Bool.false_eq_true, reduceIte, Nat.zero_add, Nat.reduceAdd, Nat.reduceLT, SZ, Nat.reduceLeDiff, Nat.zero_le]
      rw [← abs_le]
  rw [runs_ok (ite_f first |>.trans runs_nil)]
  by_cases he : l = []
  · subst he
    rfl
  · have hp : 0 < l.length := List.length_pos_iff.mpr he
    have la : atI (il l) (-1) = some (.int (l.getLast he)) := by
      unfold atI ixN
      rw [if_neg (by omega), if_pos (by simp; omega)]
      have : ((-1 : Int) + ((il l).length : Int)).toNat = l.length - 1 := by simp; omega
      show (il l)[((-1 : Int) + ((il l).length : Int)).toNat]? = _
      rw [this]
      simp [List.getElem?_eq_getElem (show l.length - 1 < l.length by omega), List.getLast_eq_getElem]
    have tl_ : decide (trimL l = l) = !(l.getLast he == 0) := by
      have e : l = l.dropLast ++ [l.getLast he] := (List.dropLast_concat_getLast he).symm
      by_cases z : l.getLast he = 0
      · rw [z]
        apply decide_eq_false
        intro q
        have hl2 := congrArg List.length q
        rw [e, trimL_snoc, z, if_pos rfl] at hl2
        have := trimL_len l.dropLast
        simp at hl2 this
        omega
      · have : (l.getLast he == 0) = false := beq_false_of_ne z
        rw [this]
        apply decide_eq_true
        have e2 : trimL l = trimL (l.dropLast ++ [l.getLast he]) := by rw [← e]
        rw [e2, trimL_snoc, if_neg z, ← e]
    rw [tl_]
    simp only [runs, Pl.run, ev, evs, evo, evAn, evOr, evT, evTs, evTan, evTor, Pl.evF, bind_ret, bind_lift, bind_bind, lift_some, then_ret, then_rt, fin_rt, fin_nx, calm_ret, bind_raise, then_raise, fin_raise, rse_eq, M.lst, lstM, getV_0, getV_s, getO_0, getO_s, List.getElem?_cons_zero, List.getElem?_cons_succ, List.set_cons_zero, List.set_cons_succ, List.length_cons, List.length_nil, List.length_map, List.length_append, bin_add, bin_sub, bin_subb, cmp_lt, cmp_le, cmp_gt, cmp_ge, cmp_eq, cmp_ne, tru_bl, tru_int, bi_lent, bi_lenl, bi_lens, bi_abs, bi_int, bi_max, bi_min, bi_tupt, bi_tupl, bi_listt, bi_listl, bi_all, bi_isi_int, bi_isi_bool, bi_isi_tup, set_s, set_t, sets_n, sets_c, par_n, par_c, aug_add, aug_sub, opt_n, opt_i, sl_t, sl_l, sl_s, rev_t, rev_l, it_t, it_l, it_s, it_et, it_el, it_zt, it_zl, wipe_n, wipe_c, ixm_t, ixm_l, setV, setO, Option.map_some, Option.bind_some, gsl, if_true, if_false, Bool.false_eq_true, reduceIte, Nat.zero_add, Nat.reduceAdd, Nat.reduceLT, SZ, Nat.reduceLeDiff, Nat.zero_le]
    rw [beq_false_of_ne (show (l.length : Int) ≠ 0 by omega)]
    simp only [runs, Pl.run, ev, evs, evo, evAn, evOr, evT, evTs, evTan, evTor, Pl.evF, bind_ret, bind_lift, bind_bind, lift_some, then_ret, then_rt, fin_rt, fin_nx, calm_ret, bind_raise, then_raise, fin_raise, rse_eq, M.lst, lstM, getV_0, getV_s, getO_0, getO_s, List.getElem?_cons_zero, List.getElem?_cons_succ, List.set_cons_zero, List.set_cons_succ, List.length_cons, List.length_nil, List.length_map, List.length_append, bin_add, bin_sub, bin_subb, cmp_lt, cmp_le, cmp_gt, cmp_ge, cmp_eq, cmp_ne, tru_bl, tru_int, bi_lent, bi_lenl, bi_lens, bi_abs, bi_int, bi_max, bi_min, bi_tupt, bi_tupl, bi_listt, bi_listl, bi_all, bi_isi_int, bi_isi_bool, bi_isi_tup, set_s, set_t, sets_n, sets_c, par_n, par_c, aug_add, aug_sub, opt_n, opt_i, sl_t, sl_l, sl_s, rev_t, rev_l, it_t, it_l, it_s, it_et, it_el, it_zt, it_zl, wipe_n, wipe_c, ixm_t, ixm_l, setV, setO, Option.map_some, Option.bind_some, gsl, if_true, if_false, Bool.false_eq_true, reduceIte, Nat.zero_add, Nat.reduceAdd, Nat.reduceLT, SZ, Nat.reduceLeDiff, Nat.zero_le]
    rw [la]
    rfl
theorem s12 {n : Nat} (hn : 3 ≤ n) {l : List Int} (hl : l.length ≤ 9) (hb : Bd 1000000 l) (ht : trimL l = l) : G n 12 [tl l] = M.ret .non := by
  obtain ⟨m, rfl, h⟩ := pred hn
  show finM (runs (cf m) d12.body [.v (tl l)]) = _
  unfold d12
  simp only [runs, Pl.run, ev, evs, evo, evAn, evOr, evT, evTs, evTan, evTor, Pl.evF, bind_ret, bind_lift, bind_bind, lift_some, then_ret, then_rt, fin_rt, fin_nx, calm_ret, bind_raise, then_raise, fin_raise, rse_eq, M.lst, lstM, getV_0, getV_s, getO_0, getO_s, List.getElem?_cons_zero, List.getElem?_cons_succ, List.set_cons_zero, List.set_cons_succ, List.length_cons, List.length_nil, List.length_map, List.length_append, bin_add, bin_sub, bin_subb, cmp_lt, cmp_le, cmp_gt, cmp_ge, cmp_eq, cmp_ne, tru_bl, tru_int, bi_lent, bi_lenl, bi_lens, bi_abs, bi_int, bi_max, bi_min, bi_tupt, bi_tupl, bi_listt, bi_listl, bi_all, bi_isi_int, bi_isi_bool, bi_isi_tup, set_s, set_t, sets_n, sets_c, par_n, par_c, aug_add, aug_sub, opt_n, opt_i, sl_t, sl_l, sl_s, rev_t, rev_l, it_t, it_l, it_s, it_et, it_el, it_zt, it_zl, wipe_n, wipe_c, ixm_t, ixm_l, setV, setO, Option.map_some, Option.bind_some, gsl, if_true, if_false, Bool.false_eq_true, reduceIte, Nat.zero_add, Nat.reduceAdd, Nat.reduceLT, SZ, Nat.reduceLeDiff, Nat.zero_le]
  simp only [cfF]
  rw [s11 h hl hb, decide_eq_true ht]
  rfl
theorem s12x {n : Nat} (hn : 3 ≤ n) {l : List Int} (hl : l.length ≤ 9) (hb : Bd 1000000 l) (ht : trimL l ≠ l) : G n 12 [tl l] = M.raise 3 := by
  obtain ⟨m, rfl, h⟩ := pred hn
  show finM (runs (cf m) d12.body [.v (tl l)]) = _
  unfold d12
  simp only [runs, Pl.run, ev, evs, evo, evAn, evOr, evT, evTs, evTan, evTor, Pl.evF, bind_ret, bind_lift, bind_bind, lift_some, then_ret, then_rt, fin_rt, fin_nx, calm_ret, bind_raise, then_raise, fin_raise, rse_eq, M.lst, lstM, getV_0, getV_s, getO_0, getO_s, List.getElem?_cons_zero, List.getElem?_cons_succ, List.set_cons_zero, List.set_cons_succ, List.length_cons, List.length_nil, List.length_map, List.length_append, bin_add, bin_sub, bin_subb, cmp_lt, cmp_le, cmp_gt, cmp_ge, cmp_eq, cmp_ne, tru_bl, tru_int, bi_lent, bi_lenl, bi_lens, bi_abs, bi_int, bi_max, bi_min, bi_tupt, bi_tupl, bi_listt, bi_listl, bi_all, bi_isi_int, bi_isi_bool, bi_isi_tup, set_s, set_t, sets_n, sets_c, par_n, par_c, aug_add, aug_sub, opt_n, opt_i, sl_t, sl_l, sl_s, rev_t, rev_l, it_t, it_l, it_s, it_et, it_el, it_zt, it_zl, wipe_n, wipe_c, ixm_t, ixm_l, setV, setO, Option.map_some, Option.bind_some, gsl, if_true, if_false, Bool.false_eq_true, reduceIte, Nat.zero_add, Nat.reduceAdd, Nat.reduceLT, SZ, Nat.reduceLeDiff, Nat.zero_le]
  simp only [cfF]
  rw [s11 h hl hb, decide_eq_false ht]
  rfl
/-! ### values by Horner -/
def hor (p : Int) (f : Int) (l : List Int) : Int := l.foldl (fun f x => f * p + x) f
theorem hor_snoc (p f : Int) (l : List Int) (x : Int) : hor p f (l ++ [x]) = hor p f l * p + x := by simp [hor]
theorem hor_val (p : Int) (l : List Int) : hor p 0 l.reverse = val l p := by
  induction l with
  | nil => rfl
  | cons a l ih =>
    rw [List.reverse_cons, hor_snoc, ih]
    show _ = a + p * val l p
    rw [Int.mul_comm, Int.add_comm]
theorem hor_bd {p : Int} (hp : p.natAbs ≤ 100) : ∀ (l : List Int) (f : Int) (k : Nat), Bd 1000000 l → f.natAbs ≤ 2 ^ (20 + 8 * k) → (hor p f l).natAbs ≤ 2 ^ (20 + 8 * (k + l.length))
  | [], f, k, _, h => by simpa [hor] using h
  | x :: l, f, k, hb, h => by
    have h1 : (f * p + x).natAbs ≤ 2 ^ (20 + 8 * (k + 1)) := by
      have e1 : (f * p + x).natAbs ≤ f.natAbs * p.natAbs + x.natAbs := by
        rw [← Int.natAbs_mul]
        exact Int.natAbs_add_le _ _
      have e2 : f.natAbs * p.natAbs ≤ 2 ^ (20 + 8 * k) * 100 := Nat.mul_le_mul h hp
      have e3 := hb x List.mem_cons_self
      have e4 : 2 ^ (20 + 8 * (k + 1)) = 2 ^ (20 + 8 * k) * 256 := by
        rw [show 20 + 8 * (k + 1) = 20 + 8 * k + 8 by omega, Nat.pow_add]
      have e5 : 2 ^ 20 ≤ 2 ^ (20 + 8 * k) := Nat.pow_le_pow_right (by omega) (by omega)
      have e6 : (2 : Nat) ^ 20 = 1048576 := by decide
      omega
    have := hor_bd hp l _ (k + 1) (fun y hy => hb y (List.mem_cons_of_mem _ hy)) h1
    rw [show k + (x :: l).length = k + 1 + l.length by simp; omega]
    exact this
theorem hor_sm {p : Int} (hp : p.natAbs ≤ 100) {l : List Int} (hl : l.length ≤ 60) (hb : Bd 1000000 l) : (hor p 0 l).natAbs < 2 ^ 900 := by
  have := hor_bd hp l 0 0 hb (Nat.zero_le _)
  refine Nat.lt_of_le_of_lt this (Nat.pow_lt_pow_right (by omega) (by omega))
theorem mo {i j : Int} (h1 : i.natAbs < 2 ^ 900) (h2 : j.natAbs < 2 ^ 900) : mulOk i j = true := mul_fits (Nat.lt_of_lt_of_le h1 (by decide)) (Nat.lt_of_lt_of_le h2 (by decide))
theorem sm100 {p : Int} (hp : p.natAbs ≤ 1000000) : p.natAbs < 2 ^ 900 := Nat.lt_of_le_of_lt hp (by decide)
def sgn (z : Int) : Int := (if 0 < z then 1 else 0) - (if z < 0 then 1 else 0)
theorem Bd.rev {m : Nat} {l : List Int} (h : Bd m l) : Bd m l.reverse := fun x hx => h x (List.mem_reverse.mp hx)
theorem Bd.pre {m : Nat} {l p : List Int} {a : Int} {s : List Int} (h : Bd m l) (e : p ++ a :: s = l) : Bd m p ∧ a.natAbs ≤ m := ⟨fun x hx => h x (by rw [← e]; exact List.mem_append_left _ hx), h a (by rw [← e]; simp)⟩
theorem s21 {n : Nat} (hn : 1 ≤ n) {l : List Int} {p : Int} (hl : l.length ≤ 60) (hb : Bd 1000000 l) (hp : p.natAbs ≤ 100) : G n 21 [tl l, tl [p, 1]] = M.ret (.int (val l p)) := by
  obtain ⟨m, rfl, h⟩ := pred hn
  show finM (runs (cf m) d21.body [.v (tl l), .v (tl [p, 1]), .e, .e, .e]) = _
  unfold d21
  obtain ⟨r', e, x, rfl⟩ := forM_pre (g := .s 2) (b := fun r => runs (cf m) [.set (.s 3) (.bin .add (.bin .mul (.v 3) (.ix (.v 1) (.c (.int 0)))) (.bin .mul (.v 2) (.v 4))),
      .set (.s 4) (.bin .mul (.v 4) (.ix (.v 1) (.c (.int 1))))] r) D.int (fun pre r => ∃ x, r = [.v (tl l), .v (tl [p, 1]), x, .v (.int (hor p 0 pre)), .v (.int 1)]) l.reverse [] [.v (tl l), .v (tl [p, 1]), .e, .v (.int 0), .v (.int 1)] (fun pre a s r e ⟨x, er⟩ => by
        subst er
        obtain ⟨b1, b2⟩ := hb.rev.pre e
        have hlen : pre.length ≤ 60 := by
          have := congrArg List.length e
          simp at this
          omega
        refine ⟨[.v (tl l), .v (tl [p, 1]), .v (.int a), .v (.int (hor p 0 pre)), .v (.int 1)], rfl, [.v (tl l), .v (tl [p, 1]), .v (.int a), .v (.int (hor p 0 (pre ++ [a]))), .v (.int 1)], ?_, _, rfl⟩
        have m1 : binD .mul (.int (hor p 0 pre)) (.int p) = some (.int (hor p 0 pre * p)) := by rw [bin_mul, if_pos (mo (hor_sm hp hlen b1) (sm100 (by omega)))]
        have m2 : binD .mul (.int a) (.int 1) = some (.int a) := by rw [bin_mul, if_pos (mo (sm100 b2) (by decide)), Int.mul_one]
        have i0 : atI (il [p, 1]) 0 = some (.int p) := rfl
        have i1 : atI (il [p, 1]) 1 = some (.int 1) := rfl
        have m3 : binD .mul (.int 1) (.int 1) = some (.int 1) := rfl
        simp only [runs, Pl.run, ev, evs, evo, evAn, evOr, evT, evTs, evTan, evTor, Pl.evF, bind_ret, bind_lift, bind_bind, lift_some, then_ret, then_rt, fin_rt, fin_nx, calm_ret, bind_raise, then_raise, fin_raise, rse_eq, M.lst, lstM, getV_0, getV_s, getO_0, getO_s, List.getElem?_cons_zero, List.getElem?_cons_succ, List.set_cons_zero, List.set_cons_succ, List.length_cons, List.length_nil, List.length_map, List.length_append, bin_add, bin_sub, bin_subb, cmp_lt, cmp_le, cmp_gt, cmp_ge, cmp_eq, cmp_ne, tru_bl, tru_int, bi_lent, bi_lenl, bi_lens, bi_abs, bi_int, bi_max, bi_min, bi_tupt, bi_tupl, bi_listt, bi_listl, bi_all, bi_isi_int, bi_isi_bool, bi_isi_tup, set_s, set_t, sets_n, sets_c, par_n, par_c, aug_add, aug_sub, opt_n, opt_i, sl_t, sl_l, sl_s, rev_t, rev_l, it_t, it_l, it_s, it_et, it_el, it_zt, it_zl, wipe_n, wipe_c, ixm_t, ixm_l, setV, setO, Option.map_some, Option.bind_some, gsl, if_true, if_false, Bool.false_eq_true, reduceIte, Nat.zero_add, Nat.reduceAdd, Nat.reduceLT, SZ, Nat.reduceLeDiff, Nat.zero_le]
        rw [i0]
        simp only [runs, Pl.run, ev, evs, evo, evAn, evOr, evT, evTs, evTan, evTor, Pl.evF, bind_ret, bind_lift, bind_bind, lift_some, then_ret, then_rt, fin_rt, fin_nx, calm_ret, bind_raise, then_raise, fin_raise, rse_eq, M.lst, lstM, getV_0, getV_s, getO_0, getO_s, List.getElem?_cons_zero, List.getElem?_cons_succ, List.set_cons_zero, List.set_cons_succ, List.length_cons, List.length_nil, List.length_map, List.length_append, bin_add, bin_sub, bin_subb, cmp_lt, cmp_le, cmp_gt, cmp_ge, cmp_eq, cmp_ne, tru_bl, tru_int, bi_lent, bi_lenl, bi_lens, bi_abs, bi_int, bi_max, bi_min, bi_tupt, bi_tupl, bi_listt, bi_listl, bi_all, bi_isi_int, bi_isi_bool, bi_isi_tup, set_s, set_t, sets_n, sets_c, par_n, par_c, aug_add, aug_sub, opt_n, opt_i, sl_t, sl_l, sl_s, rev_t, rev_l, it_t, it_l, it_s, it_et, it_el, it_zt, it_zl, wipe_n, wipe_c, ixm_t, ixm_l, setV, setO, Option.map_some, Option.bind_some, gsl, if_true, if_false, Bool.false_eq_true, reduceIte, Nat.zero_add, Nat.reduceAdd, Nat.reduceLT, SZ, Nat.reduceLeDiff, Nat.zero_le]
        rw [m1]
        simp only [runs, Pl.run, ev, evs, evo, evAn, evOr, evT, evTs, evTan, evTor, Pl.evF, bind_ret, bind_lift, bind_bind, lift_some, then_ret, then_rt, fin_rt, fin_nx, calm_ret, bind_raise, then_raise, fin_raise, rse_eq, M.lst, lstM, getV_0, getV_s, getO_0, getO_s, List.getElem?_cons_zero, List.getElem?_cons_succ, List.set_cons_zero, List.set_cons_succ, List.length_cons, List.length_nil, List.length_map, List.length_append, bin_add, bin_sub, bin_subb, cmp_lt, cmp_le, cmp_gt, cmp_ge, cmp_eq, cmp_ne, tru_bl, tru_int, bi_lent, bi_lenl, bi_lens, bi_abs, bi_int, bi_max, bi_min, bi_tupt, bi_tupl, bi_listt, bi_listl, bi_all, bi_isi_int, bi_isi_bool, bi_isi_tup, set_s, set_t, sets_n, sets_c, par_n, par_c, aug_add, aug_sub, opt_n, opt_i, sl_t, sl_l, sl_s, rev_t, rev_l, it_t, it_l, it_s, it_et, it_el, it_zt, it_zl, wipe_n, wipe_c, ixm_t, ixm_l, setV, setO, Option.map_some, Option.bind_some, gsl, if_true, if_false, Bool.false_eq_true, reduceIte, Nat.zero_add, Nat.reduceAdd, Nat.reduceLT, SZ, Nat.reduceLeDiff, Nat.zero_le]
        rw [m2]
        simp only [runs, Pl.run, ev, evs, evo, evAn, evOr, evT, evTs, evTan, evTor, Pl.evF, bind_ret, bind_lift, bind_bind, lift_some, then_ret, then_rt, fin_rt, fin_nx, calm_ret, bind_raise, then_raise, fin_raise, rse_eq, M.lst, lstM, getV_0, getV_s, getO_0, getO_s, List.getElem?_cons_zero, List.getElem?_cons_succ, List.set_cons_zero, List.set_cons_succ, List.length_cons, List.length_nil, List.length_map, List.length_append, bin_add, bin_sub, bin_subb, cmp_lt, cmp_le, cmp_gt, cmp_ge, cmp_eq, cmp_ne, tru_bl, tru_int, bi_lent, bi_lenl, bi_lens, bi_abs, bi_int, bi_max, bi_min, bi_tupt, bi_tupl, bi_listt, bi_listl, bi_all, bi_isi_int, bi_isi_bool, bi_isi_tup, set_s, set_t, sets_n, sets_c, par_n, par_c, aug_add, aug_sub, opt_n, opt_i, sl_t, sl_l, sl_s, rev_t, rev_l, it_t, it_l, it_s, it_et, it_el, it_zt, it_zl, wipe_n, wipe_c, ixm_t, ixm_l, setV, setO, Option.map_some, Option.bind_some, gsl, if_true, if_false, Bool.false_eq_true, reduceIte, Nat.zero_add, Nat.reduceAdd, Nat.reduceLT, SZ, Nat.reduceLeDiff, Nat.zero_le]
        rw [i1]
        simp only [runs, Pl.run, ev, evs, evo, evAn, evOr, evT, evTs, evTan, evTor, Pl.evF, bind_ret, bind_lift, bind_bind, lift_some, then_ret, then_rt, fin_rt, fin_nx, calm_ret, bind_raise, then_raise, fin_raise, rse_eq, M.lst, lstM, getV_0, getV_s, getO_0, getO_s, List.getElem?_cons_zero, List.getElem?_cons_succ, List.set_cons_zero, List.set_cons_succ, List.length_cons, List.length_nil, List.length_map, List.length_append, bin_add, bin_sub, bin_subb, cmp_lt, cmp_le, cmp_gt, cmp_ge, cmp_eq, cmp_ne, tru_bl, tru_int, bi_lent, bi_lenl, bi_lens, bi_abs, bi_int, bi_max, bi_min, bi_tupt, bi_tupl, bi_listt, bi_listl, bi_all, bi_isi_int, bi_isi_bool, bi_isi_tup, set_s, set_t, sets_n, sets_c, par_n, par_c, aug_add, aug_sub, opt_n, opt_i, sl_t, sl_l, sl_s, rev_t, rev_l, it_t, it_l, it_s, it_et, it_el, it_zt, it_zl, wipe_n, wipe_c, ixm_t, ixm_l, setV, setO, Option.map_some, Option.bind_some, gsl, if_true, if_false, Bool.false_eq_true, reduceIte, Nat.zero_add, Nat.reduceAdd, Nat.reduceLT, SZ, Nat.reduceLeDiff, Nat.zero_le]
        rw [m3]
        simp only [runs, Pl.run, ev, evs, evo, evAn, evOr, evT, evTs, evTan, evTor, Pl.evF, bind_ret, bind_lift, bind_bind, lift_some, then_ret, then_rt, fin_rt, fin_nx, calm_ret, bind_raise, then_raise, fin_raise, rse_eq, M.lst, lstM, getV_0, getV_s, getO_0, getO_s, List.getElem?_cons_zero, List.getElem?_cons_succ, List.set_cons_zero, List.set_cons_succ, List.length_cons, List.length_nil, List.length_map, List.length_append, bin_add, bin_sub, bin_subb, cmp_lt, cmp_le, cmp_gt, cmp_ge, cmp_eq, cmp_ne, tru_bl, tru_int, bi_lent, bi_lenl, bi_lens, bi_abs, bi_int, bi_max, bi_min, bi_tupt, bi_tupl, bi_listt, bi_listl, bi_all, bi_isi_int, bi_isi_bool, bi_isi_tup, set_s, set_t, sets_n, sets_c, par_n, par_c, aug_add, aug_sub, opt_n, opt_i, sl_t, sl_l, sl_s, rev_t, rev_l, it_t, it_l, it_s, it_et, it_el, it_zt, it_zl, wipe_n, wipe_c, ixm_t, ixm_l, setV, setO, Option.map_some, Option.bind_some, gsl, if_true, if_false, Bool.false_eq_true, reduceIte, Nat.zero_add, Nat.reduceAdd, Nat.reduceLT, SZ, Nat.reduceLeDiff, Nat.zero_le]
        rw [hor_snoc]) ⟨_, rfl⟩
  rw [runs_ok (r1 := [.v (tl l), .v (tl [p, 1]), .e, .v (.int 0), .v (.int 1)]) rfl, runs_ok ((fr_ok (xs := [.tup (il l).reverse]) rfl (by rw [it_t, ← List.map_reverse])).trans e)]
  simp only [runs, Pl.run, ev, evs, evo, evAn, evOr, evT, evTs, evTan, evTor, Pl.evF, bind_ret, bind_lift, bind_bind, lift_some, then_ret, then_rt, fin_rt, fin_nx, calm_ret, bind_raise, then_raise, fin_raise, rse_eq, M.lst, lstM, getV_0, getV_s, getO_0, getO_s, List.getElem?_cons_zero, List.getElem?_cons_succ, List.set_cons_zero, List.set_cons_succ, List.length_cons, List.length_nil, List.length_map, List.length_append, bin_add, bin_sub, bin_subb, cmp_lt, cmp_le, cmp_gt, cmp_ge, cmp_eq, cmp_ne, tru_bl, tru_int, bi_lent, bi_lenl, bi_lens, bi_abs, bi_int, bi_max, bi_min, bi_tupt, bi_tupl, bi_listt, bi_listl, bi_all, bi_isi_int, bi_isi_bool, bi_isi_tup, set_s, set_t, sets_n, sets_c, par_n, par_c, aug_add, aug_sub, opt_n, opt_i, sl_t, sl_l, sl_s, rev_t, rev_l, it_t, it_l, it_s, it_et, it_el, it_zt, it_zl, wipe_n, wipe_c, ixm_t, ixm_l, setV, setO, Option.map_some, Option.bind_some, gsl, if_true, if_false, Bool.false_eq_true, reduceIte, Nat.zero_add, Nat.reduceAdd, Nat.reduceLT, SZ, Nat.reduceLeDiff, Nat.zero_le]
  rw [List.nil_append, hor_val]
theorem s22 {n : Nat} (hn : 2 ≤ n) {l : List Int} {p : Int} (hl : l.length ≤ 60) (hb : Bd 1000000 l) (hp : p.natAbs ≤ 100) : G n 22 [tl l, tl [p, 1]] = M.ret (.int (sgn (val l p))) := by
  obtain ⟨m, rfl, h⟩ := pred hn
  show finM (runs (cf m) d22.body [.v (tl l), .v (tl [p, 1]), .e]) = _
  unfold d22
  simp only [runs, Pl.run, ev, evs, evo, evAn, evOr, evT, evTs, evTan, evTor, Pl.evF, bind_ret, bind_lift, bind_bind, lift_some, then_ret, then_rt, fin_rt, fin_nx, calm_ret, bind_raise, then_raise, fin_raise, rse_eq, M.lst, lstM, getV_0, getV_s, getO_0, getO_s, List.getElem?_cons_zero, List.getElem?_cons_succ, List.set_cons_zero, List.set_cons_succ, List.length_cons, List.length_nil, List.length_map, List.length_append, bin_add, bin_sub, bin_subb, cmp_lt, cmp_le, cmp_gt, cmp_ge, cmp_eq, cmp_ne, tru_bl, tru_int, bi_lent, bi_lenl, bi_lens, bi_abs, bi_int, bi_max, bi_min, bi_tupt, bi_tupl, bi_listt, bi_listl, bi_all, bi_isi_int, bi_isi_bool, bi_isi_tup, set_s, set_t, sets_n, sets_c, par_n, par_c, aug_add, aug_sub, opt_n, opt_i, sl_t, sl_l, sl_s, rev_t, rev_l, it_t, it_l, it_s, it_et, it_el, it_zt, it_zl, wipe_n, wipe_c, ixm_t, ixm_l, setV, setO, Option.map_some, Option.bind_some, gsl, if_true, if_false, Bool.false_eq_true, reduceIte, Nat.zero_add, Nat.reduceAdd, Nat.reduceLT, SZ, Nat.reduceLeDiff, Nat.zero_le]
  simp only [cfF]
  rw [s21 h hl hb hp]
  simp only [runs, Pl.run, ev, evs, evo, evAn, evOr, evT, evTs, evTan, evTor, Pl.evF, bind_ret, bind_lift, bind_bind, lift_some, then_ret, then_rt, fin_rt, fin_nx, calm_ret, bind_raise, then_raise, fin_raise, rse_eq, M.lst, lstM, getV_0, getV_s, getO_0, getO_s, List.getElem?_cons_zero, List.getElem?_cons_succ, List.set_cons_zero, List.set_cons_succ, List.length_cons, List.length_nil, List.length_map, List.length_append, bin_add, bin_sub, bin_subb, cmp_lt, cmp_le, cmp_gt, cmp_ge, cmp_eq, cmp_ne, tru_bl, tru_int, bi_lent, bi_lenl, bi_lens, bi_abs, bi_int, bi_max, bi_min, bi_tupt, bi_tupl, bi_listt, bi_listl, bi_all, bi_isi_int, bi_isi_bool, bi_isi_tup, set_s, set_t, sets_n, sets_c, par_n, par_c, aug_add, aug_sub, opt_n, opt_i, sl_t, sl_l, sl_s, rev_t, rev_l, it_t, it_l, it_s, it_et, it_el, it_zt, it_zl, wipe_n, wipe_c, ixm_t, ixm_l, setV, setO, Option.map_some, Option.bind_some, gsl, if_true, if_false, Bool.false_eq_true, reduceIte, Nat.zero_add, Nat.reduceAdd, Nat.reduceLT, SZ, Nat.reduceLeDiff, Nat.zero_le]
  simp [sgn]
end Md

-- part V4
set_option maxHeartbeats 4000000
set_option exponentiation.threshold 3000
namespace Pl
open PySem PySem.Spec PyProof.Rows L2
section
variable {C : Cf} {r : Rho}
theorem ev_call1 {f : Nat} {a : Pe} {x : D} {z : M D} (h1 : ev C a r = M.ret x) (h : C.F f [x] = z) : ev C (.call f [a]) r = z := by
  show M.bind (M.bind (ev C a r) _) _ = _
  rw [h1]
  exact h
theorem ev_call2 {f : Nat} {a b : Pe} {x y : D} {z : M D} (h1 : ev C a r = M.ret x) (h2 : ev C b r = M.ret y) (h : C.F f [x, y] = z) : ev C (.call f [a, b]) r = z := by
  show M.bind (M.bind (ev C a r) fun x => M.bind (M.bind (ev C b r) _) _) _ = _
  rw [h1, h2]
  exact h
theorem ev_call3 {f : Nat} {a b c : Pe} {x y w : D} {z : M D} (h1 : ev C a r = M.ret x) (h2 : ev C b r = M.ret y) (h3 : ev C c r = M.ret w) (h : C.F f [x, y, w] = z) : ev C (.call f [a, b, c]) r = z := by
  show M.bind (M.bind (ev C a r) fun x => M.bind (M.bind (ev C b r) fun y => M.bind (M.bind (ev C c r) _) _) _) _ = _
  rw [h1, h2, h3]
  exact h
theorem ev_bin {o : Bop} {a b : Pe} {x y z : D} (h1 : ev C a r = M.ret x) (h2 : ev C b r = M.ret y) (h : binD o x y = some z) : ev C (.bin o a b) r = M.ret z := by
  show M.bind (ev C a r) (fun x => M.bind (ev C b r) _) = _
  rw [h1, h2]
  show M.lift (binD o x y) = _
  rw [h]
  rfl
theorem ev_bi1 {o : Bi} {a : Pe} {x z : D} (h1 : ev C a r = M.ret x) (h : biD o [x] = some z) : ev C (.bi o [a]) r = M.ret z := by
  show M.bind (M.bind (ev C a r) _) _ = _
  rw [h1]
  show M.lift (biD o [x]) = _
  rw [h]
  rfl
theorem ev_ix {a i : Pe} {x y z : D} (h1 : ev C a r = M.ret x) (h2 : ev C i r = M.ret y) (h : (fun B => M.lift (ixM B x y) B) = M.ret z) : ev C (.ix a i) r = M.ret z := by
  show M.bind (ev C a r) (fun x => M.bind (ev C i r) _) = _
  rw [h1, h2]
  exact h
theorem ev_cmp {o : Cop} {a b : Pe} {x y : D} {z : Bool} (h1 : ev C a r = M.ret x) (h2 : ev C b r = M.ret y) (h : cmpD o x y = some z) : ev C (.cmp o a b) r = M.ret (.bl z) := by
  show M.bind (ev C a r) (fun x => M.bind (ev C b r) _) = _
  rw [h1, h2]
  show M.lift ((cmpD o x y).map D.bl) = _
  rw [h]
  rfl
theorem evT_cmp {o : Cop} {a b : Pe} {x y : D} {z : Bool} (h1 : ev C a r = M.ret x) (h2 : ev C b r = M.ret y) (h : cmpD o x y = some z) : evT C (.cmp o a b) r = M.ret z := by
  show M.bind (ev C a r) (fun x => M.bind (ev C b r) _) = _
  rw [h1, h2]
  show M.lift (cmpD o x y) = _
  rw [h]
  rfl
theorem evT_tv {a : Pe} {x : D} {z : Bool} (h1 : ev C a r = M.ret x) (h : truD x = some z) : evT C (.tv a) r = M.ret z := by
  show M.bind (ev C a r) _ = _
  rw [h1]
  show M.lift (truD x) = _
  rw [h]
  rfl
theorem evT_nt {a : Pe} {z : Bool} (h1 : evT C a r = M.ret z) : evT C (.nt a) r = M.ret (!z) := by
  show M.bind (evT C a r) _ = _
  rw [h1]
  rfl
theorem ev_ite {t a b : Pe} {k : Bool} {z : M D} (h1 : evT C t r = M.ret k) (h : (if k then ev C a r else ev C b r) = z) : ev C (.ite t a b) r = z := by
  show M.bind (evT C t r) _ = _
  rw [h1]
  exact h
theorem set_ok {i : Nat} {e : Pe} {x : D} (h1 : ev C e r = M.ret x) (hi : i < r.length) : Pl.run C (.set (.s i) e) r = M.ret (.nx (r.set i (.v x))) := by
  show M.bind (ev C e r) _ = _
  rw [h1]
  show M.bind (M.lift (if i < r.length then some (r.set i (.v x)) else none)) _ = _
  rw [if_pos hi]
  rfl
theorem ret_ok' {e : Pe} {x : D} (h1 : ev C e r = M.ret x) : Pl.run C (.ret e) r = M.ret (.rt x) := by
  show M.bind (ev C e r) _ = _
  rw [h1]
  rfl
theorem ex_ok {e : Pe} {x : D} (h1 : ev C e r = M.ret x) : Pl.run C (.ex e) r = M.ret (.nx r) := by
  show M.bind (ev C e r) _ = _
  rw [h1]
  rfl
theorem ex_ex {e : Pe} {c : Nat} (h1 : ev C e r = M.raise c) : Pl.run C (.ex e) r = M.raise c := by
  show M.bind (ev C e r) _ = _
  rw [h1]
  rfl
end
end Pl
namespace Md
open PySem PySem.Spec PyProof.Rows L2 Pl
/-- a row, ready to be checked -/
structure Row (l : List Int) : Prop where
  len : l.length ≤ 9
  bd : Bd 1000000 l
  tr : trimL l = l
theorem Row.ok {n : Nat} (hn : 3 ≤ n) {l : List Int} (h : Row l) : G n 12 [tl l] = M.ret .non := s12 hn h.len h.bd h.tr
theorem Bd.sm {l : List Int} {m : Nat} (h : Bd m l) (hm : m ≤ 2 ^ 899 := by decide) : Sm l := fun x hx => Nat.lt_of_le_of_lt (Nat.le_trans (h x hx) hm) (by decide)
theorem Bd.trim {m : Nat} {l : List Int} (h : Bd m l) : Bd m (trimL l) := fun x hx => h x (by
  rw [trim_split l]
  exact List.mem_append_left _ hx)
theorem bd_co {m : Nat} {l : List Int} : Bd m l ↔ ∀ i, (co l i).natAbs ≤ m := by
  constructor
  · intro h i
    by_cases hi : i < l.length
    · rw [co_get hi]
      exact h _ (List.getElem_mem _)
    · rw [co_big (Nat.le_of_not_lt hi)]
      exact Nat.zero_le _
  · intro h x hx
    obtain ⟨i, hi, rfl⟩ := List.getElem_of_mem hx
    rw [← co_get hi]
    exact h i
theorem addL_len (a b : List Int) : (addL a b).length = max a.length b.length := by
  unfold addL padL
  simp
  omega
theorem mulL_len (a b : List Int) : (mulL a b).length ≤ a.length + b.length - 1 := by
  unfold mulL
  split
  · simp
  · have : ∀ (l : List (Int × Nat)) (f : List Int), (l.foldl (rowI b) f).length = f.length := fun l => by
      induction l with
      | nil => intro f; rfl
      | cons p l ih => intro f; rw [List.foldl_cons, ih, rowI_len]
    rw [this]
    simp
/-! ### shifted by one -/
def shS (f : List Int) (x : Int) : List Int := trimL (addL (trimL (mulL f [1, 1])) (if x = 0 then [] else [x]))
def shL (l : List Int) : List Int := l.reverse.foldl shS []
theorem co_shS (f : List Int) (x : Int) (i : Nat) : co (shS f x) i = co f i + (if i = 0 then 0 else co f (i - 1)) + (if i = 0 then x else 0) := by
  unfold shS
  rw [co_trim, co_add, co_trim, co_lin]
  have : co (if x = 0 then [] else [x]) i = if i = 0 then x else 0 := by
    by_cases h : x = 0
    · rw [if_pos h, co_nil, h]
      simp
    · rw [if_neg h]
      cases i with
      | zero => simp [co]
      | succ i => simp [co]
  rw [this]
  omega
theorem shS_bd {f : List Int} {x : Int} {m : Nat} (h : Bd m f) (hx : x.natAbs ≤ m) : Bd (3 * m) (shS f x) := bd_co.mpr fun i => by
  rw [co_shS]
  have h1 := bd_co.mp h i
  have h2 := bd_co.mp h (i - 1)
  split <;> omega
theorem shS_len (f : List Int) (x : Int) : (shS f x).length ≤ f.length + 1 := by
  unfold shS
  refine Nat.le_trans (trimL_len _) ?_
  rw [addL_len]
  have h1 := Nat.le_trans (trimL_len (mulL f [1, 1])) (mulL_len f [1, 1])
  have h2 : (if x = 0 then ([] : List Int) else [x]).length ≤ 1 := by split <;> simp
  simp at h1
  omega
theorem foldS : ∀ (l f : List Int) (k : Nat), Bd 1000000 l → Bd (1000000 * 3 ^ k) f → Bd (1000000 * 3 ^ (k + l.length)) (l.foldl shS f) ∧ (l.foldl shS f).length ≤ f.length + l.length
  | [], f, k, _, h => ⟨h, Nat.le_refl _⟩
  | x :: l, f, k, hl, h => by
    have hx : x.natAbs ≤ 1000000 * 3 ^ k := Nat.le_trans (hl x List.mem_cons_self) (Nat.le_mul_of_pos_right _ (Nat.pow_pos (by omega)))
    have e : 3 * (1000000 * 3 ^ k) = 1000000 * 3 ^ (k + 1) := by rw [Nat.pow_succ]; omega
    have hs := shS_bd h hx
    rw [e] at hs
    obtain ⟨h1, h2⟩ := foldS l (shS f x) (k + 1) (fun y hy => hl y (List.mem_cons_of_mem _ hy)) hs
    have h3 := shS_len f x
    refine ⟨?_, ?_⟩
    · rw [show k + (x :: l).length = k + 1 + l.length by simp; omega]
      exact h1
    · rw [List.foldl_cons, List.length_cons]
      omega
theorem s30 {n : Nat} (hn : 3 ≤ n) {l : List Int} (hl : l.length ≤ 9) (hb : Bd 1000000 l) : G n 30 [tl l, .int 1] = M.ret (tl (shL l)) := by
  obtain ⟨m, rfl, h⟩ := pred hn
  show finM (runs (cf m) d30.body [.v (tl l), .v (.int 1), .e, .e]) = _
  unfold d30
  obtain ⟨r', e, x, rfl⟩ := forM_pre (g := .s 3) (b := fun r => runs (cf m) [.set (.s 2) (.call 15 [(.call 18 [(.v 2), (.tup [(.v 1), (.c (.int 1))])]), (.ite (.cmp .ne (.v 3) (.c (.int 0))) (.tup [(.v 3)]) (.tup []))])] r) D.int (fun pre r => ∃ x, r = [.v (tl l), .v (.int 1), .v (tl (pre.foldl shS [])), x]) l.reverse [] [.v (tl l), .v (.int 1), .v (tl []), .e] (fun pre a s r e ⟨x, er⟩ => by
        subst er
        obtain ⟨b1, b2⟩ := hb.rev.pre e
        have hlen : pre.length ≤ 9 := by
          have := congrArg List.length e
          simp at this
          omega
        obtain ⟨q1, q2⟩ := foldS pre [] 0 b1 (fun y hy => by cases hy)
        have q3 : Sm (pre.foldl shS []) := q1.sm (by
          refine Nat.le_trans (Nat.mul_le_mul_left _ (Nat.pow_le_pow_right (by omega) (show 0 + pre.length ≤ 9 by omega))) (by decide))
        refine ⟨[.v (tl l), .v (.int 1), .v (tl (pre.foldl shS [])), .v (.int a)], rfl, [.v (tl l), .v (.int 1), .v (tl ((pre ++ [a]).foldl shS [])), .v (.int a)], ?_, _, rfl⟩
        have m1 : G m 18 [tl (pre.foldl shS []), tl [1, 1]] = M.ret (tl (trimL (mulL (pre.foldl shS []) [1, 1]))) := s18 h (by simp at q2; omega) (by decide) q3 (fun y hy => by
          simp at hy
          rw [hy]
          decide)
        have l1 : (trimL (mulL (pre.foldl shS []) [1, 1])).length ≤ 100 := by
          have := Nat.le_trans (trimL_len _) (mulL_len (pre.foldl shS []) [1, 1])
          simp at this q2
          omega
        have m2 : ∀ c : List Int, c.length ≤ 1 → G m 15 [tl (trimL (mulL (pre.foldl shS []) [1, 1])), tl c] = M.ret (tl (trimL (addL (trimL (mulL (pre.foldl shS []) [1, 1])) c))) := fun c hc => s15 h l1 (by omega)
        have e9 : (pre ++ [a]).foldl shS [] = shS (pre.foldl shS []) a := by simp
        rw [e9]
        refine runs_ok (set_ok (i := 2) (ev_call2 (y := tl (if a = 0 then [] else [a])) (ev_call2 rfl rfl m1) ?_ (m2 _ (by split <;> simp))) (by simp))
        by_cases ha : a = 0
        · subst ha
          rfl
        · have hz : (!(a == 0)) = true := by simp [ha]
          rw [if_neg ha]
          exact ev_ite (evT_cmp rfl rfl (by rw [cmp_ne, hz])) rfl) ⟨_, rfl⟩
  rw [runs_ok (r1 := [.v (tl l), .v (.int 1), .v (tl []), .e]) rfl, runs_ok ((fr_ok (xs := [.tup (il l).reverse]) rfl (by rw [it_t, ← List.map_reverse])).trans e)]
  rfl
theorem s31 {n : Nat} (hn : 4 ≤ n) {a b : List Int} (ha : Row a) (hb : Row b) : G n 31 [tl a, tl b] = M.ret (tl (trimL (addL a b))) := by
  obtain ⟨m, rfl, h⟩ := pred hn
  show finM (runs (cf m) d31.body [.v (tl a), .v (tl b)]) = _
  unfold d31
  rw [runs_ok (ex_ok (ev_call1 rfl (ha.ok h))), runs_ok (ex_ok (ev_call1 rfl (hb.ok h))), runs_rt (ret_ok' (ev_call2 rfl rfl (s15 (by omega) (by have := ha.len; omega) (by have := hb.len; omega))))]
  rfl
theorem s32 {n : Nat} (hn : 4 ≤ n) {a b : List Int} (ha : Row a) (hb : Row b) : G n 32 [tl a, tl b] = M.ret (tl (trimL (mulL a b))) := by
  obtain ⟨m, rfl, h⟩ := pred hn
  show finM (runs (cf m) d32.body [.v (tl a), .v (tl b)]) = _
  unfold d32
  rw [runs_ok (ex_ok (ev_call1 rfl (ha.ok h))), runs_ok (ex_ok (ev_call1 rfl (hb.ok h))), runs_rt (ret_ok' (ev_call2 rfl rfl (s18 (by omega) (by have := ha.len; omega) (by have := hb.len; omega) ha.bd.sm hb.bd.sm)))]
  rfl
theorem s46 {n : Nat} (hn : 2 ≤ n) {k : Int} (hk : k.natAbs ≤ 100) : G n 46 [.int k] = M.ret .non := by
  obtain ⟨m, rfl, h⟩ := pred hn
  show finM (runs (cf m) d46.body [.v (.int k)]) = _
  unfold d46
  have : decide ((100 : Int) < if k < 0 then -k else k) = false := by
    apply decide_eq_false
    split <;> omega
  rw [runs_ok ((ite_f (by simp only [runs, Pl.run, ev, evs, evo, evAn, evOr, evT, evTs, evTan, evTor, Pl.evF, bind_ret, bind_lift, bind_bind, lift_some, then_ret, then_rt, fin_rt, fin_nx, calm_ret, bind_raise, then_raise, fin_raise, rse_eq, M.lst, lstM, getV_0, getV_s, getO_0, getO_s, List.getElem?_cons_zero, List.getElem?_cons_succ, List.set_cons_zero, List.set_cons_succ, List.length_cons, List.length_nil, List.length_map, List.length_append, bin_add, bin_sub, bin_subb, cmp_lt, cmp_le, cmp_gt, cmp_ge, cmp_eq, cmp_ne, tru_bl, tru_int, bi_lent, bi_lenl, bi_lens, bi_abs, bi_int, bi_max, bi_min, bi_tupt, bi_tupl, bi_listt, bi_listl, bi_all, bi_isi_int, bi_isi_bool, bi_isi_tup, set_s, set_t, sets_n, sets_c, par_n, par_c, aug_add, aug_sub, opt_n, opt_i, sl_t, sl_l, sl_s, rev_t, rev_l, it_t, it_l, it_s, it_et, it_el, it_zt, it_zl, wipe_n, wipe_c, ixm_t, ixm_l, setV, setO, Option.map_some, Option.bind_some, gsl, if_true, if_false, Bool.false_eq_true, reduceIte, Nat.zero_add, Nat.reduceAdd, Nat.reduceLT, SZ, Nat.reduceLeDiff, Nat.zero_le]; simp only [cfF]; rw [s0 h]; simp only [runs, Pl.run, ev, evs, evo, evAn, evOr, evT, evTs, evTan, evTor, Pl.evF, bind_ret, bind_lift, bind_bind, lift_some, then_ret, then_rt, fin_rt, fin_nx, calm_ret, bind_raise, then_raise, fin_raise, rse_eq, M.lst, lstM, getV_0, getV_s, getO_0, getO_s, List.getElem?_cons_zero, List.getElem?_cons_succ, List.set_cons_zero, List.set_cons_succ, List.length_cons, List.length_nil, List.length_map, List.length_append, bin_add, bin_sub, bin_subb, cmp_lt, cmp_le, cmp_gt, cmp_ge, cmp_eq, cmp_ne, tru_bl, tru_int, bi_lent, bi_lenl, bi_lens, bi_abs, bi_int, bi_max, bi_min, bi_tupt, bi_tupl, bi_listt, bi_listl, bi_all, bi_isi_int, bi_isi_bool, bi_isi_tup, set_s, set_t, sets_n, sets_c, par_n, par_c, aug_add, aug_sub, opt_n, opt_i, sl_t, sl_l, sl_s, rev_t, rev_l, it_t, it_l, it_s, it_et, it_el, it_zt, it_zl, wipe_n, wipe_c, ixm_t, ixm_l, setV, setO, Option.map_some, Option.bind_some, gsl, if_true, if_false, Bool.false_eq_true, reduceIte, Nat.zero_add, Nat.reduceAdd, Nat.reduceLT, SZ, Nat.reduceLeDiff, Nat.zero_le]; rw [this]; rfl)).trans runs_nil)]
  rfl
theorem s47 {n : Nat} (hn : 4 ≤ n) {l : List Int} (hl : Row l) : G n 47 [tl l, .int 1] = M.ret (tl (shL l)) := by
  obtain ⟨m, rfl, h⟩ := pred hn
  show finM (runs (cf m) d47.body [.v (tl l), .v (.int 1)]) = _
  unfold d47
  rw [runs_ok (ex_ok (ev_call1 rfl (hl.ok h))), runs_ok (ex_ok (ev_call1 rfl (s46 (by omega) (by decide)))), runs_rt (ret_ok' (ev_call2 rfl rfl (s30 (by omega) hl.len hl.bd)))]
  rfl
theorem hor_loop {C : Cf} {x0 : D} {q : Int} (hq : q.natAbs ≤ 100) {l : List Int} (hl : l.length ≤ 60) (hb : Bd 1000000 l) : ∃ x, Pl.forM (.s 3) (fun r => runs C [.set (.s 2) (.bin .add (.bin .mul (.v 2) (.v 1)) (.v 3))] r) (il l.reverse) [.v x0, .v (.int q), .v (.int 0), .e] = M.ret (.nx [.v x0, .v (.int q), .v (.int (val l q)), x]) := by
  obtain ⟨r', e, x, rfl⟩ := forM_pre (g := .s 3) (b := fun r => runs C [.set (.s 2) (.bin .add (.bin .mul (.v 2) (.v 1)) (.v 3))] r) D.int (fun pre r => ∃ x, r = [.v x0, .v (.int q), .v (.int (hor q 0 pre)), x]) l.reverse [] [.v x0, .v (.int q), .v (.int 0), .e] (fun pre a s r e ⟨x, er⟩ => by
    subst er
    obtain ⟨b1, b2⟩ := hb.rev.pre e
    have hlen : pre.length ≤ 60 := by
      have := congrArg List.length e
      simp at this
      omega
    refine ⟨[.v x0, .v (.int q), .v (.int (hor q 0 pre)), .v (.int a)], rfl, [.v x0, .v (.int q), .v (.int (hor q 0 (pre ++ [a]))), .v (.int a)], ?_, _, rfl⟩
    rw [hor_snoc]
    exact runs_ok (set_ok (i := 2) (ev_bin (ev_bin rfl rfl (by rw [bin_mul, if_pos (mo (hor_sm hq hlen b1) (sm100 (by omega)))])) rfl rfl) (by simp))) ⟨_, rfl⟩
  rw [List.nil_append, hor_val] at e
  exact ⟨x, e⟩
theorem s48 {n : Nat} (hn : 4 ≤ n) {l : List Int} (hl : Row l) {k : Int} (hk : k.natAbs ≤ 100) : G n 48 [tl l, .int k] = M.ret (.int (sgn (val l k))) := by
  obtain ⟨m, rfl, h⟩ := pred hn
  show finM (runs (cf m) d48.body [.v (tl l), .v (.int k), .e, .e]) = _
  unfold d48
  obtain ⟨x, e⟩ := hor_loop (C := cf m) (x0 := tl l) hk (l := l) (by have := hl.len; omega) hl.bd
  rw [runs_ok (ex_ok (ev_call1 rfl (hl.ok h))), runs_ok (ex_ok (ev_call1 rfl (s46 (by omega) hk))), runs_ok (r1 := [.v (tl l), .v (.int k), .v (.int 0), .e]) rfl,
    runs_ok ((fr_ok (xs := [.tup (il l).reverse]) rfl (by rw [it_t, ← List.map_reverse])).trans e)]
  simp only [runs, Pl.run, ev, evs, evo, evAn, evOr, evT, evTs, evTan, evTor, Pl.evF, bind_ret, bind_lift, bind_bind, lift_some, then_ret, then_rt, fin_rt, fin_nx, calm_ret, bind_raise, then_raise, fin_raise, rse_eq, M.lst, lstM, getV_0, getV_s, getO_0, getO_s, List.getElem?_cons_zero, List.getElem?_cons_succ, List.set_cons_zero, List.set_cons_succ, List.length_cons, List.length_nil, List.length_map, List.length_append, bin_add, bin_sub, bin_subb, cmp_lt, cmp_le, cmp_gt, cmp_ge, cmp_eq, cmp_ne, tru_bl, tru_int, bi_lent, bi_lenl, bi_lens, bi_abs, bi_int, bi_max, bi_min, bi_tupt, bi_tupl, bi_listt, bi_listl, bi_all, bi_isi_int, bi_isi_bool, bi_isi_tup, set_s, set_t, sets_n, sets_c, par_n, par_c, aug_add, aug_sub, opt_n, opt_i, sl_t, sl_l, sl_s, rev_t, rev_l, it_t, it_l, it_s, it_et, it_el, it_zt, it_zl, wipe_n, wipe_c, ixm_t, ixm_l, setV, setO, Option.map_some, Option.bind_some, gsl, if_true, if_false, Bool.false_eq_true, reduceIte, Nat.zero_add, Nat.reduceAdd, Nat.reduceLT, SZ, Nat.reduceLeDiff, Nat.zero_le]
  simp [sgn]
theorem s56 {n : Nat} (hn : 1 ≤ n) {x : D} {l : List Int} (hx : x = ll l ∨ x = tl l) (hl : l.length ≤ 60) (hb : Bd 1000000 l) {k : Int} (hk : k.natAbs ≤ 100) : G n 56 [x, .int k] = M.ret (.int (val l k)) := by
  obtain ⟨m, rfl, h⟩ := pred hn
  show finM (runs (cf m) d56.body [.v x, .v (.int k), .e, .e]) = _
  unfold d56
  obtain ⟨y, e⟩ := hor_loop (C := cf m) (x0 := x) hk (l := l) hl hb
  rw [runs_ok (r1 := [.v x, .v (.int k), .v (.int 0), .e]) rfl]
  rcases hx with rfl | rfl
  · rw [runs_ok ((fr_ok (xs := [.lst (il l).reverse]) rfl (by rw [it_l, ← List.map_reverse])).trans e)]
    rfl
  · rw [runs_ok ((fr_ok (xs := [.tup (il l).reverse]) rfl (by rw [it_t, ← List.map_reverse])).trans e)]
    rfl
/-! ### differences -/
def gapL (l : List Int) : List Int := trimL (addL (shL l) (trimL (scL (-1) l)))
def gapN : Nat → List Int → List Int
  | 0, l => l
  | k + 1, l => gapL (gapN k l)
theorem gap_ev {m : Nat} (h : 4 ≤ m) {l : List Int} (hl : Row l) : ev (cf m) (.call 15 [(.call 30 [(.v 0), (.c (.int 1))]), (.call 16 [(.v 0), (.neg (.c (.int 1)))])]) = fun r => M.bind (M.ret ()) fun _ => ev (cf m) (.call 15 [(.call 30 [(.v 0), (.c (.int 1))]), (.call 16 [(.v 0), (.neg (.c (.int 1)))])]) r := rfl
theorem s50 {n : Nat} (hn : 5 ≤ n) {l : List Int} (hl : ∀ k, k ≤ 5 → Row (gapN k l)) {k : Nat} (hk : k ≤ 5) : G n 50 [tl l, .int k] = M.ret (tl (gapN k l)) := by
  obtain ⟨m, rfl, h⟩ := pred hn
  show finM (runs (cf m) d50.body [.v (tl l), .v (.int k), .e]) = _
  unfold d50
  have t1 : evT (cf m) (.nt (.tv (.call 1 [(.v 1), (.c (.int 0)), (.c (.int 5))]))) [.v (tl l), .v (.int k), .e] = M.ret false :=
    evT_nt (z := true) (evT_tv (ev_call3 rfl rfl rfl (s1 (by omega) k 0 5)) (by
      rw [decide_eq_true (show (0 : Int) ≤ (k : Int) by omega), decide_eq_true (show (k : Int) ≤ 5 by omega)]
      rfl))
  obtain ⟨r', e, x, rfl⟩ := forM_pre (g := .s 2) (b := fun r => runs (cf m) [.set (.s 0) (.call 15 [(.call 30 [(.v 0), (.c (.int 1))]), (.call 16 [(.v 0), (.neg (.c (.int 1)))])])] r) (fun i : Nat => D.int (0 + (i : Nat))) (fun pre r => ∃ x, r = [.v (tl (gapN pre.length l)), .v (.int k), x]) (List.range k) [] [.v (tl l), .v (.int k), .e] (fun pre a s r e ⟨x, er⟩ => by
    subst er
    have hlen : pre.length ≤ 5 := by
      have := congrArg List.length e
      simp at this
      omega
    have R := hl pre.length hlen
    refine ⟨[.v (tl (gapN pre.length l)), .v (.int k), .v (.int (0 + (a : Nat)))], rfl, [.v (tl (gapN (pre ++ [a]).length l)), .v (.int k), .v (.int (0 + (a : Nat)))], ?_, _, rfl⟩
    have e1 : gapN (pre ++ [a]).length l = gapL (gapN pre.length l) := by
      rw [List.length_append]
      rfl
    rw [e1]
    have l1 : (shL (gapN pre.length l)).length ≤ 100 := by
      have := (foldS (gapN pre.length l).reverse [] 0 R.bd.rev (fun y hy => by cases hy)).2
      have := R.len
      unfold shL
      simp at *
      omega
    have l2 : (trimL (scL (-1) (gapN pre.length l))).length ≤ 100 := by
      have := trimL_len (scL (-1) (gapN pre.length l))
      have := R.len
      unfold scL at *
      simp at *
      omega
    exact runs_ok (set_ok (i := 0) (ev_call2 (ev_call2 rfl rfl (s30 (by omega) R.len R.bd)) (ev_call2 rfl rfl (s16 (by omega) R.bd.sm (by decide))) (s15 (by omega) l1 l2)) (by simp))) ⟨_, rfl⟩
  rw [runs_ok (ex_ok (ev_call1 rfl ((hl 0 (by omega)).ok (by omega)))), runs_ok ((ite_f t1).trans runs_nil), runs_ok ((fr_ok (xs := [.int k]) rfl (by rw [it_r, if_pos (by omega)]; rfl)).trans e)]
  simp
  rfl
end Md

-- part V5
set_option maxHeartbeats 4000000
set_option exponentiation.threshold 3000
namespace Md
open PySem PySem.Spec PyProof.Rows L2 Pl
/-- what fuel tells, at every depth -/
theorem fuel {n i k : Nat} {ds : List D} {v : D} (h : ∀ B, FFk 60 lw.Mk lw.Hs lw.Ds k i ds B = .ok v B) (hn : k ≤ n) : G n i ds = M.ret v := by
  funext B
  exact FF_ok (h B) hn
theorem fuelx {n i k c : Nat} {ds : List D} (h : ∀ B, FFk 60 lw.Mk lw.Hs lw.Ds k i ds B = .ex c B) (hn : k ≤ n) : G n i ds = M.raise c := by
  funext B
  exact FF_ex (h B) hn
/-! ### the law's own trimming -/
def nzs (l : List Int) : List (Int × Nat) := l.zipIdx.filter fun q => !(q.1 == 0)
theorem nzs_snoc (l : List Int) (x : Int) : nzs (l ++ [x]) = if x = 0 then nzs l else nzs l ++ [(x, l.length)] := by
  unfold nzs
  rw [List.zipIdx_append, List.filter_append]
  by_cases h : x = 0
  · rw [if_pos h]
    simp [h]
  · rw [if_neg h]
    have : (x == 0) = false := beq_false_of_ne h
    simp [h]
theorem nzs_spec : ∀ (n : Nat) (l : List Int), l.length = n → (nzs l = [] → trimL l = []) ∧ ∀ h : nzs l ≠ [], trimL l = l.take (((nzs l).getLast h).2 + 1) ∧ ((nzs l).getLast h).2 < l.length
  | 0, l, hl => by
    have : l = [] := List.eq_nil_of_length_eq_zero hl
    subst this
    exact ⟨fun _ => rfl, fun h => absurd rfl h⟩
  | n + 1, l, hl => by
    rcases List.eq_nil_or_concat l with rfl | ⟨p, x, ep⟩
    · cases hl
    · rw [List.concat_eq_append] at ep
      subst ep
      obtain ⟨i1, i2⟩ := nzs_spec n p (by simpa using hl)
      have e := nzs_snoc p x
      by_cases hx : x = 0
      · rw [if_pos hx] at e
        have e2 := trimL_snoc p x
        rw [if_pos hx] at e2
        refine ⟨fun h => by rw [e2]; exact i1 (by rw [← e]; exact h), fun h => ?_⟩
        have h' : nzs p ≠ [] := by rw [← e]; exact h
        obtain ⟨j1, j2⟩ := i2 h'
        have eg : (nzs (p ++ [x])).getLast h = (nzs p).getLast h' := by congr 1
        rw [eg, e2, List.take_append_of_le_length (by omega)]
        exact ⟨j1, by simp; omega⟩
      · rw [if_neg hx] at e
        refine ⟨fun h => by rw [e] at h; simp at h, fun h => ?_⟩
        have eg : (nzs (p ++ [x])).getLast h = (x, p.length) := by
          have : (nzs (p ++ [x])).getLast h = (nzs p ++ [(x, p.length)]).getLast (by simp) := by congr 1
          rw [this, List.getLast_concat]
        rw [eg, trimL_snoc, if_neg hx]
        refine ⟨?_, by simp⟩
        rw [List.take_of_length_le (by simp)]
theorem cut_il (l : List Int) (k : Nat) : Pl.cutD (il l) none (some (k : Int)) = il (l.take k) := by
  unfold Pl.cutD
  rw [HT.sIx_none, HT.sIx_nat]
  simp
theorem s54 {n : Nat} (hn : 1 ≤ n) (l : List Int) : G n 54 [ll l] = M.ret (tl (trimL l)) := by
  obtain ⟨m, rfl, h⟩ := pred hn
  show finM (runs (cf m) d54.body [.v (ll l), .e, .e, .e]) = _
  unfold d54
  have e1 : ev (cf m) (.lc (.t [(.s 2), (.s 3)]) .enum [(.v 0)] [(.cmp .ne (.v 3) (.c (.int 0)))] (.v 2) [2, 3]) [.v (ll l), .e, .e, .e] = M.ret (.lst ((nzs l).map fun q => D.int q.2)) := by
    simp only [runs, Pl.run, ev, evs, evo, evAn, evOr, evT, evTs, evTan, evTor, Pl.evF, bind_ret, bind_lift, bind_bind, lift_some, then_ret, then_rt, fin_rt, fin_nx, calm_ret, bind_raise, then_raise, fin_raise, rse_eq, M.lst, lstM, getV_0, getV_s, getO_0, getO_s, List.getElem?_cons_zero, List.getElem?_cons_succ, List.set_cons_zero, List.set_cons_succ, List.length_cons, List.length_nil, List.length_map, List.length_append, bin_add, bin_sub, bin_subb, cmp_lt, cmp_le, cmp_gt, cmp_ge, cmp_eq, cmp_ne, tru_bl, tru_int, bi_lent, bi_lenl, bi_lens, bi_abs, bi_int, bi_max, bi_min, bi_tupt, bi_tupl, bi_listt, bi_listl, bi_all, bi_isi_int, bi_isi_bool, bi_isi_tup, set_s, set_t, sets_n, sets_c, par_n, par_c, aug_add, aug_sub, opt_n, opt_i, sl_t, sl_l, sl_s, rev_t, rev_l, it_t, it_l, it_s, it_et, it_el, it_zt, it_zl, wipe_n, wipe_c, ixm_t, ixm_l, setV, setO, Option.map_some, Option.bind_some, gsl, if_true, if_false, Bool.false_eq_true, reduceIte, Nat.zero_add, Nat.reduceAdd, Nat.reduceLT, SZ, Nat.reduceLeDiff, Nat.zero_le]
    rw [enum_il, lcM_onf _ (fun q : Int × Nat => !(q.1 == 0)) (fun q => D.int q.2)]
    · rfl
    · intro q hq
      simp only [runs, Pl.run, ev, evs, evo, evAn, evOr, evT, evTs, evTan, evTor, Pl.evF, bind_ret, bind_lift, bind_bind, lift_some, then_ret, then_rt, fin_rt, fin_nx, calm_ret, bind_raise, then_raise, fin_raise, rse_eq, M.lst, lstM, getV_0, getV_s, getO_0, getO_s, List.getElem?_cons_zero, List.getElem?_cons_succ, List.set_cons_zero, List.set_cons_succ, List.length_cons, List.length_nil, List.length_map, List.length_append, bin_add, bin_sub, bin_subb, cmp_lt, cmp_le, cmp_gt, cmp_ge, cmp_eq, cmp_ne, tru_bl, tru_int, bi_lent, bi_lenl, bi_lens, bi_abs, bi_int, bi_max, bi_min, bi_tupt, bi_tupl, bi_listt, bi_listl, bi_all, bi_isi_int, bi_isi_bool, bi_isi_tup, set_s, set_t, sets_n, sets_c, par_n, par_c, aug_add, aug_sub, opt_n, opt_i, sl_t, sl_l, sl_s, rev_t, rev_l, it_t, it_l, it_s, it_et, it_el, it_zt, it_zl, wipe_n, wipe_c, ixm_t, ixm_l, setV, setO, Option.map_some, Option.bind_some, gsl, if_true, if_false, Bool.false_eq_true, reduceIte, Nat.zero_add, Nat.reduceAdd, Nat.reduceLT, SZ, Nat.reduceLeDiff, Nat.zero_le]
      cases (q.1 == 0) <;> rfl
  rw [runs_ok (set_ok (i := 1) e1 (by simp))]
  obtain ⟨i1, i2⟩ := nzs_spec l.length l rfl
  by_cases he : nzs l = []
  · rw [i1 he]
    refine (congrArg finM (runs_rt (ret_ok' (ev_ite (k := false) (evT_cmp (ev_bi1 rfl (bi_lenl _)) rfl ?_) rfl)))).trans rfl
    rw [he]
    rfl
  · obtain ⟨j1, j2⟩ := i2 he
    have hp : 0 < (nzs l).length := List.length_pos_iff.mpr he
    have la : atI ((nzs l).map fun q => D.int q.2) (-1) = some (.int ((nzs l).getLast he).2) := by
      unfold atI ixN
      rw [if_neg (by omega), if_pos (by simp; omega)]
      have : ((-1 : Int) + (((nzs l).map fun q => D.int q.2).length : Int)).toNat = (nzs l).length - 1 := by simp; omega
      show ((nzs l).map fun q => D.int q.2)[((-1 : Int) + (((nzs l).map fun q => D.int q.2).length : Int)).toNat]? = _
      rw [this]
      simp [List.getElem?_eq_getElem (show (nzs l).length - 1 < (nzs l).length by omega), List.getLast_eq_getElem]
    rw [j1]
    refine (congrArg finM (runs_rt (ret_ok' (ev_ite (k := true) (evT_cmp (ev_bi1 rfl (bi_lenl _)) rfl ?_) ?_)))).trans rfl
    · rw [cmp_gt, decide_eq_true (by simp; omega)]
    · rw [if_pos rfl]
      simp only [runs, Pl.run, ev, evs, evo, evAn, evOr, evT, evTs, evTan, evTor, Pl.evF, bind_ret, bind_lift, bind_bind, lift_some, then_ret, then_rt, fin_rt, fin_nx, calm_ret, bind_raise, then_raise, fin_raise, rse_eq, M.lst, lstM, getV_0, getV_s, getO_0, getO_s, List.getElem?_cons_zero, List.getElem?_cons_succ, List.set_cons_zero, List.set_cons_succ, List.length_cons, List.length_nil, List.length_map, List.length_append, bin_add, bin_sub, bin_subb, cmp_lt, cmp_le, cmp_gt, cmp_ge, cmp_eq, cmp_ne, tru_bl, tru_int, bi_lent, bi_lenl, bi_lens, bi_abs, bi_int, bi_max, bi_min, bi_tupt, bi_tupl, bi_listt, bi_listl, bi_all, bi_isi_int, bi_isi_bool, bi_isi_tup, set_s, set_t, sets_n, sets_c, par_n, par_c, aug_add, aug_sub, opt_n, opt_i, sl_t, sl_l, sl_s, rev_t, rev_l, it_t, it_l, it_s, it_et, it_el, it_zt, it_zl, wipe_n, wipe_c, ixm_t, ixm_l, setV, setO, Option.map_some, Option.bind_some, gsl, if_true, if_false, Bool.false_eq_true, reduceIte, Nat.zero_add, Nat.reduceAdd, Nat.reduceLT, SZ, Nat.reduceLeDiff, Nat.zero_le]
      rw [la]
      simp only [runs, Pl.run, ev, evs, evo, evAn, evOr, evT, evTs, evTan, evTor, Pl.evF, bind_ret, bind_lift, bind_bind, lift_some, then_ret, then_rt, fin_rt, fin_nx, calm_ret, bind_raise, then_raise, fin_raise, rse_eq, M.lst, lstM, getV_0, getV_s, getO_0, getO_s, List.getElem?_cons_zero, List.getElem?_cons_succ, List.set_cons_zero, List.set_cons_succ, List.length_cons, List.length_nil, List.length_map, List.length_append, bin_add, bin_sub, bin_subb, cmp_lt, cmp_le, cmp_gt, cmp_ge, cmp_eq, cmp_ne, tru_bl, tru_int, bi_lent, bi_lenl, bi_lens, bi_abs, bi_int, bi_max, bi_min, bi_tupt, bi_tupl, bi_listt, bi_listl, bi_all, bi_isi_int, bi_isi_bool, bi_isi_tup, set_s, set_t, sets_n, sets_c, par_n, par_c, aug_add, aug_sub, opt_n, opt_i, sl_t, sl_l, sl_s, rev_t, rev_l, it_t, it_l, it_s, it_et, it_el, it_zt, it_zl, wipe_n, wipe_c, ixm_t, ixm_l, setV, setO, Option.map_some, Option.bind_some, gsl, if_true, if_false, Bool.false_eq_true, reduceIte, Nat.zero_add, Nat.reduceAdd, Nat.reduceLT, SZ, Nat.reduceLeDiff, Nat.zero_le]
      rw [show (((nzs l).getLast he).2 : Int) + 1 = ((((nzs l).getLast he).2 + 1 : Nat) : Int) by omega, cut_il]
/-! ### the law's own difference -/
def lineL : Nat → List Int
  | 0 => [1]
  | 1 => [1, 1]
  | 2 => [1, 2, 1]
  | 3 => [1, 3, 3, 1]
  | 4 => [1, 4, 6, 4, 1]
  | _ => [1, 5, 10, 10, 5, 1]
theorem line_next {n : Nat} (hn : 3 ≤ n) {k : Nat} (hk : k < 4) : G n 55 [ll (lineL k), ll [1, 1]] = M.ret (ll (lineL (k + 1))) := by
  rcases k with _ | _ | _ | _ | k
  · exact fuel (k := 3) (fun B => by kernel_rfl) hn
  · exact fuel (k := 3) (fun B => by kernel_rfl) hn
  · exact fuel (k := 3) (fun B => by kernel_rfl) hn
  · exact fuel (k := 3) (fun B => by kernel_rfl) hn
  · omega
def lgS (f : List Int) (q : Int × Nat) : List Int := (lineL q.2).dropLast.zipIdx.foldl (stepI 0 q.1) f
def lgF (l : List Int) : List Int := l.zipIdx.foldl lgS (List.replicate l.length 0)
theorem lgS_len (f : List Int) (q : Int × Nat) : (lgS f q).length = f.length := foldI_len _ _ _ _
theorem s57 {n : Nat} (hn : 5 ≤ n) {l : List Int} (hl : l.length ≤ 5) (hb : Bd 1000000 l) : G n 57 [tl l] = M.ret (tl (trimL (lgF l))) := by
  obtain ⟨m, rfl, h⟩ := pred hn
  show finM (runs (cf m) d57.body [.v (tl l), .e, .e, .e, .e, .e, .e, .e]) = _
  unfold d57
  have e0 : Pl.run (cf m) (.seto 1 (.bin .mul (.lst [(.c (.int 0))]) (.bi .len [(.v 0)]))) [.v (tl l), .e, .e, .e, .e, .e, .e, .e] = M.ret (.nx [.v (tl l), .o (il (List.replicate l.length 0)), .e, .e, .e, .e, .e, .e]) := by
    have : binD .mul (.lst [.int 0]) (.int (l.length : Int)) = some (ll (List.replicate l.length 0)) := by
      rw [bin_mull, if_pos ⟨by decide, by omega, by omega⟩, Int.toNat_natCast, ← il_rep]
    simp only [runs, Pl.run, ev, evs, evo, evAn, evOr, evT, evTs, evTan, evTor, Pl.evF, bind_ret, bind_lift, bind_bind, lift_some, then_ret, then_rt, fin_rt, fin_nx, calm_ret, bind_raise, then_raise, fin_raise, rse_eq, M.lst, lstM, getV_0, getV_s, getO_0, getO_s, List.getElem?_cons_zero, List.getElem?_cons_succ, List.set_cons_zero, List.set_cons_succ, List.length_cons, List.length_nil, List.length_map, List.length_append, bin_add, bin_sub, bin_subb, cmp_lt, cmp_le, cmp_gt, cmp_ge, cmp_eq, cmp_ne, tru_bl, tru_int, bi_lent, bi_lenl, bi_lens, bi_abs, bi_int, bi_max, bi_min, bi_tupt, bi_tupl, bi_listt, bi_listl, bi_all, bi_isi_int, bi_isi_bool, bi_isi_tup, set_s, set_t, sets_n, sets_c, par_n, par_c, aug_add, aug_sub, opt_n, opt_i, sl_t, sl_l, sl_s, rev_t, rev_l, it_t, it_l, it_s, it_et, it_el, it_zt, it_zl, wipe_n, wipe_c, ixm_t, ixm_l, setV, setO, Option.map_some, Option.bind_some, gsl, if_true, if_false, Bool.false_eq_true, reduceIte, Nat.zero_add, Nat.reduceAdd, Nat.reduceLT, SZ, Nat.reduceLeDiff, Nat.zero_le]
    unfold repM
    rw [this]
    rfl
  obtain ⟨r', e, x2, x3, x4, x5, x6, x7, rfl, hlen⟩ := forM_on (g := .t [(.s 2), (.s 3)]) (b := fun r => runs (cf m) [.set (.s 4) (.lst [(.c (.int 1))]),
      .fr (.s 5) .rng [(.v 2)]
        [.set (.s 4) (.call 55 [(.v 4), (.lst [(.c (.int 1)), (.c (.int 1))])])],
      .fr (.t [(.s 6), (.s 7)]) .enum [(.sl (.v 4) none (some (.neg (.c (.int 1)))))]
        [.sto 1 (.v 6) (.bin .add (.ixo 1 (.v 6)) (.bin .mul (.v 3) (.v 7)))]] r) (stp := lgS) (fun q : Int × Nat => D.tup [.int q.2, .int q.1]) (fun f r => ∃ x2 x3 x4 x5 x6 x7, r = [.v (tl l), .o (il f), x2, x3, x4, x5, x6, x7] ∧ f.length = l.length) l.zipIdx (List.replicate l.length 0) [.v (tl l), .o (il (List.replicate l.length 0)), .e, .e, .e, .e, .e, .e] (fun f r q hq ⟨x2, x3, x4, x5, x6, x7, er, hf⟩ => by
        subst er
        obtain ⟨hq1, hq2⟩ := mem_zipIdx hq
        refine ⟨[.v (tl l), .o (il f), .v (.int q.2), .v (.int q.1), x4, x5, x6, x7], rfl, ?_⟩
        -- the line
        obtain ⟨r2, e2, y5, rfl⟩ := forM_pre (g := .s 5) (b := fun r => runs (cf m) [.set (.s 4) (.call 55 [(.v 4), (.lst [(.c (.int 1)), (.c (.int 1))])])] r) (fun i : Nat => D.int (0 + (i : Nat))) (fun pre r => ∃ y5, r = [.v (tl l), .o (il f), .v (.int q.2), .v (.int q.1), .v (ll (lineL pre.length)), y5, x6, x7]) (List.range q.2) [] [.v (tl l), .o (il f), .v (.int q.2), .v (.int q.1), .v (ll [1]), x5, x6, x7] (fun pre a s r e ⟨y5, er⟩ => by
          subst er
          have hlen : pre.length < 4 := by
            have := congrArg List.length e
            simp at this
            omega
          refine ⟨[.v (tl l), .o (il f), .v (.int q.2), .v (.int q.1), .v (ll (lineL pre.length)), .v (.int (0 + (a : Nat))), x6, x7], rfl, [.v (tl l), .o (il f), .v (.int q.2), .v (.int q.1), .v (ll (lineL (pre ++ [a]).length)), .v (.int (0 + (a : Nat))), x6, x7], ?_, _, rfl⟩
          rw [List.length_append]
          exact runs_ok (set_ok (i := 4) (ev_call2 rfl rfl (line_next (by omega) hlen)) (by simp))) ⟨_, rfl⟩
        rw [List.nil_append, List.length_range] at e2
        -- the sums
        obtain ⟨r3, e3, z6, z7, rfl, hf3⟩ := forM_on (g := .t [(.s 6), (.s 7)]) (b := fun r => runs (cf m) [.sto 1 (.v 6) (.bin .add (.ixo 1 (.v 6)) (.bin .mul (.v 3) (.v 7)))] r) (stp := stepI 0 q.1) (fun p : Int × Nat => D.tup [.int p.2, .int p.1]) (fun f r => ∃ z6 z7, r = [.v (tl l), .o (il f), .v (.int q.2), .v (.int q.1), .v (ll (lineL q.2)), y5, z6, z7] ∧ f.length = l.length) (lineL q.2).dropLast.zipIdx f [.v (tl l), .o (il f), .v (.int q.2), .v (.int q.1), .v (ll (lineL q.2)), y5, x6, x7] (fun f r p hp ⟨z6, z7, er, hf⟩ => by
          subst er
          obtain ⟨hp1, hp2⟩ := mem_zipIdx hp
          have hll : (lineL q.2).length = q.2 + 1 := by
            have : q.2 < 5 := by omega
            obtain ⟨a, i⟩ := q
            rcases i with _ | _ | _ | _ | _ | i <;> first | rfl | omega
          have hsm : p.1.natAbs ≤ 10 := by
            have : ∀ i, i < 6 → ∀ x ∈ lineL i, x.natAbs ≤ 10 := by decide
            exact this q.2 (by omega) p.1 (List.dropLast_subset _ hp2)
          have hk : p.2 < f.length := by
            simp at hp1
            omega
          refine ⟨[.v (tl l), .o (il f), .v (.int q.2), .v (.int q.1), .v (ll (lineL q.2)), y5, .v (.int p.2), .v (.int p.1)], rfl, [.v (tl l), .o (il (stepI 0 q.1 f p)), .v (.int q.2), .v (.int q.1), .v (ll (lineL q.2)), y5, .v (.int p.2), .v (.int p.1)], ?_, _, _, rfl, by rw [stepI_len]; exact hf⟩
          have m1 : binD .mul (.int q.1) (.int p.1) = some (.int (q.1 * p.1)) := by rw [bin_mul, if_pos (mo (sm100 (hb _ hq2)) (sm100 (by omega)))]
          simp only [runs, Pl.run, ev, evs, evo, evAn, evOr, evT, evTs, evTan, evTor, Pl.evF, bind_ret, bind_lift, bind_bind, lift_some, then_ret, then_rt, fin_rt, fin_nx, calm_ret, bind_raise, then_raise, fin_raise, rse_eq, M.lst, lstM, getV_0, getV_s, getO_0, getO_s, List.getElem?_cons_zero, List.getElem?_cons_succ, List.set_cons_zero, List.set_cons_succ, List.length_cons, List.length_nil, List.length_map, List.length_append, bin_add, bin_sub, bin_subb, cmp_lt, cmp_le, cmp_gt, cmp_ge, cmp_eq, cmp_ne, tru_bl, tru_int, bi_lent, bi_lenl, bi_lens, bi_abs, bi_int, bi_max, bi_min, bi_tupt, bi_tupl, bi_listt, bi_listl, bi_all, bi_isi_int, bi_isi_bool, bi_isi_tup, set_s, set_t, sets_n, sets_c, par_n, par_c, aug_add, aug_sub, opt_n, opt_i, sl_t, sl_l, sl_s, rev_t, rev_l, it_t, it_l, it_s, it_et, it_el, it_zt, it_zl, wipe_n, wipe_c, ixm_t, ixm_l, setV, setO, Option.map_some, Option.bind_some, gsl, if_true, if_false, Bool.false_eq_true, reduceIte, Nat.zero_add, Nat.reduceAdd, Nat.reduceLT, SZ, Nat.reduceLeDiff, Nat.zero_le]
          rw [ix_il hk]
          simp only [runs, Pl.run, ev, evs, evo, evAn, evOr, evT, evTs, evTan, evTor, Pl.evF, bind_ret, bind_lift, bind_bind, lift_some, then_ret, then_rt, fin_rt, fin_nx, calm_ret, bind_raise, then_raise, fin_raise, rse_eq, M.lst, lstM, getV_0, getV_s, getO_0, getO_s, List.getElem?_cons_zero, List.getElem?_cons_succ, List.set_cons_zero, List.set_cons_succ, List.length_cons, List.length_nil, List.length_map, List.length_append, bin_add, bin_sub, bin_subb, cmp_lt, cmp_le, cmp_gt, cmp_ge, cmp_eq, cmp_ne, tru_bl, tru_int, bi_lent, bi_lenl, bi_lens, bi_abs, bi_int, bi_max, bi_min, bi_tupt, bi_tupl, bi_listt, bi_listl, bi_all, bi_isi_int, bi_isi_bool, bi_isi_tup, set_s, set_t, sets_n, sets_c, par_n, par_c, aug_add, aug_sub, opt_n, opt_i, sl_t, sl_l, sl_s, rev_t, rev_l, it_t, it_l, it_s, it_et, it_el, it_zt, it_zl, wipe_n, wipe_c, ixm_t, ixm_l, setV, setO, Option.map_some, Option.bind_some, gsl, if_true, if_false, Bool.false_eq_true, reduceIte, Nat.zero_add, Nat.reduceAdd, Nat.reduceLT, SZ, Nat.reduceLeDiff, Nat.zero_le]
          rw [m1]
          simp only [runs, Pl.run, ev, evs, evo, evAn, evOr, evT, evTs, evTan, evTor, Pl.evF, bind_ret, bind_lift, bind_bind, lift_some, then_ret, then_rt, fin_rt, fin_nx, calm_ret, bind_raise, then_raise, fin_raise, rse_eq, M.lst, lstM, getV_0, getV_s, getO_0, getO_s, List.getElem?_cons_zero, List.getElem?_cons_succ, List.set_cons_zero, List.set_cons_succ, List.length_cons, List.length_nil, List.length_map, List.length_append, bin_add, bin_sub, bin_subb, cmp_lt, cmp_le, cmp_gt, cmp_ge, cmp_eq, cmp_ne, tru_bl, tru_int, bi_lent, bi_lenl, bi_lens, bi_abs, bi_int, bi_max, bi_min, bi_tupt, bi_tupl, bi_listt, bi_listl, bi_all, bi_isi_int, bi_isi_bool, bi_isi_tup, set_s, set_t, sets_n, sets_c, par_n, par_c, aug_add, aug_sub, opt_n, opt_i, sl_t, sl_l, sl_s, rev_t, rev_l, it_t, it_l, it_s, it_et, it_el, it_zt, it_zl, wipe_n, wipe_c, ixm_t, ixm_l, setV, setO, Option.map_some, Option.bind_some, gsl, if_true, if_false, Bool.false_eq_true, reduceIte, Nat.zero_add, Nat.reduceAdd, Nat.reduceLT, SZ, Nat.reduceLeDiff, Nat.zero_le]
          rw [st_il hk]
          unfold stepI
          rw [Nat.zero_add]
          rfl) ⟨_, _, rfl, hf⟩
        have cutl : slD (ll (lineL q.2)) none (some (-1)) = some (ll (lineL q.2).dropLast) := by
          have : q.2 < 5 := by omega
          obtain ⟨a, i⟩ := q
          rcases i with _ | _ | _ | _ | _ | i <;> first | rfl | omega
        refine ⟨[.v (tl l), .o (il (lgS f q)), .v (.int q.2), .v (.int q.1), .v (ll (lineL q.2)), y5, z6, z7], ?_, _, _, _, _, _, _, rfl, hf3⟩
        rw [runs_ok (r1 := [.v (tl l), .o (il f), .v (.int q.2), .v (.int q.1), .v (ll [1]), x5, x6, x7]) rfl, runs_ok ((fr_ok (xs := [.int q.2]) rfl (by rw [it_r, if_pos (by omega)]; rfl)).trans e2)]
        refine runs_ok ((fr_ok (xs := [ll (lineL q.2).dropLast]) ?_ (by rw [it_el, enum_il])).trans e3)
        show M.bind (M.bind (M.ret (ll (lineL q.2))) _) _ = _
        show M.bind (M.lift (slD (ll (lineL q.2)) none (some (-1)))) _ = _
        rw [cutl]
        rfl) ⟨_, _, _, _, _, _, rfl, by simp⟩
  rw [runs_ok e0, runs_ok ((fr_ok (xs := [tl l]) rfl (by rw [it_et, enum_il])).trans e), runs_ok (r1 := [.v (tl l), .v (ll (lgF l)), x2, x3, x4, x5, x6, x7]) rfl, runs_rt (ret_ok' (ev_call1 rfl (s54 (by omega) _)))]
  rfl
end Md

-- part V6
set_option maxHeartbeats 4000000
set_option exponentiation.threshold 3000
namespace Md
open PySem PySem.Spec PyProof.Rows L2 Pl
def facI : Nat → Int
  | 0 => 1
  | k + 1 => facI k * (1 + (k : Int))
def scI (w : Int) : Nat → Int
  | 0 => w
  | k + 1 => (scI w k).fdiv ((k : Int) + 1)
def fall : Nat → List Int
  | 0 => [1]
  | 1 => [0, 1]
  | 2 => [0, -1, 1]
  | 3 => [0, 2, -3, 1]
  | 4 => [0, -6, 11, -6, 1]
  | 5 => [0, 24, -50, 35, -10, 1]
  | _ => [0, -120, 274, -225, 85, -15, 1]
def dfL (l : List Int) : List Int := (l.zip l.tail).map fun p => p.2 - p.1
def dfN (l : List Int) : Nat → List Int
  | 0 => l
  | k + 1 => dfL (dfN l k)
def prt (w : Int) (l : List Int) (k : Nat) : Int := (dfN l k).getD 0 0 * scI w k
def fF (w : Int) (l : List Int) : Nat → List Int
  | 0 => []
  | k + 1 => if prt w l k = 0 then fF w l k else trimL (addL (fF w l k) (trimL (scL (prt w l k) (fall k))))
def lF (w : Int) (l : List Int) : Nat → List Int
  | 0 => List.replicate l.length 0
  | k + 1 => (lF w l k).zipIdx.map fun q => q.1 + prt w l k * co (fall k) q.2
theorem fall_next {n : Nat} (hn : 2 ≤ n) {k : Nat} (hk : k < 6) : G n 18 [tl (fall k), tl [-(0 + (k : Int)), 1]] = M.ret (tl (fall (k + 1))) := by
  rcases k with _ | _ | _ | _ | _ | _ | k <;> first | omega | exact fuel (k := 2) (fun B => by kernel_rfl) hn
theorem fall_next' {n : Nat} (hn : 2 ≤ n) {k : Nat} (hk : k < 6) : G n 55 [ll (fall k), ll [0 - (0 + (k : Int)), 1]] = M.ret (ll (fall (k + 1))) := by
  rcases k with _ | _ | _ | _ | _ | _ | k <;> first | omega | exact fuel (k := 2) (fun B => by kernel_rfl) hn
theorem fall_len {k : Nat} (hk : k ≤ 6) : (fall k).length = k + 1 := by
  rcases k with _ | _ | _ | _ | _ | _ | _ | k <;> first | rfl | omega
theorem fall_sm (k : Nat) : Sm (fall k) := by
  have : ∀ i, i ≤ 6 → Bd 300 (fall i) := by
    intro i hi
    rcases i with _ | _ | _ | _ | _ | _ | _ | i <;> first | (intro x hx; revert x; decide) | omega
  by_cases h : k ≤ 6
  · exact (this k h).sm (by decide)
  · have e : fall k = fall 6 := by
      rcases k with _ | _ | _ | _ | _ | _ | _ | k <;> first | rfl | omega
    rw [e]
    exact (this 6 (by omega)).sm (by decide)
theorem dfL_len (l : List Int) : (dfL l).length = l.length - 1 := by
  unfold dfL
  simp
theorem dfN_len (l : List Int) : ∀ k, (dfN l k).length = l.length - k
  | 0 => rfl
  | k + 1 => by
    show (dfL (dfN l k)).length = _
    rw [dfL_len, dfN_len l k]
    omega
theorem dfL_bd {m : Nat} {l : List Int} (h : Bd m l) : Bd (2 * m) (dfL l) := fun x hx => by
  unfold dfL at hx
  obtain ⟨⟨a, b⟩, hp, rfl⟩ := List.mem_map.mp hx
  have h1 := h a (List.of_mem_zip hp).1
  have h2 := h b (List.mem_of_mem_tail (List.of_mem_zip hp).2)
  show (b - a).natAbs ≤ _
  omega
theorem dfN_bd {m : Nat} {l : List Int} (h : Bd m l) : ∀ k, Bd (2 ^ k * m) (dfN l k)
  | 0 => by rw [Nat.pow_zero, Nat.one_mul]; exact h
  | k + 1 => by
    have := dfL_bd (dfN_bd h k)
    rw [← Nat.mul_assoc, Nat.mul_comm 2, ← Nat.pow_succ] at this
    exact this
theorem sc_bd {m k : Nat} (hm : m < 6) (hk : k ≤ 6) : (scI (facI m) k).natAbs ≤ 120 := by
  have : ∀ m, m < 6 → ∀ k, k ≤ 6 → (scI (facI m) k).natAbs ≤ 120 := by decide
  exact this m hm k hk
theorem fac_bd {m : Nat} (hm : m < 6) : (facI m).natAbs ≤ 120 := sc_bd hm (Nat.zero_le _)
theorem fac_sc {m k : Nat} (hm : m < 6) (hk : k ≤ m) : (facI m).fdiv (facI k) = scI (facI m) k ∧ divOk (facI k) = true := by
  have : ∀ m, m < 6 → ∀ k, k ≤ m → (facI m).fdiv (facI k) = scI (facI m) k ∧ divOk (facI k) = true := by decide
  exact this m hm k hk
theorem fF_len (w : Int) (l : List Int) : ∀ k, k ≤ 6 → (fF w l k).length ≤ k
  | 0, _ => Nat.le_refl _
  | k + 1, h => by
    unfold fF
    have := fF_len w l k (by omega)
    split
    · omega
    · refine Nat.le_trans (trimL_len _) ?_
      rw [addL_len]
      have h1 := trimL_len (scL (prt w l k) (fall k))
      have h2 : (scL (prt w l k) (fall k)).length = k + 1 := by
        unfold scL
        rw [List.length_map, fall_len (by omega)]
      omega
theorem co_fF (w : Int) (l : List Int) (k i : Nat) : co (fF w l (k + 1)) i = co (fF w l k) i + prt w l k * co (fall k) i := by
  show co (if prt w l k = 0 then fF w l k else trimL (addL (fF w l k) (trimL (scL (prt w l k) (fall k))))) i = _
  split
  · rename_i h
    rw [h]
    simp
  · rw [co_trim, co_add, co_trim, co_sc]
theorem lF_len (w : Int) (l : List Int) : ∀ k, (lF w l k).length = l.length
  | 0 => by simp [lF]
  | k + 1 => by
    unfold lF
    simp [lF_len w l k]
theorem co_lF (w : Int) (l : List Int) (k i : Nat) (h : i < l.length) : co (lF w l (k + 1)) i = co (lF w l k) i + prt w l k * co (fall k) i := by
  have h1 := lF_len w l k
  show co ((lF w l k).zipIdx.map fun q => q.1 + prt w l k * co (fall k) q.2) i = _
  rw [co_get (by simpa [h1] using h), co_get (by omega)]
  simp
theorem lF_fF (w : Int) (l : List Int) : ∀ k, k ≤ l.length → k ≤ 6 → ∀ i, co (lF w l k) i = co (fF w l k) i
  | 0, _, _, i => by
    unfold lF fF
    rw [co_rep, co_nil]
  | k + 1, h, h6, i => by
    by_cases hi : i < l.length
    · rw [co_lF w l k i hi, co_fF, lF_fF w l k (by omega) (by omega) i]
    · rw [co_big (by rw [lF_len]; omega), co_big (Nat.le_trans (fF_len w l (k + 1) h6) (by omega))]
/-- the row through heights -/
def fhL (l : List Int) : List Int := trimL (fF (facI (l.length - 1)) l l.length)
theorem fh_lF {l : List Int} (h : l.length ≤ 6) : trimL (lF (facI (l.length - 1)) l l.length) = fhL l := trim_ext fun i => lF_fF _ l l.length (Nat.le_refl _) h i
theorem cut1_il (l : List Int) : Pl.cutD (il l) (some 1) none = il l.tail := by
  unfold Pl.cutD
  have e : HT.sIx (il l).length 0 (some 1) = min 1 (il l).length := HT.sIx_nat (il l).length 0 1
  rw [HT.sIx_none, e]
  cases l with
  | nil => rfl
  | cons a l =>
    simp only [il, List.map_cons, List.length_cons, List.length_map, List.tail_cons]
    rw [show min 1 (l.length + 1) = 1 by omega, List.drop_one, List.tail_cons, Nat.add_sub_cancel, List.take_of_length_le (by simp)]
theorem fac_loop {C : Cf} {x0 : D} : True := trivial
theorem all100 {m : Nat} (h : 1 ≤ m) {l : List Int} (hb : Bd 100 l) (w : List D) : True := trivial
theorem s49 {n : Nat} (hn : 4 ≤ n) {l : List Int} (h1 : 1 ≤ l.length) (h6 : l.length ≤ 6) (hb : Bd 100 l) : G n 49 [tl l] = M.ret (.tup [tl (fhL l), .int (facI (l.length - 1))]) := by
  obtain ⟨m, rfl, h⟩ := pred hn
  show finM (runs (cf m) d49.body [.v (tl l), .e, .e, .e, .e, .e, .e, .e, .e, .e, .e, .e, .e]) = _
  unfold d49
  have t1 : evT (cf m) (.or [(.nt (.tv (.bi .isi [(.v 0), (.c (.ty "tuple"))]))), (.nt (.ch .le .le (.c (.int 1)) (.bi .len [(.v 0)]) (.c (.int 6))))]) [.v (tl l), .e, .e, .e, .e, .e, .e, .e, .e, .e, .e, .e, .e] = M.ret false := by
    simp only [runs, Pl.run, ev, evs, evo, evAn, evOr, evT, evTs, evTan, evTor, Pl.evF, bind_ret, bind_lift, bind_bind, lift_some, then_ret, then_rt, fin_rt, fin_nx, calm_ret, bind_raise, then_raise, fin_raise, rse_eq, M.lst, lstM, getV_0, getV_s, getO_0, getO_s, List.getElem?_cons_zero, List.getElem?_cons_succ, List.set_cons_zero, List.set_cons_succ, List.length_cons, List.length_nil, List.length_map, List.length_append, bin_add, bin_sub, bin_subb, cmp_lt, cmp_le, cmp_gt, cmp_ge, cmp_eq, cmp_ne, tru_bl, tru_int, bi_lent, bi_lenl, bi_lens, bi_abs, bi_int, bi_max, bi_min, bi_tupt, bi_tupl, bi_listt, bi_listl, bi_all, bi_isi_int, bi_isi_bool, bi_isi_tup, set_s, set_t, sets_n, sets_c, par_n, par_c, aug_add, aug_sub, opt_n, opt_i, sl_t, sl_l, sl_s, rev_t, rev_l, it_t, it_l, it_s, it_et, it_el, it_zt, it_zl, wipe_n, wipe_c, ixm_t, ixm_l, setV, setO, Option.map_some, Option.bind_some, gsl, if_true, if_false, Bool.false_eq_true, reduceIte, Nat.zero_add, Nat.reduceAdd, Nat.reduceLT, SZ, Nat.reduceLeDiff, Nat.zero_le]
    rw [decide_eq_true (show (1 : Int) ≤ (l.length : Int) by omega), decide_eq_true (show (l.length : Int) ≤ 6 by omega)]
    rfl
  have t2 : evT (cf m) (.nt (.tv (.bi .all [(.lc (.s 10) .seq [(.v 0)] [] (.an [(.call 0 [(.v 10)]), (.cmp .le (.bi .abs [(.v 10)]) (.c (.int 100)))]) [10])]))) [.v (tl l), .e, .e, .e, .e, .e, .e, .e, .e, .e, .e, .e, .e] = M.ret false := by
    simp only [runs, Pl.run, ev, evs, evo, evAn, evOr, evT, evTs, evTan, evTor, Pl.evF, bind_ret, bind_lift, bind_bind, lift_some, then_ret, then_rt, fin_rt, fin_nx, calm_ret, bind_raise, then_raise, fin_raise, rse_eq, M.lst, lstM, getV_0, getV_s, getO_0, getO_s, List.getElem?_cons_zero, List.getElem?_cons_succ, List.set_cons_zero, List.set_cons_succ, List.length_cons, List.length_nil, List.length_map, List.length_append, bin_add, bin_sub, bin_subb, cmp_lt, cmp_le, cmp_gt, cmp_ge, cmp_eq, cmp_ne, tru_bl, tru_int, bi_lent, bi_lenl, bi_lens, bi_abs, bi_int, bi_max, bi_min, bi_tupt, bi_tupl, bi_listt, bi_listl, bi_all, bi_isi_int, bi_isi_bool, bi_isi_tup, set_s, set_t, sets_n, sets_c, par_n, par_c, aug_add, aug_sub, opt_n, opt_i, sl_t, sl_l, sl_s, rev_t, rev_l, it_t, it_l, it_s, it_et, it_el, it_zt, it_zl, wipe_n, wipe_c, ixm_t, ixm_l, setV, setO, Option.map_some, Option.bind_some, gsl, if_true, if_false, Bool.false_eq_true, reduceIte, Nat.zero_add, Nat.reduceAdd, Nat.reduceLT, SZ, Nat.reduceLeDiff, Nat.zero_le]
    simp only [cfF]
    rw [lcM_on D.int (fun x => D.bl (decide (x.natAbs ≤ 100)))]
    · simp only [runs, Pl.run, ev, evs, evo, evAn, evOr, evT, evTs, evTan, evTor, Pl.evF, bind_ret, bind_lift, bind_bind, lift_some, then_ret, then_rt, fin_rt, fin_nx, calm_ret, bind_raise, then_raise, fin_raise, rse_eq, M.lst, lstM, getV_0, getV_s, getO_0, getO_s, List.getElem?_cons_zero, List.getElem?_cons_succ, List.set_cons_zero, List.set_cons_succ, List.length_cons, List.length_nil, List.length_map, List.length_append, bin_add, bin_sub, bin_subb, cmp_lt, cmp_le, cmp_gt, cmp_ge, cmp_eq, cmp_ne, tru_bl, tru_int, bi_lent, bi_lenl, bi_lens, bi_abs, bi_int, bi_max, bi_min, bi_tupt, bi_tupl, bi_listt, bi_listl, bi_all, bi_isi_int, bi_isi_bool, bi_isi_tup, set_s, set_t, sets_n, sets_c, par_n, par_c, aug_add, aug_sub, opt_n, opt_i, sl_t, sl_l, sl_s, rev_t, rev_l, it_t, it_l, it_s, it_et, it_el, it_zt, it_zl, wipe_n, wipe_c, ixm_t, ixm_l, setV, setO, Option.map_some, Option.bind_some, gsl, if_true, if_false, Bool.false_eq_true, reduceIte, Nat.zero_add, Nat.reduceAdd, Nat.reduceLT, SZ, Nat.reduceLeDiff, Nat.zero_le]
      rw [bools_map]
      have : (l.map fun x => decide (x.natAbs ≤ 100)).all id = true := by
        rw [List.all_map, List.all_eq_true]
        intro x hx
        simpa using hb x hx
      simp only [Option.map_some, this]
      rfl
    · intro x hx
      rw [s0 (by omega)]
      simp only [runs, Pl.run, ev, evs, evo, evAn, evOr, evT, evTs, evTan, evTor, Pl.evF, bind_ret, bind_lift, bind_bind, lift_some, then_ret, then_rt, fin_rt, fin_nx, calm_ret, bind_raise, then_raise, fin_raise, rse_eq, M.lst, lstM, getV_0, getV_s, getO_0, getO_s, List.getElem?_cons_zero, List.getElem?_cons_succ, List.set_cons_zero, List.set_cons_succ, List.length_cons, List.length_nil, List.length_map, List.length_append, bin_add, bin_sub, bin_subb, cmp_lt, cmp_le, cmp_gt, cmp_ge, cmp_eq, cmp_ne, tru_bl, tru_int, bi_lent, bi_lenl, bi_lens, bi_abs, bi_int, bi_max, bi_min, bi_tupt, bi_tupl, bi_listt, bi_listl, bi_all, bi_isi_int, bi_isi_bool, bi_isi_tup, set_s, set_t, sets_n, sets_c, par_n, par_c, aug_add, aug_sub, opt_n, opt_i, sl_t, sl_l, sl_s, rev_t, rev_l, it_t, it_l, it_s, it_et, it_el, it_zt, it_zl, wipe_n, wipe_c, ixm_t, ixm_l, setV, setO, Option.map_some, Option.bind_some, gsl, if_true, if_false, Bool.false_eq_true, reduceIte, Nat.zero_add, Nat.reduceAdd, Nat.reduceLT, SZ, Nat.reduceLeDiff, Nat.zero_le]
      have : decide ((if x < 0 then -x else x) ≤ 100) = decide (x.natAbs ≤ 100) := by
        apply decide_eq_decide.mpr
        split <;> omega
      rw [this]
  obtain ⟨k, hk⟩ : ∃ k, l.length = k + 1 := ⟨l.length - 1, by omega⟩
  have hw : l.length - 1 = k := by omega
  -- the factorial
  obtain ⟨ra, ea, x2, rfl⟩ := forM_pre (g := .s 2) (b := fun r => runs (cf m) [.set (.s 6) (.bin .mul (.v 6) (.v 2))] r) (fun i : Nat => D.int (1 + (i : Nat))) (fun pre r => ∃ x2, r = [.v (tl l), .v (.int l.length), x2, .e, .e, .v (.tup []), .v (.int (facI pre.length)), .e, .e, .e, .e, .e, .e]) (List.range k) [] [.v (tl l), .v (.int l.length), .e, .e, .e, .v (.tup []), .v (.int 1), .e, .e, .e, .e, .e, .e] (fun pre a s r e ⟨x2, er⟩ => by
    subst er
    have hp : pre.length < k := by
      have := congrArg List.length e
      simp at this
      omega
    have ha : a = pre.length := by
      have := congrArg (fun z => z[pre.length]?) e
      simp at this
      rw [List.getElem?_range hp] at this
      exact Option.some.inj this
    subst ha
    refine ⟨[.v (tl l), .v (.int l.length), .v (.int (1 + (pre.length : Nat))), .e, .e, .v (.tup []), .v (.int (facI pre.length)), .e, .e, .e, .e, .e, .e], rfl, [.v (tl l), .v (.int l.length), .v (.int (1 + (pre.length : Nat))), .e, .e, .v (.tup []), .v (.int (facI (pre ++ [pre.length]).length)), .e, .e, .e, .e, .e, .e], ?_, _, rfl⟩
    rw [List.length_append]
    exact runs_ok (set_ok (i := 6) (ev_bin rfl rfl (by rw [bin_mul, if_pos (mo (sm100 (by have := fac_bd (m := pre.length) (by omega); omega)) (sm100 (by omega)))]; rfl)) (by simp))) ⟨_, rfl⟩
  rw [List.nil_append, List.length_range] at ea
  -- the sums
  obtain ⟨rb, eb, x4, x9, rfl⟩ := forM_pre (g := .s 4) (b := fun r => runs (cf m) [.set (.s 9) (.bin .mul (.ix (.v 8) (.c (.int 0))) (.v 3)),
      .set (.s 5) (.ite (.cmp .ne (.v 9) (.c (.int 0))) (.call 15 [(.v 5), (.call 16 [(.v 7), (.v 9)])]) (.v 5)),
      .set (.s 8) (.lc (.t [(.s 11), (.s 12)]) .zip [(.v 8), (.sl (.v 8) (some (.c (.int 1))) none)] [] (.bin .sub (.v 12) (.v 11)) [11, 12]),
      .set (.s 7) (.call 18 [(.v 7), (.tup [(.neg (.v 4)), (.c (.int 1))])]),
      .set (.s 3) (.bin .fdiv (.v 3) (.bin .add (.v 4) (.c (.int 1))))] r) (fun i : Nat => D.int (0 + (i : Nat))) (fun pre r => ∃ x4 x9, r = [.v (tl l), .v (.int l.length), x2, .v (.int (scI (facI k) pre.length)), x4, .v (tl (fF (facI k) l pre.length)), .v (.int (facI k)), .v (tl (fall pre.length)), .v (ll (dfN l pre.length)), x9, .e, .e, .e]) (List.range l.length) [] [.v (tl l), .v (.int l.length), x2, .v (.int (facI k)), .e, .v (tl []), .v (.int (facI k)), .v (tl [1]), .v (ll l), .e, .e, .e, .e] (fun pre a s r e ⟨x4, x9, er⟩ => by
    subst er
    have hp : pre.length < l.length := by
      have := congrArg List.length e
      simp at this
      omega
    have ha : a = pre.length := by
      have := congrArg (fun z => z[pre.length]?) e
      simp at this
      rw [List.getElem?_range hp] at this
      exact Option.some.inj this
    subst ha
    obtain ⟨j, hj⟩ : ∃ j, j = pre.length := ⟨_, rfl⟩
    have elen : (pre ++ [pre.length]).length = j + 1 := by rw [List.length_append, hj]; rfl
    rw [← hj] at hp elen ⊢
    rw [elen]
    have hd : 0 < (dfN l j).length := by rw [dfN_len]; omega
    have bd := dfN_bd hb j
    have b1 : ((dfN l j).getD 0 0).natAbs ≤ 6400 := by
      have := bd_co.mp bd 0
      have h2 : 2 ^ j ≤ 2 ^ 6 := Nat.pow_le_pow_right (by omega) (by omega)
      unfold co at this
      omega
    have b2 := sc_bd (m := k) (k := j) (by omega) (by omega)
    have b3 : (prt (facI k) l j).natAbs < 2 ^ 900 := by
      unfold prt
      rw [Int.natAbs_mul]
      exact Nat.lt_of_le_of_lt (Nat.mul_le_mul b1 b2) (by decide)
    have d1 : divOk ((0 + (j : Int)) + 1) = true := by
      have : ∀ j : Nat, j < 6 → divOk ((0 + (j : Int)) + 1) = true := by decide
      exact this j (by omega)
    refine ⟨[.v (tl l), .v (.int l.length), x2, .v (.int (scI (facI k) j)), .v (.int (0 + (j : Nat))), .v (tl (fF (facI k) l j)), .v (.int (facI k)), .v (tl (fall j)), .v (ll (dfN l j)), x9, .e, .e, .e], rfl,
      [.v (tl l), .v (.int l.length), x2, .v (.int (scI (facI k) (j + 1))), .v (.int (0 + (j : Nat))), .v (tl (fF (facI k) l (j + 1))), .v (.int (facI k)), .v (tl (fall (j + 1))), .v (ll (dfN l (j + 1))), .v (.int (prt (facI k) l j)), .e, .e, .e], ?_, _, _, rfl⟩
    have a0 : (fun B => M.lift (ixM B (ll (dfN l j)) (.int 0)) B) = M.ret (.int ((dfN l j).getD 0 0)) := by
      rw [ixm_l]
      have : atI (il (dfN l j)) 0 = some (.int ((dfN l j).getD 0 0)) := ix_il hd
      rw [this]
      rfl
    rw [runs_ok (set_ok (i := 9) (x := .int (prt (facI k) l j)) (ev_bin (ev_ix rfl rfl a0) rfl (by rw [bin_mul, if_pos (mo (sm100 (by omega)) (sm100 (by omega)))]; rfl)) (by simp))]
    simp only [List.set_cons_succ, List.set_cons_zero]
    have st5 : ev (cf m) (.ite (.cmp .ne (.v 9) (.c (.int 0))) (.call 15 [(.v 5), (.call 16 [(.v 7), (.v 9)])]) (.v 5)) [.v (tl l), .v (.int l.length), x2, .v (.int (scI (facI k) j)), .v (.int (0 + (j : Nat))), .v (tl (fF (facI k) l j)), .v (.int (facI k)), .v (tl (fall j)), .v (ll (dfN l j)), .v (.int (prt (facI k) l j)), .e, .e, .e] = M.ret (tl (fF (facI k) l (j + 1))) := by
      show _ = M.ret (tl (if prt (facI k) l j = 0 then fF (facI k) l j else trimL (addL (fF (facI k) l j) (trimL (scL (prt (facI k) l j) (fall j))))))
      by_cases hz : prt (facI k) l j = 0
      · rw [if_pos hz]
        exact ev_ite (k := false) (evT_cmp rfl rfl (by rw [cmp_ne, hz]; rfl)) rfl
      · rw [if_neg hz]
        have l1 := fF_len (facI k) l j (by omega)
        have l2 : (trimL (scL (prt (facI k) l j) (fall j))).length ≤ 100 := by
          have h1 := trimL_len (scL (prt (facI k) l j) (fall j))
          have h2 : (scL (prt (facI k) l j) (fall j)).length = j + 1 := by
            unfold scL
            rw [List.length_map, fall_len (by omega)]
          omega
        exact ev_ite (k := true) (evT_cmp rfl rfl (by rw [cmp_ne, beq_false_of_ne hz]; rfl)) (ev_call2 rfl (ev_call2 rfl rfl (s16 (by omega) (fall_sm j) b3)) (s15 (by omega) (by omega) l2))
    rw [runs_ok (set_ok (i := 5) st5 (by simp))]
    simp only [List.set_cons_succ, List.set_cons_zero]
    have st8 : ∀ y5, ev (cf m) (.lc (.t [(.s 11), (.s 12)]) .zip [(.v 8), (.sl (.v 8) (some (.c (.int 1))) none)] [] (.bin .sub (.v 12) (.v 11)) [11, 12]) [.v (tl l), .v (.int l.length), x2, .v (.int (scI (facI k) j)), .v (.int (0 + (j : Nat))), y5, .v (.int (facI k)), .v (tl (fall j)), .v (ll (dfN l j)), .v (.int (prt (facI k) l j)), .e, .e, .e] = M.ret (ll (dfN l (j + 1))) := fun y5 => by
      simp only [runs, Pl.run, ev, evs, evo, evAn, evOr, evT, evTs, evTan, evTor, Pl.evF, bind_ret, bind_lift, bind_bind, lift_some, then_ret, then_rt, fin_rt, fin_nx, calm_ret, bind_raise, then_raise, fin_raise, rse_eq, M.lst, lstM, getV_0, getV_s, getO_0, getO_s, List.getElem?_cons_zero, List.getElem?_cons_succ, List.set_cons_zero, List.set_cons_succ, List.length_cons, List.length_nil, List.length_map, List.length_append, bin_add, bin_sub, bin_subb, cmp_lt, cmp_le, cmp_gt, cmp_ge, cmp_eq, cmp_ne, tru_bl, tru_int, bi_lent, bi_lenl, bi_lens, bi_abs, bi_int, bi_max, bi_min, bi_tupt, bi_tupl, bi_listt, bi_listl, bi_all, bi_isi_int, bi_isi_bool, bi_isi_tup, set_s, set_t, sets_n, sets_c, par_n, par_c, aug_add, aug_sub, opt_n, opt_i, sl_t, sl_l, sl_s, rev_t, rev_l, it_t, it_l, it_s, it_et, it_el, it_zt, it_zl, wipe_n, wipe_c, ixm_t, ixm_l, setV, setO, Option.map_some, Option.bind_some, gsl, if_true, if_false, Bool.false_eq_true, reduceIte, Nat.zero_add, Nat.reduceAdd, Nat.reduceLT, SZ, Nat.reduceLeDiff, Nat.zero_le]
      rw [cut1_il, zip_il, lcM_on _ (fun p : Int × Int => D.int (p.2 - p.1))]
      · show M.bind (M.calm (M.ret _)) _ = _
        show M.ret (D.lst _) = M.ret (D.lst (il (dfL (dfN l j))))
        congr 2
        unfold dfL il
        rw [List.map_map]
        rfl
      · intro p hp
        rfl
    rw [runs_ok (set_ok (i := 8) (st8 _) (by simp))]
    simp only [List.set_cons_succ, List.set_cons_zero]
    have ng : ∀ y5 y8, ev (cf m) (.tup [(.neg (.v 4)), (.c (.int 1))]) [.v (tl l), .v (.int l.length), x2, .v (.int (scI (facI k) j)), .v (.int (0 + (j : Nat))), y5, .v (.int (facI k)), .v (tl (fall j)), y8, .v (.int (prt (facI k) l j)), .e, .e, .e] = M.ret (tl [-(0 + (j : Int)), 1]) := fun y5 y8 => rfl
    rw [runs_ok (set_ok (i := 7) (ev_call2 rfl (ng _ _) (fall_next (by omega) (by omega))) (by simp))]
    simp only [List.set_cons_succ, List.set_cons_zero]
    rw [runs_ok (set_ok (i := 3) (ev_bin rfl (ev_bin rfl rfl rfl) (by rw [bin_fdiv, if_pos d1])) (by simp))]
    show M.ret _ = M.ret _
    have : (scI (facI k) j).fdiv (0 + (j : Int) + 1) = scI (facI k) (j + 1) := by
      show _ = (scI (facI k) j).fdiv ((j : Int) + 1)
      rw [Int.zero_add]
    rw [this]
    rfl) ⟨_, _, rfl⟩
  rw [List.nil_append, List.length_range] at eb
  have hr2 : ((l.length : Int) - 1).toNat = k := by omega
  rw [runs_ok ((ite_f t1).trans runs_nil), runs_ok ((ite_f t2).trans runs_nil), runs_ok (r1 := [.v (tl l), .v (.int l.length), .e, .e, .e, .e, .e, .e, .e, .e, .e, .e, .e]) (by rw [set_ok (i := 1) (ev_bi1 rfl (bi_lent _)) (by simp)]; simp), runs_ok (r1 := [.v (tl l), .v (.int l.length), .e, .e, .e, .v (.tup []), .v (.int 1), .e, .e, .e, .e, .e, .e]) rfl,
    runs_ok ((fr_ok (xs := [.int 1, .int l.length]) rfl (by rw [it_r2, if_pos (by omega), hr2]; rfl)).trans ea), runs_ok (r1 := [.v (tl l), .v (.int l.length), x2, .e, .e, .v (tl []), .v (.int (facI k)), .v (tl [1]), .v (ll l), .e, .e, .e, .e]) rfl, runs_ok (r1 := [.v (tl l), .v (.int l.length), x2, .v (.int (facI k)), .e, .v (tl []), .v (.int (facI k)), .v (tl [1]), .v (ll l), .e, .e, .e, .e]) rfl,
    runs_ok ((fr_ok (xs := [.int l.length]) rfl (by rw [it_r, if_pos (by omega)]; rfl)).trans eb)]
  have e13 := s13 (n := m) (by omega) (x := tl (fF (facI k) l l.length)) (l := fF (facI k) l l.length) (.inr rfl)
  simp only [runs, Pl.run, ev, evs, evo, evAn, evOr, evT, evTs, evTan, evTor, Pl.evF, bind_ret, bind_lift, bind_bind, lift_some, then_ret, then_rt, fin_rt, fin_nx, calm_ret, bind_raise, then_raise, fin_raise, rse_eq, M.lst, lstM, getV_0, getV_s, getO_0, getO_s, List.getElem?_cons_zero, List.getElem?_cons_succ, List.set_cons_zero, List.set_cons_succ, List.length_cons, List.length_nil, List.length_map, List.length_append, bin_add, bin_sub, bin_subb, cmp_lt, cmp_le, cmp_gt, cmp_ge, cmp_eq, cmp_ne, tru_bl, tru_int, bi_lent, bi_lenl, bi_lens, bi_abs, bi_int, bi_max, bi_min, bi_tupt, bi_tupl, bi_listt, bi_listl, bi_all, bi_isi_int, bi_isi_bool, bi_isi_tup, set_s, set_t, sets_n, sets_c, par_n, par_c, aug_add, aug_sub, opt_n, opt_i, sl_t, sl_l, sl_s, rev_t, rev_l, it_t, it_l, it_s, it_et, it_el, it_zt, it_zl, wipe_n, wipe_c, ixm_t, ixm_l, setV, setO, Option.map_some, Option.bind_some, gsl, if_true, if_false, Bool.false_eq_true, reduceIte, Nat.zero_add, Nat.reduceAdd, Nat.reduceLT, SZ, Nat.reduceLeDiff, Nat.zero_le]
  simp only [cfF]
  rw [e13]
  unfold fhL
  rw [hw]
  rfl
end Md

-- part V7
set_option maxHeartbeats 4000000
set_option exponentiation.threshold 3000
namespace Pl
open PySem PySem.Spec PyProof.Rows L2
section
variable {C : Cf} {r : Rho}
theorem ev_tup2 {a b : Pe} {x y : D} (h1 : ev C a r = M.ret x) (h2 : ev C b r = M.ret y) : ev C (.tup [a, b]) r = M.ret (.tup [x, y]) := by
  show M.bind (M.bind (ev C a r) fun x => M.bind (M.bind (ev C b r) _) _) _ = _
  rw [h1, h2]
  rfl
theorem set2_ok {i j : Nat} {e : Pe} {x y : D} (h1 : ev C e r = M.ret (.tup [x, y])) (hi : i < r.length) (hj : j < r.length) : Pl.run C (.set (.t [.s i, .s j]) e) r = M.ret (.nx ((r.set i (.v x)).set j (.v y))) := by
  show M.bind (ev C e r) _ = _
  rw [h1]
  show M.bind (M.lift ((if i < r.length then some (r.set i (.v x)) else none).bind fun r' => (if j < r'.length then some (r'.set j (.v y)) else none).bind fun r' => some r')) _ = _
  rw [if_pos hi]
  show M.bind (M.lift ((if j < (r.set i (.v x)).length then some ((r.set i (.v x)).set j (.v y)) else none).bind fun r' => some r')) _ = _
  rw [if_pos (by rw [List.length_set]; exact hj)]
  rfl
theorem lc_ok {g : Pg} {k : Ik} {l t : List Pe} {e : Pe} {w : List Nat} {xs its ys : List D} (h1 : evs C l r = M.ret xs) (h2 : itD k xs = some its)
    (h3 : lcM (fun d => M.bind (M.lift (setG g d (wipeR r w))) fun r1 => M.bind (evTs C t r1) fun b => if b then M.bind (ev C e r1) fun x => M.ret (some x) else M.ret none) its = M.ret ys) : ev C (.lc g k l t e w) r = M.ret (.lst ys) := by
  show M.bind (M.bind (evs C l r) _) _ = _
  rw [h1]
  show M.bind (M.bind (M.lift (itD k xs)) _) _ = _
  rw [h2]
  show M.bind (M.calm (lcM _ its)) _ = _
  rw [h3]
  rfl
end
end Pl
namespace Md
open PySem PySem.Spec PyProof.Rows L2 Pl
theorem range_at {k : Nat} {pre s : List Nat} {a : Nat} (e : pre ++ a :: s = [] ++ List.range k) : pre.length < k ∧ a = pre.length := by
  have hp : pre.length < k := by
    have := congrArg List.length e
    simp at this
    omega
  refine ⟨hp, ?_⟩
  have := congrArg (fun z => z[pre.length]?) e
  simp at this
  rw [List.getElem?_range hp] at this
  exact Option.some.inj this
theorem s58 {n : Nat} (hn : 4 ≤ n) {l : List Int} (h1 : 1 ≤ l.length) (h6 : l.length ≤ 6) (hb : Bd 100 l) : G n 58 [tl l] = M.ret (.tup [tl (fhL l), .int (facI (l.length - 1))]) := by
  obtain ⟨m, rfl, h⟩ := pred hn
  show finM (runs (cf m) d58.body [.v (tl l), .e, .e, .e, .e, .e, .e, .e, .e, .e, .e, .e]) = _
  unfold d58
  obtain ⟨k, hk⟩ : ∃ k, l.length = k + 1 := ⟨l.length - 1, by omega⟩
  have hw : l.length - 1 = k := by omega
  obtain ⟨ra, ea, x1, rfl⟩ := forM_pre (g := .s 1) (b := fun r => runs (cf m) [.set (.s 3) (.bin .mul (.v 3) (.v 1))] r) (fun i : Nat => D.int (1 + (i : Nat))) (fun pre r => ∃ x1, r = [.v (tl l), x1, .v (.int l.length), .v (.int (facI pre.length)), .e, .e, .e, .e, .e, .e, .e, .e]) (List.range k) [] [.v (tl l), .e, .v (.int l.length), .v (.int 1), .e, .e, .e, .e, .e, .e, .e, .e] (fun pre a s r e ⟨x1, er⟩ => by
    subst er
    obtain ⟨hp, ha⟩ := range_at e
    subst ha
    refine ⟨[.v (tl l), .v (.int (1 + (pre.length : Nat))), .v (.int l.length), .v (.int (facI pre.length)), .e, .e, .e, .e, .e, .e, .e, .e], rfl, [.v (tl l), .v (.int (1 + (pre.length : Nat))), .v (.int l.length), .v (.int (facI (pre ++ [pre.length]).length)), .e, .e, .e, .e, .e, .e, .e, .e], ?_, _, rfl⟩
    rw [List.length_append]
    exact runs_ok (set_ok (i := 3) (ev_bin rfl rfl (by rw [bin_mul, if_pos (mo (sm100 (by have := fac_bd (m := pre.length) (by omega); omega)) (sm100 (by omega)))]; rfl)) (by simp))) ⟨_, rfl⟩
  rw [List.nil_append, List.length_range] at ea
  obtain ⟨rb, eb, z1, x8, rfl⟩ := forM_pre (g := .s 1) (b := fun r => runs (cf m) [.set (.s 8) (.bin .mul (.ix (.v 6) (.c (.int 0))) (.bin .fdiv (.v 3) (.v 7))),
      .set (.s 4) (.lc (.t [(.s 9), (.s 10)]) .enum [(.v 4)] [] (.bin .add (.v 10) (.bin .mul (.v 8) (.ite (.cmp .lt (.v 9) (.bi .len [(.v 5)])) (.ix (.v 5) (.v 9)) (.c (.int 0))))) [9, 10]),
      .set (.t [(.s 5), (.s 7)]) (.tup [(.call 55 [(.v 5), (.lst [(.bin .sub (.c (.int 0)) (.v 1)), (.c (.int 1))])]), (.bin .mul (.v 7) (.bin .add (.v 1) (.c (.int 1))))]),
      .set (.s 6) (.lc (.t [(.s 10), (.s 11)]) .zip [(.v 6), (.sl (.v 6) (some (.c (.int 1))) none)] [] (.bin .sub (.v 11) (.v 10)) [10, 11])] r) (fun i : Nat => D.int (0 + (i : Nat))) (fun pre r => ∃ x1 x8, r = [.v (tl l), x1, .v (.int l.length), .v (.int (facI k)), .v (ll (lF (facI k) l pre.length)), .v (ll (fall pre.length)), .v (ll (dfN l pre.length)), .v (.int (facI pre.length)), x8, .e, .e, .e]) (List.range l.length) [] [.v (tl l), x1, .v (.int l.length), .v (.int (facI k)), .v (ll (List.replicate l.length 0)), .v (ll [1]), .v (ll l), .v (.int 1), .e, .e, .e, .e] (fun pre a s r e ⟨x1, x8, er⟩ => by
    subst er
    obtain ⟨hp, ha⟩ := range_at e
    subst ha
    obtain ⟨j, hj⟩ : ∃ j, j = pre.length := ⟨_, rfl⟩
    have elen : (pre ++ [pre.length]).length = j + 1 := by rw [List.length_append, hj]; rfl
    rw [← hj] at hp elen ⊢
    rw [elen]
    have hd : 0 < (dfN l j).length := by rw [dfN_len]; omega
    have bd := dfN_bd hb j
    have b1 : ((dfN l j).getD 0 0).natAbs ≤ 6400 := by
      have := bd_co.mp bd 0
      have h2 : 2 ^ j ≤ 2 ^ 6 := Nat.pow_le_pow_right (by omega) (by omega)
      unfold co at this
      omega
    have b2 := sc_bd (m := k) (k := j) (by omega) (by omega)
    have b3 : (prt (facI k) l j).natAbs < 2 ^ 900 := by
      unfold prt
      rw [Int.natAbs_mul]
      exact Nat.lt_of_le_of_lt (Nat.mul_le_mul b1 b2) (by decide)
    obtain ⟨f1, f2⟩ := fac_sc (m := k) (k := j) (by omega) (by omega)
    have a0 : (fun B => M.lift (ixM B (ll (dfN l j)) (.int 0)) B) = M.ret (.int ((dfN l j).getD 0 0)) := by
      rw [ixm_l]
      have : atI (il (dfN l j)) 0 = some (.int ((dfN l j).getD 0 0)) := ix_il hd
      rw [this]
      rfl
    refine ⟨[.v (tl l), .v (.int (0 + (j : Nat))), .v (.int l.length), .v (.int (facI k)), .v (ll (lF (facI k) l j)), .v (ll (fall j)), .v (ll (dfN l j)), .v (.int (facI j)), x8, .e, .e, .e], rfl,
      [.v (tl l), .v (.int (0 + (j : Nat))), .v (.int l.length), .v (.int (facI k)), .v (ll (lF (facI k) l (j + 1))), .v (ll (fall (j + 1))), .v (ll (dfN l (j + 1))), .v (.int (facI (j + 1))), .v (.int (prt (facI k) l j)), .e, .e, .e], ?_, _, _, rfl⟩
    rw [runs_ok (set_ok (i := 8) (x := .int (prt (facI k) l j)) (ev_bin (ev_ix rfl rfl a0) (ev_bin rfl rfl (by rw [bin_fdiv, if_pos f2, f1])) (by rw [bin_mul, if_pos (mo (sm100 (by omega)) (sm100 (by omega)))]; rfl)) (by simp))]
    simp only [List.set_cons_succ, List.set_cons_zero]
    have st4 : ev (cf m) (.lc (.t [(.s 9), (.s 10)]) .enum [(.v 4)] [] (.bin .add (.v 10) (.bin .mul (.v 8) (.ite (.cmp .lt (.v 9) (.bi .len [(.v 5)])) (.ix (.v 5) (.v 9)) (.c (.int 0))))) [9, 10]) [.v (tl l), .v (.int (0 + (j : Nat))), .v (.int l.length), .v (.int (facI k)), .v (ll (lF (facI k) l j)), .v (ll (fall j)), .v (ll (dfN l j)), .v (.int (facI j)), .v (.int (prt (facI k) l j)), .e, .e, .e] = M.ret (ll (lF (facI k) l (j + 1))) := by
      have step : ∀ q : Int × Nat, ev (cf m) (.bin .add (.v 10) (.bin .mul (.v 8) (.ite (.cmp .lt (.v 9) (.bi .len [(.v 5)])) (.ix (.v 5) (.v 9)) (.c (.int 0))))) [.v (tl l), .v (.int (0 + (j : Nat))), .v (.int l.length), .v (.int (facI k)), .v (ll (lF (facI k) l j)), .v (ll (fall j)), .v (ll (dfN l j)), .v (.int (facI j)), .v (.int (prt (facI k) l j)), .v (.int q.2), .v (.int q.1), .e] = M.ret (.int (q.1 + prt (facI k) l j * co (fall j) q.2)) := fun q => by
        have b4 : (co (fall j) q.2).natAbs < 2 ^ 900 := by
          by_cases hi : q.2 < (fall j).length
          · rw [co_get hi]
            exact fall_sm j _ (List.getElem_mem _)
          · rw [co_big (Nat.le_of_not_lt hi)]
            decide
        refine ev_bin rfl (ev_bin rfl (y := .int (co (fall j) q.2)) ?_ (by rw [bin_mul, if_pos (mo b3 b4)])) rfl
        by_cases hi : q.2 < (fall j).length
        · refine ev_ite (k := true) (evT_cmp rfl (ev_bi1 rfl (bi_lenl _)) (by rw [cmp_lt, decide_eq_true (by simp; omega)])) ?_
          rw [if_pos rfl]
          refine ev_ix rfl rfl ?_
          rw [ixm_l]
          have : atI (il (fall j)) (q.2 : Int) = some (.int ((fall j).getD q.2 0)) := ix_il hi
          rw [this]
          rfl
        · refine ev_ite (k := false) (evT_cmp rfl (ev_bi1 rfl (bi_lenl _)) (by rw [cmp_lt, decide_eq_false (by simp; omega)])) ?_
          rw [co_big (Nat.le_of_not_lt hi)]
          rfl
      have key := lc_ok (C := cf m) (g := .t [(.s 9), (.s 10)]) (k := .enum) (l := [(.v 4)]) (t := []) (e := (.bin .add (.v 10) (.bin .mul (.v 8) (.ite (.cmp .lt (.v 9) (.bi .len [(.v 5)])) (.ix (.v 5) (.v 9)) (.c (.int 0)))))) (w := [9, 10]) (r := [.v (tl l), .v (.int (0 + (j : Nat))), .v (.int l.length), .v (.int (facI k)), .v (ll (lF (facI k) l j)), .v (ll (fall j)), .v (ll (dfN l j)), .v (.int (facI j)), .v (.int (prt (facI k) l j)), .e, .e, .e]) (xs := [ll (lF (facI k) l j)]) rfl ((it_el _).trans (congrArg some (enum_il _ _))) (lcM_on _ (fun q : Int × Nat => D.int (q.1 + prt (facI k) l j * co (fall j) q.2)) (fun q hq => by
        show M.bind (ev (cf m) _ [.v (tl l), .v (.int (0 + (j : Nat))), .v (.int l.length), .v (.int (facI k)), .v (ll (lF (facI k) l j)), .v (ll (fall j)), .v (ll (dfN l j)), .v (.int (facI j)), .v (.int (prt (facI k) l j)), .v (.int q.2), .v (.int q.1), .e]) _ = _
        rw [step q]
        rfl))
      refine key.trans ?_
      show M.ret (D.lst _) = M.ret (D.lst (il (List.map _ _)))
      congr 2
      unfold il
      rw [List.map_map]
      rfl
    rw [runs_ok (set_ok (i := 4) st4 (by simp))]
    simp only [List.set_cons_succ, List.set_cons_zero]
    have mb : binD .mul (.int (facI j)) (.int (0 + (j : Int) + 1)) = some (.int (facI (j + 1))) := by
      rw [bin_mul, if_pos (mo (sm100 (by have := fac_bd (m := j) (by omega); omega)) (sm100 (by omega)))]
      show some (D.int _) = some (D.int (facI j * (1 + (j : Int))))
      rw [show (0 + (j : Int) + 1) = 1 + (j : Int) by omega]
    rw [runs_ok (set2_ok (i := 5) (j := 7) (ev_tup2 (ev_call2 rfl (y := ll [0 - (0 + (j : Int)), 1]) rfl (fall_next' (by omega) (by omega))) (ev_bin rfl (ev_bin rfl rfl rfl) mb)) (by simp) (by simp))]
    simp only [List.set_cons_succ, List.set_cons_zero]
    have st6 : ∀ y5 y7, ev (cf m) (.lc (.t [(.s 10), (.s 11)]) .zip [(.v 6), (.sl (.v 6) (some (.c (.int 1))) none)] [] (.bin .sub (.v 11) (.v 10)) [10, 11]) [.v (tl l), .v (.int (0 + (j : Nat))), .v (.int l.length), .v (.int (facI k)), .v (ll (lF (facI k) l (j + 1))), y5, .v (ll (dfN l j)), y7, .v (.int (prt (facI k) l j)), .e, .e, .e] = M.ret (ll (dfN l (j + 1))) := fun y5 y7 => by
      simp only [runs, Pl.run, ev, evs, evo, evAn, evOr, evT, evTs, evTan, evTor, Pl.evF, bind_ret, bind_lift, bind_bind, lift_some, then_ret, then_rt, fin_rt, fin_nx, calm_ret, bind_raise, then_raise, fin_raise, rse_eq, M.lst, lstM, getV_0, getV_s, getO_0, getO_s, List.getElem?_cons_zero, List.getElem?_cons_succ, List.set_cons_zero, List.set_cons_succ, List.length_cons, List.length_nil, List.length_map, List.length_append, bin_add, bin_sub, bin_subb, cmp_lt, cmp_le, cmp_gt, cmp_ge, cmp_eq, cmp_ne, tru_bl, tru_int, bi_lent, bi_lenl, bi_lens, bi_abs, bi_int, bi_max, bi_min, bi_tupt, bi_tupl, bi_listt, bi_listl, bi_all, bi_isi_int, bi_isi_bool, bi_isi_tup, set_s, set_t, sets_n, sets_c, par_n, par_c, aug_add, aug_sub, opt_n, opt_i, sl_t, sl_l, sl_s, rev_t, rev_l, it_t, it_l, it_s, it_et, it_el, it_zt, it_zl, wipe_n, wipe_c, ixm_t, ixm_l, setV, setO, Option.map_some, Option.bind_some, gsl, if_true, if_false, Bool.false_eq_true, reduceIte, Nat.zero_add, Nat.reduceAdd, Nat.reduceLT, SZ, Nat.reduceLeDiff, Nat.zero_le]
      rw [cut1_il, zip_il, lcM_on _ (fun p : Int × Int => D.int (p.2 - p.1))]
      · show M.bind (M.calm (M.ret _)) _ = _
        show M.ret (D.lst _) = M.ret (D.lst (il (dfL (dfN l j))))
        congr 2
        unfold dfL il
        rw [List.map_map]
        rfl
      · intro p hp
        rfl
    rw [runs_ok (set_ok (i := 6) (st6 _ _) (by simp))]
    rfl) ⟨_, _, rfl⟩
  rw [List.nil_append, List.length_range] at eb
  have hr2 : ((l.length : Int) - 1).toNat = k := by omega
  have e0 : Pl.run (cf m) (.set (.t [(.s 4), (.s 5), (.s 6), (.s 7)]) (.tup [(.bin .mul (.lst [(.c (.int 0))]) (.v 2)), (.lst [(.c (.int 1))]), (.bi .list [(.v 0)]), (.c (.int 1))])) [.v (tl l), x1, .v (.int l.length), .v (.int (facI k)), .e, .e, .e, .e, .e, .e, .e, .e] = M.ret (.nx [.v (tl l), x1, .v (.int l.length), .v (.int (facI k)), .v (ll (List.replicate l.length 0)), .v (ll [1]), .v (ll l), .v (.int 1), .e, .e, .e, .e]) := by
    have : binD .mul (.lst [.int 0]) (.int (l.length : Int)) = some (ll (List.replicate l.length 0)) := by
      rw [bin_mull, if_pos ⟨by decide, by omega, by omega⟩, Int.toNat_natCast, ← il_rep]
    simp only [runs, Pl.run, ev, evs, evo, evAn, evOr, evT, evTs, evTan, evTor, Pl.evF, bind_ret, bind_lift, bind_bind, lift_some, then_ret, then_rt, fin_rt, fin_nx, calm_ret, bind_raise, then_raise, fin_raise, rse_eq, M.lst, lstM, getV_0, getV_s, getO_0, getO_s, List.getElem?_cons_zero, List.getElem?_cons_succ, List.set_cons_zero, List.set_cons_succ, List.length_cons, List.length_nil, List.length_map, List.length_append, bin_add, bin_sub, bin_subb, cmp_lt, cmp_le, cmp_gt, cmp_ge, cmp_eq, cmp_ne, tru_bl, tru_int, bi_lent, bi_lenl, bi_lens, bi_abs, bi_int, bi_max, bi_min, bi_tupt, bi_tupl, bi_listt, bi_listl, bi_all, bi_isi_int, bi_isi_bool, bi_isi_tup, set_s, set_t, sets_n, sets_c, par_n, par_c, aug_add, aug_sub, opt_n, opt_i, sl_t, sl_l, sl_s, rev_t, rev_l, it_t, it_l, it_s, it_et, it_el, it_zt, it_zl, wipe_n, wipe_c, ixm_t, ixm_l, setV, setO, Option.map_some, Option.bind_some, gsl, if_true, if_false, Bool.false_eq_true, reduceIte, Nat.zero_add, Nat.reduceAdd, Nat.reduceLT, SZ, Nat.reduceLeDiff, Nat.zero_le]
    rw [this]
    rfl
  rw [runs_ok (r1 := [.v (tl l), .e, .v (.int l.length), .v (.int 1), .e, .e, .e, .e, .e, .e, .e, .e]) (by simp only [runs, Pl.run, ev, evs, evo, evAn, evOr, evT, evTs, evTan, evTor, Pl.evF, bind_ret, bind_lift, bind_bind, lift_some, then_ret, then_rt, fin_rt, fin_nx, calm_ret, bind_raise, then_raise, fin_raise, rse_eq, M.lst, lstM, getV_0, getV_s, getO_0, getO_s, List.getElem?_cons_zero, List.getElem?_cons_succ, List.set_cons_zero, List.set_cons_succ, List.length_cons, List.length_nil, List.length_map, List.length_append, bin_add, bin_sub, bin_subb, cmp_lt, cmp_le, cmp_gt, cmp_ge, cmp_eq, cmp_ne, tru_bl, tru_int, bi_lent, bi_lenl, bi_lens, bi_abs, bi_int, bi_max, bi_min, bi_tupt, bi_tupl, bi_listt, bi_listl, bi_all, bi_isi_int, bi_isi_bool, bi_isi_tup, set_s, set_t, sets_n, sets_c, par_n, par_c, aug_add, aug_sub, opt_n, opt_i, sl_t, sl_l, sl_s, rev_t, rev_l, it_t, it_l, it_s, it_et, it_el, it_zt, it_zl, wipe_n, wipe_c, ixm_t, ixm_l, setV, setO, Option.map_some, Option.bind_some, gsl, if_true, if_false, Bool.false_eq_true, reduceIte, Nat.zero_add, Nat.reduceAdd, Nat.reduceLT, SZ, Nat.reduceLeDiff, Nat.zero_le]), runs_ok ((fr_ok (xs := [.int 1, .int l.length]) rfl (by rw [it_r2, if_pos (by omega), hr2]; rfl)).trans ea), runs_ok e0, runs_ok ((fr_ok (xs := [.int l.length]) rfl (by rw [it_r, if_pos (by omega)]; rfl)).trans eb)]
  rw [runs_rt (ret_ok' (ev_tup2 (ev_call1 rfl (s54 (by omega) _)) rfl))]
  rw [← fh_lF h6, hw]
  rfl
end Md

-- part V8
set_option maxHeartbeats 4000000
set_option exponentiation.threshold 3000
namespace Md
open PySem PySem.Spec PyProof.Rows L2 Pl
/-! ### the row through heights has these heights -/
theorem ex1 (a : Int) : lF (facI ([a].length - 1)) [a] [a].length = [0 + a * 1 * 1] := by kernel_rfl
theorem val1 (a : Int) (j : Nat) (hj : j < 1) : val (lF (facI ([a].length - 1)) [a] [a].length) (j : Int) = 1 * [a].getD j 0 := by
  rw [ex1]
  have : j = 0 := by omega
  rcases this with rfl <;> (simp [val]; try omega)
theorem bd1 (a : Int) (ha : a.natAbs ≤ 100) : Bd 900000 (lF (facI ([a].length - 1)) [a] [a].length) := by
  rw [ex1]
  intro x hx
  simp only [List.mem_cons, List.not_mem_nil, or_false] at hx
  rcases hx with rfl <;> omega
theorem ex2 (a b : Int) : lF (facI ([a, b].length - 1)) [a, b] [a, b].length = [0 + a * 1 * 1 + (b - a) * 1 * 0, 0 + a * 1 * 0 + (b - a) * 1 * 1] := by kernel_rfl
theorem val2 (a b : Int) (j : Nat) (hj : j < 2) : val (lF (facI ([a, b].length - 1)) [a, b] [a, b].length) (j : Int) = 1 * [a, b].getD j 0 := by
  rw [ex2]
  have : j = 0 ∨ j = 1 := by omega
  rcases this with rfl | rfl <;> (simp [val]; try omega)
theorem bd2 (a b : Int) (ha : a.natAbs ≤ 100) (hb : b.natAbs ≤ 100) : Bd 900000 (lF (facI ([a, b].length - 1)) [a, b] [a, b].length) := by
  rw [ex2]
  intro x hx
  simp only [List.mem_cons, List.not_mem_nil, or_false] at hx
  rcases hx with rfl | rfl <;> omega
theorem ex3 (a b c : Int) : lF (facI ([a, b, c].length - 1)) [a, b, c] [a, b, c].length = [0 + a * 2 * 1 + (b - a) * 2 * 0 + ((c - b) - (b - a)) * 1 * 0, 0 + a * 2 * 0 + (b - a) * 2 * 1 + ((c - b) - (b - a)) * 1 * (-1), 0 + a * 2 * 0 + (b - a) * 2 * 0 + ((c - b) - (b - a)) * 1 * 1] := by kernel_rfl
theorem val3 (a b c : Int) (j : Nat) (hj : j < 3) : val (lF (facI ([a, b, c].length - 1)) [a, b, c] [a, b, c].length) (j : Int) = 2 * [a, b, c].getD j 0 := by
  rw [ex3]
  have : j = 0 ∨ j = 1 ∨ j = 2 := by omega
  rcases this with rfl | rfl | rfl <;> (simp [val]; try omega)
theorem bd3 (a b c : Int) (ha : a.natAbs ≤ 100) (hb : b.natAbs ≤ 100) (hc : c.natAbs ≤ 100) : Bd 900000 (lF (facI ([a, b, c].length - 1)) [a, b, c] [a, b, c].length) := by
  rw [ex3]
  intro x hx
  simp only [List.mem_cons, List.not_mem_nil, or_false] at hx
  rcases hx with rfl | rfl | rfl <;> omega
theorem ex4 (a b c d : Int) : lF (facI ([a, b, c, d].length - 1)) [a, b, c, d] [a, b, c, d].length = [0 + a * 6 * 1 + (b - a) * 6 * 0 + ((c - b) - (b - a)) * 3 * 0 + (((d - c) - (c - b)) - ((c - b) - (b - a))) * 1 * 0, 0 + a * 6 * 0 + (b - a) * 6 * 1 + ((c - b) - (b - a)) * 3 * (-1) + (((d - c) - (c - b)) - ((c - b) - (b - a))) * 1 * 2, 0 + a * 6 * 0 + (b - a) * 6 * 0 + ((c - b) - (b - a)) * 3 * 1 + (((d - c) - (c - b)) - ((c - b) - (b - a))) * 1 * (-3), 0 + a * 6 * 0 + (b - a) * 6 * 0 + ((c - b) - (b - a)) * 3 * 0 + (((d - c) - (c - b)) - ((c - b) - (b - a))) * 1 * 1] := by kernel_rfl
theorem val4 (a b c d : Int) (j : Nat) (hj : j < 4) : val (lF (facI ([a, b, c, d].length - 1)) [a, b, c, d] [a, b, c, d].length) (j : Int) = 6 * [a, b, c, d].getD j 0 := by
  rw [ex4]
  have : j = 0 ∨ j = 1 ∨ j = 2 ∨ j = 3 := by omega
  rcases this with rfl | rfl | rfl | rfl <;> (simp [val]; try omega)
theorem bd4 (a b c d : Int) (ha : a.natAbs ≤ 100) (hb : b.natAbs ≤ 100) (hc : c.natAbs ≤ 100) (hd : d.natAbs ≤ 100) : Bd 900000 (lF (facI ([a, b, c, d].length - 1)) [a, b, c, d] [a, b, c, d].length) := by
  rw [ex4]
  intro x hx
  simp only [List.mem_cons, List.not_mem_nil, or_false] at hx
  rcases hx with rfl | rfl | rfl | rfl <;> omega
theorem ex5 (a b c d e : Int) : lF (facI ([a, b, c, d, e].length - 1)) [a, b, c, d, e] [a, b, c, d, e].length = [0 + a * 24 * 1 + (b - a) * 24 * 0 + ((c - b) - (b - a)) * 12 * 0 + (((d - c) - (c - b)) - ((c - b) - (b - a))) * 4 * 0 + ((((e - d) - (d - c)) - ((d - c) - (c - b))) - (((d - c) - (c - b)) - ((c - b) - (b - a)))) * 1 * 0, 0 + a * 24 * 0 + (b - a) * 24 * 1 + ((c - b) - (b - a)) * 12 * (-1) + (((d - c) - (c - b)) - ((c - b) - (b - a))) * 4 * 2 + ((((e - d) - (d - c)) - ((d - c) - (c - b))) - (((d - c) - (c - b)) - ((c - b) - (b - a)))) * 1 * (-6), 0 + a * 24 * 0 + (b - a) * 24 * 0 + ((c - b) - (b - a)) * 12 * 1 + (((d - c) - (c - b)) - ((c - b) - (b - a))) * 4 * (-3) + ((((e - d) - (d - c)) - ((d - c) - (c - b))) - (((d - c) - (c - b)) - ((c - b) - (b - a)))) * 1 * 11, 0 + a * 24 * 0 + (b - a) * 24 * 0 + ((c - b) - (b - a)) * 12 * 0 + (((d - c) - (c - b)) - ((c - b) - (b - a))) * 4 * 1 + ((((e - d) - (d - c)) - ((d - c) - (c - b))) - (((d - c) - (c - b)) - ((c - b) - (b - a)))) * 1 * (-6), 0 + a * 24 * 0 + (b - a) * 24 * 0 + ((c - b) - (b - a)) * 12 * 0 + (((d - c) - (c - b)) - ((c - b) - (b - a))) * 4 * 0 + ((((e - d) - (d - c)) - ((d - c) - (c - b))) - (((d - c) - (c - b)) - ((c - b) - (b - a)))) * 1 * 1] := by kernel_rfl
theorem val5 (a b c d e : Int) (j : Nat) (hj : j < 5) : val (lF (facI ([a, b, c, d, e].length - 1)) [a, b, c, d, e] [a, b, c, d, e].length) (j : Int) = 24 * [a, b, c, d, e].getD j 0 := by
  rw [ex5]
  have : j = 0 ∨ j = 1 ∨ j = 2 ∨ j = 3 ∨ j = 4 := by omega
  rcases this with rfl | rfl | rfl | rfl | rfl <;> (simp [val]; try omega)
theorem bd5 (a b c d e : Int) (ha : a.natAbs ≤ 100) (hb : b.natAbs ≤ 100) (hc : c.natAbs ≤ 100) (hd : d.natAbs ≤ 100) (he : e.natAbs ≤ 100) : Bd 900000 (lF (facI ([a, b, c, d, e].length - 1)) [a, b, c, d, e] [a, b, c, d, e].length) := by
  rw [ex5]
  intro x hx
  simp only [List.mem_cons, List.not_mem_nil, or_false] at hx
  rcases hx with rfl | rfl | rfl | rfl | rfl <;> omega
theorem ex6 (a b c d e f : Int) : lF (facI ([a, b, c, d, e, f].length - 1)) [a, b, c, d, e, f] [a, b, c, d, e, f].length = [0 + a * 120 * 1 + (b - a) * 120 * 0 + ((c - b) - (b - a)) * 60 * 0 + (((d - c) - (c - b)) - ((c - b) - (b - a))) * 20 * 0 + ((((e - d) - (d - c)) - ((d - c) - (c - b))) - (((d - c) - (c - b)) - ((c - b) - (b - a)))) * 5 * 0 + (((((f - e) - (e - d)) - ((e - d) - (d - c))) - (((e - d) - (d - c)) - ((d - c) - (c - b)))) - ((((e - d) - (d - c)) - ((d - c) - (c - b))) - (((d - c) - (c - b)) - ((c - b) - (b - a))))) * 1 * 0, 0 + a * 120 * 0 + (b - a) * 120 * 1 + ((c - b) - (b - a)) * 60 * (-1) + (((d - c) - (c - b)) - ((c - b) - (b - a))) * 20 * 2 + ((((e - d) - (d - c)) - ((d - c) - (c - b))) - (((d - c) - (c - b)) - ((c - b) - (b - a)))) * 5 * (-6) + (((((f - e) - (e - d)) - ((e - d) - (d - c))) - (((e - d) - (d - c)) - ((d - c) - (c - b)))) - ((((e - d) - (d - c)) - ((d - c) - (c - b))) - (((d - c) - (c - b)) - ((c - b) - (b - a))))) * 1 * 24, 0 + a * 120 * 0 + (b - a) * 120 * 0 + ((c - b) - (b - a)) * 60 * 1 + (((d - c) - (c - b)) - ((c - b) - (b - a))) * 20 * (-3) + ((((e - d) - (d - c)) - ((d - c) - (c - b))) - (((d - c) - (c - b)) - ((c - b) - (b - a)))) * 5 * 11 + (((((f - e) - (e - d)) - ((e - d) - (d - c))) - (((e - d) - (d - c)) - ((d - c) - (c - b)))) - ((((e - d) - (d - c)) - ((d - c) - (c - b))) - (((d - c) - (c - b)) - ((c - b) - (b - a))))) * 1 * (-50), 0 + a * 120 * 0 + (b - a) * 120 * 0 + ((c - b) - (b - a)) * 60 * 0 + (((d - c) - (c - b)) - ((c - b) - (b - a))) * 20 * 1 + ((((e - d) - (d - c)) - ((d - c) - (c - b))) - (((d - c) - (c - b)) - ((c - b) - (b - a)))) * 5 * (-6) + (((((f - e) - (e - d)) - ((e - d) - (d - c))) - (((e - d) - (d - c)) - ((d - c) - (c - b)))) - ((((e - d) - (d - c)) - ((d - c) - (c - b))) - (((d - c) - (c - b)) - ((c - b) - (b - a))))) * 1 * 35, 0 + a * 120 * 0 + (b - a) * 120 * 0 + ((c - b) - (b - a)) * 60 * 0 + (((d - c) - (c - b)) - ((c - b) - (b - a))) * 20 * 0 + ((((e - d) - (d - c)) - ((d - c) - (c - b))) - (((d - c) - (c - b)) - ((c - b) - (b - a)))) * 5 * 1 + (((((f - e) - (e - d)) - ((e - d) - (d - c))) - (((e - d) - (d - c)) - ((d - c) - (c - b)))) - ((((e - d) - (d - c)) - ((d - c) - (c - b))) - (((d - c) - (c - b)) - ((c - b) - (b - a))))) * 1 * (-10), 0 + a * 120 * 0 + (b - a) * 120 * 0 + ((c - b) - (b - a)) * 60 * 0 + (((d - c) - (c - b)) - ((c - b) - (b - a))) * 20 * 0 + ((((e - d) - (d - c)) - ((d - c) - (c - b))) - (((d - c) - (c - b)) - ((c - b) - (b - a)))) * 5 * 0 + (((((f - e) - (e - d)) - ((e - d) - (d - c))) - (((e - d) - (d - c)) - ((d - c) - (c - b)))) - ((((e - d) - (d - c)) - ((d - c) - (c - b))) - (((d - c) - (c - b)) - ((c - b) - (b - a))))) * 1 * 1] := by kernel_rfl
theorem val6 (a b c d e f : Int) (j : Nat) (hj : j < 6) : val (lF (facI ([a, b, c, d, e, f].length - 1)) [a, b, c, d, e, f] [a, b, c, d, e, f].length) (j : Int) = 120 * [a, b, c, d, e, f].getD j 0 := by
  rw [ex6]
  have : j = 0 ∨ j = 1 ∨ j = 2 ∨ j = 3 ∨ j = 4 ∨ j = 5 := by omega
  rcases this with rfl | rfl | rfl | rfl | rfl | rfl <;> (simp [val]; try omega)
theorem bd6 (a b c d e f : Int) (ha : a.natAbs ≤ 100) (hb : b.natAbs ≤ 100) (hc : c.natAbs ≤ 100) (hd : d.natAbs ≤ 100) (he : e.natAbs ≤ 100) (hf : f.natAbs ≤ 100) : Bd 900000 (lF (facI ([a, b, c, d, e, f].length - 1)) [a, b, c, d, e, f] [a, b, c, d, e, f].length) := by
  rw [ex6]
  intro x hx
  simp only [List.mem_cons, List.not_mem_nil, or_false] at hx
  rcases hx with rfl | rfl | rfl | rfl | rfl | rfl <;> omega
end Md

-- part W1
set_option maxHeartbeats 4000000
set_option exponentiation.threshold 3000
namespace Pl
open PySem PySem.Spec PyProof.Rows L2
section
variable {β : Type} {f : D → M β} {g : Unit → M β} {a b c d e x : D} {T : Bs}
theorem ixb0 : M.bind (fun B => M.lift (ixM B (.bag 0) (.int 0)) B) f ([a, b, c, d, e] :: T) = f a ([a, b, c, d, e] :: T) := rfl
theorem ixb1 : M.bind (fun B => M.lift (ixM B (.bag 0) (.int 1)) B) f ([a, b, c, d, e] :: T) = f b ([a, b, c, d, e] :: T) := rfl
theorem ixb2 : M.bind (fun B => M.lift (ixM B (.bag 0) (.int 2)) B) f ([a, b, c, d, e] :: T) = f c ([a, b, c, d, e] :: T) := rfl
theorem ixb3 : M.bind (fun B => M.lift (ixM B (.bag 0) (.int 3)) B) f ([a, b, c, d, e] :: T) = f d ([a, b, c, d, e] :: T) := rfl
theorem ixb4 : M.bind (fun B => M.lift (ixM B (.bag 0) (.int 4)) B) f ([a, b, c, d, e] :: T) = f e ([a, b, c, d, e] :: T) := rfl
theorem bsb1 : M.bind (bstM (.bag 0) (.int 1) x) g ([a, b, c, d, e] :: T) = g () ([a, x, c, d, e] :: T) := rfl
theorem bsb2 : M.bind (bstM (.bag 0) (.int 2) x) g ([a, b, c, d, e] :: T) = g () ([a, b, x, d, e] :: T) := rfl
theorem bsb3 : M.bind (bstM (.bag 0) (.int 3) x) g ([a, b, c, d, e] :: T) = g () ([a, b, c, x, e] :: T) := rfl
theorem bsb4 : M.bind (bstM (.bag 0) (.int 4) x) g ([a, b, c, d, e] :: T) = g () ([a, b, c, d, x] :: T) := rfl
theorem retB {α : Type} (a : α) (B : Bs) : M.ret a B = .ok a B := rfl
theorem bi_lenl' (l : List Int) : biD .len [.lst (il l)] = some (.int l.length) := by rw [bi_lenl]; simp
end
theorem then_eq (m : M Fl) (k : Rho → M Fl) : thenM m k = M.bind m fun f => match f with
  | .nx r => k r
  | f => M.ret f := rfl
theorem fin_eq (m : M Fl) : finM m = M.bind m fun f => match f with
  | .nx _ => M.ret .non
  | .rt d => M.ret d
  | _ => M.stuck := rfl
end Pl
namespace Md
open PySem PySem.Spec PyProof.Rows L2 Pl
/-- the hand, after at most N mixed draws -/
def Hd (N : Nat) (B : Bs) : Prop := ∃ (cs : List Int) (i r h k : Int), B = [[.lst (il cs), .int i, .int r, .int h, .int k]] ∧ cs.length ≤ 63 ∧ (∀ c ∈ cs, 0 ≤ c ∧ c < 10 ^ 36) ∧ 0 ≤ i ∧ 0 ≤ r ∧ r < 10 ^ 36 ∧ 0 ≤ h ∧ h < 2147483647 ∧ 0 ≤ k ∧ k ≤ N
theorem pw36 : binD .pow (.int 10) (.int 18) = some (.int 1000000000000000000) := by rfl
theorem mo2 {i j : Int} (h1 : i.natAbs < 2 ^ 300) (h2 : j.natAbs < 2 ^ 300) : binD .mul (.int i) (.int j) = some (.int (i * j)) := by
  rw [bin_mul, if_pos (mul_fits (Nat.lt_of_lt_of_le h1 (by decide)) (Nat.lt_of_lt_of_le h2 (by decide)))]
theorem md {i j : Int} (h : j ≠ 0) : binD .mod (.int i) (.int j) = some (.int (i.fmod j)) := by rw [bin_mod, if_pos h]
/-- the mixed number -/
theorem mix {C : Cf} {x3 x4 : Sl} {many h k r i : Int} {cs : List Int} {N : Nat} (hm : 1 ≤ many) (hN : N ≤ 1000000) (h0 : 0 ≤ h) (h1 : h < 2147483647) (k0 : 0 ≤ k) (k1 : k ≤ N) : ∃ d : Int, 0 ≤ d ∧ d < many ∧ runs C [
    .bst (.v 0) (.c (.int 4)) (.bin .add (.ix (.v 0) (.c (.int 4))) (.c (.int 1))),
    .set (.s 2) (.bin .mod (.bi .int [(.bin .mul (.bi .int [(.bin .add (.ix (.v 0) (.c (.int 3))) (.bin .mul (.c (.int 7919)) (.ix (.v 0) (.c (.int 4)))))]) (.c (.int 48271)))]) (.c (.int 2147483647))),
    .set (.s 2) (.bin .mod (.bi .int [(.bin .mul (.v 2) (.bin .add (.bin .fdiv (.v 2) (.c (.int 1009))) (.c (.int 69621))))]) (.c (.int 2147483647))),
    .set (.s 2) (.bin .mod (.bi .int [(.bin .mul (.v 2) (.bin .add (.bin .fdiv (.v 2) (.c (.int 2003))) (.c (.int 40014))))]) (.c (.int 2147483563))),
    .ret (.bin .mod (.bi .int [(.bin .fdiv (.v 2) (.c (.int 16)))]) (.v 1))] [.v (.bag 0), .v (.int many), .e, x3, x4] [[.lst (il cs), .int i, .int r, .int h, .int k]] = .ok (.rt (.int d)) [[.lst (il cs), .int i, .int r, .int h, .int (k + 1)]] := by
  have b32 : ∀ z : Int, 0 ≤ z → z < 2 ^ 64 → z.natAbs < 2 ^ 300 := fun z a b => Nat.lt_of_lt_of_le (show z.natAbs < 2 ^ 64 by omega) (by decide)
  have fm : ∀ z : Int, 0 ≤ z.fmod 2147483647 ∧ z.fmod 2147483647 < 2147483647 := fun z => ⟨Int.fmod_nonneg_of_pos z (by decide), Int.fmod_lt_of_pos z (by decide)⟩
  have fm' : ∀ z : Int, 0 ≤ z.fmod 2147483563 ∧ z.fmod 2147483563 < 2147483563 := fun z => ⟨Int.fmod_nonneg_of_pos z (by decide), Int.fmod_lt_of_pos z (by decide)⟩
  have d1 : ∀ z : Int, binD .fdiv (.int z) (.int 1009) = some (.int (z.fdiv 1009)) := fun z => by rw [bin_fdiv, if_pos (by decide)]
  have d2 : ∀ z : Int, binD .fdiv (.int z) (.int 2003) = some (.int (z.fdiv 2003)) := fun z => by rw [bin_fdiv, if_pos (by decide)]
  have d3 : ∀ z : Int, binD .fdiv (.int z) (.int 16) = some (.int (z.fdiv 16)) := fun z => by rw [bin_fdiv, if_pos (by decide)]
  have q1 : ∀ z : Int, 0 ≤ z → z < 2147483647 → 0 ≤ z.fdiv 1009 ∧ z.fdiv 1009 < 2147483647 := fun z a b => by
    rw [Int.fdiv_eq_ediv_of_nonneg _ (by decide)]
    omega
  have q2 : ∀ z : Int, 0 ≤ z → z < 2147483647 → 0 ≤ z.fdiv 2003 ∧ z.fdiv 2003 < 2147483647 := fun z a b => by
    rw [Int.fdiv_eq_ediv_of_nonneg _ (by decide)]
    omega
  simp -implicitDefEqProofs only [then_eq, fin_eq, ixb0, ixb1, ixb2, ixb3, ixb4, bsb1, bsb2, bsb3, bsb4, retB, runs, Pl.run, ev, evs, evo, evAn, evOr, evT, evTs, evTan, evTor, bind_ret, bind_lift, bind_bind, lift_some, calm_ret, bind_raise, M.lst, lstM, getV_0, getV_s, List.getElem?_cons_zero, List.getElem?_cons_succ, List.set_cons_zero, List.set_cons_succ, List.length_cons, List.length_nil, bin_add, bin_sub, cmp_lt, cmp_le, cmp_gt, cmp_ge, cmp_eq, cmp_ne, tru_bl, tru_int, bi_lenl', bi_abs, bi_int, set_s, set_t, sets_n, sets_c, Option.map_some, Option.bind_some, if_true, if_false, Bool.false_eq_true, reduceIte, Nat.zero_add, Nat.reduceAdd, Nat.reduceLT]
  rw [mo2 (by decide) (b32 _ (by omega) (by omega))]
  simp -implicitDefEqProofs only [then_eq, fin_eq, ixb0, ixb1, ixb2, ixb3, ixb4, bsb1, bsb2, bsb3, bsb4, retB, runs, Pl.run, ev, evs, evo, evAn, evOr, evT, evTs, evTan, evTor, bind_ret, bind_lift, bind_bind, lift_some, calm_ret, bind_raise, M.lst, lstM, getV_0, getV_s, List.getElem?_cons_zero, List.getElem?_cons_succ, List.set_cons_zero, List.set_cons_succ, List.length_cons, List.length_nil, bin_add, bin_sub, cmp_lt, cmp_le, cmp_gt, cmp_ge, cmp_eq, cmp_ne, tru_bl, tru_int, bi_lenl', bi_abs, bi_int, set_s, set_t, sets_n, sets_c, Option.map_some, Option.bind_some, if_true, if_false, Bool.false_eq_true, reduceIte, Nat.zero_add, Nat.reduceAdd, Nat.reduceLT]
  rw [mo2 (b32 _ (by omega) (by omega)) (by decide)]
  simp -implicitDefEqProofs only [then_eq, fin_eq, ixb0, ixb1, ixb2, ixb3, ixb4, bsb1, bsb2, bsb3, bsb4, retB, runs, Pl.run, ev, evs, evo, evAn, evOr, evT, evTs, evTan, evTor, bind_ret, bind_lift, bind_bind, lift_some, calm_ret, bind_raise, M.lst, lstM, getV_0, getV_s, List.getElem?_cons_zero, List.getElem?_cons_succ, List.set_cons_zero, List.set_cons_succ, List.length_cons, List.length_nil, bin_add, bin_sub, cmp_lt, cmp_le, cmp_gt, cmp_ge, cmp_eq, cmp_ne, tru_bl, tru_int, bi_lenl', bi_abs, bi_int, set_s, set_t, sets_n, sets_c, Option.map_some, Option.bind_some, if_true, if_false, Bool.false_eq_true, reduceIte, Nat.zero_add, Nat.reduceAdd, Nat.reduceLT]
  rw [md (by decide)]
  simp -implicitDefEqProofs only [then_eq, fin_eq, ixb0, ixb1, ixb2, ixb3, ixb4, bsb1, bsb2, bsb3, bsb4, retB, runs, Pl.run, ev, evs, evo, evAn, evOr, evT, evTs, evTan, evTor, bind_ret, bind_lift, bind_bind, lift_some, calm_ret, bind_raise, M.lst, lstM, getV_0, getV_s, List.getElem?_cons_zero, List.getElem?_cons_succ, List.set_cons_zero, List.set_cons_succ, List.length_cons, List.length_nil, bin_add, bin_sub, cmp_lt, cmp_le, cmp_gt, cmp_ge, cmp_eq, cmp_ne, tru_bl, tru_int, bi_lenl', bi_abs, bi_int, set_s, set_t, sets_n, sets_c, Option.map_some, Option.bind_some, if_true, if_false, Bool.false_eq_true, reduceIte, Nat.zero_add, Nat.reduceAdd, Nat.reduceLT]
  generalize ha : ((h + 7919 * (k + 1)) * 48271).fmod 2147483647 = a
  obtain ⟨a0, a1⟩ : 0 ≤ a ∧ a < 2147483647 := ha ▸ fm _
  rw [d1]
  simp -implicitDefEqProofs only [then_eq, fin_eq, ixb0, ixb1, ixb2, ixb3, ixb4, bsb1, bsb2, bsb3, bsb4, retB, runs, Pl.run, ev, evs, evo, evAn, evOr, evT, evTs, evTan, evTor, bind_ret, bind_lift, bind_bind, lift_some, calm_ret, bind_raise, M.lst, lstM, getV_0, getV_s, List.getElem?_cons_zero, List.getElem?_cons_succ, List.set_cons_zero, List.set_cons_succ, List.length_cons, List.length_nil, bin_add, bin_sub, cmp_lt, cmp_le, cmp_gt, cmp_ge, cmp_eq, cmp_ne, tru_bl, tru_int, bi_lenl', bi_abs, bi_int, set_s, set_t, sets_n, sets_c, Option.map_some, Option.bind_some, if_true, if_false, Bool.false_eq_true, reduceIte, Nat.zero_add, Nat.reduceAdd, Nat.reduceLT]
  obtain ⟨p0, p1⟩ := q1 a a0 a1
  rw [mo2 (b32 _ (by omega) (by omega)) (b32 _ (by omega) (by omega))]
  simp -implicitDefEqProofs only [then_eq, fin_eq, ixb0, ixb1, ixb2, ixb3, ixb4, bsb1, bsb2, bsb3, bsb4, retB, runs, Pl.run, ev, evs, evo, evAn, evOr, evT, evTs, evTan, evTor, bind_ret, bind_lift, bind_bind, lift_some, calm_ret, bind_raise, M.lst, lstM, getV_0, getV_s, List.getElem?_cons_zero, List.getElem?_cons_succ, List.set_cons_zero, List.set_cons_succ, List.length_cons, List.length_nil, bin_add, bin_sub, cmp_lt, cmp_le, cmp_gt, cmp_ge, cmp_eq, cmp_ne, tru_bl, tru_int, bi_lenl', bi_abs, bi_int, set_s, set_t, sets_n, sets_c, Option.map_some, Option.bind_some, if_true, if_false, Bool.false_eq_true, reduceIte, Nat.zero_add, Nat.reduceAdd, Nat.reduceLT]
  rw [md (by decide)]
  simp -implicitDefEqProofs only [then_eq, fin_eq, ixb0, ixb1, ixb2, ixb3, ixb4, bsb1, bsb2, bsb3, bsb4, retB, runs, Pl.run, ev, evs, evo, evAn, evOr, evT, evTs, evTan, evTor, bind_ret, bind_lift, bind_bind, lift_some, calm_ret, bind_raise, M.lst, lstM, getV_0, getV_s, List.getElem?_cons_zero, List.getElem?_cons_succ, List.set_cons_zero, List.set_cons_succ, List.length_cons, List.length_nil, bin_add, bin_sub, cmp_lt, cmp_le, cmp_gt, cmp_ge, cmp_eq, cmp_ne, tru_bl, tru_int, bi_lenl', bi_abs, bi_int, set_s, set_t, sets_n, sets_c, Option.map_some, Option.bind_some, if_true, if_false, Bool.false_eq_true, reduceIte, Nat.zero_add, Nat.reduceAdd, Nat.reduceLT]
  generalize hb : (a * (a.fdiv 1009 + 69621)).fmod 2147483647 = b
  obtain ⟨b0, b1⟩ : 0 ≤ b ∧ b < 2147483647 := hb ▸ fm _
  rw [d2]
  simp -implicitDefEqProofs only [then_eq, fin_eq, ixb0, ixb1, ixb2, ixb3, ixb4, bsb1, bsb2, bsb3, bsb4, retB, runs, Pl.run, ev, evs, evo, evAn, evOr, evT, evTs, evTan, evTor, bind_ret, bind_lift, bind_bind, lift_some, calm_ret, bind_raise, M.lst, lstM, getV_0, getV_s, List.getElem?_cons_zero, List.getElem?_cons_succ, List.set_cons_zero, List.set_cons_succ, List.length_cons, List.length_nil, bin_add, bin_sub, cmp_lt, cmp_le, cmp_gt, cmp_ge, cmp_eq, cmp_ne, tru_bl, tru_int, bi_lenl', bi_abs, bi_int, set_s, set_t, sets_n, sets_c, Option.map_some, Option.bind_some, if_true, if_false, Bool.false_eq_true, reduceIte, Nat.zero_add, Nat.reduceAdd, Nat.reduceLT]
  obtain ⟨p2, p3⟩ := q2 b b0 b1
  rw [mo2 (b32 _ (by omega) (by omega)) (b32 _ (by omega) (by omega))]
  simp -implicitDefEqProofs only [then_eq, fin_eq, ixb0, ixb1, ixb2, ixb3, ixb4, bsb1, bsb2, bsb3, bsb4, retB, runs, Pl.run, ev, evs, evo, evAn, evOr, evT, evTs, evTan, evTor, bind_ret, bind_lift, bind_bind, lift_some, calm_ret, bind_raise, M.lst, lstM, getV_0, getV_s, List.getElem?_cons_zero, List.getElem?_cons_succ, List.set_cons_zero, List.set_cons_succ, List.length_cons, List.length_nil, bin_add, bin_sub, cmp_lt, cmp_le, cmp_gt, cmp_ge, cmp_eq, cmp_ne, tru_bl, tru_int, bi_lenl', bi_abs, bi_int, set_s, set_t, sets_n, sets_c, Option.map_some, Option.bind_some, if_true, if_false, Bool.false_eq_true, reduceIte, Nat.zero_add, Nat.reduceAdd, Nat.reduceLT]
  rw [md (by decide)]
  simp -implicitDefEqProofs only [then_eq, fin_eq, ixb0, ixb1, ixb2, ixb3, ixb4, bsb1, bsb2, bsb3, bsb4, retB, runs, Pl.run, ev, evs, evo, evAn, evOr, evT, evTs, evTan, evTor, bind_ret, bind_lift, bind_bind, lift_some, calm_ret, bind_raise, M.lst, lstM, getV_0, getV_s, List.getElem?_cons_zero, List.getElem?_cons_succ, List.set_cons_zero, List.set_cons_succ, List.length_cons, List.length_nil, bin_add, bin_sub, cmp_lt, cmp_le, cmp_gt, cmp_ge, cmp_eq, cmp_ne, tru_bl, tru_int, bi_lenl', bi_abs, bi_int, set_s, set_t, sets_n, sets_c, Option.map_some, Option.bind_some, if_true, if_false, Bool.false_eq_true, reduceIte, Nat.zero_add, Nat.reduceAdd, Nat.reduceLT]
  generalize hc : (b * (b.fdiv 2003 + 40014)).fmod 2147483563 = c
  rw [d3]
  simp -implicitDefEqProofs only [then_eq, fin_eq, ixb0, ixb1, ixb2, ixb3, ixb4, bsb1, bsb2, bsb3, bsb4, retB, runs, Pl.run, ev, evs, evo, evAn, evOr, evT, evTs, evTan, evTor, bind_ret, bind_lift, bind_bind, lift_some, calm_ret, bind_raise, M.lst, lstM, getV_0, getV_s, List.getElem?_cons_zero, List.getElem?_cons_succ, List.set_cons_zero, List.set_cons_succ, List.length_cons, List.length_nil, bin_add, bin_sub, cmp_lt, cmp_le, cmp_gt, cmp_ge, cmp_eq, cmp_ne, tru_bl, tru_int, bi_lenl', bi_abs, bi_int, set_s, set_t, sets_n, sets_c, Option.map_some, Option.bind_some, if_true, if_false, Bool.false_eq_true, reduceIte, Nat.zero_add, Nat.reduceAdd, Nat.reduceLT]
  rw [md (by omega)]
  simp -implicitDefEqProofs only [then_eq, fin_eq, ixb0, ixb1, ixb2, ixb3, ixb4, bsb1, bsb2, bsb3, bsb4, retB, runs, Pl.run, ev, evs, evo, evAn, evOr, evT, evTs, evTan, evTor, bind_ret, bind_lift, bind_bind, lift_some, calm_ret, bind_raise, M.lst, lstM, getV_0, getV_s, List.getElem?_cons_zero, List.getElem?_cons_succ, List.set_cons_zero, List.set_cons_succ, List.length_cons, List.length_nil, bin_add, bin_sub, cmp_lt, cmp_le, cmp_gt, cmp_ge, cmp_eq, cmp_ne, tru_bl, tru_int, bi_lenl', bi_abs, bi_int, set_s, set_t, sets_n, sets_c, Option.map_some, Option.bind_some, if_true, if_false, Bool.false_eq_true, reduceIte, Nat.zero_add, Nat.reduceAdd, Nat.reduceLT]
  exact ⟨_, Int.fmod_nonneg_of_pos _ (by omega), Int.fmod_lt_of_pos _ (by omega), rfl⟩
end Md

-- part W2
set_option maxHeartbeats 4000000
set_option exponentiation.threshold 3000
namespace Pl
open PySem PySem.Spec PyProof.Rows L2
theorem runsB {C : Cf} {s : Ps} {ss : List Ps} {r r1 : Rho} {B B1 : Bs} (h : Pl.run C s r B = .ok (.nx r1) B1) : runs C (s :: ss) r B = runs C ss r1 B1 := by
  show thenM (Pl.run C s r) _ B = _
  rw [then_ok h]
theorem runsBr {C : Cf} {s : Ps} {ss : List Ps} {r : Rho} {d : D} {B B1 : Bs} (h : Pl.run C s r B = .ok (.rt d) B1) : runs C (s :: ss) r B = .ok (.rt d) B1 := by
  show thenM (Pl.run C s r) _ B = _
  unfold thenM
  rw [bind_ok' h]
  rfl
theorem finB {m : M Fl} {d : D} {B B1 : Bs} (h : m B = .ok (.rt d) B1) : finM m B = .ok d B1 := by
  unfold finM
  rw [bind_ok' h]
  rfl
end Pl
namespace Md
open PySem PySem.Spec PyProof.Rows L2 Pl
theorem ix_cell {cs : List Int} {i : Int} (h0 : 0 ≤ i) (h1 : i < cs.length) : ∃ c ∈ cs, (fun B => M.lift (ixM B (.lst (il cs)) (.int i)) B) = M.ret (.int c) := by
  obtain ⟨k, rfl⟩ := Int.eq_ofNat_of_zero_le h0
  have hk : k < cs.length := by omega
  refine ⟨cs[k], List.getElem_mem _, ?_⟩
  rw [ixm_l]
  have : atI (il cs) (k : Int) = some (.int (cs.getD k 0)) := ix_il hk
  show M.lift (atI (il cs) (k : Int)) = _
  rw [this]
  simp [List.getD_eq_getElem?_getD, List.getElem?_eq_getElem hk]
  rfl
theorem part1 {C : Cf} {many h k r i : Int} {cs : List Int} (hcs : ∀ c ∈ cs, 0 ≤ c ∧ c < 10 ^ 36) (i0 : 0 ≤ i) (r0 : 0 ≤ r) (r1 : r < 10 ^ 36) (h0 : 0 ≤ h) (h1 : h < 2147483647) : ∃ x3 i' r' h', 0 ≤ i' ∧ 0 ≤ r' ∧ r' < 10 ^ 36 ∧ 0 ≤ h' ∧ h' < 2147483647 ∧
    Pl.run C (.ite (.an [(.cmp .eq (.ix (.v 0) (.c (.int 2))) (.c (.int 0))), (.cmp .lt (.ix (.v 0) (.c (.int 1))) (.bi .len [(.ix (.v 0) (.c (.int 0)))]))])
      [.set (.s 3) (.ix (.ix (.v 0) (.c (.int 0))) (.ix (.v 0) (.c (.int 1)))),
      .bst (.v 0) (.c (.int 1)) (.bin .add (.ix (.v 0) (.c (.int 1))) (.c (.int 1))),
      .bst (.v 0) (.c (.int 3)) (.bin .mod (.bi .int [(.bin .add (.bin .add (.bin .mul (.ix (.v 0) (.c (.int 3))) (.c (.int 69621))) (.bin .mul (.v 3) (.c (.int 40692)))) (.c (.int 211)))]) (.c (.int 2147483629))),
      .ite (.cmp .ge (.v 3) (.bin .pow (.c (.int 10)) (.c (.int 18))))
        [.bst (.v 0) (.c (.int 2)) (.v 3)]
        []]
      []) [.v (.bag 0), .v (.int many), .e, .e, .e] [[.lst (il cs), .int i, .int r, .int h, .int k]] = .ok (.nx [.v (.bag 0), .v (.int many), .e, x3, .e]) [[.lst (il cs), .int i', .int r', .int h', .int k]] := by
  have same : 0 ≤ i ∧ 0 ≤ r ∧ r < 10 ^ 36 ∧ 0 ≤ h ∧ h < 2147483647 := ⟨i0, r0, r1, h0, h1⟩
  simp -implicitDefEqProofs only [then_eq, fin_eq, ixb0, ixb1, ixb2, ixb3, ixb4, bsb1, bsb2, bsb3, bsb4, retB, runs, Pl.run, ev, evs, evo, evAn, evOr, evT, evTs, evTan, evTor, bind_ret, bind_lift, bind_bind, lift_some, calm_ret, bind_raise, M.lst, lstM, getV_0, getV_s, List.getElem?_cons_zero, List.getElem?_cons_succ, List.set_cons_zero, List.set_cons_succ, List.length_cons, List.length_nil, bin_add, bin_sub, cmp_lt, cmp_le, cmp_gt, cmp_ge, cmp_eq, cmp_ne, tru_bl, tru_int, bi_lenl', bi_abs, bi_int, set_s, set_t, sets_n, sets_c, Option.map_some, Option.bind_some, if_true, if_false, Bool.false_eq_true, reduceIte, Nat.zero_add, Nat.reduceAdd, Nat.reduceLT]
  by_cases hr : r = 0
  · rw [show (r == 0) = true by simp [hr]]
    simp -implicitDefEqProofs only [then_eq, fin_eq, ixb0, ixb1, ixb2, ixb3, ixb4, bsb1, bsb2, bsb3, bsb4, retB, runs, Pl.run, ev, evs, evo, evAn, evOr, evT, evTs, evTan, evTor, bind_ret, bind_lift, bind_bind, lift_some, calm_ret, bind_raise, M.lst, lstM, getV_0, getV_s, List.getElem?_cons_zero, List.getElem?_cons_succ, List.set_cons_zero, List.set_cons_succ, List.length_cons, List.length_nil, bin_add, bin_sub, cmp_lt, cmp_le, cmp_gt, cmp_ge, cmp_eq, cmp_ne, tru_bl, tru_int, bi_lenl', bi_abs, bi_int, set_s, set_t, sets_n, sets_c, Option.map_some, Option.bind_some, if_true, if_false, Bool.false_eq_true, reduceIte, Nat.zero_add, Nat.reduceAdd, Nat.reduceLT]
    by_cases hi : i < (cs.length : Int)
    · rw [decide_eq_true hi]
      simp -implicitDefEqProofs only [then_eq, fin_eq, ixb0, ixb1, ixb2, ixb3, ixb4, bsb1, bsb2, bsb3, bsb4, retB, runs, Pl.run, ev, evs, evo, evAn, evOr, evT, evTs, evTan, evTor, bind_ret, bind_lift, bind_bind, lift_some, calm_ret, bind_raise, M.lst, lstM, getV_0, getV_s, List.getElem?_cons_zero, List.getElem?_cons_succ, List.set_cons_zero, List.set_cons_succ, List.length_cons, List.length_nil, bin_add, bin_sub, cmp_lt, cmp_le, cmp_gt, cmp_ge, cmp_eq, cmp_ne, tru_bl, tru_int, bi_lenl', bi_abs, bi_int, set_s, set_t, sets_n, sets_c, Option.map_some, Option.bind_some, if_true, if_false, Bool.false_eq_true, reduceIte, Nat.zero_add, Nat.reduceAdd, Nat.reduceLT]
      obtain ⟨c, hc, ec⟩ := ix_cell i0 hi
      rw [ec]
      obtain ⟨c0, c1⟩ := hcs c hc
      have c2 : c.natAbs < 2 ^ 300 := Nat.lt_of_lt_of_le (show c.natAbs < 10 ^ 36 by omega) (by decide)
      simp -implicitDefEqProofs only [then_eq, fin_eq, ixb0, ixb1, ixb2, ixb3, ixb4, bsb1, bsb2, bsb3, bsb4, retB, runs, Pl.run, ev, evs, evo, evAn, evOr, evT, evTs, evTan, evTor, bind_ret, bind_lift, bind_bind, lift_some, calm_ret, bind_raise, M.lst, lstM, getV_0, getV_s, List.getElem?_cons_zero, List.getElem?_cons_succ, List.set_cons_zero, List.set_cons_succ, List.length_cons, List.length_nil, bin_add, bin_sub, cmp_lt, cmp_le, cmp_gt, cmp_ge, cmp_eq, cmp_ne, tru_bl, tru_int, bi_lenl', bi_abs, bi_int, set_s, set_t, sets_n, sets_c, Option.map_some, Option.bind_some, if_true, if_false, Bool.false_eq_true, reduceIte, Nat.zero_add, Nat.reduceAdd, Nat.reduceLT]
      rw [mo2 (Nat.lt_of_lt_of_le (show h.natAbs < 2 ^ 64 by omega) (by decide)) (by decide)]
      simp -implicitDefEqProofs only [then_eq, fin_eq, ixb0, ixb1, ixb2, ixb3, ixb4, bsb1, bsb2, bsb3, bsb4, retB, runs, Pl.run, ev, evs, evo, evAn, evOr, evT, evTs, evTan, evTor, bind_ret, bind_lift, bind_bind, lift_some, calm_ret, bind_raise, M.lst, lstM, getV_0, getV_s, List.getElem?_cons_zero, List.getElem?_cons_succ, List.set_cons_zero, List.set_cons_succ, List.length_cons, List.length_nil, bin_add, bin_sub, cmp_lt, cmp_le, cmp_gt, cmp_ge, cmp_eq, cmp_ne, tru_bl, tru_int, bi_lenl', bi_abs, bi_int, set_s, set_t, sets_n, sets_c, Option.map_some, Option.bind_some, if_true, if_false, Bool.false_eq_true, reduceIte, Nat.zero_add, Nat.reduceAdd, Nat.reduceLT]
      rw [mo2 c2 (by decide)]
      simp -implicitDefEqProofs only [then_eq, fin_eq, ixb0, ixb1, ixb2, ixb3, ixb4, bsb1, bsb2, bsb3, bsb4, retB, runs, Pl.run, ev, evs, evo, evAn, evOr, evT, evTs, evTan, evTor, bind_ret, bind_lift, bind_bind, lift_some, calm_ret, bind_raise, M.lst, lstM, getV_0, getV_s, List.getElem?_cons_zero, List.getElem?_cons_succ, List.set_cons_zero, List.set_cons_succ, List.length_cons, List.length_nil, bin_add, bin_sub, cmp_lt, cmp_le, cmp_gt, cmp_ge, cmp_eq, cmp_ne, tru_bl, tru_int, bi_lenl', bi_abs, bi_int, set_s, set_t, sets_n, sets_c, Option.map_some, Option.bind_some, if_true, if_false, Bool.false_eq_true, reduceIte, Nat.zero_add, Nat.reduceAdd, Nat.reduceLT]
      rw [md (by decide)]
      simp -implicitDefEqProofs only [then_eq, fin_eq, ixb0, ixb1, ixb2, ixb3, ixb4, bsb1, bsb2, bsb3, bsb4, retB, runs, Pl.run, ev, evs, evo, evAn, evOr, evT, evTs, evTan, evTor, bind_ret, bind_lift, bind_bind, lift_some, calm_ret, bind_raise, M.lst, lstM, getV_0, getV_s, List.getElem?_cons_zero, List.getElem?_cons_succ, List.set_cons_zero, List.set_cons_succ, List.length_cons, List.length_nil, bin_add, bin_sub, cmp_lt, cmp_le, cmp_gt, cmp_ge, cmp_eq, cmp_ne, tru_bl, tru_int, bi_lenl', bi_abs, bi_int, set_s, set_t, sets_n, sets_c, Option.map_some, Option.bind_some, if_true, if_false, Bool.false_eq_true, reduceIte, Nat.zero_add, Nat.reduceAdd, Nat.reduceLT]
      rw [pw36]
      simp -implicitDefEqProofs only [then_eq, fin_eq, ixb0, ixb1, ixb2, ixb3, ixb4, bsb1, bsb2, bsb3, bsb4, retB, runs, Pl.run, ev, evs, evo, evAn, evOr, evT, evTs, evTan, evTor, bind_ret, bind_lift, bind_bind, lift_some, calm_ret, bind_raise, M.lst, lstM, getV_0, getV_s, List.getElem?_cons_zero, List.getElem?_cons_succ, List.set_cons_zero, List.set_cons_succ, List.length_cons, List.length_nil, bin_add, bin_sub, cmp_lt, cmp_le, cmp_gt, cmp_ge, cmp_eq, cmp_ne, tru_bl, tru_int, bi_lenl', bi_abs, bi_int, set_s, set_t, sets_n, sets_c, Option.map_some, Option.bind_some, if_true, if_false, Bool.false_eq_true, reduceIte, Nat.zero_add, Nat.reduceAdd, Nat.reduceLT]
      have f0 := Int.fmod_nonneg_of_pos (h * 69621 + c * 40692 + 211) (show (0 : Int) < 2147483629 by decide)
      have f1 := Int.fmod_lt_of_pos (h * 69621 + c * 40692 + 211) (show (0 : Int) < 2147483629 by decide)
      by_cases hg : 1000000000000000000 ≤ c
      · rw [decide_eq_true hg]
        simp -implicitDefEqProofs only [then_eq, fin_eq, ixb0, ixb1, ixb2, ixb3, ixb4, bsb1, bsb2, bsb3, bsb4, retB, runs, Pl.run, ev, evs, evo, evAn, evOr, evT, evTs, evTan, evTor, bind_ret, bind_lift, bind_bind, lift_some, calm_ret, bind_raise, M.lst, lstM, getV_0, getV_s, List.getElem?_cons_zero, List.getElem?_cons_succ, List.set_cons_zero, List.set_cons_succ, List.length_cons, List.length_nil, bin_add, bin_sub, cmp_lt, cmp_le, cmp_gt, cmp_ge, cmp_eq, cmp_ne, tru_bl, tru_int, bi_lenl', bi_abs, bi_int, set_s, set_t, sets_n, sets_c, Option.map_some, Option.bind_some, if_true, if_false, Bool.false_eq_true, reduceIte, Nat.zero_add, Nat.reduceAdd, Nat.reduceLT]
        exact ⟨_, _, _, _, by omega, c0, c1, f0, by omega, rfl⟩
      · rw [decide_eq_false hg]
        simp -implicitDefEqProofs only [then_eq, fin_eq, ixb0, ixb1, ixb2, ixb3, ixb4, bsb1, bsb2, bsb3, bsb4, retB, runs, Pl.run, ev, evs, evo, evAn, evOr, evT, evTs, evTan, evTor, bind_ret, bind_lift, bind_bind, lift_some, calm_ret, bind_raise, M.lst, lstM, getV_0, getV_s, List.getElem?_cons_zero, List.getElem?_cons_succ, List.set_cons_zero, List.set_cons_succ, List.length_cons, List.length_nil, bin_add, bin_sub, cmp_lt, cmp_le, cmp_gt, cmp_ge, cmp_eq, cmp_ne, tru_bl, tru_int, bi_lenl', bi_abs, bi_int, set_s, set_t, sets_n, sets_c, Option.map_some, Option.bind_some, if_true, if_false, Bool.false_eq_true, reduceIte, Nat.zero_add, Nat.reduceAdd, Nat.reduceLT]
        exact ⟨_, _, _, _, by omega, r0, r1, f0, by omega, rfl⟩
    · rw [decide_eq_false hi]
      simp -implicitDefEqProofs only [then_eq, fin_eq, ixb0, ixb1, ixb2, ixb3, ixb4, bsb1, bsb2, bsb3, bsb4, retB, runs, Pl.run, ev, evs, evo, evAn, evOr, evT, evTs, evTan, evTor, bind_ret, bind_lift, bind_bind, lift_some, calm_ret, bind_raise, M.lst, lstM, getV_0, getV_s, List.getElem?_cons_zero, List.getElem?_cons_succ, List.set_cons_zero, List.set_cons_succ, List.length_cons, List.length_nil, bin_add, bin_sub, cmp_lt, cmp_le, cmp_gt, cmp_ge, cmp_eq, cmp_ne, tru_bl, tru_int, bi_lenl', bi_abs, bi_int, set_s, set_t, sets_n, sets_c, Option.map_some, Option.bind_some, if_true, if_false, Bool.false_eq_true, reduceIte, Nat.zero_add, Nat.reduceAdd, Nat.reduceLT]
      exact ⟨_, _, _, _, same.1, same.2.1, same.2.2.1, same.2.2.2.1, same.2.2.2.2, rfl⟩
  · rw [show (r == 0) = false by simp [hr]]
    simp -implicitDefEqProofs only [then_eq, fin_eq, ixb0, ixb1, ixb2, ixb3, ixb4, bsb1, bsb2, bsb3, bsb4, retB, runs, Pl.run, ev, evs, evo, evAn, evOr, evT, evTs, evTan, evTor, bind_ret, bind_lift, bind_bind, lift_some, calm_ret, bind_raise, M.lst, lstM, getV_0, getV_s, List.getElem?_cons_zero, List.getElem?_cons_succ, List.set_cons_zero, List.set_cons_succ, List.length_cons, List.length_nil, bin_add, bin_sub, cmp_lt, cmp_le, cmp_gt, cmp_ge, cmp_eq, cmp_ne, tru_bl, tru_int, bi_lenl', bi_abs, bi_int, set_s, set_t, sets_n, sets_c, Option.map_some, Option.bind_some, if_true, if_false, Bool.false_eq_true, reduceIte, Nat.zero_add, Nat.reduceAdd, Nat.reduceLT]
    exact ⟨_, _, _, _, same.1, same.2.1, same.2.2.1, same.2.2.2.1, same.2.2.2.2, rfl⟩
theorem s52 {n : Nat} (hn : 1 ≤ n) {many : Int} (hm : 1 ≤ many) (hm2 : many ≤ 1000) {N : Nat} (hN : N ≤ 1000000) {B : Bs} (hB : Hd N B) : ∃ d B', G n 52 [.bag 0, .int many] B = .ok (.int d) B' ∧ 0 ≤ d ∧ d < many ∧ Hd (N + 1) B' := by
  obtain ⟨m, rfl, _⟩ := pred hn
  obtain ⟨cs, i, r, h, k, rfl, c1, c2, i0, r0, r1, h0, h1, k0, k1⟩ := hB
  obtain ⟨x3, i', r', h', i0', r0', r1', h0', h1', e1⟩ := part1 (C := cf m) (many := many) (k := k) c2 i0 r0 r1 h0 h1
  have start : G (m + 1) 52 [.bag 0, .int many] = finM (runs (cf m) d52.body [.v (.bag 0), .v (.int many), .e, .e, .e]) := rfl
  rw [start]
  unfold d52
  by_cases hr : 0 < r'
  · refine ⟨r'.fmod many, [[.lst (il cs), .int i', .int (r'.fdiv many), .int h', .int k]], finB ?_, Int.fmod_nonneg_of_pos _ (by omega), Int.fmod_lt_of_pos _ (by omega), cs, i', r'.fdiv many, h', k, rfl, c1, c2, i0', ?_, ?_, h0', h1', k0, by omega⟩
    · rw [runsB e1]
      have dv : divOk many = true := by
        unfold divOk
        have : many.natAbs.log2 < 9000 := by
          have : many.natAbs.log2 ≤ many.natAbs := Nat.log2_le_self _
          omega
        simp [this]
        omega
      refine runsBr ?_
      simp -implicitDefEqProofs only [then_eq, fin_eq, ixb0, ixb1, ixb2, ixb3, ixb4, bsb1, bsb2, bsb3, bsb4, retB, runs, Pl.run, ev, evs, evo, evAn, evOr, evT, evTs, evTan, evTor, bind_ret, bind_lift, bind_bind, lift_some, calm_ret, bind_raise, M.lst, lstM, getV_0, getV_s, List.getElem?_cons_zero, List.getElem?_cons_succ, List.set_cons_zero, List.set_cons_succ, List.length_cons, List.length_nil, bin_add, bin_sub, cmp_lt, cmp_le, cmp_gt, cmp_ge, cmp_eq, cmp_ne, tru_bl, tru_int, bi_lenl', bi_abs, bi_int, set_s, set_t, sets_n, sets_c, Option.map_some, Option.bind_some, if_true, if_false, Bool.false_eq_true, reduceIte, Nat.zero_add, Nat.reduceAdd, Nat.reduceLT]
      rw [decide_eq_true hr]
      simp -implicitDefEqProofs only [then_eq, fin_eq, ixb0, ixb1, ixb2, ixb3, ixb4, bsb1, bsb2, bsb3, bsb4, retB, runs, Pl.run, ev, evs, evo, evAn, evOr, evT, evTs, evTan, evTor, bind_ret, bind_lift, bind_bind, lift_some, calm_ret, bind_raise, M.lst, lstM, getV_0, getV_s, List.getElem?_cons_zero, List.getElem?_cons_succ, List.set_cons_zero, List.set_cons_succ, List.length_cons, List.length_nil, bin_add, bin_sub, cmp_lt, cmp_le, cmp_gt, cmp_ge, cmp_eq, cmp_ne, tru_bl, tru_int, bi_lenl', bi_abs, bi_int, set_s, set_t, sets_n, sets_c, Option.map_some, Option.bind_some, if_true, if_false, Bool.false_eq_true, reduceIte, Nat.zero_add, Nat.reduceAdd, Nat.reduceLT]
      rw [md (by omega)]
      simp -implicitDefEqProofs only [then_eq, fin_eq, ixb0, ixb1, ixb2, ixb3, ixb4, bsb1, bsb2, bsb3, bsb4, retB, runs, Pl.run, ev, evs, evo, evAn, evOr, evT, evTs, evTan, evTor, bind_ret, bind_lift, bind_bind, lift_some, calm_ret, bind_raise, M.lst, lstM, getV_0, getV_s, List.getElem?_cons_zero, List.getElem?_cons_succ, List.set_cons_zero, List.set_cons_succ, List.length_cons, List.length_nil, bin_add, bin_sub, cmp_lt, cmp_le, cmp_gt, cmp_ge, cmp_eq, cmp_ne, tru_bl, tru_int, bi_lenl', bi_abs, bi_int, set_s, set_t, sets_n, sets_c, Option.map_some, Option.bind_some, if_true, if_false, Bool.false_eq_true, reduceIte, Nat.zero_add, Nat.reduceAdd, Nat.reduceLT]
      rw [bin_fdiv, if_pos dv]
      simp -implicitDefEqProofs only [then_eq, fin_eq, ixb0, ixb1, ixb2, ixb3, ixb4, bsb1, bsb2, bsb3, bsb4, retB, runs, Pl.run, ev, evs, evo, evAn, evOr, evT, evTs, evTan, evTor, bind_ret, bind_lift, bind_bind, lift_some, calm_ret, bind_raise, M.lst, lstM, getV_0, getV_s, List.getElem?_cons_zero, List.getElem?_cons_succ, List.set_cons_zero, List.set_cons_succ, List.length_cons, List.length_nil, bin_add, bin_sub, cmp_lt, cmp_le, cmp_gt, cmp_ge, cmp_eq, cmp_ne, tru_bl, tru_int, bi_lenl', bi_abs, bi_int, set_s, set_t, sets_n, sets_c, Option.map_some, Option.bind_some, if_true, if_false, Bool.false_eq_true, reduceIte, Nat.zero_add, Nat.reduceAdd, Nat.reduceLT]
    · rw [Int.fdiv_eq_ediv_of_nonneg _ (by omega)]
      exact Int.ediv_nonneg (by omega) (by omega)
    · rw [Int.fdiv_eq_ediv_of_nonneg _ (by omega)]
      exact Int.lt_of_le_of_lt (Int.ediv_le_self _ (by omega)) r1'
  · obtain ⟨d, d0, d1, e2⟩ := mix (C := cf m) (x3 := x3) (x4 := .e) (i := i') (r := r') (cs := cs) hm hN h0' h1' k0 k1
    refine ⟨d, [[.lst (il cs), .int i', .int r', .int h', .int (k + 1)]], finB ?_, d0, d1, cs, i', r', h', k + 1, rfl, c1, c2, i0', r0', r1', h0', h1', by omega, by omega⟩
    rw [runsB e1, runsB (r1 := [.v (.bag 0), .v (.int many), .e, x3, .e]) (B1 := [[.lst (il cs), .int i', .int r', .int h', .int k]]) (by
      simp -implicitDefEqProofs only [then_eq, fin_eq, ixb0, ixb1, ixb2, ixb3, ixb4, bsb1, bsb2, bsb3, bsb4, retB, runs, Pl.run, ev, evs, evo, evAn, evOr, evT, evTs, evTan, evTor, bind_ret, bind_lift, bind_bind, lift_some, calm_ret, bind_raise, M.lst, lstM, getV_0, getV_s, List.getElem?_cons_zero, List.getElem?_cons_succ, List.set_cons_zero, List.set_cons_succ, List.length_cons, List.length_nil, bin_add, bin_sub, cmp_lt, cmp_le, cmp_gt, cmp_ge, cmp_eq, cmp_ne, tru_bl, tru_int, bi_lenl', bi_abs, bi_int, set_s, set_t, sets_n, sets_c, Option.map_some, Option.bind_some, if_true, if_false, Bool.false_eq_true, reduceIte, Nat.zero_add, Nat.reduceAdd, Nat.reduceLT]
      rw [decide_eq_false hr]
      simp -implicitDefEqProofs only [then_eq, fin_eq, ixb0, ixb1, ixb2, ixb3, ixb4, bsb1, bsb2, bsb3, bsb4, retB, runs, Pl.run, ev, evs, evo, evAn, evOr, evT, evTs, evTan, evTor, bind_ret, bind_lift, bind_bind, lift_some, calm_ret, bind_raise, M.lst, lstM, getV_0, getV_s, List.getElem?_cons_zero, List.getElem?_cons_succ, List.set_cons_zero, List.set_cons_succ, List.length_cons, List.length_nil, bin_add, bin_sub, cmp_lt, cmp_le, cmp_gt, cmp_ge, cmp_eq, cmp_ne, tru_bl, tru_int, bi_lenl', bi_abs, bi_int, set_s, set_t, sets_n, sets_c, Option.map_some, Option.bind_some, if_true, if_false, Bool.false_eq_true, reduceIte, Nat.zero_add, Nat.reduceAdd, Nat.reduceLT])]
    exact e2
end Md

-- part W3
set_option maxHeartbeats 4000000
set_option exponentiation.threshold 3000
namespace Pl
open PySem PySem.Spec PyProof.Rows L2
/-! ### equal data -/
theorem toPds_il : ∀ l : List Int, toPds (il l) = some (l.map PyData.int)
  | [] => rfl
  | x :: l => by
    show (match toPd (.int x), toPds (il l) with | some a, some b => some (a :: b) | _, _ => none) = _
    rw [toPds_il l]
    rfl
theorem canLay_il : ∀ l : List Int, PyData.canLayAll0 (l.map PyData.int) = true
  | [] => by simp [PyData.canLayAll0]
  | x :: l => by simp [PyData.canLayAll0, PyData.canLay0, canLay_il l]
theorem depth_il : ∀ l : List Int, PyData.depthAll (l.map PyData.int) ≤ 1
  | [] => by simp [PyData.depthAll]
  | x :: l => by
    have := depth_il l
    simp [PyData.depthAll, PyData.depth]
    omega
theorem eqv_il : ∀ l : List Int, PyData.eqvAll (l.map PyData.int) (l.map PyData.int) = true
  | [] => by simp [PyData.eqvAll]
  | x :: l => by simp [PyData.eqvAll, PyData.eqv, eqv_il l]
theorem shaped_t (l : List Int) : SeqAt.shaped (.tuple (l.map PyData.int)) = true := by
  have := depth_il l
  unfold SeqAt.shaped
  simp [PyData.canLay0, canLay_il, PyData.depth]
  omega
theorem shaped_l (l : List Int) : SeqAt.shaped (.list (l.map PyData.int)) = true := by
  have := depth_il l
  unfold SeqAt.shaped
  simp [PyData.canLay0, canLay_il, PyData.depth]
  omega
theorem eqD_tl (l : List Int) : eqD (tl l) (tl l) = some true := by
  have e : toPd (tl l) = some (.tuple (l.map PyData.int)) := by
    show (toPds (il l)).map PyData.tuple = _
    rw [toPds_il]
    rfl
  unfold eqD
  rw [e]
  dsimp only
  rw [shaped_t]
  simp [PyData.eqv, eqv_il]
theorem eqD_ll (l : List Int) : eqD (ll l) (ll l) = some true := by
  have e : toPd (ll l) = some (.list (l.map PyData.int)) := by
    show (toPds (il l)).map PyData.list = _
    rw [toPds_il]
    rfl
  unfold eqD
  rw [e]
  dsimp only
  rw [shaped_l]
  simp [PyData.eqv, eqv_il]
theorem eqD_pair (l : List Int) (k : Int) : eqD (.tup [tl l, .int k]) (.tup [tl l, .int k]) = some true := by
  have e : toPd (.tup [tl l, .int k]) = some (.tuple [.tuple (l.map PyData.int), .int k]) := by
    show (toPds [tl l, .int k]).map PyData.tuple = _
    show (match toPd (tl l), toPds [.int k] with | some a, some b => some (a :: b) | _, _ => none).map PyData.tuple = _
    have e : toPd (tl l) = some (.tuple (l.map PyData.int)) := by
      show (toPds (il l)).map PyData.tuple = _
      rw [toPds_il]
      rfl
    rw [e]
    rfl
  have sh : SeqAt.shaped (.tuple [.tuple (l.map PyData.int), .int k]) = true := by
    have := depth_il l
    unfold SeqAt.shaped
    simp [PyData.canLay0, PyData.canLayAll0, canLay_il, PyData.depth, PyData.depthAll]
    omega
  unfold eqD
  rw [e]
  dsimp only
  rw [sh]
  simp [PyData.eqv, PyData.eqvAll, eqv_il]
theorem ne_of_eqD {x : D} (h : eqD x x = some true) : cmpD .ne x x = some false := by
  have : cmpD .ne x x = (eqD x x).map (!·) := by cases x <;> rfl
  rw [this, h]
  rfl
/-! ### what is shown -/
theorem shown_small : ∀ i : Nat, i ≤ 200 → (PyData.shown (.int ((i : Int) - 100))).length ≤ 4 := by
  have : ∀ i : Nat, i < 201 → (PyData.shown (.int ((i : Int) - 100))).length ≤ 4 := by decide +kernel
  exact fun i h => this i (by omega)
theorem piled_small : ∀ l : List Int, (∀ x ∈ l, x.natAbs ≤ 100) → piled (PyData.shownAll (l.map PyData.int)) ≤ 6 * l.length
  | [], _ => by simp [PyData.shownAll, piled]
  | x :: l, h => by
    have h1 := h x List.mem_cons_self
    have h2 := piled_small l fun y hy => h y (List.mem_cons_of_mem _ hy)
    have h3 := shown_small (x + 100).toNat (by omega)
    have e : (((x + 100).toNat : Int) - 100) = x := by omega
    rw [e] at h3
    simp only [List.map_cons, PyData.shownAll, List.length_cons]
    simp [piled] at h2 ⊢
    omega
theorem showable_small : ∀ l : List Int, (∀ x ∈ l, x.natAbs ≤ 100) → PyData.showableAll (l.map PyData.int) = true
  | [], _ => by simp [PyData.showableAll]
  | x :: l, h => by
    have h1 := h x List.mem_cons_self
    have h2 := showable_small l fun y hy => h y (List.mem_cons_of_mem _ hy)
    have : x.natAbs.log2 < 1920 := Nat.lt_of_le_of_lt (Nat.log2_le_self _) (by omega)
    simp [PyData.showableAll, PyData.showable, h2, this]
theorem ok_app (a b : Str) : PyData.strOk (a ++ b) = (PyData.strOk a && PyData.strOk b) := by
  unfold PyData.strOk
  rw [Str.cps_append]
  simp
theorem ok_small : ∀ i : Nat, i ≤ 200 → PyData.strOk (PyData.shown (.int ((i : Int) - 100))) = true := by
  have : ∀ i : Nat, i < 201 → PyData.strOk (PyData.shown (.int ((i : Int) - 100))) = true := by decide +kernel
  exact fun i h => this i (by omega)
theorem ok_join : ∀ l : List Int, (∀ x ∈ l, x.natAbs ≤ 100) → PyData.strOk (Str.join ", " (PyData.shownAll (l.map PyData.int))) = true
  | [], _ => by
    simp only [List.map_nil, PyData.shownAll]
    decide +kernel
  | [x], h => by
    have h1 := h x List.mem_cons_self
    have h3 := ok_small (x + 100).toNat (by omega)
    have e : (((x + 100).toNat : Int) - 100) = x := by omega
    rw [e] at h3
    simp only [List.map_cons, List.map_nil, PyData.shownAll]
    exact h3
  | x :: y :: l, h => by
    have h1 := h x List.mem_cons_self
    have h3 := ok_small (x + 100).toNat (by omega)
    have e : (((x + 100).toNat : Int) - 100) = x := by omega
    rw [e] at h3
    have ih := ok_join (y :: l) fun z hz => h z (List.mem_cons_of_mem _ hz)
    simp only [List.map_cons, PyData.shownAll] at ih ⊢
    show PyData.strOk (PyData.shown (.int x) ++ ", " ++ Str.join ", " (PyData.shown (.int y) :: PyData.shownAll (l.map PyData.int))) = true
    rw [ok_app, ok_app, h3, ih]
    decide +kernel
theorem eqD_str {s : Str} (h : PyData.strOk s = true) : eqD (.str s) (.str s) = some true := by
  unfold eqD toPd
  dsimp only
  have : SeqAt.shaped (.str s) = true := by
    unfold SeqAt.shaped
    simp [PyData.canLay0, h, PyData.depth]
  rw [this]
  simp [PyData.eqv]
theorem repr_tl {l : List Int} (hl : l.length ≤ 1000) (h : ∀ x ∈ l, x.natAbs ≤ 100) : ∃ s : Str, biD .repr [tl l] = some (.str s) ∧ PyData.strOk s = true := by
  have e : toPd (tl l) = some (.tuple (l.map PyData.int)) := by
    show (toPds (il l)).map PyData.tuple = _
    rw [toPds_il]
    rfl
  have len : (PyData.shown (.tuple (l.map PyData.int))).length ≤ 10000 := by
    show (tupleText (PyData.shownAll (l.map PyData.int))).length ≤ _
    unfold tupleText
    rw [Str.length_append, Str.length_append]
    have p1 := piled_small l h
    have e1 : (("(" : String) : Str).length = 1 := rfl
    have e2 : ((if (PyData.shownAll (l.map PyData.int)).length == 1 then ",)" else ")" : String) : Str).length ≤ 2 := by
      split <;> decide
    have e3 : (Str.join ", " (PyData.shownAll (l.map PyData.int))).length ≤ 6 * l.length := by
      by_cases hn : PyData.shownAll (l.map PyData.int) = []
      · rw [hn]
        exact Nat.le_trans (by decide) (Nat.zero_le _)
      · have := join_length_add _ hn
        omega
    omega
  have okk : PyData.strOk (PyData.shown (.tuple (l.map PyData.int))) = true := by
    show PyData.strOk (tupleText (PyData.shownAll (l.map PyData.int))) = true
    unfold tupleText
    rw [ok_app, ok_app, ok_join l h]
    split <;> decide +kernel
  refine ⟨_, ?_, okk⟩
  show reprD (tl l) = _
  unfold reprD
  rw [e]
  dsimp only
  rw [if_pos]
  simp [PyData.showable, showable_small l h, shaped_t]
  exact Nat.le_trans len (by decide)
end Pl

-- part W4
set_option maxHeartbeats 4000000
set_option exponentiation.threshold 3000
namespace Pl
open PySem PySem.Spec PyProof.Rows L2
theorem lcM_B {α : Type} {f : D → M (Option D)} (h : α → D) (P : Int → Prop) (Inv : Nat → Bs → Prop) (K : Nat) (H : ∀ a N B, N < K → Inv N B → ∃ x B', f (h a) B = .ok (some (.int x)) B' ∧ P x ∧ Inv (N + 1) B') : ∀ (l : List α) (N : Nat) (B : Bs), Inv N B → N + l.length ≤ K → ∃ xs B', lcM f (l.map h) B = .ok (il xs) B' ∧ xs.length = l.length ∧ (∀ x ∈ xs, P x) ∧ Inv (N + l.length) B'
  | [], N, B, hB, _ => ⟨[], B, rfl, rfl, fun x hx => (by cases hx), hB⟩
  | a :: l, N, B, hB, hK => by
    have hl : (a :: l).length = l.length + 1 := rfl
    obtain ⟨x, B1, e1, p1, h1⟩ := H a N B (by omega) hB
    obtain ⟨xs, B2, e2, l2, p2, h2⟩ := lcM_B h P Inv K H l (N + 1) B1 h1 (by omega)
    refine ⟨x :: xs, B2, ?_, by simp [l2], fun y hy => ?_, by rw [hl, show N + (l.length + 1) = N + 1 + l.length by omega]; exact h2⟩
    · show M.bind (f (h a)) _ B = _
      rw [bind_ok' e1]
      show M.bind (lcM f (l.map h)) _ B1 = _
      rw [bind_ok' e2]
      rfl
    · rcases List.mem_cons.mp hy with rfl | hy
      · exact p1
      · exact p2 y hy
section
variable {C : Cf} {r : Rho} {B B1 : Bs}
theorem setB {i : Nat} {e : Pe} {x : D} (h1 : ev C e r B = .ok x B1) (hi : i < r.length) : Pl.run C (.set (.s i) e) r B = .ok (.nx (r.set i (.v x))) B1 := by
  show M.bind (ev C e r) _ B = _
  rw [bind_ok' h1]
  show M.bind (M.lift (if i < r.length then some (r.set i (.v x)) else none)) _ B1 = _
  rw [if_pos hi]
  rfl
theorem iteB_t {t : Pe} {a b : List Ps} (h : evT C t r B = .ok true B1) : Pl.run C (.ite t a b) r B = runs C a r B1 := by
  show M.bind (evT C t r) _ B = _
  rw [bind_ok' h]
  rfl
theorem iteB_f {t : Pe} {a b : List Ps} (h : evT C t r B = .ok false B1) : Pl.run C (.ite t a b) r B = runs C b r B1 := by
  show M.bind (evT C t r) _ B = _
  rw [bind_ok' h]
  rfl
theorem lcB {g : Pg} {k : Ik} {l t : List Pe} {e : Pe} {w : List Nat} {xs its ys : List D} (h1 : evs C l r B = .ok xs B) (h2 : itD k xs = some its)
    (h3 : lcM (fun d => M.bind (M.lift (setG g d (wipeR r w))) fun r1 => M.bind (evTs C t r1) fun b => if b then M.bind (ev C e r1) fun x => M.ret (some x) else M.ret none) its B = .ok ys B1) : ev C (.lc g k l t e w) r B = .ok (.lst ys) B1 := by
  have a1 : M.bind (evs C l r) (fun xs => M.bind (M.lift (itD k xs)) fun its => M.calm (lcM (fun d => M.bind (M.lift (setG g d (wipeR r w))) fun r1 => M.bind (evTs C t r1) fun b => if b then M.bind (ev C e r1) fun x => M.ret (some x) else M.ret none) its)) B = .ok ys B1 := by
    rw [bind_ok' h1, h2]
    show M.calm (lcM _ its) B = _
    unfold M.calm
    rw [h3]
  exact bind_ok' a1
theorem el_ok {g : Pg} {e : Pe} {w : List Nat} {d x : D} {r1 : Rho} (hs : setG g d (wipeR r w) = some r1) (he : ev C e r1 = M.ret x) : (M.bind (M.lift (setG g d (wipeR r w))) fun r1 => M.bind (evTs C [] r1) fun b => if b then M.bind (ev C e r1) fun x => M.ret (some x) else M.ret none) = M.ret (some x) := by
  rw [hs]
  show M.bind (ev C e r1) _ = _
  rw [he]
  rfl
theorem el_B {g : Pg} {e : Pe} {w : List Nat} {d x : D} {r1 : Rho} (hs : setG g d (wipeR r w) = some r1) (he : ev C e r1 B = .ok x B1) : (M.bind (M.lift (setG g d (wipeR r w))) fun r1 => M.bind (evTs C [] r1) fun b => if b then M.bind (ev C e r1) fun x => M.ret (some x) else M.ret none) B = .ok (some x) B1 := by
  rw [hs]
  show M.bind (ev C e r1) _ B = _
  rw [bind_ok' he]
  rfl
theorem retB' {e : Pe} {x : D} (h1 : ev C e r B = .ok x B1) : Pl.run C (.ret e) r B = .ok (.rt x) B1 := by
  show M.bind (ev C e r) _ B = _
  rw [bind_ok' h1]
  rfl
end
end Pl
namespace Md
open PySem PySem.Spec PyProof.Rows L2 Pl
theorem Hd.up {N M : Nat} {B : Bs} (h : Hd N B) (hm : N ≤ M) : Hd M B := by
  obtain ⟨cs, i, r, hh, k, e, a1, a2, a3, a4, a5, a6, a7, a8, a9⟩ := h
  exact ⟨cs, i, r, hh, k, e, a1, a2, a3, a4, a5, a6, a7, a8, by omega⟩
theorem s53 {n : Nat} (hn : 2 ≤ n) {l : List D} (h1 : 1 ≤ l.length) (h2 : l.length ≤ 1000) {N : Nat} (hN : N ≤ 1000000) {B : Bs} (hB : Hd N B) : ∃ d B', G n 53 [.bag 0, .lst l] B = .ok d B' ∧ d ∈ l ∧ Hd (N + 1) B' := by
  obtain ⟨m, rfl, h⟩ := pred hn
  obtain ⟨d, B', e, d0, d1, hB'⟩ := s52 (n := m) (by omega) (many := l.length) (by omega) (by omega) hN hB
  obtain ⟨k, rfl⟩ := Int.eq_ofNat_of_zero_le d0
  have hk : k < l.length := by omega
  refine ⟨l[k], B', finB ?_, List.getElem_mem _, hB'⟩
  show runs (cf m) [.ret (.ix (.v 1) (.call 52 [(.v 0), (.bi .len [(.v 1)])]))] [.v (.bag 0), .v (.lst l)] B = _
  refine runsBr (retB' ?_)
  show M.bind (G m 52 [.bag 0, .int l.length]) (fun y B => M.lift (ixM B (.lst l) y) B) B = _
  rw [bind_ok' e]
  show M.lift (atI l (k : Int)) B' = _
  unfold atI
  rw [ixN_nat hk]
  show M.lift (l[k]?) B' = _
  rw [List.getElem?_eq_getElem hk]
  rfl
theorem s51 {n : Nat} (hn : 1 ≤ n) (ns : List Int) : ∃ B', G n 51 [.scr (il ns)] [] = .ok (.bag 0) B' ∧ Hd 0 B' := by
  obtain ⟨m, rfl, h⟩ := pred hn
  have hp : binD .pow (.int 10) (.int 36) = some (.int (10 ^ 36)) := by rfl
  have e1 : ev (cf m) (.lc (.s 2) .seq [(.sl (.v 0) none (some (.c (.int 63))))] [] (.bin .mod (.bi .int [(.bi .abs [(.bi .int [(.v 2)])])]) (.bin .pow (.c (.int 10)) (.c (.int 36)))) [2]) [.v (.scr (il ns)), .e, .e] = M.ret (ll ((ns.take 63).map fun x => (if x < 0 then -x else x).fmod (10 ^ 36))) := by
    have key := lc_ok (C := cf m) (g := .s 2) (k := .seq) (l := [(.sl (.v 0) none (some (.c (.int 63))))]) (t := []) (e := (.bin .mod (.bi .int [(.bi .abs [(.bi .int [(.v 2)])])]) (.bin .pow (.c (.int 10)) (.c (.int 36))))) (w := [2]) (r := [.v (.scr (il ns)), .e, .e]) (xs := [.lst (Pl.cutD (il ns) none (some 63))]) rfl ((it_l _).trans (congrArg some (cut_il ns 63))) (lcM_on D.int (fun x => D.int ((if x < 0 then -x else x).fmod (10 ^ 36))) (fun x hx => by
      exact el_ok (r1 := [.v (.scr (il ns)), .e, .v (.int x)]) rfl (ev_bin (ev_bi1 (ev_bi1 (ev_bi1 rfl (bi_int x)) (bi_abs _)) (bi_int _)) (ev_bin rfl rfl hp) (md (by decide)))))
    refine key.trans ?_
    unfold ll il
    rw [List.map_map]
    rfl
  obtain ⟨cs, hcs⟩ : ∃ cs, cs = (ns.take 63).map fun x => (if x < 0 then -x else x).fmod ((10 : Int) ^ 36) := ⟨_, rfl⟩
  rw [← hcs] at e1
  have lcs : cs.length ≤ 63 := by rw [hcs]; simp; omega
  refine ⟨[[.lst (il cs), .int 0, .int 0, .int (59 + 9 * cs.length), .int 0]], finB ?_, cs, 0, 0, 59 + 9 * cs.length, 0, rfl, lcs, fun c hc => ?_, by omega, by omega, by decide, by omega, by omega, by omega, by omega⟩
  · show runs (cf m) d51.body [.v (.scr (il ns)), .e, .e] [] = _
    unfold d51
    rw [runs_ok (set_ok (i := 1) e1 (by simp))]
    refine runsBr (retB' ?_)
    have hm : binD .mul (.int 9) (.int cs.length) = some (.int (9 * cs.length)) := by
      rw [bin_mul, if_pos (mo (sm100 (by decide)) (sm100 (by omega)))]
    have e2 : evs (cf m) [(.v 1), (.c (.int 0)), (.c (.int 0)), (.bin .add (.c (.int 59)) (.bin .mul (.c (.int 9)) (.bi .len [(.v 1)]))), (.c (.int 0))] ([.v (.scr (il ns)), .e, .e].set 1 (.v (ll cs))) = M.ret [ll cs, .int 0, .int 0, .int (59 + 9 * cs.length), .int 0] := by
      simp only [List.set_cons_succ, List.set_cons_zero]
      simp only [runs, Pl.run, ev, evs, evo, evAn, evOr, evT, evTs, evTan, evTor, Pl.evF, bind_ret, bind_lift, bind_bind, lift_some, then_ret, then_rt, fin_rt, fin_nx, calm_ret, bind_raise, then_raise, fin_raise, rse_eq, M.lst, lstM, getV_0, getV_s, getO_0, getO_s, List.getElem?_cons_zero, List.getElem?_cons_succ, List.set_cons_zero, List.set_cons_succ, List.length_cons, List.length_nil, List.length_map, List.length_append, bin_add, bin_sub, bin_subb, cmp_lt, cmp_le, cmp_gt, cmp_ge, cmp_eq, cmp_ne, tru_bl, tru_int, bi_lent, bi_lenl, bi_lens, bi_abs, bi_int, bi_max, bi_min, bi_tupt, bi_tupl, bi_listt, bi_listl, bi_all, bi_isi_int, bi_isi_bool, bi_isi_tup, set_s, set_t, sets_n, sets_c, par_n, par_c, aug_add, aug_sub, opt_n, opt_i, sl_t, sl_l, sl_s, rev_t, rev_l, it_t, it_l, it_s, it_et, it_el, it_zt, it_zl, wipe_n, wipe_c, ixm_t, ixm_l, setV, setO, Option.map_some, Option.bind_some, gsl, if_true, if_false, Bool.false_eq_true, reduceIte, Nat.zero_add, Nat.reduceAdd, Nat.reduceLT, SZ, Nat.reduceLeDiff, Nat.zero_le]
      rw [hm]
      simp only [runs, Pl.run, ev, evs, evo, evAn, evOr, evT, evTs, evTan, evTor, Pl.evF, bind_ret, bind_lift, bind_bind, lift_some, then_ret, then_rt, fin_rt, fin_nx, calm_ret, bind_raise, then_raise, fin_raise, rse_eq, M.lst, lstM, getV_0, getV_s, getO_0, getO_s, List.getElem?_cons_zero, List.getElem?_cons_succ, List.set_cons_zero, List.set_cons_succ, List.length_cons, List.length_nil, List.length_map, List.length_append, bin_add, bin_sub, bin_subb, cmp_lt, cmp_le, cmp_gt, cmp_ge, cmp_eq, cmp_ne, tru_bl, tru_int, bi_lent, bi_lenl, bi_lens, bi_abs, bi_int, bi_max, bi_min, bi_tupt, bi_tupl, bi_listt, bi_listl, bi_all, bi_isi_int, bi_isi_bool, bi_isi_tup, set_s, set_t, sets_n, sets_c, par_n, par_c, aug_add, aug_sub, opt_n, opt_i, sl_t, sl_l, sl_s, rev_t, rev_l, it_t, it_l, it_s, it_et, it_el, it_zt, it_zl, wipe_n, wipe_c, ixm_t, ixm_l, setV, setO, Option.map_some, Option.bind_some, gsl, if_true, if_false, Bool.false_eq_true, reduceIte, Nat.zero_add, Nat.reduceAdd, Nat.reduceLT, SZ, Nat.reduceLeDiff, Nat.zero_le]
    show M.bind (evs (cf m) _ _) _ [] = _
    rw [e2]
    rfl
  · rw [hcs] at hc
    obtain ⟨x, _, rfl⟩ := List.mem_map.mp hc
    exact ⟨Int.fmod_nonneg_of_pos _ (by decide), Int.fmod_lt_of_pos _ (by decide)⟩
end Md

-- part W5
set_option maxHeartbeats 4000000
set_option exponentiation.threshold 3000
namespace Md
open PySem PySem.Spec PyProof.Rows L2 Pl
theorem fh_val {l : List Int} (h1 : 1 ≤ l.length) (h6 : l.length ≤ 6) (j : Nat) (hj : j < l.length) : val (fhL l) (j : Int) = facI (l.length - 1) * l.getD j 0 := by
  rw [← fh_lF h6, val_trim]
  match l, h1, h6 with
  | [a], _, _ => exact val1 a j (by simpa using hj)
  | [a, b], _, _ => exact val2 a b j (by simpa using hj)
  | [a, b, c], _, _ => exact val3 a b c j (by simpa using hj)
  | [a, b, c, d], _, _ => exact val4 a b c d j (by simpa using hj)
  | [a, b, c, d, e], _, _ => exact val5 a b c d e j (by simpa using hj)
  | [a, b, c, d, e, f], _, _ => exact val6 a b c d e f j (by simpa using hj)
theorem bd_all : ∀ (l : List Int), 1 ≤ l.length → l.length ≤ 6 → Bd 100 l → Bd 900000 (lF (facI (l.length - 1)) l l.length)
  | [], h, _, _ => absurd h (by decide)
  | [a], _, _, hb => bd1 a (hb a (by simp))
  | [a, b], _, _, hb => bd2 a b (hb a (by simp)) (hb b (by simp))
  | [a, b, c], _, _, hb => bd3 a b c (hb a (by simp)) (hb b (by simp)) (hb c (by simp))
  | [a, b, c, d], _, _, hb => bd4 a b c d (hb a (by simp)) (hb b (by simp)) (hb c (by simp)) (hb d (by simp))
  | [a, b, c, d, e], _, _, hb => bd5 a b c d e (hb a (by simp)) (hb b (by simp)) (hb c (by simp)) (hb d (by simp)) (hb e (by simp))
  | [a, b, c, d, e, f], _, _, hb => bd6 a b c d e f (hb a (by simp)) (hb b (by simp)) (hb c (by simp)) (hb d (by simp)) (hb e (by simp)) (hb f (by simp))
  | _ :: _ :: _ :: _ :: _ :: _ :: _ :: _, _, h6, _ => absurd h6 (by simp)
theorem Bd.up {m k : Nat} {l : List Int} (h : Bd m l) (hk : m ≤ k) : Bd k l := fun x hx => Nat.le_trans (h x hx) hk
theorem fh_row {l : List Int} (h1 : 1 ≤ l.length) (h6 : l.length ≤ 6) (hb : Bd 100 l) : Row (fhL l) ∧ (fhL l).length ≤ l.length := by
  have hl : (fhL l).length ≤ l.length := by
    rw [← fh_lF h6]
    exact Nat.le_trans (trimL_len _) (Nat.le_of_eq (lF_len _ _ _))
  refine ⟨⟨by omega, ?_, ?_⟩, hl⟩
  · rw [← fh_lF h6]
    exact (Bd.up (bd_all l h1 h6 hb) (by omega)).trim
  · unfold fhL
    exact trim_trim _
/-! ### heights of known rows -/
def small5 : List Int := [-2, -1, 0, 1, 2]
def allS : List (List Int) := (small5.map fun a => [a]) ++ (small5.flatMap fun a => small5.map fun b => [a, b]) ++ (small5.flatMap fun a => small5.flatMap fun b => small5.map fun c => [a, b, c])
def valsOf (s : List Int) (m : Nat) : List Int := (List.range m).map fun j : Nat => val s (j : Int)
def chkS (s : List Int) (m : Nat) : Bool := (valsOf s m).all (fun x => decide (x.natAbs ≤ 100)) && (decide (m < s.length) || decide (fhL (valsOf s m) = trimL (scL (facI (m - 1)) s)))
theorem known : allS.all (fun s => (List.range 7).all fun m => m == 0 || chkS s m) = true := by decide +kernel
theorem mem_small {a : Int} (h : -2 ≤ a ∧ a ≤ 2) : a ∈ small5 := by
  have : a = -2 ∨ a = -1 ∨ a = 0 ∨ a = 1 ∨ a = 2 := by omega
  rcases this with rfl | rfl | rfl | rfl | rfl <;> decide
theorem mem_allS {s : List Int} (h1 : 1 ≤ s.length) (h3 : s.length ≤ 3) (hs : ∀ x ∈ s, -2 ≤ x ∧ x ≤ 2) : s ∈ allS := by
  unfold allS
  match s, h1, h3, hs with
  | [a], _, _, hs =>
    exact List.mem_append_left _ (List.mem_append_left _ (List.mem_map.mpr ⟨a, mem_small (hs a (by simp)), rfl⟩))
  | [a, b], _, _, hs =>
    exact List.mem_append_left _ (List.mem_append_right _ (List.mem_flatMap.mpr ⟨a, mem_small (hs a (by simp)), List.mem_map.mpr ⟨b, mem_small (hs b (by simp)), rfl⟩⟩))
  | [a, b, c], _, _, hs =>
    exact List.mem_append_right _ (List.mem_flatMap.mpr ⟨a, mem_small (hs a (by simp)), List.mem_flatMap.mpr ⟨b, mem_small (hs b (by simp)), List.mem_map.mpr ⟨c, mem_small (hs c (by simp)), rfl⟩⟩⟩)
theorem known_of {s : List Int} (h1 : 1 ≤ s.length) (h3 : s.length ≤ 3) (hs : ∀ x ∈ s, -2 ≤ x ∧ x ≤ 2) {m : Nat} (m1 : 1 ≤ m) (m6 : m ≤ 6) : Bd 100 (valsOf s m) ∧ (s.length ≤ m → fhL (valsOf s m) = trimL (scL (facI (m - 1)) s)) := by
  have a := List.all_eq_true.mp (List.all_eq_true.mp known s (mem_allS h1 h3 hs)) m (List.mem_range.mpr (by omega))
  have z : (m == 0) = false := by simp; omega
  rw [z, Bool.false_or] at a
  unfold chkS at a
  rw [Bool.and_eq_true] at a
  refine ⟨fun x hx => of_decide_eq_true (List.all_eq_true.mp a.1 x hx), fun hm => ?_⟩
  have b := a.2
  rw [decide_eq_false (show ¬ m < s.length by omega), Bool.false_or] at b
  exact of_decide_eq_true b
/-! ### the words -/
theorem w4 : lwM lw.Mk lw.Hs 0 (M.raise 4) = M.ret (.str "number") := by
  funext B
  rfl
theorem w3 : lwM lw.Mk lw.Hs 0 (M.raise 3) = M.ret (.str "row") := by
  funext B
  rfl
end Md

-- part W6
set_option maxHeartbeats 4000000
set_option exponentiation.threshold 3000
namespace Pl
open PySem PySem.Spec PyProof.Rows L2
section
variable {C : Cf} {r : Rho} {B B1 : Bs}
theorem ev_bi1B {o : Bi} {a : Pe} {x z : D} (h1 : ev C a r B = .ok x B1) (h : biD o [x] = some z) : ev C (.bi o [a]) r B = .ok z B1 := by
  have a1 : evs C [a] r B = .ok [x] B1 := by
    show M.bind (ev C a r) _ B = _
    rw [bind_ok' h1]
    rfl
  show M.bind (evs C [a] r) _ B = _
  rw [bind_ok' a1, h]
  rfl
theorem ev_binB {o : Bop} {a b : Pe} {x y z : D} (h1 : ev C a r = M.ret x) (h2 : ev C b r B = .ok y B1) (h : binD o x y = some z) : ev C (.bin o a b) r B = .ok z B1 := by
  show M.bind (ev C a r) (fun x => M.bind (ev C b r) _) B = _
  rw [h1]
  show M.bind (ev C b r) _ B = _
  rw [bind_ok' h2, h]
  rfl
theorem ev_binB' {o : Bop} {a b : Pe} {x y z : D} (h1 : ev C a r B = .ok x B1) (h2 : ev C b r = M.ret y) (h : binD o x y = some z) : ev C (.bin o a b) r B = .ok z B1 := by
  show M.bind (ev C a r) (fun x => M.bind (ev C b r) _) B = _
  rw [bind_ok' h1, h2]
  show M.lift (binD o x y) B1 = _
  rw [h]
  rfl
theorem evT_cmpB {o : Cop} {a b : Pe} {x y : D} {z : Bool} (h1 : ev C a r B = .ok x B1) (h2 : ev C b r = M.ret y) (h : cmpD o x y = some z) : evT C (.cmp o a b) r B = .ok z B1 := by
  show M.bind (ev C a r) (fun x => M.bind (ev C b r) _) B = _
  rw [bind_ok' h1, h2]
  show M.lift (cmpD o x y) B1 = _
  rw [h]
  rfl
theorem ev_call2B {f : Nat} {a b : Pe} {x y z : D} (h1 : ev C a r = M.ret x) (h2 : ev C b r = M.ret y) (h : C.F f [x, y] B = .ok z B1) : ev C (.call f [a, b]) r B = .ok z B1 := by
  rw [ev_call2 h1 h2 rfl]
  exact h
end
end Pl
namespace Md
open PySem PySem.Spec PyProof.Rows L2 Pl
/-- k drawn numbers, less some -/
theorem draws {m : Nat} (hm : 1 ≤ m) {g : Nat} {c o : Int} (c1 : 1 ≤ c) (c2 : c ≤ 1000) {r r' : Rho} {w : List Nat} (hg : ∀ i : Int, ∃ r1, setG (.s g) (.int i) (wipeR r w) = some r1 ∧ getV r1 0 = some (.bag 0)) {kx : Pe} {k : Nat} {N : Nat} {B B1 : Bs} (hk : ev (cf m) kx r B = .ok (.int k) B1) (hB : Hd N B1) (hK : N + k ≤ 1000000) (hk2 : k ≤ 1000) :
    ∃ xs B', ev (cf m) (.lc (.s g) .rng [kx] [] (.bin .sub (.call 52 [(.v 0), (.c (.int c))]) (.c (.int o))) w) r B = .ok (ll xs) B' ∧ xs.length = k ∧ (∀ x ∈ xs, -o ≤ x ∧ x < c - o) ∧ Hd (N + k) B' := by
  obtain ⟨xs, B', e, l1, p1, h1⟩ := lcM_B (f := fun d => M.bind (M.lift (setG (.s g) d (wipeR r w))) fun r1 => M.bind (evTs (cf m) [] r1) fun b => if b then M.bind (ev (cf m) (.bin .sub (.call 52 [(.v 0), (.c (.int c))]) (.c (.int o))) r1) fun x => M.ret (some x) else M.ret none) (fun i : Nat => D.int (0 + (i : Nat))) (fun x => -o ≤ x ∧ x < c - o) Hd 1000000 (fun a N B hN hB => by
    obtain ⟨d, B2, e2, d0, d1, hB2⟩ := s52 hm c1 c2 (N := N) (by omega) hB
    obtain ⟨r1, q1, q2⟩ := hg (0 + (a : Nat))
    refine ⟨d - o, B2, el_B q1 ?_, ⟨by omega, by omega⟩, hB2⟩
    have v0 : ev (cf m) (.v 0) r1 = M.ret (.bag 0) := by
      show M.lift (getV r1 0) = _
      rw [q2]
      rfl
    exact ev_binB' (ev_call2B v0 rfl e2) rfl rfl) (List.range k) N B1 hB (by simpa using hK)
  refine ⟨xs, B', ?_, by simpa using l1, p1, by simpa using h1⟩
  have ek : evs (cf m) [kx] r B = .ok [.int k] B1 := by
    show M.bind (ev (cf m) kx r) _ B = _
    rw [bind_ok' hk]
    rfl
  have a1 : M.bind (evs (cf m) [kx] r) (fun xs => M.bind (M.lift (itD .rng xs)) fun its => M.calm (lcM (fun d => M.bind (M.lift (setG (.s g) d (wipeR r w))) fun r1 => M.bind (evTs (cf m) [] r1) fun b => if b then M.bind (ev (cf m) (.bin .sub (.call 52 [(.v 0), (.c (.int c))]) (.c (.int o))) r1) fun x => M.ret (some x) else M.ret none) its)) B = .ok (il xs) B' := by
    rw [bind_ok' ek]
    have : itD .rng [.int (k : Nat)] = some ((List.range k).map fun i : Nat => D.int (0 + (i : Nat))) := by
      rw [it_r, if_pos (by omega)]
      rfl
    rw [this]
    show M.calm (lcM _ _) B1 = _
    unfold M.calm
    rw [e]
  exact bind_ok' a1
theorem valsOf_len (s : List Int) (m : Nat) : (valsOf s m).length = m := by simp [valsOf]
/-- a list of calls over a range -/
theorem rng_calls {m : Nat} {f g a : Nat} {x : D} {r : Rho} {w : List Nat} {k : Nat} (hk : k ≤ 1000) (F : Nat → Int) (hx : getV r 1 = some (.int k)) (hg : ∀ i : Int, ∃ r1, setG (.s g) (.int i) (wipeR r w) = some r1 ∧ getV r1 a = some x ∧ getV r1 g = some (.int i)) (hF : ∀ j, j < k → G m f [x, .int (0 + (j : Nat))] = M.ret (.int (F j))) :
    ev (cf m) (.lc (.s g) .rng [(.v 1)] [] (.call f [(.v a), (.v g)]) w) r = M.ret (ll ((List.range k).map F)) := by
  have e1 : evs (cf m) [(.v 1)] r = M.ret [.int k] := by
    show M.bind (M.lift (getV r 1)) _ = _
    rw [hx]
    rfl
  have key := lc_ok (C := cf m) (g := .s g) (k := .rng) (l := [(.v 1)]) (t := []) (e := .call f [(.v a), (.v g)]) (w := w) (r := r) e1 (its := (List.range k).map fun i : Nat => D.int (0 + (i : Nat))) (by rw [it_r, if_pos (by omega)]; rfl) (lcM_on (fun i : Nat => D.int (0 + (i : Nat))) (fun j => D.int (F j)) (fun j hj => by
    obtain ⟨r1, q1, q2, q3⟩ := hg (0 + (j : Nat))
    refine el_ok q1 (ev_call2 (x := x) (y := .int (0 + (j : Nat))) ?_ ?_ (hF j (List.mem_range.mp hj)))
    · show M.lift (getV r1 a) = _
      rw [q2]
      rfl
    · show M.lift (getV r1 g) = _
      rw [q3]
      rfl))
  refine key.trans ?_
  unfold ll il
  rw [List.map_map]
  rfl
theorem first {m : Nat} (hm : 6 ≤ m) {N : Nat} (hN : N + 30 ≤ 1000000) {B : Bs} (hB : Hd N B) (rest : List Ps) : ∃ (k : Nat) (vs : List Int) (x5 x8 x9 : Sl) (B' : Bs), vs.length = k ∧ 1 ≤ k ∧ k ≤ 6 ∧ Bd 100 vs ∧ Hd (N + 20) B' ∧ runs (cf m) (.set (.s 1) (.bin .add (.c (.int 1)) (.call 52 [(.v 0), (.c (.int 6))])) ::
    .set (.s 2) (.bi .tuple [(.lc (.s 10) .rng [(.v 1)] [] (.bin .sub (.call 52 [(.v 0), (.c (.int 21))]) (.c (.int 10))) [10])]) ::
    .ite (.cmp .eq (.call 52 [(.v 0), (.c (.int 2))]) (.c (.int 0)))
      [.set (.s 5) (.lc (.s 10) .rng [(.bin .add (.c (.int 1)) (.call 52 [(.v 0), (.c (.int 3))]))] [] (.bin .sub (.call 52 [(.v 0), (.c (.int 5))]) (.c (.int 2))) [10]),
      .set (.s 2) (.bi .tuple [(.lc (.s 10) .rng [(.v 1)] [] (.call 56 [(.v 5), (.v 10)]) [10])]),
      .ite (.cmp .ge (.v 1) (.bi .len [(.v 5)]))
        [.set (.t [(.s 8), (.s 9)]) (.call 49 [(.v 2)]),
        .ite (.cmp .ne (.v 8) (.call 54 [(.lc (.s 11) .seq [(.v 5)] [] (.bin .mul (.v 9) (.v 11)) [11])]))
          [.ret (.c (.bl false))]
          []]
        []]
      [] :: rest) [.v (.bag 0), .e, .e, .e, .e, .e, .e, .e, .e, .e, .e, .e] B = runs (cf m) rest [.v (.bag 0), .v (.int k), .v (tl vs), .e, .e, x5, .e, .e, x8, x9, .e, .e] B' := by
  obtain ⟨d, B1, e1, d0, d1, hB1⟩ := s52 (n := m) (by omega) (many := 6) (by decide) (by decide) (by omega) hB
  obtain ⟨k, hk⟩ : ∃ k : Nat, (1 + d) = (k : Int) := ⟨(1 + d).toNat, by omega⟩
  have st1 := setB (C := cf m) (r := [.v (.bag 0), .e, .e, .e, .e, .e, .e, .e, .e, .e, .e, .e]) (i := 1) (e := .bin .add (.c (.int 1)) (.call 52 [(.v 0), (.c (.int 6))])) (x := .int k) (ev_binB rfl (ev_call2B rfl rfl e1) (by rw [bin_add, hk])) (by simp)
  simp only [List.set_cons_succ, List.set_cons_zero] at st1
  obtain ⟨xs, B2, e2, l2, p2, hB2⟩ := draws (m := m) (by omega) (g := 10) (c := 21) (o := 10) (by decide) (by decide) (r := [.v (.bag 0), .v (.int k), .e, .e, .e, .e, .e, .e, .e, .e, .e, .e]) (r' := []) (w := [10]) (fun i => ⟨_, rfl, rfl⟩) (kx := .v 1) (k := k) (B := B1) rfl hB1 (by omega) (by omega)
  have st2 := setB (i := 2) (ev_bi1B e2 (bi_tupl _)) (by simp)
  simp only [List.set_cons_succ, List.set_cons_zero] at st2
  obtain ⟨c, B3, e3, c0, c1, hB3⟩ := s52 (n := m) (by omega) (many := 2) (by decide) (by decide) (by omega) hB2
  rw [runsB st1, runsB st2]
  have te := evT_cmpB (C := cf m) (r := [.v (.bag 0), .v (.int k), .v (tl xs), .e, .e, .e, .e, .e, .e, .e, .e, .e]) (o := .eq) (a := .call 52 [(.v 0), (.c (.int 2))]) (b := .c (.int 0)) (ev_call2B rfl rfl e3) rfl (cmp_eq _ _)
  by_cases hc : c = 0
  · rw [show (c == 0) = true by simp [hc]] at te
    -- a known row
    obtain ⟨d4, B4, e4, d40, d41, hB4⟩ := s52 (n := m) (by omega) (many := 3) (by decide) (by decide) (by omega) hB3
    obtain ⟨j, hj⟩ : ∃ j : Nat, (1 + d4) = (j : Int) := ⟨(1 + d4).toNat, by omega⟩
    obtain ⟨ss, B5, e5, l5, p5, hB5⟩ := draws (m := m) (by omega) (g := 10) (c := 5) (o := 2) (by decide) (by decide) (r := [.v (.bag 0), .v (.int k), .v (tl xs), .e, .e, .e, .e, .e, .e, .e, .e, .e]) (r' := []) (w := [10]) (fun i => ⟨_, rfl, rfl⟩) (kx := .bin .add (.c (.int 1)) (.call 52 [(.v 0), (.c (.int 3))])) (k := j) (B := B3) (B1 := B4) (ev_binB rfl (ev_call2B rfl rfl e4) (by rw [bin_add, hj])) hB4 (by omega) (by omega)
    have st5 := setB (i := 5) e5 (by simp)
    simp only [List.set_cons_succ, List.set_cons_zero] at st5
    have hss : ∀ x ∈ ss, -2 ≤ x ∧ x ≤ 2 := fun x hx => ⟨(p5 x hx).1, by have := (p5 x hx).2; omega⟩
    obtain ⟨kn1, kn2⟩ := known_of (s := ss) (by omega) (by omega) hss (m := k) (by omega) (by omega)
    have bss : Bd 1000000 ss := fun x hx => by have := hss x hx; omega
    have ev6 := rng_calls (m := m) (f := 56) (g := 10) (a := 5) (x := ll ss) (r := [.v (.bag 0), .v (.int k), .v (tl xs), .e, .e, .v (ll ss), .e, .e, .e, .e, .e, .e]) (w := [10]) (k := k) (by omega) (fun j => val ss (j : Int)) rfl (fun i => ⟨_, rfl, rfl, rfl⟩) (fun j hj => by
      have := s56 (n := m) (by omega) (x := ll ss) (l := ss) (.inl rfl) (by omega) bss (k := 0 + (j : Nat)) (by omega)
      rw [this, Int.zero_add])
    have st6 : Pl.run (cf m) (.set (.s 2) (.bi .tuple [(.lc (.s 10) .rng [(.v 1)] [] (.call 56 [(.v 5), (.v 10)]) [10])])) [.v (.bag 0), .v (.int k), .v (tl xs), .e, .e, .v (ll ss), .e, .e, .e, .e, .e, .e] = M.ret (.nx [.v (.bag 0), .v (.int k), .v (tl (valsOf ss k)), .e, .e, .v (ll ss), .e, .e, .e, .e, .e, .e]) := set_ok (ev_bi1 ev6 (bi_tupl _)) (by simp)
    have lv := valsOf_len ss k
    have tg : evT (cf m) (.cmp .ge (.v 1) (.bi .len [(.v 5)])) [.v (.bag 0), .v (.int k), .v (tl (valsOf ss k)), .e, .e, .v (ll ss), .e, .e, .e, .e, .e, .e] = M.ret (decide ((ss.length : Int) ≤ (k : Int))) := evT_cmp rfl (ev_bi1 rfl (bi_lenl' ss)) (cmp_ge _ _)
    by_cases hle : ss.length ≤ k
    · rw [decide_eq_true (show (ss.length : Int) ≤ (k : Int) by omega)] at tg
      have s49' := s49 (n := m) (by omega) (l := valsOf ss k) (by omega) (by omega) kn1
      rw [kn2 hle, lv] at s49'
      have st8 := set2_ok (C := cf m) (r := [.v (.bag 0), .v (.int k), .v (tl (valsOf ss k)), .e, .e, .v (ll ss), .e, .e, .e, .e, .e, .e]) (i := 8) (j := 9) (ev_call1 (a := .v 2) rfl s49') (by simp) (by simp)
      simp only [List.set_cons_succ, List.set_cons_zero] at st8
      have fb := fac_bd (m := k - 1) (by omega)
      have lcm : ev (cf m) (.lc (.s 11) .seq [(.v 5)] [] (.bin .mul (.v 9) (.v 11)) [11]) [.v (.bag 0), .v (.int k), .v (tl (valsOf ss k)), .e, .e, .v (ll ss), .e, .e, .v (tl (trimL (scL (facI (k - 1)) ss))), .v (.int (facI (k - 1))), .e, .e] = M.ret (ll (scL (facI (k - 1)) ss)) := by
        have key := lc_ok (C := cf m) (g := .s 11) (k := .seq) (l := [(.v 5)]) (t := []) (e := .bin .mul (.v 9) (.v 11)) (w := [11]) (r := [.v (.bag 0), .v (.int k), .v (tl (valsOf ss k)), .e, .e, .v (ll ss), .e, .e, .v (tl (trimL (scL (facI (k - 1)) ss))), .v (.int (facI (k - 1))), .e, .e]) (xs := [ll ss]) rfl (it_l _) (lcM_on D.int (fun x => D.int (facI (k - 1) * x)) (fun x hx => el_ok rfl (ev_bin rfl rfl (by rw [bin_mul, if_pos (mo (sm100 (by omega)) (sm100 (bss x hx)))]))))
        refine key.trans ?_
        unfold ll il scL
        rw [List.map_map]
        rfl
      have tne : evT (cf m) (.cmp .ne (.v 8) (.call 54 [(.lc (.s 11) .seq [(.v 5)] [] (.bin .mul (.v 9) (.v 11)) [11])])) [.v (.bag 0), .v (.int k), .v (tl (valsOf ss k)), .e, .e, .v (ll ss), .e, .e, .v (tl (trimL (scL (facI (k - 1)) ss))), .v (.int (facI (k - 1))), .e, .e] = M.ret false := evT_cmp rfl (ev_call1 lcm (s54 (by omega) _)) (ne_of_eqD (eqD_tl _))
      refine ⟨k, valsOf ss k, .v (ll ss), .v (tl (trimL (scL (facI (k - 1)) ss))), .v (.int (facI (k - 1))), B5, lv, by omega, by omega, kn1, hB5.up (by omega), ?_⟩
      refine runsB ((iteB_t te).trans ?_)
      rw [runsB st5, runs_ok st6, runs_ok ((ite_t tg).trans ((runs_ok st8).trans ((runs_ok ((ite_f tne).trans runs_nil)).trans runs_nil)))]
      rfl
    · rw [decide_eq_false (show ¬ (ss.length : Int) ≤ (k : Int) by omega)] at tg
      refine ⟨k, valsOf ss k, .v (ll ss), .e, .e, B5, lv, by omega, by omega, kn1, hB5.up (by omega), ?_⟩
      refine runsB ((iteB_t te).trans ?_)
      rw [runsB st5, runs_ok st6, runs_ok ((ite_f tg).trans runs_nil)]
      rfl
  · rw [show (c == 0) = false by simp [hc]] at te
    refine ⟨k, xs, .e, .e, .e, B3, l2, by omega, by omega, fun x hx => by have := p2 x hx; omega, hB3.up (by omega), ?_⟩
    exact runsB ((iteB_f te).trans rfl)
end Md

-- part W7
set_option maxHeartbeats 4000000
set_option exponentiation.threshold 3000
namespace Pl
open PySem PySem.Spec PyProof.Rows L2
section
variable {C : Cf} {r : Rho} {B B1 : Bs}
theorem par2_ok {i j : Nat} {a b : Pe} {x y : D} (h1 : ev C a r = M.ret x) (h2 : ev C b r = M.ret y) (hi : i < r.length) (hj : j < r.length) : Pl.run C (.par [i, j] [a, b]) r = M.ret (.nx ((r.set i (.v x)).set j (.v y))) := by
  show M.bind (M.bind (ev C a r) fun x => M.bind (M.bind (ev C b r) _) _) _ = _
  rw [h1, h2]
  show M.lift (((if i < r.length then (if j < (r.set i (Sl.v x)).length then some ((r.set i (.v x)).set j (.v y)) else none) else none)).map Fl.nx) = _
  rw [if_pos hi, if_pos (by rw [List.length_set]; exact hj)]
  rfl
theorem or_f {a b : Pe} {l : List Pe} {z : M Bool} (h1 : evT C a r = M.ret false) (h2 : evTor C (b :: l) r = z) : evTor C (a :: b :: l) r = z := by
  show M.bind (evT C a r) _ = _
  rw [h1]
  exact h2
theorem an_t {a b : Pe} {l : List Pe} {z : M Bool} (h1 : evT C a r = M.ret true) (h2 : evTan C (b :: l) r = z) : evTan C (a :: b :: l) r = z := by
  show M.bind (evT C a r) _ = _
  rw [h1]
  exact h2
theorem an_f {a b : Pe} {l : List Pe} (h1 : evT C a r = M.ret false) : evTan C (a :: b :: l) r = M.ret false := by
  show M.bind (evT C a r) _ = _
  rw [h1]
  rfl
end
end Pl
namespace Md
open PySem PySem.Spec PyProof.Rows L2 Pl
def sgL (x : Int) : Int := if 0 < x then 1 else if x < 0 then -1 else 0
theorem sgn_sgL (x : Int) : sgn x = sgL x := by
  unfold sgn sgL
  split <;> split <;> first | rfl | omega
theorem sgn_mul {w : Int} (hw : 0 < w) (x : Int) : sgn (w * x) = sgL x := by
  rw [sgn_sgL]
  unfold sgL
  rcases Int.lt_trichotomy x 0 with h | h | h
  · have h1 : w * x < 0 := Int.mul_neg_of_pos_of_neg hw h
    rw [if_neg (by omega), if_pos h1, if_neg (by omega), if_pos h]
  · subst h
    simp
  · have h1 : 0 < w * x := Int.mul_pos hw h
    rw [if_pos h1, if_pos h]
theorem s61 {n : Nat} (hn : 1 ≤ n) (x : Int) : G n 61 [.int x] = M.ret (.int (sgL x)) := by
  obtain ⟨m, rfl, h⟩ := pred hn
  show finM (runs (cf m) d61.body [.v (.int x)]) = _
  unfold d61
  refine (congrArg finM (runs_rt (ret_ok' (x := .int (sgL x)) ?_))).trans rfl
  unfold sgL
  by_cases h1 : 0 < x
  · rw [if_pos h1]
    exact ev_ite (k := true) (evT_cmp rfl rfl (by rw [cmp_gt, decide_eq_true h1])) rfl
  · rw [if_neg h1]
    refine ev_ite (k := false) (evT_cmp rfl rfl (by rw [cmp_gt, decide_eq_false h1])) ?_
    show ev (cf m) _ _ = _
    by_cases h2 : x < 0
    · rw [if_pos h2]
      exact ev_ite (k := true) (evT_cmp rfl rfl (by rw [cmp_lt, decide_eq_true h2])) rfl
    · rw [if_neg h2]
      exact ev_ite (k := false) (evT_cmp rfl rfl (by rw [cmp_lt, decide_eq_false h2])) rfl
def bads : List D := [.tup [], .tup [.int 1, .int 1, .int 1, .int 1, .int 1, .int 1, .int 1], .tup [.int 101], .tup [.bl true], .tup [.str "1"], .non, .int 0, .str "?", .dc, .tup [.int 1, .non]]
theorem bad49 {n : Nat} (hn : 4 ≤ n) {d : D} (h : d ∈ bads) : G n 49 [d] = M.raise 4 := by
  unfold bads at h
  simp only [List.mem_cons, List.not_mem_nil, or_false] at h
  rcases h with rfl | rfl | rfl | rfl | rfl | rfl | rfl | rfl | rfl | rfl <;> exact fuelx (k := 4) (fun B => by kernel_rfl) hn
theorem fac_pos {k : Nat} (h : k < 6) : 0 < facI k := by
  have : ∀ k, k < 6 → 0 < facI k := by decide
  exact this k h
theorem s60 {n : Nat} (hn : 7 ≤ n) {N : Nat} (hN : N + 30 ≤ 1000000) {B : Bs} (hB : Hd N B) : ∃ B', G n 60 [.bag 0] B = .ok (.bl true) B' ∧ Hd (N + 21) B' := by
  obtain ⟨m, rfl, h⟩ := pred hn
  have hm : 6 ≤ m := by omega
  have start : G (m + 1) 60 [.bag 0] = finM (runs (cf m) d60.body [.v (.bag 0), .e, .e, .e, .e, .e, .e, .e, .e, .e, .e, .e]) := rfl
  rw [start]
  unfold d60
  obtain ⟨k, vs, x5, x8, x9, B1, lv, k1, k6, bv, hB1, e1⟩ := first hm hN hB [.par [6, 7] [(.bi .repr [(.v 2)]), (.call 58 [(.v 2)])],
    .set (.s 3) (.call 49 [(.v 2)]),
    .ite (.or [(.cmp .ne (.bi .tuple [(.v 3)]) (.v 7)), (.cmp .ne (.bi .repr [(.v 2)]) (.v 6)), (.cmp .gt (.bi .len [(.ix (.v 7) (.c (.int 0)))]) (.v 1))])
      [.ret (.c (.bl false))]
      [],
    .set (.t [(.s 8), (.s 9)]) (.v 7),
    .ite (.cmp .ne (.lc (.s 10) .rng [(.v 1)] [] (.call 56 [(.v 8), (.v 10)]) [10]) (.lc (.s 11) .seq [(.v 2)] [] (.bin .mul (.v 9) (.v 11)) [11]))
      [.ret (.c (.bl false))]
      [],
    .ite (.an [(.cmp .gt (.bi .len [(.v 8)]) (.c (.int 0))), (.cmp .ne (.lc (.s 10) .rng [(.v 1)] [] (.call 48 [(.v 8), (.v 10)]) [10]) (.lc (.s 11) .seq [(.v 2)] [] (.call 61 [(.v 11)]) [11]))])
      [.ret (.c (.bl false))]
      [],
    .set (.s 4) (.call 53 [(.v 0), (.lst [(.tup []), (.bin .mul (.tup [(.c (.int 1))]) (.c (.int 7))), (.tup [(.c (.int 101))]), (.tup [(.c (.bl true))]), (.tup [(.c (.str "1"))]), (.c .non), (.c (.int 0)), (.c (.str "?")), .dc, (.tup [(.c (.int 1)), (.c .non)])])]),
    .ret (.cmp .eq (.lamc 0 (.call 49 [(.v 4)])) (.c (.str "number")))]
  obtain ⟨d, B2, e2, dm, hB2⟩ := s53 (n := m) (by omega) (l := bads) (by decide) (by decide) (N := N + 20) (by omega) hB1
  refine ⟨B2, finB (e1.trans ?_), hB2⟩
  -- what is known of the row
  subst lv
  obtain ⟨R, rl⟩ := fh_row k1 k6 bv
  have fp := fac_pos (k := vs.length - 1) (by omega)
  have fb := fac_bd (m := vs.length - 1) (by omega)
  obtain ⟨s, es, oks⟩ := repr_tl (l := vs) (by omega) bv
  have s49' := s49 (n := m) (by omega) k1 k6 bv
  have s58' := s58 (n := m) (by omega) k1 k6 bv
  have lists : (List.range vs.length).map (fun j : Nat => val (fhL vs) (j : Int)) = scL (facI (vs.length - 1)) vs := by
    apply List.ext_getElem
    · simp [scL]
    · intro i h1 h2
      have hi : i < vs.length := by simpa using h1
      simp [scL]
      rw [fh_val k1 k6 i hi, List.getD_eq_getElem?_getD, List.getElem?_eq_getElem hi]
      rfl
  have signs : (List.range vs.length).map (fun j : Nat => sgn (val (fhL vs) (j : Int))) = vs.map sgL := by
    apply List.ext_getElem
    · simp
    · intro i h1 h2
      have hi : i < vs.length := by simpa using h1
      simp
      rw [fh_val k1 k6 i hi, List.getD_eq_getElem?_getD, List.getElem?_eq_getElem hi]
      exact sgn_mul fp _
  have p1 := par2_ok (C := cf m) (r := [.v (.bag 0), .v (.int vs.length), .v (tl vs), .e, .e, x5, .e, .e, x8, x9, .e, .e]) (i := 6) (j := 7) (a := .bi .repr [(.v 2)]) (b := .call 58 [(.v 2)]) (ev_bi1 rfl es) (ev_call1 rfl s58') (by simp) (by simp)
  simp only [List.set_cons_succ, List.set_cons_zero] at p1
  rw [runs_ok p1]
  have p2 := set_ok (C := cf m) (r := [.v (.bag 0), .v (.int vs.length), .v (tl vs), .e, .e, x5, .v (.str s), .v (.tup [tl (fhL vs), .int (facI (vs.length - 1))]), x8, x9, .e, .e]) (i := 3) (e := .call 49 [(.v 2)]) (ev_call1 rfl s49') (by simp)
  simp only [List.set_cons_succ, List.set_cons_zero] at p2
  rw [runs_ok p2]
  have t3 : evT (cf m) (.or [(.cmp .ne (.bi .tuple [(.v 3)]) (.v 7)), (.cmp .ne (.bi .repr [(.v 2)]) (.v 6)), (.cmp .gt (.bi .len [(.ix (.v 7) (.c (.int 0)))]) (.v 1))]) [.v (.bag 0), .v (.int vs.length), .v (tl vs), .v (.tup [tl (fhL vs), .int (facI (vs.length - 1))]), .e, x5, .v (.str s), .v (.tup [tl (fhL vs), .int (facI (vs.length - 1))]), x8, x9, .e, .e] = M.ret false :=
    or_f (evT_cmp (ev_bi1 rfl (bi_tupt _)) rfl (ne_of_eqD (eqD_pair _ _))) (or_f (evT_cmp (ev_bi1 rfl es) rfl (ne_of_eqD (eqD_str oks))) (evT_cmp (x := .int (fhL vs).length) (y := .int vs.length) (ev_bi1 (x := tl (fhL vs)) (ev_ix rfl rfl rfl) (by rw [bi_lent]; simp)) rfl (by rw [cmp_gt, decide_eq_false (by omega)])))
  rw [runs_ok ((ite_f t3).trans runs_nil)]
  have p4 := set2_ok (C := cf m) (r := [.v (.bag 0), .v (.int vs.length), .v (tl vs), .v (.tup [tl (fhL vs), .int (facI (vs.length - 1))]), .e, x5, .v (.str s), .v (.tup [tl (fhL vs), .int (facI (vs.length - 1))]), x8, x9, .e, .e]) (i := 8) (j := 9) (e := .v 7) rfl (by simp) (by simp)
  simp only [List.set_cons_succ, List.set_cons_zero] at p4
  rw [runs_ok p4]
  have t5a := rng_calls (m := m) (f := 56) (g := 10) (a := 8) (x := tl (fhL vs)) (r := [.v (.bag 0), .v (.int vs.length), .v (tl vs), .v (.tup [tl (fhL vs), .int (facI (vs.length - 1))]), .e, x5, .v (.str s), .v (.tup [tl (fhL vs), .int (facI (vs.length - 1))]), .v (tl (fhL vs)), .v (.int (facI (vs.length - 1))), .e, .e]) (w := [10]) (k := vs.length) (by omega) (fun j => val (fhL vs) (j : Int)) rfl (fun i => ⟨_, rfl, rfl, rfl⟩) (fun j hj => by
    have := s56 (n := m) (by omega) (x := tl (fhL vs)) (l := fhL vs) (.inr rfl) (by omega) R.bd (k := 0 + (j : Nat)) (by omega)
    rw [this, Int.zero_add])
  rw [lists] at t5a
  have t5b : ev (cf m) (.lc (.s 11) .seq [(.v 2)] [] (.bin .mul (.v 9) (.v 11)) [11]) [.v (.bag 0), .v (.int vs.length), .v (tl vs), .v (.tup [tl (fhL vs), .int (facI (vs.length - 1))]), .e, x5, .v (.str s), .v (.tup [tl (fhL vs), .int (facI (vs.length - 1))]), .v (tl (fhL vs)), .v (.int (facI (vs.length - 1))), .e, .e] = M.ret (ll (scL (facI (vs.length - 1)) vs)) := by
    have key := lc_ok (C := cf m) (g := .s 11) (k := .seq) (l := [(.v 2)]) (t := []) (e := .bin .mul (.v 9) (.v 11)) (w := [11]) (r := [.v (.bag 0), .v (.int vs.length), .v (tl vs), .v (.tup [tl (fhL vs), .int (facI (vs.length - 1))]), .e, x5, .v (.str s), .v (.tup [tl (fhL vs), .int (facI (vs.length - 1))]), .v (tl (fhL vs)), .v (.int (facI (vs.length - 1))), .e, .e]) (xs := [tl vs]) rfl (it_t _) (lcM_on D.int (fun x => D.int (facI (vs.length - 1) * x)) (fun x hx => el_ok rfl (ev_bin rfl rfl (by rw [bin_mul, if_pos (mo (sm100 (by omega)) (sm100 (by have := bv x hx; omega)))]))))
    refine key.trans ?_
    unfold ll il scL
    rw [List.map_map]
    rfl
  rw [runs_ok ((ite_f (evT_cmp t5a t5b (ne_of_eqD (eqD_ll _)))).trans runs_nil)]
  have t6a := rng_calls (m := m) (f := 48) (g := 10) (a := 8) (x := tl (fhL vs)) (r := [.v (.bag 0), .v (.int vs.length), .v (tl vs), .v (.tup [tl (fhL vs), .int (facI (vs.length - 1))]), .e, x5, .v (.str s), .v (.tup [tl (fhL vs), .int (facI (vs.length - 1))]), .v (tl (fhL vs)), .v (.int (facI (vs.length - 1))), .e, .e]) (w := [10]) (k := vs.length) (by omega) (fun j => sgn (val (fhL vs) (j : Int))) rfl (fun i => ⟨_, rfl, rfl, rfl⟩) (fun j hj => by
    have := s48 (n := m) (by omega) R (k := 0 + (j : Nat)) (by omega)
    rw [this, Int.zero_add])
  rw [signs] at t6a
  have t6b : ev (cf m) (.lc (.s 11) .seq [(.v 2)] [] (.call 61 [(.v 11)]) [11]) [.v (.bag 0), .v (.int vs.length), .v (tl vs), .v (.tup [tl (fhL vs), .int (facI (vs.length - 1))]), .e, x5, .v (.str s), .v (.tup [tl (fhL vs), .int (facI (vs.length - 1))]), .v (tl (fhL vs)), .v (.int (facI (vs.length - 1))), .e, .e] = M.ret (ll (vs.map sgL)) := by
    have key := lc_ok (C := cf m) (g := .s 11) (k := .seq) (l := [(.v 2)]) (t := []) (e := .call 61 [(.v 11)]) (w := [11]) (r := [.v (.bag 0), .v (.int vs.length), .v (tl vs), .v (.tup [tl (fhL vs), .int (facI (vs.length - 1))]), .e, x5, .v (.str s), .v (.tup [tl (fhL vs), .int (facI (vs.length - 1))]), .v (tl (fhL vs)), .v (.int (facI (vs.length - 1))), .e, .e]) (xs := [tl vs]) rfl (it_t _) (lcM_on D.int (fun x => D.int (sgL x)) (fun x hx => el_ok rfl (ev_call1 rfl (s61 (by omega) x))))
    refine key.trans ?_
    unfold ll il
    rw [List.map_map]
    rfl
  have t6 : evT (cf m) (.an [(.cmp .gt (.bi .len [(.v 8)]) (.c (.int 0))), (.cmp .ne (.lc (.s 10) .rng [(.v 1)] [] (.call 48 [(.v 8), (.v 10)]) [10]) (.lc (.s 11) .seq [(.v 2)] [] (.call 61 [(.v 11)]) [11]))]) [.v (.bag 0), .v (.int vs.length), .v (tl vs), .v (.tup [tl (fhL vs), .int (facI (vs.length - 1))]), .e, x5, .v (.str s), .v (.tup [tl (fhL vs), .int (facI (vs.length - 1))]), .v (tl (fhL vs)), .v (.int (facI (vs.length - 1))), .e, .e] = M.ret false := by
    have g1 : evT (cf m) (.cmp .gt (.bi .len [(.v 8)]) (.c (.int 0))) [.v (.bag 0), .v (.int vs.length), .v (tl vs), .v (.tup [tl (fhL vs), .int (facI (vs.length - 1))]), .e, x5, .v (.str s), .v (.tup [tl (fhL vs), .int (facI (vs.length - 1))]), .v (tl (fhL vs)), .v (.int (facI (vs.length - 1))), .e, .e] = M.ret (decide ((0 : Int) < ((il (fhL vs)).length : Int))) := evT_cmp (ev_bi1 rfl (bi_lent _)) rfl (cmp_gt _ _)
    cases hz : decide ((0 : Int) < ((il (fhL vs)).length : Int)) with
    | true => rw [hz] at g1; exact an_t g1 (evT_cmp t6a t6b (ne_of_eqD (eqD_ll _)))
    | false => rw [hz] at g1; exact an_f g1
  rw [runs_ok ((ite_f t6).trans runs_nil)]
  have lb : ev (cf m) (.lst [(.tup []), (.bin .mul (.tup [(.c (.int 1))]) (.c (.int 7))), (.tup [(.c (.int 101))]), (.tup [(.c (.bl true))]), (.tup [(.c (.str "1"))]), (.c .non), (.c (.int 0)), (.c (.str "?")), .dc, (.tup [(.c (.int 1)), (.c .non)])]) [.v (.bag 0), .v (.int vs.length), .v (tl vs), .v (.tup [tl (fhL vs), .int (facI (vs.length - 1))]), .e, x5, .v (.str s), .v (.tup [tl (fhL vs), .int (facI (vs.length - 1))]), .v (tl (fhL vs)), .v (.int (facI (vs.length - 1))), .e, .e] = M.ret (.lst bads) := by rfl
  have p7 := setB (C := cf m) (i := 4) (ev_call2B (a := .v 0) rfl lb e2) (by simp)
  simp only [List.set_cons_succ, List.set_cons_zero] at p7
  rw [runsB p7]
  refine runsBr (retB' ?_)
  have w : ev (cf m) (.lamc 0 (.call 49 [(.v 4)])) [.v (.bag 0), .v (.int vs.length), .v (tl vs), .v (.tup [tl (fhL vs), .int (facI (vs.length - 1))]), .v d, x5, .v (.str s), .v (.tup [tl (fhL vs), .int (facI (vs.length - 1))]), .v (tl (fhL vs)), .v (.int (facI (vs.length - 1))), .e, .e] = M.ret (.str "number") := by
    have e9 := ev_call1 (C := cf m) (f := 49) (a := .v 4) (r := [.v (.bag 0), .v (.int vs.length), .v (tl vs), .v (.tup [tl (fhL vs), .int (facI (vs.length - 1))]), .v d, x5, .v (.str s), .v (.tup [tl (fhL vs), .int (facI (vs.length - 1))]), .v (tl (fhL vs)), .v (.int (facI (vs.length - 1))), .e, .e]) rfl (bad49 (n := m) (by omega) dm)
    show M.calm (lwM lw.Mk lw.Hs 0 (ev (cf m) (.call 49 [(.v 4)]) _)) = _
    rw [e9, w4]
    rfl
  have fin := ev_cmp (C := cf m) (o := .eq) (b := .c (.str "number")) w rfl (z := true) (by kernel_rfl)
  rw [fin]
  rfl
end Md

-- part W8
set_option maxHeartbeats 4000000
set_option exponentiation.threshold 3000
namespace Md
open PySem PySem.Spec PyProof.Rows L2 Pl
/-! ### values of products -/
theorem val_set (x d : Int) : ∀ (f : List Int) (k : Nat), k < f.length → val (f.set k (f.getD k 0 + d)) x = val f x + d * x ^ k
  | [], k, h => by simp at h
  | a :: f, 0, _ => by
    show (a + d) + x * val f x = (a + x * val f x) + d * x ^ 0
    rw [Int.pow_zero, Int.mul_one]
    omega
  | a :: f, k + 1, h => by
    have ih := val_set x d f k (by simpa using h)
    have e : (a :: f).set (k + 1) ((a :: f).getD (k + 1) 0 + d) = a :: f.set k (f.getD k 0 + d) := by simp
    rw [e]
    show a + x * val (f.set k (f.getD k 0 + d)) x = (a + x * val f x) + d * x ^ (k + 1)
    rw [ih, Int.mul_add, Int.pow_succ, Int.add_assoc]
    congr 2
    rw [Int.mul_comm x, Int.mul_assoc]
theorem val_row (at_ : Nat) (a x : Int) : ∀ (b f : List Int) (k : Nat), at_ + k + b.length ≤ f.length → val ((b.zipIdx k).foldl (stepI at_ a) f) x = val f x + a * x ^ (at_ + k) * val b x
  | [], f, k, h => by
    have : val [] x = 0 := rfl
    rw [this]
    simp
  | y :: b, f, k, h => by
    have hl : b.length + 1 = (y :: b).length := rfl
    rw [List.zipIdx_cons, List.foldl_cons, val_row at_ a x b _ (k + 1) (by rw [stepI_len]; omega)]
    have e1 : val (stepI at_ a f (y, k)) x = val f x + a * y * x ^ (at_ + k) := val_set x (a * y) f (at_ + k) (by omega)
    rw [e1]
    show _ = val f x + a * x ^ (at_ + k) * (y + x * val b x)
    rw [show at_ + (k + 1) = at_ + k + 1 by omega, Int.pow_succ, Int.mul_add, Int.add_assoc]
    congr 2
    · rw [Int.mul_assoc, Int.mul_assoc, Int.mul_comm y]
    · rw [← Int.mul_assoc, ← Int.mul_assoc]
theorem val_rows (b : List Int) (x : Int) : ∀ (a f : List Int) (k : Nat), k + a.length + b.length ≤ f.length + 1 → val ((a.zipIdx k).foldl (rowI b) f) x = val f x + x ^ k * val a x * val b x
  | [], f, k, h => by
    have : val [] x = 0 := rfl
    rw [this]
    simp
  | y :: a, f, k, h => by
    have hl : a.length + 1 = (y :: a).length := rfl
    rw [List.zipIdx_cons, List.foldl_cons, val_rows b x a _ (k + 1) (by rw [rowI_len]; omega)]
    have e1 : val (rowI b f (y, k)) x = val f x + y * x ^ k * val b x := val_row k y x b f 0 (by omega)
    rw [e1]
    show _ = val f x + x ^ k * (y + x * val a x) * val b x
    rw [Int.pow_succ, Int.mul_add, Int.add_mul, Int.add_assoc]
    congr 2
    · rw [Int.mul_comm y]
    · rw [← Int.mul_assoc]
theorem val_mul (a b : List Int) (x : Int) : val (mulL a b) x = val a x * val b x := by
  unfold mulL
  split
  · rename_i h
    have z : val [] x = 0 := rfl
    rcases h with rfl | rfl <;> rw [z] <;> simp
  · rename_i h
    have pb : 0 < b.length := List.length_pos_iff.mpr fun z => h (.inr z)
    have pa : 0 < a.length := List.length_pos_iff.mpr fun z => h (.inl z)
    rw [val_rows b x a _ 0 (by simp; omega), val_rep]
    simp
/-! ### differences of rows of at most five -/
theorem shS_zero : shS [] 0 = [] := by decide
theorem fold_zero : ∀ k, (List.replicate k (0 : Int)).foldl shS [] = []
  | 0 => rfl
  | k + 1 => by
    rw [List.replicate_succ, List.foldl_cons, shS_zero]
    exact fold_zero k
theorem shL_trim (l : List Int) : shL l = shL (trimL l) := by
  have e : l.reverse = (List.replicate (l.length - (trimL l).length) 0) ++ (trimL l).reverse := by
    have := congrArg List.reverse (trim_split l)
    rw [List.reverse_append, List.reverse_replicate] at this
    exact this
  unfold shL
  rw [e, List.foldl_append, fold_zero]
theorem co_gap (l : List Int) (i : Nat) : co (gapL l) i = co (shL l) i - co l i := by
  unfold gapL
  rw [co_trim, co_add, co_trim, co_sc]
  omega
theorem gap_trim (l : List Int) : gapL (trimL l) = gapL l := by
  have h1 : trimL (gapL (trimL l)) = gapL (trimL l) := by unfold gapL; exact trim_trim _
  have h2 : trimL (gapL l) = gapL l := by unfold gapL; exact trim_trim _
  rw [← h1, ← h2]
  exact trim_ext fun i => by rw [co_gap, co_gap, ← shL_trim, co_trim]
theorem gap5 (a b c d e : Int) : gapL [a, b, c, d, e] = trimL [b + c + d + e, 2 * c + 3 * d + 4 * e, 3 * d + 6 * e, 4 * e, 0] := by
  have h2 : trimL (gapL [a, b, c, d, e]) = gapL [a, b, c, d, e] := by unfold gapL; exact trim_trim _
  rw [← h2]
  apply trim_ext
  intro i
  have es : shL [a, b, c, d, e] = shS (shS (shS (shS (shS [] e) d) c) b) a := by
    unfold shL
    rw [show [a, b, c, d, e].reverse = [e, d, c, b, a] from rfl]
    simp only [List.foldl_cons, List.foldl_nil]
  rw [co_gap, es]
  simp only [co_shS, co_nil]
  match i with
  | 0 => simp [co]; omega
  | 1 => simp [co]; omega
  | 2 => simp [co]; omega
  | 3 => simp [co]; omega
  | 4 => simp [co]
  | i + 5 =>
    have : ¬ (i + 5 = 0) := by omega
    simp [co]
/-- five places -/
def pad5 (l : List Int) : List Int := [co l 0, co l 1, co l 2, co l 3, co l 4]
theorem co_pad5 {l : List Int} (h : l.length ≤ 5) (i : Nat) : co (pad5 l) i = co l i := by
  match i with
  | 0 => rfl
  | 1 => rfl
  | 2 => rfl
  | 3 => rfl
  | 4 => rfl
  | i + 5 => rw [co_big (by simp [pad5]), co_big (by omega)]
theorem gap_pad {l : List Int} (h : l.length ≤ 5) : gapL l = gapL (pad5 l) := by
  rw [← gap_trim l, ← gap_trim (pad5 l), trim_ext fun i => (co_pad5 h i).symm]
theorem trim_le {l : List Int} {n : Nat} (h : ∀ i, n ≤ i → co l i = 0) : (trimL l).length ≤ n := by
  apply Classical.byContradiction
  intro hc
  have hp : 0 < (trimL l).length := by omega
  have hne : trimL l ≠ [] := List.length_pos_iff.mp hp
  have hl := trim_last l hne
  rw [List.getLast_eq_getElem, ← co_get (by omega), co_trim] at hl
  exact hl (h _ (by omega))
theorem gap_len {l : List Int} (h : l.length ≤ 5) : (gapL l).length ≤ l.length - 1 := by
  rw [gap_pad h]
  unfold pad5
  rw [gap5]
  apply trim_le
  intro i hi
  have z : ∀ j, l.length ≤ j → co l j = 0 := fun j hj => co_big hj
  by_cases h5 : l.length = 5
  · match i with
    | 0 => omega
    | 1 => omega
    | 2 => omega
    | 3 => omega
    | 4 => rfl
    | i + 5 => exact co_big (by simp)
  · have z4 := z 4 (by omega)
    by_cases h4 : l.length = 4
    · match i with
      | 0 => omega
      | 1 => omega
      | 2 => omega
      | 3 => simp [co] at z4 ⊢; omega
      | 4 => rfl
      | i + 5 => exact co_big (by simp)
    · have z3 := z 3 (by omega)
      by_cases h3 : l.length = 3
      · match i with
        | 0 => omega
        | 1 => omega
        | 2 => simp [co] at z4 z3 ⊢; omega
        | 3 => simp [co] at z4 ⊢; omega
        | 4 => rfl
        | i + 5 => exact co_big (by simp)
      · have z2 := z 2 (by omega)
        by_cases h2 : l.length = 2
        · match i with
          | 0 => omega
          | 1 => simp [co] at z4 z3 z2 ⊢; omega
          | 2 => simp [co] at z4 z3 ⊢; omega
          | 3 => simp [co] at z4 ⊢; omega
          | 4 => rfl
          | i + 5 => exact co_big (by simp)
        · have z1 := z 1 (by omega)
          match i with
          | 0 => simp [co] at z4 z3 z2 z1 ⊢; omega
          | 1 => simp [co] at z4 z3 z2 ⊢; omega
          | 2 => simp [co] at z4 z3 ⊢; omega
          | 3 => simp [co] at z4 ⊢; omega
          | 4 => rfl
          | i + 5 => exact co_big (by simp)
theorem gap_bd {l : List Int} (h : l.length ≤ 5) {m : Nat} (hb : Bd m l) : Bd (10 * m) (gapL l) := by
  rw [gap_pad h]
  unfold pad5
  rw [gap5]
  apply Bd.trim
  have b0 := bd_co.mp hb 0
  have b1 := bd_co.mp hb 1
  have b2 := bd_co.mp hb 2
  have b3 := bd_co.mp hb 3
  have b4 := bd_co.mp hb 4
  intro x hx
  simp only [List.mem_cons, List.not_mem_nil, or_false] at hx
  rcases hx with rfl | rfl | rfl | rfl | rfl <;> omega
theorem gapN_tr {l : List Int} (ht : trimL l = l) : ∀ k, trimL (gapN k l) = gapN k l
  | 0 => ht
  | k + 1 => by
    show trimL (gapL (gapN k l)) = gapL (gapN k l)
    unfold gapL
    exact trim_trim _
theorem gapN_len {l : List Int} (h : l.length ≤ 5) : ∀ k, (gapN k l).length ≤ l.length - k
  | 0 => Nat.le_refl _
  | k + 1 => by
    have ih := gapN_len h k
    have := gap_len (l := gapN k l) (by omega)
    show (gapL (gapN k l)).length ≤ _
    omega
theorem gapN_bd {l : List Int} (h : l.length ≤ 5) (hb : Bd 6 l) : ∀ k, Bd (6 * 10 ^ k) (gapN k l)
  | 0 => hb
  | k + 1 => by
    have ih := gap_bd (l := gapN k l) (by have := gapN_len h k; omega) (gapN_bd h hb k)
    rw [show 10 * (6 * 10 ^ k) = 6 * 10 ^ (k + 1) by rw [Nat.pow_succ]; omega] at ih
    exact ih
theorem gapN_row {l : List Int} (h : l.length ≤ 5) (hb : Bd 6 l) (ht : trimL l = l) {k : Nat} (hk : k ≤ 5) : Row (gapN k l) := by
  refine ⟨by have := gapN_len h k; omega, Bd.up (gapN_bd h hb k) ?_, gapN_tr ht k⟩
  have : 10 ^ k ≤ 10 ^ 5 := Nat.pow_le_pow_right (by omega) hk
  have e : (10 : Nat) ^ 5 = 100000 := by decide
  omega
/-- the law's differences are these -/
theorem lg_gap {l : List Int} (h : l.length ≤ 5) : trimL (lgF l) = gapL l := by
  rw [gap_pad h]
  unfold pad5
  rw [gap5]
  apply trim_ext
  intro i
  match l, h with
  | [], _ =>
    have e : lgF [] = [] := by kernel_rfl
    rw [e]
    match i with
    | 0 => simp [co]
    | 1 => simp [co]
    | 2 => simp [co]
    | 3 => simp [co]
    | 4 => simp [co]
    | i + 5 => simp [co]
  | [a], _ =>
    have e : lgF [a] = [0] := by kernel_rfl
    rw [e]
    match i with
    | 0 => simp [co]
    | 1 => simp [co]
    | 2 => simp [co]
    | 3 => simp [co]
    | 4 => simp [co]
    | i + 5 => simp [co]
  | [a, b], _ =>
    have e : lgF [a, b] = [0 + b * 1, 0] := by kernel_rfl
    rw [e]
    match i with
    | 0 => simp [co]
    | 1 => simp [co]
    | 2 => simp [co]
    | 3 => simp [co]
    | 4 => simp [co]
    | i + 5 => simp [co]
  | [a, b, c], _ =>
    have e : lgF [a, b, c] = [0 + b * 1 + c * 1, 0 + c * 2, 0] := by kernel_rfl
    rw [e]
    match i with
    | 0 => simp [co]
    | 1 => simp [co]; omega
    | 2 => simp [co]
    | 3 => simp [co]
    | 4 => simp [co]
    | i + 5 => simp [co]
  | [a, b, c, d], _ =>
    have e : lgF [a, b, c, d] = [0 + b * 1 + c * 1 + d * 1, 0 + c * 2 + d * 3, 0 + d * 3, 0] := by kernel_rfl
    rw [e]
    match i with
    | 0 => simp [co]
    | 1 => simp [co]; omega
    | 2 => simp [co]; omega
    | 3 => simp [co]
    | 4 => simp [co]
    | i + 5 => simp [co]
  | [a, b, c, d, e], _ =>
    have ee : lgF [a, b, c, d, e] = [0 + b * 1 + c * 1 + d * 1 + e * 1, 0 + c * 2 + d * 3 + e * 4, 0 + d * 3 + e * 6, 0 + e * 4, 0] := by kernel_rfl
    rw [ee]
    match i with
    | 0 => simp [co]
    | 1 => simp [co]; omega
    | 2 => simp [co]; omega
    | 3 => simp [co]; omega
    | 4 => simp [co]
    | i + 5 => simp [co]
end Md

-- part W9
set_option maxHeartbeats 1000000
set_option exponentiation.threshold 3000
namespace Md
open PySem PySem.Spec PyProof.Rows L2 Pl
def rootD (j : Nat) : D := .obj 5 [tl [-(j : Int), 1], .int 0, tl [-(j : Int), 1], tl [-((j : Int) + 2), 1], tl [(j : Int) + 2, 1]]
theorem root45 {n : Nat} (hn : 14 ≤ n) {j : Nat} (hj : j < 4) : G n 45 [tl [0 + (j : Int), 1]] = M.ret (rootD j) := by
  rcases j with _ | _ | _ | _ | j <;> first | omega | exact fuel (k := 14) (fun B => by kernel_rfl) hn
theorem low4 {n : Nat} (hn : 3 ≤ n) {j : Nat} (hj : j < 4) : G n 4 [.int (-(-(j : Int))), .int 1] = M.ret (tl [(j : Int), 1]) := by
  rcases j with _ | _ | _ | _ | j <;> first | omega | exact fuel (k := 3) (fun B => by kernel_rfl) hn
theorem fld_single (m j : Nat) : fldD (cf m).fl "single" (rootD j) = some (tl [-(j : Int), 1]) := by kernel_rfl
theorem s43 {n : Nat} (hn : 5 ≤ n) {l : List Int} (hl : Row l) {j : Nat} (hj : j < 4) (h0 : co l 0 = 0) (hv : val l (j : Int) = 0) : G n 43 [tl l, rootD j] = M.ret (.int 0) := by
  obtain ⟨m, rfl, h⟩ := pred hn
  show finM (runs (cf m) d43.body [.v (tl l), .v (rootD j)]) = _
  unfold d43
  have lenv : ev (cf m) (.bi .len [(.v 0)]) [.v (tl l), .v (rootD j)] = M.ret (.int l.length) := ev_bi1 rfl (by rw [bi_lent]; simp)
  by_cases he : l.length = 0
  · have t1 := evT_cmp (C := cf m) (o := .eq) lenv (b := .c (.int 0)) rfl (cmp_eq _ _)
    rw [show ((l.length : Int) == 0) = true by simp [he]] at t1
    exact (congrArg finM ((show runs (cf m) (.ite _ _ _ :: _) _ = _ from (by
      show thenM (Pl.run (cf m) _ _) _ = M.ret (.rt (.int 0))
      rw [ite_t t1]
      rfl)))).trans rfl
  · have t1 := evT_cmp (C := cf m) (o := .eq) lenv (b := .c (.int 0)) rfl (cmp_eq _ _)
    rw [beq_false_of_ne (show (l.length : Int) ≠ 0 by omega)] at t1
    have hne1 : l.length ≠ 1 := fun q => by
      have hne : trimL l ≠ [] := by
        rw [hl.tr]
        intro z
        rw [z] at q
        cases q
      have := trim_last l hne
      rw [List.getLast_eq_getElem, ← co_get (by have := List.length_pos_iff.mpr hne; omega), co_trim] at this
      apply this
      rw [hl.tr, q]
      exact h0
    have t2 := evT_cmp (C := cf m) (o := .eq) lenv (b := .c (.int 1)) rfl (cmp_eq _ _)
    rw [beq_false_of_ne (show (l.length : Int) ≠ 1 by omega)] at t2
    have ef : ev (cf m) (.fld (.v 1) "single") [.v (tl l), .v (rootD j)] = M.ret (tl [-(j : Int), 1]) := by
      show M.lift (fldD (cf m).fl "single" (rootD j)) = _
      rw [fld_single]
      rfl
    have t3 : evT (cf m) (.cmp .eq (.bi .len [(.fld (.v 1) "single")]) (.c (.int 2))) [.v (tl l), .v (rootD j)] = M.ret true := evT_cmp (ev_bi1 ef (bi_lent _)) rfl rfl
    have en : ev (cf m) (.neg (.ix (.fld (.v 1) "single") (.c (.int 0)))) [.v (tl l), .v (rootD j)] = M.ret (.int (-(-(j : Int)))) := by
      have := ev_ix (C := cf m) (i := .c (.int 0)) ef rfl (z := .int (-(j : Int))) rfl
      show M.bind (ev (cf m) (.ix (.fld (.v 1) "single") (.c (.int 0))) _) _ = _
      rw [this]
      rfl
    have e1 := ev_ix (C := cf m) (i := .c (.int 1)) ef rfl (z := .int 1) rfl
    rw [runs_ok ((ite_f t1).trans runs_nil), runs_ok ((ite_f t2).trans runs_nil)]
    have s22' := s22 (n := m) (by omega) (l := l) (p := (j : Int)) (by have := hl.len; omega) hl.bd (by omega)
    rw [hv] at s22'
    have er := ret_ok' (ev_call2 (C := cf m) (f := 22) (a := .v 0) rfl (ev_call2 en e1 (low4 (n := m) (by omega) hj)) s22')
    have : runs (cf m) (.ite (.cmp .eq (.bi .len [(.fld (.v 1) "single")]) (.c (.int 2)))
      [.ret (.call 22 [(.v 0), (.call 4 [(.neg (.ix (.fld (.v 1) "single") (.c (.int 0)))), (.ix (.fld (.v 1) "single") (.c (.int 1)))])])]
      [] :: [.ret (.call 38 [(.fld (.v 1) "single"), (.v 0), (.fld (.v 1) "low"), (.fld (.v 1) "high")])]) [.v (tl l), .v (rootD j)] = M.ret (.rt (.int (sgn 0))) := by
      show thenM (Pl.run (cf m) _ _) _ = _
      rw [ite_t t3, runs_rt er]
      rfl
    rw [this]
    rfl
theorem s44 {n : Nat} (hn : 6 ≤ n) {l : List Int} (hl : Row l) {j : Nat} (hj : j < 4) (h0 : co l 0 = 0) (hv : val l (j : Int) = 0) : G n 44 [tl l, rootD j] = M.ret (.int 0) := by
  obtain ⟨m, rfl, h⟩ := pred hn
  show finM (runs (cf m) d44.body [.v (tl l), .v (rootD j)]) = _
  unfold d44
  rw [runs_ok (ex_ok (ev_call1 rfl (hl.ok (by omega)))), runs_rt (ret_ok' (ev_call2 rfl rfl (s43 (by omega) hl hj h0 hv)))]
  rfl
/-- places 0 .. p - 1 -/
def plc (p : Nat) : List Int := (List.range p).map fun i : Nat => 0 + (i : Int)
theorem s33 {n : Nat} (hn : 6 ≤ n) {p : Nat} (h1 : 1 ≤ p) (h4 : p ≤ 4) : G n 33 [tl (plc p)] = M.ret (tl (fall p)) := by
  rcases p with _ | _ | _ | _ | _ | p <;> first | omega | exact fuel (k := 6) (fun B => by kernel_rfl) hn
theorem fall_row {p : Nat} (h4 : p ≤ 4) : Row (fall p) := by
  refine ⟨by rw [fall_len (by omega)]; omega, ?_, ?_⟩
  · have : ∀ i, i ≤ 4 → Bd 1000000 (fall i) := by
      intro i hi
      rcases i with _ | _ | _ | _ | _ | i <;> first | omega | (intro x hx; revert x; decide)
    exact this p h4
  · rcases p with _ | _ | _ | _ | _ | p <;> first | omega | decide
theorem fall_b {p : Nat} (h4 : p ≤ 4) : ∀ i, (co (fall p) i).natAbs ≤ 11 := by
  apply bd_co.mp
  rcases p with _ | _ | _ | _ | _ | p <;> first | omega | (intro x hx; revert x; decide)
theorem sumN_bd {g : Nat → Int} {M : Nat} : ∀ n, (∀ j, (g j).natAbs ≤ M) → (sumN g n).natAbs ≤ n * M
  | 0, _ => by simp [sumN]
  | n + 1, h => by
    have := sumN_bd n h
    have h2 := h n
    rw [sumN, Nat.succ_mul]
    omega
theorem both_row {l : List Int} (hl : l.length ≤ 5) (hb : Bd 6 l) {p : Nat} (h4 : p ≤ 4) : Row (trimL (mulL l (fall p))) := by
  refine ⟨?_, Bd.trim (bd_co.mpr fun i => ?_), trim_trim _⟩
  · have h1 := Nat.le_trans (trimL_len _) (mulL_len l (fall p))
    rw [fall_len (by omega)] at h1
    omega
  · rw [co_mul]
    have := sumN_bd (g := fun j => co l j * cb (fall p) i j) (M := 66) l.length (fun j => by
      have a := bd_co.mp hb j
      have b : (cb (fall p) i j).natAbs ≤ 11 := by
        unfold cb
        split
        · exact fall_b h4 _
        · decide
      rw [Int.natAbs_mul]
      exact Nat.mul_le_mul a b)
    have : l.length * 66 ≤ 5 * 66 := Nat.mul_le_mul_right _ hl
    omega
theorem fall_val {p : Nat} (h1 : 1 ≤ p) (h4 : p ≤ 4) : (∀ j : Nat, j < p → val (fall p) (j : Int) = 0) ∧ 0 < val (fall p) ((p : Int) + 1) ∧ co (fall p) 0 = 0 := by
  rcases p with _ | _ | _ | _ | _ | p
  · omega
  · decide
  · decide
  · decide
  · decide
  · omega
theorem both_0 {l : List Int} {p : Nat} (h1 : 1 ≤ p) (h4 : p ≤ 4) : co (trimL (mulL l (fall p))) 0 = 0 := by
  rw [co_trim, co_mul]
  have : ∀ n, sumN (fun j => co l j * cb (fall p) 0 j) n = 0 := fun n => by
    induction n with
    | zero => rfl
    | succ n ih =>
      rw [sumN, ih]
      have : cb (fall p) 0 n = 0 := by
        unfold cb
        split
        · have : 0 - n = 0 := by omega
          rw [this]
          exact (fall_val h1 h4).2.2
        · rfl
      rw [this]
      simp
  exact this _
theorem s59 {n : Nat} {a b : D} {c : Nat} {s : Str} (hw : lwM lw.Mk lw.Hs 0 (M.raise c) = M.ret (.str s)) (h : ∀ m, n = m + 1 → G m 50 [a, b] = M.raise c) (hn : 1 ≤ n) : G n 59 [a, b] = M.ret (.str s) := by
  obtain ⟨m, rfl, _⟩ := pred hn
  show finM (runs (cf m) [.ret (.lamc 0 (.call 50 [(.v 0), (.v 1)]))] [.v a, .v b]) = _
  have e := ev_call2 (C := cf m) (f := 50) (a := .v 0) (b := .v 1) (r := [.v a, .v b]) rfl rfl (h m rfl)
  have w : ev (cf m) (.lamc 0 (.call 50 [(.v 0), (.v 1)])) [.v a, .v b] = M.ret (.str s) := by
    show M.calm (lwM lw.Mk lw.Hs 0 (ev (cf m) (.call 50 [(.v 0), (.v 1)]) _)) = _
    rw [e, hw]
    rfl
  rw [runs_rt (ret_ok' w)]
  rfl
def bads2 : List D := [.int 6, .int (-1), .non, .bl true, .str "1", .tup [.int 1], .dc]
theorem bad1 {n : Nat} (hn : 2 ≤ n) {d : D} (h : d ∈ bads2) : G n 1 [d, .int 0, .int 5] = M.ret (.bl false) := by
  unfold bads2 at h
  simp only [List.mem_cons, List.not_mem_nil, or_false] at h
  rcases h with rfl | rfl | rfl | rfl | rfl | rfl | rfl <;> exact fuel (k := 2) (fun B => by kernel_rfl) hn
theorem bad50 {n : Nat} (hn : 4 ≤ n) {l : List Int} (hl : Row l) {d : D} (h : d ∈ bads2) : G n 50 [tl l, d] = M.raise 4 := by
  obtain ⟨m, rfl, hm⟩ := pred hn
  show finM (runs (cf m) d50.body [.v (tl l), .v d, .e]) = _
  unfold d50
  have t : evT (cf m) (.nt (.tv (.call 1 [(.v 1), (.c (.int 0)), (.c (.int 5))]))) [.v (tl l), .v d, .e] = M.ret true := evT_nt (z := false) (evT_tv (x := .bl false) (ev_call3 rfl rfl rfl (bad1 (n := m) (by omega) h)) rfl)
  rw [runs_ok (ex_ok (ev_call1 rfl (hl.ok (by omega))))]
  show finM (thenM (Pl.run (cf m) _ _) _) = _
  rw [ite_t t]
  rfl
theorem bad50' {n : Nat} (hn : 4 ≤ n) {l : List Int} (hl : l.length ≤ 9) (hb : Bd 1000000 l) (ht : trimL l ≠ l) (d : D) : G n 50 [tl l, d] = M.raise 3 := by
  obtain ⟨m, rfl, hm⟩ := pred hn
  show finM (runs (cf m) d50.body [.v (tl l), .v d, .e]) = _
  unfold d50
  rw [runs_ex (ex_ex (ev_call1 rfl (s12x (by omega) hl hb ht)))]
  rfl
end Md

-- part W10
set_option maxHeartbeats 1000000
set_option exponentiation.threshold 3000
namespace Pl
open PySem PySem.Spec PyProof.Rows L2
section
variable {C : Cf} {r : Rho} {B B1 : Bs}
theorem ev_call1B {f : Nat} {a : Pe} {x z : D} (h1 : ev C a r B = .ok x B1) (h : C.F f [x] = M.ret z) : ev C (.call f [a]) r B = .ok z B1 := by
  have a1 : evs C [a] r B = .ok [x] B1 := by
    show M.bind (ev C a r) _ B = _
    rw [bind_ok' h1]
    rfl
  show M.bind (evs C [a] r) _ B = _
  rw [bind_ok' a1, h]
  rfl
theorem ev_bi2 {o : Bi} {a b : Pe} {x y z : D} (h1 : ev C a r = M.ret x) (h2 : ev C b r = M.ret y) (h : biD o [x, y] = some z) : ev C (.bi o [a, b]) r = M.ret z := by
  show M.bind (M.bind (ev C a r) fun x => M.bind (M.bind (ev C b r) _) _) _ = _
  rw [h1, h2]
  show M.lift (biD o [x, y]) = _
  rw [h]
  rfl
theorem ev_lst2B {a b : Pe} {x y : D} (h1 : ev C a r = M.ret x) (h2 : ev C b r B = .ok y B1) : ev C (.lst [a, b]) r B = .ok (.lst [x, y]) B1 := by
  have a2 : evs C [b] r B = .ok [y] B1 := by
    show M.bind (ev C b r) _ B = _
    rw [bind_ok' h2]
    rfl
  have a1 : evs C [a, b] r B = .ok [x, y] B1 := by
    show M.bind (ev C a r) (fun x => M.bind (evs C [b] r) _) B = _
    rw [h1]
    show M.bind (evs C [b] r) _ B = _
    rw [bind_ok' a2]
    rfl
  have a3 : M.bind (evs C [a, b] r) lstM B = .ok [x, y] B1 := by
    rw [bind_ok' a1]
    rfl
  show M.bind (M.bind (evs C [a, b] r) lstM) _ B = _
  rw [bind_ok' a3]
  rfl
theorem ev_call2B' {f : Nat} {a b : Pe} {x y : D} {z : D} (h1 : ev C a r = M.ret x) (h2 : ev C b r B = .ok y B1) (h : C.F f [x, y] = M.ret z) : ev C (.call f [a, b]) r B = .ok z B1 := by
  have a2 : evs C [b] r B = .ok [y] B1 := by
    show M.bind (ev C b r) _ B = _
    rw [bind_ok' h2]
    rfl
  have a1 : evs C [a, b] r B = .ok [x, y] B1 := by
    show M.bind (ev C a r) (fun x => M.bind (evs C [b] r) _) B = _
    rw [h1]
    show M.bind (evs C [b] r) _ B = _
    rw [bind_ok' a2]
    rfl
  show M.bind (evs C [a, b] r) _ B = _
  rw [bind_ok' a1, h]
  rfl
end
end Pl
namespace Md
open PySem PySem.Spec PyProof.Rows L2 Pl
theorem neg_tr {l : List Int} (h : trimL l = l) : trimL (l.map fun x => 0 - x) = l.map fun x => 0 - x := by
  rcases List.eq_nil_or_concat l with rfl | ⟨p, x, e⟩
  · rfl
  · rw [List.concat_eq_append] at e
    subst e
    have hx : x ≠ 0 := fun z => by
      have e2 := trimL_snoc p x
      rw [h, if_pos z] at e2
      have := congrArg List.length e2
      have := trimL_len p
      simp at *
      omega
    rw [List.map_append, List.map_cons, List.map_nil, trimL_snoc, if_neg (by omega)]
theorem shL_tr (l : List Int) : trimL (shL l) = shL l := by
  have : ∀ (l f : List Int), trimL f = f → trimL (l.foldl shS f) = l.foldl shS f := fun l => by
    induction l with
    | nil => intro f h; exact h
    | cons x l ih =>
      intro f h
      rw [List.foldl_cons]
      apply ih
      unfold shS
      exact trim_trim _
  exact this _ _ rfl
theorem neg_sc (l : List Int) : (l.map fun x => 0 - x) = scL (-1) l := by
  unfold scL
  apply List.map_congr_left
  intro x _
  omega
theorem later_eq (l : List Int) : trimL (addL (shL l) (l.map fun x => 0 - x)) = gapL l := by
  unfold gapL
  exact trim_ext fun i => by rw [co_add, co_add, co_trim, neg_sc]
theorem sh_row {l : List Int} (hl : l.length ≤ 5) {m : Nat} (hb : Bd m l) (hm : 11 * m ≤ 1000000) : Row (shL l) := by
  refine ⟨?_, bd_co.mpr fun i => ?_, shL_tr l⟩
  · have := (foldS l.reverse [] 0 (Bd.up hb.rev (by omega)) (fun y hy => by cases hy)).2
    unfold shL
    simp at *
    omega
  · have h1 := bd_co.mp (gap_bd hl hb) i
    have h2 := bd_co.mp hb i
    rw [co_gap] at h1
    omega
theorem turns {m : Nat} (hm : 8 ≤ m) {row : List Int} (hl : row.length ≤ 5) (hb : Bd 6 row) (ht : trimL row = row) : ∃ x3 x9 x10, Pl.forM (.s 3) (fun r => runs (cf m) [.ite (.or [(.cmp .ne (.call 50 [(.v 1), (.v 3)]) (.v 2)), (.cmp .gt (.bi .len [(.v 2)]) (.bi .max2 [(.c (.int 0)), (.bin .sub (.bi .len [(.v 1)]) (.v 3))]))])
        [.ret (.c (.bl false))]
        [],
      .ite (.cmp .gt (.bi .len [(.v 2)]) (.c (.int 0)))
        [.set (.s 9) (.bi .tuple [(.lc (.s 12) .seq [(.v 2)] [] (.bin .sub (.c (.int 0)) (.v 12)) [12])]),
        .set (.s 10) (.call 31 [(.call 47 [(.v 2), (.c (.int 1))]), (.v 9)]),
        .ite (.cmp .ne (.v 10) (.call 57 [(.v 2)]))
          [.ret (.c (.bl false))]
          [],
        .set (.s 2) (.v 10)]
        []] r) ((List.range 6).map fun i : Nat => D.int (0 + (i : Nat))) [.v (.bag 0), .v (tl row), .v (tl row), .e, .e, .e, .e, .e, .e, .e, .e, .e, .e] = M.ret (.nx [.v (.bag 0), .v (tl row), .v (tl (gapN 6 row)), x3, .e, .e, .e, .e, .e, x9, x10, .e, .e]) := by
  have rows : ∀ k, k ≤ 5 → Row (gapN k row) := fun k hk => gapN_row hl hb ht hk
  obtain ⟨r', e, x3, x9, x10, rfl⟩ := forM_pre (g := .s 3) (b := fun r => runs (cf m) [.ite (.or [(.cmp .ne (.call 50 [(.v 1), (.v 3)]) (.v 2)), (.cmp .gt (.bi .len [(.v 2)]) (.bi .max2 [(.c (.int 0)), (.bin .sub (.bi .len [(.v 1)]) (.v 3))]))])
        [.ret (.c (.bl false))]
        [],
      .ite (.cmp .gt (.bi .len [(.v 2)]) (.c (.int 0)))
        [.set (.s 9) (.bi .tuple [(.lc (.s 12) .seq [(.v 2)] [] (.bin .sub (.c (.int 0)) (.v 12)) [12])]),
        .set (.s 10) (.call 31 [(.call 47 [(.v 2), (.c (.int 1))]), (.v 9)]),
        .ite (.cmp .ne (.v 10) (.call 57 [(.v 2)]))
          [.ret (.c (.bl false))]
          [],
        .set (.s 2) (.v 10)]
        []] r) (fun i : Nat => D.int (0 + (i : Nat))) (fun pre r => ∃ x3 x9 x10, r = [.v (.bag 0), .v (tl row), .v (tl (gapN pre.length row)), x3, .e, .e, .e, .e, .e, x9, x10, .e, .e]) (List.range 6) [] [.v (.bag 0), .v (tl row), .v (tl row), .e, .e, .e, .e, .e, .e, .e, .e, .e, .e] (fun pre a s r e ⟨x3, x9, x10, er⟩ => by
    subst er
    obtain ⟨hp, ha⟩ := range_at e
    subst ha
    obtain ⟨k, hk⟩ : ∃ k, k = pre.length := ⟨_, rfl⟩
    have elen : (pre ++ [pre.length]).length = k + 1 := by rw [List.length_append, hk]; rfl
    rw [← hk] at hp elen ⊢
    have R := rows k (by omega)
    have gl := gapN_len hl k
    obtain ⟨here, eh⟩ : ∃ here, here = gapN k row := ⟨_, rfl⟩
    have en : gapN (k + 1) row = gapL here := by rw [eh]; rfl
    rw [← eh] at R gl
    refine ⟨[.v (.bag 0), .v (tl row), .v (tl here), .v (.int (0 + (k : Nat))), .e, .e, .e, .e, .e, x9, x10, .e, .e], by rw [eh]; rfl, ?_⟩
    have s50' : G m 50 [tl row, .int (0 + (k : Nat))] = M.ret (tl here) := by
      rw [Int.zero_add, eh]
      exact s50 (by omega) rows (by omega)
    have t1 : evT (cf m) (.or [(.cmp .ne (.call 50 [(.v 1), (.v 3)]) (.v 2)), (.cmp .gt (.bi .len [(.v 2)]) (.bi .max2 [(.c (.int 0)), (.bin .sub (.bi .len [(.v 1)]) (.v 3))]))]) [.v (.bag 0), .v (tl row), .v (tl here), .v (.int (0 + (k : Nat))), .e, .e, .e, .e, .e, x9, x10, .e, .e] = M.ret false := by
      refine or_f (evT_cmp (ev_call2 rfl rfl s50') rfl (ne_of_eqD (eqD_tl _))) (evT_cmp (ev_bi1 rfl (bi_lent _)) (ev_bi2 rfl (ev_bin (ev_bi1 rfl (bi_lent _)) rfl rfl) (bi_max _ _)) ?_)
      rw [cmp_gt]
      congr 1
      apply decide_eq_false
      simp only [List.length_map]
      split <;> omega
    have t2 : evT (cf m) (.cmp .gt (.bi .len [(.v 2)]) (.c (.int 0))) [.v (.bag 0), .v (tl row), .v (tl here), .v (.int (0 + (k : Nat))), .e, .e, .e, .e, .e, x9, x10, .e, .e] = M.ret (decide ((0 : Int) < ((il here).length : Int))) := evT_cmp (ev_bi1 rfl (bi_lent _)) rfl (cmp_gt _ _)
    by_cases hz : here = []
    · have e0 : gapL here = here := by rw [hz]; decide
      rw [decide_eq_false (by rw [hz]; decide)] at t2
      refine ⟨[.v (.bag 0), .v (tl row), .v (tl here), .v (.int (0 + (k : Nat))), .e, .e, .e, .e, .e, x9, x10, .e, .e], ?_, .v (.int (0 + (k : Nat))), x9, x10, by rw [elen, en, e0]⟩
      rw [runs_ok ((ite_f t1).trans runs_nil), runs_ok ((ite_f t2).trans runs_nil)]
      rfl
    · have hpos : 0 < here.length := List.length_pos_iff.mpr hz
      rw [decide_eq_true (by simp; exact hpos)] at t2
      have k4 : k ≤ 4 := by omega
      have b1 : Bd (6 * 10 ^ k) here := by rw [eh]; exact gapN_bd hl hb k
      have pw : 10 ^ k ≤ 10 ^ 4 := Nat.pow_le_pow_right (by omega) k4
      have pe : (10 : Nat) ^ 4 = 10000 := by decide
      have Rs : Row (shL here) := sh_row (by omega) b1 (by omega)
      have Ru : Row (here.map fun x => 0 - x) := ⟨by simp; omega, fun x hx => by
        obtain ⟨y, hy, rfl⟩ := List.mem_map.mp hx
        have := R.bd y hy
        omega, neg_tr R.tr⟩
      have lcu : ev (cf m) (.lc (.s 12) .seq [(.v 2)] [] (.bin .sub (.c (.int 0)) (.v 12)) [12]) [.v (.bag 0), .v (tl row), .v (tl here), .v (.int (0 + (k : Nat))), .e, .e, .e, .e, .e, x9, x10, .e, .e] = M.ret (ll (here.map fun x => 0 - x)) := by
        have key := lc_ok (C := cf m) (g := .s 12) (k := .seq) (l := [(.v 2)]) (t := []) (e := .bin .sub (.c (.int 0)) (.v 12)) (w := [12]) (r := [.v (.bag 0), .v (tl row), .v (tl here), .v (.int (0 + (k : Nat))), .e, .e, .e, .e, .e, x9, x10, .e, .e]) (xs := [tl here]) rfl (it_t _) (lcM_on D.int (fun x => D.int (0 - x)) (fun x hx => el_ok rfl (ev_bin rfl rfl rfl)))
        refine key.trans ?_
        unfold ll il
        rw [List.map_map]
        rfl
      have p9 := set_ok (i := 9) (ev_bi1 lcu (bi_tupl _)) (by simp)
      simp only [List.set_cons_succ, List.set_cons_zero] at p9
      have s31' := s31 (n := m) (by omega) Rs Ru
      rw [later_eq] at s31'
      have p10 := set_ok (C := cf m) (r := [.v (.bag 0), .v (tl row), .v (tl here), .v (.int (0 + (k : Nat))), .e, .e, .e, .e, .e, .v (tl (here.map fun x => 0 - x)), x10, .e, .e]) (i := 10) (e := .call 31 [(.call 47 [(.v 2), (.c (.int 1))]), (.v 9)]) (ev_call2 (ev_call2 rfl rfl (s47 (n := m) (by omega) R)) rfl s31') (by simp)
      simp only [List.set_cons_succ, List.set_cons_zero] at p10
      have s57' := s57 (n := m) (by omega) (l := here) (by omega) R.bd
      rw [lg_gap (by omega)] at s57'
      have t3 : evT (cf m) (.cmp .ne (.v 10) (.call 57 [(.v 2)])) [.v (.bag 0), .v (tl row), .v (tl here), .v (.int (0 + (k : Nat))), .e, .e, .e, .e, .e, .v (tl (here.map fun x => 0 - x)), .v (tl (gapL here)), .e, .e] = M.ret false := evT_cmp rfl (ev_call1 rfl s57') (ne_of_eqD (eqD_tl _))
      refine ⟨[.v (.bag 0), .v (tl row), .v (tl (gapL here)), .v (.int (0 + (k : Nat))), .e, .e, .e, .e, .e, .v (tl (here.map fun x => 0 - x)), .v (tl (gapL here)), .e, .e], ?_, .v (.int (0 + (k : Nat))), .v (tl (here.map fun x => 0 - x)), .v (tl (gapL here)), by rw [elen, en]⟩
      rw [runs_ok ((ite_f t1).trans runs_nil)]
      refine runs_ok ((ite_t t2).trans ?_)
      rw [runs_ok p9, runs_ok p10, runs_ok ((ite_f t3).trans runs_nil)]
      rfl) ⟨.e, .e, .e, rfl⟩
  exact ⟨x3, x9, x10, e⟩
end Md

-- part W11
set_option maxHeartbeats 1000000
set_option exponentiation.threshold 3000
namespace Md
open PySem PySem.Spec PyProof.Rows L2 Pl
theorem s62 {n : Nat} (hn : 16 ≤ n) {N : Nat} (hN : N + 30 ≤ 1000000) {B : Bs} (hB : Hd N B) : ∃ B', G n 62 [.bag 0] B = .ok (.bl true) B' ∧ Hd (N + 20) B' := by
  obtain ⟨m, rfl, hm⟩ := pred hn
  have start : G (m + 1) 62 [.bag 0] = finM (runs (cf m) d62.body [.v (.bag 0), .e, .e, .e, .e, .e, .e, .e, .e, .e, .e, .e, .e]) := rfl
  rw [start]
  unfold d62
  -- the row
  obtain ⟨d1, B1, e1, a0, a1, hB1⟩ := s52 (n := m) (by omega) (many := 5) (by decide) (by decide) (by omega) hB
  obtain ⟨j, hj⟩ : ∃ j : Nat, (1 + d1) = (j : Int) := ⟨(1 + d1).toNat, by omega⟩
  obtain ⟨xs, B2, e2, l2, p2, hB2⟩ := draws (m := m) (by omega) (g := 11) (c := 13) (o := 6) (by decide) (by decide) (r := [.v (.bag 0), .e, .e, .e, .e, .e, .e, .e, .e, .e, .e, .e, .e]) (r' := []) (w := [11]) (fun i => ⟨_, rfl, rfl⟩) (kx := .bin .add (.c (.int 1)) (.call 52 [(.v 0), (.c (.int 5))])) (k := j) (B := B) (B1 := B1) (ev_binB rfl (ev_call2B rfl rfl e1) (by rw [bin_add, hj])) hB1 (by omega) (by omega)
  obtain ⟨row, er⟩ : ∃ row, row = trimL xs := ⟨_, rfl⟩
  have s54' := s54 (n := m) (by omega) xs
  rw [← er] at s54'
  have st1 := setB (i := 1) (ev_call1B e2 s54') (by simp)
  simp only [List.set_cons_succ, List.set_cons_zero] at st1
  have ht : trimL row = row := by rw [er]; exact trim_trim _
  have hl : row.length ≤ 5 := by
    rw [er]
    exact Nat.le_trans (trimL_len _) (by omega)
  have hb : Bd 6 row := by
    rw [er]
    exact Bd.trim fun x hx => by have := p2 x hx; omega
  have t1 : evT (cf m) (.cmp .eq (.bi .len [(.v 1)]) (.c (.int 0))) [.v (.bag 0), .v (tl row), .e, .e, .e, .e, .e, .e, .e, .e, .e, .e, .e] = M.ret ((row.length : Int) == 0) := by
    have := evT_cmp (C := cf m) (o := .eq) (a := .bi .len [(.v 1)]) (b := .c (.int 0)) (r := [.v (.bag 0), .v (tl row), .e, .e, .e, .e, .e, .e, .e, .e, .e, .e, .e]) (ev_bi1 rfl (bi_lent _)) rfl (cmp_eq _ _)
    rw [this]
    simp
  by_cases hz : row.length = 0
  · rw [show ((row.length : Int) == 0) = true by simp [hz]] at t1
    refine ⟨B2, finB ?_, hB2.up (by omega)⟩
    rw [runsB st1]
    refine runsBr ?_
    rw [ite_t t1]
    rfl
  rw [beq_false_of_ne (show (row.length : Int) ≠ 0 by omega)] at t1
  have R : Row row := ⟨by omega, Bd.up hb (by omega), ht⟩
  obtain ⟨x3, x9, x10, e4⟩ := turns (m := m) (by omega) hl hb ht
  -- the places
  obtain ⟨d5, B5, e5, c0, c1, hB5⟩ := s52 (n := m) (by omega) (many := 4) (by decide) (by decide) (by omega) hB2
  obtain ⟨p, hp⟩ : ∃ p : Nat, (d5 + 1) = (p : Int) := ⟨(d5 + 1).toNat, by omega⟩
  have p1 : 1 ≤ p := by omega
  have p4 : p ≤ 4 := by omega
  obtain ⟨d6, B6, e6, dm, hB6⟩ := s53 (n := m) (by omega) (l := bads2) (by decide) (by decide) (N := N + 1 + j + 1) (by omega) hB5
  refine ⟨B6, finB ?_, hB6.up (by omega)⟩
  rw [runsB st1, runs_ok ((ite_f t1).trans runs_nil)]
  have st3 := set_ok (C := cf m) (r := [.v (.bag 0), .v (tl row), .e, .e, .e, .e, .e, .e, .e, .e, .e, .e, .e]) (i := 2) (e := .v 1) (x := tl row) rfl (by simp)
  simp only [List.set_cons_succ, List.set_cons_zero] at st3
  rw [runs_ok st3, runs_ok ((fr_ok (xs := [.int 6]) rfl (by rw [it_r, if_pos (by omega)]; rfl)).trans e4)]
  have st5 := setB (C := cf m) (r := [.v (.bag 0), .v (tl row), .v (tl (gapN 6 row)), x3, .e, .e, .e, .e, .e, x9, x10, .e, .e]) (i := 4) (e := .bin .add (.call 52 [(.v 0), (.c (.int 4))]) (.c (.int 1))) (x := .int p) (ev_binB' (ev_call2B rfl rfl e5) rfl (by rw [bin_add, hp])) (by simp)
  simp only [List.set_cons_succ, List.set_cons_zero] at st5
  rw [runsB st5]
  have lcp : ev (cf m) (.lc (.s 11) .rng [(.v 4)] [] (.v 11) [11]) [.v (.bag 0), .v (tl row), .v (tl (gapN 6 row)), x3, .v (.int p), .e, .e, .e, .e, x9, x10, .e, .e] = M.ret (ll (plc p)) := by
    have key := lc_ok (C := cf m) (g := .s 11) (k := .rng) (l := [(.v 4)]) (t := []) (e := .v 11) (w := [11]) (r := [.v (.bag 0), .v (tl row), .v (tl (gapN 6 row)), x3, .v (.int p), .e, .e, .e, .e, x9, x10, .e, .e]) (xs := [.int p]) rfl (its := (List.range p).map fun i : Nat => D.int (0 + (i : Nat))) (by rw [it_r, if_pos (by omega)]; rfl) (lcM_on (fun i : Nat => D.int (0 + (i : Nat))) (fun i => D.int (0 + (i : Nat))) (fun i hi => el_ok rfl rfl))
    refine key.trans ?_
    unfold ll il plc
    rw [List.map_map]
    rfl
  have st6 := set_ok (i := 5) (ev_call1 (f := 33) (ev_bi1 lcp (bi_tupl _)) (s33 (n := m) (by omega) p1 p4)) (by simp)
  simp only [List.set_cons_succ, List.set_cons_zero] at st6
  rw [runs_ok st6]
  have Rb := both_row hl hb p4
  obtain ⟨v0, v1, v2⟩ := fall_val p1 p4
  have st7 := set_ok (C := cf m) (r := [.v (.bag 0), .v (tl row), .v (tl (gapN 6 row)), x3, .v (.int p), .v (tl (fall p)), .e, .e, .e, x9, x10, .e, .e]) (i := 6) (e := .call 32 [(.v 1), (.v 5)]) (ev_call2 rfl rfl (s32 (n := m) (by omega) R (fall_row p4))) (by simp)
  simp only [List.set_cons_succ, List.set_cons_zero] at st7
  rw [runs_ok st7]
  obtain ⟨both, eb⟩ : ∃ both, both = trimL (mulL row (fall p)) := ⟨_, rfl⟩
  rw [← eb] at Rb ⊢
  have b0 : co both 0 = 0 := by rw [eb]; exact both_0 p1 p4
  have bv : ∀ x : Int, val both x = val row x * val (fall p) x := fun x => by rw [eb, val_trim, val_mul]
  have lcz : ev (cf m) (.lc (.s 11) .rng [(.v 4)] [] (.call 44 [(.v 6), (.call 45 [(.tup [(.v 11), (.c (.int 1))])])]) [11]) [.v (.bag 0), .v (tl row), .v (tl (gapN 6 row)), x3, .v (.int p), .v (tl (fall p)), .v (tl both), .e, .e, x9, x10, .e, .e] = M.ret (ll (List.replicate p 0)) := by
    have key := lc_ok (C := cf m) (g := .s 11) (k := .rng) (l := [(.v 4)]) (t := []) (e := .call 44 [(.v 6), (.call 45 [(.tup [(.v 11), (.c (.int 1))])])]) (w := [11]) (r := [.v (.bag 0), .v (tl row), .v (tl (gapN 6 row)), x3, .v (.int p), .v (tl (fall p)), .v (tl both), .e, .e, x9, x10, .e, .e]) (xs := [.int p]) rfl (its := (List.range p).map fun i : Nat => D.int (0 + (i : Nat))) (by rw [it_r, if_pos (by omega)]; rfl) (lcM_on (fun i : Nat => D.int (0 + (i : Nat))) (fun i => D.int 0) (fun i hi => by
      have hi := List.mem_range.mp hi
      refine el_ok rfl (ev_call2 (x := tl both) rfl (ev_call1 (x := tl [0 + (i : Int), 1]) rfl (root45 (n := m) (by omega) (j := i) (by omega))) (s44 (n := m) (by omega) Rb (j := i) (by omega) b0 ?_))
      rw [bv, v0 i hi, Int.mul_zero]))
    refine key.trans ?_
    unfold ll il
    congr 2
    rw [List.map_replicate]
    have : ∀ q : Nat, (List.range q).map (fun _ : Nat => D.int 0) = List.replicate q (D.int 0) := fun q => by
      rw [List.map_const', List.length_range]
    exact this p
  have zs : ev (cf m) (.bin .mul (.lst [(.c (.int 0))]) (.v 4)) [.v (.bag 0), .v (tl row), .v (tl (gapN 6 row)), x3, .v (.int p), .v (tl (fall p)), .v (tl both), .e, .e, x9, x10, .e, .e] = M.ret (ll (List.replicate p 0)) := by
    have : binD .mul (.lst [.int 0]) (.int (p : Int)) = some (ll (List.replicate p 0)) := by
      rw [bin_mull, if_pos ⟨by decide, by omega, by omega⟩, Int.toNat_natCast, ← il_rep]
    exact ev_bin rfl rfl this
  rw [runs_ok ((ite_f (evT_cmp lcz zs (ne_of_eqD (eqD_ll _)))).trans runs_nil)]
  have st9 := set_ok (C := cf m) (r := [.v (.bag 0), .v (tl row), .v (tl (gapN 6 row)), x3, .v (.int p), .v (tl (fall p)), .v (tl both), .e, .e, x9, x10, .e, .e]) (i := 7) (e := .bin .add (.v 4) (.c (.int 1))) (x := .int ((p : Int) + 1)) rfl (by simp)
  simp only [List.set_cons_succ, List.set_cons_zero] at st9
  rw [runs_ok st9]
  have s48' := s48 (n := m) (by omega) Rb (k := (p : Int) + 1) (by omega)
  have sg : sgn (val both ((p : Int) + 1)) = sgL (val row ((p : Int) + 1)) := by
    rw [bv, Int.mul_comm]
    exact sgn_mul v1 _
  rw [sg] at s48'
  have s56' := s56 (n := m) (by omega) (x := tl row) (l := row) (.inr rfl) (by omega) R.bd (k := (p : Int) + 1) (by omega)
  have t10 : evT (cf m) (.cmp .ne (.call 48 [(.v 6), (.v 7)]) (.call 61 [(.call 56 [(.v 1), (.v 7)])])) [.v (.bag 0), .v (tl row), .v (tl (gapN 6 row)), x3, .v (.int p), .v (tl (fall p)), .v (tl both), .v (.int ((p : Int) + 1)), .e, x9, x10, .e, .e] = M.ret false := evT_cmp (ev_call2 rfl rfl s48') (ev_call1 (ev_call2 rfl rfl s56') (s61 (n := m) (by omega) _)) (by rw [cmp_ne]; simp)
  rw [runs_ok ((ite_f t10).trans runs_nil)]
  -- the words
  have w1 : ev (cf m) (.call 59 [(.bin .add (.v 1) (.tup [(.c (.int 0))])), (.c (.int 1))]) [.v (.bag 0), .v (tl row), .v (tl (gapN 6 row)), x3, .v (.int p), .v (tl (fall p)), .v (tl both), .v (.int ((p : Int) + 1)), .e, x9, x10, .e, .e] = M.ret (.str "row") := by
    have ap : binD .add (tl row) (tl [0]) = some (tl (row ++ [0])) := by
      rw [bin_addt, if_pos (by show _ ≤ 16777216; simp; omega), ← il_app]
    refine ev_call2 (x := tl (row ++ [0])) (y := .int 1) (ev_bin rfl rfl ap) rfl (s59 w3 (fun m' hm' => bad50' (by omega) (by simp; omega) (fun x hx => ?_) (fun q => ?_) _) (by omega))
    · rcases List.mem_append.mp hx with h | h
      · exact R.bd x h
      · simp at h
        rw [h]
        decide
    · rw [trimL_snoc, if_pos rfl, ht] at q
      have := congrArg List.length q
      simp at this
  have lb : ev (cf m) (.lst [(.c (.int 6)), (.neg (.c (.int 1))), (.c .non), (.c (.bl true)), (.c (.str "1")), (.tup [(.c (.int 1))]), .dc]) [.v (.bag 0), .v (tl row), .v (tl (gapN 6 row)), x3, .v (.int p), .v (tl (fall p)), .v (tl both), .v (.int ((p : Int) + 1)), .e, x9, x10, .e, .e] = M.ret (.lst bads2) := by rfl
  have w2 := ev_call2B' (C := cf m) (f := 59) (a := .v 1) (x := tl row) rfl (ev_call2B (f := 53) (a := .v 0) rfl lb e6) (s59 (n := m) (a := tl row) (b := d6) w4 (fun m' hm' => bad50 (by omega) R dm) (by omega))
  have st11 := setB (i := 8) (ev_lst2B w1 w2) (by simp)
  simp only [List.set_cons_succ, List.set_cons_zero] at st11
  rw [runsB st11]
  refine runsBr (retB' ?_)
  have fin := ev_cmp (C := cf m) (o := .eq) (a := .v 8) (b := .lst [(.c (.str "row")), (.c (.str "number"))]) (x := .lst [.str "row", .str "number"]) (y := .lst [.str "row", .str "number"]) (r := [.v (.bag 0), .v (tl row), .v (tl (gapN 6 row)), x3, .v (.int p), .v (tl (fall p)), .v (tl both), .v (.int ((p : Int) + 1)), .v (.lst [.str "row", .str "number"]), x9, x10, .e, .e]) rfl rfl (z := true) (by kernel_rfl)
  rw [fin]
  rfl
/-! ### the law -/
theorem lcM_bool {α : Type} {f : D → M (Option D)} (h : α → D) (Inv : Nat → Bs → Prop) (K c : Nat) (H : ∀ a N B, N + c ≤ K → Inv N B → ∃ B', f (h a) B = .ok (some (.bl true)) B' ∧ Inv (N + c) B') : ∀ (l : List α) (N : Nat) (B : Bs), Inv N B → N + c * l.length ≤ K → ∃ B', lcM f (l.map h) B = .ok (l.map fun _ => D.bl true) B'
  | [], N, B, hB, _ => ⟨B, rfl⟩
  | a :: l, N, B, hB, hK => by
    have hl : c * (a :: l).length = c * l.length + c := by rw [List.length_cons, Nat.mul_succ]
    obtain ⟨B1, e1, h1⟩ := H a N B (by omega) hB
    obtain ⟨B2, e2⟩ := lcM_bool h Inv K c H l (N + c) B1 h1 (by omega)
    refine ⟨B2, ?_⟩
    show M.bind (f (h a)) _ B = _
    rw [bind_ok' e1]
    show M.bind (lcM f (l.map h)) _ B1 = _
    rw [bind_ok' e2]
    rfl
theorem gives (ns : List Int) : ∃ B, G 30 63 [.scr (ns.map D.int)] [] = .ok (.bl true) B := by
  obtain ⟨B1, e1, hB1⟩ := s51 (n := 29) (by decide) ns
  have start : G (29 + 1) 63 [.scr (il ns)] = finM (runs (cf 29) d63.body [.v (.scr (il ns)), .e, .e]) := rfl
  show ∃ B, G (29 + 1) 63 [.scr (il ns)] [] = _
  rw [start]
  unfold d63
  have st1 := setB (C := cf 29) (r := [.v (.scr (il ns)), .e, .e]) (i := 1) (e := .call 51 [(.v 0)]) (x := .bag 0) (B := []) (B1 := B1) (by
    rw [ev_call1 (x := .scr (il ns)) rfl rfl]
    exact e1) (by simp)
  simp only [List.set_cons_succ, List.set_cons_zero] at st1
  have f1 : G 29 49 [tl [0, 1, 4]] = M.ret (.tup [tl [0, 0, 2], .int 2]) := fuel (k := 4) (fun B => by kernel_rfl) (by decide)
  have f2 : G 29 49 [tl [5]] = M.ret (.tup [tl [5], .int 1]) := fuel (k := 4) (fun B => by kernel_rfl) (by decide)
  have f3 : G 29 50 [tl [0, 0, 1], .int 1] = M.ret (tl [1, 2]) := fuel (k := 6) (fun B => by kernel_rfl) (by decide)
  have f4 : G 29 50 [tl [0, 0, 1], .int 2] = M.ret (tl [2]) := fuel (k := 6) (fun B => by kernel_rfl) (by decide)
  have f5 : G 29 50 [tl [0, 0, 1], .int 3] = M.ret (tl []) := fuel (k := 6) (fun B => by kernel_rfl) (by decide)
  have t1 : evT (cf 29) (.or [(.cmp .ne (.bi .tuple [(.call 49 [(.tup [(.c (.int 0)), (.c (.int 1)), (.c (.int 4))])])]) (.tup [(.tup [(.c (.int 0)), (.c (.int 0)), (.c (.int 2))]), (.c (.int 2))])), (.cmp .ne (.bi .tuple [(.call 49 [(.tup [(.c (.int 5))])])]) (.tup [(.tup [(.c (.int 5))]), (.c (.int 1))]))]) [.v (.scr (il ns)), .v (.bag 0), .e] = M.ret false :=
    or_f (evT_cmp (ev_bi1 (ev_call1 (x := tl [0, 1, 4]) rfl f1) (bi_tupt _)) (y := .tup [tl [0, 0, 2], .int 2]) rfl (ne_of_eqD (eqD_pair _ _))) (evT_cmp (ev_bi1 (ev_call1 (x := tl [5]) rfl f2) (bi_tupt _)) (y := .tup [tl [5], .int 1]) rfl (ne_of_eqD (eqD_pair _ _)))
  have t2 : evT (cf 29) (.or [(.cmp .ne (.call 50 [(.tup [(.c (.int 0)), (.c (.int 0)), (.c (.int 1))]), (.c (.int 1))]) (.tup [(.c (.int 1)), (.c (.int 2))])), (.cmp .ne (.call 50 [(.tup [(.c (.int 0)), (.c (.int 0)), (.c (.int 1))]), (.c (.int 2))]) (.tup [(.c (.int 2))])), (.cmp .ne (.call 50 [(.tup [(.c (.int 0)), (.c (.int 0)), (.c (.int 1))]), (.c (.int 3))]) (.tup []))]) [.v (.scr (il ns)), .v (.bag 0), .e] = M.ret false :=
    or_f (evT_cmp (ev_call2 (x := tl [0, 0, 1]) (y := .int 1) rfl rfl f3) (y := tl [1, 2]) rfl (ne_of_eqD (eqD_tl _))) (or_f (evT_cmp (ev_call2 (x := tl [0, 0, 1]) (y := .int 2) rfl rfl f4) (y := tl [2]) rfl (ne_of_eqD (eqD_tl _))) (evT_cmp (ev_call2 (x := tl [0, 0, 1]) (y := .int 3) rfl rfl f5) (y := tl []) rfl (ne_of_eqD (eqD_tl _))))
  obtain ⟨B2, e2⟩ := lcM_bool (f := fun d => M.bind (M.lift (setG (.s 2) d (wipeR [.v (.scr (il ns)), .v (.bag 0), .e] [2]))) fun r1 => M.bind (evTs (cf 29) [] r1) fun b => if b then M.bind (ev (cf 29) (.an [(.call 60 [(.v 1)]), (.call 62 [(.v 1)])]) r1) fun x => M.ret (some x) else M.ret none) (fun i : Nat => D.int (0 + (i : Nat))) Hd 1000 41 (fun a N B hN hB => by
    obtain ⟨B3, e3, h3⟩ := s60 (n := 29) (by decide) (N := N) (by omega) hB
    obtain ⟨B4, e4, h4⟩ := s62 (n := 29) (by decide) (N := N + 21) (by omega) h3
    refine ⟨B4, el_B (r1 := [.v (.scr (il ns)), .v (.bag 0), .v (.int (0 + (a : Nat)))]) rfl ?_, h4.up (by omega)⟩
    have c1 : ev (cf 29) (.call 60 [(.v 1)]) [.v (.scr (il ns)), .v (.bag 0), .v (.int (0 + (a : Nat)))] B = .ok (.bl true) B3 := by
      rw [ev_call1 (x := .bag 0) rfl rfl]
      exact e3
    have c2 : ev (cf 29) (.call 62 [(.v 1)]) [.v (.scr (il ns)), .v (.bag 0), .v (.int (0 + (a : Nat)))] B3 = .ok (.bl true) B4 := by
      rw [ev_call1 (x := .bag 0) rfl rfl]
      exact e4
    show M.bind (ev (cf 29) (.call 60 [(.v 1)]) _) _ B = _
    rw [bind_ok' c1]
    exact c2) (List.range 6) 0 B1 hB1 (by decide)
  refine ⟨B2, finB ?_⟩
  rw [runsB st1, runs_ok ((ite_f t1).trans runs_nil), runs_ok ((ite_f t2).trans runs_nil)]
  refine runsBr (retB' (ev_bi1B (lcB (xs := [.int 6]) rfl (its := (List.range 6).map fun i : Nat => D.int (0 + (i : Nat))) (by rw [it_r, if_pos (by omega)]; rfl) e2) rfl))
end Md

-- part K59e
set_option maxHeartbeats 0
namespace Md
open PySem PySem.Spec PyProof.Rows L2 Pl
theorem room : Room (3 * 30) callerA := ⟨rfl, by decide, by decide⟩
end Md
open PySem PySem.W PySem.Calls PyProof.Rows Pl
theorem PySem.Challenge.cw_signcells_k59_whole_heights_and_gaps_holds : PySem.Challenge.rw_signcells_k59_whole_heights_and_gaps.Holds := by
  w_on; o_law
  refine HandSHeadRun.head_any (r := OpenLaw.row PySem.Challenge.rw_signcells_k59_whole_heights_and_gaps) (q := view (OpenLaw.row PySem.Challenge.rw_signcells_k59_whole_heights_and_gaps).prog [Md.lawAt]) (H := Md.hk) (ob := obP 4 (chkP Md.lw Md.file) Md.lw.fn) (M := 8000) (loose := Md.loose) (d := HandSHeadRun.topDef (OpenLaw.row PySem.Challenge.rw_signcells_k59_whole_heights_and_gaps).prog Md.lawAt) (kwd := []) obP_eq
    (by kernel_rfl) (fun s => by kernel_rfl) Md.run (by kernel_rfl) (by kernel_rfl) (by kernel_rfl) (by rfl) (by first | assumption | decide +kernel) (by decide +kernel) ⟨rfl, rfl, rfl, rfl, rfl, by decide +kernel⟩ ?hw ?hc
  case hw => w_witness2
  case hc =>
    exact law_holds (l := PySem.Challenge.rw_signcells_k59_whole_heights_and_gaps) (L := Md.lw) (n := 63) (n0 := 30) (i := 63) (b := true) rfl (by decide) (by kernel_rfl) Md.txt (by kernel_rfl) (by kernel_rfl) Md.room fun ns _ _ => Md.gives ns

import PyProof.Rows.All
import Wide.All
import OpenK.AllK
import Wide.FinOn
import PyProof.ListMulRoad
import PyProof.FactsAll.tuple_2
import HandS.Base
import HandS.Call
import HandS.List
import HandS.TupMul
import KE.KRevSl
import HandS.Style
import HandS.ForMost
import HandS.ForExc
import HandS.Wide
import HandS.TupAny
import HandS.NoneIn
import HandS.RaiseMore
import HandS.Flow
import HandS.Defaults
import HandS.HeadWalk
import HandS.IsInst
import HandS.New
import HandS.More
import HandS.HeadHook3
import HandS.ExcInit
import HandS.ExcField
import HandS.FStr
import HandS.Small
import HandS.HeadHook1
import HandS.SortKw
import KE.DatumOrd
import HandS.Set
import HandS.SetTxt0
import HandS.Strs
import HandS.TryOnly
import HandS.TryMany
import HandS.HeadHook2
import HandS.HeadHook4
import HandS.HeadEnd
import HandS.Head0
import HandS.Head1
import HandS.Head2
import PyProof.P3Eq
import PySem.Challenge.RW_usetally_k12_where_it_goes_on
section Part_UT
set_option Elab.async false
set_option linter.all false
set_option maxRecDepth 100000
set_option maxHeartbeats 4000000
/-! UT: tuple * int, the small counts too. -/
namespace U
open PySem PySem.Spec PyProof.Rows L2
/-- once: the tuple itself -/
theorem tup_mul_one (l : Addr) (items : Array Value) (n : Nat) (dd : Option Addr) (sl : Array (Option Value)) (u : Tok) :
    Meets (Builtin.«tuple.__mul__» ⟨[.ref l, .int 1 u], []⟩) (fun _ R s => s.heap.get? l = some { cls := .type "tuple", dict := dd, data := .seq items n, slots := sl } ∧ R (.ok (.ret (Value.ref l))) s) :=
  .of_wp fun prog w A R s h => by
    obtain ⟨hp, g, d, tk, os⟩ := s
    obtain ⟨hl, h⟩ := h
    have f1 := AutoSeq1.idx_int
    wp_walk using wpAny_loadPart' hl
    exact ⟨_, rfl, h⟩
/-- not once: the empty one -/
theorem tup_mul_no (l : Addr) (items : Array Value) (n : Nat) (dd : Option Addr) (sl : Array (Option Value)) (x : Int) (u : Tok) (c0 : (decide (x < -(2 ^ 63)) || decide (x ≥ 2 ^ 63)) = false) (c1 : (items.isEmpty || x == 1) = false) (c2 : (decide (x ≤ 0) || items.isEmpty) = true) :
    Meets (Builtin.«tuple.__mul__» ⟨[.ref l, .int x u], []⟩) (fun _ R s => s.heap.get? l = some { cls := .type "tuple", dict := dd, data := .seq items n, slots := sl } ∧
      R (.ok (.ret (Value.ref s.heap.objs.size))) { s with heap := s.heap.push { cls := Value.type "tuple", data := Data.seq #[] }, toks := s.toks }) :=
  .of_wp fun prog w A R s h => by
    obtain ⟨hp, g, d, tk, os⟩ := s
    obtain ⟨hl, h⟩ := h
    have f1 := AutoSeq1.idx_int
    wp_walk using wpAny_loadPart' hl
    repeat (first
      | (refine wpAny_ite_false (decide_eq_false (by rw [c0]; exact Bool.false_ne_true)) ?_; wp_walk using wpAny_loadPart' hl)
      | (refine wpAny_ite_false (decide_eq_false (by rw [c1]; exact Bool.false_ne_true)) ?_; wp_walk using wpAny_loadPart' hl)
      | (rw [if_pos c2]; wp_walk using wpAny_loadPart' hl)
      | (refine wpAny_ite_true (decide_eq_true c2) ?_; wp_walk using wpAny_loadPart' hl))
    all_goals exact ⟨_, rfl, h⟩
def rMulT (K : PySem.W.Frag) : R2 := fun x y H Q => ∃ (l : Addr) (k : Int) (xs : List V), x = .ref l ∧ y = .int k ∧ SqT K H l xs ∧ xs ≠ [] ∧ -1000 ≤ k ∧ k ≤ 1000 ∧ xs.length ≤ 1000 ∧ (k = 1 → Q (.ref l) H) ∧ (k ≠ 1 → ∀ p, H p = none → Q (.ref p) (upd H p (.tup (List.replicate k.toNat xs).flatten)))
theorem op_mulT {X : Cx} : OpR X (binaryOp .Mult) (rMulT X.K) := by
  intro pins s σ H x y v u Q I rx ry h
  obtain ⟨l, k, xs, rfl, rfl, hT, hne, h0, h1, hz, q1, q⟩ := h
  by_cases h2 : 2 ≤ k
  · exact op_repT pins s σ H _ _ v u Q I rx ry ⟨l, k, xs, rfl, rfl, hT, hne, h2, h1, hz, q (by omega)⟩
  cases rx
  obtain ⟨t, rfl⟩ := ry
  obtain ⟨its, r, ⟨⟨cls, dd, data, sl⟩, ho, hc, n, hd⟩, hs⟩ := I.tuple hT
  simp only at hc hd
  subst hc hd
  have hi : its.toArray.isEmpty = false := by
    cases its with
    | nil =>
      cases r
      exact absurd rfl hne
    | cons a b => rfl
  have road : ∀ {Q' : Value → Shared → Prop}, wpAny (model X.prog X.w) X.A (call (.builtin "tuple.__mul__") [.ref l, .int k t]) Q' X.xe s → wpAny (model X.prog X.w) X.A (binaryOp .Mult (.ref l) (.int k t)) Q' X.xe s := fun {Q'} z =>
    wpAny_binaryOp_repeat_ref (T := "tuple") (U := "int") (by decide) ⟨_, ho, rfl⟩ (fun s' => typeIs_int s' k t) noFill_tuple_mul F.fills_int_mul F.slot_int_rmul repeat_tuple F.slot_int_index.lookup
      (call_meets F.slot_int_rmul (typeIs_int s k t) F.entry_int_rmul (F.args_int_rmul_2 _ _) (int_rmul_tuple k t l its.toArray n dd sl) ⟨ho, rfl, ⟨_, ho, rfl⟩, z⟩)
  by_cases e1 : k = 1
  · subst e1
    exact road (call_meets F.slot_tuple_mul ⟨_, ho, rfl⟩ F.entry_tuple_mul (F.args_tuple_mul_2 _ _) (tup_mul_one l its.toArray n dd sl t) ⟨ho, ⟨.ref l, H, I, rfl, q1 rfl⟩⟩)
  · have c0 : (decide (k < -(2 ^ 63)) || decide (k ≥ 2 ^ 63)) = false := by
      rw [decide_eq_false (by omega), decide_eq_false (by omega)] <;> rfl
    have c1 : (its.toArray.isEmpty || k == 1) = false := by
      rw [hi, Bool.false_or]
      exact beq_eq_false_iff_ne.mpr e1
    have c2 : (decide (k ≤ 0) || its.toArray.isEmpty) = true := by
      rw [decide_eq_true (by omega)] <;> rfl
    refine road (call_meets F.slot_tuple_mul ⟨_, ho, rfl⟩ F.entry_tuple_mul (F.args_tuple_mul_2 _ _) (tup_mul_no l its.toArray n dd sl k t c0 c1 c2) ⟨ho, ?_⟩)
    have ek : (List.replicate k.toNat xs).flatten = [] := by
      rw [show k.toNat = 0 from by omega]
      rfl
    have hq := q e1 s.heap.objs.size (I.hok.fresh (Nat.le_refl _))
    rw [ek] at hq
    exact ⟨.ref s.heap.objs.size, _, I.laid (t' := s.toks) (o := .tup []) (fun b ob q => Heap.get?_push_of_some _ q) (Nat.le_refl _) ⟨by rw [sizeLine_eq]; exact Nat.zero_le _, _, .nil, IsTup.new _ _⟩, rfl, hq⟩
end U
end Part_UT

section Part_UR
set_option Elab.async false
set_option linter.all false
set_option maxRecDepth 100000
set_option maxHeartbeats 4000000
/-! UR: xs[::-1], of lists and tuples. -/
namespace U
open PySem PySem.Spec PyProof.Rows L2 PySem.Calls
section
variable {prog : Program} {w : World} {A : Around} {E : Value → Shared → Prop} {s : Shared}
theorem adj_back (n : Nat) : Builtin.Slice.sliceAdjust none none (-1) (n : Int) = ((n : Int) - 1, -1) := by
  unfold Builtin.Slice.sliceAdjust
  simp
theorem places_back (n : Nat) : Builtin.Slice.slicePlaces ((n : Int) - 1) (-1) (-1) = n := by
  unfold Builtin.Slice.slicePlaces
  simp
  split <;> omega
theorem fm_congr {α β : Type} {f g : α → Option β} : ∀ {l : List α}, (∀ x ∈ l, f x = g x) → l.filterMap f = l.filterMap g
  | [], _ => rfl
  | a :: l, h => by
    rw [List.filterMap_cons, List.filterMap_cons, h a (List.mem_cons_self ..), fm_congr fun x hx => h x (List.mem_cons_of_mem _ hx)]
theorem pick_back (xs : Array Value) : ((List.range xs.size).filterMap fun (m : Nat) => xs[(((xs.size : Int) - 1) + (m : Int) * (-1)).toNat]?).toArray = xs.toList.reverse.toArray := by
  have h := PySem.W.krv_pick xs
  unfold slicePick at h
  rw [PySem.W.krv_bounds] at h
  have h2 : ((sliceRange ((xs.size : Int) - 1) (-1) (-1)).filterMap (xs[·]?)).toArray = xs.toList.reverse.toArray := h
  rw [PySem.W.krv_sliceRange, List.filterMap_map] at h2
  rw [← h2]
  congr 1
  apply fm_congr
  intro m hm
  have hm' := List.mem_range.mp hm
  show xs[(((xs.size : Int) - 1) + (m : Int) * (-1)).toNat]? = xs[xs.size - 1 - m]?
  congr 1
  omega
theorem getItem_tuple_back {t sl : Addr} {items : Array Value} {u : Tok} {Q : Value → Shared → Prop} (ht : IsTup s.heap t items) (hs : s.heap.IsSliceOf sl .none .none (.int (-1) u))
    (h : Q (.ref s.heap.objs.size) { s with heap := s.heap.push { cls := .type "tuple", data := .seq items.toList.reverse.toArray } }) (hsz : items.size ≤ sizeLine) : wpAny (model prog w) A (getItem (.ref t) (.ref sl)) Q E s := by
  obtain ⟨os, hos, hcs, hds⟩ := id hs
  have hTs : s.TypeIs (.ref sl) "slice" := ⟨os, hos, hcs⟩
  have fits : sizeOk (.seq items.toList.reverse.toArray) := by
    show items.toList.reverse.toArray.size ≤ sizeLine
    simpa using hsz
  have parts : ∀ {A' : Around} {E' : Value → Shared → Prop} {Q' : Int × Int × Nat → Shared → Prop}, Q' ((items.size : Int) - 1, -1, items.size) s → wpAny (model prog w) A' (Builtin.Slice.sliceApplied (.ref sl) (pure (items.size : Int))) Q' E' s := fun {A' E' Q'} z => by
    unfold Builtin.Slice.sliceApplied Builtin.Slice.sliceFields
    refine wpAny_bind (wpAny_bind (wpAny_field hos hds (x := .none) rfl (wpAny_bind (wpAny_field hos hds (x := .none) rfl (wpAny_bind (wpAny_field hos hds (x := .int (-1) u) rfl (wpAny_pure ?_)))))))
    refine wpAny_bind (slicePart_int ?_)
    show wpAny _ _ (if ((-1 : Int) == 0) = true then _ else _) _ _ s
    rw [if_neg (by decide)]
    refine wpAny_bind (slicePart_none (wpAny_bind (slicePart_none (wpAny_bind (wpAny_pure ?_)))))
    show wpAny _ _ (match Builtin.Slice.sliceAdjust none none (-1) (items.size : Int) with | (lo, hi) => pure (lo, (-1 : Int), Builtin.Slice.slicePlaces lo hi (-1))) _ _ s
    rw [adj_back]
    show wpAny _ _ (pure (((items.size : Int) - 1), (-1 : Int), Builtin.Slice.slicePlaces ((items.size : Int) - 1) (-1) (-1))) _ _ s
    rw [places_back]
    exact wpAny_pure z
  unfold getItem
  try with_reducible refine wpAny_holding ?_
  first | refine wpAny_bind (wpAny_pure ?_) | skip
  refine wpAny_bind (wpAny_sequenceKey ht.typeIs (by decide) ?_)
  refine wpAny_bind (wpAny_callSpecial?_slot (name := Str.ofString "__getitem__") ht.typeIs PyProof.Rows.slot_tuple_getitem
    (wpAny_call_entry PyProof.Rows.slot_tuple_getitem ht.typeIs entry_tuple_getitem ?_ (args_tuple_getitem _ _)))
  show wpAny _ _ (Builtin.Tuple.tupleItemsOf (.ref t) >>= _) _ _ s
  refine wpAny_bind (tupleItemsOf_ ht ?_)
  refine wpAny_bind (wpAny_typeOf hTs ?_)
  rw [if_pos (by decide)]
  refine wpAny_bind (parts ?_)
  show wpAny _ _ (if ((((items.size : Int) - 1) == 0 && (-1 : Int) == 1 && items.size == items.size) = true) then _ else _) _ _ s
  rw [if_neg (by simp), pick_back]
  first
    | exact wpAny_bind (m := Builtin.Tuple.tupleExact _) (wpAny_newObj_type (wpAny_pure ⟨_, rfl, wpAny_pure h⟩) fits)
    | exact wpAny_bind (wpAny_bind (m := Builtin.Tuple.tupleExact _) (wpAny_newObj_type (wpAny_pure (wpAny_pure ⟨_, rfl, wpAny_pure h⟩)) fits))
    | exact wpAny_bind (wpAny_bind (m := Builtin.Tuple.tupleExact _) (wpAny_newObj_type (wpAny_pure ⟨_, rfl, wpAny_pure h⟩) fits))
end
/-- x[::-1] -/
def tRevA (K : PySem.W.Frag) (te : TE) : TE := fun σ H Q => te σ H fun x H1 => (∃ a xs, x = .ref a ∧ SqL K H1 a xs ∧ ∀ p, H1 p = none → Q (.ref p) (upd H1 p (.lst xs.reverse))) ∨ ∃ a xs, x = .ref a ∧ SqT K H1 a xs ∧ ∀ p, H1 p = none → Q (.ref p) (upd H1 p (.tup xs.reverse))
theorem pe_revA {X : Cx} {e : Expr} {te : TE} {k : Nat} {p1 p2 p3 pos : Pos} (he : PE X e te) : PE X (.Subscript e (.Slice none none (some (.UnaryOp .USub (.Constant (.int 1) k p1) p2)) p3) pos) (tRevA X.K te) := by
  refine ⟨fun pins s σ H Q I h => ?_⟩
  refine Subscript_ (thn (he.run pins s σ H _ I h) fun v s1 ⟨x, H1, I1, r1, q1⟩ => ?_)
  have step : PO X (some (.UnaryOp .USub (.Constant (.int 1) k p1) p2)) (tPart (tUn (rU fun i => .int (-i)) (tC (.int 1)))) := po_some (pe_un un_neg pe_int)
  refine wpAny_Slice (thn (po_none.run pins s1 σ H1 (fun o H2 => o = none ∧ H2 = H1) I1 ⟨rfl, rfl⟩) fun vl s2 ⟨l, H2, I2, pl, el, e2⟩ => ?_)
  subst el e2
  refine thn (po_none.run pins s2 σ H2 (fun o H3 => o = none ∧ H3 = H2) I2 ⟨rfl, rfl⟩) fun vu s3 ⟨u, H3, I3, pu, eu, e3⟩ => ?_
  subst eu e3
  refine thn (step.run pins s3 σ H3 (fun o H4 => o = some (-1) ∧ H4 = H3) I3 ⟨1, rfl, -1, rfl, rfl, rfl⟩) fun vs s4 ⟨o, H4, I4, ps, eo, e4⟩ => ?_
  subst eo e4
  have I5 : Inv X pins σ H4 { s4 with heap := s4.heap.push { cls := .type "slice", data := .fields #[vl, vu, vs] } } := I4.kept (t' := s4.toks) fun b ob q => Heap.get?_push_of_some _ q
  rcases q1 with ⟨a, xs, rfl, hx, q⟩ | ⟨a, xs, rfl, hx, q⟩
  · cases r1
    obtain ⟨its, r, ht, hz⟩ := I5.list hx
    have hlen := r.length
    show wpAny (model X.prog X.w) X.A (subscriptTail e (.Slice none none (some (.UnaryOp .USub (.Constant (.int 1) k p1) p2)) p3) (.ref a) (.ref s4.heap.objs.size)) (EP X pins σ Q) X.xe _
    refine tail_any (ops := [.ref a, .ref s4.heap.objs.size]) ht.isList.typeIs (PySem.slot_list_getitem.lookup) ?_ (by with_unfolding_all rfl)
    refine wpAny_getItem_list_slice ht.isList (Heap.IsSliceOf.new _ vl vu vs) pl pu ps (by decide) ?_ (by rw [List.size_toArray]; omega)
    rw [PySem.W.krv_pick]
    refine ⟨.ref _, _, I5.laid (t' := s4.toks) (o := .lst xs.reverse) (fun b ob q => Heap.get?_push_of_some _ q) (Nat.le_refl _) ⟨by rw [List.length_reverse]; exact hz, _, 0, r.reverse, Heap.get?_push_size _ rfl⟩, rfl, q _ (I5.hok.fresh (Nat.le_refl _))⟩
  · cases r1
    obtain ⟨its, r, ht, hz⟩ := I5.tuple hx
    have hlen : its.toArray.size = xs.length := by rw [List.size_toArray]; exact r.length.symm
    cases pl
    cases pu
    cases ps with
    | int _ t =>
      show wpAny (model X.prog X.w) X.A (subscriptTail e (.Slice none none (some (.UnaryOp .USub (.Constant (.int 1) k p1) p2)) p3) (.ref a) (.ref s4.heap.objs.size)) (EP X pins σ Q) X.xe _
      refine tail_any (ops := [.ref a, .ref s4.heap.objs.size]) ht.typeIs PyProof.Rows.slot_tuple_getitem.lookup ?_ (by with_unfolding_all rfl)
      refine getItem_tuple_back ht (Heap.IsSliceOf.new ..) ?_ (by rw [hlen]; exact hz)
      exact ⟨.ref _, _, I5.laid (t' := s4.toks) (o := .tup xs.reverse) (fun b ob q => Heap.get?_push_of_some _ q) (Nat.le_refl _) ⟨by rw [List.length_reverse]; exact hz, _, r.reverse, IsTup.new _ _⟩, rfl, q _ (I5.hok.fresh (Nat.le_refl _))⟩
end U
end Part_UR

section Part_U1
set_option Elab.async false
set_option linter.all false
set_option maxRecDepth 100000
set_option maxHeartbeats 4000000
/-! U1: a small deterministic language of values, memory, expressions and statements, and its evaluator. No Python model in sight. -/
namespace U
open PySem (Operator CmpOp Str PyData)

/-- a text: its code points -/
abbrev Txt := List Nat
/-- a value: plain things, tuples and finished objects are told whole; what may change is told by its number in the memory -/
inductive MV where
  | non | bl (b : Bool) | int (i : Int) | str (x : Txt) | tup (xs : List MV) | obj (c : Nat) (fs : List MV) | ref (n : Nat)
  deriving Inhabited
/-- what stands in the memory -/
inductive MO where
  | lst (xs : List MV) | frz (xs : List MV) | dct (kvs : List (MV × MV)) | ins (c : Nat) (fs : List MV) | dead
  deriving Inhabited
abbrev Mem := List MO

mutual
def MV.eqb : MV → MV → Bool
  | .non, .non => true
  | .bl a, .bl b => a == b
  | .int a, .int b => a == b
  | .str a, .str b => a == b
  | .tup a, .tup b => MV.eqbs a b
  | .obj c a, .obj d b => c == d && MV.eqbs a b
  | .ref a, .ref b => a == b
  | _, _ => false
def MV.eqbs : List MV → List MV → Bool
  | [], [] => true
  | x :: xs, y :: ys => MV.eqb x y && MV.eqbs xs ys
  | _, _ => false
end
mutual
theorem MV.eqb_iff : ∀ (a b : MV), MV.eqb a b = true ↔ a = b
  | .non, b => by cases b <;> simp [MV.eqb]
  | .bl _, b => by cases b <;> simp [MV.eqb]
  | .int _, b => by cases b <;> simp [MV.eqb]
  | .str _, b => by cases b <;> simp [MV.eqb]
  | .tup xs, b => by cases b <;> simp [MV.eqb, MV.eqbs_iff xs]
  | .obj c xs, b => by cases b <;> simp [MV.eqb, MV.eqbs_iff xs]
  | .ref _, b => by cases b <;> simp [MV.eqb]
theorem MV.eqbs_iff : ∀ (a b : List MV), MV.eqbs a b = true ↔ a = b
  | [], b => by cases b <;> simp [MV.eqbs]
  | x :: xs, b => by cases b <;> simp [MV.eqbs, MV.eqb_iff x, MV.eqbs_iff xs]
end
instance : DecidableEq MV := fun a b => if h : MV.eqb a b = true then isTrue ((MV.eqb_iff a b).mp h) else isFalse fun e => h ((MV.eqb_iff a b).mpr e)
def eqKv : List (MV × MV) → List (MV × MV) → Bool
  | [], [] => true
  | x :: xs, y :: ys => decide (x.1 = y.1) && (decide (x.2 = y.2) && eqKv xs ys)
  | _, _ => false
theorem eqKv_iff : ∀ (a b : List (MV × MV)), eqKv a b = true ↔ a = b
  | [], b => by cases b <;> simp [eqKv]
  | x :: xs, b => by
    cases b with
    | nil => simp [eqKv]
    | cons y ys =>
      obtain ⟨x1, x2⟩ := x
      obtain ⟨y1, y2⟩ := y
      simp [eqKv, eqKv_iff xs, and_assoc]
def MO.eqb : MO → MO → Bool
  | .lst a, .lst b => MV.eqbs a b
  | .frz a, .frz b => MV.eqbs a b
  | .dct a, .dct b => eqKv a b
  | .ins c a, .ins d b => c == d && MV.eqbs a b
  | .dead, .dead => true
  | _, _ => false
theorem MO.eqb_iff (a b : MO) : MO.eqb a b = true ↔ a = b := by
  cases a <;> cases b <;> simp [MO.eqb, MV.eqbs_iff, eqKv_iff]
instance : DecidableEq MO := fun a b => if h : MO.eqb a b = true then isTrue ((MO.eqb_iff a b).mp h) else isFalse fun e => h ((MO.eqb_iff a b).mpr e)

/-! ### numbers of the memory below a bound -/
mutual
def MV.low (n : Nat) : MV → Bool
  | .tup xs => MV.lows n xs
  | .obj _ xs => MV.lows n xs
  | .ref k => decide (k < n)
  | _ => true
def MV.lows (n : Nat) : List MV → Bool
  | [] => true
  | x :: xs => MV.low n x && MV.lows n xs
end
def MO.low (n : Nat) : MO → Bool
  | .lst xs => MV.lows n xs
  | .frz xs => MV.lows n xs
  | .dct kvs => kvs.all fun p => p.1.low n && p.2.low n
  | .ins _ fs => MV.lows n fs
  | .dead => true
theorem MV.lows_iff {n : Nat} : ∀ {xs : List MV}, MV.lows n xs = true ↔ ∀ x ∈ xs, x.low n = true
  | [] => by simp [MV.lows]
  | x :: xs => by simp [MV.lows, MV.lows_iff (xs := xs)]

/-! ### what comes of an evaluation -/
inductive R (α : Type) where
  | ok (a : α) (m : Mem) | ex (c : Nat) (fs : List MV) (m : Mem) | fail
abbrev M (α : Type) := Mem → R α
def R.bind {α β : Type} (r : R α) (f : α → M β) : R β := match r with
  | .ok a m => f a m
  | .ex c fs m => .ex c fs m
  | .fail => .fail
def lift (o : Option (MV × Mem)) : R MV := match o with
  | some p => .ok p.1 p.2
  | none => .fail
abbrev CallF := Nat → List MV → M MV

/-! ### the tables -/
/-- kinds for isinstance: a class of one's own, or a built-in one -/
inductive Ty where
  | own (c : Nat) | int | bool | str | tup | lst | dct
  deriving DecidableEq
/-- what the evaluator asks of the program's classes and constants. fields: how many attributes an object of the class has in the end; fix: the place of an attribute, by its number; frozen: never changed once it is made;
   init: its __init__; meth: a method, by its number; sub: one class below (or the same as) another -/
structure Tab where
  ncls : Nat
  nex : Nat
  con : Nat → MV
  dic : Nat → List (Txt × Int)
  fields : Nat → Nat
  fix : Nat → Nat → Option Nat
  frozen : Nat → Bool
  init : Nat → Option Nat
  meth : Nat → Nat → Option Nat
  sub : Nat → Nat → Bool
  exf : Nat → Nat → Option Nat
  eqm : Nat → Option Nat

/-! ### the syntax -/
inductive BF where
  | len | abs | repr | str | tuple | list | sum | all | any | int | maxd | sort | sset
  deriving DecidableEq
inductive BM where
  | append | extend | join | pop | index | count
  deriving DecidableEq
mutual
inductive CE where
  | var (i : Nat) | int (i : Int) | str (x : Txt) | bl (b : Bool) | non | con (k : Nat)
  | bin (op : Operator) (a b : CE) | neg (a : CE) | not (a : CE)
  | cmp (op : CmpOp) (a b : CE) | chain (o p : CmpOp) (a b c : CE)
  | and (a b : CE) | or (a b : CE) | ife (c a b : CE)
  | call (f : Nat) (ix : List Nat) (es : List CE) | new (c : Nat) (ix : List Nat) (es : List CE) | meth (o : CE) (m : Nat) (ix : List Nat) (es : List CE)
  | fld (o : CE) (f : Nat) | idx (o i : CE) | rev (o : CE) | slc (o : CE) (lo hi : List CE)
  | lst (es : List CE) | tup (es : List CE)
  | lc (elt : CE) (i : Nat) (src : CI) (cond : List CE)
  | blt (b : BF) (es : List CE) | bm (o : CE) (m : BM) (es : List CE)
  | isi (e : CE) (ts : List Ty)
  | din (neg : Bool) (e : CE) (k : Nat) | dix (k : Nat) (e : CE)
  | fstr (es : List CE)
  | xfld (i : Nat) (f : Nat) | xisi (i : Nat) (ts : List Ty)
inductive CI where
  | of (e : CE) | rng1 (a : CE) | rng2 (a b : CE) | enum (e : CE)
end
/-- what a value is stored to -/
inductive Tg where
  | one (i : Nat) | tup (is : List Nat)
inductive CS where
  | asg (i : Nat) (e : CE) | unp (is : List Nat) (e : CE) | seti (o i e : CE) | setf (o : CE) (f : Nat) (e : CE) | aug (i : Nat) (op : Operator) (e : CE) | augf (o : CE) (f : Nat) (op : Operator) (e : CE)
  | expr (e : CE) | ret (e : CE) | retn | pass | brk | cont
  | ifs (c : CE) (a b : List CS) | whl (c : CE) (b : List CS) | for_ (t : Tg) (src : CI) (b : List CS) | bad
  | raise (c : Nat) (es : List CE)
  | try_ (body : List CS) (hs : List (List Nat × Option Nat × List CS))
structure FD where
  np : Nat
  ns : Nat
  dfl : List MV
  body : List CS

/-! ### operators, by values -/
def line : Nat := 16777216
/-- a value's data, for == and repr; lists by their numbers, to the depth given -/
def MV.data (m : Mem) : Nat → MV → Option PyData
  | 0, _ => none
  | k + 1, v => match v with
    | .non => some .none
    | .bl b => some (.bool b)
    | .int i => some (.int i)
    | .str x => some (.str ⟨x.toArray⟩)
    | .tup xs => (xs.mapM (MV.data m k)).map .tuple
    | .obj _ _ => none
    | .ref n => match m[n]? with
      | some (.lst xs) => (xs.mapM (MV.data m k)).map .list
      | some (.frz xs) => (xs.mapM (MV.data m k)).map .list
      | _ => none
def dataFuel : Nat := 1000
/-- plain things that == tells apart by what they are -/
def plainEq : MV → MV → Bool
  | .non, .non => true | .non, .int _ => true | .int _, .non => true | .non, .bl _ => true | .bl _, .non => true | .non, .str _ => true | .str _, .non => true
  | .int _, .int _ => true | .bl _, .bl _ => true | .str _, .str _ => true
  | .int _, .str _ => true | .str _, .int _ => true | .bl _, .str _ => true | .str _, .bl _ => true
  | _, _ => false
def peq (m : Mem) (a b : MV) : Option Bool :=
  if plainEq a b then some (decide (a = b)) else
  match MV.data m dataFuel a, MV.data m dataFuel b with
  | some d, some e => if d.canLay0 && e.canLay0 then some (PyData.eqv d e) else none
  | _, _ => none
def mkTup (vs : List MV) (m : Mem) : Option (MV × Mem) := if vs.length ≤ line then some (.tup vs, m) else none
def mkLst (vs : List MV) (m : Mem) : Option (MV × Mem) := if vs.length ≤ line then some (.ref m.length, m ++ [.lst vs]) else none
def alloc (o : MO) (m : Mem) : Option (MV × Mem) := some (.ref m.length, m ++ [o])
def binop (op : Operator) (a b : MV) (m : Mem) : Option (MV × Mem) := match op, a, b with
  | .Add, .int i, .int j => some (.int (i + j), m)
  | .Add, .str x, .str y => if x.length + y.length ≤ line then some (.str (x ++ y), m) else none
  | .Add, .tup x, .tup y => if x.length + y.length ≤ line then some (.tup (x ++ y), m) else none
  | .Add, .ref i, .ref j => match m[i]?, m[j]? with
    | some (.lst x), some (.lst y) => if x.length + y.length ≤ line then alloc (.lst (x ++ y)) m else none
    | _, _ => none
  | .Sub, .int i, .int j => some (.int (i - j), m)
  | .Mult, .tup xs, .int j => if xs.isEmpty = false ∧ -1000 ≤ j ∧ j ≤ 1000 ∧ xs.length ≤ 1000 then some (.tup (List.replicate j.toNat xs).flatten, m) else none
  | .Mult, .int i, .int j => if i.natAbs < 2 ^ 60000 ∧ j.natAbs < 2 ^ 60000 then some (.int (i * j), m) else none
  | .FloorDiv, .int i, .int j => if 0 < j ∧ j < 2 ^ 300 then some (.int (i / j), m) else none
  | .Mod, .int i, .int j => if 0 < j then some (.int (i % j), m) else none
  | .Pow, .int i, .int j => if 0 ≤ j ∧ j ≤ 1000 ∧ i.natAbs < 2 ^ 64 then some (.int (i ^ j.toNat), m) else none
  | _, _, _ => none
def flat : MV → Bool
  | .non => true
  | .bl _ => true
  | .int _ => true
  | .str _ => true
  | _ => false
/-- is one text in another -/
def isIn (x y : Txt) : Bool := !(PySem.Builtin.Str.occurrences (⟨y.toArray⟩ : Str) ⟨x.toArray⟩ 0 (⟨y.toArray⟩ : Str).length 1).isEmpty
def flatEq : MV → MV → Bool
  | .bl a, .int j => (if a then 1 else 0) == j
  | .int i, .bl b => i == (if b then 1 else 0)
  | a, b => decide (a = b)
/-- x in [..], plain things alone -/
def inSeq (x : MV) (ys : List MV) : Option Bool := if flat x && ys.all flat then some (ys.any fun y => flatEq y x) else none
def memb (m : Mem) (a b : MV) : Option Bool := match b with
  | .str y => match a with
    | .str x => some (isIn x y)
    | _ => none
  | .tup ys => inSeq a ys
  | .ref n => match m[n]? with
    | some (.lst ys) => inSeq a ys
    | some (.frz ys) => inSeq a ys
    | _ => none
  | _ => none
def isSame (m : Mem) (a b : MV) : Option Bool := match b with
  | .non => some (decide (a = .non))
  | .bl c => match a with
    | .bl b => some (decide (b = c))
    | _ => none
  | .ref j => match a with
    | .ref i => match m[i]?, m[j]? with
      | some (.lst _), some (.lst _) => some (decide (i = j))
      | some (.ins _ _), some (.ins _ _) => some (decide (i = j))
      | _, _ => none
    | _ => none
  | _ => none
def okb (o : Option Bool) (m : Mem) : Option (MV × Mem) := match o with
  | some b => some (.bl b, m)
  | none => none
def cmpop (op : CmpOp) (a b : MV) (m : Mem) : Option (MV × Mem) := match op with
  | .Eq => okb (peq m a b) m
  | .NotEq => okb ((peq m a b).map (!·)) m
  | .Lt => match a, b with
    | .int i, .int j => some (.bl (decide (i < j)), m)
    | _, _ => none
  | .LtE => match a, b with
    | .int i, .int j => some (.bl (decide (i ≤ j)), m)
    | _, _ => none
  | .Gt => match a, b with
    | .int i, .int j => some (.bl (decide (j < i)), m)
    | _, _ => none
  | .GtE => match a, b with
    | .int i, .int j => some (.bl (decide (j ≤ i)), m)
    | _, _ => none
  | .In => okb (memb m a b) m
  | .NotIn => okb ((memb m a b).map (!·)) m
  | .Is => okb (isSame m a b) m
  | .IsNot => okb ((isSame m a b).map (!·)) m
/-- truth -/
def truth (m : Mem) : MV → Option Bool
  | .non => some false
  | .bl b => some b
  | .int i => some (i != 0)
  | .str x => if x.length ≤ line then some (!x.isEmpty) else none
  | .tup x => some (!x.isEmpty)
  | .ref n => match m[n]? with
    | some (.lst xs) => some (!xs.isEmpty)
    | some (.frz xs) => some (!xs.isEmpty)
    | some (.dct xs) => some (!xs.isEmpty)
    | _ => none
  | _ => none
def getAt (v : MV) (i : Int) (m : Mem) : Option (MV × Mem) := match v with
  | .str x => if x.length ≤ line then match L2.atI x i with
    | some c => some (.str [c], m)
    | none => none
    else none
  | .tup xs => match L2.atI xs i with
    | some y => some (y, m)
    | none => none
  | .ref n => match m[n]? with
    | some (.lst xs) => match L2.atI xs i with
      | some y => some (y, m)
      | none => none
    | some (.frz xs) => match L2.atI xs i with
      | some y => some (y, m)
      | none => none
    | _ => none
  | _ => none
def subscr (v i : MV) (m : Mem) : Option (MV × Mem) := match i with
  | .int k => getAt v k m
  | _ => none
def cut {α : Type} (xs : List α) (lo hi : Option Int) : List α := (xs.drop (HT.sIx xs.length 0 lo)).take (HT.sIx xs.length xs.length hi - HT.sIx xs.length 0 lo)
def slice (v : MV) (lo hi : Option Int) (m : Mem) : Option (MV × Mem) := match v with
  | .str x => if x.length ≤ line then some (.str (cut x lo hi), m) else none
  | .tup xs => some (.tup (cut xs lo hi), m)
  | .ref n => match m[n]? with
    | some (.lst xs) => alloc (.lst (cut xs lo hi)) m
    | some (.frz xs) => alloc (.lst (cut xs lo hi)) m
    | _ => none
  | _ => none
/-- x[::-1] -/
def revv (v : MV) (m : Mem) : Option (MV × Mem) := match v with
  | .tup xs => some (.tup xs.reverse, m)
  | .ref n => match m[n]? with
    | some (.lst xs) => alloc (.lst xs.reverse) m
    | some (.frz xs) => alloc (.lst xs.reverse) m
    | _ => none
  | _ => none
def txtOf (i : Int) : Txt := (Str.ofString (toString i)).cps.toList
def allStr : List MV → Option (List Txt)
  | [] => some []
  | .str b :: r => (allStr r).map (b :: ·)
  | _ => none
def joined (sep : Txt) : List Txt → Txt
  | [] => []
  | [x] => x
  | x :: r => x ++ sep ++ joined sep r
def allBl : List MV → Option (List Bool)
  | [] => some []
  | .bl b :: r => (allBl r).map (b :: ·)
  | _ => none
def allInt : List MV → Option (List Int)
  | [] => some []
  | .int b :: r => (allInt r).map (b :: ·)
  | _ => none
def items (m : Mem) : MV → Option (List MV)
  | .tup xs => some xs
  | .ref n => match m[n]? with
    | some (.lst xs) => some xs
    | some (.frz xs) => some xs
    | _ => none
  | _ => none
/-- the greatest, or what stands for it where there is none -/
def maxI : List Int → Int → Int
  | [], d => d
  | x :: xs, _ => xs.foldl (fun m y => if m < y then y else m) x
/-- texts, rising -/
def insT (x : Txt) : List Txt → List Txt
  | [] => [x]
  | y :: ys => if y < x then y :: insT x ys else x :: y :: ys
def sortT : List Txt → List Txt
  | [] => []
  | x :: xs => insT x (sortT xs)
/-- texts, rising, each once -/
def insD (x : Txt) : List Txt → List Txt
  | [] => [x]
  | y :: ys => if y < x then y :: insD x ys else if y = x then y :: ys else x :: y :: ys
def sortD : List Txt → List Txt
  | [] => []
  | x :: xs => insD x (sortD xs)
/-- built-in functions -/
def builtin (b : BF) (vs : List MV) (m : Mem) : Option (MV × Mem) := match b, vs with
  | .len, [.str x] => if x.length ≤ line then some (.int x.length, m) else none
  | .len, [.tup x] => some (.int x.length, m)
  | .len, [.ref n] => match m[n]? with
    | some (.lst xs) => some (.int xs.length, m)
    | some (.frz xs) => some (.int xs.length, m)
    | _ => none
  | .abs, [.int i] => some (.int (if i < 0 then -i else i), m)
  | .repr, [v] => match MV.data m dataFuel v with
    | some d => if d.showable = true ∧ d.hasDict = false ∧ d.shown.length ≤ line then some (.str d.shown.cps.toList, m) else none
    | none => none
  | .str, [.int i] => if i.natAbs.log2 < 1920 then some (.str (txtOf i), m) else none
  | .str, [.str x] => some (.str x, m)
  | .tuple, [.tup x] => some (.tup x, m)
  | .tuple, [.ref n] => match m[n]? with
    | some (.lst xs) => some (.tup xs, m)
    | some (.frz xs) => some (.tup xs, m)
    | _ => none
  | .list, [.tup x] => alloc (.lst x) m
  | .list, [.ref n] => match m[n]? with
    | some (.lst xs) => alloc (.lst xs) m
    | some (.frz xs) => alloc (.lst xs) m
    | _ => none
  | .sum, [.ref n] => match m[n]? with
    | some (.lst xs) => match allInt xs with
      | some is => some (.int is.sum, m)
      | none => none
    | _ => none
  | .maxd, [.ref n, .int d] => match m[n]? with
    | some (.lst xs) => match allInt xs with
      | some is => some (.int (maxI is d), m)
      | none => none
    | _ => none
  | .sort, [.ref n] => match m[n]? with
    | some (.lst xs) => match allStr xs with
      | some ss => if ss.length < 64 then alloc (.lst ((sortT ss).map .str)) m else none
      | none => none
    | _ => none
  | .sset, [.ref n] => match m[n]? with
    | some (.lst xs) => match allStr xs with
      | some ss => if ss.length < 64 then alloc (.lst ((sortD ss).map .str)) m else none
      | none => none
    | _ => none
  | .all, [.ref n] => match m[n]? with
    | some (.lst xs) => match allBl xs with
      | some bs => some (.bl (bs.all id), m)
      | none => none
    | _ => none
  | .any, [.ref n] => match m[n]? with
    | some (.lst xs) => match allBl xs with
      | some bs => some (.bl (bs.any id), m)
      | none => none
    | _ => none
  | .int, [.int i] => some (.int i, m)
  | .int, [.bl b] => some (.int (if b then 1 else 0), m)
  | _, _ => none
/-- methods of built-in types -/
def method (b : BM) (o : MV) (vs : List MV) (m : Mem) : Option (MV × Mem) := match b, o, vs with
  | .append, .ref n, [v] => match m[n]? with
    | some (.lst xs) => if xs.length < line then some (.non, m.set n (.lst (xs ++ [v]))) else none
    | _ => none
  | .extend, .ref n, [.ref k] => match m[n]?, m[k]? with
    | some (.lst xs), some (.lst ys) => if xs.length + ys.length ≤ line then some (.non, m.set n (.lst (xs ++ ys))) else none
    | _, _ => none
  | .join, .str s, [v] => match items m v with
    | some xs => match allStr xs with
      | some ys => if (ys.map (·.length)).sum + ys.length * s.length ≤ line then some (.str (joined s ys), m) else none
      | none => none
    | none => none
  | _, _, _ => none
/-- is it of the type whose method is called -/
def recv (m : Mem) (b : BM) (x : MV) : Bool := match b, x with
  | .join, .str _ => true
  | .join, _ => false
  | _, .ref n => match m[n]? with
    | some (.lst _) => true
    | _ => false
  | _, _ => false
def onRecv {α : Type} (m : Mem) (b : BM) (x : MV) (k : R α) : R α := if recv m b x = true then k else .fail
def vty (T : Tab) (m : Mem) (v : MV) : Option (Option Ty) := match v with
  | .non => some none
  | .bl _ => some (some .bool)
  | .int _ => some (some .int)
  | .str _ => some (some .str)
  | .tup _ => some (some .tup)
  | .obj c _ => if c < T.ncls then some (some (.own c)) else none
  | .ref n => match m[n]? with
    | some (.lst _) => some (some .lst)
    | some (.frz _) => some (some .lst)
    | some (.dct _) => some (some .dct)
    | some (.ins c _) => if c < T.ncls then some (some (.own c)) else none
    | _ => none
def isTy (T : Tab) (a : Option Ty) (t : Ty) : Bool := match a with
  | none => false
  | some .bool => decide (t = .bool ∨ t = .int)
  | some (.own c) => match t with
    | .own d => T.sub c d
    | _ => false
  | some a => decide (a = t)
def tyIn (T : Tab) : Ty → Bool
  | .own d => decide (d < T.ncls)
  | _ => true
def tyIs (T : Tab) (m : Mem) (v : MV) (t : Ty) : Option Bool := match vty T m v with
  | some a => if tyIn T t then some (isTy T a t) else none
  | none => none
def tyAny (T : Tab) (m : Mem) (v : MV) : List Ty → Option Bool
  | [] => some false
  | t :: ts => match tyIs T m v t, tyAny T m v ts with
    | some a, some b => some (a || b)
    | _, _ => none

/-- by the truth of a value -/
def onTru {α : Type} (m : Mem) (x : MV) (k : Bool → R α) : R α := match truth m x with
  | some b => k b
  | none => .fail
def negv (x : MV) (m : Mem) : Option (MV × Mem) := match x with
  | .int i => some (.int (-i), m)
  | _ => none

/-- what may be kept in an exception, and shown -/
def shw : MV → Bool
  | .str x => decide (x.length ≤ 1000)
  | .int i => decide (i.natAbs.log2 < 1920) && decide ((txtOf i).length ≤ 1000)
  | _ => false
/-- one part of a text -/
def ftxt : MV → Option Txt
  | .str x => if x.length ≤ line then some x else none
  | .int i => if i.natAbs.log2 < 1920 then some (txtOf i) else none
  | _ => none
/-- in a table, at a table's key -/
def dinv (l : List (Txt × Int)) (neg : Bool) (x : MV) (m : Mem) : Option (MV × Mem) := match x with
  | .str z => some (.bl (if neg then !(l.lookup z).isSome else (l.lookup z).isSome), m)
  | _ => none
def dixv (l : List (Txt × Int)) (x : MV) (m : Mem) : Option (MV × Mem) := match x with
  | .str z => match l.lookup z with
    | some i => some (.int i, m)
    | none => none
  | _ => none

/-! ### the frame -/
inductive Sl where
  | no | val (v : MV) | exn (c : Nat) (fs : List MV)
def Sl.free : Sl → Bool
  | .exn _ _ => false
  | _ => true
abbrev Env := List Sl
def putX (r : Env) (i : Option Nat) (s : Sl) : Env := match i with
  | some k => r.set k s
  | none => r
inductive RS where
  | nx (r : Env) (m : Mem) | bk (r : Env) (m : Mem) | ct (r : Env) (m : Mem) | rt (v : MV) (m : Mem) | ex (c : Nat) (fs : List MV) (r : Env) (m : Mem) | fail
def RS.seq (a : RS) (f : Env → Mem → RS) : RS := match a with
  | .nx r m => f r m
  | a => a
/-- an expression within a statement -/
def R.st (a : R MV) (r : Env) (f : MV → Mem → RS) : RS := match a with
  | .ok v m => f v m
  | .ex c fs m => .ex c fs r m
  | .fail => .fail
def onTruS (m : Mem) (x : MV) (k : Bool → RS) : RS := match truth m x with
  | some b => k b
  | none => .fail
/-- the value in a slot -/
def look (r : Env) (i : Nat) (m : Mem) : R MV := match r[i]? with
  | some (.val v) => .ok v m
  | _ => .fail
def rng (lo hi : Int) : List MV := (List.range (hi - lo).toNat).map fun (i : Nat) => .int (lo + i)
/-- what a loop walks: the items, and the list that must stand still while it is walked -/
structure Walked where
  items : List MV
  src : Option (Nat × Bool)
/-- the pairs of places and things -/
def enumI (xs : List MV) : List MV := xs.zipIdx.map fun p => .tup [.int (p.2 : Nat), p.1]
def shapeI : Bool → List MV → List MV
  | false, xs => xs
  | true, xs => enumI xs
def Walked.still (w : Walked) (m : Mem) : Bool := match w.src with
  | none => true
  | some n => match m[n.1]? with
    | some (.lst xs) => MV.eqbs (shapeI n.2 xs) w.items
    | some (.frz xs) => MV.eqbs (shapeI n.2 xs) w.items
    | _ => false
def enumOf (v : MV) (m : Mem) : Option Walked := match v with
  | .ref n => match m[n]? with
    | some (.lst xs) => some ⟨enumI xs, some (n, true)⟩
    | some (.frz xs) => some ⟨enumI xs, some (n, true)⟩
    | _ => none
  | _ => none
def walkOf (v : MV) (m : Mem) : Option Walked := match v with
  | .str x => some ⟨x.map fun c => .str [c], none⟩
  | .tup xs => some ⟨xs, none⟩
  | .ref n => match m[n]? with
    | some (.lst xs) => some ⟨xs, some (n, false)⟩
    | some (.frz xs) => some ⟨xs, some (n, false)⟩
    | _ => none
  | _ => none
def liftW (o : Option Walked) (m : Mem) : R Walked := match o with
  | some w => .ok w m
  | none => .fail
def rng1 (x : MV) : Option Walked := match x with
  | .int n => if -(2 ^ 62) ≤ n ∧ n < 2 ^ 62 then some ⟨rng 0 n, none⟩ else none
  | _ => none
def rng2 (x y : MV) : Option Walked := match x, y with
  | .int i, .int j => if -(2 ^ 62) ≤ i ∧ i < 2 ^ 62 ∧ -(2 ^ 62) ≤ j ∧ j < 2 ^ 62 then some ⟨rng i j, none⟩ else none
  | _, _ => none
/-- a loop over what is walked -/
def forGo (w : Walked) (body : MV → Env → Mem → RS) : List MV → Env → Mem → RS
  | [], r, m => if w.still m then .nx r m else .fail
  | x :: xs, r, m => if w.still m then match body x r m with
      | .nx r' m' => forGo w body xs r' m'
      | .ct r' m' => forGo w body xs r' m'
      | .bk r' m' => .nx r' m'
      | a => a
    else .fail
/-- a comprehension, its list at n -/
def lcGo (w : Walked) (n : Nat) (test elt : MV → M MV) : List MV → Mem → R MV
  | [], m => if w.still m then .ok (.ref n) m else .fail
  | x :: xs, m => if w.still m then match test x m with
      | .ok t m' => onTru m' t fun b => if b = true then match elt x m' with
          | .ok v m'' => match m''[n]? with
            | some (.lst acc) => if acc.length < line then lcGo w n test elt xs (m''.set n (.lst (acc ++ [v]))) else .fail
            | _ => .fail
          | _ => .fail
        else lcGo w n test elt xs m'
      | _ => .fail
    else .fail
def whileGo (c : Env → Mem → R MV) (b : Env → Mem → RS) : Nat → Env → Mem → RS
  | 0, _, _ => .fail
  | n + 1, r, m => (c r m).st r fun v m1 => onTruS m1 v fun k => if k = true then match b r m1 with
      | .nx r' m' => whileGo c b n r' m'
      | .ct r' m' => whileGo c b n r' m'
      | .bk r' m' => .nx r' m'
      | a => a
    else .nx r m1
def okOld (n : Nat) : List MO → List MO → Bool
  | [], _ => true
  | _ :: _, [] => false
  | a :: as, b :: bs => (decide (a = b) || b.low n) && okOld n as bs
/-- an own __init__ has run on the object at n, the next one behind the memory m0: a finished object, or one that may change -/
def made (T : Tab) (c : Nat) (m0 m : Mem) : R MV := match m[m0.length]? with
  | some (.ins d fs) => if d = c then
      if T.frozen c then
        if fs.length = T.fields c then (if okOld m0.length m0 m ∧ m.length = m0.length + 1 ∧ MV.lows m0.length fs then .ok (.obj c fs) (m.take m0.length) else .ok (.obj c fs) (m.set m0.length .dead)) else .fail
      else .ok (.ref m0.length) m
    else .fail
  | _ => .fail
def newObj (T : Tab) (cl : CallF) (c : Nat) (vs : List MV) (m : Mem) : R MV := match T.init c with
  | some f => (cl f (.ref m.length :: vs) (m ++ [.ins c []])).bind fun v m2 => match v with
    | .non => made T c m m2
    | _ => .fail
  | none => match vs with
    | [] => made T c m (m ++ [.ins c []])
    | _ => .fail
def getF (T : Tab) (v : MV) (f : Nat) (m : Mem) : Option (MV × Mem) := match v with
  | .obj c fs => match T.fix c f with
    | some k => match fs[k]? with
      | some y => some (y, m)
      | none => none
    | none => none
  | .ref n => match m[n]? with
    | some (.ins c fs) => match T.fix c f with
      | some k => match fs[k]? with
        | some y => some (y, m)
        | none => none
      | none => none
    | _ => none
  | _ => none
/-- store an attribute: the next one of an object that is being made, or one that is there of an object that may change -/
def setF (T : Tab) (v : MV) (f : Nat) (y : MV) (m : Mem) : Option Mem := match v with
  | .ref n => match m[n]? with
    | some (.ins c fs) => match T.fix c f with
      | some k => if k = fs.length ∧ fs.length < T.fields c then some (m.set n (.ins c (fs ++ [y]))) else if k < fs.length ∧ T.frozen c = false then some (m.set n (.ins c (fs.set k y))) else none
      | none => none
    | _ => none
  | _ => none
def setI (v i y : MV) (m : Mem) : Option Mem := match v, i with
  | .ref n, .int j => match m[n]? with
    | some (.lst xs) => (L2.ixN xs.length j).map fun k => m.set n (.lst (xs.set k y))
    | _ => none
  | _, _ => none
def clsOf (m : Mem) : MV → Option Nat
  | .obj c _ => some c
  | .ref n => match m[n]? with
    | some (.ins c _) => some c
    | _ => none
  | _ => none
def onMeth {α : Type} (T : Tab) (m : Mem) (x : MV) (mm : Nat) (k : Nat → R α) : R α := match clsOf m x with
  | some c => match T.meth c mm with
    | some f => k f
    | none => .fail
  | none => .fail
/-- a part of a slice -/
def onPart {α : Type} (ls : List MV) (k : Option Int → R α) : R α := match ls with
  | [] => k none
  | [.int a] => k (some a)
  | _ => .fail
def setAll (r : Env) : List Nat → List MV → Option Env
  | [], [] => some r
  | i :: is, v :: vs => setAll (r.set i (.val v)) is vs
  | _, _ => none
def Tg.put (t : Tg) (v : MV) (r : Env) : Option Env := match t with
  | .one i => some (r.set i (.val v))
  | .tup is => match v with
    | .tup xs => setAll r is xs
    | _ => none
def augop (op : Operator) (a b : Int) : Option Int := match op with
  | .Add => some (a + b)
  | .Sub => some (a - b)
  | _ => none
def xTy (T : Tab) (c : Nat) : List Ty → Bool
  | [] => false
  | .own d :: ts => T.sub c d || xTy T c ts
  | _ :: ts => xTy T c ts

/-- the arguments as written, in the parameters' order: ix tells where each stands (none: they stand so) -/
def pick {α : Type} : List Nat → List α → List α
  | [], _ => []
  | k :: ks, l => match l[k]? with
    | some x => x :: pick ks l
    | none => pick ks l
def ord {α : Type} (ix : List Nat) (l : List α) : List α := match ix with
  | [] => l
  | k :: ks => pick (k :: ks) l

/-! ### the evaluator -/
section
variable (T : Tab) (W : Nat) (cl : CallF)
mutual
def evE : CE → Env → Mem → R MV
  | .var i, r, m => look r i m
  | .int i, _, m => .ok (.int i) m
  | .str x, _, m => .ok (.str x) m
  | .bl b, _, m => .ok (.bl b) m
  | .non, _, m => .ok .non m
  | .con k, _, m => .ok (T.con k) m
  | .bin op a b, r, m => (evE a r m).bind fun x m1 => (evE b r m1).bind fun y m2 => lift (binop op x y m2)
  | .neg a, r, m => (evE a r m).bind fun x m1 => lift (negv x m1)
  | .not a, r, m => (evE a r m).bind fun x m1 => onTru m1 x fun b => .ok (.bl (!b)) m1
  | .cmp op a b, r, m => (evE a r m).bind fun x m1 => (evE b r m1).bind fun y m2 => lift (cmpop op x y m2)
  | .chain o p a b c, r, m => (evE a r m).bind fun x m1 => (evE b r m1).bind fun y m2 => (lift (cmpop o x y m2)).bind fun z m3 => onTru m3 z fun b => if b = true then (evE c r m3).bind fun u m4 => lift (cmpop p y u m4) else .ok (.bl false) m3
  | .and a b, r, m => (evE a r m).bind fun x m1 => onTru m1 x fun k => if k = true then evE b r m1 else .ok x m1
  | .or a b, r, m => (evE a r m).bind fun x m1 => onTru m1 x fun k => if k = true then .ok x m1 else evE b r m1
  | .ife c a b, r, m => (evE c r m).bind fun x m1 => onTru m1 x fun k => if k = true then evE a r m1 else evE b r m1
  | .call f ix es, r, m => (evL es r m).bind fun vs m1 => cl f (ord ix vs) m1
  | .new c ix es, r, m => (evL es r m).bind fun vs m1 => newObj T cl c (ord ix vs) m1
  | .meth o mm ix es, r, m => (evE o r m).bind fun x m1 => onMeth T m1 x mm fun f => (evL es r m1).bind fun vs m2 => cl f (x :: ord ix vs) m2
  | .fld o f, r, m => (evE o r m).bind fun x m1 => lift (getF T x f m1)
  | .idx o i, r, m => (evE o r m).bind fun x m1 => (evE i r m1).bind fun y m2 => lift (subscr x y m2)
  | .slc o lo hi, r, m => (evE o r m).bind fun x m1 => (evL lo r m1).bind fun ls m2 => onPart ls fun a => (evL hi r m2).bind fun hs m3 => onPart hs fun b => lift (slice x a b m3)
  | .rev o, r, m => (evE o r m).bind fun x m1 => lift (revv x m1)
  | .lst es, r, m => (evL es r m).bind fun vs m1 => lift (mkLst vs m1)
  | .tup es, r, m => (evL es r m).bind fun vs m1 => lift (mkTup vs m1)
  | .lc elt i src cond, r, m => (evI src r m).bind fun w m1 => lcGo w m1.length (fun x m2 => match cond with
      | [] => .ok (.bl true) m2
      | [c] => evE c (r.set i (.val x)) m2
      | _ => .fail) (fun x m2 => evE elt (r.set i (.val x)) m2) w.items (m1 ++ [.lst []])
  | .blt b es, r, m => (evL es r m).bind fun vs m1 => lift (builtin b vs m1)
  | .bm o b es, r, m => (evE o r m).bind fun x m1 => onRecv m1 b x ((evL es r m1).bind fun vs m2 => lift (method b x vs m2))
  | .din neg e k, r, m => (evE e r m).bind fun x m1 => lift (dinv (T.dic k) neg x m1)
  | .dix k e, r, m => (evE e r m).bind fun x m1 => lift (dixv (T.dic k) x m1)
  | .isi e ts, r, m => (evE e r m).bind fun x m1 => lift (okb (tyAny T m1 x ts) m1)
  | .fstr es, r, m => evF es [] r m
  | .xfld i f, r, m => match r[i]? with
    | some (.exn c fs) => match T.exf c f with
      | some k => match fs[k]? with
        | some y => .ok y m
        | none => .fail
      | none => .fail
    | _ => .fail
  | .xisi i ts, r, m => match r[i]? with
    | some (.exn c _) => .ok (.bl (xTy T c ts)) m
    | _ => .fail
def evL : List CE → Env → Mem → R (List MV)
  | [], _, m => .ok [] m
  | e :: es, r, m => (evE e r m).bind fun v m1 => (evL es r m1).bind fun vs m2 => .ok (v :: vs) m2
def evF : List CE → Txt → Env → Mem → R MV
  | [], acc, _, m => .ok (.str acc) m
  | e :: es, acc, r, m => (evE e r m).bind fun v m1 => match ftxt v with
    | some y => if (acc ++ y).length ≤ line then evF es (acc ++ y) r m1 else .fail
    | none => .fail
def evI : CI → Env → Mem → R Walked
  | .of e, r, m => (evE e r m).bind fun v m1 => liftW (walkOf v m1) m1
  | .enum e, r, m => (evE e r m).bind fun v m1 => liftW (enumOf v m1) m1
  | .rng1 a, r, m => (evE a r m).bind fun x m1 => liftW (rng1 x) m1
  | .rng2 a b, r, m => (evE a r m).bind fun x m1 => (evE b r m1).bind fun y m2 => liftW (rng2 x y) m2
end
mutual
def evS : CS → Env → Mem → RS
  | .asg i e, r, m => (evE T cl e r m).st r fun v m1 => .nx (r.set i (.val v)) m1
  | .unp is e, r, m => (evE T cl e r m).st r fun v m1 => match (Tg.tup is).put v r with
    | some r' => .nx r' m1
    | none => .fail
  | .seti o i e, r, m => (evE T cl e r m).st r fun y m1 => (evE T cl o r m1).st r fun x m2 => (evE T cl i r m2).st r fun j m3 => match setI x j y m3 with
    | some m4 => .nx r m4
    | none => .fail
  | .setf o f e, r, m => (evE T cl e r m).st r fun y m1 => (evE T cl o r m1).st r fun x m2 => match setF T x f y m2 with
    | some m3 => .nx r m3
    | none => .fail
  | .aug i op e, r, m => match r[i]? with
    | some (.val x) => (evE T cl e r m).st r fun y m1 => match x, y with
      | .int a, .int b => match augop op a b with
        | some z => .nx (r.set i (.val (.int z))) m1
        | none => .fail
      | _, _ => .fail
    | _ => .fail
  | .augf o f op e, r, m => (evE T cl o r m).st r fun x m1 => match getF T x f m1 with
    | some (.int a, m2) => (evE T cl e r m2).st r fun y m3 => match y with
      | .int b => match op with
        | .Add => match setF T x f (.int (a + b)) m3 with
          | some m4 => .nx r m4
          | none => .fail
        | .Sub => match setF T x f (.int (a - b)) m3 with
          | some m4 => .nx r m4
          | none => .fail
        | _ => .fail
      | _ => .fail
    | _ => .fail
  | .expr e, r, m => (evE T cl e r m).st r fun _ m1 => .nx r m1
  | .ret e, r, m => (evE T cl e r m).st r fun v m1 => .rt v m1
  | .retn, _, m => .rt .non m
  | .pass, r, m => .nx r m
  | .bad, _, _ => .fail
  | .brk, r, m => .bk r m
  | .cont, r, m => .ct r m
  | .ifs c a b, r, m => (evE T cl c r m).st r fun v m1 => onTruS m1 v fun k => if k = true then evB a r m1 else evB b r m1
  | .whl c b, r, m => whileGo (evE T cl c) (evB b) W r m
  | .for_ i src b, r, m => match evI T cl src r m with
    | .ok w m1 => forGo w (fun x r' m' => match i.put x r' with | some r2 => evB b r2 m' | none => .fail) w.items r m1
    | .ex c fs m1 => .ex c fs r m1
    | .fail => .fail
  | .raise c es, r, m => match evL T cl es r m with
    | .ok vs m1 => if vs.length = T.fields c then (if vs.all shw then .ex c vs r m1 else .fail) else if T.fields c = 0 then .ex c [] r m1 else .fail
    | .ex d fs m1 => .ex d fs r m1
    | .fail => .fail
  | .try_ b hs, r, m => match evB b r m with
    | .ex c fs r1 m1 => evH hs c fs r1 m1
    | a => a
def evH : List (List Nat × Option Nat × List CS) → Nat → List MV → Env → Mem → RS
  | [], c, fs, r, m => .ex c fs r m
  | (ds, i, b) :: hs, c, fs, r, m => if T.ncls ≤ c ∧ c < T.ncls + T.nex then (if ds.any (T.sub c) then match evB b (putX r i (.exn c fs)) m with
      | .nx r' m' => if (putX r' i .no).all Sl.free then .nx (putX r' i .no) m' else .fail
      | .bk r' m' => if (putX r' i .no).all Sl.free then .bk (putX r' i .no) m' else .fail
      | .ct r' m' => if (putX r' i .no).all Sl.free then .ct (putX r' i .no) m' else .fail
      | .rt v m' => .rt v m'
      | _ => .fail
    else evH hs c fs r m) else .fail
def evB : List CS → Env → Mem → RS
  | [], r, m => .nx r m
  | s :: ss, r, m => match evS s r m with
    | .nx r' m' => evB ss r' m'
    | a => a
end
end

/-! ### calls: what a call leaves behind is cleared where nothing told hangs on it -/
def gcV (m0 : Mem) (v : MV) (m : Mem) : R MV :=
  if okOld m0.length m0 m then
    if v.low m0.length then .ok v (m.take m0.length)
    else match v with
      | .ref k => match m[k]? with
        | some o => if o.low m0.length then .ok (.ref m0.length) (m.take m0.length ++ [o]) else .ok v m
        | none => .fail
      | _ => .ok v m
  else .ok v m
def gcX (m0 : Mem) (c : Nat) (fs : List MV) (m : Mem) : R MV :=
  if okOld m0.length m0 m && MV.lows m0.length fs then .ex c fs (m.take m0.length) else .ex c fs m
def RS.out (m0 : Mem) : RS → R MV
  | .nx _ m => gcV m0 .non m
  | .rt v m => gcV m0 v m
  | .ex c fs _ m => gcX m0 c fs m
  | _ => .fail
def entry (fd : FD) (vs : List MV) : Env := vs.map .val ++ List.replicate (fd.ns - vs.length) .no
def pad (fd : FD) (vs : List MV) : List MV := vs ++ fd.dfl.drop (fd.dfl.length - (fd.np - vs.length))
def run (T : Tab) (W : Nat) (defs : Nat → Option FD) : Nat → CallF
  | 0, _, _, _ => .fail
  | n + 1, f, vs, m => match defs f with
    | some fd => if (pad fd vs).length = fd.np then (evB T W (run T W defs n) fd.body (entry fd (pad fd vs)) m).out m else .fail
    | none => .fail
end U
end Part_U1

section Part_U2
set_option Elab.async false
set_option linter.all false
set_option maxRecDepth 100000
set_option maxHeartbeats 4000000
/-! U2: how values and memory stand in the layer's heap; what an evaluation promises of it. -/
namespace U
open PySem PySem.Spec PyProof.Rows L2

structure Dat where
  K : PySem.W.Frag
  ca : Nat → Addr
  fn : Nat → List Str
  xf : Nat → Str
  T : Tab
  inj : ∀ c d, T.frozen c = true → ca c = ca d → c = d

mutual
inductive RV (D : Dat) (i : List Addr) (H : Hp) : V → MV → Prop
  | non : RV D i H .non .non
  | bl (b : Bool) : RV D i H (.bl b) (.bl b)
  | int (n : Int) : RV D i H (.int n) (.int n)
  | str (x : Txt) : RV D i H (.str ⟨x.toArray⟩) (.str x)
  | tup {a : Addr} {vs : List V} {xs : List MV} : SqT D.K H a vs → RVs D i H vs xs → RV D i H (.ref a) (.tup xs)
  | obj {a dx : Addr} {fs : List (Str × V)} {c : Nat} {xs : List MV} : H a = some (.ins (D.ca c) dx fs) → D.T.frozen c = true → fs.map (·.1) = D.fn c → RVs D i H (fs.map (·.2)) xs → RV D i H (.ref a) (.obj c xs)
  | ref {a : Addr} {n : Nat} : i[n]? = some a → RV D i H (.ref a) (.ref n)
inductive RVs (D : Dat) (i : List Addr) (H : Hp) : List V → List MV → Prop
  | nil : RVs D i H [] []
  | cons {v : V} {x : MV} {vs : List V} {xs : List MV} : RV D i H v x → RVs D i H vs xs → RVs D i H (v :: vs) (x :: xs)
end
section
variable {D : Dat} {i i' i'' : List Addr} {H H' H'' : Hp}
theorem RVs.length : ∀ {vs : List V} {xs : List MV}, RVs D i H vs xs → vs.length = xs.length
  | _, _, .nil => rfl
  | _, _, .cons _ t => by rw [List.length_cons, List.length_cons, RVs.length t]
theorem RVs.append : ∀ {vs ws : List V} {xs ys : List MV}, RVs D i H vs xs → RVs D i H ws ys → RVs D i H (vs ++ ws) (xs ++ ys)
  | _, _, _, _, .nil, h => h
  | _, _, _, _, .cons r t, h => .cons r (RVs.append t h)
theorem RVs.take : ∀ {vs : List V} {xs : List MV} (n : Nat), RVs D i H vs xs → RVs D i H (vs.take n) (xs.take n)
  | _, _, 0, _ => .nil
  | _, _, _ + 1, .nil => .nil
  | _, _, n + 1, .cons r t => .cons r (RVs.take n t)
theorem RVs.drop : ∀ {vs : List V} {xs : List MV} (n : Nat), RVs D i H vs xs → RVs D i H (vs.drop n) (xs.drop n)
  | _, _, 0, h => h
  | _, _, _ + 1, .nil => .nil
  | _, _, n + 1, .cons r t => RVs.drop n t
theorem RVs.get : ∀ {vs : List V} {xs : List MV} {n : Nat} {x : MV}, RVs D i H vs xs → xs[n]? = some x → ∃ v, vs[n]? = some v ∧ RV D i H v x
  | _, _, _, _, .nil, e => by simp at e
  | _, _, 0, _, .cons r _, e => by simp at e; subst e; exact ⟨_, rfl, r⟩
  | _, _, n + 1, x, .cons _ t, e => by
    obtain ⟨v, h1, h2⟩ := RVs.get (n := n) (x := x) t (by simpa using e)
    exact ⟨v, by simpa using h1, h2⟩
theorem RVs.reverse : ∀ {vs : List V} {xs : List MV}, RVs D i H vs xs → RVs D i H vs.reverse xs.reverse
  | _, _, .nil => .nil
  | _, _, .cons r t => by
    rw [List.reverse_cons, List.reverse_cons]
    exact (RVs.reverse t).append (.cons r .nil)
theorem RVs.rep {vs : List V} {xs : List MV} (r : RVs D i H vs xs) : ∀ n : Nat, RVs D i H (List.replicate n vs).flatten (List.replicate n xs).flatten
  | 0 => .nil
  | n + 1 => by
    rw [List.replicate_succ, List.replicate_succ, List.flatten_cons, List.flatten_cons]
    exact r.append (RVs.rep r n)
theorem RVs.set {v : V} {x : MV} (r : RV D i H v x) : ∀ {vs : List V} {xs : List MV} (n : Nat), RVs D i H vs xs → RVs D i H (vs.set n v) (xs.set n x)
  | _, _, _, .nil => .nil
  | _, _, 0, .cons _ t => .cons r t
  | _, _, n + 1, .cons q t => .cons q (RVs.set r n t)
theorem RVs.one {v : V} {x : MV} (r : RV D i H v x) : RVs D i H [v] [x] := .cons r .nil

/-- what never changes -/
def Sol (D : Dat) : HO → Prop
  | .tup _ => True
  | .frz _ _ => True
  | .xd _ => True
  | .ins C _ fs => ∃ c, C = D.ca c ∧ D.T.frozen c = true ∧ fs.map (·.1) = D.fn c
  | _ => False
/-- the heap has gone on: the numbers stay, what was told stays told -/
structure Ext (D : Dat) (i : List Addr) (H : Hp) (i' : List Addr) (H' : Hp) : Prop where
  pre : ∀ (n : Nat) (a : Addr), i[n]? = some a → i'[n]? = some a
  sol : ∀ (a : Addr) (o : HO), H a = some o → Sol D o → H' a = some o
theorem Ext.refl : Ext D i H i H := ⟨fun _ _ h => h, fun _ _ h _ => h⟩
theorem Ext.trans (a : Ext D i H i' H') (b : Ext D i' H' i'' H'') : Ext D i H i'' H'' := ⟨fun n x h => b.pre n x (a.pre n x h), fun x o h s => b.sol x o (a.sol x o h s) s⟩
theorem SqT.ext {K : PySem.W.Frag} {a : Addr} {xs : List V} (e : Ext D i H i' H') (h : SqT K H a xs) : SqT K H' a xs := by
  rcases h with (h | ⟨o, h⟩) | h
  · exact .inl (.inl (e.sol _ _ h trivial))
  · exact .inl (.inr ⟨o, e.sol _ _ h trivial⟩)
  · exact .inr h
mutual
theorem RV.ext (e : Ext D i H i' H') : ∀ {v : V} {x : MV}, RV D i H v x → RV D i' H' v x
  | _, _, .non => .non
  | _, _, .bl b => .bl b
  | _, _, .int n => .int n
  | _, _, .str x => .str x
  | _, _, .tup h r => .tup (SqT.ext e h) (RVs.ext e r)
  | _, _, .obj h f g r => .obj (e.sol _ _ h ⟨_, rfl, f, g⟩) f g (RVs.ext e r)
  | _, _, .ref h => .ref (e.pre _ _ h)
theorem RVs.ext (e : Ext D i H i' H') : ∀ {vs : List V} {xs : List MV}, RVs D i H vs xs → RVs D i' H' vs xs
  | _, _, .nil => .nil
  | _, _, .cons r t => .cons (RV.ext e r) (RVs.ext e t)
end
/-- a key -/
def RKey : Key → MV → Prop
  | .inl n, v => v = .int n
  | .inr s, v => v = .str s.cps.toList
inductive RKvs (D : Dat) (i : List Addr) (H : Hp) : List (Key × V) → List (MV × MV) → Prop
  | nil : RKvs D i H [] []
  | cons {k : Key} {v : V} {x y : MV} {ks : List (Key × V)} {kvs : List (MV × MV)} : RKey k x → RV D i H v y → RKvs D i H ks kvs → RKvs D i H ((k, v) :: ks) ((x, y) :: kvs)
theorem RKvs.ext (e : Ext D i H i' H') : ∀ {ks : List (Key × V)} {kvs : List (MV × MV)}, RKvs D i H ks kvs → RKvs D i' H' ks kvs
  | _, _, .nil => .nil
  | _, _, .cons k r t => .cons k (RV.ext e r) (RKvs.ext e t)
/-- a list that is never written -/
def SqF (K : PySem.W.Frag) (H : Hp) (a : Addr) (vs : List V) : Prop := (∃ o, H a = some (.frz o (.lst vs))) ∨ ∃ (o : Obj) (its : Array Value) (n : Nat), K.lookup a = some o ∧ o.cls = .type "list" ∧ o.dict = none ∧ o.data = .seq its n ∧ its.size ≤ sizeLine ∧ Vals vs its.toList
theorem SqF.sq {K : PySem.W.Frag} {H : Hp} {a : Addr} {vs : List V} (h : SqF K H a vs) : SqL K H a vs := by
  rcases h with ⟨o, h⟩ | h
  · exact .inl (.inr ⟨o, h⟩)
  · exact .inr h
theorem SqF.ext {K : PySem.W.Frag} {a : Addr} {vs : List V} (e : Ext D i H i' H') (h : SqF K H a vs) : SqF K H' a vs := by
  rcases h with ⟨o, h⟩ | h
  · exact .inl ⟨o, e.sol _ _ h trivial⟩
  · exact .inr h
/-- what stands at a number -/
def RO (D : Dat) (i : List Addr) (H : Hp) (a : Addr) : MO → Prop
  | .lst xs => ∃ vs, H a = some (.lst vs) ∧ RVs D i H vs xs
  | .frz xs => ∃ vs, SqF D.K H a vs ∧ RVs D i H vs xs
  | .dct kvs => ∃ ks, H a = some (.dK ks) ∧ RKvs D i H ks kvs
  | .ins c fs => ∃ dx hs, H a = some (.ins (D.ca c) dx hs) ∧ hs.map (·.1) = (D.fn c).take fs.length ∧ RVs D i H (hs.map (·.2)) fs ∧ fs.length ≤ (D.fn c).length
  | .dead => True
def live : MO → Bool
  | .lst _ => true
  | .dct _ => true
  | .ins _ _ => true
  | _ => false
structure Sim (D : Dat) (i : List Addr) (m : Mem) (H : Hp) : Prop where
  len : i.length = m.length
  at_ : ∀ (n : Nat) (a : Addr) (o : MO), i[n]? = some a → m[n]? = some o → RO D i H a o
  nd : ∀ (n k : Nat) (a : Addr) (o u : MO), i[n]? = some a → i[k]? = some a → m[n]? = some o → m[k]? = some u → live o = true → live u = true → n = k
theorem RO.live_at {a : Addr} {o : MO} (r : RO D i H a o) (l : live o = true) : ∃ u, H a = some u ∧ ∀ f v, u ≠ .frz f v := by
  cases o with
  | lst xs => obtain ⟨vs, h, _⟩ := r; exact ⟨_, h, fun _ _ z => nomatch z⟩
  | dct kvs => obtain ⟨vs, h, _⟩ := r; exact ⟨_, h, fun _ _ z => nomatch z⟩
  | ins c fs => obtain ⟨dx, hs, h, _⟩ := r; exact ⟨_, h, fun _ _ z => nomatch z⟩
  | _ => cases l
/-- an object that is not written stays described -/
theorem RO.ext {a : Addr} {o : MO} (e : Ext D i H i' H') (k : live o = true → ∀ u, H a = some u → H' a = some u) (r : RO D i H a o) : RO D i' H' a o := by
  cases o with
  | lst xs => obtain ⟨vs, h, q⟩ := r; exact ⟨vs, k rfl _ h, q.ext e⟩
  | frz xs => obtain ⟨vs, h, q⟩ := r; exact ⟨vs, h.ext e, q.ext e⟩
  | dct kvs => obtain ⟨vs, h, q⟩ := r; exact ⟨vs, k rfl _ h, q.ext e⟩
  | ins c fs => obtain ⟨dx, hs, h, q1, q2, q3⟩ := r; exact ⟨dx, hs, k rfl _ h, q1, q2.ext e, q3⟩
  | dead => trivial
end

/-! ### a new thing in the heap -/
section
variable {D : Dat} {i : List Addr} {m : Mem} {H : Hp} {p : Addr} {o : HO}
theorem Ext.fresh (h : H p = none) (i : List Addr) : Ext D i H i (upd H p o) := ⟨fun _ _ h => h, fun a u e _ => by rw [upd_ne (ne_of_none e h)]; exact e⟩
/-- the heap has gone on, the memory's things stand as they stood -/
theorem Sim.ext {H' : Hp} (S : Sim D i m H) (e : Ext D i H i H') (k : ∀ (a : Addr) (u : HO), H a = some u → H' a = some u) : Sim D i m H' :=
  ⟨S.len, fun n a u e1 e2 => (S.at_ n a u e1 e2).ext e (fun _ v z => k a v z), S.nd⟩
/-- a thing beside the memory: a tuple, say -/
theorem Sim.beside (S : Sim D i m H) (h : H p = none) : Sim D i m (upd H p o) := S.ext (Ext.fresh h i) fun a u e => by rw [upd_ne (ne_of_none e h)]; exact e
theorem getE_push {α : Type} {l : List α} {x : α} {n : Nat} {y : α} (h : (l ++ [x])[n]? = some y) : l[n]? = some y ∨ (n = l.length ∧ y = x) := by
  by_cases q : n < l.length
  · rw [List.getElem?_append_left q] at h
    exact .inl h
  · rw [List.getElem?_append_right (by omega)] at h
    have e : n - l.length = 0 := by
      have := (List.getElem?_eq_some_iff.mp h).1
      simp at this
      omega
    rw [e] at h
    exact .inr ⟨by omega, by simpa using h.symm⟩
theorem getE_old {α : Type} {l : List α} {x : α} {n : Nat} {y : α} (h : l[n]? = some y) : (l ++ [x])[n]? = some y := by
  rw [List.getElem?_append_left (List.getElem?_eq_some_iff.mp h).1]
  exact h
theorem getE_new {α : Type} {l : List α} {x : α} : (l ++ [x])[l.length]? = some x := by simp
/-- a new thing of the memory -/
theorem Sim.alloc {H' : Hp} {u : MO} (S : Sim D i m H) (h : H p = none) (e : Ext D i H (i ++ [p]) H') (k : ∀ (a : Addr) (u : HO), H a = some u → H' a = some u) (r : RO D (i ++ [p]) H' p u) : Sim D (i ++ [p]) (m ++ [u]) H' := by
  refine ⟨by rw [List.length_append, List.length_append, S.len]; rfl, fun n a v e1 e2 => ?_, fun n k a v w e1 e2 e3 e4 l1 l2 => ?_⟩
  · rcases getE_push e1 with e1 | ⟨e1, e1'⟩
    · rcases getE_push e2 with e2 | ⟨e2, _⟩
      · exact (S.at_ n a v e1 e2).ext e fun _ u z => k a u z
      · have h1 := (List.getElem?_eq_some_iff.mp e1).1
        have h2 := S.len
        omega
    · rcases getE_push e2 with e2 | ⟨_, e2⟩
      · have h1 := (List.getElem?_eq_some_iff.mp e2).1
        have h2 := S.len
        omega
      · subst e1' e2
        exact r
  · have old : ∀ (n : Nat) (a : Addr) (v : MO), i[n]? = some a → m[n]? = some v → live v = true → a ≠ p := fun n a v e1 e2 l q => by
      obtain ⟨u, z, _⟩ := (S.at_ n a v e1 e2).live_at l
      rw [q, h] at z; cases z
    rcases getE_push e1 with e1 | ⟨e1, e1'⟩ <;> rcases getE_push e2 with e2 | ⟨e2, e2'⟩ <;> rcases getE_push e3 with e3 | ⟨e3, e3'⟩ <;> rcases getE_push e4 with e4 | ⟨e4, e4'⟩
    all_goals first
      | exact S.nd n k a v w e1 e2 e3 e4 l1 l2
      | (exfalso; have h1 := S.len; (try have h2 := (List.getElem?_eq_some_iff.mp e1).1); (try have h3 := (List.getElem?_eq_some_iff.mp e2).1); (try have h4 := (List.getElem?_eq_some_iff.mp e3).1); (try have h5 := (List.getElem?_eq_some_iff.mp e4).1); omega)
      | exact absurd e2' (old n a v e1 e3 l1)
      | exact absurd e1' (old k a w e2 e4 l2)
      | (rw [e1, e2])
theorem Ext.alloc (h : H p = none) : Ext D i H (i ++ [p]) (upd H p o) := ⟨fun _ _ e => getE_old e, (Ext.fresh h i).sol⟩
theorem Sim.lst {vs : List V} {xs : List MV} (S : Sim D i m H) (h : H p = none) (r : RVs D i H vs xs) : Sim D (i ++ [p]) (m ++ [.lst xs]) (upd H p (.lst vs)) :=
  S.alloc h (Ext.alloc h) (fun a u e => by rw [upd_ne (ne_of_none e h)]; exact e) ⟨vs, upd_same, r.ext (Ext.alloc h)⟩
/-- a live thing is written -/
theorem Sim.write {n : Nat} {a : Addr} {u0 u : MO} {H' : Hp} (S : Sim D i m H) (e1 : i[n]? = some a) (e2 : m[n]? = some u0) (l : live u0 = true) (e : Ext D i H i H') (k : ∀ (b : Addr) (v : HO), b ≠ a → H b = some v → H' b = some v) (r : RO D i H' a u) :
    Sim D i (m.set n u) H' := by
  have hn : n < m.length := (List.getElem?_eq_some_iff.mp e2).1
  refine ⟨by rw [List.length_set]; exact S.len, fun j b v z1 z2 => ?_, fun j k' b v w z1 z2 z3 z4 l1 l2 => ?_⟩
  · by_cases q : j = n
    · subst q
      rw [List.getElem?_set_self hn] at z2
      cases z2
      rw [e1] at z1
      cases z1
      exact r
    · rw [List.getElem?_set_ne (Ne.symm q)] at z2
      refine (S.at_ j b v z1 z2).ext e fun lv w z => k b w (fun ba => q ?_) z
      subst ba
      exact S.nd j n b v u0 z1 e1 z2 e2 lv l
  · have back : ∀ (j : Nat) (b : Addr) (v : MO), i[j]? = some b → (m.set n u)[j]? = some v → live v = true → ∃ v', m[j]? = some v' ∧ (live v' = true) := fun j b v z1 z2 lv => by
      by_cases q : j = n
      · subst q; exact ⟨u0, e2, l⟩
      · rw [List.getElem?_set_ne (Ne.symm q)] at z2
        exact ⟨v, z2, lv⟩
    obtain ⟨v', y1, y2⟩ := back j b v z1 z3 l1
    obtain ⟨w', y3, y4⟩ := back k' b w z2 z4 l2
    exact S.nd j k' b v' w' z1 z2 y1 y3 y2 y4
theorem Ext.write {a : Addr} {u : HO} (e : H a = some u) (s : ¬ Sol D u) : Ext D i H i (upd H a o) := ⟨fun _ _ z => z, fun b v z sv => by
  by_cases q : b = a
  · subst q; rw [e] at z; cases z; exact absurd sv s
  · rw [upd_ne q]; exact z⟩
/-- what is forgotten -/
theorem Sim.take (S : Sim D i m H) (n : Nat) : Sim D (i.take n) (m.take n) H → Sim D (i.take n) (m.take n) H := fun z => z
end

/-! ### the frame -/
def RX (D : Dat) (i : List Addr) (H : Hp) (c : Nat) (fs : List MV) (cls : Value) (d : Option Addr) : Prop :=
  cls = .ref (D.ca c) ∧ ((fs = [] ∧ d = none) ∨ ∃ dd y v, fs = [v] ∧ d = some dd ∧ H dd = some (.xd [(D.xf c, y)]) ∧ RV D i H y v)
/-- an exception that is pinned in a suite -/
def XPin (X : Cx) (a : Addr) (cls : Value) (d : Option Addr) : Prop := ∃ oe vs, (a, oe) ∈ X.pn ∧ Zc cls d oe ∧ oe.data = .fields vs
def RS1 (X : Cx) (D : Dat) (i : List Addr) (H : Hp) : Sl → Option V → Prop
  | .no, _ => True
  | .val v, o => ∃ x, o = some x ∧ RV D i H x v
  | .exn c fs, o => X.calm = false ∧ ∃ a cls d, o = some (.ref a) ∧ RX D i H c fs cls d ∧ XPin X a cls d
def RE (X : Cx) (D : Dat) (i : List Addr) (H : Hp) (r : Env) (σ : L2.St) : Prop := r.length = σ.length ∧ ∀ (k : Nat) (s : Sl), r[k]? = some s → ∃ o, σ[k]? = some o ∧ RS1 X D i H s o
section
variable {X : Cx} {D : Dat} {i i' : List Addr} {H H' : Hp} {r : Env} {σ : L2.St}
theorem RX.ext {c : Nat} {fs : List MV} {cls : Value} {d : Option Addr} (e : Ext D i H i' H') (h : RX D i H c fs cls d) : RX D i' H' c fs cls d := by
  obtain ⟨h1, h2 | ⟨dd, y, v, h2, h3, h4, h5⟩⟩ := h
  · exact ⟨h1, .inl h2⟩
  · exact ⟨h1, .inr ⟨dd, y, v, h2, h3, e.sol _ _ h4 trivial, h5.ext e⟩⟩
theorem RS1.ext {s : Sl} {o : Option V} (e : Ext D i H i' H') (h : RS1 X D i H s o) : RS1 X D i' H' s o := by
  cases s with
  | no => trivial
  | val v => obtain ⟨x, h1, h2⟩ := h; exact ⟨x, h1, h2.ext e⟩
  | exn c fs => obtain ⟨h0, a, cls, d, h1, h2, h3⟩ := h; exact ⟨h0, a, cls, d, h1, h2.ext e, h3⟩
theorem RE.ext (e : Ext D i H i' H') (h : RE X D i H r σ) : RE X D i' H' r σ := ⟨h.1, fun k s z => let ⟨o, h1, h2⟩ := h.2 k s z; ⟨o, h1, h2.ext e⟩⟩
theorem RE.set {k : Nat} {s : Sl} {o : Option V} (h : RE X D i H r σ) (q : RS1 X D i H s o) : RE X D i H (r.set k s) (σ.set k o) := by
  refine ⟨by rw [List.length_set, List.length_set]; exact h.1, fun j u z => ?_⟩
  by_cases e : j = k
  · subst e
    by_cases hl : j < r.length
    · rw [List.getElem?_set_self hl] at z
      cases z
      exact ⟨o, List.getElem?_set_self (by rw [← h.1]; exact hl), q⟩
    · rw [List.getElem?_eq_none (by rw [List.length_set]; omega)] at z
      cases z
  · rw [List.getElem?_set_ne (Ne.symm e)] at z ⊢
    exact h.2 j u z
end

/-- from one calm context to another -/
theorem RE.calm {X' : Cx} (hc : X.calm = true) (h : RE X D i H r σ) : RE X' D i H r σ := ⟨h.1, fun k s z => let ⟨o, h1, h2⟩ := h.2 k s z; ⟨o, h1, by
  cases s with
  | no => trivial
  | val v => exact h2
  | exn c fs => exact absurd (hc.symm.trans h2.1) (by decide)⟩⟩

/-! ### the bounds of the memory's numbers -/
mutual
theorem RV.inRange : ∀ {v : V} {x : MV}, RV D i H v x → x.low i.length = true
  | _, _, .non => rfl
  | _, _, .bl _ => rfl
  | _, _, .int _ => rfl
  | _, _, .str _ => rfl
  | _, _, .tup _ r => RVs.inRange r
  | _, _, .obj _ _ _ r => RVs.inRange r
  | _, _, .ref h => decide_eq_true (List.getElem?_eq_some_iff.mp h).1
theorem RVs.inRange : ∀ {vs : List V} {xs : List MV}, RVs D i H vs xs → MV.lows i.length xs = true
  | _, _, .nil => rfl
  | _, _, .cons r t => Bool.and_eq_true_iff.mpr ⟨RV.inRange r, RVs.inRange t⟩
end
mutual
theorem RV.slim {n : Nat} (hp : ∀ (k : Nat) (a : Addr), k < n → i[k]? = some a → i'[k]? = some a) : ∀ {v : V} {x : MV}, RV D i H v x → x.low n = true → RV D i' H v x
  | _, _, .non, _ => .non
  | _, _, .bl b, _ => .bl b
  | _, _, .int n, _ => .int n
  | _, _, .str x, _ => .str x
  | _, _, .tup h r, l => .tup h (RVs.slim hp r l)
  | _, _, .obj h f g r, l => .obj h f g (RVs.slim hp r l)
  | _, _, .ref h, l => .ref (hp _ _ (of_decide_eq_true l) h)
theorem RVs.slim {n : Nat} (hp : ∀ (k : Nat) (a : Addr), k < n → i[k]? = some a → i'[k]? = some a) : ∀ {vs : List V} {xs : List MV}, RVs D i H vs xs → MV.lows n xs = true → RVs D i' H vs xs
  | _, _, .nil, _ => .nil
  | _, _, .cons r t, l => .cons (RV.slim hp r (Bool.and_eq_true_iff.mp l).1) (RVs.slim hp t (Bool.and_eq_true_iff.mp l).2)
end
theorem RKvs.inRange : ∀ {ks : List (Key × V)} {kvs : List (MV × MV)}, RKvs D i H ks kvs → (kvs.all fun p => p.1.low i.length && p.2.low i.length) = true
  | _, _, .nil => rfl
  | _, _, .cons (k := k) hk r t => by
    rw [List.all_cons, RKvs.inRange t, r.inRange]
    cases k with
    | inl n => cases hk; rfl
    | inr s => cases hk; rfl
theorem RKvs.slim {n : Nat} (hp : ∀ (k : Nat) (a : Addr), k < n → i[k]? = some a → i'[k]? = some a) : ∀ {ks : List (Key × V)} {kvs : List (MV × MV)}, RKvs D i H ks kvs → (kvs.all fun p => p.1.low n && p.2.low n) = true → RKvs D i' H ks kvs
  | _, _, .nil, _ => .nil
  | _, _, .cons hk r t, l => by
    rw [List.all_cons, Bool.and_eq_true, Bool.and_eq_true] at l
    exact .cons hk (r.slim hp l.1.2) (RKvs.slim hp t l.2)
theorem RO.inRange {a : Addr} {o : MO} (r : RO D i H a o) : o.low i.length = true := by
  cases o with
  | lst xs => obtain ⟨vs, _, q⟩ := r; exact q.inRange
  | frz xs => obtain ⟨vs, _, q⟩ := r; exact q.inRange
  | dct kvs => obtain ⟨vs, _, q⟩ := r; exact q.inRange
  | ins c fs => obtain ⟨dx, hs, _, _, q, _⟩ := r; exact q.inRange
  | dead => rfl
theorem RO.slim {n : Nat} {a : Addr} {o : MO} (hp : ∀ (k : Nat) (a : Addr), k < n → i[k]? = some a → i'[k]? = some a) (r : RO D i H a o) (l : o.low n = true) : RO D i' H a o := by
  cases o with
  | lst xs => obtain ⟨vs, h, q⟩ := r; exact ⟨vs, h, q.slim hp l⟩
  | frz xs => obtain ⟨vs, h, q⟩ := r; exact ⟨vs, h, q.slim hp l⟩
  | dct kvs => obtain ⟨vs, h, q⟩ := r; exact ⟨vs, h, q.slim hp l⟩
  | ins c fs => obtain ⟨dx, hs, h, q1, q2, q3⟩ := r; exact ⟨dx, hs, h, q1, q2.slim hp l, q3⟩
  | dead => trivial
theorem take_pre {α : Type} {l : List α} {n : Nat} : ∀ (k : Nat) (a : α), k < n → l[k]? = some a → (l.take n)[k]? = some a := fun k a h e => by
  rw [List.getElem?_take_of_lt h]
  exact e
/-- what stands below n, where nothing of it tells of more -/
theorem Sim.slim {m : Mem} {n : Nat} (S : Sim D i m H) (l : ∀ (k : Nat) (o : MO), k < n → m[k]? = some o → o.low n = true) : Sim D (i.take n) (m.take n) H := by
  refine ⟨by rw [List.length_take, List.length_take, S.len], fun k a o e1 e2 => ?_, fun k j a o u e1 e2 e3 e4 l1 l2 => ?_⟩
  · have hk : k < n := by
      have h1 := (List.getElem?_eq_some_iff.mp e1).1
      rw [List.length_take] at h1
      omega
    rw [List.getElem?_take_of_lt hk] at e1 e2
    exact (S.at_ k a o e1 e2).slim take_pre (l k o hk e2)
  · have hk : k < n := by
      have h1 := (List.getElem?_eq_some_iff.mp e1).1
      rw [List.length_take] at h1
      omega
    have hj : j < n := by
      have h1 := (List.getElem?_eq_some_iff.mp e2).1
      rw [List.length_take] at h1
      omega
    rw [List.getElem?_take_of_lt hk] at e1 e3
    rw [List.getElem?_take_of_lt hj] at e2 e4
    exact S.nd k j a o u e1 e2 e3 e4 l1 l2
theorem okOld_at {n : Nat} : ∀ {m0 m : List MO}, okOld n m0 m = true → ∀ (k : Nat) (o : MO), k < m0.length → m[k]? = some o → m0[k]? = some o ∨ o.low n = true
  | [], _, _, k, _, hk, _ => by simp at hk
  | a :: as, [], h, k, o, hk, e => by simp at e
  | a :: as, b :: bs, h, 0, o, hk, e => by
    have h' := Bool.and_eq_true_iff.mp h
    simp at e
    subst e
    rcases Bool.or_eq_true_iff.mp h'.1 with z | z
    · exact .inl (by simpa using of_decide_eq_true z)
    · exact .inr z
  | a :: as, b :: bs, h, k + 1, o, hk, e => by
    have h' := Bool.and_eq_true_iff.mp h
    rw [List.getElem?_cons_succ] at e ⊢
    exact okOld_at h'.2 k o (by simpa using hk) e
/-- all that stood and tells of nothing new -/
theorem okOld_low {H0 : Hp} {i0 : List Addr} {m0 m : Mem} (S0 : Sim D i0 m0 H0) (h : okOld m0.length m0 m = true) : ∀ (k : Nat) (o : MO), k < m0.length → m[k]? = some o → o.low m0.length = true := fun k o hk e => by
  rcases okOld_at h k o hk e with z | z
  · have hk' : k < i0.length := by rw [S0.len]; exact hk
    have r := (S0.at_ k _ o (List.getElem?_eq_getElem hk') z).inRange
    rw [S0.len] at r
    exact r
  · exact z

/-! ### what an evaluation promises -/
section
variable {α β : Type}
/-- rel: how the answer is told -/
def Pst (D : Dat) (W : WX) (σ : L2.St) (rel : List Addr → Hp → β → α → Prop) (Q : β → Hp → Prop) (i : List Addr) (H : Hp) : R α → Prop
  | .ok v m' => ∀ i' H' x, Ext D i H i' H' → Sim D i' m' H' → rel i' H' x v → Q x H'
  | .ex c fs m' => ∀ i' H' cls d, Ext D i H i' H' → Sim D i' m' H' → RX D i' H' c fs cls d → W cls d σ H'
  | .fail => False
theorem Pst.ext {D : Dat} {W : WX} {σ : L2.St} {rel : List Addr → Hp → β → α → Prop} {Q : β → Hp → Prop} {i i' : List Addr} {H H' : Hp} {a : R α} (h : Pst D W σ rel Q i H a) (e : Ext D i H i' H') : Pst D W σ rel Q i' H' a := by
  cases a with
  | ok v m => exact fun i2 H2 x e2 S q => h i2 H2 x (e.trans e2) S q
  | ex c fs m => exact fun i2 H2 cls d e2 S q => h i2 H2 cls d (e.trans e2) S q
  | fail => exact h
/-- the reading of an evaluation -/
def tE (X : Cx) (D : Dat) (W : WX) (c : Env → M MV) : TE := fun σ H Q => ∃ i r m, Sim D i m H ∧ RE X D i H r σ ∧ Pst D W σ (RV D) Q i H (c r m)
def tL (X : Cx) (D : Dat) (W : WX) (c : Env → M (List MV)) : TA := fun σ H Q => ∃ i r m, Sim D i m H ∧ RE X D i H r σ ∧ Pst D W σ (RVs D) Q i H (c r m)
end
theorem PE.imp {X : Cx} {e : Expr} {t t' : TE} (h : PE X e t) (hi : ∀ σ H Q, t' σ H Q → t σ H Q) : PE X e t' := ⟨fun pins s σ H Q I q => h.run pins s σ H Q I (hi σ H Q q)⟩
theorem PA.imp {X : Cx} {e : List Expr} {t t' : TA} (h : PA X e t) (hi : ∀ σ H Q, t' σ H Q → t σ H Q) : PA X e t' := ⟨fun pos pins s σ H Q I q => h.run pos pins s σ H Q I (hi σ H Q q)⟩
theorem PT.imp {X : Cx} {e : Expr} {t t' : TT} (h : PT X e t) (hi : ∀ σ H Q, t' σ H Q → t σ H Q) : PT X e t' := ⟨fun pins s σ H Q I q => h.run pins s σ H Q I (hi σ H Q q)⟩
/-- an expression of the text is the expression c -/
def SE (X : Cx) (D : Dat) (e : Expr) (c : Env → M MV) : Prop := ∀ W, Takes X W → PE X e (tE X D W c)
def SL (X : Cx) (D : Dat) (es : List Expr) (c : Env → M (List MV)) : Prop := ∀ W, Takes X W → PA X es (tL X D W c)
/-- as a test -/
def tT (X : Cx) (D : Dat) (W : WX) (c : Env → M MV) : TT := fun σ H Q => ∃ i r m, Sim D i m H ∧ RE X D i H r σ ∧ Pst D W σ (fun (_ : List Addr) (_ : Hp) (b : Bool) (v : Bool) => b = v) Q i H ((c r m).bind fun x m1 => onTru m1 x fun b => .ok b m1)
def ST (X : Cx) (D : Dat) (e : Expr) (c : Env → M MV) : Prop := ∀ W, Takes X W → PT X e (tT X D W c)
section
variable {X : Cx} {D : Dat} {W : WX} {σ : L2.St} {H : Hp} {α β : Type} {rel : List Addr → Hp → β → α → Prop} {Q : β → Hp → Prop}
/-- one answer is at hand -/
def K1 (X : Cx) (D : Dat) (W : WX) (rel : List Addr → Hp → β → α → Prop) (k : MV → Env → M α) (x : V) (σ : L2.St) (H : Hp) (Q : β → Hp → Prop) : Prop :=
  ∃ i r m v, Sim D i m H ∧ RE X D i H r σ ∧ RV D i H x v ∧ Pst D W σ rel Q i H (k v r m)
def K2 (X : Cx) (D : Dat) (W : WX) (rel : List Addr → Hp → β → α → Prop) (k : MV → MV → Env → M α) (x y : V) (σ : L2.St) (H : Hp) (Q : β → Hp → Prop) : Prop :=
  ∃ i r m v u, Sim D i m H ∧ RE X D i H r σ ∧ RV D i H x v ∧ RV D i H y u ∧ Pst D W σ rel Q i H (k v u r m)
def K3 (X : Cx) (D : Dat) (W : WX) (rel : List Addr → Hp → β → α → Prop) (k : MV → MV → MV → Env → M α) (x y z : V) (σ : L2.St) (H : Hp) (Q : β → Hp → Prop) : Prop :=
  ∃ i r m v u w, Sim D i m H ∧ RE X D i H r σ ∧ RV D i H x v ∧ RV D i H y u ∧ RV D i H z w ∧ Pst D W σ rel Q i H (k v u w r m)
theorem bind1 {c : Env → M MV} {k : MV → Env → M α} {i : List Addr} {r : Env} {m : Mem} (S : Sim D i m H) (E : RE X D i H r σ) (h : Pst D W σ rel Q i H ((c r m).bind fun x m1 => k x r m1)) :
    tE X D W c σ H fun x H1 => K1 X D W rel k x σ H1 Q := by
  refine ⟨i, r, m, S, E, ?_⟩
  cases e : c r m with
  | ok v m1 =>
    rw [e] at h
    exact fun i' H' x e1 S1 q => ⟨i', r, m1, v, S1, E.ext e1, q, h.ext e1⟩
  | ex c fs m1 =>
    rw [e] at h
    exact h
  | fail =>
    rw [e] at h
    exact h
theorem bind2 {c : Env → M MV} {k : MV → MV → Env → M α} {x : V} (h : K1 X D W rel (fun v r m => (c r m).bind fun u m1 => k v u r m1) x σ H Q) : tE X D W c σ H fun y H1 => K2 X D W rel k x y σ H1 Q := by
  obtain ⟨i, r, m, v, S, E, q, h⟩ := h
  dsimp only at h
  refine ⟨i, r, m, S, E, ?_⟩
  cases e : c r m with
  | ok u m1 =>
    rw [e] at h
    exact fun i' H' y e1 S1 q1 => ⟨i', r, m1, v, u, S1, E.ext e1, q.ext e1, q1, h.ext e1⟩
  | ex c fs m1 => rw [e] at h; exact h
  | fail => rw [e] at h; exact h
theorem bind3 {c : Env → M MV} {k : MV → MV → MV → Env → M α} {x y : V} (h : K2 X D W rel (fun v u r m => (c r m).bind fun w m1 => k v u w r m1) x y σ H Q) : tE X D W c σ H fun z H1 => K3 X D W rel k x y z σ H1 Q := by
  obtain ⟨i, r, m, v, u, S, E, q, q', h⟩ := h
  dsimp only at h
  refine ⟨i, r, m, S, E, ?_⟩
  cases e : c r m with
  | ok w m1 =>
    rw [e] at h
    exact fun i' H' z e1 S1 q1 => ⟨i', r, m1, v, u, w, S1, E.ext e1, q.ext e1, q'.ext e1, q1, h.ext e1⟩
  | ex c fs m1 => rw [e] at h; exact h
  | fail => rw [e] at h; exact h
theorem Pst.mono {W : WX} {Q Q' : β → Hp → Prop} {i : List Addr} {a : R α} (h : Pst D W σ rel Q i H a) (f : ∀ x H', Q x H' → Q' x H') : Pst D W σ rel Q' i H a := by
  cases a with
  | ok v m => exact fun i' H' x e S q => f _ _ (h i' H' x e S q)
  | ex c fs m => exact h
  | fail => exact h
theorem TE_mono {c : Env → M MV} {Q Q' : VK} (h : tE X D W c σ H Q) (f : ∀ x H', Q x H' → Q' x H') : tE X D W c σ H Q' := by
  obtain ⟨i, r, m, S, E, h⟩ := h
  exact ⟨i, r, m, S, E, h.mono f⟩
theorem TL_mono {c : Env → M (List MV)} {Q Q' : List V → Hp → Prop} (h : tL X D W c σ H Q) (f : ∀ x H', Q x H' → Q' x H') : tL X D W c σ H Q' := by
  obtain ⟨i, r, m, S, E, h⟩ := h
  exact ⟨i, r, m, S, E, h.mono f⟩
theorem TT_mono {c : Env → M MV} {Q Q' : Bool → Hp → Prop} (h : tT X D W c σ H Q) (f : ∀ x H', Q x H' → Q' x H') : tT X D W c σ H Q' := by
  obtain ⟨i, r, m, S, E, h⟩ := h
  exact ⟨i, r, m, S, E, h.mono f⟩
/-- a value's operation: what comes, told in the layer's heap -/
def PO2 (D : Dat) (i : List Addr) (H : Hp) (Q : VK) : Option (MV × Mem) → Prop
  | some p => ∀ i' H' x, Ext D i H i' H' → Sim D i' p.2 H' → RV D i' H' x p.1 → Q x H'
  | none => False
theorem Pst.lift {Q : VK} {i : List Addr} {o : Option (MV × Mem)} (h : Pst D W σ (RV D) Q i H (U.lift o)) : PO2 D i H Q o := by
  cases o with
  | none => exact h
  | some p => exact h
theorem Pst.of_lift {Q : VK} {i : List Addr} {o : Option (MV × Mem)} (h : PO2 D i H Q o) : Pst D W σ (RV D) Q i H (U.lift o) := by
  cases o with
  | none => exact h
  | some p => exact h
/-- an operation on two values, as the layer's operators want it -/
def rOp (D : Dat) (f : MV → MV → Mem → Option (MV × Mem)) : R2 := fun x y H Q => ∃ i m v u, Sim D i m H ∧ RV D i H x v ∧ RV D i H y u ∧ PO2 D i H Q (f v u m)
end
end U
end Part_U2

section Part_U3
set_option Elab.async false
set_option linter.all false
set_option maxRecDepth 100000
set_option maxHeartbeats 4000000
/-! U3: the operators, comparisons, truth, subscripts of values, over the layer's rules. -/
namespace U
open PySem PySem.Spec PyProof.Rows L2
section
variable {X : Cx} {D : Dat} {i : List Addr} {m : Mem} {H : Hp} {Q : VK}
theorem PO2.here {v : MV} {x : V} (h : PO2 D i H Q (some (v, m))) (S : Sim D i m H) (r : RV D i H x v) : Q x H := h i H x Ext.refl S r
theorem PO2.lst {vs : List V} {xs : List MV} (h : PO2 D i H Q (some (.ref m.length, m ++ [.lst xs]))) (S : Sim D i m H) (r : RVs D i H vs xs) : ∀ p, H p = none → Q (.ref p) (upd H p (.lst vs)) := fun p hp => by
  refine h (i ++ [p]) _ _ (Ext.alloc hp) (S.lst hp r) (.ref ?_)
  show (i ++ [p])[m.length]? = some p
  rw [← S.len]
  exact getE_new
theorem PO2.tup {vs : List V} {xs : List MV} (h : PO2 D i H Q (some (.tup xs, m))) (S : Sim D i m H) (r : RVs D i H vs xs) : ∀ p, H p = none → Q (.ref p) (upd H p (.tup vs)) := fun p hp =>
  h i _ _ (Ext.fresh hp i) (S.beside hp) (.tup (SqT.of upd_same) (r.ext (Ext.fresh hp i)))
theorem len_str (x : Txt) : (⟨x.toArray⟩ : Str).length = x.length := by show x.toArray.size = _; simp
theorem app_str (x y : Txt) : (⟨x.toArray⟩ : Str) ++ ⟨y.toArray⟩ = ⟨(x ++ y).toArray⟩ := by
  show (⟨x.toArray ++ y.toArray⟩ : Str) = _
  simp
theorem line_eq : line = sizeLine := by rw [sizeLine_eq]; rfl
theorem Sim.lst_at {n : Nat} {a : Addr} {xs : List MV} (S : Sim D i m H) (h1 : i[n]? = some a) (h2 : m[n]? = some (.lst xs)) : ∃ vs, H a = some (.lst vs) ∧ RVs D i H vs xs := S.at_ n a _ h1 h2
theorem Sim.frz_at {n : Nat} {a : Addr} {xs : List MV} (S : Sim D i m H) (h1 : i[n]? = some a) (h2 : m[n]? = some (.frz xs)) : ∃ vs, SqF D.K H a vs ∧ RVs D i H vs xs := S.at_ n a _ h1 h2
end

theorem or_bin {X : Cx} {D : Dat} (hK : X.K = D.K) (op : Operator) : OpR X (binaryOp op) (rOp D (binop op)) := by
  rintro pins s σ H x y v u Q I rx ry ⟨i, m, a, b, S, ra, rb, h⟩
  cases op with
  | Add =>
    cases ra with
    | int n =>
      cases rb with
      | int k => exact op_add pins s σ H _ _ v u Q I rx ry ⟨n, k, rfl, rfl, h.here S (.int _)⟩
      | _ => exact h.elim
    | str z =>
      cases rb with
      | str k =>
        unfold binop at h
        dsimp only at h
        split at h
        · rename_i hz
          refine op_add_str pins s σ H _ _ v u Q I rx ry ⟨_, _, rfl, rfl, ?_, ?_⟩
          · rw [len_str, len_str, ← line_eq]; exact hz
          · rw [app_str]; exact h.here S (.str _)
        · exact h.elim
      | _ => exact h.elim
    | @tup a vs xs ha ra =>
      cases rb with
      | @tup b ws ys hb rb =>
        unfold binop at h
        dsimp only at h
        split at h
        · rename_i hz
          refine op_catA pins s σ H _ _ v u Q I rx ry ⟨a, b, vs, ws, rfl, rfl, by rw [hK]; exact ha, by rw [hK]; exact hb, by rw [ra.length, rb.length, ← line_eq]; exact hz, fun e => ?_, fun _ e => ?_, fun _ _ => ?_⟩
          · subst e
            cases ra
            exact h.here S (.tup hb rb)
          · subst e
            cases rb
            rw [List.append_nil] at h
            exact h.here S (.tup ha ra)
          · exact h.tup S (ra.append rb)
        · exact h.elim
      | _ => exact h.elim
    | @ref a n ha =>
      cases rb with
      | @ref b k hb =>
        unfold binop at h
        dsimp only at h
        split at h
        · rename_i xs ys e1 e2
          split at h
          · rename_i hz
            obtain ⟨vs, h1, r1⟩ := S.lst_at ha e1
            obtain ⟨ws, h2, r2⟩ := S.lst_at hb e2
            exact op_cat pins s σ H _ _ v u Q I rx ry ⟨a, b, vs, ws, rfl, rfl, h1, h2, by rw [r1.length, r2.length, ← line_eq]; exact hz, h.lst S (r1.append r2)⟩
          · exact h.elim
        · exact h.elim
      | _ => exact h.elim
    | _ => cases rb <;> exact h.elim
  | Sub =>
    cases ra with
    | int n =>
      cases rb with
      | int k => exact op_sub pins s σ H _ _ v u Q I rx ry ⟨n, k, rfl, rfl, h.here S (.int _)⟩
      | _ => exact h.elim
    | _ => cases rb <;> exact h.elim
  | Mult =>
    cases ra with
    | int n =>
      cases rb with
      | int k =>
        unfold binop at h
        dsimp only at h
        split at h
        · rename_i hz
          exact op_mulW pins s σ H _ _ v u Q I rx ry ⟨n, k, rfl, rfl, wide_mul hz.1 hz.2 (by omega) (by omega) (by omega), h.here S (.int _)⟩
        · exact h.elim
      | _ => exact h.elim
    | @tup a vs xs ha ra =>
      cases rb with
      | int k =>
        unfold binop at h
        dsimp only at h
        split at h
        · rename_i hz
          have hne : vs ≠ [] := fun e => by
            subst e
            cases ra
            cases hz.1
          refine op_mulT pins s σ H _ _ v u Q I rx ry ⟨a, k, vs, rfl, rfl, by rw [hK]; exact ha, hne, hz.2.1, hz.2.2.1, by rw [ra.length]; exact hz.2.2.2, fun e => ?_, fun _ => ?_⟩
          · subst e
            have e2 : (List.replicate (1 : Int).toNat xs).flatten = xs := by
              show (xs :: List.replicate 0 xs).flatten = xs
              rw [List.flatten_cons, List.replicate_zero, List.flatten_nil, List.append_nil]
            rw [e2] at h
            exact h.here S (.tup ha ra)
          · exact h.tup S (ra.rep k.toNat)
        · exact h.elim
      | _ => exact h.elim
    | _ => cases rb <;> exact h.elim
  | FloorDiv =>
    cases ra with
    | int n =>
      cases rb with
      | int k =>
        unfold binop at h
        dsimp only at h
        split at h
        · rename_i hz
          refine op_fdivW pins s σ H _ _ v u Q I rx ry ⟨n, k, rfl, rfl, wide_div (b := 300) hz.1 ?_ (by omega) (by omega), h.here S (.int _)⟩
          have h2 := hz.2
          omega
        · exact h.elim
      | _ => exact h.elim
    | _ => cases rb <;> exact h.elim
  | Mod =>
    cases ra with
    | int n =>
      cases rb with
      | int k =>
        unfold binop at h
        dsimp only at h
        split at h
        · rename_i hz
          exact op_mod pins s σ H _ _ v u Q I rx ry ⟨n, k, rfl, rfl, hz, h.here S (.int _)⟩
        · exact h.elim
      | _ => exact h.elim
    | _ => cases rb <;> exact h.elim
  | Pow =>
    cases ra with
    | int n =>
      cases rb with
      | int k =>
        unfold binop at h
        dsimp only at h
        split at h
        · rename_i hz
          exact op_pow pins s σ H _ _ v u Q I rx ry ⟨n, k, rfl, rfl, ⟨hz.1, by omega, hz.2.2⟩, h.here S (.int _)⟩
        · exact h.elim
      | _ => exact h.elim
    | _ => cases rb <;> exact h.elim
  | _ => cases ra <;> cases rb <;> exact h.elim

/-! ### data -/
section
variable {D : Dat} {i : List Addr} {m : Mem} {H : Hp}
theorem dps_of {k : Nat} (ih : ∀ (v : MV) (d : PyData) (x : V), MV.data m k v = some d → RV D i H x v → Dp D.K H x d) : ∀ {xs : List MV} {ds : List PyData} {vs : List V}, xs.mapM (MV.data m k) = some ds → RVs D i H vs xs → DpAll D.K H vs ds
  | [], ds, vs, e, r => by
    simp at e
    subst e
    cases r
    exact .nil
  | x :: xs, ds, vs, e, r => by
    rw [List.mapM_cons] at e
    cases r with
    | cons r1 r2 =>
      cases e1 : MV.data m k x with
      | none => rw [e1] at e; cases e
      | some d =>
        rw [e1] at e
        cases e2 : xs.mapM (MV.data m k) with
        | none => rw [e2] at e; cases e
        | some es =>
          rw [e2] at e
          cases e
          exact .cons (ih _ _ _ e1 r1) (dps_of ih e2 r2)
theorem dp_of (S : Sim D i m H) : ∀ (k : Nat) (v : MV) (d : PyData) (x : V), MV.data m k v = some d → RV D i H x v → Dp D.K H x d
  | 0, v, d, x, e, _ => by cases e
  | k + 1, v, d, x, e, r => by
    unfold MV.data at e
    cases r with
    | non => cases e; exact .non
    | bl b => cases e; exact .bl b
    | int n => cases e; exact .int n
    | str z => cases e; exact .str _
    | @tup a vs xs h r =>
      dsimp only at e
      cases e1 : xs.mapM (MV.data m k) with
      | none => rw [e1] at e; cases e
      | some ds =>
        rw [e1] at e
        cases e
        exact .tup h (dps_of (dp_of S k) e1 r)
    | obj => cases e
    | @ref a n h =>
      dsimp only at e
      cases e0 : m[n]? with
      | none => rw [e0] at e; cases e
      | some o =>
        rw [e0] at e
        cases o with
        | lst xs =>
          dsimp only at e
          cases e1 : xs.mapM (MV.data m k) with
          | none => rw [e1] at e; cases e
          | some ds =>
            rw [e1] at e
            cases e
            obtain ⟨vs, h1, r1⟩ := S.lst_at h e0
            exact .lst (SqL.of h1) (dps_of (dp_of S k) e1 r1)
        | frz xs =>
          dsimp only at e
          cases e1 : xs.mapM (MV.data m k) with
          | none => rw [e1] at e; cases e
          | some ds =>
            rw [e1] at e
            cases e
            obtain ⟨vs, h1, r1⟩ := S.frz_at h e0
            exact .lst h1.sq (dps_of (dp_of S k) e1 r1)
        | _ => cases e
theorem depths_of {m : Mem} {k : Nat} (ih : ∀ (v : MV) (d : PyData), MV.data m k v = some d → d.depth ≤ k) : ∀ {xs : List MV} {ds : List PyData}, xs.mapM (MV.data m k) = some ds → PyData.depthAll ds ≤ k
  | [], ds, e => by
    simp at e
    subst e
    exact Nat.zero_le _
  | x :: xs, ds, e => by
    rw [List.mapM_cons] at e
    cases e1 : MV.data m k x with
    | none => rw [e1] at e; cases e
    | some d =>
      rw [e1] at e
      cases e2 : xs.mapM (MV.data m k) with
      | none => rw [e2] at e; cases e
      | some es =>
        rw [e2] at e
        cases e
        show max d.depth (PyData.depthAll es) ≤ k
        exact Nat.max_le.mpr ⟨ih _ _ e1, depths_of ih e2⟩
theorem depth_of {m : Mem} : ∀ (k : Nat) (v : MV) (d : PyData), MV.data m k v = some d → d.depth ≤ k
  | 0, v, d, e => by cases e
  | k + 1, v, d, e => by
    unfold MV.data at e
    have tk : ∀ {xs : List MV} {f : List PyData → PyData}, (∀ ds, (f ds).depth = PyData.depthAll ds + 1) → (xs.mapM (MV.data m k)).map f = some d → d.depth ≤ k + 1 := fun {xs f} hf e => by
      cases e1 : xs.mapM (MV.data m k) with
      | none => rw [e1] at e; cases e
      | some ds =>
        rw [e1] at e
        cases e
        rw [hf]
        exact Nat.succ_le_succ (depths_of (depth_of k) e1)
    cases v with
    | non => cases e; exact Nat.zero_le _
    | bl b => cases e; exact Nat.zero_le _
    | int n => cases e; exact Nat.zero_le _
    | str z => cases e; exact Nat.zero_le _
    | tup xs => exact tk (f := .tuple) (fun _ => by simp [PyData.depth]) e
    | obj => cases e
    | ref n =>
      dsimp only at e
      split at e
      · exact tk (f := .list) (fun _ => by simp [PyData.depth]) e
      · exact tk (f := .list) (fun _ => by simp [PyData.depth]) e
      · cases e
theorem data_room {m : Mem} {v : MV} {d d' : PyData} {n : Nat} (e : MV.data m dataFuel v = some d) (hu : n + 1100 < cLine) : n + min d.depth d'.depth < cLine := by
  have h1 : d.depth ≤ 1000 := depth_of _ _ _ e
  have h2 : min d.depth d'.depth ≤ d.depth := Nat.min_le_left _ _
  omega
theorem str_inj {x y : Txt} : decide (V.str (⟨x.toArray⟩ : Str) = V.str ⟨y.toArray⟩) = decide (x = y) := by
  rw [Bool.eq_iff_iff]
  simp
theorem scal_of {a b : MV} {x y : V} (ra : RV D i H x a) (rb : RV D i H y b) (e : plainEq a b = true) : scal x y = true ∧ decide (x = y) = decide (a = b) := by
  cases ra <;> cases rb <;> first
    | exact absurd e Bool.false_ne_true
    | (refine ⟨rfl, ?_⟩; rw [Bool.eq_iff_iff]; simp)
theorem flat_of {a : MV} {x : V} (ra : RV D i H x a) (e : flat a = true) : flatV x = true := by
  cases ra <;> first
    | exact absurd e Bool.false_ne_true
    | rfl
theorem flats_of : ∀ {xs : List MV} {vs : List V}, RVs D i H vs xs → xs.all flat = true → vs.all flatV = true
  | _, _, .nil, _ => rfl
  | _, _, .cons r t, e => by
    rw [List.all_cons, Bool.and_eq_true] at e
    rw [List.all_cons, flat_of r e.1, flats_of t e.2]
    rfl
theorem eqV_of {a b : MV} {x y : V} (ra : RV D i H x a) (rb : RV D i H y b) (e : flat a = true) (f : flat b = true) : eqV x y = flatEq a b := by
  cases ra <;> cases rb <;> first
    | exact absurd e Bool.false_ne_true
    | exact absurd f Bool.false_ne_true
    | rfl
    | (unfold eqV flatEq; rw [Bool.eq_iff_iff]; simp; done)
    | (unfold eqV flatEq; simp; done)
    | (unfold eqV flatEq; rw [Bool.eq_iff_iff]; done)
theorem inV_of {a : MV} {x : V} (ra : RV D i H x a) (e : flat a = true) : ∀ {xs : List MV} {vs : List V}, RVs D i H vs xs → xs.all flat = true → inV x vs = xs.any fun y => flatEq y a
  | _, _, .nil, _ => rfl
  | _, _, .cons r t, f => by
    rw [List.all_cons, Bool.and_eq_true] at f
    unfold inV
    rw [List.any_cons, List.any_cons, eqV_of r ra f.1 e]
    exact congrArg _ (inV_of ra e t f.2)
end
section
variable {X : Cx} {D : Dat} {pins : List (Addr × Obj)} {s : Shared} {σ : L2.St} {H : Hp} {x y : V} {v u : Value} {Q : VK} {i : List Addr} {m : Mem} {a b : MV}
theorem okb_some {o : Option Bool} {Q : VK} (h : PO2 D i H Q (okb o m)) : ∃ k, o = some k ∧ PO2 D i H Q (some (.bl k, m)) := by
  cases o with
  | none => exact h.elim
  | some k => exact ⟨k, rfl, h⟩
theorem mem_seq {xs : List MV} {vs : List V} {p : Addr} {k : Bool} (S : Sim D i m H) (ra : RV D i H x a) (hq : SqL D.K H p vs ∨ SqT D.K H p vs) (r : RVs D i H vs xs) (e : inSeq a xs = some k) : rIn D.K false x (.ref p) H (fun z H' => z = .bl k ∧ H' = H) ∧ rIn D.K true x (.ref p) H (fun z H' => z = .bl (!k) ∧ H' = H) := by
  unfold inSeq at e
  split at e
  · rename_i hf
    rw [Bool.and_eq_true] at hf
    cases e
    have e1 := inV_of ra hf.1 r hf.2
    exact ⟨⟨p, vs, rfl, hq, flat_of ra hf.1, flats_of r hf.2, by simp [e1], rfl⟩, ⟨p, vs, rfl, hq, flat_of ra hf.1, flats_of r hf.2, by simp [e1], rfl⟩⟩
  · cases e
end
theorem rIn.imp {K : PySem.W.Frag} {neg : Bool} {x y : V} {H : Hp} {Q Q' : VK} (h : rIn K neg x y H Q) (f : ∀ z, Q z H → Q' z H) : rIn K neg x y H Q' := by
  obtain ⟨p, xs, h1, h2, h3, h4, h5⟩ := h
  exact ⟨p, xs, h1, h2, h3, h4, f _ h5⟩
theorem or_cmp {X : Cx} {D : Dat} (hK : X.K = D.K) (hu : X.A.units + 1100 < cLine) (op : CmpOp) : OpR X (compareOp op) (rOp D (cmpop op)) := by
  rintro pins s σ H x y v u Q I rx ry ⟨i, m, a, b, S, ra, rb, h⟩
  cases op with
  | Eq =>
    obtain ⟨k, e, h⟩ := okb_some h
    unfold peq at e
    split at e
    · rename_i hp
      cases e
      obtain ⟨e1, e2⟩ := scal_of ra rb hp
      exact op_eq pins s σ H x y v u Q I rx ry ⟨e1, by rw [e2]; exact h.here S (.bl _)⟩
    · split at e
      · rename_i d d' h1 h2
        split at e
        · rename_i hs
          rw [Bool.and_eq_true] at hs
          cases e
          obtain ⟨as, r1⟩ := Dp.reads I d x v (by rw [hK]; exact dp_of S _ _ _ _ h1 ra) rx
          obtain ⟨bs, r2⟩ := Dp.reads I d' y u (by rw [hK]; exact dp_of S _ _ _ _ h2 rb) ry
          exact SeqAt.compareEq_reads r1 r2 hs.1 hs.2 (data_room h1 hu) ⟨.bl _, H, I, rfl, h.here S (.bl _)⟩
        · cases e
      · cases e
  | NotEq =>
    obtain ⟨k, e, h⟩ := okb_some h
    cases e0 : peq m a b with
    | none => rw [e0] at e; cases e
    | some k' =>
    rw [e0] at e
    cases e
    have e := e0
    unfold peq at e
    split at e
    · rename_i hp
      cases e
      obtain ⟨e1, e2⟩ := scal_of ra rb hp
      exact op_ne pins s σ H x y v u Q I rx ry ⟨e1, by rw [e2]; exact h.here S (.bl _)⟩
    · split at e
      · rename_i d d' h1 h2
        split at e
        · rename_i hs
          rw [Bool.and_eq_true] at hs
          cases e
          obtain ⟨as, r1⟩ := Dp.reads I d x v (by rw [hK]; exact dp_of S _ _ _ _ h1 ra) rx
          obtain ⟨bs, r2⟩ := Dp.reads I d' y u (by rw [hK]; exact dp_of S _ _ _ _ h2 rb) ry
          exact SeqAt.compareNe_reads r1 r2 hs.1 hs.2 (data_room h1 hu) ⟨.bl _, H, I, rfl, h.here S (.bl _)⟩
        · cases e
      · cases e
  | Lt =>
    cases ra <;> cases rb <;> first
      | exact op_lt pins s σ H _ _ v u Q I rx ry ⟨_, _, rfl, rfl, h.here S (.bl _)⟩
      | exact h.elim
  | LtE =>
    cases ra <;> cases rb <;> first
      | exact op_le pins s σ H _ _ v u Q I rx ry ⟨_, _, rfl, rfl, h.here S (.bl _)⟩
      | exact h.elim
  | Gt =>
    cases ra <;> cases rb <;> first
      | exact op_gt pins s σ H _ _ v u Q I rx ry ⟨_, _, rfl, rfl, h.here S (.bl _)⟩
      | exact h.elim
  | GtE =>
    cases ra <;> cases rb <;> first
      | exact op_ge pins s σ H _ _ v u Q I rx ry ⟨_, _, rfl, rfl, h.here S (.bl _)⟩
      | exact h.elim
  | In =>
    obtain ⟨k, e, h⟩ := okb_some h
    have seq : ∀ {p : Addr} {vs : List V} {xs : List MV}, y = .ref p → (SqL D.K H p vs ∨ SqT D.K H p vs) → RVs D i H vs xs → inSeq a xs = some k → wpAny (model X.prog X.w) X.A (compareOp .In v u) (EP X pins σ Q) X.xe s := fun {p vs xs} ey hq r e => by
      subst ey
      exact op_in_seq pins s σ H x _ v u Q I rx ry (by rw [hK]; exact rIn.imp (mem_seq S ra hq r e).1 fun z hz => by rw [hz.1]; exact h.here S (.bl _))
    cases rb with
    | str y =>
      cases ra with
      | str z =>
        cases e
        exact op_in_str pins s σ H _ _ v u Q I rx ry ⟨_, _, rfl, rfl, h.here S (.bl _)⟩
      | _ => cases e
    | tup h1 r1 => exact seq rfl (.inr h1) r1 e
    | @ref p n h0 =>
      unfold memb at e
      dsimp only at e
      split at e
      · rename_i xs e0
        obtain ⟨vs, h1, r1⟩ := S.lst_at h0 e0
        exact seq rfl (.inl (SqL.of h1)) r1 e
      · rename_i xs e0
        obtain ⟨vs, h1, r1⟩ := S.frz_at h0 e0
        exact seq rfl (.inl h1.sq) r1 e
      · cases e
    | _ => cases e
  | NotIn =>
    obtain ⟨k, e, h⟩ := okb_some h
    cases e0 : memb m a b with
    | none => rw [e0] at e; cases e
    | some k' =>
    rw [e0] at e
    cases e
    have e := e0
    have seq : ∀ {p : Addr} {vs : List V} {xs : List MV}, y = .ref p → (SqL D.K H p vs ∨ SqT D.K H p vs) → RVs D i H vs xs → inSeq a xs = some k' → wpAny (model X.prog X.w) X.A (compareOp .NotIn v u) (EP X pins σ Q) X.xe s := fun {p vs xs} ey hq r e => by
      subst ey
      exact op_notIn_seq pins s σ H x _ v u Q I rx ry (by rw [hK]; exact rIn.imp (mem_seq S ra hq r e).2 fun z hz => by rw [hz.1]; exact h.here S (.bl _))
    cases rb with
    | str y =>
      cases ra with
      | str z =>
        cases e
        exact op_notin_str pins s σ H _ _ v u Q I rx ry ⟨_, _, rfl, rfl, h.here S (.bl _)⟩
      | _ => cases e
    | tup h1 r1 => exact seq rfl (.inr h1) r1 e
    | @ref p n h0 =>
      unfold memb at e
      dsimp only at e
      split at e
      · rename_i xs e0
        obtain ⟨vs, h1, r1⟩ := S.lst_at h0 e0
        exact seq rfl (.inl (SqL.of h1)) r1 e
      · rename_i xs e0
        obtain ⟨vs, h1, r1⟩ := S.frz_at h0 e0
        exact seq rfl (.inl h1.sq) r1 e
      · cases e
    | _ => cases e
  | Is =>
    obtain ⟨k, e, h⟩ := okb_some h
    cases rb with
    | non =>
      cases e
      refine op_isN pins s σ H _ _ v u Q I rx ry ⟨rfl, ?_⟩
      have e2 : decide (x = V.non) = decide (a = MV.non) := by cases ra <;> rfl
      rw [e2]
      exact h.here S (.bl _)
    | bl c =>
      cases ra with
      | bl d =>
        cases e
        exact op_isBl pins s σ H _ _ v u Q I rx ry ⟨_, _, rfl, rfl, h.here S (.bl _)⟩
      | _ => cases e
    | @ref q j hj =>
      cases ra with
      | @ref p n hn =>
        unfold isSame at e
        dsimp only at e
        have fin : ∀ {o w : MO}, m[n]? = some o → m[j]? = some w → live o = true → live w = true → decide (p = q) = decide (n = j) := fun {o w} e1 e2 l1 l2 => by
          rw [Bool.eq_iff_iff]
          simp only [decide_eq_true_eq]
          refine ⟨fun z => ?_, fun z => ?_⟩
          · subst z
            exact S.nd n j p o w hn hj e1 e2 l1 l2
          · subst z
            rw [hn] at hj
            exact Option.some.inj hj
        split at e
        · rename_i o1 o2 e1 e2
          cases e
          obtain ⟨vs, h1, _⟩ := S.lst_at hn e1
          obtain ⟨ws, h2, _⟩ := S.lst_at hj e2
          exact op_is_ref pins s σ H _ _ v u Q I rx ry ⟨p, q, _, _, rfl, rfl, h1, rfl, h2, rfl, by rw [fin e1 e2 rfl rfl]; exact h.here S (.bl _)⟩
        · rename_i o1 o2 e1 e2
          cases e
          obtain ⟨_, _, h1, _⟩ := S.at_ _ _ _ hn e1
          obtain ⟨_, _, h2, _⟩ := S.at_ _ _ _ hj e2
          exact op_is_ref pins s σ H _ _ v u Q I rx ry ⟨p, q, _, _, rfl, rfl, h1, rfl, h2, rfl, by rw [fin e1 e2 rfl rfl]; exact h.here S (.bl _)⟩
        · cases e
      | _ => cases e
    | _ => cases e
  | IsNot =>
    obtain ⟨k, e, h⟩ := okb_some h
    cases e0 : isSame m a b with
    | none => rw [e0] at e; cases e
    | some k' =>
    rw [e0] at e
    cases e
    have e := e0
    cases rb with
    | non =>
      cases e
      refine op_notN pins s σ H _ _ v u Q I rx ry ⟨rfl, ?_⟩
      have e2 : decide (x = V.non) = decide (a = MV.non) := by cases ra <;> rfl
      rw [e2]
      exact h.here S (.bl _)
    | bl c =>
      cases ra with
      | bl d =>
        cases e
        exact op_notBl pins s σ H _ _ v u Q I rx ry ⟨_, _, rfl, rfl, h.here S (.bl _)⟩
      | _ => cases e
    | @ref q j hj =>
      cases ra with
      | @ref p n hn =>
        unfold isSame at e
        dsimp only at e
        have fin : ∀ {o w : MO}, m[n]? = some o → m[j]? = some w → live o = true → live w = true → decide (p = q) = decide (n = j) := fun {o w} e1 e2 l1 l2 => by
          rw [Bool.eq_iff_iff]
          simp only [decide_eq_true_eq]
          refine ⟨fun z => ?_, fun z => ?_⟩
          · subst z
            exact S.nd n j p o w hn hj e1 e2 l1 l2
          · subst z
            rw [hn] at hj
            exact Option.some.inj hj
        split at e
        · rename_i o1 o2 e1 e2
          cases e
          obtain ⟨vs, h1, _⟩ := S.lst_at hn e1
          obtain ⟨ws, h2, _⟩ := S.lst_at hj e2
          exact op_isnot_ref pins s σ H _ _ v u Q I rx ry ⟨p, q, _, _, rfl, rfl, h1, rfl, h2, rfl, by rw [fin e1 e2 rfl rfl]; exact h.here S (.bl _)⟩
        · rename_i o1 o2 e1 e2
          cases e
          obtain ⟨_, _, h1, _⟩ := S.at_ _ _ _ hn e1
          obtain ⟨_, _, h2, _⟩ := S.at_ _ _ _ hj e2
          exact op_isnot_ref pins s σ H _ _ v u Q I rx ry ⟨p, q, _, _, rfl, rfl, h1, rfl, h2, rfl, by rw [fin e1 e2 rfl rfl]; exact h.here S (.bl _)⟩
        · cases e
      | _ => cases e
    | _ => cases e
end U
end Part_U3

section Part_U4
set_option Elab.async false
set_option linter.all false
set_option maxRecDepth 100000
set_option maxHeartbeats 4000000
/-! U4: truth, subscripts, slices, built-in functions and methods of values, over the layer's rules. -/
namespace U
open PySem PySem.Spec PyProof.Rows L2
section
variable {D : Dat} {i : List Addr} {m : Mem} {H : Hp}
theorem RVs.isEmpty {vs : List V} {xs : List MV} (r : RVs D i H vs xs) : vs.isEmpty = xs.isEmpty := by cases r <;> rfl
theorem RKvs.isEmpty {vs : List (Key × V)} {xs : List (MV × MV)} (r : RKvs D i H vs xs) : vs.isEmpty = xs.isEmpty := by cases r <;> rfl
theorem truV {K : PySem.W.Frag} (hK : K = D.K) {a : MV} {x : V} {b : Bool} (S : Sim D i m H) (r : RV D i H x a) (e : truth m a = some b) : TruV K x H b := by
  subst hK
  cases r with
  | non => cases e; rfl
  | bl c => cases e; rfl
  | int n => cases e; rfl
  | str z =>
    unfold truth at e
    dsimp only at e
    split at e
    · rename_i hz
      cases e
      refine ⟨by rw [len_str, ← line_eq]; exact hz, ?_⟩
      rw [len_str]
      cases z with
      | nil => rfl
      | cons c z => simp [List.isEmpty]; omega
    · cases e
  | tup h q =>
    cases e
    exact .inr (.inl ⟨_, h, by rw [q.isEmpty]⟩)
  | obj => cases e
  | @ref p n h =>
    unfold truth at e
    dsimp only at e
    split at e
    · rename_i xs e0
      cases e
      obtain ⟨vs, h1, r1⟩ := S.lst_at h e0
      exact .inl ⟨vs, SqL.of h1, by rw [r1.isEmpty]⟩
    · rename_i xs e0
      cases e
      obtain ⟨vs, h1, r1⟩ := S.frz_at h e0
      exact .inl ⟨vs, h1.sq, by rw [r1.isEmpty]⟩
    · rename_i xs e0
      cases e
      obtain ⟨ks, h1, r1⟩ : ∃ ks, H p = some (.dK ks) ∧ RKvs D i H ks xs := S.at_ _ _ _ h e0
      exact .inr (.inr ⟨ks, h1, by rw [r1.isEmpty]⟩)
    · cases e
theorem RVs.atI {vs : List V} {xs : List MV} {n : Int} {y : MV} (r : RVs D i H vs xs) (e : L2.atI xs n = some y) : ∃ v, L2.atI vs n = some v ∧ RV D i H v y := by
  unfold L2.atI at e ⊢
  rw [r.length]
  cases e1 : L2.ixN xs.length n with
  | none => rw [e1] at e; cases e
  | some k =>
    rw [e1] at e
    obtain ⟨v, h1, h2⟩ := r.get (n := k) (x := y) e
    exact ⟨v, h1, h2⟩
theorem RVs.cutR {vs : List V} {xs : List MV} (lo hi : Option Int) (r : RVs D i H vs xs) : RVs D i H (cutV vs lo hi) (cut xs lo hi) := by
  show RVs D i H ((vs.drop (HT.sIx vs.length 0 lo)).take (HT.sIx vs.length vs.length hi - HT.sIx vs.length 0 lo)) ((xs.drop (HT.sIx xs.length 0 lo)).take (HT.sIx xs.length xs.length hi - HT.sIx xs.length 0 lo))
  rw [r.length]
  exact (r.drop _).take _
end

theorem or_ix {X : Cx} {D : Dat} (hK : X.K = D.K) : IxR X (rOp D subscr) := by
  rintro value slice pins s σ H x y v u Q I rx ry ⟨i, m, a, b, S, ra, rb, h⟩ hs
  cases rb with
  | int n =>
    cases ra with
    | str z =>
      unfold subscr getAt at h
      dsimp only at h
      split at h
      · rename_i hz
        split at h
        · rename_i c e
          exact ix_str value slice pins s σ H _ _ v u Q I rx ry ⟨_, n, c, rfl, rfl, by rw [len_str, ← line_eq]; exact hz, by simpa using e, h.here S (.str [c])⟩ hs
        · exact h.elim
      · exact h.elim
    | @tup p vs xs h1 r1 =>
      unfold subscr getAt at h
      dsimp only at h
      split at h
      · rename_i y e
        obtain ⟨w, e1, r2⟩ := r1.atI e
        exact ix_tup value slice pins s σ H _ _ v u Q I rx ry ⟨p, vs, n, w, rfl, rfl, by rw [hK]; exact h1, e1, h.here S r2⟩ hs
      · exact h.elim
    | @ref p k h0 =>
      unfold subscr getAt at h
      dsimp only at h
      split at h
      · rename_i xs e0
        split at h
        · rename_i y e
          obtain ⟨vs, h1, r1⟩ := S.lst_at h0 e0
          obtain ⟨w, e1, r2⟩ := r1.atI e
          exact ix_list value slice pins s σ H _ _ v u Q I rx ry ⟨p, vs, n, w, rfl, rfl, SqL.of h1, e1, h.here S r2⟩ hs
        · exact h.elim
      · rename_i xs e0
        split at h
        · rename_i y e
          obtain ⟨vs, h1, r1⟩ := S.frz_at h0 e0
          obtain ⟨w, e1, r2⟩ := r1.atI e
          exact ix_list value slice pins s σ H _ _ v u Q I rx ry ⟨p, vs, n, w, rfl, rfl, by rw [hK]; exact h1.sq, e1, h.here S r2⟩ hs
        · exact h.elim
      · exact h.elim
    | _ => exact h.elim
  | _ => exact h.elim
/-- a slice by values -/
def rSl (D : Dat) : V → Option Int → Option Int → Hp → VK → Prop := fun x lo hi H Q => ∃ i m a, Sim D i m H ∧ RV D i H x a ∧ PO2 D i H Q (slice a lo hi m)
theorem or_sl {X : Cx} {D : Dat} (hK : X.K = D.K) : SlR X (rSl D) := by
  rintro pins s σ H x v vl vu lo hi sl Q I rx hs pl pu ⟨i, m, a, S, ra, h⟩
  cases ra with
  | str z =>
    unfold slice at h
    dsimp only at h
    split at h
    · rename_i hz
      refine sl_str pins s σ H _ v vl vu lo hi sl Q I rx hs pl pu ⟨_, rfl, by rw [len_str, ← line_eq]; exact hz, ?_⟩
      have e : cutS ⟨z.toArray⟩ lo hi = ⟨(cut z lo hi).toArray⟩ := by
        unfold cutS cut
        rw [len_str]
      rw [e]
      exact h.here S (.str _)
    · exact h.elim
  | @tup p vs xs h1 r1 =>
    refine sl_tupA pins s σ H _ v vl vu lo hi sl Q I rx hs pl pu ⟨p, vs, rfl, by rw [hK]; exact h1, fun e => ?_, fun _ => ?_⟩
    · have e2 : cut xs lo hi = xs := by
        unfold cut
        rw [r1.length] at e
        rw [e.1, e.2]
        simp
      have h' : PO2 D i H Q (some (.tup (cut xs lo hi), m)) := h
      rw [e2] at h'
      exact h'.here S (.tup h1 r1)
    · exact PO2.tup (xs := cut xs lo hi) h S (r1.cutR lo hi)
  | @ref p k h0 =>
    unfold slice at h
    dsimp only at h
    split at h
    · rename_i xs e0
      obtain ⟨vs, h1, r1⟩ := S.lst_at h0 e0
      exact sl_list pins s σ H _ v vl vu lo hi sl Q I rx hs pl pu ⟨p, vs, rfl, SqL.of h1, PO2.lst h S (r1.cutR lo hi)⟩
    · rename_i xs e0
      obtain ⟨vs, h1, r1⟩ := S.frz_at h0 e0
      exact sl_list pins s σ H _ v vl vu lo hi sl Q I rx hs pl pu ⟨p, vs, rfl, by rw [hK]; exact h1.sq, PO2.lst h S (r1.cutR lo hi)⟩
    · exact h.elim
  | _ => exact h.elim

/-! ### built-in functions -/
def rBf (D : Dat) (b : BF) : List V → Hp → VK → Prop := fun xs H Q => ∃ i m vs, Sim D i m H ∧ RVs D i H xs vs ∧ PO2 D i H Q (builtin b vs m)
section
variable {D : Dat} {i : List Addr} {m : Mem} {H : Hp}
theorem ints_of : ∀ {xs : List MV} {vs : List V} {ns : List Int}, allInt xs = some ns → RVs D i H vs xs → vs = ns.map V.int
  | [], _, ns, e, .nil => by cases e; rfl
  | .int n :: xs, _, ns, e, .cons r t => by
    unfold allInt at e
    cases e1 : allInt xs with
    | none => rw [e1] at e; cases e
    | some ms =>
      rw [e1] at e
      cases e
      cases r
      rw [ints_of e1 t]
      rfl
  | .non :: xs, _, ns, e, _ => by cases e
  | .bl _ :: xs, _, ns, e, _ => by cases e
  | .str _ :: xs, _, ns, e, _ => by cases e
  | .tup _ :: xs, _, ns, e, _ => by cases e
  | .obj _ _ :: xs, _, ns, e, _ => by cases e
  | .ref _ :: xs, _, ns, e, _ => by cases e
theorem bls_of : ∀ {xs : List MV} {vs : List V} {ns : List Bool}, allBl xs = some ns → RVs D i H vs xs → vs = ns.map V.bl
  | [], _, ns, e, .nil => by cases e; rfl
  | .bl n :: xs, _, ns, e, .cons r t => by
    unfold allBl at e
    cases e1 : allBl xs with
    | none => rw [e1] at e; cases e
    | some ms =>
      rw [e1] at e
      cases e
      cases r
      rw [bls_of e1 t]
      rfl
  | .non :: xs, _, ns, e, _ => by cases e
  | .int _ :: xs, _, ns, e, _ => by cases e
  | .str _ :: xs, _, ns, e, _ => by cases e
  | .tup _ :: xs, _, ns, e, _ => by cases e
  | .obj _ _ :: xs, _, ns, e, _ => by cases e
  | .ref _ :: xs, _, ns, e, _ => by cases e
theorem strs_of : ∀ {xs : List MV} {vs : List V} {ns : List Txt}, allStr xs = some ns → RVs D i H vs xs → vs = (ns.map fun x => (⟨x.toArray⟩ : Str)).map V.str
  | [], _, ns, e, .nil => by cases e; rfl
  | .str n :: xs, _, ns, e, .cons r t => by
    unfold allStr at e
    cases e1 : allStr xs with
    | none => rw [e1] at e; cases e
    | some ms =>
      rw [e1] at e
      cases e
      cases r
      rw [strs_of e1 t]
      rfl
  | .non :: xs, _, ns, e, _ => by cases e
  | .int _ :: xs, _, ns, e, _ => by cases e
  | .bl _ :: xs, _, ns, e, _ => by cases e
  | .tup _ :: xs, _, ns, e, _ => by cases e
  | .obj _ _ :: xs, _, ns, e, _ => by cases e
  | .ref _ :: xs, _, ns, e, _ => by cases e
theorem txt_back (z : Str) : (⟨z.cps.toList.toArray⟩ : Str) = z := by simp
theorem RV.str' {z : Str} : RV D i H (.str z) (.str z.cps.toList) := by
  have h : RV D i H (.str ⟨z.cps.toList.toArray⟩) (.str z.cps.toList) := .str _
  rw [txt_back] at h
  exact h
end
theorem cr_len {X : Cx} {D : Dat} (hK : X.K = D.K) : CallR X (.builtin "len") (rBf D .len) := by
  rintro pins s σ H xs us Q I r ⟨i, m, vs, S, rs, h⟩
  cases rs with
  | nil => exact h.elim
  | @cons x v xs vs rx rt =>
  cases rt with
  | cons _ _ => cases rx <;> exact h.elim
  | nil =>
  cases rx with
  | str z =>
    unfold builtin at h
    dsimp only at h
    split at h
    · rename_i hz
      exact call_len pins s σ H _ us Q I r ⟨_, _, rfl, ⟨by rw [len_str, ← line_eq]; exact hz, rfl⟩, by rw [len_str]; exact h.here S (.int _)⟩
    · exact h.elim
  | @tup p vs xs h1 r1 =>
    refine call_len pins s σ H _ us Q I r ⟨_, _, rfl, .inr ⟨_, by rw [hK]; exact h1, rfl⟩, ?_⟩
    rw [r1.length]
    exact h.here S (.int _)
  | @ref p n h0 =>
    unfold builtin at h
    dsimp only at h
    split at h
    · rename_i xs e0
      obtain ⟨vs, h1, r1⟩ := S.lst_at h0 e0
      refine call_len pins s σ H _ us Q I r ⟨_, _, rfl, .inl ⟨_, SqL.of h1, rfl⟩, ?_⟩
      rw [r1.length]
      exact h.here S (.int _)
    · rename_i xs e0
      obtain ⟨vs, h1, r1⟩ := S.frz_at h0 e0
      refine call_len pins s σ H _ us Q I r ⟨_, _, rfl, .inl ⟨_, by rw [hK]; exact h1.sq, rfl⟩, ?_⟩
      rw [r1.length]
      exact h.here S (.int _)
    · exact h.elim
  | _ => exact h.elim
theorem cr_abs {X : Cx} {D : Dat} : CallR X (.builtin "abs") (rBf D .abs) := by
  rintro pins s σ H xs us Q I r ⟨i, m, vs, S, rs, h⟩
  cases rs with
  | nil => exact h.elim
  | @cons x v xs vs rx rt =>
  cases rt with
  | cons _ _ => cases rx <;> exact h.elim
  | nil =>
  cases rx with
  | int n => exact call_abs pins s σ H _ us Q I r ⟨n, rfl, h.here S (.int _)⟩
  | _ => exact h.elim
theorem cr_int {X : Cx} {D : Dat} : CallR X (.type "int") (rBf D .int) := by
  rintro pins s σ H xs us Q I r ⟨i, m, vs, S, rs, h⟩
  cases rs with
  | nil => exact h.elim
  | @cons x v xs vs rx rt =>
  cases rt with
  | cons _ _ => cases rx <;> exact h.elim
  | nil =>
  cases rx with
  | int n => exact call_int1 pins s σ H _ us Q I r (.inl ⟨n, rfl, h.here S (.int _)⟩)
  | bl b => exact call_int1 pins s σ H _ us Q I r (.inr ⟨b, rfl, h.here S (.int _)⟩)
  | _ => exact h.elim
theorem cr_str {X : Cx} {D : Dat} : CallR X (.type "str") (rBf D .str) := by
  rintro pins s σ H xs us Q I r ⟨i, m, vs, S, rs, h⟩
  cases rs with
  | nil => exact h.elim
  | @cons x v xs vs rx rt =>
  cases rt with
  | cons _ _ => cases rx <;> exact h.elim
  | nil =>
  cases rx with
  | int n =>
    unfold builtin at h
    dsimp only at h
    split at h
    · rename_i hz
      exact call_str_int pins s σ H _ us Q I r ⟨n, rfl, hz, h.here S RV.str'⟩
    · exact h.elim
  | str z => exact SkE.call_str_str pins s σ H _ us Q I r ⟨_, rfl, h.here S (.str _)⟩
  | _ => exact h.elim
theorem cr_tuple {X : Cx} {D : Dat} (hK : X.K = D.K) : CallR X (.type "tuple") (rBf D .tuple) := by
  rintro pins s σ H xs us Q I r ⟨i, m, vs, S, rs, h⟩
  cases rs with
  | nil => exact h.elim
  | @cons x v xs vs rx rt =>
  cases rt with
  | cons _ _ => cases rx <;> exact h.elim
  | nil =>
  cases rx with
  | @tup p vs xs h1 r1 => exact call_tuple_of pins s σ H _ us Q I r ⟨p, vs, rfl, .inr ⟨by rw [hK]; exact h1, h.here S (.tup h1 r1)⟩⟩
  | @ref p n h0 =>
    unfold builtin at h
    dsimp only at h
    split at h
    · rename_i xs e0
      obtain ⟨vs, h1, r1⟩ := S.lst_at h0 e0
      exact call_tuple_of pins s σ H _ us Q I r ⟨p, vs, rfl, .inl ⟨SqL.of h1, h.tup S r1⟩⟩
    · rename_i xs e0
      obtain ⟨vs, h1, r1⟩ := S.frz_at h0 e0
      exact call_tuple_of pins s σ H _ us Q I r ⟨p, vs, rfl, .inl ⟨by rw [hK]; exact h1.sq, h.tup S r1⟩⟩
    · exact h.elim
  | _ => exact h.elim
theorem cr_list {X : Cx} {D : Dat} (hK : X.K = D.K) : CallR X (.type "list") (rBf D .list) := by
  rintro pins s σ H xs us Q I r ⟨i, m, vs, S, rs, h⟩
  cases rs with
  | nil => exact h.elim
  | @cons x v xs vs rx rt =>
  cases rt with
  | cons _ _ => cases rx <;> exact h.elim
  | nil =>
  cases rx with
  | @tup p vs xs h1 r1 => exact call_list_of pins s σ H _ us Q I r ⟨p, vs, rfl, .inr (by rw [hK]; exact h1), PO2.lst h S r1⟩
  | @ref p n h0 =>
    unfold builtin at h
    dsimp only at h
    split at h
    · rename_i xs e0
      obtain ⟨vs, h1, r1⟩ := S.lst_at h0 e0
      exact call_list_of pins s σ H _ us Q I r ⟨p, vs, rfl, .inl (SqL.of h1), PO2.lst h S r1⟩
    · rename_i xs e0
      obtain ⟨vs, h1, r1⟩ := S.frz_at h0 e0
      exact call_list_of pins s σ H _ us Q I r ⟨p, vs, rfl, .inl (by rw [hK]; exact h1.sq), PO2.lst h S r1⟩
    · exact h.elim
  | _ => exact h.elim
theorem cr_sum_ {X : Cx} {D : Dat} (hc : X.calm = true) : CallR X (.builtin "sum") (rBf D .sum) := by
  rintro pins s σ H xs us Q I r ⟨i, m, vs, S, rs, h⟩
  cases rs with
  | nil => exact h.elim
  | @cons x v xs vs rx rt =>
  cases rt with
  | cons _ _ => cases rx <;> exact h.elim
  | nil =>
  cases rx with
  | @ref p n h0 =>
    unfold builtin at h
    dsimp only at h
    split at h
    · rename_i xs e0
      split at h
      · rename_i ns e
        obtain ⟨vs, h1, r1⟩ := S.lst_at h0 e0
        have ev := ints_of e r1
        subst ev
        exact cr_sum hc pins s σ H _ us Q I r ⟨p, ns, rfl, SqL.of h1, h.here S (.int _)⟩
      · exact h.elim
    · exact h.elim
  | _ => exact h.elim
theorem cr_all_ {X : Cx} {D : Dat} (hc : X.calm = true) : CallR X (.builtin "all") (rBf D .all) := by
  rintro pins s σ H xs us Q I r ⟨i, m, vs, S, rs, h⟩
  cases rs with
  | nil => exact h.elim
  | @cons x v xs vs rx rt =>
  cases rt with
  | cons _ _ => cases rx <;> exact h.elim
  | nil =>
  cases rx with
  | @ref p n h0 =>
    unfold builtin at h
    dsimp only at h
    split at h
    · rename_i xs e0
      split at h
      · rename_i ns e
        obtain ⟨vs, h1, r1⟩ := S.lst_at h0 e0
        have ev := bls_of e r1
        subst ev
        exact cr_all hc pins s σ H _ us Q I r ⟨p, ns, rfl, SqL.of h1, h.here S (.bl _)⟩
      · exact h.elim
    · exact h.elim
  | _ => exact h.elim
theorem cr_any_ {X : Cx} {D : Dat} (hc : X.calm = true) : CallR X (.builtin "any") (rBf D .any) := by
  rintro pins s σ H xs us Q I r ⟨i, m, vs, S, rs, h⟩
  cases rs with
  | nil => exact h.elim
  | @cons x v xs vs rx rt =>
  cases rt with
  | cons _ _ => cases rx <;> exact h.elim
  | nil =>
  cases rx with
  | @ref p n h0 =>
    unfold builtin at h
    dsimp only at h
    split at h
    · rename_i xs e0
      split at h
      · rename_i ns e
        obtain ⟨vs, h1, r1⟩ := S.lst_at h0 e0
        have ev := bls_of e r1
        subst ev
        exact cr_any hc pins s σ H _ us Q I r ⟨p, ns, rfl, SqL.of h1, h.here S (.bl _)⟩
      · exact h.elim
    · exact h.elim
  | _ => exact h.elim
/-- repr of data -/
theorem cr_repr {X : Cx} {D : Dat} (hK : X.K = D.K) (hg : X.A.guards = some []) (hu : X.A.units + 1100 < cLine) : CallR X (.builtin "repr") (rBf D .repr) := by
  rintro pins s σ H xs us Q I r ⟨i, m, vs, S, rs, h⟩
  cases rs with
  | nil => exact h.elim
  | @cons x v xs vs rx rt =>
  cases rt with
  | cons _ _ => exact h.elim
  | nil =>
  obtain ⟨u, rfl, ru⟩ := vals1 r
  unfold builtin at h
  dsimp only at h
  split at h
  · rename_i d e
    split at h
    · rename_i hz
      obtain ⟨h1, h2, h3⟩ := hz
      obtain ⟨as, q⟩ := Dp.reads I d x u (by rw [hK]; exact dp_of S _ _ _ _ e rx) ru
      have hd : d.depth ≤ 1000 := depth_of _ _ _ e
      have hz' : d.shown.length ≤ sizeLine := by rw [← line_eq]; exact h3
      cases q with
      | none => exact PySem.P.repr_of_none ⟨.str _, H, I.tok _, ⟨_, rfl⟩, h.here S RV.str'⟩
      | bool b => exact PySem.P.repr_of_bool ⟨.str _, H, I.tok _, ⟨_, rfl⟩, h.here S RV.str'⟩
      | int n t => exact PySem.P.repr_of_int (by have h1' := h1; simp [PyData.showable] at h1'; exact h1') ⟨.str _, H, I.tok _, ⟨_, rfl⟩, h.here S RV.str'⟩
      | str z t => exact PySem.P.repr_of_str ⟨.str _, H, I.tok _, ⟨_, rfl⟩, h.here S RV.str'⟩ hz'
      | list a1 a2 a3 a4 =>
        exact PySem.repr_of_reads' (.list a1 a2 a3 a4) h1 (fun z => by rw [h2] at z; cases z) hg (by omega) (fun _ _ e => e) (fun h' u tk k => ⟨.str _, H, I.kept k, ⟨_, rfl⟩, h.here S RV.str'⟩) hz'
      | tuple a1 a2 a3 a4 =>
        exact PySem.repr_of_reads' (.tuple a1 a2 a3 a4) h1 (fun z => by rw [h2] at z; cases z) hg (by omega) (fun _ _ e => e) (fun h' u tk k => ⟨.str _, H, I.kept k, ⟨_, rfl⟩, h.here S RV.str'⟩) hz'
      | dict a1 a2 a3 a4 a5 => exact absurd h2 (by simp [PyData.hasDict])
    · exact h.elim
  · exact h.elim

/-! ### methods of built-in types -/
def rBm (D : Dat) (b : BM) : V → List V → Hp → VK → Prop := fun x xs H Q => ∃ i m a vs, Sim D i m H ∧ RV D i H x a ∧ RVs D i H xs vs ∧ PO2 D i H Q (method b a vs m)
theorem join_str (a : Txt) : ∀ ys : List Txt, Str.join (⟨a.toArray⟩ : Str) (ys.map fun x => (⟨x.toArray⟩ : Str)) = ⟨(joined a ys).toArray⟩
  | [] => rfl
  | [_] => rfl
  | x :: y :: r => by
    show (⟨x.toArray⟩ : Str) ++ ⟨a.toArray⟩ ++ Str.join (⟨a.toArray⟩ : Str) ((y :: r).map fun x => (⟨x.toArray⟩ : Str)) = ⟨(x ++ a ++ joined a (y :: r)).toArray⟩
    rw [join_str a (y :: r), app_str, app_str]
theorem join_eq (a : Txt) (ys : List Txt) : PySem.Txt.join (⟨a.toArray⟩ : Str) (ys.map fun x => (⟨x.toArray⟩ : Str)) = ⟨(joined a ys).toArray⟩ := (TL.join_eq _ _).trans (join_str a ys)
theorem mr_append {X : Cx} {D : Dat} : MtR X "list.append" (rBm D .append) := by
  rintro pins s σ H x xs v us Q I rx rv ⟨i, m, a, vs, S, ra, rs, h⟩
  cases rs with
  | nil => cases ra <;> exact h.elim
  | @cons y w ys ws ry rt =>
  cases rt with
  | cons _ _ => cases ra <;> exact h.elim
  | nil =>
  cases ra with
  | @ref p n h0 =>
    unfold method at h
    dsimp only at h
    split at h
    · rename_i zs e0
      split at h
      · rename_i hz
        obtain ⟨vs, h1, r1⟩ := S.lst_at h0 e0
        refine mt_append pins s σ H _ _ v us Q I rx rv ⟨p, vs, y, rfl, rfl, h1, by rw [r1.length, ← line_eq]; exact hz, ?_⟩
        have ex : Ext D i H i (upd H p (.lst (vs ++ [y]))) := Ext.write h1 (fun z => z)
        exact h i _ _ ex (S.write h0 e0 rfl ex (fun b u hb e => by rw [upd_ne hb]; exact e) ⟨_, upd_same, (r1.append (RVs.one ry)).ext ex⟩) .non
      · exact h.elim
    · exact h.elim
  | _ => exact h.elim
theorem mr_extend {X : Cx} {D : Dat} : MtR X "list.extend" (rBm D .extend) := by
  rintro pins s σ H x xs v us Q I rx rv ⟨i, m, a, vs, S, ra, rs, h⟩
  cases rs with
  | nil => cases ra <;> exact h.elim
  | @cons y w ys ws ry rt =>
  cases rt with
  | cons _ _ => cases ra <;> cases ry <;> exact h.elim
  | nil =>
  cases ra with
  | @ref p n h0 =>
    cases ry with
    | @ref p2 n2 h02 =>
      unfold method at h
      dsimp only at h
      split at h
      · rename_i zs zs2 e0 e02
        split at h
        · rename_i hz
          obtain ⟨vs, h1, r1⟩ := S.lst_at h0 e0
          obtain ⟨vs2, h12, r12⟩ := S.lst_at h02 e02
          refine mt_extend pins s σ H _ _ v us Q I rx rv ⟨p, p2, vs, vs2, rfl, rfl, h1, h12, by rw [r1.length, r12.length, ← line_eq]; exact hz, ?_⟩
          have ex : Ext D i H i (upd H p (.lst (vs ++ vs2))) := Ext.write h1 (fun z => z)
          exact h i _ _ ex (S.write h0 e0 rfl ex (fun b u hb e => by rw [upd_ne hb]; exact e) ⟨_, upd_same, (r1.append r12).ext ex⟩) .non
        · exact h.elim
      · exact h.elim
    | _ => exact h.elim
  | _ => cases ry <;> exact h.elim
theorem mr_join {X : Cx} {D : Dat} (hK : X.K = D.K) : MtR X "str.join" (rBm D .join) := by
  rintro pins s σ H x xs v us Q I rx rv ⟨i, m, a, vs, S, ra, rs, h⟩
  cases rs with
  | nil => cases ra <;> exact h.elim
  | @cons y w ys ws ry rt =>
  cases rt with
  | cons _ _ => cases ra <;> exact h.elim
  | nil =>
  cases ra with
  | str z =>
    unfold method at h
    dsimp only at h
    have fin : ∀ {p : Addr} {vs : List V} {zs : List MV} {ys : List Txt}, y = .ref p → (SqL X.K H p vs ∨ SqT X.K H p vs) → RVs D i H vs zs → allStr zs = some ys → (ys.map (·.length)).sum + ys.length * z.length ≤ line → PO2 D i H Q (some (.str (joined z ys), m)) →
        wpAny (model X.prog X.w) X.A (call (.builtin "str.join") (v :: us)) (EP X pins σ Q) X.xe s := fun {p vs zs ys} ey hq r1 e hz h => by
      subst ey
      have ev := strs_of e r1
      subst ev
      refine mt_join pins s σ H _ _ v us Q I rx rv ⟨_, p, ys.map fun x => (⟨x.toArray⟩ : Str), rfl, rfl, hq, ?_, ?_⟩
      · have e2 : (ys.map fun x => (⟨x.toArray⟩ : Str)).map (·.length) = ys.map (·.length) := by
          rw [List.map_map]
          exact List.map_congr_left fun x _ => len_str x
        rw [e2, List.length_map, len_str]
        exact hz
      · rw [join_eq]
        exact h.here S (.str _)
    split at h
    · rename_i zs e
      split at h
      · rename_i ts e1
        split at h
        · rename_i hz
          cases ry with
          | @tup p vs2 xs2 h1 r1 =>
            cases e
            exact fin rfl (.inr (by rw [hK]; exact h1)) r1 e1 hz h
          | @ref p n h0 =>
            unfold items at e
            dsimp only at e
            split at e
            · rename_i zs e0
              cases e
              obtain ⟨vs, h1, r1⟩ := S.lst_at h0 e0
              exact fin rfl (.inl (SqL.of h1)) r1 e1 hz h
            · rename_i zs e0
              cases e
              obtain ⟨vs, h1, r1⟩ := S.frz_at h0 e0
              exact fin rfl (.inl (by rw [hK]; exact h1.sq)) r1 e1 hz h
            · cases e
          | _ => cases e
        · exact h.elim
      · exact h.elim
    · exact h.elim
  | _ => exact h.elim
end U
end Part_U4

section Part_U5
set_option Elab.async false
set_option linter.all false
set_option maxRecDepth 100000
set_option maxHeartbeats 4000000
/-! U5: rooms, what a def of the text promises, calls of defs, methods, classes, attributes. -/
namespace U
open PySem PySem.Spec PyProof.Rows L2

/-! ### room for n calls, one in another -/
structure RoomG (n : Nat) (A : Around) : Prop where
  hd : A.handled = none
  gd : A.guards = some []
  dp : A.depth + 2 * n + 8 < recursionLimit
  un : A.units + 4 * n + 1300 < cLine
/-- within a body whose calls are at level n -/
structure RoomB (n : Nat) (A : Around) : Prop where
  hd : A.handled = none
  gd : A.guards = some []
  dp : A.depth + 2 * n + 9 < recursionLimit
  un : A.units + 4 * n + 1301 < cLine
section
variable {n : Nat} {A : Around}
theorem RoomB.g (r : RoomB n A) : RoomG n A := ⟨r.hd, r.gd, by have := r.dp; omega, by have := r.un; omega⟩
theorem RoomB.un' (r : RoomB n A) : A.units + 1100 < cLine := by have := r.un; omega
theorem deeper_guards (env : PySem.Env) : (A.deeper env).guards = A.guards := by
  first | rfl | simp [Around.deeper]
theorem RoomG.deeper (r : RoomG (n + 1) A) (env : PySem.Env) : RoomB n (A.deeper env) :=
  ⟨r.hd, by rw [deeper_guards]; exact r.gd, by have := r.dp; show A.depth + 1 + 2 * n + 9 < _; omega, by have := r.un; show A.units + 3 + 4 * n + 1301 < _; omega⟩
theorem make_guards {C : Addr} {us : List Value} {kw : List (Str × Value)} : (A.under (.builtin "type.__call__" ⟨.ref C :: us, kw⟩)).guards = A.guards := by
  first | rfl | simp [Around.under, Code.isGuard, guardIds]
theorem make_handled {C : Addr} {us : List Value} {kw : List (Str × Value)} : (A.under (.builtin "type.__call__" ⟨.ref C :: us, kw⟩)).handled = A.handled := by
  first | rfl | simp [Around.under]
theorem RoomB.make (r : RoomB n A) (C : Addr) (us : List Value) (kw : List (Str × Value)) : RoomG n (A.under (.builtin "type.__call__" ⟨.ref C :: us, kw⟩)) :=
  ⟨by rw [make_handled]; exact r.hd, by rw [make_guards]; exact r.gd, by have := r.dp; rw [make_depth]; omega, by have := r.un; rw [make_units]; omega⟩
end

/-! ### a def's promise -/
structure FnG (P : Program) (w : World) (K : PySem.W.Frag) (mg : Str → Option Value) (base : Heap) (n : Nat) (f : Addr) (fd : FuncData) (ps : List Str) (sp : Sp) : Prop where
  len : ∀ vs H Q E, sp vs H Q E → vs.length = ps.length
  run : ∀ (A : Around) (outer : List PySem.Env) (s : Shared) (H : Hp) (args : Args) (us : List Value) (vs : List V) (Q : VK) (E : XK), RoomG n A → Env0 P w K mg base A outer s H → BindsTo s fd args (ps.zip us) → Vals vs us → sp vs H Q E →
    codeAny (model P w) A (.call (.ref f) args) (CR (L2.CX P w) outer P w H s Q E) s
/-- a def of the text keeps its promise, by its body -/
theorem fnG_of {P : Program} {w : World} {K : PySem.W.Frag} {mg : Str → Option Value} {base : Heap} {n : Nat} {x qual : Str} {params : Arguments} {body : List Stmt} {scope : Scope} {dvs : List V} {kws : List (Str × V)} {f : Addr} {fd : FuncData} {N ps : List Str} {sp : Sp}
    (F : FunD K x qual params body scope dvs kws f fd) (S : FnScope N ps scope) (len : ∀ vs H Q E, sp vs H Q E → vs.length = ps.length)
    (hbody : ∀ (cdv : Value) (A : Around) (outer : List PySem.Env) (s : Shared) (H : Hp) (vs : List V) (Q : VK) (E : XK), RoomB n (A.deeper (envOfC qual scope s.heap.objs.size f cdv)) → sp vs H Q E →
      ∃ t, PSs (cxOf (L2.CX P w) P w K mg base N qual scope f cdv A outer s H E) body t ∧ t { nx := fun _ H' => Q .non H', rt := Q } (start N vs) H) :
    FnG P w K mg base (n + 1) f fd ps sp := by
  obtain ⟨oc, od, dV, kV, doc, pm, an, cdv, ct, osl, rfl, lk, hcd, _, _⟩ := F.ex
  refine ⟨len, fun A outer s H args us vs Q E hr e0 hb r hsp => ?_⟩
  have KX : K.In s.heap := e0.mod.kin.keeps fun b o e => (e0.bs b o e).1
  have lim := Heap.NoLimit.keeps e0.mod.nolimit fun b o e => (e0.bs b o e).1
  have hd : A.depth < recursionLimit := by have h := hr.dp; omega
  refine codeAny_call_function hd (KX _ _ lk) rfl S.co S.gen rfl (PySem.W.codeRec_of KX hcd) (hb _ _ _ _ (wpAny_newFunctionEnv_cells S.kind (fun ⟨y, v⟩ hy => ?_) fun env he s1 z => ?_))
  · rcases S.par y (List.of_mem_zip hy).1 with q | q
    · exact Or.inl q
    · exact Or.inr ⟨q, PySem.W.cellsFrom_some _ _ _ (Or.inl q)⟩
  · subst he
    obtain ⟨t, ht, hq⟩ := hbody cdv A outer s H vs Q E (hr.deeper _) hsp
    have I := inv_start (CX := L2.CX P w) (cd := cdv) (f := f) (E := E) S hr.hd e0 (len _ _ _ _ hsp) r z
    refine ⟨lim.keeps z.toInCall.keep, codeAny_func (wpAny_mono (ht.run [] s1 (start N vs) H _ I hq) (fun fl s' hs => ?_) fun e s' hs => hs)⟩
    cases fl with
    | brk => exact (let ⟨_, _, _, q⟩ := hs; q : False).elim
    | cont => exact (let ⟨_, _, _, q⟩ := hs; q : False).elim
    | next =>
      obtain ⟨σ', H', J, q⟩ := hs
      exact ⟨.non, H', J.os, J.bare, J.base, J.hok, rfl, q⟩
    | ret u =>
      obtain ⟨v, σ', H', J, rv, q⟩ := hs
      exact ⟨v, H', J.os, J.bare, J.base, J.hok, rv, q⟩
/-- the promise that an evaluation makes for a def -/
def spOf (D : Dat) (np : Nat) (c : List MV → M MV) : Sp := fun vs H Q E => vs.length = np ∧ ∃ i m xs, Sim D i m H ∧ RVs D i H vs xs ∧ Pst D (fun cls d _ H => E cls d H) ([] : L2.St) (RV D) Q i H (c xs m)

/-! ### running a callee -/
section
variable {X : Cx} {D : Dat} {n : Nat} {f : Addr} {fd : FuncData} {ps : List Str} {sp : Sp} {pins : List (Addr × Obj)} {σ : L2.St} {H : Hp} {s : Shared} {Q : VK} {E : XK} {W : WX}
theorem run_of {args : Args} {us : List Value} {vs : List V} (F : FnG X.prog X.w X.K X.mg X.base n f fd ps sp) (hr : RoomG n X.A) (tk : Takes X W) (hW : ∀ cls d H, E cls d H → W cls d σ H) (I : Inv X pins σ H s) (hb : BindsTo s fd args (ps.zip us)) (r : Vals vs us) (h : sp vs H Q E) :
    codeAny (model X.prog X.w) X.A (.call (.ref f) args) (fun r s' => match r with
      | .ok (.ret u) => EP X pins σ Q u s'
      | .ok _ => False
      | .error e => X.xe e s') s := by
  refine codeAny_mono (F.run X.A X.stack s H args us vs Q E hr I.env0 hb r h) fun r s' hq => ?_
  cases r with
  | error e => exact tk e s' (XE.of_call I (fun cls d H' z => hW cls d H' z) hq)
  | ok fl =>
    cases fl with
    | ret u => exact I.after hq
    | _ => exact False.elim hq
theorem run_fnG {us ds : List Value} {vs dvs : List V} (F : FnG X.prog X.w X.K X.mg X.base n f fd ps sp) (hr : RoomG n X.A) (hb : Binds X.K fd ps ds) (hd : Vals dvs ds) (tk : Takes X W) (hW : ∀ cls d H, E cls d H → W cls d σ H)
    (I : Inv X pins σ H s) (r : Vals vs us) (h : sp (vs ++ dvs) H Q E) : wpAny (model X.prog X.w) X.A (call (.ref f) us) (EP X pins σ Q) X.xe s := by
  have r2 : Vals (vs ++ dvs) (us ++ ds) := Vals.append r hd
  have hl : (us ++ ds).length = ps.length := by
    have z := F.len _ _ _ _ h
    rw [r2.length] at z
    exact z
  refine wpAny_call (codeAny_mono (run_of F hr tk hW I (hb s us I.kIn hl) r2 h) fun r s' hq => ?_)
  rcases r with e | (v | _ | _ | _) <;> exact hq
end
end U
end Part_U5

section Part_U6
set_option Elab.async false
set_option linter.all false
set_option maxRecDepth 100000
set_option maxHeartbeats 4000000
/-! U6: each expression of the text, by the rules of the layer. -/
namespace U
open PySem PySem.Spec PyProof.Rows L2

section
variable {X : Cx} {D : Dat} {e ea eb ec : Expr} {ca cb cc : Env → M MV} {pos : Pos}
/-- an expression whose reading is weaker -/
theorem SE.of {c : Env → M MV} {t : WX → TE} (h : ∀ W, Takes X W → PE X e (t W)) (hi : ∀ W σ H Q, tE X D W c σ H Q → t W σ H Q) : SE X D e c := fun W tk => U.PE.imp (h W tk) (hi W)
theorem SE.congr {c c' : Env → M MV} (h : SE X D e c) (hc : ∀ r m, c' r m = c r m) : SE X D e c' := by
  have e1 : c' = c := funext fun r => funext fun m => hc r m
  rw [e1]
  exact h
theorem ST.congr {c c' : Env → M MV} (h : ST X D e c) (hc : ∀ r m, c' r m = c r m) : ST X D e c' := by
  have e1 : c' = c := funext fun r => funext fun m => hc r m
  rw [e1]
  exact h
theorem se_pure {v : V} {x : MV} (hp : PE X e (tC v)) (r : ∀ i H, RV D i H v x) : SE X D e (fun _ m => .ok x m) := SE.of (t := fun _ => tC v) (fun _ _ => hp) fun W σ H Q ⟨i, _, m, S, _, h⟩ => h i H v Ext.refl S (r i H)
theorem se_var {k : Nat} {x : Str} (hN : X.N[k]? = some x) (hv : Vis X.env.scope x) (hd : (x == ("__debug__" : Str)) = false) (hcd : (x == ("__classdict__" : Str)) = false) : SE X D (.Name x pos) (fun r m => look r k m) := by
  refine SE.of (t := fun _ => tVar k) (fun _ _ => pe_var hN hv hd hcd) fun W σ H Q ⟨i, r, m, S, E, h⟩ => ?_
  unfold look at h
  dsimp only at h
  cases e : r[k]? with
  | none => rw [e] at h; exact h.elim
  | some s =>
    rw [e] at h
    cases s with
    | no => exact h.elim
    | exn c fs => exact h.elim
    | val v =>
      obtain ⟨o, h1, x, h2, h3⟩ := E.2 k _ e
      subst h2
      exact ⟨x, h1, h i H x Ext.refl S h3⟩
theorem se_bin {op : Operator} (hK : X.K = D.K) (ha : SE X D ea ca) (hb : SE X D eb cb) : SE X D (.BinOp ea op eb pos) (fun r m => (ca r m).bind fun x m1 => (cb r m1).bind fun y m2 => lift (binop op x y m2)) := by
  refine SE.of (t := fun W => tOp (rOp D (binop op)) (tE X D W ca) (tE X D W cb)) (fun W tk => pe_op (or_bin hK op) (ha W tk) (hb W tk)) fun W σ H Q ⟨i, r, m, S, E, h⟩ => ?_
  refine TE_mono (bind1 (k := fun x r m1 => (cb r m1).bind fun y m2 => lift (binop op x y m2)) S E h) fun x H1 h1 => TE_mono (bind2 (k := fun x y r m2 => lift (binop op x y m2)) h1) fun y H2 h2 => ?_
  obtain ⟨i, r, m, v, u, S, E, q1, q2, h⟩ := h2
  exact ⟨i, m, v, u, S, q1, q2, Pst.lift h⟩

theorem se_cmp {op : CmpOp} (hK : X.K = D.K) (hu : X.A.units + 1100 < cLine) (hm : behindInMarks op eb = false) (ha : SE X D ea ca) (hb : SE X D eb cb) : SE X D (.Compare ea [op] [eb] pos) (fun r m => (ca r m).bind fun x m1 => (cb r m1).bind fun y m2 => lift (cmpop op x y m2)) := by
  refine SE.of (t := fun W => tOp (rOp D (cmpop op)) (tE X D W ca) (tE X D W cb)) (fun W tk => pe_cmpR (or_cmp hK hu op) (ha W tk) (hb W tk) hm) fun W σ H Q ⟨i, r, m, S, E, h⟩ => ?_
  refine TE_mono (bind1 (k := fun x r m1 => (cb r m1).bind fun y m2 => lift (cmpop op x y m2)) S E h) fun x H1 h1 => TE_mono (bind2 (k := fun x y r m2 => lift (cmpop op x y m2)) h1) fun y H2 h2 => ?_
  obtain ⟨i, r, m, v, u, S, E, q1, q2, h⟩ := h2
  exact ⟨i, m, v, u, S, q1, q2, Pst.lift h⟩
theorem cmpop_bl {op : CmpOp} {a b : MV} {m : Mem} {p : MV × Mem} (h : cmpop op a b m = some p) : ∃ k, p = (.bl k, m) := by
  have ok : ∀ {o : Option Bool}, okb o m = some p → ∃ k, p = (.bl k, m) := fun {o} h => by
    cases o with
    | none => cases h
    | some k => exact ⟨k, (Option.some.inj h).symm⟩
  cases op <;> first
    | exact ok h
    | (cases a <;> cases b <;> first
        | exact ⟨_, (Option.some.inj h).symm⟩
        | cases h)
theorem onTru_bl {α : Type} {m : Mem} {b : Bool} {k : Bool → R α} : onTru m (.bl b) k = k b := rfl
theorem bind_ok {α β : Type} (v : α) (m : Mem) (f : α → M β) : (R.ok v m).bind f = f v m := rfl
theorem bind_bind {α β γ : Type} (a : R α) (f : α → M β) (g : β → M γ) : (a.bind f).bind g = a.bind fun x m => (f x m).bind g := by cases a <;> rfl
theorem onTru_bind {α β : Type} {m : Mem} {x : MV} {k : Bool → R α} {g : α → M β} : (onTru m x k).bind g = onTru m x fun b => (k b).bind g := by
  unfold onTru
  cases truth m x <;> rfl
theorem st_cmp {op : CmpOp} (hK : X.K = D.K) (hu : X.A.units + 1100 < cLine) (hm : behindInMarks op eb = false) (ha : SE X D ea ca) (hb : SE X D eb cb) : ST X D (.Compare ea [op] [eb] pos) (fun r m => (ca r m).bind fun x m1 => (cb r m1).bind fun y m2 => lift (cmpop op x y m2)) := by
  refine fun W tk => U.PT.imp (pt_cmpR (or_cmp hK hu op) (ha W tk) (hb W tk) hm) fun σ H Q ⟨i, r, m, S, E, h⟩ => ?_
  simp only [bind_bind] at h
  refine TE_mono (bind1 (k := fun x r m1 => (cb r m1).bind fun y m2 => (lift (cmpop op x y m2)).bind fun x m1 => onTru m1 x fun b => R.ok b m1) S E h) fun x H1 h1 =>
    TE_mono (bind2 (k := fun x y r m2 => (lift (cmpop op x y m2)).bind fun x m1 => onTru m1 x fun b => R.ok b m1) h1) fun y H2 h2 => ?_
  obtain ⟨i, r, m, v, u, S, E, q1, q2, h⟩ := h2
  refine ⟨i, m, v, u, S, q1, q2, ?_⟩
  dsimp only at h
  cases e : cmpop op v u m with
  | none => rw [e] at h; exact h
  | some p =>
    obtain ⟨k, rfl⟩ := cmpop_bl e
    rw [e] at h
    intro i' H' x ex S' q
    cases q
    exact ⟨k, rfl, h i' H' k ex S' rfl⟩
/-- the truth of an answer, as the layer tells it -/
theorem tru1 {α β : Type} {W : WX} {rel : List Addr → Hp → β → α → Prop} {σ : L2.St} {H : Hp} {Q : β → Hp → Prop} {k : Bool → MV → Env → M α} {x : V} (hK : X.K = D.K)
    (h : K1 X D W rel (fun v r m => onTru m v fun b => k b v r m) x σ H Q) : ∃ b, TruV X.K x H b ∧ ∃ i r m v, Sim D i m H ∧ RE X D i H r σ ∧ RV D i H x v ∧ truth m v = some b ∧ Pst D W σ rel Q i H (k b v r m) := by
  obtain ⟨i, r, m, v, S, E, q, h⟩ := h
  unfold onTru at h
  dsimp only at h
  cases e : truth m v with
  | none => rw [e] at h; exact h.elim
  | some b =>
    rw [e] at h
    exact ⟨b, truV hK S q e, i, r, m, v, S, E, q, e, h⟩
theorem se_not (hK : X.K = D.K) (ha : SE X D ea ca) : SE X D (.UnaryOp .Not ea pos) (fun r m => (ca r m).bind fun x m1 => onTru m1 x fun b => .ok (.bl (!b)) m1) := by
  refine SE.of (t := fun W => tNotT X.K (tE X D W ca)) (fun W tk => pe_notT (ha W tk)) fun W σ H Q ⟨i, r, m, S, E, h⟩ => ?_
  refine TE_mono (bind1 (k := fun x r m1 => onTru m1 x fun b => R.ok (MV.bl (!b)) m1) S E h) fun x H1 h1 => ?_
  obtain ⟨b, t, i, r, m, v, S, E, q, _, h⟩ := tru1 (k := fun b x r m1 => R.ok (MV.bl (!b)) m1) hK h1
  exact ⟨b, t, h i H1 _ Ext.refl S (.bl _)⟩
theorem se_neg (ha : SE X D ea ca) : SE X D (.UnaryOp .USub ea pos) (fun r m => (ca r m).bind fun x m1 => lift (negv x m1)) := by
  refine SE.of (t := fun W => tUn (rU fun i => .int (-i)) (tE X D W ca)) (fun W tk => pe_un un_neg (ha W tk)) fun W σ H Q ⟨i, r, m, S, E, h⟩ => ?_
  refine TE_mono (bind1 (k := fun x r m1 => lift (negv x m1)) S E h) fun x H1 ⟨i, r, m, v, S, E, q, h⟩ => ?_
  cases q with
  | int n => exact ⟨n, rfl, h i H1 _ Ext.refl S (.int _)⟩
  | _ => exact h.elim
theorem se_or {rest : List Expr} (hK : X.K = D.K) (ha : SE X D ea ca) (hb : SE X D (.BoolOp .Or (eb :: rest) pos) cb) : SE X D (.BoolOp .Or (ea :: eb :: rest) pos) (fun r m => (ca r m).bind fun x m1 => onTru m1 x fun k => if k = true then .ok x m1 else cb r m1) := by
  refine SE.of (t := fun W => tOrT X.K (tE X D W ca) (tE X D W cb)) (fun W tk => pe_orT (ha W tk) (hb W tk)) fun W σ H Q ⟨i, r, m, S, E, h⟩ => ?_
  refine TE_mono (bind1 (k := fun x r m1 => onTru m1 x fun k => if k = true then .ok x m1 else cb r m1) S E h) fun x H1 h1 => ?_
  obtain ⟨b, t, i, r, m, v, S, E, q, _, h⟩ := tru1 (k := fun b x r m1 => if b = true then .ok x m1 else cb r m1) hK h1
  refine ⟨b, t, ?_⟩
  cases b with
  | true => exact h i H1 x Ext.refl S q
  | false => exact ⟨i, r, m, S, E, h⟩
theorem se_and {rest : List Expr} (hK : X.K = D.K) (ha : SE X D ea ca) (hb : SE X D (.BoolOp .And (eb :: rest) pos) cb) : SE X D (.BoolOp .And (ea :: eb :: rest) pos) (fun r m => (ca r m).bind fun x m1 => onTru m1 x fun k => if k = true then cb r m1 else .ok x m1) := by
  refine SE.of (t := fun W => tAndT X.K (tE X D W ca) (tE X D W cb)) (fun W tk => pe_andT (ha W tk) (hb W tk)) fun W σ H Q ⟨i, r, m, S, E, h⟩ => ?_
  refine TE_mono (bind1 (k := fun x r m1 => onTru m1 x fun k => if k = true then cb r m1 else .ok x m1) S E h) fun x H1 h1 => ?_
  obtain ⟨b, t, i, r, m, v, S, E, q, _, h⟩ := tru1 (k := fun b x r m1 => if b = true then cb r m1 else .ok x m1) hK h1
  refine ⟨b, t, ?_⟩
  cases b with
  | false => exact h i H1 x Ext.refl S q
  | true => exact ⟨i, r, m, S, E, h⟩
theorem se_one {op : BoolOp} (ha : SE X D ea ca) : SE X D (.BoolOp op [ea] pos) ca := fun W tk => pe_one (ha W tk)
/-- a test by its value's truth -/
theorem st_plain (hK : X.K = D.K) (ha : SE X D ea ca) (he : ∀ whole, isTrue ea X.env whole = (do let v ← whole; standAt ea.pos; holding [v] (truthy v))) : ST X D ea ca := by
  refine fun W tk => U.PT.imp (pt_truth (ha W tk) he) fun σ H Q ⟨i, r, m, S, E, h⟩ => ?_
  refine TE_mono (bind1 (k := fun x r m1 => onTru m1 x fun b => R.ok b m1) S E h) fun x H1 h1 => ?_
  obtain ⟨b, t, i, r, m, v, S, E, q, _, h⟩ := tru1 (k := fun b x r m1 => R.ok b m1) hK h1
  exact ⟨b, t, h i H1 b Ext.refl S rfl⟩
/-- what a test is followed by -/
theorem tT_bind {W : WX} {α β : Type} {rel : List Addr → Hp → β → α → Prop} {σ : L2.St} {H : Hp} {Q : β → Hp → Prop} {c : Env → M MV} {k : Bool → MV → Env → M α} {i : List Addr} {r : Env} {m : Mem} (S : Sim D i m H) (E : RE X D i H r σ)
    (h : Pst D W σ rel Q i H ((c r m).bind fun x m1 => onTru m1 x fun b => k b x r m1)) : tT X D W c σ H fun b H1 => ∃ i v m, Sim D i m H1 ∧ RE X D i H1 r σ ∧ truth m v = some b ∧ Pst D W σ rel Q i H1 (k b v r m) := by
  refine ⟨i, r, m, S, E, ?_⟩
  unfold onTru at h ⊢
  cases e : c r m with
  | ok v m1 =>
    rw [e, bind_ok] at h
    rw [bind_ok]
    cases e2 : truth m1 v with
    | none => rw [e2] at h; exact h.elim
    | some b =>
      rw [e2] at h
      intro i' H' b' ex S' eb
      subst eb
      exact ⟨i', v, m1, S', E.ext ex, e2, h.ext ex⟩
  | ex c fs m1 => rw [e] at h; exact h
  | fail => rw [e] at h; exact h
theorem se_ife (hc : ST X D ec cc) (ha : SE X D ea ca) (hb : SE X D eb cb) : SE X D (.IfExp ec ea eb pos) (fun r m => (cc r m).bind fun x m1 => onTru m1 x fun k => if k = true then ca r m1 else cb r m1) := by
  refine SE.of (t := fun W => tIf (tT X D W cc) (tE X D W ca) (tE X D W cb)) (fun W tk => pe_ifExp (hc W tk) (ha W tk) (hb W tk)) fun W σ H Q ⟨i, r, m, S, E, h⟩ => ?_
  refine TT_mono (tT_bind (k := fun b x r m1 => if b = true then ca r m1 else cb r m1) S E h) fun b H1 ⟨i, v, m, S, E, _, h⟩ => ?_
  cases b with
  | true => exact ⟨i, r, m, S, E, h⟩
  | false => exact ⟨i, r, m, S, E, h⟩
theorem st_not (ha : ST X D ea ca) : ST X D (.UnaryOp .Not ea pos) (fun r m => (ca r m).bind fun x m1 => onTru m1 x fun b => .ok (.bl (!b)) m1) := by
  refine fun W tk => U.PT.imp (pt_not (ha W tk)) fun σ H Q ⟨i, r, m, S, E, h⟩ => ?_
  simp only [bind_bind, onTru_bind, bind_ok, onTru_bl] at h
  exact TT_mono (tT_bind (k := fun b x r m1 => R.ok (!b) m1) S E h) fun b H1 ⟨i, v, m, S, E, _, h⟩ => h i H1 _ Ext.refl S rfl
/-- and, or as tests, whatever 'whole' is -/
def SW (X : Cx) (D : Dat) (e : Expr) (c : Env → M MV) : Prop := ∀ W, Takes X W → PW X e (tT X D W c)
theorem SW.st {c : Env → M MV} (h : SW X D e c) : ST X D e c := fun W tk => (h W tk).pt
theorem sw_and1 (ha : ST X D ea ca) : SW X D (.BoolOp .And [ea] pos) ca := fun W tk => pw_and1 (ha W tk)
theorem sw_or1 (ha : ST X D ea ca) : SW X D (.BoolOp .Or [ea] pos) ca := fun W tk => pw_or1 (ha W tk)
theorem PWimp {t t' : TT} (h : PW X e t) (hi : ∀ σ H Q, t' σ H Q → t σ H Q) : PW X e t' := ⟨fun wh pins s σ H Q I q => h.run wh pins s σ H Q I (hi σ H Q q)⟩
theorem sw_and {rest : List Expr} (ha : ST X D ea ca) (hb : SW X D (.BoolOp .And (eb :: rest) pos) cb) : SW X D (.BoolOp .And (ea :: eb :: rest) pos) (fun r m => (ca r m).bind fun x m1 => onTru m1 x fun k => if k = true then cb r m1 else .ok x m1) := by
  refine fun W tk => PWimp (pw_and (ha W tk) (hb W tk)) fun σ H Q ⟨i, r, m, S, E, h⟩ => ?_
  simp only [bind_bind, onTru_bind] at h
  refine TT_mono (tT_bind (k := fun b x r m1 => (if b = true then cb r m1 else .ok x m1).bind fun x m1 => onTru m1 x fun b => R.ok b m1) S E h) fun b H1 ⟨i, v, m, S, E, ev, h⟩ => ?_
  cases b with
  | true => exact ⟨i, r, m, S, E, h⟩
  | false =>
    rw [if_neg Bool.false_ne_true, bind_ok] at h
    unfold onTru at h
    rw [ev] at h
    exact h i H1 _ Ext.refl S rfl
theorem sw_or {rest : List Expr} (ha : ST X D ea ca) (hb : SW X D (.BoolOp .Or (eb :: rest) pos) cb) : SW X D (.BoolOp .Or (ea :: eb :: rest) pos) (fun r m => (ca r m).bind fun x m1 => onTru m1 x fun k => if k = true then .ok x m1 else cb r m1) := by
  refine fun W tk => PWimp (pw_or (ha W tk) (hb W tk)) fun σ H Q ⟨i, r, m, S, E, h⟩ => ?_
  simp only [bind_bind, onTru_bind] at h
  refine TT_mono (tT_bind (k := fun b x r m1 => (if b = true then .ok x m1 else cb r m1).bind fun x m1 => onTru m1 x fun b => R.ok b m1) S E h) fun b H1 ⟨i, v, m, S, E, ev, h⟩ => ?_
  cases b with
  | false => exact ⟨i, r, m, S, E, h⟩
  | true =>
    rw [if_pos rfl, bind_ok] at h
    unfold onTru at h
    rw [ev] at h
    exact h i H1 _ Ext.refl S rfl
theorem st_ife (hc : ST X D ec cc) (ha : ST X D ea ca) (hb : ST X D eb cb) : ST X D (.IfExp ec ea eb pos) (fun r m => (cc r m).bind fun x m1 => onTru m1 x fun k => if k = true then ca r m1 else cb r m1) := by
  refine fun W tk => ⟨fun pins s σ H Q I ⟨i, r, m, S, E, h⟩ => ?_⟩
  simp only [bind_bind, onTru_bind] at h
  refine isTrue_IfExp (thn ((hc W tk).run pins s σ H _ I (tT_bind (k := fun b x r m1 => (if b = true then ca r m1 else cb r m1).bind fun x m1 => onTru m1 x fun b => R.ok b m1) S E h)) fun b s1 ⟨H1, I1, i, v, m, S, E, _, h⟩ => ?_)
  cases b with
  | true => exact (ha W tk).run pins s1 σ H1 Q I1 ⟨i, r, m, S, E, h⟩
  | false => exact (hb W tk).run pins s1 σ H1 Q I1 ⟨i, r, m, S, E, h⟩
/-- a < b < c -/
theorem chain_reads {o p : CmpOp} {W : WX} {σ : L2.St} {H : Hp} {Q : VK} {i : List Addr} {r : Env} {m : Mem} (S : Sim D i m H) (E : RE X D i H r σ)
    (h : Pst D W σ (RV D) Q i H ((ca r m).bind fun x m1 => (cb r m1).bind fun y m2 => (lift (cmpop o x y m2)).bind fun z m3 => onTru m3 z fun b => if b = true then (cc r m3).bind fun u m4 => lift (cmpop p y u m4) else .ok (.bl false) m3)) :
    tChain (rOp D (cmpop o)) (rOp D (cmpop p)) (tE X D W ca) (tE X D W cb) (tE X D W cc) σ H Q := by
  refine TE_mono (bind1 (k := fun x r m1 => (cb r m1).bind fun y m2 => (lift (cmpop o x y m2)).bind fun z m3 => onTru m3 z fun b => if b = true then (cc r m3).bind fun u m4 => lift (cmpop p y u m4) else .ok (.bl false) m3) S E h) fun x H1 h1 =>
    TE_mono (bind2 (k := fun x y r m2 => (lift (cmpop o x y m2)).bind fun z m3 => onTru m3 z fun b => if b = true then (cc r m3).bind fun u m4 => lift (cmpop p y u m4) else .ok (.bl false) m3) h1) fun y H2 h2 => ?_
  obtain ⟨i, r, m, v, u, S, E, q1, q2, h⟩ := h2
  refine ⟨i, m, v, u, S, q1, q2, ?_⟩
  dsimp only at h
  cases e : cmpop o v u m with
  | none => rw [e] at h; exact h
  | some pr =>
    obtain ⟨k, rfl⟩ := cmpop_bl e
    rw [e] at h
    intro i' H' x ex S' q
    cases q
    refine ⟨k, rfl, ?_⟩
    have h' := h.ext ex
    cases k with
    | false => exact h' i' H' _ Ext.refl S' (.bl _)
    | true =>
      rw [if_pos rfl]
      exact TE_mono (bind2 (k := fun y z r m4 => lift (cmpop p y z m4)) ⟨i', r, m, u, S', E.ext ex, q2.ext ex, h'⟩) fun z H4 ⟨i, r, m, v, u, S, E, q1, q2, h⟩ => ⟨i, m, v, u, S, q1, q2, Pst.lift h⟩
theorem se_chain {o p : CmpOp} (hK : X.K = D.K) (hu : X.A.units + 1100 < cLine) (hm : lastMarks [o, p] [eb, ec] = false) (ha : SE X D ea ca) (hb : SE X D eb cb) (hc : SE X D ec cc) : SE X D (.Compare ea [o, p] [eb, ec] pos)
    (fun r m => (ca r m).bind fun x m1 => (cb r m1).bind fun y m2 => (lift (cmpop o x y m2)).bind fun z m3 => onTru m3 z fun b => if b = true then (cc r m3).bind fun u m4 => lift (cmpop p y u m4) else .ok (.bl false) m3) :=
  SE.of (t := fun W => tChain (rOp D (cmpop o)) (rOp D (cmpop p)) (tE X D W ca) (tE X D W cb) (tE X D W cc)) (fun W tk => pe_chain (or_cmp hK hu o) (or_cmp hK hu p) (ha W tk) (hb W tk) (hc W tk) hm) fun W σ H Q ⟨i, r, m, S, E, h⟩ => chain_reads S E h
end
end U
end Part_U6

section Part_U7
set_option Elab.async false
set_option linter.all false
set_option maxRecDepth 100000
set_option maxHeartbeats 4000000
/-! U7: argument lists, displays, calls, attributes, subscripts, built-ins: the text's by the layer's rules. -/
namespace U
open PySem PySem.Spec PyProof.Rows L2
section
variable {X : Cx} {D : Dat} {W : WX} {σ : L2.St} {H : Hp} {α β : Type} {rel : List Addr → Hp → β → α → Prop} {Q : β → Hp → Prop}
/-- a list of answers is at hand -/
def KL (X : Cx) (D : Dat) (W : WX) (rel : List Addr → Hp → β → α → Prop) (k : List MV → Env → M α) (n : Nat) (xs : List V) (σ : L2.St) (H : Hp) (Q : β → Hp → Prop) : Prop :=
  ∃ i r m vs, Sim D i m H ∧ RE X D i H r σ ∧ RVs D i H xs vs ∧ vs.length = n ∧ Pst D W σ rel Q i H (k vs r m)
theorem bindL {c : Env → M (List MV)} {k : List MV → Env → M α} {i : List Addr} {r : Env} {m : Mem} {n : Nat} (hl : ∀ r m vs m', c r m = .ok vs m' → vs.length = n) (S : Sim D i m H) (E : RE X D i H r σ) (h : Pst D W σ rel Q i H ((c r m).bind fun x m1 => k x r m1)) :
    tL X D W c σ H fun x H1 => KL X D W rel k n x σ H1 Q := by
  refine ⟨i, r, m, S, E, ?_⟩
  cases e : c r m with
  | ok v m1 =>
    rw [e] at h
    exact fun i' H' x e1 S1 q => ⟨i', r, m1, v, S1, E.ext e1, q, hl r m v m1 e, h.ext e1⟩
  | ex c fs m1 =>
    rw [e] at h
    exact h
  | fail =>
    rw [e] at h
    exact h
/-- .. behind a first answer -/
theorem bindL1 {c : Env → M (List MV)} {k : MV → List MV → Env → M α} {n : Nat} {x : V} (hl : ∀ r m vs m', c r m = .ok vs m' → vs.length = n) (h : K1 X D W rel (fun v r m => (c r m).bind fun u m1 => k v u r m1) x σ H Q) :
    tL X D W c σ H fun xs H1 => ∃ i r m v vs, Sim D i m H1 ∧ RE X D i H1 r σ ∧ RV D i H1 x v ∧ RVs D i H1 xs vs ∧ vs.length = n ∧ Pst D W σ rel Q i H1 (k v vs r m) := by
  obtain ⟨i, r, m, v, S, E, q, h⟩ := h
  dsimp only at h
  refine ⟨i, r, m, S, E, ?_⟩
  cases e : c r m with
  | ok u m1 =>
    rw [e] at h
    exact fun i' H' y e1 S1 q1 => ⟨i', r, m1, v, u, S1, E.ext e1, q.ext e1, q1, hl r m u m1 e, h.ext e1⟩
  | ex c fs m1 => rw [e] at h; exact h
  | fail => rw [e] at h; exact h
end
section
variable {X : Cx} {D : Dat} {e ea eb ec : Expr} {es : List Expr} {ca cb cc : Env → M MV} {cl : Env → M (List MV)} {pos : Pos}
theorem sl_nil : SL X D [] (fun _ m => .ok [] m) := fun W tk => U.PA.imp pa_nil fun σ H Q ⟨i, r, m, S, E, h⟩ => h i H [] Ext.refl S .nil
theorem sl_cons (ha : SE X D ea ca) (hl : SL X D es cl) (hs : starEach (ea :: es) X.env = (false, eval ea X.env) :: starEach es X.env) : SL X D (ea :: es) (fun r m => (ca r m).bind fun v m1 => (cl r m1).bind fun vs m2 => .ok (v :: vs) m2) := by
  refine fun W tk => U.PA.imp (pa_cons (ha W tk) (hl W tk) hs) fun σ H Q ⟨i, r, m, S, E, h⟩ => ?_
  refine TE_mono (bind1 (k := fun v r m1 => (cl r m1).bind fun vs m2 => .ok (v :: vs) m2) S E h) fun x H1 ⟨i, r, m, v, S, E, q, h⟩ => ?_
  dsimp only at h
  refine ⟨i, r, m, S, E, ?_⟩
  cases e : cl r m with
  | ok u m1 =>
    rw [e] at h
    exact fun i' H' y e1 S1 q1 => h i' H' (x :: y) e1 S1 (.cons (q.ext e1) q1)
  | ex c fs m1 => rw [e] at h; exact h
  | fail => rw [e] at h; exact h
theorem se_lst (hl : ∀ r m vs m', cl r m = .ok vs m' → vs.length = es.length) (ha : SL X D es cl) : SE X D (.List es pos) (fun r m => (cl r m).bind fun vs m1 => lift (mkLst vs m1)) := by
  refine SE.of (t := fun W => tLst (tL X D W cl)) (fun W tk => pe_lst (ha W tk)) fun W σ H Q ⟨i, r, m, S, E, h⟩ => ?_
  refine TL_mono (bindL (k := fun vs r m1 => lift (mkLst vs m1)) hl S E h) fun xs H1 ⟨i, r, m, vs, S, E, q, _, h⟩ => ?_
  have h' := Pst.lift h
  unfold mkLst at h'
  split at h'
  · rename_i hz
    exact ⟨by rw [q.length, ← line_eq]; exact hz, PO2.lst h' S q⟩
  · exact h'.elim
theorem se_tup {k : Nat} (hl : ∀ r m vs m', cl r m = .ok vs m' → vs.length = es.length) (ha : SL X D es cl) : SE X D (.Tuple es k pos) (fun r m => (cl r m).bind fun vs m1 => lift (mkTup vs m1)) := by
  refine SE.of (t := fun W => tTup (tL X D W cl)) (fun W tk => pe_tup (ha W tk)) fun W σ H Q ⟨i, r, m, S, E, h⟩ => ?_
  refine TL_mono (bindL (k := fun vs r m1 => lift (mkTup vs m1)) hl S E h) fun xs H1 ⟨i, r, m, vs, S, E, q, _, h⟩ => ?_
  have h' := Pst.lift h
  unfold mkTup at h'
  split at h'
  · rename_i hz
    exact ⟨by rw [q.length, ← line_eq]; exact hz, PO2.tup h' S q⟩
  · exact h'.elim
theorem se_idx (hK : X.K = D.K) (hp : PlainIx eb) (ha : SE X D ea ca) (hb : SE X D eb cb) : SE X D (.Subscript ea eb pos) (fun r m => (ca r m).bind fun x m1 => (cb r m1).bind fun y m2 => lift (subscr x y m2)) := by
  refine SE.of (t := fun W => tOp (rOp D subscr) (tE X D W ca) (tE X D W cb)) (fun W tk => pe_ix (or_ix hK) (ha W tk) (hb W tk) hp) fun W σ H Q ⟨i, r, m, S, E, h⟩ => ?_
  refine TE_mono (bind1 (k := fun x r m1 => (cb r m1).bind fun y m2 => lift (subscr x y m2)) S E h) fun x H1 h1 => TE_mono (bind2 (k := fun x y r m2 => lift (subscr x y m2)) h1) fun y H2 h2 => ?_
  obtain ⟨i, r, m, v, u, S, E, q1, q2, h⟩ := h2
  exact ⟨i, m, v, u, S, q1, q2, Pst.lift h⟩
/-- a part of a slice -/
inductive SO (X : Cx) (D : Dat) : Option Expr → (Env → M (List MV)) → Prop
  | non : SO X D none (fun _ m => .ok [] m)
  | som {e : Expr} {c : Env → M MV} (h : SE X D e c) : SO X D (some e) (fun r m => (c r m).bind fun v m1 => (R.ok [] m1).bind fun vs m2 => .ok (v :: vs) m2)
def tO (X : Cx) (D : Dat) (W : WX) {β α : Type} (rel : List Addr → Hp → β → α → Prop) (c : Env → M (List MV)) (k : Option Int → Env → M α) (Q : β → Hp → Prop) : L2.St → Hp → Prop := fun σ H => ∃ i r m, Sim D i m H ∧ RE X D i H r σ ∧ Pst D W σ rel Q i H ((c r m).bind fun ls m1 => onPart ls fun a => k a r m1)
/-- a part is read, then more -/
theorem part_step {β α : Type} {rel : List Addr → Hp → β → α → Prop} {o : Option Expr} {c : Env → M (List MV)} (h : SO X D o c) {W : WX} (tk : Takes X W) {pins : List (Addr × Obj)} {s : Shared} {σ : L2.St} {H : Hp} {Q : β → Hp → Prop} {k : Option Int → Env → M α} {P : List Addr → Hp → Prop}
    (hP : ∀ i H i' H', P i H → Ext D i H i' H' → P i' H') (I : Inv X pins σ H s) {i : List Addr} {r : Env} {m : Mem} (S : Sim D i m H) (E : RE X D i H r σ) (p : P i H) (hq : Pst D W σ rel Q i H ((c r m).bind fun ls m1 => onPart ls fun a => k a r m1)) :
    wpAny (model X.prog X.w) X.A (evalPart o X.env) (fun u s' => ∃ a H', Inv X pins σ H' s' ∧ IsPart u a ∧ ∃ i m, Sim D i m H' ∧ RE X D i H' r σ ∧ P i H' ∧ Pst D W σ rel Q i H' (k a r m)) X.xe s := by
  cases h with
  | non => exact po_none.run pins s σ H _ I ⟨i, m, S, E, p, hq⟩
  | @som e c h =>
    refine (po_some (h W tk)).run pins s σ H _ I ?_
    simp only [bind_bind, bind_ok] at hq
    refine ⟨i, r, m, S, E, ?_⟩
    cases e : c r m with
    | ok v m1 =>
      rw [e] at hq
      intro i' H' x ex S' q
      cases q with
      | int n => exact ⟨n, rfl, i', m1, S', E.ext ex, hP _ _ _ _ p ex, hq.ext ex⟩
      | _ => exact hq.elim
    | ex cc fs m1 => rw [e] at hq; exact hq
    | fail => rw [e] at hq; exact hq
theorem se_slc {lo hi : Option Expr} {p2 : Pos} {clo chi : Env → M (List MV)} (hK : X.K = D.K) (ha : SE X D ea ca) (hlo : SO X D lo clo) (hhi : SO X D hi chi) : SE X D (.Subscript ea (.Slice lo hi none p2) pos)
    (fun r m => (ca r m).bind fun x m1 => (clo r m1).bind fun ls m2 => onPart ls fun a => (chi r m2).bind fun hs m3 => onPart hs fun b => lift (slice x a b m3)) := by
  refine fun W tk => ⟨fun pins s σ H Q I ⟨i, r, m, S, E, h⟩ => ?_⟩
  refine Subscript_ (thn ((ha W tk).run pins s σ H _ I (bind1 (k := fun x r m1 => (clo r m1).bind fun ls m2 => onPart ls fun a => (chi r m2).bind fun hs m3 => onPart hs fun b => lift (slice x a b m3)) S E h)) fun v s1 ⟨x, H1, I1, r1, i, r, m, y, S, E, q, h⟩ => ?_)
  dsimp only at h
  refine wpAny_Slice (thn (part_step (P := fun i H => RV D i H x y) (k := fun a r m2 => (chi r m2).bind fun hs m3 => onPart hs fun b => lift (slice y a b m3)) hlo tk (fun _ _ _ _ q e => q.ext e) I1 S E q h) fun vl s2 ⟨l, H2, I2, pl, i, m, S, E, q, h⟩ => ?_)
  refine thn (part_step (P := fun i H => RV D i H x y) (k := fun b r m3 => lift (slice y l b m3)) hhi tk (fun _ _ _ _ q e => q.ext e) I2 S E q h) fun vu s3 ⟨u, H3, I3, pu, i, m, S, E, q, h⟩ => ?_
  rw [evalPart_none]
  refine wpAny_pure ?_
  have I4 : Inv X pins σ H3 { s3 with heap := s3.heap.push { cls := .type "slice", data := .fields #[vl, vu, .none] } } := Inv.kept (t' := s3.toks) I3 fun b ob z => Heap.get?_push_of_some _ z
  obtain ⟨T, id, hT, ht, hg⟩ := or_sl hK pins _ σ H3 x v vl vu l u s3.heap.objs.size Q I4 r1 (Heap.IsSliceOf.new ..) pl pu ⟨i, m, y, S, q, Pst.lift h⟩
  exact tail_any (value := ea) (slice := .Slice lo hi none p2) (ops := [Value.ref s3.heap.objs.size, v]) ht hT hg (by with_unfolding_all rfl)
end

section
variable {X : Cx} {D : Dat} {ea : Expr} {ca : Env → M MV} {pos : Pos}
theorem se_rev {k : Nat} {p1 p2 p3 : Pos} (hK : X.K = D.K) (ha : SE X D ea ca) : SE X D (.Subscript ea (.Slice none none (some (.UnaryOp .USub (.Constant (.int 1) k p1) p2)) p3) pos) (fun r m => (ca r m).bind fun x m1 => lift (revv x m1)) := by
  refine SE.of (t := fun W => tRevA X.K (tE X D W ca)) (fun W tk => pe_revA (ha W tk)) fun W σ H Q ⟨i, r, m, S, E, h⟩ => ?_
  refine TE_mono (bind1 (k := fun x r m1 => lift (revv x m1)) S E h) fun x H1 ⟨i, r, m, v, S, E, q, h⟩ => ?_
  have h' := Pst.lift h
  rw [hK]
  cases q with
  | @tup a vs xs h1 r1 => exact .inr ⟨a, vs, rfl, h1, PO2.tup (xs := xs.reverse) h' S r1.reverse⟩
  | @ref a n h0 =>
    unfold revv at h'
    dsimp only at h'
    split at h'
    · rename_i xs e0
      obtain ⟨vs, h1, r1⟩ := S.lst_at h0 e0
      exact .inl ⟨a, vs, rfl, SqL.of h1, PO2.lst h' S r1.reverse⟩
    · rename_i xs e0
      obtain ⟨vs, h1, r1⟩ := S.frz_at h0 e0
      exact .inl ⟨a, vs, rfl, h1.sq, PO2.lst h' S r1.reverse⟩
    · exact h'.elim
  | _ => exact h'.elim
end
/-! ### expressions that stand as arguments -/
def plainE : Expr → Bool
  | .Starred _ _ => false
  | .Slice _ _ _ _ => false
  | .Set _ _ _ => false
  | _ => true
theorem star_cons {e : Expr} {es : List Expr} {env : PySem.Env} (h : plainE e = true) : starEach (e :: es) env = (false, eval e env) :: starEach es env := by
  cases e <;> first
    | rfl
    | cases h
theorem star_none {pos : Pos} {env : PySem.Env} : ∀ {es : List Expr}, es.all plainE = true → (backTo pos (starEach es env)).any (·.1) = false
  | [], _ => rfl
  | e :: es, h => by
    rw [List.all_cons, Bool.and_eq_true] at h
    rw [star_cons h.1]
    exact star_none h.2
theorem star_all {pos : Pos} {env : PySem.Env} : ∀ {es : List Expr}, es.all plainE = true → (backTo pos (starEach es env)).all (fun x => !x.1) = true
  | [], _ => rfl
  | e :: es, h => by
    rw [List.all_cons, Bool.and_eq_true] at h
    rw [star_cons h.1]
    exact star_all h.2
theorem plain_ix {e : Expr} (h : plainE e = true) : PlainIx e := by
  intro o i
  cases e <;> first
    | rfl
    | cases h
theorem plain_marks {e : Expr} (op : CmpOp) (h : plainE e = true) : behindInMarks op e = false := by
  cases e <;> first
    | rfl
    | cases h
def plainBase : Expr → Bool
  | .Call (.Name id _) [] [] _ => id != ("super" : Str)
  | _ => true
theorem base_of {e : Expr} {f : Str} {env : PySem.Env} {whole : Sem Value} (h : plainBase e = true) : attributeBase e f env whole = whole := by
  cases e with
  | Call fn args kws p =>
    cases args with
    | nil =>
      cases kws with
      | nil =>
        cases fn with
        | Name id p => exact abase_call h
        | _ => rfl
      | cons k ks => cases fn <;> rfl
    | cons a as => cases fn <;> rfl
  | _ => rfl

section
variable {X : Cx} {D : Dat} {ea eb ec : Expr} {es : List Expr} {ca cb cc : Env → M MV} {cl : Env → M (List MV)} {pos p apos : Pos}
theorem se_blt {id : String} {b : BF} {x : Str} (hc : CallR X (.builtin id) (rBf D b)) (hg : Gl X x) (hm : X.mg x = none) (hv : bootBuiltins x = some (.builtin id)) (hn : x ≠ "__name__") (hdb : (x == ("__debug__" : Str)) = false) (hp : (ea :: es).all plainE = true)
    (hl : ∀ r m vs m', cl r m = .ok vs m' → vs.length = (ea :: es).length) (ha : SL X D (ea :: es) cl) : SE X D (.Call (.Name x p) (ea :: es) [] pos) (fun r m => (cl r m).bind fun vs m1 => lift (builtin b vs m1)) := by
  rw [List.all_cons, Bool.and_eq_true] at hp
  refine SE.of (t := fun W => tCB (rBf D b) (tL X D W cl)) (fun W tk => pe_callB hc hg hm hv (ha W tk) hn hdb (star_cons hp.1) (star_none hp.2)) fun W σ H Q ⟨i, r, m, S, E, h⟩ => ?_
  exact TL_mono (bindL (k := fun vs r m1 => lift (builtin b vs m1)) hl S E h) fun xs H1 ⟨i, r, m, vs, S, E, q, _, h⟩ => ⟨i, m, vs, S, q, Pst.lift h⟩
theorem se_bty {id : String} {b : BF} {x : Str} (hc : CallR X (.type id) (rBf D b)) (hg : Gl X x) (hm : X.mg x = none) (hv : bootBuiltins x = some (.type id)) (hn : x ≠ "__name__") (hdb : (x == ("__debug__" : Str)) = false) (hp : (ea :: es).all plainE = true)
    (hl : ∀ r m vs m', cl r m = .ok vs m' → vs.length = (ea :: es).length) (ha : SL X D (ea :: es) cl) : SE X D (.Call (.Name x p) (ea :: es) [] pos) (fun r m => (cl r m).bind fun vs m1 => lift (builtin b vs m1)) := by
  rw [List.all_cons, Bool.and_eq_true] at hp
  refine SE.of (t := fun W => tCB (rBf D b) (tL X D W cl)) (fun W tk => pe_callTy hc hg hm hv (ha W tk) hn hdb (star_cons hp.1) (star_none hp.2)) fun W σ H Q ⟨i, r, m, S, E, h⟩ => ?_
  exact TL_mono (bindL (k := fun vs r m1 => lift (builtin b vs m1)) hl S E h) fun xs H1 ⟨i, r, m, vs, S, E, q, _, h⟩ => ⟨i, m, vs, S, q, Pst.lift h⟩
/-- the type that a method of a built-in type wants -/
def bmTy : BM → String
  | .join => "str"
  | _ => "list"
theorem recv_ty {K : PySem.W.Frag} {b : BM} {i : List Addr} {H : Hp} {m : Mem} {x : V} {a : MV} (S : Sim D i m H) (r : RV D i H x a) (h : recv m b a = true) : tyV K (bmTy b) x H := by
  have ls : ∀ {n : Nat} {p : Addr}, i[n]? = some p → (match m[n]? with
      | some (.lst _) => true
      | _ => false) = true → tyV K "list" (.ref p) H := fun {n p} h0 e => by
    split at e
    · rename_i xs e0
      obtain ⟨vs, h1, _⟩ := S.lst_at h0 e0
      exact .inl ⟨rfl, vs, SqL.of h1⟩
    · cases e
  cases b with
  | join =>
    cases r with
    | str z => rfl
    | _ => cases h
  | _ =>
    cases r with
    | ref h0 => exact ls h0 h
    | _ => cases h
theorem se_bm {id : String} {b : BM} {name : Str} (hK : X.K = D.K) (pa : PlainAttrs (bmTy b)) (slot : Slot (bmTy b) name id) (hty : typeOf (.builtin id) = pure (.type "method_descriptor")) (hm : MtR X id (rBm D b)) (hb : plainBase ea = true) (hline : (apos.endLine == pos.line) = true) (hp : (eb :: es).all plainE = true) (hfew : (eb :: es).length < 20)
    (hl : ∀ r m vs m', cl r m = .ok vs m' → vs.length = (eb :: es).length) (ho : SE X D ea ca) (ha : SL X D (eb :: es) cl) : SE X D (.Call (.Attribute ea name apos) (eb :: es) [] pos) (fun r m => (ca r m).bind fun x m1 => onRecv m1 b x ((cl r m1).bind fun vs m2 => lift (method b x vs m2))) := by
  have hp' := hp
  rw [List.all_cons, Bool.and_eq_true] at hp'
  have hf : ((backTo pos (starEach (eb :: es) X.env)).all (fun x => !x.1) && (backToKw pos (keywordEach [] X.env)).all (fun x => x.1.isSome) && decide ((eb :: es).length + ([] : List Keyword).length + (if ([] : List Keyword).isEmpty then 0 else 1) < 30)) = true := by
    rw [star_all hp]
    show decide _ = true
    refine decide_eq_true ?_
    show (eb :: es).length + 0 + 0 < 30
    omega
  refine SE.of (t := fun W => tBM X.K (bmTy b) (rBm D b) (tE X D W ca) (tL X D W cl)) (fun W tk => pe_bm pa slot hty hm (ho W tk) (ha W tk) (base_of hb) hf hline (star_cons hp'.1) (star_none hp'.2)) fun W σ H Q ⟨i, r, m, S, E, h⟩ => ?_
  refine TE_mono (bind1 (k := fun x r m1 => onRecv m1 b x ((cl r m1).bind fun vs m2 => lift (method b x vs m2))) S E h) fun x H1 ⟨i, r, m, v, S, E, q, h⟩ => ?_
  unfold onRecv at h
  dsimp only at h
  split at h
  · rename_i hr
    refine ⟨recv_ty S q hr, TL_mono (bindL1 (k := fun x vs r m2 => lift (method b x vs m2)) hl ⟨i, r, m, v, S, E, q, h⟩) fun xs H2 ⟨i, r, m, v, vs, S, E, q, q2, _, h⟩ => ⟨i, m, v, vs, S, q, q2, Pst.lift h⟩⟩
  · exact h.elim
end

/-! ### attributes -/
theorem lookup_at : ∀ {hs : List (Str × V)} {k : Nat} {f : Str} {v : V}, (hs.map (·.1)).Nodup → (hs.map (·.1))[k]? = some f → (hs.map (·.2))[k]? = some v → hs.lookup f = some v
  | [], k, f, v, _, h, _ => by simp at h
  | (g, u) :: hs, 0, f, v, nd, h1, h2 => by
    simp at h1 h2
    subst h1 h2
    simp [List.lookup]
  | (g, u) :: hs, k + 1, f, v, nd, h1, h2 => by
    rw [List.map_cons, List.nodup_cons] at nd
    rw [List.map_cons, List.getElem?_cons_succ] at h1 h2
    have ne : (f == g) = false := by
      rw [beq_eq_false_iff_ne]
      rintro rfl
      exact nd.1 (List.mem_of_getElem? h1)
    rw [List.lookup, ne]
    exact lookup_at nd.2 h1 h2
theorem lookup_no : ∀ {hs : List (Str × V)} {f : Str}, f ∉ hs.map (·.1) → hs.lookup f = none
  | [], _, _ => rfl
  | (g, u) :: hs, f, h => by
    rw [List.map_cons, List.mem_cons, not_or] at h
    have ne : (f == g) = false := beq_eq_false_iff_ne.mpr h.1
    rw [List.lookup, ne]
    exact lookup_no h.2
/-- what the classes' attributes must be -/
structure AOk (G : Nat → Str) (D : Dat) : Prop where
  nod : ∀ c, (D.fn c).Nodup
  len : ∀ c, (D.fn c).length = D.T.fields c
  few : ∀ c, D.T.fields c < 900
  fix : ∀ c f k, D.T.fix c f = some k → (D.fn c)[k]? = some (G f) ∧ Cls D.K (D.ca c) ∧ NoAttr D.K (D.ca c) (G f)
section
variable {X : Cx} {D : Dat} {ea eb ec : Expr} {es : List Expr} {ca cb cc : Env → M MV} {cl : Env → M (List MV)} {pos p apos : Pos} {G : Nat → Str}
/-- an object's attribute, in the layer's heap -/
theorem getF_at {i : List Addr} {H : Hp} {m : Mem} {x : V} {a y : MV} {f : Nat} {m' : Mem} (A : AOk G D) (S : Sim D i m H) (r : RV D i H x a) (h : getF D.T a f m = some (y, m')) :
    m' = m ∧ ∃ p c dx hs v, x = .ref p ∧ H p = some (.ins (D.ca c) dx hs) ∧ Cls D.K (D.ca c) ∧ NoAttr D.K (D.ca c) (G f) ∧ hs.lookup (G f) = some v ∧ RV D i H v y := by
  have core : ∀ {p dx : Addr} {hs : List (Str × V)} {c : Nat} {fs : List MV}, H p = some (.ins (D.ca c) dx hs) → hs.map (·.1) = (D.fn c).take fs.length → RVs D i H (hs.map (·.2)) fs → (match D.T.fix c f with
      | some k => match fs[k]? with
        | some y => some (y, m)
        | none => none
      | none => none) = some (y, m') → m' = m ∧ ∃ c dx hs v, H p = some (.ins (D.ca c) dx hs) ∧ Cls D.K (D.ca c) ∧ NoAttr D.K (D.ca c) (G f) ∧ hs.lookup (G f) = some v ∧ RV D i H v y := fun {p dx hs c fs} hp hn rs e => by
    split at e
    · rename_i k ek
      split at e
      · rename_i y' ey
        cases e
        obtain ⟨a1, a2, a3⟩ := A.fix c f k ek
        obtain ⟨v, e1, r1⟩ := rs.get ey
        have hk : k < fs.length := (List.getElem?_eq_some_iff.mp ey).1
        refine ⟨rfl, c, dx, hs, v, hp, a2, a3, lookup_at ?_ ?_ e1, r1⟩
        · rw [hn]
          exact (A.nod c).sublist (List.take_sublist _ _)
        · rw [hn, List.getElem?_take_of_lt hk]
          exact a1
      · cases e
    · cases e
  cases r with
  | @obj p dx hs c fs hp hf hn rs =>
    have hl : (D.fn c).length ≤ fs.length := by
      have e1 := rs.length
      have e2 := congrArg List.length hn
      rw [List.length_map] at e1 e2
      omega
    obtain ⟨h1, c, dx, hs, v, h2⟩ := core hp (by rw [hn, List.take_of_length_le hl]) rs h
    exact ⟨h1, p, c, dx, hs, v, rfl, h2⟩
  | @ref p n h0 =>
    unfold getF at h
    dsimp only at h
    split at h
    · rename_i c fs e0
      obtain ⟨dx, hs, hp, hn, rs, _⟩ := S.at_ _ _ _ h0 e0
      obtain ⟨h1, c, dx, hs, v, h2⟩ := core hp hn rs h
      exact ⟨h1, p, c, dx, hs, v, rfl, h2⟩
    · cases h
  | _ => cases h
theorem se_fld {f : Nat} (hK : X.K = D.K) (A : AOk G D) (hb : plainBase ea = true) (ha : SE X D ea ca) : SE X D (.Attribute ea (G f) pos) (fun r m => (ca r m).bind fun x m1 => lift (getF D.T x f m1)) := by
  refine SE.of (t := fun W => tFld X.K (tE X D W ca) (G f)) (fun W tk => pe_fld (ha W tk) (base_of hb)) fun W σ H Q ⟨i, r, m, S, E, h⟩ => ?_
  refine TE_mono (bind1 (k := fun x r m1 => lift (getF D.T x f m1)) S E h) fun x H1 ⟨i, r, m, v, S, E, q, h⟩ => ?_
  have h' := Pst.lift h
  cases e : getF D.T v f m with
  | none => rw [e] at h'; exact h'.elim
  | some pr =>
    obtain ⟨y, m'⟩ := pr
    rw [e] at h'
    obtain ⟨rfl, p, c, dx, hs, u, h1, h2, h3, h4, h5, h6⟩ := getF_at A S q e
    exact ⟨p, _, dx, hs, u, h1, h2, by rw [hK]; exact h3, by rw [hK]; exact h4, h5, h'.here S h6⟩
end
end U
end Part_U7

section Part_U8
set_option Elab.async false
set_option linter.all false
set_option maxRecDepth 100000
set_option maxHeartbeats 4000000
/-! U8: calls of defs, methods and classes. -/
namespace U
open PySem PySem.Spec PyProof.Rows L2
theorem Vals.pick {vs : List V} {us : List Value} (r : Vals vs us) : ∀ ix : List Nat, Vals (U.pick ix vs) (U.pick ix us)
  | [] => .nil
  | k :: ks => by
    have ih := Vals.pick r ks
    have h : (∃ v u, vs[k]? = some v ∧ us[k]? = some u ∧ RelV v u) ∨ (vs[k]? = none ∧ us[k]? = none) := by
      clear ih
      induction r generalizing k with
      | nil => exact .inr ⟨by simp, by simp⟩
      | cons a t ih =>
        cases k with
        | zero => exact .inl ⟨_, _, rfl, rfl, a⟩
        | succ k => simpa using ih k
    rcases h with ⟨v, u, h1, h2, h3⟩ | ⟨h1, h2⟩
    · unfold U.pick
      rw [h1, h2]
      exact .cons h3 ih
    · unfold U.pick
      rw [h1, h2]
      exact ih
theorem Vals.ord {vs : List V} {us : List Value} (r : Vals vs us) : ∀ ix : List Nat, Vals (U.ord ix vs) (U.ord ix us)
  | [] => r
  | k :: ks => Vals.pick r (k :: ks)
theorem RVs.pick {D : Dat} {i : List Addr} {H : Hp} {vs : List V} {xs : List MV} (r : RVs D i H vs xs) : ∀ ix : List Nat, RVs D i H (U.pick ix vs) (U.pick ix xs)
  | [] => .nil
  | k :: ks => by
    have ih := RVs.pick r ks
    have hl := r.length
    cases e : xs[k]? with
    | none =>
      have e' : vs[k]? = none := by rw [List.getElem?_eq_none_iff] at e ⊢; omega
      unfold U.pick
      rw [e, e']
      exact ih
    | some x =>
      obtain ⟨v, e', q⟩ := r.get e
      unfold U.pick
      rw [e, e']
      exact .cons q ih
theorem RVs.ord {D : Dat} {i : List Addr} {H : Hp} {vs : List V} {xs : List MV} (r : RVs D i H vs xs) : ∀ ix : List Nat, RVs D i H (U.ord ix vs) (U.ord ix xs)
  | [] => r
  | k :: ks => RVs.pick r (k :: ks)
theorem pick_len {α β : Type} : ∀ {ix : List Nat} {l : List α} {l' : List β}, l.length = l'.length → (pick ix l).length = (pick ix l').length
  | [], _, _, _ => rfl
  | k :: ks, l, l', h => by
    have ih := pick_len (ix := ks) h
    unfold pick
    by_cases hk : k < l.length
    · rw [List.getElem?_eq_getElem hk, List.getElem?_eq_getElem (by omega : k < l'.length)]
      simp [ih]
    · rw [List.getElem?_eq_none (by omega), List.getElem?_eq_none (by omega)]
      exact ih
theorem ord_len {α β : Type} {ix : List Nat} {l : List α} {l' : List β} (h : l.length = l'.length) : (ord ix l).length = (ord ix l').length := by
  cases ix with
  | nil => exact h
  | cons k ks => exact pick_len h

/-- how a call of n arguments by place and the keywords ks binds: ix the order, ds the defaults behind -/
def KwB (K : PySem.W.Frag) (fd : FuncData) (ps : List Str) (n : Nat) (ks : List Str) (ix : List Nat) (ds : List Value) : Prop :=
  ∀ (s : Shared) (us ws : List Value), K.In s.heap → us.length = n → ws.length = ks.length → BindsTo s fd ⟨us, ks.zip ws⟩ (ps.zip (ord ix (us ++ ws) ++ ds))
/-- .. with what stands ahead (self) -/
def KwB1 (K : PySem.W.Frag) (fd : FuncData) (ps : List Str) (n : Nat) (ks : List Str) (ix : List Nat) (ds : List Value) : Prop :=
  ∀ (s : Shared) (u : Value) (us ws : List Value), K.In s.heap → us.length = n → ws.length = ks.length → BindsTo s fd ⟨u :: us, ks.zip ws⟩ (ps.zip (u :: (ord ix (us ++ ws) ++ ds)))
/-- values that hang on nothing -/
def Free (D : Dat) (vs : List V) (xs : List MV) : Prop := ∀ i H, RVs D i H vs xs
/-- the arguments of a call: by place, then by name -/
def SK (X : Cx) (D : Dat) (kws : List Keyword) (c : Env → M (List MV)) : Prop := ∀ W, Takes X W → PK X kws (tL X D W c)
section
variable {X : Cx} {D : Dat} {e ea eb ec : Expr} {es : List Expr} {ca cb cc : Env → M MV} {cl ck : Env → M (List MV)} {pos p apos kpos : Pos} {x : Str} {kws : List Keyword}
theorem sk_nil : SK X D [] (fun _ m => .ok [] m) := fun W tk => ⟨fun pos pins s σ H Q I ⟨i, r, m, S, E, h⟩ => pk_nil.run pos pins s σ H Q I (h i H [] Ext.refl S .nil)⟩
theorem sk_cons {nm : Option Str} (ha : SE X D ea ca) (hl : SK X D kws ck) : SK X D (⟨nm, ea, kpos⟩ :: kws) (fun r m => (ca r m).bind fun v m1 => (ck r m1).bind fun vs m2 => .ok (v :: vs) m2) := by
  refine fun W tk => ⟨fun pos pins s σ H Q I ⟨i, r, m, S, E, h⟩ => (pk_cons (ha W tk) (hl W tk)).run pos pins s σ H Q I ?_⟩
  refine TE_mono (bind1 (k := fun v r m1 => (ck r m1).bind fun vs m2 => .ok (v :: vs) m2) S E h) fun x H1 ⟨i, r, m, v, S, E, q, h⟩ => ?_
  dsimp only at h
  refine ⟨i, r, m, S, E, ?_⟩
  cases e : ck r m with
  | ok u m1 =>
    rw [e] at h
    exact fun i' H' y e1 S1 q1 => h i' H' (x :: y) e1 S1 (.cons (q.ext e1) q1)
  | ex c fs m1 => rw [e] at h; exact h
  | fail => rw [e] at h; exact h
/-- all arguments -/
def both (cl ck : Env → M (List MV)) : Env → M (List MV) := fun r m => (cl r m).bind fun us m1 => (ck r m1).bind fun ws m2 => .ok (us ++ ws) m2
/-- one run of all arguments, then what is done with them -/
theorem args_run {W : WX} {pins : List (Addr × Obj)} {s : Shared} {σ : L2.St} {H : Hp} {f : Value} {first : List Value} {Q : Value → Shared → Prop} {T : List V → Hp → Prop} (tk : Takes X W) (I : Inv X pins σ H s) (hk : PySem.W.keepIn X.K f = true)
    (hp : es.all plainE = true) (hn : (kws.all fun k => k.1.isSome) = true) (ha : SL X D es cl) (hkw : SK X D kws ck) (hl : ∀ r m vs m', cl r m = .ok vs m' → vs.length = es.length) (hlk : ∀ r m vs m', ck r m = .ok vs m' → vs.length = kws.length) (hz : es = [] → ∀ r m, cl r m = .ok [] m)
    (h : tL X D W (both cl ck) σ H T)
    (hcall : ∀ (s2 : Shared) (H2 : Hp) (us ws : List Value) (xs ys : List V), Inv X pins σ H2 s2 → Vals xs us → Vals ys ws → us.length = es.length → ws.length = kws.length → T (xs ++ ys) H2 → wpAny (model X.prog X.w) X.A (call f (first ++ us) ((kws.filterMap (·.1)).zip ws)) Q X.xe s2) :
    wpAny (model X.prog X.w) X.A (callWith pos f first (backTo pos (starEach es X.env)) (backToKw pos (keywordEach kws X.env))) Q X.xe s := by
  obtain ⟨i, r, m, S, E, h⟩ := h
  have nm : ∀ kws : List Keyword, (backToKw pos (keywordEach kws X.env)).filterMap (·.1) = kws.filterMap (·.1) := fun kws => by
    induction kws with
    | nil => rfl
    | cons k ks ih =>
      obtain ⟨nm, v, kp⟩ := k
      show (((nm, _) : Option Str × Sem Value) :: backToKw pos (keywordEach ks X.env)).filterMap (·.1) = _
      rw [List.filterMap_cons, List.filterMap_cons, ih]
  have hall : ∀ kws : List Keyword, (kws.all fun k => k.1.isSome) = true → (backToKw pos (keywordEach kws X.env)).all (·.1.isSome) = true := fun kws => by
    induction kws with
    | nil => intro _; rfl
    | cons k ks ih =>
      obtain ⟨nm, v, kp⟩ := k
      intro hh
      rw [List.all_cons, Bool.and_eq_true] at hh
      show (((nm, _) : Option Str × Sem Value) :: backToKw pos (keywordEach ks X.env)).all (·.1.isSome) = true
      rw [List.all_cons, ih hh.2, Bool.and_true]
      exact hh.1
  have hany : ∀ l : List (Option Str × Sem Value), l.all (·.1.isSome) = true → l.any (·.1.isNone) = false := fun l => by
    induction l with
    | nil => intro _; rfl
    | cons a l ih =>
      intro hh
      rw [List.all_cons, Bool.and_eq_true] at hh
      rw [List.any_cons, ih hh.2, Bool.or_false]
      cases e : a.1 with
      | none => rw [e] at hh; cases hh.1
      | some y => rfl
  have len2 : ∀ {xs : List V} {us : List Value} {vs : List MV} {i H}, Vals xs us → RVs D i H xs vs → us.length = vs.length := fun a b => a.length.symm.trans b.length
  -- the names, behind the values by place
  have kwr : ∀ (s1 : Shared) (H1 : Hp) (us : List Value) (xs : List V) (vs : List MV) (i : List Addr) (r : Env) (m : Mem), Inv X pins σ H1 s1 → Sim D i m H1 → RE X D i H1 r σ → RVs D i H1 xs vs → Vals xs us → us.length = es.length →
      Pst D W σ (RVs D) T i H1 ((ck r m).bind fun ws m2 => .ok (vs ++ ws) m2) →
      wpAny (model X.prog X.w) X.A (evalAll ((backToKw pos (keywordEach kws X.env)).map (·.2))) (fun ks s₂ => X.K.In s₂.heap ∧ wpAny (model X.prog X.w) X.A (call f (first ++ us) (((backToKw pos (keywordEach kws X.env)).filterMap (·.1)).zip ks)) Q X.xe s₂) X.xe s1 :=
    fun s1 H1 us xs vs i r m I1 S E q rx hu h => by
      refine thn ((hkw W tk).run pos pins s1 σ H1 (fun ys H2 => T (xs ++ ys) H2 ∧ ys.length = kws.length) I1 ⟨i, r, m, S, E, ?_⟩) fun ws s2 ⟨ys, H2, I2, ry, ht, hy⟩ => ⟨I2.kIn, ?_⟩
      · cases e : ck r m with
        | ok u m1 =>
          rw [e] at h
          exact fun i' H' y e1 S1 q1 => ⟨h i' H' (xs ++ y) e1 S1 ((q.ext e1).append q1), by rw [q1.length]; exact hlk r m u m1 e⟩
        | ex c fs m1 => rw [e] at h; exact h
        | fail => rw [e] at h; exact h
      · rw [nm]
        exact hcall s2 H2 us ws xs ys I2 rx ry hu (by rw [← ry.length]; exact hy) ht
  cases es with
  | nil =>
    have h0 : Pst D W σ (RVs D) T i H ((cl r m).bind fun us m1 => (ck r m1).bind fun ws m2 => .ok (us ++ ws) m2) := h
    rw [hz rfl] at h0
    exact PySem.W.callWith_KW0 (h₀ := X.base) I.ok.mod.kin hk (hall kws hn) (kwr s H [] [] [] i r m I S E .nil .nil rfl h0) (by rw [hany _ (hall kws hn)]; rfl)
  | cons e1 es =>
    rw [List.all_cons, Bool.and_eq_true] at hp
    refine PySem.W.callWith_KW (h₀ := X.base) I.ok.mod.kin hk (hall kws hn) (thn ((ha W tk).run pos pins s σ H (fun vs H1 => ∃ i r m us, Sim D i m H1 ∧ RE X D i H1 r σ ∧ RVs D i H1 vs us ∧ us.length = (e1 :: es).length ∧ Pst D W σ (RVs D) T i H1 ((ck r m).bind fun ws m2 => .ok (us ++ ws) m2)) I ⟨i, r, m, S, E, ?_⟩) fun us s1 ⟨xs, H1, I1, rx, i, r, m, vs, S, E, q, hv, h⟩ => ?_) ?_ (star_cons hp.1)
    · have h0 : Pst D W σ (RVs D) T i H ((cl r m).bind fun us m1 => (ck r m1).bind fun ws m2 => .ok (us ++ ws) m2) := h
      cases e : cl r m with
      | ok u m1 =>
        rw [e] at h0
        exact fun i' H' y e1 S1 q1 => ⟨i', r, m1, u, S1, E.ext e1, q1, hl r m u m1 e, h0.ext e1⟩
      | ex c fs m1 => rw [e] at h0; exact h0
      | fail => rw [e] at h0; exact h0
    · exact kwr s1 H1 us xs vs i r m I1 S E q rx (by rw [len2 rx q]; exact hv) h
    · rw [star_none (by rw [List.all_cons, Bool.and_eq_true]; exact hp), hany _ (hall kws hn)]
      rfl
end
/-- how a call binds: h values ahead (self), n arguments by place, the keywords ks; ix the order, defaults behind -/
structure BindF (X : Cx) (D : Dat) (cf : CallF) (f : Nat) (fd : FuncData) (ps : List Str) (h n : Nat) (ks : List Str) (ix : List Nat) : Prop where
  ex : ∃ (ds : List Value) (dvs : List V) (dx : List MV), Vals dvs ds ∧ Free D dvs dx ∧
    (∀ (s : Shared) (u0 us ws : List Value), X.K.In s.heap → u0.length = h → us.length = n → ws.length = ks.length → BindsTo s fd ⟨u0 ++ us, ks.zip ws⟩ (ps.zip (u0 ++ (ord ix (us ++ ws) ++ ds)))) ∧
    ∀ x0 xs : List MV, x0.length = h → xs.length = n + ks.length → (x0 ++ (ord ix xs ++ dx)).length = ps.length ∧ ∀ m, cf f (x0 ++ (ord ix xs ++ dx)) m = cf f (x0 ++ ord ix xs) m
section
variable {X : Cx} {D : Dat} {cf : CallF} {f n : Nat} {fd : FuncData} {ps ks : List Str} {h k : Nat} {ix : List Nat} {a : Addr} {W : WX} {σ : L2.St}
/-- a def runs -/
theorem run_cal {A : Around} {s : Shared} {H : Hp} {i : List Addr} {m : Mem} {Q : VK} {v0 vs ys : List V} {u0 us ws : List Value} {x0 xs : List MV} (F : FnG X.prog X.w X.K X.mg X.base n a fd ps (spOf D ps.length (cf f))) (B : BindF X D cf f fd ps h k ks ix) (hr : RoomG n A)
    (kI : X.K.In s.heap) (e0 : Env0 X.prog X.w X.K X.mg X.base A X.stack s H) (r0 : Vals v0 u0) (r1 : Vals vs us) (r2 : Vals ys ws) (l0 : u0.length = h) (l1 : us.length = k) (l2 : ws.length = ks.length) (S : Sim D i m H) (q0 : RVs D i H v0 x0) (q : RVs D i H (vs ++ ys) xs)
    (hp : Pst D W σ (RV D) Q i H (cf f (x0 ++ ord ix xs) m)) :
    codeAny (model X.prog X.w) A (.call (.ref a) ⟨u0 ++ us, ks.zip ws⟩) (CR (L2.CX X.prog X.w) X.stack X.prog X.w H s Q (fun cls d H' => W cls d σ H')) s := by
  obtain ⟨ds, dvs, dx, rd, fr, hb, hl⟩ := B.ex
  have lx0 : x0.length = h := by rw [← q0.length, r0.length, l0]
  have lx : xs.length = k + ks.length := by rw [← q.length, (r1.append r2).length, List.length_append, l1, l2]
  obtain ⟨h1, h2⟩ := hl x0 xs lx0 lx
  have hv : RVs D i H (v0 ++ (ord ix (vs ++ ys) ++ dvs)) (x0 ++ (ord ix xs ++ dx)) := q0.append ((RVs.ord q ix).append (fr i H))
  refine F.run A X.stack s H ⟨u0 ++ us, ks.zip ws⟩ (u0 ++ (ord ix (us ++ ws) ++ ds)) (v0 ++ (ord ix (vs ++ ys) ++ dvs)) Q _ hr e0 (hb s u0 us ws kI l0 l1 l2) (r0.append ((Vals.ord (r1.append r2) ix).append rd)) ⟨by rw [hv.length]; exact h1, i, m, _, S, hv, ?_⟩
  rw [h2 m]
  cases e : cf f (x0 ++ ord ix xs) m with
  | ok v m1 => rw [e] at hp; exact hp
  | ex c fs m1 => rw [e] at hp; exact hp
  | fail => rw [e] at hp; exact hp
/-- .. in its caller's context -/
theorem run_calX {pins : List (Addr × Obj)} {s : Shared} {H : Hp} {i : List Addr} {m : Mem} {Q : VK} {v0 vs ys : List V} {u0 us ws : List Value} {x0 xs : List MV} (F : FnG X.prog X.w X.K X.mg X.base n a fd ps (spOf D ps.length (cf f))) (B : BindF X D cf f fd ps h k ks ix) (hr : RoomG n X.A) (tk : Takes X W)
    (I : Inv X pins σ H s) (r0 : Vals v0 u0) (r1 : Vals vs us) (r2 : Vals ys ws) (l0 : u0.length = h) (l1 : us.length = k) (l2 : ws.length = ks.length) (S : Sim D i m H) (q0 : RVs D i H v0 x0) (q : RVs D i H (vs ++ ys) xs)
    (hp : Pst D W σ (RV D) Q i H (cf f (x0 ++ ord ix xs) m)) : wpAny (model X.prog X.w) X.A (call (.ref a) (u0 ++ us) (ks.zip ws)) (EP X pins σ Q) X.xe s := by
  refine wpAny_call (codeAny_mono (run_cal F B hr I.kIn I.env0 r0 r1 r2 l0 l1 l2 S q0 q hp) fun r s' hq => ?_)
  cases r with
  | error e => exact tk e s' (XE.of_call I (fun cls d H' z => z) hq)
  | ok fl =>
    cases fl with
    | ret u => exact I.after hq
    | next => exact False.elim hq
    | brk => exact False.elim hq
    | cont => exact False.elim hq
end
section
variable {X : Cx} {D : Dat} {ea : Expr} {es : List Expr} {ca : Env → M MV} {cl ck : Env → M (List MV)} {cf : CallF} {f n : Nat} {fd : FuncData} {ps : List Str} {ix : List Nat} {a : Addr} {pos p apos : Pos} {x : Str} {kws : List Keyword}
theorem two_names {kws : List Keyword} (h : (kws.all fun k => k.1.isSome) = true) : (kws.filterMap (·.1)).length = kws.length := by
  induction kws with
  | nil => rfl
  | cons k ks ih =>
    rw [List.all_cons, Bool.and_eq_true] at h
    rw [List.filterMap_cons]
    obtain ⟨e, he⟩ := Option.isSome_iff_exists.mp h.1
    rw [he]
    exact congrArg Nat.succ (ih h.2)
theorem both_len {j k : Nat} (hl : ∀ r m vs m', cl r m = .ok vs m' → vs.length = j) (hlk : ∀ r m vs m', ck r m = .ok vs m' → vs.length = k) : ∀ r m vs m', both cl ck r m = .ok vs m' → vs.length = j + k := fun r m vs m' e => by
  unfold both at e
  cases e1 : cl r m with
  | ok us m1 =>
    rw [e1] at e
    dsimp only [R.bind] at e
    cases e2 : ck r m1 with
    | ok ws m2 =>
      rw [e2] at e
      cases e
      rw [List.length_append, hl _ _ _ _ e1, hlk _ _ _ _ e2]
    | ex c fs m2 => rw [e2] at e; cases e
    | fail => rw [e2] at e; cases e
  | ex c fs m2 => rw [e1] at e; cases e
  | fail => rw [e1] at e; cases e
theorem se_call (F : FnG X.prog X.w X.K X.mg X.base n a fd ps (spOf D ps.length (cf f))) (B : BindF X D cf f fd ps 0 es.length (kws.filterMap (·.1)) ix) (hr : RoomG n X.A) (hg : Gl X x) (hm : X.mg x = some (.ref a)) (hk : PySem.W.keepIn X.K (.ref a) = true) (hdb : (x == ("__debug__" : Str)) = false)
    (hp : es.all plainE = true) (hn : (kws.all fun k => k.1.isSome) = true) (ha : SL X D es cl) (hkw : SK X D kws ck) (hl : ∀ r m vs m', cl r m = .ok vs m' → vs.length = es.length) (hlk : ∀ r m vs m', ck r m = .ok vs m' → vs.length = kws.length) (hz : es = [] → ∀ r m, cl r m = .ok [] m) :
    SE X D (.Call (.Name x p) es kws pos) (fun r m => (both cl ck r m).bind fun vs m1 => cf f (ord ix vs) m1) := by
  refine fun W tk => ⟨fun pins s σ H Q I ⟨i, r, m, S, E, h⟩ => ?_⟩
  refine wpAny_Call_Name_kw (ld_glob I hg hm ?_ hdb)
  have hbl := both_len hl hlk
  refine args_run (first := []) tk I hk hp hn ha hkw hl hlk hz (bindL (k := fun vs r m1 => cf f (ord ix vs) m1) (n := es.length + kws.length) hbl S E h) fun s2 H2 us ws xs ys I2 rx ry l1 l2 ⟨i, r, m, vs, S, E, q, hv, h⟩ => ?_
  exact run_calX (u0 := []) (v0 := []) (x0 := []) F B hr tk I2 .nil rx ry rfl l1 (by rw [two_names hn]; exact l2) S .nil q h
/-- the methods that a call may reach -/
structure MethF (X : Cx) (D : Dat) (n : Nat) (cf : CallF) (mm : Nat) (name : Str) (k : Nat) (ks : List Str) (ix : List Nat) : Prop where
  at_ : ∀ c f, D.T.meth c mm = some f → ∃ a fd ps, FnG X.prog X.w X.K X.mg X.base n a fd ps (spOf D ps.length (cf f)) ∧ BindF X D cf f fd ps 1 k ks ix ∧ Cls X.K (D.ca c) ∧ Meth X.K (D.ca c) name a ∧ name ∉ D.fn c
theorem se_meth {mm : Nat} {name : Str} (M : MethF X D n cf mm name es.length (kws.filterMap (·.1)) ix) (hr : RoomG n X.A) (hb : plainBase ea = true) (hline : (apos.endLine == pos.line) = true) (hfew : es.length + kws.length < 20)
    (hp : es.all plainE = true) (hn : (kws.all fun k => k.1.isSome) = true) (ho : SE X D ea ca) (ha : SL X D es cl) (hkw : SK X D kws ck) (hl : ∀ r m vs m', cl r m = .ok vs m' → vs.length = es.length) (hlk : ∀ r m vs m', ck r m = .ok vs m' → vs.length = kws.length) (hz : es = [] → ∀ r m, cl r m = .ok [] m) :
    SE X D (.Call (.Attribute ea name apos) es kws pos) (fun r m => (ca r m).bind fun x m1 => onMeth D.T m1 x mm fun f => (both cl ck r m1).bind fun vs m2 => cf f (x :: ord ix vs) m2) := by
  refine fun W tk => ⟨fun pins s σ H Q I ⟨i, r, m, S, E, h⟩ => ?_⟩
  rw [arm_eval_Call, base_of hb]
  refine wpAny_bind (thn ((ho W tk).run pins s σ H _ I (bind1 (k := fun x r m1 => onMeth D.T m1 x mm fun f => (both cl ck r m1).bind fun vs m2 => cf f (x :: ord ix vs) m2) S E h)) fun u s1 ⟨x, H1, I1, rx, i, r, m, v, S, E, q, h⟩ => wpAny_bind (wpAny_standAt ?_))
  have hall : ∀ kws : List Keyword, (kws.all fun k => k.1.isSome) = true → (backToKw pos (keywordEach kws X.env)).all (·.1.isSome) = true := fun kws => by
    induction kws with
    | nil => intro _; rfl
    | cons k ks ih =>
      obtain ⟨nm, v, kp⟩ := k
      intro hh
      rw [List.all_cons, Bool.and_eq_true] at hh
      show (((nm, _) : Option Str × Sem Value) :: backToKw pos (keywordEach ks X.env)).all (·.1.isSome) = true
      rw [List.all_cons, ih hh.2, Bool.and_true]
      exact hh.1
  have hf : methodCallForm (es.length + kws.length) (backTo pos (starEach es X.env)) (backToKw pos (keywordEach kws X.env)) = true := by
    unfold methodCallForm
    rw [star_all hp, hall kws hn]
    show decide _ = true
    refine decide_eq_true ?_
    split <;> omega
  rw [mcall_line hf hline]
  unfold onMeth at h
  dsimp only at h
  cases ec : clsOf m v with
  | none => rw [ec] at h; exact h.elim
  | some c =>
    rw [ec] at h
    dsimp only at h
    cases ef : D.T.meth c mm with
    | none => rw [ef] at h; exact h.elim
    | some f =>
      rw [ef] at h
      dsimp only at h
      obtain ⟨a, fd, ps, F, B, hC, hM, hno⟩ := M.at_ c f ef
      have ob : ∃ pa dx hs, x = .ref pa ∧ H1 pa = some (.ins (D.ca c) dx hs) ∧ hs.lookup name = none := by
        cases q with
        | @obj pa dx hs c' fs hp' hf' hn' rs =>
          cases ec
          exact ⟨pa, dx, hs, rfl, hp', lookup_no (by rw [hn']; exact hno)⟩
        | @ref pa k h0 =>
          unfold clsOf at ec
          dsimp only at ec
          split at ec
          · rename_i c' fs e0
            cases ec
            obtain ⟨dx, hs, hp', hn', _, _⟩ := S.at_ _ _ _ h0 e0
            exact ⟨pa, dx, hs, rfl, hp', lookup_no (by rw [hn']; exact fun z => hno (List.mem_of_mem_take z))⟩
          · cases ec
        | _ => cases ec
      obtain ⟨pa, dx, hs, rfl, hpa, hlo⟩ := ob
      obtain rfl : u = Value.ref pa := rx
      refine wpAny_bind (wpAny_holding (getmeth_ok I1 hpa hC hM hlo ?_))
      refine args_run (first := [.ref pa]) tk I1 hM.kp hp hn ha hkw hl hlk hz (T := fun xs H1 => ∃ i r m vs, Sim D i m H1 ∧ RE X D i H1 r σ ∧ RV D i H1 (.ref pa) v ∧ RVs D i H1 xs vs ∧ Pst D W σ (RV D) Q i H1 (cf f (v :: ord ix vs) m)) ?_ fun s2 H2 us ws xs ys I2 rx ry l1 l2 ⟨i, r, m, vs, S, E, q0, q, h⟩ => ?_
      · refine ⟨i, r, m, S, E, ?_⟩
        cases e : both cl ck r m with
        | ok us m1 =>
          rw [e] at h
          exact fun i' H' y e1 S1 q1 => ⟨i', r, m1, us, S1, E.ext e1, q.ext e1, q1, h.ext e1⟩
        | ex c fs m1 => rw [e] at h; exact h
        | fail => rw [e] at h; exact h
      · exact run_calX (u0 := [.ref pa]) (v0 := [.ref pa]) (x0 := [v]) F B hr tk I2 (.cons rfl .nil) rx ry rfl l1 (by rw [two_names hn]; exact l2) S (.one q0) q h
end
end U
end Part_U8

section Part_U9
set_option Elab.async false
set_option linter.all false
set_option maxRecDepth 100000
set_option maxHeartbeats 4000000
/-! U9: objects are made. -/
namespace U
open PySem PySem.Spec PyProof.Rows L2
theorem Sim.dead {D : Dat} {i : List Addr} {m : Mem} {H : Hp} (S : Sim D i m H) (n : Nat) : Sim D i (m.set n .dead) H := by
  refine ⟨by rw [List.length_set]; exact S.len, fun j a o e1 e2 => ?_, fun j k a o u e1 e2 e3 e4 l1 l2 => ?_⟩
  · by_cases q : j = n
    · subst q
      have hl : j < m.length := by
        have h := (List.getElem?_eq_some_iff.mp e2).1
        rw [List.length_set] at h
        exact h
      rw [List.getElem?_set_self hl] at e2
      cases e2
      trivial
    · rw [List.getElem?_set_ne (Ne.symm q)] at e2
      exact S.at_ j a o e1 e2
  · have old : ∀ (j : Nat) (o : MO), (m.set n .dead)[j]? = some o → live o = true → m[j]? = some o := fun j o e l => by
      by_cases q : j = n
      · subst q
        have hl : j < m.length := by
          have h := (List.getElem?_eq_some_iff.mp e).1
          rw [List.length_set] at h
          exact h
        rw [List.getElem?_set_self hl] at e
        cases e
        cases l
      · rw [List.getElem?_set_ne (Ne.symm q)] at e
        exact e
    exact S.nd j k a o u e1 e2 (old j o e3 l1) (old k u e4 l2) l1 l2
section
variable {D : Dat} {W : WX} {σ : L2.St} {H : Hp}
theorem getE_append_len {α : Type} {l : List α} {x : α} {n : Nat} (h : l.length = n) : (l ++ [x])[n]? = some x := by
  subst h
  exact getE_new
/-- an object's end: what made tells stands -/
theorem made_ok {i i2 : List Addr} {m m2 : Mem} {H2 : Hp} {c : Nat} {x : Addr} {Q : VK} (hfn : ∀ c, (D.fn c).length = D.T.fields c) (S : Sim D i m H) (S2 : Sim D i2 m2 H2) (e2 : Ext D i H i2 H2) (hx : i2[m.length]? = some x) (h : Pst D W σ (RV D) Q i H (made D.T c m m2)) : Q (.ref x) H2 := by
  unfold made at h
  split at h
  · rename_i d fs e0
    obtain ⟨dx, hs, h1, h2, h3, h4⟩ := S2.at_ _ _ _ hx e0
    split at h
    · rename_i hd
      subst hd
      split at h
      · rename_i hf
        split at h
        · rename_i hl
          have hn : hs.map (·.1) = D.fn d := by rw [h2, List.take_of_length_le (by rw [hfn, hl]; exact Nat.le_refl _)]
          split at h
          · rename_i hc
            refine h (i2.take m.length) H2 (.ref x) ⟨fun k a z => take_pre k a (by have := (List.getElem?_eq_some_iff.mp z).1; have := S.len; omega) (e2.pre k a z), e2.sol⟩ (S2.slim (okOld_low S hc.1)) (.obj h1 hf hn (h3.slim (n := m.length) take_pre hc.2.2))
          · exact h i2 H2 (.ref x) e2 (S2.dead _) (.obj h1 hf hn h3)
        · exact h.elim
      · exact h i2 H2 (.ref x) e2 S2 (.ref hx)
    · exact h.elim
  · exact h.elim
end
/-- what is asked of a class that is made by C(..) -/
structure NewF (X : Cx) (D : Dat) (n : Nat) (cf : CallF) (c k : Nat) (ks : List Str) (ix : List Nat) : Prop where
  fn : ∀ c, (D.fn c).length = D.T.fields c
  how : (∃ f a fd ps, D.T.init c = some f ∧ FnG X.prog X.w X.K X.mg X.base n a fd ps (spOf D ps.length (cf f)) ∧ BindF X D cf f fd ps 1 k ks ix ∧ Mk X.K (D.ca c) a)
section
variable {X : Cx} {D : Dat} {es : List Expr} {cl ck : Env → M (List MV)} {cf : CallF} {n c : Nat} {ix : List Nat} {a : Addr} {pos p apos : Pos} {x : Str} {kws : List Keyword}
theorem se_new (N : NewF X D n cf c es.length (kws.filterMap (·.1)) ix) (hr : RoomB n X.A) (hg : Gl X x) (hm : X.mg x = some (.ref (D.ca c))) (hdb : (x == ("__debug__" : Str)) = false)
    (hp : es.all plainE = true) (hn : (kws.all fun k => k.1.isSome) = true) (ha : SL X D es cl) (hkw : SK X D kws ck) (hl : ∀ r m vs m', cl r m = .ok vs m' → vs.length = es.length) (hlk : ∀ r m vs m', ck r m = .ok vs m' → vs.length = kws.length) (hz : es = [] → ∀ r m, cl r m = .ok [] m) :
    SE X D (.Call (.Name x p) es kws pos) (fun r m => (both cl ck r m).bind fun vs m1 => newObj D.T cf c (ord ix vs) m1) := by
  obtain ⟨f, a, fd, ps, hi, F, B, Mk⟩ := N.how
  refine fun W tk => ⟨fun pins s σ H Q I ⟨i, r, m, S, E, h⟩ => ?_⟩
  refine wpAny_Call_Name_kw (ld_glob I hg hm ?_ hdb)
  have hbl := both_len hl hlk
  refine args_run (first := []) tk I Mk.kp hp hn ha hkw hl hlk hz (bindL (k := fun vs r m1 => newObj D.T cf c (ord ix vs) m1) (n := es.length + kws.length) hbl S E h) fun s2 H2 us ws xs ys I2 rx ry l1 l2 ⟨i, r, m, vs, S, E, q, hv, h⟩ => ?_
  unfold newObj at h
  rw [hi] at h
  dsimp only at h
  have nx : H2 (s2.heap.objs.size + 1) = none := I2.hok.fresh (Nat.le_succ _)
  have nd : H2 s2.heap.objs.size = none := I2.hok.fresh (Nat.le_refl _)
  have ne : s2.heap.objs.size ≠ s2.heap.objs.size + 1 := Nat.ne_of_lt (Nat.lt_succ_self _)
  have I3 := Inv.made (C := D.ca c) I2
  generalize hxx : s2.heap.objs.size + 1 = xa at *
  generalize hdd : s2.heap.objs.size = da at *
  have e1 : Ext D i H2 (i ++ [xa]) (upd (upd H2 da (.own xa)) xa (.ins (D.ca c) da [])) := by
    refine ⟨fun _ _ z => getE_old z, fun b o z sv => ?_⟩
    rw [upd_ne (ne_of_none z nx), upd_ne (ne_of_none z nd)]
    exact z
  have S3 : Sim D (i ++ [xa]) (m ++ [.ins c []]) (upd (upd H2 da (.own xa)) xa (.ins (D.ca c) da [])) :=
    S.alloc (p := xa) nx e1 (fun b o z => by rw [upd_ne (ne_of_none z nx), upd_ne (ne_of_none z nd)]; exact z) ⟨da, [], upd_same, rfl, .nil, Nat.zero_le _⟩
  have hx : (i ++ [xa])[m.length]? = some xa := getE_append_len S.len
  have hp2 : Pst D W σ (RV D) (fun v H' => v = .non ∧ Q (.ref xa) H') (i ++ [xa]) (upd (upd H2 da (.own xa)) xa (.ins (D.ca c) da [])) (cf f (.ref m.length :: ord ix vs) (m ++ [.ins c []])) := by
    cases e : cf f (.ref m.length :: ord ix vs) (m ++ [.ins c []]) with
    | ok v m2 =>
      rw [e] at h
      dsimp only [R.bind] at h
      intro i2 H3 y e2 S2 ry
      cases v with
      | non =>
        refine ⟨by cases ry; rfl, made_ok N.fn S S2 (e1.trans e2) (e2.pre _ _ hx) h⟩
      | _ => exact h.elim
    | ex d fs m2 =>
      rw [e] at h
      exact fun i2 H3 cls d e2 S2 rx => h i2 H3 cls d (e1.trans e2) S2 rx
    | fail => rw [e] at h; exact h.elim
  subst hxx hdd
  refine wpAny_call (make_map (f := a) I2.kIn Mk.makes Mk.init (beq_iff_eq.mp Mk.fn) (codeAny_mono (run_cal (u0 := [.ref (s2.heap.objs.size + 1)]) (v0 := [.ref (s2.heap.objs.size + 1)]) (x0 := [.ref m.length]) F B (hr.make (D.ca c) us _) I3.kIn (I3.env0.make (D.ca c) us _)
    (.cons rfl .nil) rx ry rfl l1 (by rw [two_names hn]; exact l2) S3 (.one (.ref hx)) (q.ext e1) hp2) fun r s' hq => ?_))
  cases r with
  | error e => exact tk e s' (XE.of_call I3 (fun cls d H' z => z) hq)
  | ok fl =>
    cases fl with
    | ret u =>
      obtain ⟨v, H', I4, rv, ev, q3⟩ := I3.after hq
      subst ev
      exact ⟨rv, ⟨V.ref (s2.heap.objs.size + 1), H', I4, rfl, q3⟩⟩
    | next => exact False.elim hq
    | brk => exact False.elim hq
    | cont => exact False.elim hq
/-- a class without an __init__ of its own -/
structure Mk0 (K : PySem.W.Frag) (C : Addr) : Prop where
  makes : PySem.W.makesIn K C = true
  init : PySem.W.findIn K (.ref C) "__init__" = some (some (.builtin "object.__init__"))
  top : PySem.W.mroIn K C (.type "object") = some true
  kp : PySem.W.keepIn K (.ref C) = true
theorem se_new0 (hfn : ∀ c, (D.fn c).length = D.T.fields c) (M : Mk0 X.K (D.ca c)) (hi : D.T.init c = none) (hg : Gl X x) (hm : X.mg x = some (.ref (D.ca c))) (hdb : (x == ("__debug__" : Str)) = false) :
    SE X D (.Call (.Name x p) [] [] pos) (fun r m => newObj D.T cf c [] m) := by
  refine fun W tk => ⟨fun pins s σ H Q I ⟨i, r, m, S, E, h⟩ => ?_⟩
  refine wpAny_Call_Name_kw (ld_glob I hg hm ?_ hdb)
  unfold newObj at h
  rw [hi] at h
  dsimp only at h
  have nx : H (s.heap.objs.size + 1) = none := I.hok.fresh (Nat.le_succ _)
  have nd : H s.heap.objs.size = none := I.hok.fresh (Nat.le_refl _)
  have I3 := Inv.made (C := D.ca c) I
  have e1 : Ext D i H (i ++ [s.heap.objs.size + 1]) (upd (upd H s.heap.objs.size (.own (s.heap.objs.size + 1))) (s.heap.objs.size + 1) (.ins (D.ca c) s.heap.objs.size [])) := by
    refine ⟨fun _ _ z => getE_old z, fun b o z sv => ?_⟩
    rw [upd_ne (ne_of_none z nx), upd_ne (ne_of_none z nd)]
    exact z
  have S3 : Sim D (i ++ [s.heap.objs.size + 1]) (m ++ [.ins c []]) (upd (upd H s.heap.objs.size (.own (s.heap.objs.size + 1))) (s.heap.objs.size + 1) (.ins (D.ca c) s.heap.objs.size [])) :=
    S.alloc (p := s.heap.objs.size + 1) nx e1 (fun b o z => by rw [upd_ne (ne_of_none z nx), upd_ne (ne_of_none z nd)]; exact z) ⟨_, [], upd_same, rfl, .nil, Nat.zero_le _⟩
  have hq := made_ok hfn S S3 e1 (getE_append_len S.len) h
  refine PySem.W.callWith_K0 I.kIn M.kp (wpAny_call (make_map0 I.kIn M.makes M.init (fun self => PySem.W.Looks.of_pure (PySem.W.oi_bind _)) ?_))
  have hob : ((s.heap.push PySem.W.emptyDict).push (PySem.W.instObj (D.ca c) s.heap.objs.size)).get? (s.heap.objs.size + 1) = some (PySem.W.instObj (D.ca c) s.heap.objs.size) := by
    have := Heap.get?_push_size (s.heap.push PySem.W.emptyDict) (o := PySem.W.instObj (D.ca c) s.heap.objs.size) rfl
    rwa [Heap.size_push] at this
  have t1 : PySem.W.Looks (model X.prog X.w) ((s.heap.push PySem.W.emptyDict).push (PySem.W.instObj (D.ca c) s.heap.objs.size)) (typeOf (.ref (s.heap.objs.size + 1))) (.ref (D.ca c)) := (PySem.W.Looks.ld (part := none) hob).andThen .now
  have t2 : PySem.W.Looks (model X.prog X.w) ((s.heap.push PySem.W.emptyDict).push (PySem.W.instObj (D.ca c) s.heap.objs.size)) (isInstance (.ref (s.heap.objs.size + 1)) (.type "object")) true := t1.andThen (PySem.W.looks_mroIn I3.kIn M.top)
  refine codeAny_call_builtin PySem.W.oi_plain PySem.W.entry_oi (@PySem.W.check_slot (model X.prog X.w) _ _ _ "object.__init__" "object" "__init__" (.ref (s.heap.objs.size + 1)) [] [] _ PySem.W.oi_kind PySem.W.oi_split t2 (PySem.W.oi_args _) ?_)
  rw [PySem.W.oi_run]
  exact wpAny_pure ⟨rfl, ⟨V.ref (s.heap.objs.size + 1), _, I3, rfl, hq⟩⟩
end
end U
end Part_U9

section Part_U10
set_option Elab.async false
set_option linter.all false
set_option maxRecDepth 100000
set_option maxHeartbeats 4000000
/-! U10: isinstance, what is walked, comprehensions. -/
namespace U
open PySem PySem.Spec PyProof.Rows L2

/-! ### kinds -/
def tyName : Ty → String
  | .own _ => "" | .int => "int" | .bool => "bool" | .str => "str" | .tup => "tuple" | .lst => "list" | .dct => "dict"
def tyV (D : Dat) : Ty → Value
  | .own c => .ref (D.ca c)
  | t => .type (tyName t)
def vtV (D : Dat) : Option Ty → Value
  | none => .type "NoneType"
  | some t => tyV D t
def vtIn (T : Tab) : Option Ty → Bool
  | none => true
  | some a => tyIn T a
structure KitF (D : Dat) : Prop where
  kit : ∀ (a : Option Ty) (t : Ty), vtIn D.T a = true → tyIn D.T t = true → PySem.W.kitOne D.K (vtV D a) (tyV D t) = some (isTy D.T a t)
  ins : ∀ c, c < D.T.ncls → Cls D.K (D.ca c) ∧ PySem.W.findIn D.K (.ref (D.ca c)) "__class__" = some (some (.builtin "object.__class__")) ∧ PySem.W.mroIn D.K (D.ca c) (.type "object") = some true
  spec : PySem.W.specialIn D.K (.builtin "object.__class__") "__get__" = some (some (.builtin "getset_descriptor.__get__"))
  takes : PySem.W.takesIn D.K (.builtin "object.__class__") = some true
section
variable {D : Dat} {i : List Addr} {m : Mem} {H : Hp}
theorem sqt_ty {K : PySem.W.Frag} {a : Addr} {vs : List V} (h : SqT K H a vs) : TyX K H (.ref a) (.type "tuple") := by
  rcases h with (h | ⟨o, h⟩) | ⟨o, _, _, h, c, _⟩
  · exact .base (.tup h)
  · exact .fTuple h
  · exact .kTuple h c
theorem sqf_ty {K : PySem.W.Frag} {a : Addr} {vs : List V} (h : SqF K H a vs) : TyX K H (.ref a) (.type "list") := by
  rcases h with ⟨o, h⟩ | ⟨o, _, _, h, c, _⟩
  · exact .base (.frz h)
  · exact .kList h c
theorem vty_ok (F : KitF D) {x : V} {v : MV} {a : Option Ty} (S : Sim D i m H) (q : RV D i H x v) (h : vty D.T m v = some a) : TyX D.K H x (vtV D a) ∧ vtIn D.T a = true := by
  have own : ∀ {p dx : Addr} {hs : List (Str × V)} {c : Nat}, H p = some (.ins (D.ca c) dx hs) → (if c < D.T.ncls then some (some (Ty.own c)) else none) = some a → TyX D.K H (.ref p) (vtV D a) ∧ vtIn D.T a = true := fun {p dx hs c} hp e => by
    split at e
    · rename_i hc
      cases e
      obtain ⟨h1, h2, h3⟩ := F.ins c hc
      exact ⟨.base (.ins hp h1 h2 F.spec F.takes h3), decide_eq_true hc⟩
    · cases e
  cases q with
  | non => cases h; exact ⟨.base .non, rfl⟩
  | bl b => cases h; exact ⟨.base (.bl b), rfl⟩
  | int n => cases h; exact ⟨.base (.int n), rfl⟩
  | str z => cases h; exact ⟨.base (.str _), rfl⟩
  | tup hq _ => cases h; exact ⟨sqt_ty hq, rfl⟩
  | obj hp _ _ _ => exact own hp h
  | @ref p n h0 =>
    unfold vty at h
    dsimp only at h
    split at h
    · rename_i xs e0
      cases h
      obtain ⟨vs, h1, _⟩ := S.at_ _ _ _ h0 e0
      exact ⟨.base (.lst h1), rfl⟩
    · rename_i xs e0
      cases h
      obtain ⟨vs, h1, _⟩ := S.at_ _ _ _ h0 e0
      exact ⟨sqf_ty h1, rfl⟩
    · rename_i xs e0
      cases h
      obtain ⟨vs, h1, _⟩ := S.at_ _ _ _ h0 e0
      exact ⟨.base (.dK h1), rfl⟩
    · rename_i c fs e0
      obtain ⟨dx, hs, h1, _⟩ := S.at_ _ _ _ h0 e0
      exact own h1 h
    · cases h
theorem tyAny_kit (F : KitF D) {v : MV} {a : Option Ty} (h : vty D.T m v = some a) (ha : vtIn D.T a = true) : ∀ {ts : List Ty} {b : Bool}, tyAny D.T m v ts = some b → PySem.W.kitAny D.K (vtV D a) (ts.map (tyV D)) = some b
  | [], b, e => by cases e; exact kitAny_nil
  | t :: ts, b, e => by
    unfold tyAny tyIs at e
    rw [h] at e
    dsimp only at e
    by_cases ht : tyIn D.T t = true
    · rw [if_pos ht] at e
      cases e2 : tyAny D.T m v ts with
      | none => rw [e2] at e; cases e
      | some b2 =>
        rw [e2] at e
        cases e
        have k1 := F.kit a t ha ht
        refine kitAny_cons k1 (fun z => ?_) fun z => by rw [z]; rfl
        rw [z, Bool.false_or]
        exact tyAny_kit F h ha e2
    · rw [if_neg ht] at e
      cases e
/-- a class, named in the text -/
def TyE (X : Cx) (D : Dat) (e : Expr) (t : Ty) : Prop := ∃ v, PE X e (tC v) ∧ ClsV v (tyV D t)
/-- classes, one behind another -/
inductive TyEs (X : Cx) (D : Dat) : List Expr → List Ty → Prop
  | nil : TyEs X D [] []
  | cons {e : Expr} {t : Ty} {es : List Expr} {ts : List Ty} : TyE X D e t → (∀ env, starEach (e :: es) env = (false, eval e env) :: starEach es env) → TyEs X D es ts → TyEs X D (e :: es) (t :: ts)
end
section
variable {X : Cx} {D : Dat} {ea ec : Expr} {ca : Env → M MV} {pos p : Pos}
/-- constants only -/
theorem tys_run {es : List Expr} {ts : List Ty} (h : TyEs X D es ts) : ∃ vs : List V, Paired ClsV vs (ts.map (tyV D)) ∧ vs.length = ts.length ∧ PA X es (fun σ H Q => Q vs H) := by
  induction h with
  | nil => exact ⟨[], .nil, rfl, U.PA.imp pa_nil fun σ H Q q => q⟩
  | cons h hs _ ih =>
    obtain ⟨v, hv, kv⟩ := h
    obtain ⟨vs, h1, hl, h2⟩ := ih
    exact ⟨v :: vs, .cons kv h1, congrArg Nat.succ hl, U.PA.imp (pa_cons hv h2 (hs _)) fun σ H Q q => q⟩
theorem se_isi1 {t : Ty} (F : KitF D) (hK : X.K = D.K) (hg : Gl X "isinstance") (hm : X.mg "isinstance" = none) (hp : plainE ea = true) (hpc : plainE ec = true) (hc : TyE X D ec t) (ha : SE X D ea ca) :
    SE X D (.Call (.Name "isinstance" p) [ea, ec] [] pos) (fun r m => (ca r m).bind fun x m1 => lift (okb (tyAny D.T m1 x [t]) m1)) := by
  obtain ⟨v, hv, kv⟩ := hc
  have hb : bootBuiltins "isinstance" = some (.builtin "isinstance") := by decide +kernel
  refine SE.of (t := fun W => tCB (rIsi X.K) (tCons (tE X D W ca) (tCons (tC v) tNil))) (fun W tk => pe_callB call_isi hg hm hb (pa_cons (ha W tk) (pa_cons hv pa_nil (star_cons hpc)) (star_cons hp)) (by decide) (by decide) (star_cons hp) (star_none (by rw [List.all_cons, hpc]; rfl))) fun W σ H Q ⟨i, r, m, S, E, h⟩ => ?_
  refine TE_mono (bind1 (k := fun x r m1 => lift (okb (tyAny D.T m1 x [t]) m1)) S E h) fun x H1 ⟨i, r, m, u, S, E, q, h⟩ => ?_
  have h' := Pst.lift h
  cases e : tyAny D.T m u [t] with
  | none => rw [e] at h'; exact h'.elim
  | some b =>
    rw [e] at h'
    unfold tyAny tyIs at e
    cases e1 : vty D.T m u with
    | none => rw [e1] at e; cases e
    | some a =>
      rw [e1] at e
      dsimp only at e
      by_cases ht : tyIn D.T t = true
      · rw [if_pos ht] at e
        cases e
        obtain ⟨h1, h2⟩ := vty_ok F S q e1
        show rIsi X.K [x, v] H1 Q
        rw [hK]
        exact ⟨x, v, _, _, _, rfl, kv, h1, F.kit a t h2 ht, by
          have := h' i H1 _ Ext.refl S (.bl (isTy D.T a t || false))
          simpa using this⟩
      · rw [if_neg ht] at e; cases e
theorem se_isiT {ts : List Ty} {es : List Expr} {k : Nat} {pt : Pos} (F : KitF D) (hK : X.K = D.K) (hg : Gl X "isinstance") (hm : X.mg "isinstance" = none) (hp : plainE ea = true) (hc : TyEs X D es ts) (hz : ts.length ≤ 1000) (hne : ts ≠ []) (ha : SE X D ea ca) :
    SE X D (.Call (.Name "isinstance" p) [ea, .Tuple es k pt] [] pos) (fun r m => (ca r m).bind fun x m1 => lift (okb (tyAny D.T m1 x ts) m1)) := by
  obtain ⟨vs, kv, hl, hv⟩ := tys_run hc
  have hb : bootBuiltins "isinstance" = some (.builtin "isinstance") := by decide +kernel
  have hpc : plainE (.Tuple es k pt) = true := rfl
  refine SE.of (t := fun W => tCB (rIsiT X.K) (tCons (tE X D W ca) (tCons (tTup (fun σ H Q => Q vs H)) tNil))) (fun W tk => pe_callB call_isiT hg hm hb (pa_cons (ha W tk) (pa_cons (pe_tup hv) pa_nil (star_cons hpc)) (star_cons hp)) (by decide) (by decide) (star_cons hp) (star_none (by rw [List.all_cons, hpc]; rfl))) fun W σ H Q ⟨i, r, m, S, E, h⟩ => ?_
  refine TE_mono (bind1 (k := fun x r m1 => lift (okb (tyAny D.T m1 x ts) m1)) S E h) fun x H1 ⟨i, r, m, u, S, E, q, h⟩ => ?_
  refine ⟨by rw [hl, sizeLine_eq]; omega, fun tp ht => ?_⟩
  have h' := Pst.lift h
  cases e : tyAny D.T m u ts with
  | none => rw [e] at h'; exact h'.elim
  | some b =>
    rw [e] at h'
    cases e1 : vty D.T m u with
    | none =>
      cases ts with
      | nil => exact absurd rfl hne
      | cons t ts => unfold tyAny tyIs at e; rw [e1] at e; cases e
    | some a =>
      obtain ⟨h1, h2⟩ := vty_ok F (S.beside (o := .tup vs) ht) (q.ext (Ext.fresh (o := .tup vs) ht i)) e1
      show rIsiT X.K [x, .ref tp] (upd H1 tp (.tup vs)) Q
      rw [hK]
      exact ⟨x, tp, vs, _, _, b, rfl, upd_same, kv, h1, tyAny_kit F e1 h2 e, h' i _ _ (Ext.fresh ht i) (S.beside ht) (.bl b)⟩
end
end U
end Part_U10

section Part_U11
set_option Elab.async false
set_option linter.all false
set_option maxRecDepth 100000
set_option maxHeartbeats 4000000
/-! U11: what is walked, comprehensions. -/
namespace U
open PySem PySem.Spec PyProof.Rows L2
/-- an iterator that walks w -/
def Wk (D : Dat) (J : It) (w : Walked) (i : List Addr) (H : Hp) : Prop := ∀ i' H' m', Ext D i H i' H' → Sim D i' m' H' → w.still m' = true →
  (∀ j y, w.items[j]? = some y → J.go j H' ∧ ∀ x H'', J.yld j H' x H'' → Ext D i' H' i' H'' ∧ Sim D i' m' H'' ∧ RV D i' H'' x y) ∧ ∀ j, w.items.length ≤ j → J.stop j H'
theorem Wk.ext {D : Dat} {J : It} {w : Walked} {i i' : List Addr} {H H' : Hp} (h : Wk D J w i H) (e : Ext D i H i' H') : Wk D J w i' H' := fun i2 H2 m2 e2 => h i2 H2 m2 (e.trans e2)
def tI (X : Cx) (D : Dat) (W : WX) (c : Env → M Walked) : TI := fun σ H R => ∃ i r m, Sim D i m H ∧ RE X D i H r σ ∧ Pst D W σ (fun i H J w => Wk D J w i H) R i H (c r m)
def SI (X : Cx) (D : Dat) (tg it : Expr) (c : Env → M Walked) : Prop := ∀ W, Takes X W → PI X tg it (tI X D W c)
section
variable {X : Cx} {tg e : Expr}
def iAny (K : PySem.W.Frag) (te : TE) : TI := fun σ H R => te σ H fun v H1 => (∃ a xs, v = .ref a ∧ SqL K H1 a xs ∧ R (Itl K a) H1) ∨ (∃ a xs, v = .ref a ∧ SqT K H1 a xs ∧ R (Itt K a) H1) ∨ ∃ x, v = .str x ∧ R (Its x) H1
theorem pi_any {te : TE} (he : PE X e te) : PI X tg e (iAny X.K te) := by
  refine ⟨fun pins s σ H R I h => ?_⟩
  refine thn (he.run pins s σ H _ I h) fun v s1 ⟨x, H1, I1, r1, q1⟩ => ?_
  rcases q1 with ⟨a, xs, rfl, hq, q⟩ | ⟨a, xs, rfl, hq, q⟩ | ⟨y, rfl, q⟩
  · cases (show v = Value.ref a from r1)
    obtain ⟨its, rv, p, hz⟩ := I1.list hq
    exact wpAny_pyIter_list p.isList (pi_one (tk := s1.toks) I1 _ (turn_list a _) ⟨_, Heap.get?_push_size _ rfl, rfl, rfl⟩ q)
  · cases (show v = Value.ref a from r1)
    obtain ⟨its, rv, p, hz⟩ := I1.tuple hq
    exact wpAny_pyIter_tuple (show s1.heap.IsTuple a its.toArray from p) (pi_one (tk := s1.toks) I1 _ (turn_tuple a _) ⟨_, Heap.get?_push_size _ rfl, rfl, rfl⟩ q)
  · obtain ⟨t, rfl⟩ := (show ∃ t, v = Value.str y t from r1)
    cases ha : y.cps.all (· < 128)
    · exact wpAny_pyIter_wide ha (pi_one (tk := s1.toks) I1 _ (turn_str _ y t "str_iterator" (.inr rfl)) ⟨_, Heap.get?_push_size _ rfl, rfl, rfl⟩ q)
    · exact wpAny_pyIter_ascii ha (pi_one (tk := s1.toks) I1 _ (turn_str _ y t "str_ascii_iterator" (.inl rfl)) ⟨_, Heap.get?_push_size _ rfl, rfl, rfl⟩ q)
end
section
variable {D : Dat} {i : List Addr} {m : Mem} {H : Hp}
theorem sqt_inj {K : PySem.W.Frag} {a : Addr} {vs ws : List V} (S : SqT K H a vs) : SqT K H a vs := S
theorem yl_same {i' : List Addr} {H' H'' : Hp} {m' : Mem} {x : V} {y : MV} (S : Sim D i' m' H') (e : H'' = H') (q : RV D i' H' x y) : Ext D i' H' i' H'' ∧ Sim D i' m' H'' ∧ RV D i' H'' x y := by
  subst e
  exact ⟨Ext.refl, S, q⟩
theorem wk_tup {K : PySem.W.Frag} {a : Addr} {vs : List V} {xs : List MV} (q : SqT K H a vs) (r : RVs D i H vs xs) : Wk D (Itt K a) ⟨xs, none⟩ i H := fun i' H' m' e S _ => by
  have q' := SqT.ext e q
  have r' := r.ext e
  refine ⟨fun j y hy => ?_, fun j hj => ⟨vs, q', by rw [r'.length]; exact hj⟩⟩
  obtain ⟨v, e1, e2⟩ := r'.get hy
  refine ⟨⟨vs, v, q', e1⟩, fun x H'' ⟨h1, h2⟩ => yl_same S h1 ?_⟩
  have e3 := h2 vs q'
  rw [e1] at e3
  cases e3
  exact e2
theorem wk_list {K : PySem.W.Frag} {a : Addr} {xs : List MV} {n : Nat} (h0 : i[n]? = some a) (h : ∀ i' H' m', Ext D i H i' H' → Sim D i' m' H' → Walked.still ⟨xs, some (n, false)⟩ m' = true → ∃ vs, SqL K H' a vs ∧ RVs D i' H' vs xs) : Wk D (Itl K a) ⟨xs, some (n, false)⟩ i H := fun i' H' m' e S st => by
  obtain ⟨vs, q', r'⟩ := h i' H' m' e S st
  refine ⟨fun j y hy => ?_, fun j hj => ⟨vs, q', by rw [r'.length]; exact hj⟩⟩
  obtain ⟨v, e1, e2⟩ := r'.get hy
  refine ⟨⟨vs, v, q', e1⟩, fun x H'' ⟨h1, h2⟩ => yl_same S h1 ?_⟩
  have e3 := h2 vs q'
  rw [e1] at e3
  cases e3
  exact e2
theorem wk_str (x : Txt) : Wk D (Its ⟨x.toArray⟩) ⟨x.map fun c => .str [c], none⟩ i H := fun i' H' m' e S _ => by
  refine ⟨fun j y hy => ?_, fun j hj => ?_⟩
  · rw [List.getElem?_map] at hy
    cases ec : x[j]? with
    | none => rw [ec] at hy; cases hy
    | some c =>
      rw [ec] at hy
      cases hy
      have hj := (List.getElem?_eq_some_iff.mp ec).1
      refine ⟨show j < x.toArray.size by simpa using hj, fun v H'' ⟨h1, c', h2, h3⟩ => yl_same S h1 ?_⟩
      have h2' : x.toArray[j]? = some c' := h2
      rw [List.getElem?_toArray, ec] at h2'
      cases h2'
      subst h3
      exact .str [c]
  · show x.toArray.size ≤ j
    simpa using hj
theorem wk_rng (lo hi : Int) : Wk D (Itr lo (hi - lo).toNat) ⟨rng lo hi, none⟩ i H := fun i' H' m' e S _ => by
  refine ⟨fun j y hy => ?_, fun j hj => ?_⟩
  · have hy' : (rng lo hi)[j]? = some y := hy
    unfold rng at hy'
    rw [List.getElem?_map] at hy'
    cases ec : (List.range (hi - lo).toNat)[j]? with
    | none => rw [ec] at hy'; cases hy'
    | some c =>
      rw [ec] at hy'
      cases hy'
      obtain ⟨hj, hc⟩ := List.getElem?_eq_some_iff.mp ec
      rw [List.length_range] at hj
      rw [List.getElem_range] at hc
      subst hc
      exact ⟨hj, fun v H'' ⟨h1, h2⟩ => yl_same S h1 (by subst h2; exact .int _)⟩
  · show (hi - lo).toNat ≤ j
    have hj' : (rng lo hi).length ≤ j := hj
    unfold rng at hj'
    rwa [List.length_map, List.length_range] at hj'
theorem enumI_at {xs : List MV} {j : Nat} {y : MV} (h : (enumI xs)[j]? = some y) : ∃ x, xs[j]? = some x ∧ y = .tup [.int (j : Nat), x] := by
  unfold enumI at h
  rw [List.getElem?_map, List.getElem?_zipIdx] at h
  cases e : xs[j]? with
  | none => rw [e] at h; cases h
  | some x =>
    rw [e] at h
    cases h
    exact ⟨x, rfl, by simp⟩
theorem enumI_len {xs : List MV} : (enumI xs).length = xs.length := by
  unfold enumI
  rw [List.length_map, List.length_zipIdx]
theorem wk_enum {K : PySem.W.Frag} (hK : K = D.K) {a : Addr} {w : Walked} {n : Nat} (hw : w.src = some (n, true)) (h0 : i[n]? = some a) : Wk D (Ite K a) w i H := fun i' H' m' e S st => by
  subst hK
  obtain ⟨ys, vs, q', r', hy⟩ : ∃ ys vs, SqL D.K H' a vs ∧ RVs D i' H' vs ys ∧ w.items = enumI ys := by
    unfold Walked.still at st
    rw [hw] at st
    dsimp only at st
    split at st
    · rename_i ys e0
      obtain ⟨vs, h1, h2⟩ := S.at_ n a _ (e.pre _ _ h0) e0
      exact ⟨ys, vs, SqL.of h1, h2, ((MV.eqbs_iff _ _).mp st).symm⟩
    · rename_i ys e0
      obtain ⟨vs, h1, h2⟩ := S.at_ n a _ (e.pre _ _ h0) e0
      exact ⟨ys, vs, h1.sq, h2, ((MV.eqbs_iff _ _).mp st).symm⟩
    · cases st
  rw [hy]
  refine ⟨fun j y hj => ?_, fun j hj => ⟨vs, q', by rw [r'.length, ← enumI_len]; exact hj⟩⟩
  obtain ⟨z, e1, rfl⟩ := enumI_at hj
  obtain ⟨v, e2, e3⟩ := r'.get e1
  refine ⟨⟨vs, v, q', e2⟩, fun x H'' ⟨T, x', hx, hT, hH, hxs⟩ => ?_⟩
  subst hx hH
  have e4 := hxs vs q'
  rw [e2] at e4
  cases e4
  have ex : Ext D i' H' i' (upd H' T (.tup [.int (j : Nat), v])) := ⟨fun _ _ z => z, fun b o z sv => by rw [upd_ne (ne_of_none z hT)]; exact z⟩
  refine ⟨ex, S.ext ex fun b o z => by rw [upd_ne (ne_of_none z hT)]; exact z, .tup (.inl (.inl upd_same)) (.cons (.int _) (.cons (e3.ext ex) .nil))⟩
/-- what a value gives to be walked -/
theorem walk_val {x : V} {v : MV} {w : Walked} (S : Sim D i m H) (q : RV D i H x v) (h : walkOf v m = some w) : (∃ a xs, x = .ref a ∧ SqL D.K H a xs ∧ Wk D (Itl D.K a) w i H) ∨ (∃ a xs, x = .ref a ∧ SqT D.K H a xs ∧ Wk D (Itt D.K a) w i H) ∨ ∃ y, x = .str y ∧ Wk D (Its y) w i H := by
  cases q with
  | str z => cases h; exact .inr (.inr ⟨_, rfl, wk_str z⟩)
  | tup hq r => cases h; exact .inr (.inl ⟨_, _, rfl, hq, wk_tup hq r⟩)
  | @ref a n h0 =>
    have still_at : ∀ {xs : List MV} {i' : List Addr} {H' : Hp} {m' : Mem}, Ext D i H i' H' → Sim D i' m' H' → Walked.still ⟨xs, some (n, false)⟩ m' = true → ∃ vs, SqL D.K H' a vs ∧ RVs D i' H' vs xs := fun {xs i' H' m'} e S' st => by
      unfold Walked.still at st
      dsimp only at st
      split at st
      · rename_i ys e0
        cases (MV.eqbs_iff ys xs).mp st
        obtain ⟨vs, h1, h2⟩ := S'.at_ n a _ (e.pre _ _ h0) e0
        exact ⟨vs, SqL.of h1, h2⟩
      · rename_i ys e0
        cases (MV.eqbs_iff ys xs).mp st
        obtain ⟨vs, h1, h2⟩ := S'.at_ n a _ (e.pre _ _ h0) e0
        exact ⟨vs, h1.sq, h2⟩
      · cases st
    unfold walkOf at h
    dsimp only at h
    split at h
    · rename_i xs e0
      cases h
      obtain ⟨vs, h1, _⟩ := S.at_ _ _ _ h0 e0
      exact .inl ⟨a, vs, rfl, SqL.of h1, wk_list h0 fun i' H' m' e S' st => still_at e S' st⟩
    · rename_i xs e0
      cases h
      obtain ⟨vs, h1, _⟩ := S.at_ _ _ _ h0 e0
      exact .inl ⟨a, vs, rfl, h1.sq, wk_list h0 fun i' H' m' e S' st => still_at e S' st⟩
    · cases h
  | _ => cases h
end
section
variable {X : Cx} {D : Dat} {tg ea eb : Expr} {ca cb : Env → M MV} {p pos : Pos}
theorem PI.imp {t t' : TI} (h : PI X tg ea t) (hi : ∀ σ H R, t' σ H R → t σ H R) : PI X tg ea t' := ⟨fun pins s σ H R I q => h.run pins s σ H R I (hi σ H R q)⟩
theorem Pst.liftW {W : WX} {σ : L2.St} {R : It → Hp → Prop} {i : List Addr} {H : Hp} {m : Mem} {o : Option Walked} (S : Sim D i m H) (h : Pst D W σ (fun i H J w => Wk D J w i H) R i H (U.liftW o m)) : ∃ w, o = some w ∧ ∀ J, Wk D J w i H → R J H := by
  cases o with
  | none => exact h.elim
  | some w => exact ⟨w, rfl, fun J hJ => h i H J Ext.refl S hJ⟩
theorem si_of (hK : X.K = D.K) (ha : SE X D ea ca) : SI X D tg ea (fun r m => (ca r m).bind fun v m1 => liftW (walkOf v m1) m1) := fun W tk => by
  refine U.PI.imp (pi_any (ha W tk)) fun σ H R ⟨i, r, m, S, E, h⟩ => ?_
  refine TE_mono (bind1 (k := fun v r m1 => liftW (walkOf v m1) m1) S E h) fun x H1 ⟨i, r, m, v, S, E, q, h⟩ => ?_
  obtain ⟨w, e, h⟩ := Pst.liftW S h
  rw [hK]
  rcases walk_val S q e with ⟨a, xs, rfl, hq, hw⟩ | ⟨a, xs, rfl, hq, hw⟩ | ⟨y, rfl, hw⟩
  · exact .inl ⟨a, xs, rfl, hq, h _ hw⟩
  · exact .inr (.inl ⟨a, xs, rfl, hq, h _ hw⟩)
  · exact .inr (.inr ⟨y, rfl, h _ hw⟩)
theorem si_enum {elts : List Expr} {kk : Nat} {tpos : Pos} (hK : X.K = D.K) (hg : Gl X "enumerate") (hm : X.mg "enumerate" = none) (hp : plainE ea = true) (ha : SE X D ea ca) : SI X D (.Tuple elts kk tpos) (.Call (.Name "enumerate" p) [ea] [] pos) (fun r m => (ca r m).bind fun x m1 => liftW (enumOf x m1) m1) := fun W tk => by
  refine U.PI.imp (pi_enum hg hm (pa_cons (ha W tk) pa_nil (star_cons hp)) (star_cons hp)) fun σ H R ⟨i, r, m, S, E, h⟩ => ?_
  refine TE_mono (bind1 (k := fun x r m1 => liftW (enumOf x m1) m1) S E h) fun x H1 ⟨i, r, m, v, S, E, q, h⟩ => ?_
  obtain ⟨w, e, h⟩ := Pst.liftW S h
  unfold enumOf at e
  split at e
  · rename_i n
    cases q with
    | @ref a _ h0 =>
      split at e
      · rename_i xs e0
        cases e
        obtain ⟨vs, h1, h2⟩ := S.at_ _ _ _ h0 e0
        exact ⟨a, vs, rfl, SqL.of h1, h _ (wk_enum hK rfl h0)⟩
      · rename_i xs e0
        cases e
        obtain ⟨vs, h1, h2⟩ := S.at_ _ _ _ h0 e0
        exact ⟨a, vs, rfl, by rw [hK]; exact h1.sq, h _ (wk_enum hK rfl h0)⟩
      · cases e
  · cases e
theorem si_rng1 (hg : Gl X "range") (hm : X.mg "range" = none) (hp : plainE ea = true) (ha : SE X D ea ca) : SI X D tg (.Call (.Name "range" p) [ea] [] pos) (fun r m => (ca r m).bind fun x m1 => liftW (rng1 x) m1) := fun W tk => by
  refine U.PI.imp (pi_range1 hg hm (pa_cons (ha W tk) pa_nil (star_cons hp)) (star_cons hp)) fun σ H R ⟨i, r, m, S, E, h⟩ => ?_
  refine TE_mono (bind1 (k := fun x r m1 => liftW (rng1 x) m1) S E h) fun x H1 ⟨i, r, m, v, S, E, q, h⟩ => ?_
  obtain ⟨w, e, h⟩ := Pst.liftW S h
  unfold rng1 at e
  split at e
  · rename_i n
    split at e
    · rename_i hb
      cases e
      cases q
      refine ⟨n, rfl, hb.1, hb.2, ?_⟩
      have z := h _ (wk_rng (D := D) 0 n)
      rwa [Int.sub_zero] at z
    · cases e
  · cases e
theorem si_rng2 (hg : Gl X "range") (hm : X.mg "range" = none) (hp : plainE ea = true) (hpb : plainE eb = true) (ha : SE X D ea ca) (hb : SE X D eb cb) : SI X D tg (.Call (.Name "range" p) [ea, eb] [] pos) (fun r m => (ca r m).bind fun x m1 => (cb r m1).bind fun y m2 => liftW (rng2 x y) m2) := fun W tk => by
  refine U.PI.imp (pi_range2 hg hm (pa_cons (ha W tk) (pa_cons (hb W tk) pa_nil (star_cons hpb)) (star_cons hp)) (by rw [star_cons hp, star_cons hpb]; rfl) (star_cons hpb)) fun σ H R ⟨i, r, m, S, E, h⟩ => ?_
  refine TE_mono (bind1 (k := fun x r m1 => (cb r m1).bind fun y m2 => liftW (rng2 x y) m2) S E h) fun x H1 h1 => TE_mono (bind2 (k := fun x y r m2 => liftW (rng2 x y) m2) h1) fun y H2 ⟨i, r, m, v, u, S, E, q1, q2, h⟩ => ?_
  obtain ⟨w, e, h⟩ := Pst.liftW S h
  unfold rng2 at e
  split at e
  · rename_i n k
    split at e
    · rename_i hb
      cases e
      cases q1
      cases q2
      exact ⟨n, k, rfl, hb, h _ (wk_rng n k)⟩
    · cases e
  · cases e
end
end U
end Part_U11

section Part_U12
set_option Elab.async false
set_option linter.all false
set_option maxRecDepth 100000
set_option maxHeartbeats 4000000
/-! U12: comprehensions. -/
namespace U
open PySem PySem.Spec PyProof.Rows L2
/-- a block of one's own: the context within -/
abbrev blkX (X : Cx) (s : Shared) (H : Hp) (scope : Scope) (cl : List (Str × Addr)) (C : Addr) (fp : List Addr) : Cx := X.blk s H scope (compEnvC scope cl C X.env) fp
def noW : WX := fun _ _ _ _ => False
theorem takes_blk {X : Cx} {s : Shared} {H : Hp} {scope : Scope} {cl : List (Str × Addr)} {C : Addr} {fp : List Addr} : Takes (blkX X s H scope cl C fp) noW := fun u s' ⟨a, B, sI, pins, σ, H, cls, d, e, I, nb, up, sky, na, os, ag, w⟩ => w
/-- a block's tests -/
def STs (X : Cx) (D : Dat) (ifs : List Expr) (c : Env → M MV) : Prop := PTs X ifs (tT X D noW c)
theorem sts_nil {X : Cx} {D : Dat} : STs X D [] (fun _ m => .ok (.bl true) m) := ⟨fun pins s σ H Q I ⟨i, r, m, S, E, h⟩ => pts_nil.run pins s σ H Q I (h i H true Ext.refl S rfl)⟩
theorem sts_one {X : Cx} {D : Dat} {e : Expr} {c : Env → M MV} (tk : Takes X noW) (h : ST X D e c) : STs X D [e] c := ⟨fun pins s σ H Q I q => (pts_one (h noW tk)).run pins s σ H Q I q⟩
section
variable {X : Cx} {D : Dat} {elt iter : Expr} {ifs : List Expr} {k : Nat} {x : Str} {tp pos : Pos} {scope : Scope} {ci : Env → M Walked} {ct ce : Env → M MV} {W : WX}
/-- the computation -/
def lcC (k : Nat) (ci : Env → M Walked) (ct ce : Env → M MV) : Env → M MV := fun r m => (ci r m).bind fun w m1 => lcGo w m1.length (fun x m2 => ct (r.set k (.val x)) m2) (fun x m2 => ce (r.set k (.val x)) m2) w.items (m1 ++ [.lst []])
/-- .. as the layer reads it -/
theorem lc_read (hc : X.calm = true) {σ : L2.St} {H : Hp} {Q : VK} {s0 : Shared} {H0 : Hp} {cl0 : List (Str × Addr)} {C0 : Addr} {fp0 : List Addr} (h : tE X D W (lcC k ci ct ce) σ H Q) :
    tLc (tI X D W ci) (gName k) (tT (blkX X s0 H0 scope cl0 C0 fp0) D noW ct) (tE (blkX X s0 H0 scope cl0 C0 fp0) D noW ce) [k] σ H Q := by
  obtain ⟨i, r, m, S, E, h⟩ := h
  refine ⟨i, r, m, S, E, ?_⟩
  unfold lcC at h
  cases e : ci r m with
  | fail => rw [e] at h; exact h.elim
  | ex c fs m1 => rw [e] at h; exact h
  | ok w m1 =>
    rw [e] at h
    dsimp only [R.bind] at h
    intro i1 H1 J e1 S1 wk Dd hD
    have hl : (i1 ++ [Dd])[m1.length]? = some Dd := getE_append_len S1.len
    -- one turn's state
    refine ⟨fun j mm H2 => ∃ i m, Sim D i m H2 ∧ Ext D i1 H1 i H2 ∧ i[m1.length]? = some Dd ∧ mm = (w.items.drop j).length ∧ Pst D W σ (RV D) Q i H2 (lcGo w m1.length (fun x m2 => ct (r.set k (.val x)) m2) (fun x m2 => ce (r.set k (.val x)) m2) (w.items.drop j) m),
      ⟨_, i1 ++ [Dd], m1 ++ [.lst []], S1.lst hD .nil, Ext.alloc hD, hl, rfl, h.ext (e1.trans (Ext.alloc hD))⟩, fun j mm H2 ⟨i, m, S, e2, hn, hm, h⟩ => ?_⟩
    cases ed : w.items.drop j with
    | nil =>
      rw [ed] at h
      unfold lcGo at h
      split at h
      · rename_i st
        refine .inl ⟨(wk i H2 m e2 S st).2 j ?_, h i H2 (.ref Dd) Ext.refl S (.ref hn)⟩
        rw [List.drop_eq_nil_iff] at ed
        exact ed
      · exact h.elim
    | cons y ys =>
      rw [ed] at h
      unfold lcGo at h
      split at h
      · rename_i st
        have hy : w.items[j]? = some y := by
          have := List.getElem?_drop (xs := w.items) (i := j) (j := 0)
          rw [ed] at this
          simpa using this.symm
        have ed2 : w.items.drop (j + 1) = ys := by
          have : w.items.drop (j + 1) = (w.items.drop j).drop 1 := by rw [List.drop_drop]
          rw [this, ed]
          rfl
        obtain ⟨go, yl⟩ := (wk i H2 m e2 S st).1 j y hy
        refine .inr ⟨go, fun H' => ∃ i m, Sim D i m H' ∧ Ext D i1 H1 i H' ∧ i[m1.length]? = some Dd ∧ Pst D W σ (RV D) Q i H' (lcGo w m1.length (fun x m2 => ct (r.set k (.val x)) m2) (fun x m2 => ce (r.set k (.val x)) m2) (w.items.drop (j + 1)) m),
          fun H' ⟨i, m, a1, a2, a3, a4⟩ => ⟨_, by rw [hm, ed, ed2]; exact Nat.lt_succ_self _, i, m, a1, a2, a3, rfl, a4⟩, fun u H3 hyl => ?_⟩
        obtain ⟨ex, S3, qy⟩ := yl u H3 hyl
        replace S := S3
        replace e2 := e2.trans ex
        replace h := h.ext ex
        have Eb : RE (blkX X s0 H0 scope cl0 C0 fp0) D i H3 (r.set k (.val y)) (((wipe σ [k])).set k (some u)) := by
          have E2 : RE X D i H3 (r.set k (.val y)) (((wipe σ [k])).set k (some u)) := by
            have z := ((E.ext e1).ext e2).set (k := k) (s := .val y) (o := some u) ⟨u, rfl, qy⟩
            have e : (wipe σ [k]).set k (some u) = σ.set k (some u) := by
              unfold wipe wipe
              rw [List.set_set]
            rw [e]
            exact z
          exact E2.calm hc
        refine ⟨by
          show ((σ.set k none).set k (some u)).set k none = σ.set k none
          rw [List.set_set, List.set_set], i, _, m, S, Eb, ?_⟩
        cases e3 : ct (r.set k (.val y)) m with
        | fail => rw [e3] at h; exact h.elim
        | ex c fs m2 => rw [e3] at h; exact h.elim
        | ok t m2 =>
          rw [e3] at h
          dsimp only [R.bind] at h ⊢
          unfold onTru at h ⊢
          cases e4 : truth m2 t with
          | none => rw [e4] at h; exact h.elim
          | some b =>
            rw [e4] at h
            dsimp only at h ⊢
            intro i4 H4 b' e5 S4 hb
            cases hb
            cases b with
            | false =>
              rw [if_neg (by decide)] at h ⊢
              refine ⟨i4, m2, S4, e2.trans e5, e5.pre _ _ hn, ?_⟩
              rw [ed2]
              exact h.ext e5
            | true =>
              rw [if_pos rfl] at h ⊢
              refine ⟨i4, _, m2, S4, Eb.ext e5, ?_⟩
              cases e6 : ce (r.set k (.val y)) m2 with
              | fail => rw [e6] at h; exact h.elim
              | ex c fs m3 => rw [e6] at h; exact h.elim
              | ok v m3 =>
                rw [e6] at h
                dsimp only at h
                intro i5 H5 z e7 S5 qz
                split at h
                · rename_i acc e8
                  split at h
                  · rename_i hz
                    have hn5 : i5[m1.length]? = some Dd := e7.pre _ _ (e5.pre _ _ hn)
                    obtain ⟨vs, h1, h2⟩ := S5.at_ _ _ _ hn5 e8
                    have ew : Ext D i5 H5 i5 (upd H5 Dd (.lst (vs ++ [z]))) := Ext.write h1 (fun s => s)
                    refine ⟨vs, h1, ?_, i5, m3.set m1.length (.lst (acc ++ [v])), S5.write hn5 e8 rfl ew (fun b o hb q => by rw [upd_ne hb]; exact q) ⟨_, upd_same, (h2.append (.one qz)).ext ew⟩, ((e2.trans e5).trans e7).trans ew, hn5, ?_⟩
                    · rw [h2.length, sizeLine_eq]
                      exact hz
                    · rw [ed2]
                      exact h.ext ((e5.trans e7).trans ew)
                  · exact h.elim
                · exact h.elim
      · exact h.elim
theorem se_lc (hc : X.calm = true) (hN : X.N.Nodup) (hi : SI X D (.Name x tp) iter ci) (ok : BlkOk X.N X.env.scope scope [(x, k)]) (hk : X.N[k]? = some x) (hx : Loc (relS scope X.env.scope) x) (hf : (scope.names.lookup x == some .cell) = true ∨ (relS scope X.env.scope).names.lookup x = some .local)
    (ht : ∀ s H C cl fp, STs (blkX X s H scope cl C fp) D ifs ct) (he : ∀ s H C cl fp, SE (blkX X s H scope cl C fp) D elt ce) (hs : ∀ x, foldedSetIterable iter X.env x = pure x) :
    SE X D (.ListComp elt [⟨.Name x tp, iter, ifs, 0⟩] scope pos) (lcC k ci ct ce) :=
  SE.of (t := fun W => tLc (tI X D W ci) (gName k) (tT (blkX X X.s_0 X.H_0 scope [] 0 []) D noW ct) (tE (blkX X X.s_0 X.H_0 scope [] 0 []) D noW ce) [k])
    (fun W tk => pe_lc (own := [(x, k)]) hc hN (hi W tk) ok (fun s H C cl fp => pg_name hN hk hx hf) (fun s H C cl fp => ht s H C cl fp) (fun s H C cl fp => he s H C cl fp noW takes_blk) hs) fun W σ H Q h => lc_read hc h
end
end U
end Part_U12

section Part_U13
set_option Elab.async false
set_option linter.all false
set_option maxRecDepth 100000
set_option maxHeartbeats 4000000
/-! U13: statements. -/
namespace U
open PySem PySem.Spec PyProof.Rows L2
section
/-- what a statement promises -/
def PsS (X : Cx) (D : Dat) (W : WX) (En : Ends) (i : List Addr) (H : Hp) : RS → Prop
  | .nx r m => ∀ i' H' σ', Ext D i H i' H' → Sim D i' m H' → RE X D i' H' r σ' → En.nx σ' H'
  | .bk r m => ∀ i' H' σ', Ext D i H i' H' → Sim D i' m H' → RE X D i' H' r σ' → En.bk σ' H'
  | .ct r m => ∀ i' H' σ', Ext D i H i' H' → Sim D i' m H' → RE X D i' H' r σ' → En.ct σ' H'
  | .rt v m => ∀ i' H' x, Ext D i H i' H' → Sim D i' m H' → RV D i' H' x v → En.rt x H'
  | .ex c fs r m => ∀ i' H' σ' cls d, Ext D i H i' H' → Sim D i' m H' → RE X D i' H' r σ' → RX D i' H' c fs cls d → W cls d σ' H'
  | .fail => False
theorem PsS.ext {X : Cx} {D : Dat} {W : WX} {En : Ends} {i i' : List Addr} {H H' : Hp} {a : RS} (h : PsS X D W En i H a) (e : Ext D i H i' H') : PsS X D W En i' H' a := by
  cases a with
  | nx r m => exact fun i2 H2 σ2 e2 S E => h i2 H2 σ2 (e.trans e2) S E
  | bk r m => exact fun i2 H2 σ2 e2 S E => h i2 H2 σ2 (e.trans e2) S E
  | ct r m => exact fun i2 H2 σ2 e2 S E => h i2 H2 σ2 (e.trans e2) S E
  | rt v m => exact fun i2 H2 x e2 S q => h i2 H2 x (e.trans e2) S q
  | ex c fs r m => exact fun i2 H2 σ2 cls d e2 S E q => h i2 H2 σ2 cls d (e.trans e2) S E q
  | fail => exact h
def tS (X : Cx) (D : Dat) (W : WX) (c : Env → Mem → RS) : TS := fun En σ H => ∃ i r m, Sim D i m H ∧ RE X D i H r σ ∧ PsS X D W En i H (c r m)
def SS (X : Cx) (D : Dat) (st : Stmt) (c : Env → Mem → RS) : Prop := ∀ W, Takes X W → PS X st (tS X D W c)
def SSs (X : Cx) (D : Dat) (sts : List Stmt) (c : Env → Mem → RS) : Prop := ∀ W, Takes X W → PSs X sts (tS X D W c)
theorem PS.imp {X : Cx} {st : Stmt} {t t' : TS} (h : PS X st t) (hi : ∀ En σ H, t' En σ H → t En σ H) : PS X st t' := ⟨fun pins s σ H En I q => h.run pins s σ H En I (hi En σ H q)⟩
theorem PSs.imp {X : Cx} {st : List Stmt} {t t' : TS} (h : PSs X st t) (hi : ∀ En σ H, t' En σ H → t En σ H) : PSs X st t' := ⟨fun pins s σ H En I q => h.run pins s σ H En I (hi En σ H q)⟩
theorem SS.of {X : Cx} {D : Dat} {st : Stmt} {c : Env → Mem → RS} {t : WX → TS} (h : ∀ W, Takes X W → PS X st (t W)) (hi : ∀ W En σ H, tS X D W c En σ H → t W En σ H) : SS X D st c := fun W tk => U.PS.imp (h W tk) (hi W)
end
section
variable {X : Cx} {D : Dat} {W : WX} {σ : L2.St} {H : Hp} {En : Ends}
def KS (X : Cx) (D : Dat) (W : WX) (En : Ends) (k : MV → Env → Mem → RS) (x : V) (σ : L2.St) (H : Hp) : Prop := ∃ i r m v, Sim D i m H ∧ RE X D i H r σ ∧ RV D i H x v ∧ PsS X D W En i H (k v r m)
def KS2 (X : Cx) (D : Dat) (W : WX) (En : Ends) (k : MV → MV → Env → Mem → RS) (x y : V) (σ : L2.St) (H : Hp) : Prop := ∃ i r m v u, Sim D i m H ∧ RE X D i H r σ ∧ RV D i H x v ∧ RV D i H y u ∧ PsS X D W En i H (k v u r m)
theorem stb1 {c : Env → M MV} {k : MV → Env → Mem → RS} {i : List Addr} {r : Env} {m : Mem} (S : Sim D i m H) (E : RE X D i H r σ) (h : PsS X D W En i H ((c r m).st r fun v m1 => k v r m1)) : tE X D W c σ H fun x H1 => KS X D W En k x σ H1 := by
  refine ⟨i, r, m, S, E, ?_⟩
  cases e : c r m with
  | ok v m1 =>
    rw [e] at h
    exact fun i' H' x e1 S1 q => ⟨i', r, m1, v, S1, E.ext e1, q, h.ext e1⟩
  | ex c fs m1 =>
    rw [e] at h
    exact fun i' H' cls d e1 S1 q => h i' H' σ cls d e1 S1 (E.ext e1) q
  | fail => rw [e] at h; exact h
theorem stb2 {c : Env → M MV} {k : MV → MV → Env → Mem → RS} {x : V} (h : KS X D W En (fun v r m => (c r m).st r fun u m1 => k v u r m1) x σ H) : tE X D W c σ H fun y H1 => KS2 X D W En k x y σ H1 := by
  obtain ⟨i, r, m, v, S, E, q, h⟩ := h
  dsimp only at h
  refine ⟨i, r, m, S, E, ?_⟩
  cases e : c r m with
  | ok u m1 =>
    rw [e] at h
    exact fun i' H' y e1 S1 q1 => ⟨i', r, m1, v, u, S1, E.ext e1, q.ext e1, q1, h.ext e1⟩
  | ex c fs m1 =>
    rw [e] at h
    exact fun i' H' cls d e1 S1 q => h i' H' σ cls d e1 S1 (E.ext e1) q
  | fail => rw [e] at h; exact h
end
/-- no comprehension at the top -/
def noLc : Expr → Bool
  | .ListComp _ _ _ _ => false
  | .SetComp _ _ _ _ => false
  | .DictComp _ _ _ _ _ => false
  | _ => true
theorem sw_no {e : Expr} {t : Option Expr} {l : Nat} {env : PySem.Env} (h : noLc e = true) : swapsWith e t l env = pure false := by
  cases e <;> first | rfl | cases h
section
variable {X : Cx} {D : Dat} {ea eb ec : Expr} {ca cb cc : Env → M MV} {pos pos' : Pos} {st : Stmt} {rest sa sb : List Stmt} {c c1 c2 : Env → Mem → RS} {k : Nat} {x : Str}
theorem sss_nil : SSs X D [] (fun r m => .nx r m) := fun W tk => U.PSs.imp pss_nil fun En σ H ⟨i, r, m, S, E, h⟩ => h i H σ Ext.refl S E
theorem sss_cons (h1 : SS X D st c1) (h2 : SSs X D rest c2) : SSs X D (st :: rest) (fun r m => match c1 r m with
      | .nx r' m' => c2 r' m'
      | a => a) := fun W tk => U.PSs.imp (pss_cons (h1 W tk) (h2 W tk)) fun En σ H ⟨i, r, m, S, E, h⟩ => by
  refine ⟨i, r, m, S, E, ?_⟩
  dsimp only at h
  cases e : c1 r m with
  | nx r' m' =>
    rw [e] at h
    exact fun i' H' σ' e1 S1 E1 => ⟨i', r', m', S1, E1, h.ext e1⟩
  | bk r' m' => rw [e] at h; exact h
  | ct r' m' => rw [e] at h; exact h
  | rt v m' => rw [e] at h; exact h
  | ex c fs r' m' => rw [e] at h; exact h
  | fail => rw [e] at h; exact h
theorem ss_pass : SS X D (.Pass pos) (fun r m => .nx r m) := fun W tk => U.PS.imp ps_pass fun En σ H ⟨i, r, m, S, E, h⟩ => h i H σ Ext.refl S E
theorem ss_brk : SS X D (.Break pos) (fun r m => .bk r m) := fun W tk => U.PS.imp ps_break fun En σ H ⟨i, r, m, S, E, h⟩ => h i H σ Ext.refl S E
theorem ss_cont : SS X D (.Continue pos) (fun r m => .ct r m) := fun W tk => U.PS.imp ps_continue fun En σ H ⟨i, r, m, S, E, h⟩ => h i H σ Ext.refl S E
theorem ss_doc {y : Str} {j pos2} : SS X D (.Expr (.Constant (.str y) j pos) pos2) (fun r m => .nx r m) := fun W tk => U.PS.imp ps_doc fun En σ H ⟨i, r, m, S, E, h⟩ => h i H σ Ext.refl S E
theorem ss_expr (hn : noLc ea = true) (ha : SE X D ea ca) : SS X D (.Expr ea pos) (fun r m => (ca r m).st r fun _ m1 => .nx r m1) := by
  refine SS.of (t := fun W => tDrop (tE X D W ca)) (fun W tk => ps_expr (ha W tk) (sw_no hn)) fun W En σ H ⟨i, r, m, S, E, h⟩ => ?_
  exact TE_mono (stb1 (k := fun _ r m1 => .nx r m1) S E h) fun x H1 ⟨i, r, m, v, S, E, q, h⟩ => h i H1 σ Ext.refl S E
theorem ss_ret (ha : SE X D ea ca) : SS X D (.Return (some ea) pos) (fun r m => (ca r m).st r fun v m1 => .rt v m1) := by
  refine SS.of (t := fun W => tRet (tE X D W ca)) (fun W tk => ps_ret (ha W tk)) fun W En σ H ⟨i, r, m, S, E, h⟩ => ?_
  exact TE_mono (stb1 (k := fun v r m1 => .rt v m1) S E h) fun x H1 ⟨i, r, m, v, S, E, q, h⟩ => h i H1 x Ext.refl S q
theorem ss_retN : SS X D (.Return none pos) (fun _ m => .rt .non m) := fun W tk => U.PS.imp ps_retN fun En σ H ⟨i, r, m, S, E, h⟩ => h i H .non Ext.refl S .non
theorem ss_set (hN : X.N.Nodup) (hi : X.N[k]? = some x) (hx : Loc X.env.scope x) (hf : X.fn x = true ∨ X.env.scope.names.lookup x = some .local) (hs : swapsWith ea (some (.Name x pos')) pos.line X.env = pure false) (ha : SE X D ea ca) :
    SS X D (.Assign [.Name x pos'] ea pos) (fun r m => (ca r m).st r fun v m1 => .nx (r.set k (.val v)) m1) := by
  refine SS.of (t := fun W => tAsg (tE X D W ca) (gName k)) (fun W tk => ps_set hN hi hx (ha W tk) hs hf) fun W En σ H ⟨i, r, m, S, E, h⟩ => ?_
  exact TE_mono (stb1 (k := fun v r m1 => .nx (r.set k (.val v)) m1) S E h) fun y H1 ⟨i, r, m, v, S, E, q, h⟩ => h i H1 _ Ext.refl S (E.set ⟨y, rfl, q⟩)
theorem ss_setLc {y : Str} {j : Nat} {py tp lpos : Pos} {elt iter : Expr} {ifs : List Expr} {scope : Scope} {ci : Env → M Walked} {ct ce : Env → M MV} (hy : X.N[j]? = some y) (hyl : X.env.scope.names.lookup y = some .local) (hsw : swapsWith (.ListComp elt [⟨.Name x tp, iter, ifs, 0⟩] scope lpos) (some (.Name y py)) pos.line X.env = pure true)
    (hc : X.calm = true) (hN : X.N.Nodup) (hi : SI X D (.Name x tp) iter ci) (ok : BlkOk X.N X.env.scope scope [(x, k)]) (hk : X.N[k]? = some x) (hx : Loc (relS scope X.env.scope) x) (hf : (scope.names.lookup x == some .cell) = true ∨ (relS scope X.env.scope).names.lookup x = some .local)
    (ht : ∀ s H C cl fp, STs (blkX X s H scope cl C fp) D ifs ct) (he : ∀ s H C cl fp, SE (blkX X s H scope cl C fp) D elt ce) (hs : ∀ x, foldedSetIterable iter X.env x = pure x) :
    SS X D (.Assign [.Name y py] (.ListComp elt [⟨.Name x tp, iter, ifs, 0⟩] scope lpos) pos) (fun r m => (lcC k ci ct ce r m).st r fun v m1 => .nx (r.set j (.val v)) m1) := by
  refine SS.of (t := fun W => tAsg (tLc (tI X D W ci) (gName k) (tT (blkX X X.s_0 X.H_0 scope [] 0 []) D noW ct) (tE (blkX X X.s_0 X.H_0 scope [] 0 []) D noW ce) [k]) (gName j))
    (fun W tk => ps_setLc (own := [(x, k)]) hc hN hy hyl hsw (hi W tk) ok (fun s H C cl fp => pg_name hN hk hx hf) (fun s H C cl fp => ht s H C cl fp) (fun s H C cl fp => he s H C cl fp noW takes_blk) hs) fun W En σ H ⟨i, r, m, S, E, h⟩ => ?_
  refine lc_read (Q := fun x H1 => gName j x σ H1 En.nx) hc (TE_mono (stb1 (k := fun v r m1 => .nx (r.set j (.val v)) m1) S E h) fun y H1 ⟨i, r, m, v, S, E, q, h⟩ => h i H1 _ Ext.refl S (E.set ⟨y, rfl, q⟩))
/-- a test ahead of two ways -/
theorem stT {W : WX} {σ : L2.St} {H : Hp} {En : Ends} {c : Env → M MV} {k : Bool → Env → Mem → RS} {i : List Addr} {r : Env} {m : Mem} (S : Sim D i m H) (E : RE X D i H r σ) (h : PsS X D W En i H ((c r m).st r fun v m1 => onTruS m1 v fun b => k b r m1)) :
    tT X D W c σ H fun b H1 => ∃ i r m, Sim D i m H1 ∧ RE X D i H1 r σ ∧ PsS X D W En i H1 (k b r m) := by
  refine ⟨i, r, m, S, E, ?_⟩
  cases e : c r m with
  | ok v m1 =>
    rw [e] at h
    dsimp only [R.bind, R.st] at h ⊢
    unfold onTru
    unfold onTruS at h
    cases e2 : truth m1 v with
    | none => rw [e2] at h; exact h.elim
    | some b =>
      rw [e2] at h
      exact fun i' H' b' e1 S1 hb => by
        cases hb
        exact ⟨i', r, m1, S1, E.ext e1, h.ext e1⟩
  | ex c fs m1 =>
    rw [e] at h
    exact fun i' H' cls d e1 S1 q => h i' H' σ cls d e1 S1 (E.ext e1) q
  | fail => rw [e] at h; exact h
theorem ss_if (hc : ST X D ec cc) (ha : SSs X D sa c1) (hb : SSs X D sb c2) : SS X D (.If ec sa sb pos) (fun r m => (cc r m).st r fun v m1 => onTruS m1 v fun b => if b = true then c1 r m1 else c2 r m1) := by
  refine SS.of (t := fun W => tIfS (tT X D W cc) (tS X D W c1) (tS X D W c2)) (fun W tk => ps_if (hc W tk) (ha W tk) (hb W tk)) fun W En σ H ⟨i, r, m, S, E, h⟩ => ?_
  refine TT_mono (stT (k := fun b r m1 => if b = true then c1 r m1 else c2 r m1) S E h) fun b H1 ⟨i, r, m, S, E, h⟩ => ?_
  cases b with
  | true => exact ⟨i, r, m, S, E, h⟩
  | false => exact ⟨i, r, m, S, E, h⟩
theorem ss_whl {n : Nat} (hp : PassesOwn (model X.prog X.w) X.A X.env X.xe) (hc : ST X D ec cc) (hb : SSs X D sa c1) : SS X D (.While ec sa [] pos) (fun r m => whileGo cc c1 n r m) := by
  refine SS.of (t := fun W => tWhile (tT X D W cc) (tS X D W c1)) (fun W tk => ps_while hp (hc W tk) (hb W tk)) fun W En σ H ⟨i, r, m, S, E, h⟩ => ?_
  refine ⟨fun mm σ H => ∃ i r m, Sim D i m H ∧ RE X D i H r σ ∧ PsS X D W En i H (whileGo cc c1 mm r m), ⟨n, i, r, m, S, E, h⟩, fun mm σ H ⟨i, r, m, S, E, h⟩ => ?_⟩
  cases mm with
  | zero => exact h.elim
  | succ mm =>
    unfold whileGo at h
    refine TT_mono (stT (k := fun b r m1 => if b = true then (match c1 r m1 with
      | .nx r' m' => whileGo cc c1 mm r' m'
      | .ct r' m' => whileGo cc c1 mm r' m'
      | .bk r' m' => .nx r' m'
      | a => a) else .nx r m1) S E h) fun b H1 ⟨i, r, m, S, E, h⟩ => ?_
    cases b with
    | false => exact h i H1 σ Ext.refl S E
    | true =>
      rw [if_pos rfl] at h ⊢
      refine ⟨fun σ' H' => ∃ i r m, Sim D i m H' ∧ RE X D i H' r σ' ∧ PsS X D W En i H' (whileGo cc c1 mm r m), fun σ' H' z => ⟨mm, Nat.lt_succ_self _, z⟩, i, r, m, S, E, ?_⟩
      cases e : c1 r m with
      | nx r' m' => rw [e] at h; exact fun i' H' σ' e1 S1 E1 => ⟨i', r', m', S1, E1, h.ext e1⟩
      | ct r' m' => rw [e] at h; exact fun i' H' σ' e1 S1 E1 => ⟨i', r', m', S1, E1, h.ext e1⟩
      | bk r' m' => rw [e] at h; exact h
      | rt v m' => rw [e] at h; exact h
      | ex c fs r' m' => rw [e] at h; exact h
      | fail => rw [e] at h; exact h
/-- a target: how the frame changes by a value -/
def SG (X : Cx) (D : Dat) (tg : Expr) (g : MV → Env → Option Env) : Prop := ∃ t : TG, PG X tg t ∧ ∀ i H v x r r' σ m (Q : L2.St → Hp → Prop), Sim D i m H → RE X D i H r σ → RV D i H x v → g v r = some r' → (∀ σ', RE X D i H r' σ' → Q σ' H) → t x σ H Q
theorem sg_name (hN : X.N.Nodup) (hi : X.N[k]? = some x) (hx : Loc X.env.scope x) (hf : X.fn x = true ∨ X.env.scope.names.lookup x = some .local) : SG X D (.Name x pos) (fun v r => some (r.set k (.val v))) :=
  ⟨gName k, pg_name hN hi hx hf, fun i H v x r r' σ m Q S E q e h => by cases e; exact h _ (E.set ⟨x, rfl, q⟩)⟩
theorem ss_for {tg iter : Expr} {g : MV → Env → Option Env} {ci : Env → M Walked} (hp : PassesOwn (model X.prog X.w) X.A X.env X.xe) (hc : X.calm = true) (hi : SI X D tg iter ci) (hg : SG X D tg g) (hb : SSs X D sa c1) (hs : ∀ x, foldedSetIterable iter X.env x = pure x) :
    SS X D (.For tg iter sa [] pos) (fun r m => match ci r m with
      | .ok w m1 => forGo w (fun x r' m' => match g x r' with | some r2 => c1 r2 m' | none => .fail) w.items r m1
      | .ex c fs m1 => .ex c fs r m1
      | .fail => .fail) := by
  obtain ⟨t, hg, hgt⟩ := hg
  refine SS.of (t := fun W => tFor (tI X D W ci) t (tS X D W c1)) (fun W tk => ps_for hp hc (hi W tk) hg (hb W tk) hs) fun W En σ H ⟨i, r, m, S, E, h⟩ => ?_
  refine ⟨i, r, m, S, E, ?_⟩
  dsimp only at h
  cases e : ci r m with
  | fail => rw [e] at h; exact h
  | ex c fs m1 => rw [e] at h; exact fun i' H' cls d e1 S1 q => h i' H' σ cls d e1 S1 (E.ext e1) q
  | ok w m1 =>
    rw [e] at h
    dsimp only at h
    intro i1 H1 J e1 S1 wk
    refine ⟨fun j mm σ H2 => ∃ i r m, Sim D i m H2 ∧ Ext D i1 H1 i H2 ∧ RE X D i H2 r σ ∧ mm = (w.items.drop j).length ∧ PsS X D W En i H2 (forGo w (fun x r' m' => match g x r' with | some r2 => c1 r2 m' | none => .fail) (w.items.drop j) r m),
      ⟨_, i1, r, m1, S1, Ext.refl, E.ext e1, rfl, h.ext e1⟩, fun j mm σ2 H2 ⟨i, r, m, S, e2, E, hm, h⟩ => ?_⟩
    cases ed : w.items.drop j with
    | nil =>
      rw [ed] at h
      unfold forGo at h
      split at h
      · rename_i st
        refine .inl ⟨(wk i H2 m e2 S st).2 j ?_, h i H2 σ2 Ext.refl S E⟩
        rw [List.drop_eq_nil_iff] at ed
        exact ed
      · exact h.elim
    | cons y ys =>
      rw [ed] at h
      unfold forGo at h
      split at h
      · rename_i st
        have hy : w.items[j]? = some y := by
          have := List.getElem?_drop (xs := w.items) (i := j) (j := 0)
          rw [ed] at this
          simpa using this.symm
        have ed2 : w.items.drop (j + 1) = ys := by
          have : w.items.drop (j + 1) = (w.items.drop j).drop 1 := by rw [List.drop_drop]
          rw [this, ed]
          rfl
        obtain ⟨go, yl⟩ := (wk i H2 m e2 S st).1 j y hy
        refine .inr ⟨go, fun σ' H' => ∃ i r m, Sim D i m H' ∧ Ext D i1 H1 i H' ∧ RE X D i H' r σ' ∧ PsS X D W En i H' (forGo w (fun x r' m' => match g x r' with | some r2 => c1 r2 m' | none => .fail) (w.items.drop (j + 1)) r m),
          fun σ' H' ⟨i, r, m, a1, a2, a3, a4⟩ => ⟨_, by rw [hm, ed, ed2]; exact Nat.lt_succ_self _, i, r, m, a1, a2, a3, rfl, a4⟩, fun u H3 hyl => ?_⟩
        obtain ⟨ex, S3, qy⟩ := yl u H3 hyl
        replace S := S3
        replace e2 := e2.trans ex
        replace E := E.ext ex
        replace h := h.ext ex
        cases eg : g y r with
        | none => rw [eg] at h; exact h.elim
        | some r2 =>
          rw [eg] at h
          dsimp only at h
          refine hgt i H3 y u r r2 σ2 m _ S E qy eg fun σ3 E3 => ⟨i, r2, m, S, E3, ?_⟩
          cases e4 : c1 r2 m with
          | nx r' m' => rw [e4] at h; exact fun i' H' σ' e5 S5 E5 => ⟨i', r', m', S5, e2.trans e5, E5, by rw [ed2]; exact h.ext e5⟩
          | ct r' m' => rw [e4] at h; exact fun i' H' σ' e5 S5 E5 => ⟨i', r', m', S5, e2.trans e5, E5, by rw [ed2]; exact h.ext e5⟩
          | bk r' m' => rw [e4] at h; exact h
          | rt v m' => rw [e4] at h; exact h
          | ex c fs r' m' => rw [e4] at h; exact h
          | fail => rw [e4] at h; exact h
      · exact h.elim
end
end U
end Part_U13

section Part_U14
set_option Elab.async false
set_option linter.all false
set_option maxRecDepth 100000
set_option maxHeartbeats 4000000
/-! U14: stores. -/
namespace U
open PySem PySem.Spec PyProof.Rows L2
theorem putF_new {f : Str} {v : V} : ∀ {hs : List (Str × V)}, f ∉ hs.map (·.1) → putF f v hs = hs ++ [(f, v)]
  | [], _ => rfl
  | (g, u) :: hs, h => by
    rw [List.map_cons, List.mem_cons, not_or] at h
    show (if g = f then (g, v) :: hs else (g, u) :: putF f v hs) = _
    rw [if_neg (fun e => h.1 e.symm), putF_new h.2]
    rfl
theorem putF_at {f : Str} {v : V} : ∀ {hs : List (Str × V)} {k : Nat}, (hs.map (·.1)).Nodup → (hs.map (·.1))[k]? = some f → (putF f v hs).map (·.1) = hs.map (·.1) ∧ (putF f v hs).map (·.2) = (hs.map (·.2)).set k v
  | [], k, _, h => by simp at h
  | (g, u) :: hs, 0, nd, h => by
    simp at h
    subst h
    show (if g = g then (g, v) :: hs else _).map _ = _ ∧ _
    constructor
    · rw [if_pos rfl]; rfl
    · show (if g = g then (g, v) :: hs else _).map _ = _
      rw [if_pos rfl]; rfl
  | (g, u) :: hs, k + 1, nd, h => by
    rw [List.map_cons, List.nodup_cons] at nd
    rw [List.map_cons, List.getElem?_cons_succ] at h
    have ne : ¬ g = f := by
      rintro rfl
      exact nd.1 (List.mem_of_getElem? h)
    obtain ⟨h1, h2⟩ := putF_at (v := v) nd.2 h
    have e : putF f v ((g, u) :: hs) = (g, u) :: putF f v hs := by
      show (if g = f then (g, v) :: hs else (g, u) :: putF f v hs) = _
      rw [if_neg ne]
    rw [e]
    exact ⟨by rw [List.map_cons, h1]; rfl, by rw [List.map_cons, h2]; rfl⟩
section
variable {X : Cx} {D : Dat} {ea eb ec : Expr} {ca cb cc : Env → M MV} {pos pos' : Pos} {k : Nat} {x : Str} {G : Nat → Str}
theorem setF_at {i : List Addr} {H : Hp} {m : Mem} {x y : V} {a b : MV} {f : Nat} {m' : Mem} (A : AOk G D) (S : Sim D i m H) (r : RV D i H x a) (rb : RV D i H y b) (h : setF D.T a f b m = some m') :
    ∃ p c dx hs, x = .ref p ∧ H p = some (.ins (D.ca c) dx hs) ∧ Cls D.K (D.ca c) ∧ NoAttr D.K (D.ca c) (G f) ∧ hs.length < 1000 ∧ Ext D i H i (upd H p (.ins (D.ca c) dx (putF (G f) y hs))) ∧ Sim D i m' (upd H p (.ins (D.ca c) dx (putF (G f) y hs))) := by
  cases r with
  | @ref p n h0 =>
    unfold setF at h
    dsimp only at h
    split at h
    · rename_i c fs e0
      split at h
      · rename_i k ek
        obtain ⟨dx, hs, hp, hn, rs, hle⟩ := S.at_ _ _ _ h0 e0
        obtain ⟨a1, a2, a3⟩ := A.fix c f k ek
        have hl : hs.length = fs.length := by
          have := rs.length
          rwa [List.length_map] at this
        have hlt : hs.length < 1000 := by
          have h1 := A.len c
          have h2 := A.few c
          omega
        refine ⟨p, c, dx, hs, rfl, hp, a2, a3, hlt, ?_⟩
        have nd : (hs.map (·.1)).Nodup := by rw [hn]; exact (A.nod c).sublist (List.take_sublist _ _)
        split at h
        · rename_i hk
          obtain ⟨hk, hlt2⟩ := hk
          cases h
          have nos : ¬ Sol D (.ins (D.ca c) dx hs) := fun ⟨c', e1, e2, e3⟩ => by
            have e4 := D.inj c' c e2 e1.symm
            subst e4
            have := congrArg List.length e3
            rw [List.length_map, A.len] at this
            omega
          have ew : Ext D i H i (upd H p (.ins (D.ca c) dx (putF (G f) y hs))) := Ext.write hp nos
          have hno : G f ∉ hs.map (·.1) := by
            rw [hn]
            intro hm
            obtain ⟨j, hj⟩ := List.getElem?_of_mem hm
            have hj2 := (List.getElem?_eq_some_iff.mp hj).1
            rw [List.length_take] at hj2
            rw [List.getElem?_take_of_lt (by omega)] at hj
            have := nodup_ix (A.nod c) hj a1
            omega
          refine ⟨ew, S.write h0 e0 rfl ew (fun b o hb q => by rw [upd_ne hb]; exact q) ⟨dx, putF (G f) y hs, upd_same, ?_, ?_, ?_⟩⟩
          · rw [putF_new hno, List.map_append, hn, List.length_append]
            show _ ++ [G f] = (D.fn c).take (fs.length + 1)
            rw [List.take_succ]
            have : (D.fn c)[fs.length]? = some (G f) := by rw [← hk]; exact a1
            rw [this]
            rfl
          · rw [show (putF (G f) y hs).map (·.2) = hs.map (·.2) ++ [y] from by rw [putF_new hno, List.map_append]; rfl]
            exact (rs.append (.one rb)).ext ew
          · rw [List.length_append, A.len]
            exact hlt2
        · split at h
          · rename_i hk
            cases h
            have nos : ¬ Sol D (.ins (D.ca c) dx hs) := fun ⟨c', e1, e2, e3⟩ => by
              have e4 := D.inj c' c e2 e1.symm
              subst e4
              rw [hk.2] at e2
              cases e2
            have ew : Ext D i H i (upd H p (.ins (D.ca c) dx (putF (G f) y hs))) := Ext.write hp nos
            obtain ⟨p1, p2⟩ := putF_at (v := y) (k := k) nd (by rw [hn, List.getElem?_take_of_lt hk.1]; exact a1)
            refine ⟨ew, S.write h0 e0 rfl ew (fun b o hb q => by rw [upd_ne hb]; exact q) ⟨dx, putF (G f) y hs, upd_same, ?_, ?_, ?_⟩⟩
            · rw [p1, hn, List.length_set]
            · rw [p2]
              exact ((rs.set rb k)).ext ew
            · rw [List.length_set]
              exact hle
          · cases h
      · cases h
    · cases h
  | _ => cases h
theorem ss_fld {f : Nat} (hK : X.K = D.K) (A : AOk G D) (hn : noLc ea = true) (ha : SE X D ea ca) (hb : SE X D eb cb) : SS X D (.Assign [.Attribute eb (G f) pos'] ea pos) (fun r m => (ca r m).st r fun y m1 => (cb r m1).st r fun x m2 => match setF D.T x f y m2 with
      | some m3 => .nx r m3
      | none => .fail) := by
  refine SS.of (t := fun W => sFld X.K (tE X D W cb) (tE X D W ca) (G f)) (fun W tk => ps_fld (hb W tk) (ha W tk) (sw_no hn)) fun W En σ H ⟨i, r, m, S, E, h⟩ => ?_
  refine TE_mono (stb1 (k := fun y r m1 => (cb r m1).st r fun x m2 => match setF D.T x f y m2 with
      | some m3 => .nx r m3
      | none => .fail) S E h) fun y H1 h1 => TE_mono (stb2 (k := fun y x r m2 => match setF D.T x f y m2 with
      | some m3 => .nx r m3
      | none => .fail) h1) fun x H2 ⟨i, r, m, v, u, S, E, q1, q2, h⟩ => ?_
  dsimp only at h
  cases e : setF D.T u f v m with
  | none => rw [e] at h; exact h.elim
  | some m3 =>
    rw [e] at h
    obtain ⟨p, c, dx, hs, e1, e2, e3, e4, e5, e6, e7⟩ := setF_at A S q2 q1 e
    rw [hK]
    exact ⟨p, _, dx, hs, e1, e2, e3, e4, e5, h i _ σ e6 e7 (E.ext e6)⟩
theorem sws_no {t e : Expr} {l : Nat} {env : PySem.Env} (h : noLc e = true) : swapsWithSole [t] e l env = pure false := by
  rw [show swapsWithSole [t] e l env = swapsWith e (some t) l env from by first | rfl | simp only [swapsWithSole]]
  exact sw_no h
/-- o[i] = e, a list -/
theorem setI_at {i : List Addr} {H : Hp} {m : Mem} {x j y : V} {a b c : MV} {m' : Mem} (S : Sim D i m H) (r : RV D i H x a) (rj : RV D i H j b) (ry : RV D i H y c) (h : setI a b c m = some m') {Q : Hp → Prop} (hQ : ∀ H', Ext D i H i H' → Sim D i m' H' → Q H') : rSetL x j y H Q := by
  unfold setI at h
  split at h
  · rename_i n kk
    cases r with
    | @ref p _ h0 =>
      cases rj
      split at h
      · rename_i xs e0
        obtain ⟨vs, hp, rs⟩ := S.at_ _ _ _ h0 e0
        cases e : ixN xs.length kk with
        | none => rw [e] at h; cases h
        | some q =>
          rw [e] at h
          cases h
          have ew : Ext D i H i (upd H p (.lst (vs.set q y))) := Ext.write hp (fun s => s)
          exact ⟨p, vs, kk, q, rfl, rfl, hp, by rw [rs.length]; exact e, hQ _ ew (S.write h0 e0 rfl ew (fun b o hb q => by rw [upd_ne hb]; exact q) ⟨_, upd_same, (rs.set ry q).ext ew⟩)⟩
      · cases h
  · cases h
theorem ss_seti (hix : plainE ec = true) (hn : noLc ea = true) (ha : SE X D ea ca) (hb : SE X D eb cb) (hc : SE X D ec cc) (hasg : ∀ v, assign (.Subscript eb ec pos') X.env v = (do
      let ov ← holding [v] (eval eb X.env)
      let iv ← holding [v, ov] (eval ec X.env)
      standAt pos'
      holding [v, ov, iv] (setItem ov iv v)
      release [v, ov, iv] [])) : SS X D (.Assign [.Subscript eb ec pos'] ea pos) (fun r m => (ca r m).st r fun y m1 => (cb r m1).st r fun x m2 => (cc r m2).st r fun j m3 => match setI x j y m3 with
      | some m4 => .nx r m4
      | none => .fail) := by
  refine SS.of (t := fun W => tAsg (tE X D W ca) (gSub (tE X D W cb) (tE X D W cc) rSetL)) (fun W tk => ps_asg (ha W tk) (pg_sub (hb W tk) (hc W tk) set_list hasg) (sws_no hn)) fun W En σ H ⟨i, r, m, S, E, h⟩ => ?_
  refine TE_mono (stb1 (k := fun y r m1 => (cb r m1).st r fun x m2 => (cc r m2).st r fun j m3 => match setI x j y m3 with
      | some m4 => .nx r m4
      | none => .fail) S E h) fun y H1 h1 => TE_mono (stb2 (k := fun y x r m2 => (cc r m2).st r fun j m3 => match setI x j y m3 with
      | some m4 => .nx r m4
      | none => .fail) h1) fun x H2 ⟨i, r, m, v, u, S, E, q1, q2, h⟩ => ?_
  dsimp only at h
  refine ⟨i, r, m, S, E, ?_⟩
  cases e : cc r m with
  | fail => rw [e] at h; exact h
  | ex c fs m1 => rw [e] at h; exact fun i' H' cls d e1 S1 q => h i' H' σ cls d e1 S1 (E.ext e1) q
  | ok w m1 =>
    rw [e] at h
    dsimp only [R.st] at h
    intro i' H' j e1 S1 q3
    cases e2 : setI u w v m1 with
    | none => rw [e2] at h; exact h.elim
    | some m4 =>
      rw [e2] at h
      exact setI_at S1 (q2.ext e1) q3 (q1.ext e1) e2 fun H2 e3 S2 => h i' H2 σ (e1.trans e3) S2 ((E.ext e1).ext e3)
/-- name += or -= a number -/
theorem ss_aug {op : Operator} {g : Int → Int → Int} (hop : OpR X (inplaceOp op) (rI0 fun i j => .int (g i j))) (hN : X.N.Nodup) (hi : X.N[k]? = some x) (hx : Loc X.env.scope x) (hf : X.fn x = true ∨ X.env.scope.names.lookup x = some .local) (ha : SE X D ea ca) :
    SS X D (.AugAssign (.Name x pos') op ea pos) (fun r m => match r[k]? with
      | some (.val v) => (ca r m).st r fun y m1 => match v, y with
        | .int a, .int b => .nx (r.set k (.val (.int (g a b)))) m1
        | _, _ => .fail
      | _ => .fail) := by
  refine SS.of (t := fun W => tAug k (tE X D W ca) (rI0 fun i j => .int (g i j))) (fun W tk => ps_aug hN hi hx (ha W tk) hop hf) fun W En σ H ⟨i, r, m, S, E, h⟩ => ?_
  dsimp only at h
  cases e : r[k]? with
  | none => rw [e] at h; exact h.elim
  | some s =>
    rw [e] at h
    cases s with
    | no => exact h.elim
    | exn c fs => exact h.elim
    | val v =>
      dsimp only at h
      obtain ⟨o, h1, u, h2, h3⟩ := E.2 k _ e
      subst h2
      refine ⟨u, h1, ?_⟩
      refine ⟨i, r, m, S, E, ?_⟩
      cases e1 : ca r m with
      | fail => rw [e1] at h; exact h
      | ex c fs m1 => rw [e1] at h; exact fun i' H' cls d e1 S1 q => h i' H' σ cls d e1 S1 (E.ext e1) q
      | ok w m1 =>
        rw [e1] at h
        dsimp only [R.st] at h
        intro i' H' y e2 S1 q3
        have q1 := h3.ext e2
        split at h
        · rename_i a b
          cases q1
          cases q3
          exact ⟨a, b, rfl, rfl, h i' H' _ e2 S1 ((E.ext e2).set ⟨_, rfl, .int _⟩)⟩
        · exact h.elim
end
end U
end Part_U14

section Part_U15
set_option Elab.async false
set_option linter.all false
set_option maxRecDepth 100000
set_option maxHeartbeats 4000000
/-! U15: several names at once. -/
namespace U
open PySem PySem.Spec PyProof.Rows L2
def setσ (σ : L2.St) : List Nat → List V → L2.St
  | k :: ks, v :: vs => setσ (σ.set k (some v)) ks vs
  | _, _ => σ
def gNames (ks : List Nat) : TGs := fun vs σ H Q => vs.length = ks.length ∧ Q (setσ σ ks vs) H
/-- targets that are names of the frame -/
inductive NameL (X : Cx) : List Expr → List Nat → Prop
  | nil : NameL X [] []
  | cons {k : Nat} {x : Str} {p : Pos} {es : List Expr} {ks : List Nat} : X.N[k]? = some x → Loc X.env.scope x → (X.fn x = true ∨ X.env.scope.names.lookup x = some .local) → NameL X es ks → NameL X (.Name x p :: es) (k :: ks)
section
variable {X : Cx} {D : Dat}
theorem NameL.len {es : List Expr} {ks : List Nat} (h : NameL X es ks) : (assignEach es X.env).length = ks.length := by
  induction h with
  | nil => rfl
  | cons _ _ _ _ ih => exact congrArg Nat.succ ih
theorem NameL.nost {es : List Expr} {ks : List Nat} (h : NameL X es ks) : (assignEach es X.env).findIdx? (·.1) = none := by
  induction h with
  | nil => rfl
  | @cons k x p es ks _ _ _ _ ih =>
    show List.findIdx? (·.1) ((false, assign (.Name x p) X.env) :: assignEach es X.env) = none
    rw [List.findIdx?_cons]
    simp [ih]
theorem NameL.pgs (hN : X.N.Nodup) {es : List Expr} {ks : List Nat} (h : NameL X es ks) : PGs X es (gNames ks) := by
  induction h with
  | nil => exact ⟨fun pins s σ H vs us Q I r ⟨hl, q⟩ => pgs_nil.run pins s σ H vs us Q I r ⟨List.length_eq_zero_iff.mp hl, by
      rw [List.length_eq_zero_iff.mp hl] at q; exact q⟩⟩
  | @cons k x p es ks h1 h2 h3 _ ih =>
    refine ⟨fun pins s σ H vs us Q I r ⟨hl, q⟩ => (pgs_cons (pg_name hN h1 h2 h3) ih).run pins s σ H vs us Q I r ?_⟩
    cases vs with
    | nil => simp at hl
    | cons v vs => exact ⟨v, vs, rfl, by simpa using hl, q⟩
theorem RE.setAll {i : List Addr} {H : Hp} : ∀ {ks : List Nat} {r r' : Env} {σ : L2.St} {vs : List V} {xs : List MV}, RE X D i H r σ → RVs D i H vs xs → U.setAll r ks xs = some r' → vs.length = ks.length ∧ RE X D i H r' (setσ σ ks vs)
  | [], r, r', σ, _, _, E, .nil, h => by cases h; exact ⟨rfl, E⟩
  | k :: ks, r, r', σ, _, _, E, .cons (v := v) q t, h => by
    have h' : U.setAll (r.set k (.val _)) ks _ = some r' := h
    obtain ⟨h1, h2⟩ := RE.setAll (E.set (k := k) (s := .val _) (o := some v) ⟨v, rfl, q⟩) t h'
    exact ⟨congrArg Nat.succ h1, h2⟩
def gTupE (ks : List Nat) (v : MV) (r : Env) : Option Env := match v with
  | .tup xs => setAll r ks xs
  | _ => none
theorem sg_tup {es : List Expr} {ks : List Nat} {kk : Nat} {p : Pos} (hK : X.K = D.K) (hc : X.calm = true) (hN : X.N.Nodup) (h : NameL X es ks) : SG X D (.Tuple es kk p) (gTupE ks) := by
  refine ⟨gTup X.K ks.length (gNames ks), pg_tup hc (h.pgs hN) h.len h.nost, fun i H v x r r' σ m Q S E q e hq => ?_⟩
  unfold gTupE at e
  cases q with
  | @tup a vs xs h1 h2 =>
    obtain ⟨h3, h4⟩ := E.setAll h2 e
    rw [hK]
    exact ⟨a, vs, rfl, h1, h3, h3, hq _ h4⟩
  | _ => cases e
/-- target = value, any target -/
theorem ss_asg {tg ea : Expr} {ca : Env → M MV} {g : MV → Env → Option Env} {pos : Pos} (hg : SG X D tg g) (hn : noLc ea = true) (hw : swappedStores [tg] ea X.env = pure none) (h1 : (assignEach [tg] X.env).map (·.2) = [assign tg X.env]) (ha : SE X D ea ca) :
    SS X D (.Assign [tg] ea pos) (fun r m => (ca r m).st r fun v m1 => match g v r with
      | some r' => .nx r' m1
      | none => .fail) := by
  obtain ⟨t, hg, hgt⟩ := hg
  refine SS.of (t := fun W => tAsg (tE X D W ca) t) (fun W tk => ps_asg (ha W tk) hg (sws_no hn) hw h1) fun W En σ H ⟨i, r, m, S, E, h⟩ => ?_
  refine TE_mono (stb1 (k := fun v r m1 => match g v r with
      | some r' => .nx r' m1
      | none => .fail) S E h) fun y H1 ⟨i, r, m, v, S, E, q, h⟩ => ?_
  dsimp only at h
  cases e : g v r with
  | none => rw [e] at h; exact h.elim
  | some r' =>
    rw [e] at h
    exact hgt i H1 v y r r' σ m _ S E q e fun σ' E' => h i H1 σ' Ext.refl S E'
/-- the compiler's way with (a, b) = (x, y) -/
def swRes (sc : Scope) (ts vs : List Expr) : Option (Option (List Str)) :=
  if !(ts.length == 2 || ts.length == 3) || vs.length != ts.length then some none else
  if vs.any fun | .Starred .. => true | _ => false then some none else
  let line := (ts.head?.map (·.pos.line)).getD 0
  let names := ts.filterMap fun
    | .Name id pos => if sc.names.lookup id == some .local && pos.line == line then some id else none
    | _ => none
  if names.length != ts.length || names.eraseDups.length != names.length then some none else
  if vs.all (foldedForSure 8) then some none else
  if vs.all (constantsAlone 8) then none else some (some names)
theorem swRes_ok {ts vs : List Expr} {k k2 : Nat} {p p2 : Pos} {o : Option (List Str)} (hk : X.env.scope.kind = .function) (h : swRes X.env.scope ts vs = some o) : swappedStores [.Tuple ts k p] (.Tuple vs k2 p2) X.env = pure o := by
  have hb : X.env.blockKind = .function := by unfold Env.blockKind; rw [hk]; rfl
  have hb2 : (X.env.blockKind != .function) = false := by rw [hb]; rfl
  unfold swappedStores
  dsimp only
  rw [hb2, Bool.or_false]
  unfold swRes at h
  unfold Env.kindOf
  by_cases c1 : (!(ts.length == 2 || ts.length == 3) || vs.length != ts.length) = true
  · rw [if_pos c1] at h ⊢
    cases h
    rfl
  · rw [if_neg c1] at h ⊢
    by_cases c2 : (vs.any fun | .Starred .. => true | _ => false) = true
    · rw [if_pos c2] at h
      erw [if_pos c2]
      cases h
      rfl
    · rw [if_neg c2] at h
      erw [if_neg c2]
      dsimp only at h ⊢
      split at h
      · rename_i c3
        erw [if_pos c3]
        cases h
        rfl
      · rename_i c3
        erw [if_neg c3]
        split at h
        · rename_i c4
          erw [if_pos c4]
          cases h
          rfl
        · rename_i c4
          erw [if_neg c4]
          split at h
          · cases h
          · rename_i c5
            erw [if_neg c5]
            cases h
            rfl
theorem ss_par {ea eb : Expr} {cl : Env → M (List MV)} {x y : Str} {j k : Nat} {px py pt pt2 pos : Pos} {kt k2 : Nat} (hc : X.calm = true) (hN : X.N.Nodup) (hj : X.N[j]? = some x) (hk : X.N[k]? = some y) (hjk : j ≠ k) (hx : X.env.scope.names.lookup x = some .local) (hy : X.env.scope.names.lookup y = some .local)
    (hw : swappedStores [.Tuple [.Name x px, .Name y py] kt pt] (.Tuple [ea, eb] k2 pt2) X.env = pure (some [x, y])) (ha : SL X D [ea, eb] cl) :
    SS X D (.Assign [.Tuple [.Name x px, .Name y py] kt pt] (.Tuple [ea, eb] k2 pt2) pos) (fun r m => ((cl r m).bind fun vs m1 => lift (mkTup vs m1)).st r fun v m1 => match gTupE [j, k] v r with
      | some r' => .nx r' m1
      | none => .fail) := by
  refine SS.of (t := fun W => tPar j k (tL X D W cl)) (fun W tk => ps_par hc hN hj hk hjk hx hy (ha W tk) hw) fun W En σ H ⟨i, r, m, S, E, h⟩ => ?_
  refine ⟨i, r, m, S, E, ?_⟩
  dsimp only at h
  cases e : cl r m with
  | fail => rw [e] at h; exact h
  | ex c fs m1 => rw [e] at h; exact fun i' H' cls d e1 S1 q => h i' H' σ cls d e1 S1 (E.ext e1) q
  | ok us m1 =>
    rw [e] at h
    dsimp only [R.bind, R.st] at h
    intro i' H' vs e1 S1 q
    cases e3 : mkTup us m1 with
    | none => rw [e3] at h; exact h.elim
    | some pr =>
      rw [e3] at h
      unfold mkTup at e3
      split at e3
      · cases e3
        dsimp only [U.lift] at h
        cases e2 : setAll r [j, k] us with
        | none =>
          rw [show gTupE [j, k] (.tup us) r = none from e2] at h
          exact h.elim
        | some r' =>
          rw [show gTupE [j, k] (.tup us) r = some r' from e2] at h
          obtain ⟨h1, h2⟩ := (E.ext e1).setAll q e2
          match vs, h1 with
          | [v, w], _ => exact ⟨v, w, rfl, h i' H' _ e1 S1 h2⟩
      · cases e3
end
end U
end Part_U15

section Part_UDC
set_option Elab.async false
set_option linter.all false
set_option maxRecDepth 100000
set_option maxHeartbeats 4000000
/-! UDC: tables of the module: texts to numbers. -/
namespace U
open PySem PySem.Spec PyProof.Rows L2
/-- at d: the table l -/
structure DicOk (K : PySem.W.Frag) (w : World) (d : Addr) (l : List (Txt × Int)) : Prop where
  ex : ∃ es n, KDict K w d es n
  hit : ∀ z i, l.lookup z = some i → ∃ t, PySem.W.nsIn K d ⟨z.toArray⟩ = some (some (.int i t))
  mis : ∀ z, l.lookup z = none → PySem.W.nsIn K d ⟨z.toArray⟩ = some none
theorem find_keys {P : Params} {x : Str} : ∀ {l : List DictEntry} {ks : List Str}, l.map He.keyOf = He.keysIn P ks → x ∉ ks → l.find? (fun e => e.key.isStr x) = none ∧ l.any (fun e => e.refKey) = false
  | [], _, _, _ => ⟨rfl, rfl⟩
  | e :: r, [], h, _ => by cases h
  | e :: r, k :: ks, h, hx => by
    have h1 : He.keyOf e :: r.map He.keyOf = some (k, PyData.keyHash P k) :: He.keysIn P ks := h
    injection h1 with h2 h3
    obtain ⟨a1, a2⟩ := find_keys h3 fun z => hx (List.mem_cons_of_mem _ z)
    have hk : ∃ t, e.key = .str k t := by
      unfold He.keyOf at h2
      split at h2
      · rename_i y t q
        have h4 := Option.some.inj h2
        obtain ⟨h5, h6⟩ := Prod.mk.inj h4
        exact ⟨t, by rw [q, h5]⟩
      · cases h2
    obtain ⟨t, hk⟩ := hk
    have ne : (e.key.isStr x) = false := by
      rw [hk]
      show decide _ = false
      exact decide_eq_false fun z => hx (by
        have : k = x := z
        rw [← this]
        exact List.mem_cons_self ..)
    refine ⟨by rw [List.find?_cons_of_neg (by rw [ne]; decide)]; exact a1, ?_⟩
    rw [List.any_cons, a2, Bool.or_false]
    show (match e.key with | .ref _ => true | _ => false) = false
    rw [hk]
theorem dicOk_of {K : PySem.W.Frag} {w : World} {a : Addr} {l : List (Txt × Int)} (h : He.dicW K a = some (He.keysIn w.params (l.map fun p => ⟨p.1.toArray⟩))) (hv : He.valsB K a (l.map fun p => (⟨p.1.toArray⟩, .int p.2)) = true) : DicOk K w a l := by
  refine ⟨He.dicW_ok h, fun z i hz => ?_, fun z hz => ?_⟩
  · have hm : ∀ {l : List (Txt × Int)}, l.lookup z = some i → (z, i) ∈ l := by
      intro l
      induction l with
      | nil => intro h; cases h
      | cons p l ih =>
        intro h
        obtain ⟨y, j⟩ := p
        rw [List.lookup_cons] at h
        split at h
        · rename_i e
          cases h
          have e' : z = y := by simpa using e
          rw [e']
          exact List.mem_cons_self ..
        · exact List.mem_cons_of_mem _ (ih h)
    obtain ⟨u, e, r⟩ := He.valsB_ok hv (q := (⟨z.toArray⟩, .int i)) (List.mem_map.mpr ⟨(z, i), hm hz, rfl⟩)
    obtain ⟨t, rfl⟩ := (show ∃ t, u = Value.int i t from r)
    exact ⟨t, e⟩
  · have nm : (⟨z.toArray⟩ : Str) ∉ l.map fun p => (⟨p.1.toArray⟩ : Str) := fun hm => by
      obtain ⟨p, hp, e⟩ := List.mem_map.mp hm
      have e1 : p.1 = z := by
        have := congrArg (fun s : Str => s.cps.toList) e
        simpa using this
      have : ∀ {l : List (Txt × Int)}, p ∈ l → l.lookup p.1 ≠ none := by
        intro l
        induction l with
        | nil => intro h; cases h
        | cons q l ih =>
          intro h
          obtain ⟨y, j⟩ := q
          rw [List.lookup_cons]
          split
          · intro z; cases z
          · rename_i e
            rcases List.mem_cons.mp h with e2 | h2
            · rw [e2] at e
              simp at e
            · exact ih h2
      exact this hp (e1 ▸ hz)
    unfold He.dicW at h
    unfold PySem.W.nsIn
    cases q : K.lookup a with
    | none => rw [q] at h; cases h
    | some o =>
      obtain ⟨oc, od, dt, osl⟩ := o
      rw [q] at h
      cases oc with
      | type c =>
        cases od with
        | none =>
          cases dt with
          | dict es n =>
            dsimp only at h ⊢
            split at h
            · obtain ⟨a1, a2⟩ := find_keys (Option.some.inj h) nm
              rw [a1]
              dsimp only
              rw [if_neg (by rw [a2]; decide)]
            · cases h
          | _ => cases h
        | some b => cases dt <;> cases h
      | _ => cases od <;> cases dt <;> cases h
section
variable {X : Cx} {D : Dat} {a : Expr} {ca : Env → M MV} {d : Addr} {l : List (Txt × Int)} {x : Str} {p pos : Pos}
theorem se_din (O : DicOk X.K X.w d l) (hg : Gl X x) (hm : X.mg x = some (.ref d)) (hd : (x == ("__debug__" : Str)) = false) (ha : SE X D a ca) : SE X D (.Compare a [.In] [.Name x p] pos) (fun r m => (ca r m).bind fun v m1 => lift (dinv l false v m1)) := by
  obtain ⟨es, n, kd⟩ := O.ex
  refine SE.of (t := fun W => tOp _ (tE X D W ca) (tC (.ref d))) (fun W tk => pe_cmpR (op_in_kd kd) (ha W tk) (pe_glob hg hm rfl hd) rfl) fun W σ H Q ⟨i, r, m, S, E, h⟩ => ?_
  refine TE_mono (bind1 (k := fun v r m1 => lift (dinv l false v m1)) S E h) fun y H1 ⟨i, r, m, v, S, E, q, h⟩ => ?_
  cases q with
  | str z =>
    have h' := Pst.lift h
    cases e : l.lookup z with
    | none =>
      refine ⟨_, _, rfl, rfl, O.mis z e, ?_⟩
      have := h'.here S (.bl _)
      simpa [dinv, e] using this
    | some j =>
      obtain ⟨t, ht⟩ := O.hit z j e
      refine ⟨_, _, rfl, rfl, ht, ?_⟩
      have := h'.here S (.bl _)
      simpa [dinv, e] using this
  | _ => exact h.elim
theorem se_ndin (O : DicOk X.K X.w d l) (hg : Gl X x) (hm : X.mg x = some (.ref d)) (hd : (x == ("__debug__" : Str)) = false) (ha : SE X D a ca) : SE X D (.Compare a [.NotIn] [.Name x p] pos) (fun r m => (ca r m).bind fun v m1 => lift (dinv l true v m1)) := by
  obtain ⟨es, n, kd⟩ := O.ex
  refine SE.of (t := fun W => tOp _ (tE X D W ca) (tC (.ref d))) (fun W tk => pe_cmpR (op_notIn_kd kd) (ha W tk) (pe_glob hg hm rfl hd) rfl) fun W σ H Q ⟨i, r, m, S, E, h⟩ => ?_
  refine TE_mono (bind1 (k := fun v r m1 => lift (dinv l true v m1)) S E h) fun y H1 ⟨i, r, m, v, S, E, q, h⟩ => ?_
  cases q with
  | str z =>
    have h' := Pst.lift h
    cases e : l.lookup z with
    | none =>
      refine ⟨_, _, rfl, rfl, O.mis z e, ?_⟩
      have := h'.here S (.bl _)
      simpa [dinv, e] using this
    | some j =>
      obtain ⟨t, ht⟩ := O.hit z j e
      refine ⟨_, _, rfl, rfl, ht, ?_⟩
      have := h'.here S (.bl _)
      simpa [dinv, e] using this
  | _ => exact h.elim
theorem st_din (O : DicOk X.K X.w d l) (hg : Gl X x) (hm : X.mg x = some (.ref d)) (hd : (x == ("__debug__" : Str)) = false) (ha : SE X D a ca) : ST X D (.Compare a [.In] [.Name x p] pos) (fun r m => (ca r m).bind fun v m1 => lift (dinv l false v m1)) := by
  obtain ⟨es, n, kd⟩ := O.ex
  refine fun W tk => U.PT.imp (pt_cmpR (op_in_kd kd) (ha W tk) (pe_glob (v := .ref d) hg hm rfl hd) rfl) fun σ H Q ⟨i, r, m, S, E, h⟩ => ?_
  simp only [bind_bind] at h
  refine TE_mono (bind1 (k := fun v r m1 => (lift (dinv l false v m1)).bind fun x m1 => onTru m1 x fun b => R.ok b m1) S E h) fun y H1 ⟨i, r, m, v, S, E, q, h⟩ => ?_
  cases q with
  | str z =>
    cases e : l.lookup z with
    | none =>
      refine ⟨_, _, rfl, rfl, O.mis z e, _, rfl, ?_⟩
      have e2 : dinv l false (.str z) m = some (.bl false, m) := by unfold dinv; dsimp only; rw [e]; rfl
      dsimp only at h
      rw [e2] at h
      exact h i H1 _ Ext.refl S rfl
    | some j =>
      obtain ⟨t, ht⟩ := O.hit z j e
      refine ⟨_, _, rfl, rfl, ht, _, rfl, ?_⟩
      have e2 : dinv l false (.str z) m = some (.bl true, m) := by unfold dinv; dsimp only; rw [e]; rfl
      dsimp only at h
      rw [e2] at h
      exact h i H1 _ Ext.refl S rfl
  | _ => exact h.elim
theorem st_ndin (O : DicOk X.K X.w d l) (hg : Gl X x) (hm : X.mg x = some (.ref d)) (hd : (x == ("__debug__" : Str)) = false) (ha : SE X D a ca) : ST X D (.Compare a [.NotIn] [.Name x p] pos) (fun r m => (ca r m).bind fun v m1 => lift (dinv l true v m1)) := by
  obtain ⟨es, n, kd⟩ := O.ex
  refine fun W tk => U.PT.imp (pt_cmpR (op_notIn_kd kd) (ha W tk) (pe_glob (v := .ref d) hg hm rfl hd) rfl) fun σ H Q ⟨i, r, m, S, E, h⟩ => ?_
  simp only [bind_bind] at h
  refine TE_mono (bind1 (k := fun v r m1 => (lift (dinv l true v m1)).bind fun x m1 => onTru m1 x fun b => R.ok b m1) S E h) fun y H1 ⟨i, r, m, v, S, E, q, h⟩ => ?_
  cases q with
  | str z =>
    cases e : l.lookup z with
    | none =>
      refine ⟨_, _, rfl, rfl, O.mis z e, _, rfl, ?_⟩
      have e2 : dinv l true (.str z) m = some (.bl true, m) := by unfold dinv; dsimp only; rw [e]; rfl
      dsimp only at h
      rw [e2] at h
      exact h i H1 _ Ext.refl S rfl
    | some j =>
      obtain ⟨t, ht⟩ := O.hit z j e
      refine ⟨_, _, rfl, rfl, ht, _, rfl, ?_⟩
      have e2 : dinv l true (.str z) m = some (.bl false, m) := by unfold dinv; dsimp only; rw [e]; rfl
      dsimp only at h
      rw [e2] at h
      exact h i H1 _ Ext.refl S rfl
  | _ => exact h.elim
theorem se_dix (O : DicOk X.K X.w d l) (hg : Gl X x) (hm : X.mg x = some (.ref d)) (hd : (x == ("__debug__" : Str)) = false) (hp : PlainIx a) (ha : SE X D a ca) : SE X D (.Subscript (.Name x p) a pos) (fun r m => (ca r m).bind fun v m1 => lift (dixv l v m1)) := by
  obtain ⟨es, n, kd⟩ := O.ex
  refine SE.of (t := fun W => tOp (rIxD X.K X.w) (tC (.ref d)) (tE X D W ca)) (fun W tk => pe_ix ix_kdict (pe_glob hg hm rfl hd) (ha W tk) hp) fun W σ H Q ⟨i, r, m, S, E, h⟩ => ?_
  refine TE_mono (bind1 (k := fun v r m1 => lift (dixv l v m1)) S E h) fun y H1 ⟨i, r, m, v, S, E, q, h⟩ => ?_
  cases q with
  | str z =>
    have h' := Pst.lift h
    unfold dixv at h'
    dsimp only at h'
    cases e : l.lookup z with
    | none => rw [e] at h'; exact h'.elim
    | some j =>
      rw [e] at h'
      obtain ⟨t, ht⟩ := O.hit z j e
      exact ⟨_, _, _, rfl, rfl, ⟨es, n, _, kd.at_, kd.lit, ht, (show RelV (V.int j) (Value.int j t) from ⟨t, rfl⟩)⟩, h'.here S (.int _)⟩
  | _ => exact h.elim
end
end U
end Part_UDC

section Part_UE
set_option Elab.async false
set_option linter.all false
set_option maxRecDepth 100000
set_option maxHeartbeats 4000000
/-! UE: exceptions of classes with an __init__ that calls the one above with a text, and keeps one thing. -/
namespace U
open PySem PySem.Spec PyProof.Rows L2
/-- a def whose body makes no calls of defs -/
theorem fnG_leaf {P : Program} {w : World} {K : PySem.W.Frag} {mg : Str → Option Value} {base : Heap} {n : Nat} {x qual : Str} {params : Arguments} {body : List Stmt} {scope : Scope} {dvs : List V} {kws : List (Str × V)} {f : Addr} {fd : FuncData} {N ps : List Str} {sp : Sp}
    (F : FunD K x qual params body scope dvs kws f fd) (S : FnScope N ps scope) (len : ∀ vs H Q E, sp vs H Q E → vs.length = ps.length)
    (hbody : ∀ (cdv : Value) (A : Around) (outer : List PySem.Env) (s : Shared) (H : Hp) (vs : List V) (Q : VK) (E : XK), RoomG n A → sp vs H Q E →
      ∃ t, PSs (cxOf (L2.CX P w) P w K mg base N qual scope f cdv A outer s H E) body t ∧ t { nx := fun _ H' => Q .non H', rt := Q } (start N vs) H) :
    FnG P w K mg base n f fd ps sp := by
  obtain ⟨oc, od, dV, kV, doc, pm, an, cdv, ct, osl, rfl, lk, hcd, _, _⟩ := F.ex
  refine ⟨len, fun A outer s H args us vs Q E hr e0 hb r hsp => ?_⟩
  have KX : K.In s.heap := e0.mod.kin.keeps fun b o e => (e0.bs b o e).1
  have lim := Heap.NoLimit.keeps e0.mod.nolimit fun b o e => (e0.bs b o e).1
  have dep : A.depth < recursionLimit := by have h := hr.dp; omega
  refine codeAny_call_function dep (KX _ _ lk) rfl S.co S.gen rfl (PySem.W.codeRec_of KX hcd) (hb _ _ _ _ (wpAny_newFunctionEnv_cells S.kind (fun ⟨y, v⟩ hy => ?_) fun env he s1 z => ?_))
  · rcases S.par y (List.of_mem_zip hy).1 with q | q
    · exact Or.inl q
    · exact Or.inr ⟨q, PySem.W.cellsFrom_some _ _ _ (Or.inl q)⟩
  · subst he
    obtain ⟨t, ht, hq⟩ := hbody cdv A outer s H vs Q E hr hsp
    have I := inv_start (CX := L2.CX P w) (cd := cdv) (f := f) (E := E) S hr.hd e0 (len _ _ _ _ hsp) r z
    refine ⟨lim.keeps z.toInCall.keep, codeAny_func (wpAny_mono (ht.run [] s1 (start N vs) H _ I hq) (fun fl s' hs => ?_) fun e s' hs => hs)⟩
    cases fl with
    | brk => exact (let ⟨_, _, _, q⟩ := hs; q : False).elim
    | cont => exact (let ⟨_, _, _, q⟩ := hs; q : False).elim
    | next =>
      obtain ⟨σ', H', J, q⟩ := hs
      exact ⟨.non, H', J.os, J.bare, J.base, J.hok, rfl, q⟩
    | ret u =>
      obtain ⟨v, σ', H', J, rv, q⟩ := hs
      exact ⟨v, H', J.os, J.bare, J.base, J.hok, rv, q⟩
/-- what may be kept and shown -/
def Shw : V → Prop
  | .str y => y.length ≤ 1000
  | .int i => i.natAbs.log2 < 1920 ∧ (toString i : Str).length ≤ 1000
  | _ => False
/-- the promise of such an __init__ -/
def spX (C : Addr) (f : Str) : Sp := fun vs H Q _ => ∃ a v, vs = [.ref a, v] ∧ H a = some (exo a C none) ∧ Shw v ∧ ∀ d, H d = none → d ≠ a → Q .non (upd (upd H d (exd d [(f, v)])) a (exo a C (some d)))
/-- the class above, whose __init__ is called -/
structure Sup (K : PySem.W.Frag) (T : Addr) : Prop where
  ga : PySem.W.specialIn K (.ref T) "__getattribute__" = some (some (.builtin "type.__getattribute__"))
  rd : PySem.W.readsIn K T (.type "type") = true
  at_ : PySem.W.findCls K (.ref T) (.type "type") "__init__" = some (.val (.builtin "ValueError.__init__"))
def supB (K : PySem.W.Frag) (T : Addr) : Bool := decide (PySem.W.specialIn K (.ref T) "__getattribute__" = some (some (.builtin "type.__getattribute__"))) && (PySem.W.readsIn K T (.type "type") && (match PySem.W.findCls K (.ref T) (.type "type") "__init__" with
  | some (.val v) => decide (v = .builtin "ValueError.__init__")
  | _ => false))
theorem supB_ok {K : PySem.W.Frag} {T : Addr} (h : supB K T = true) : Sup K T := by
  unfold supB at h
  rw [Bool.and_eq_true, Bool.and_eq_true] at h
  refine ⟨of_decide_eq_true h.1, h.2.1, ?_⟩
  have h3 := h.2.2
  split at h3
  · rename_i v e
    rw [e, of_decide_eq_true h3]
  · cases h3
section
variable {X : Cx} {e : Expr} {es : List Expr} {ta : TA} {p1 p2 pos : Pos} {T : Addr} {x : Str}
/-- T.__init__(self, ..) -/
theorem pe_superinit {e2 : Expr} (S : Sup X.K T) (hg : Gl X x) (hm : X.mg x = some (.ref T)) (hdb : (x == ("__debug__" : Str)) = false) (hline : (p2.endLine == pos.line) = true) (hes : es = [e2]) (ha : PA X (e :: es) ta)
    (hf : methodCallForm ((e :: es).length + ([] : List Keyword).length) (backTo pos (starEach (e :: es) X.env)) (backToKw pos (keywordEach [] X.env)) = true)
    (he : starEach (e :: es) X.env = (false, eval e X.env) :: starEach es X.env) (hpl : (backTo pos (starEach es X.env)).any (·.1) = false) :
    PE X (.Call (.Attribute (.Name x p1) "__init__" p2) (e :: es) [] pos) (tVeI X.K ta) := by
  refine ⟨fun pins s σ H Q I h => ?_⟩
  rw [arm_eval_Call]
  show wpAny _ _ (eval (.Name x p1) X.env >>= fun ov => standAt p2.atName >>= fun _ => methodCall (.Name x p1) "__init__" p2 pos X.env ov ((e :: es).length + ([] : List Keyword).length) (backTo pos (starEach (e :: es) X.env)) (backToKw pos (keywordEach [] X.env))) _ _ _
  refine wpAny_bind (ld_glob I hg hm (wpAny_bind (wpAny_standAt ?_)) hdb)
  rw [mcall_line hf hline]
  refine wpAny_bind (wpAny_holding ?_)
  refine PySem.W.method_cls I.kIn S.ga (PySem.W.cls_value I.kIn S.rd S.at_ (by decide +kernel) ?_)
  show wpAny _ _ (callWith pos (Value.builtin "ValueError.__init__") [] (backTo pos (starEach (e :: es) X.env)) []) _ _ _
  refine PyProof.Rows.callWith_method1 (thn (ha.run pos pins _ σ H _ (I.tok _) h) fun us s1 ⟨vs, H1, I1, r1, a, C, ws, ev, hl, O, ea, q⟩ => ?_) he hpl
  subst ev
  cases r1 with
  | @cons _ u0 _ ur ra rw' =>
    obtain rfl : u0 = Value.ref a := ra
    refine oinit_ok O I1 ea ?_ fun s' J => ⟨.non, H1, J, rfl, q⟩
    rw [← Paired.length rw', sizeLine_eq]
    omega
end
/-! ### the text -/
inductive Part where
  | lit (s : Str) | arg
def partsOf (x : Str) : List Expr → Option (List Part)
  | [] => some []
  | .Constant (.str s) _ _ :: r => (partsOf x r).map (.lit s :: ·)
  | .FormattedValue (.Name y _) (-1) none _ :: r => if y = x then (partsOf x r).map (.arg :: ·) else none
  | _ => none
/-- is it such an __init__: its class's attribute, the class above -/
structure InitS where
  T : Str
  f : Str
  x : Str
  parts : List Part
def initS : List Stmt → Option InitS
  | [.Expr (.Call (.Attribute (.Name T _) "__init__" p2) [.Name "self" _, .JoinedStr (v1 :: v2 :: r) _] [] p5) _, .Assign [.Attribute (.Name "self" _) f _] (.Name x _) _] => if p2.endLine == p5.line then (partsOf x (v1 :: v2 :: r)).map fun ps => ⟨T, f, x, ps⟩ else none
  | _ => none
def Part.len : Part → Nat
  | .lit s => s.length
  | .arg => 1000
def textOf (v : V) : Str := match v with
  | .str y => y
  | .int i => toString i
  | _ => Str.empty
theorem textOf_len {v : V} (h : Shw v) : (textOf v).length ≤ 1000 := by
  cases v with
  | str y => exact h
  | int i => exact h.2
  | _ => exact h.elim
theorem app_len (a b : Str) : (a ++ b).length = a.length + b.length := by
  show (a.cps ++ b.cps).size = _
  rw [Array.size_append]
  rfl
section
theorem parts_pj {X : Cx} {x : Str} (hN : X.N[1]? = some x) (hv : Vis X.env.scope x) (h1 : (x == ("__debug__" : Str)) = false) (h2 : (x == ("__classdict__" : Str)) = false) : ∀ {es : List Expr} {ps : List Part}, partsOf x es = some ps → ∃ ts, PJ X es ts ∧
    ∀ (σ : L2.St) (v : V), σ[1]? = some (some v) → Shw v → ∀ (acc : Str) (H : Hp) (Q : Str → Hp → Prop), acc.length + (ps.map Part.len).sum ≤ sizeLine → (∀ out, Q out H) → tJs ts acc σ H Q
  | [], ps, h => by
    cases h
    exact ⟨[], .nil, fun σ v hσ hs acc H Q hl q => q acc⟩
  | ex :: es, ps, h => by
    unfold partsOf at h
    split at h
    · rename_i er
      cases er
    · rename_i s _ _ r er
      cases er
      cases e1 : partsOf x es with
      | none => rw [e1] at h; cases h
      | some ps' =>
        rw [e1] at h
        cases h
        obtain ⟨ts, j, g⟩ := parts_pj hN hv h1 h2 e1
        refine ⟨_, .cons pe_str j, fun σ v hσ hs acc H Q hl q => ?_⟩
        rw [List.map_cons, List.sum_cons] at hl
        have hl' : acc.length + (s.length + (ps'.map Part.len).sum) ≤ sizeLine := hl
        refine ⟨s, rfl, by rw [app_len]; omega, g σ v hσ hs _ H Q (by rw [app_len]; omega) q⟩
    · rename_i y p p2 r er
      cases er
      split at h
      · rename_i ey
        subst ey
        cases e1 : partsOf y es with
        | none => rw [e1] at h; cases h
        | some ps' =>
          rw [e1] at h
          cases h
          obtain ⟨ts, j, g⟩ := parts_pj hN hv h1 h2 e1
          refine ⟨_, .cons (pe_fmt (pe_var hN hv h1 h2)) j, fun σ v hσ hs acc H Q hl q => ?_⟩
          rw [List.map_cons, List.sum_cons] at hl
          have hl' : acc.length + (1000 + (ps'.map Part.len).sum) ≤ sizeLine := hl
          have tl := textOf_len hs
          refine ⟨v, hσ, ?_⟩
          have fin : ∃ y' : Str, V.str (textOf v) = .str y' ∧ (acc ++ y').length ≤ sizeLine ∧ tJs ts (acc ++ y') σ H Q := ⟨textOf v, rfl, by rw [app_len]; omega, g σ v hσ hs _ H Q (by rw [app_len]; omega) q⟩
          cases v with
          | str z => exact .inl ⟨z, rfl, by have : z.length ≤ 1000 := hs; rw [sizeLine_eq]; omega, fin⟩
          | int i => exact .inr ⟨i, rfl, hs.1, fin⟩
          | _ => exact hs.elim
      · cases h
    · cases h
end
/-- what is asked of the scope and the module for such an __init__ -/
theorem init_fnG {P : Program} {w : World} {K : PySem.W.Frag} {mg : Str → Option Value} {base : Heap} {n : Nat} {nm qual : Str} {params : Arguments} {body : List Stmt} {scope : Scope} {dvs : List V} {kws : List (Str × V)} {fI : Addr} {fd : FuncData} {C T : Addr} {I0 : InitS}
    (F : FunD K nm qual params body scope dvs kws fI fd) (hb : initS body = some I0) (S : FnScope ["self", I0.x] ["self", I0.x] scope) (O : OexC K C) (hno : PySem.W.findIn K (.ref C) I0.f = some none) (Su : Sup K T) (hg : scope.names.lookup I0.T = some .globalImplicit) (hm : mg I0.T = some (.ref T))
    (d1 : (I0.T == ("__debug__" : Str)) = false) (d2 : (I0.x == ("__debug__" : Str)) = false) (d3 : (I0.x == ("__classdict__" : Str)) = false) (hl : (I0.parts.map Part.len).sum ≤ 10000) :
    FnG P w K mg base n fI fd ["self", I0.x] (spX C I0.f) := by
  have vis : ∀ y ∈ (["self", I0.x] : List Str), Vis scope y := fun y hy => (S.par y hy).elim .inl fun h => .inr (.inl h)
  refine fnG_leaf F S (fun vs H Q E h => by obtain ⟨a, v, rfl, _⟩ := h; rfl) fun cdv A outer s H vs Q E hr hsp => ?_
  obtain ⟨a, v, rfl, ea, hs, q⟩ := hsp
  unfold initS at hb
  split at hb
  · rename_i T0 p1 p2 p3 v1 v2 r p4 p5 p6 p7 f p8 x p9 p10
    split at hb
    case isFalse => cases hb
    rename_i hline
    cases e1 : partsOf x (v1 :: v2 :: r) with
    | none => rw [e1] at hb; cases hb
    | some ps =>
      rw [e1] at hb
      cases hb
      have vs' : Vis scope "self" := vis _ (by simp)
      have vx : Vis scope x := vis _ (by simp)
      obtain ⟨ts, j, g⟩ := parts_pj (X := cxOf (L2.CX P w) P w K mg base ["self", x] qual scope fI cdv A outer s H E) (x := x) rfl vx d2 d3 e1
      refine ⟨_, pss_cons (ps_expr (pe_superinit (e := .Name "self" p3) (es := [.JoinedStr (v1 :: v2 :: r) p4]) Su hg hm d1 hline rfl (pa_cons (pe_var (i := 0) (x := "self") rfl vs') (pa_cons (pe_joined j) pa_nil)) rfl rfl rfl)) (pss_one (ps_ost (f := f) (pe_var (i := 0) (x := "self") rfl vs') (pe_var (i := 1) (x := x) rfl vx d2 d3))), ?_⟩
      refine ⟨.ref a, rfl, ?_⟩
      refine g (start ["self", x] [.ref a, v]) v rfl hs Str.empty H _ (by
        have : (Str.empty).length = 0 := rfl
        rw [this, sizeLine_eq]
        have hl' : (ps.map Part.len).sum ≤ 10000 := hl
        omega) fun out => ?_
      refine ⟨a, C, [.str out], rfl, (by show 1 ≤ 1000; decide), O, ea, ?_⟩
      refine ⟨v, rfl, .ref a, rfl, a, C, rfl, O, hno, .inl ⟨ea, fun dx h1 h2 => q dx h1 h2⟩⟩
  · cases hb
section
variable {X : Cx} {C fI : Addr} {n : Nat} {fd : FuncData} {ps : List Str} {sp : Sp} {e : Expr} {es : List Expr} {ta : TA} {x : Str} {p pos : Pos}
/-- C(e, ..), by a promise -/
theorem pmk_x (T : OexC X.K C) (iC : PySem.W.findIn X.K (.ref C) "__init__" = some (some (.ref fI))) (tI : PySem.W.typeIn X.K (.ref fI) = some (.type "function")) (F1 : FnG X.prog X.w X.K X.mg X.base n fI fd ps sp) (hr : RoomB n X.A)
    (hb : ∀ (s : Shared) (us : List Value), X.K.In s.heap → us.length = ps.length → BindsTo s fd ⟨us, []⟩ (ps.zip us)) (hg : Gl X x) (hm : X.mg x = some (.ref C)) (hdb : (x == ("__debug__" : Str)) = false) (ha : PA X (e :: es) ta)
    (he : starEach (e :: es) X.env = (false, eval e X.env) :: starEach es X.env) (hpl : (backTo pos (starEach es X.env)).any (·.1) = false) :
    PMk X (.Call (.Name x p) (e :: es) [] pos) (tMkO C sp [] ta) := by
  intro pins s σ H Q I h
  obtain ⟨nm, q, N, bs, bm, sn, sub, ab, col, dd, k0, k1, k2, k3, k5, hC, hbm⟩ := T.cls
  refine wpAny_Call_Name_kw (ld_glob I hg hm ?_ hdb)
  refine PySem.W.callWith_K (h₀ := X.base) I.ok.mod.kin T.kC (thn (ha.run pos pins s σ H _ I h) fun us s1 ⟨vs, H1, I1, r1, hz, q1⟩ => ⟨I1.kIn, ?_⟩) he hpl
  show wpAny _ _ (call (.ref C) us) _ _ _
  obtain ⟨hp, g, dr, tk, os⟩ := s1
  have up : hp.objs.size ≤ hp.objs.size + 1 := Nat.le_succ _
  have fr : H1 (hp.objs.size + 1) = none := I1.hok.fresh up
  have hq := q1 (hp.objs.size + 1) fr
  rw [List.append_nil] at hq
  have kk : ∀ b o, hp.get? b = some o → ((hp.push (PySem.W.kdv_tup us)).push (PySem.HandSPX.excO C hp.objs.size)).get? b = some o := fun b o z => Heap.get?_push_of_some _ (Heap.get?_push_of_some _ z)
  have at_e : ((hp.push (PySem.W.kdv_tup us)).push (PySem.HandSPX.excO C hp.objs.size)).get? (hp.objs.size + 1) = some (PySem.HandSPX.excO C hp.objs.size) := by heap_get
  have I2 : Inv X pins σ (upd H1 (hp.objs.size + 1) (exo (hp.objs.size + 1) C none)) ⟨(hp.push (PySem.W.kdv_tup us)).push (PySem.HandSPX.excO C hp.objs.size), g, dr, tk, os⟩ :=
    Inv.laid (t' := tk) I1 kk up (exo_ok at_e)
  have r2 : Vals (V.ref (hp.objs.size + 1) :: vs) (Value.ref (hp.objs.size + 1) :: us) := .cons rfl r1
  have hl : (Value.ref (hp.objs.size + 1) :: us).length = ps.length := by rw [← r2.length]; exact F1.len _ _ _ _ hq
  refine wpAny_call (PySem.HandSPX.call_own F.excBase_ValueError (fun Y => PySem.HandSPX.refsVE_contains Y bm hbm) (I1.kIn _ _ hC) (PySem.W.looks_findIn I1.kIn iC) (fun self => PySem.W.bind_fn I1.kIn self tI) (by rw [← Paired.length r1, sizeLine_eq]; omega)
    (codeAny_mono (F1.run _ X.stack _ _ ⟨Value.ref (hp.objs.size + 1) :: us, []⟩ (Value.ref (hp.objs.size + 1) :: us) _ _ (fun _ _ _ => False) (hr.make C us []) (I2.env0.make C us []) (hb _ _ I2.kIn hl) r2 hq) fun r s' hq' => ?_))
  cases r with
  | error er =>
    obtain ⟨_, _, _, _, _, _, _, _, _, _, _, _, no⟩ := hq'
    exact no.elim
  | ok fl =>
    cases fl with
    | ret u =>
      obtain ⟨v, H2, os2, bare2, un2, hok2, rv, ev, d, fs, ea, ed, hd1, q2⟩ := hq'
      subst ev
      obtain ⟨h2, g2, d2, t2, os'⟩ := s'
      exact ⟨rv, mk_end (raises_own T.exC T.tyC) I1 up kk un2 hok2 os2 bare2 ea ed hd1 q2⟩
    | next => exact hq'.elim
    | brk => exact hq'.elim
    | cont => exact hq'.elim
end
/-! ### raised with a thing in it -/
theorem shw_ok {D : Dat} {i : List Addr} {H : Hp} {y : V} {v : MV} (r : RV D i H y v) (h : shw v = true) : Shw y := by
  cases r with
  | str x =>
    show (⟨x.toArray⟩ : Str).length ≤ 1000
    rw [len_str]
    exact of_decide_eq_true h
  | int n =>
    obtain ⟨h1, h2⟩ := Bool.and_eq_true_iff.mp (show (decide (n.natAbs.log2 < 1920) && decide ((txtOf n).length ≤ 1000)) = true from h)
    refine ⟨of_decide_eq_true h1, ?_⟩
    have := of_decide_eq_true h2
    unfold txtOf at this
    rw [Array.length_toList] at this
    exact this
  | _ => cases h
/-- what is asked of a class of exceptions that keep one thing -/
structure Ex1 (P : Program) (w : World) (K : PySem.W.Frag) (mg : Str → Option Value) (base : Heap) (n : Nat) (C : Addr) (f : Str) : Prop where
  O : OexC K C
  no : PySem.W.findIn K (.ref C) f = some none
  xf : XfC K C
  how : ∃ fI fd x, PySem.W.findIn K (.ref C) "__init__" = some (some (.ref fI)) ∧ PySem.W.typeIn K (.ref fI) = some (.type "function") ∧ FnG P w K mg base n fI fd ["self", x] (spX C f) ∧
    ∀ (s : Shared) (us : List Value), K.In s.heap → us.length = 2 → BindsTo s fd ⟨us, []⟩ ((["self", x] : List Str).zip us)
section
variable {X : Cx} {D : Dat} {e : Expr} {cl : Env → M (List MV)} {pos p pos' : Pos} {x : Str} {c n : Nat}
theorem ss_raise1 (hc : X.calm = true) (F : Ex1 X.prog X.w X.K X.mg X.base n (D.ca c) (D.xf c)) (hr : RoomB n X.A) (hg : Gl X x) (hm : X.mg x = some (.ref (D.ca c))) (hdb : (x == ("__debug__" : Str)) = false) (hp : plainE e = true) (ha : SL X D [e] cl)
    (hl : ∀ r m vs m', cl r m = .ok vs m' → vs.length = 1) :
    SS X D (.Raise (some (.Call (.Name x p) [e] [] pos)) none pos') (fun r m => match cl r m with
      | .ok vs m1 => if vs.all shw then .ex c vs r m1 else .fail
      | .ex d fs m1 => .ex d fs r m1
      | .fail => .fail) := by
  obtain ⟨fI, fd, x0, iC, tI, F1, hb⟩ := F.how
  refine SS.of (t := fun W => fun _ σ H => tMkO (D.ca c) (spX (D.ca c) (D.xf c)) [] (tL X D W cl) σ H fun cls d H' => W cls d σ H') (fun W tk => ps_raise hc tk (pmk_x F.O iC tI F1 hr (fun s us k l => hb s us k l) hg hm hdb (ha W tk) (star_cons hp) rfl)) fun W En σ H ⟨i, r, m, S, E, h⟩ => ?_
  refine ⟨i, r, m, S, E, ?_⟩
  dsimp only at h
  cases e1 : cl r m with
  | ok vs m1 =>
    rw [e1] at h
    dsimp only at h
    split at h
    · rename_i hs
      intro i' H1 xs e2 S1 q
      have l1 := hl _ _ _ _ e1
      cases q with
      | nil => cases l1
      | @cons y v ys vs qv qt =>
        cases qt with
        | cons _ _ => cases l1
        | nil =>
          have sv : shw v = true := by simpa using hs
          refine ⟨by show 1 ≤ 1000; decide, fun a na => ⟨a, y, rfl, upd_same, shw_ok qv sv, fun d hd hda => ⟨rfl, d, [(D.xf c, y)], upd_same, by rw [upd_ne hda, upd_same], ?_, ?_⟩⟩⟩
          · rw [upd_ne hda] at hd
            exact hd
          · rw [upd_ne hda] at hd
            have eh : upd (del (upd (upd (upd H1 a (exo a (D.ca c) none)) d (exd d [(D.xf c, y)])) a (exo a (D.ca c) (some d))) a) d (.xd [(D.xf c, y)]) = upd H1 d (.xd [(D.xf c, y)]) := by
              funext b
              by_cases hbd : b = d
              · rw [hbd, upd_same, upd_same]
              · rw [upd_ne hbd, upd_ne hbd]
                by_cases hba : b = a
                · rw [hba, del_same, na]
                · rw [del_ne hba, upd_ne hba, upd_ne hbd, upd_ne hba]
            rw [eh]
            have ee : Ext D i' H1 i' (upd H1 d (.xd [(D.xf c, y)])) := Ext.fresh hd i'
            exact h i' _ σ _ _ (e2.trans ee) (S1.beside hd) (E.ext (e2.trans ee)) ⟨rfl, .inr ⟨d, y, v, rfl, rfl, upd_same, qv.ext ee⟩⟩
    · exact h.elim
  | ex d fs m1 =>
    rw [e1] at h
    exact fun i' H' cls d e2 S1 q => h i' H' σ cls d e2 S1 (E.ext e2) q
  | fail => rw [e1] at h; exact h
/-- the thing of a caught exception is read -/
theorem se_xfld {k j : Nat} {nm f : Str} {np : Pos} (hN : X.N[k]? = some nm) (hv : Vis X.env.scope nm) (h1 : (nm == ("__debug__" : Str)) = false) (h2 : (nm == ("__classdict__" : Str)) = false)
    (hx : ∀ c z, D.T.exf c j = some z → z = 0 ∧ D.xf c = f ∧ XfC X.K (D.ca c) ∧ PySem.W.findIn X.K (.ref (D.ca c)) f = some none) :
    SE X D (.Attribute (.Name nm np) f pos) (fun r m => match r[k]? with
      | some (.exn c fs) => match D.T.exf c j with
        | some z => match fs[z]? with
          | some y => .ok y m
          | none => .fail
        | none => .fail
      | _ => .fail) := by
  refine fun W tk => ⟨fun pins s σ H Q I ⟨i, r, m, S, E, h⟩ => ?_⟩
  dsimp only at h
  cases er : r[k]? with
  | none => rw [er] at h; exact h.elim
  | some sl =>
    rw [er] at h
    obtain ⟨o, eo, q⟩ := E.2 k sl er
    cases sl with
    | no => exact h.elim
    | val v => exact h.elim
    | exn c fs =>
      dsimp only at h
      obtain ⟨_, a, cls, d, rfl, rx, oe, ws, hp, hz, hd⟩ := q
      cases ez : D.T.exf c j with
      | none => rw [ez] at h; exact h.elim
      | some z =>
        rw [ez] at h
        dsimp only at h
        obtain ⟨rfl, hxf, T, no⟩ := hx c z ez
        obtain ⟨rfl, hfs⟩ := rx
        refine attr_of rfl (thn ((pe_var hN hv h1 h2).run pins s σ H (fun x H1 => x = .ref a ∧ H1 = H) I ⟨.ref a, eo, rfl, rfl⟩) fun u s1 ⟨x, H1, I1, ru, ex, eH⟩ => ?_)
        subst ex eH
        obtain rfl : u = Value.ref a := ru
        rcases hfs with ⟨rfl, _⟩ | ⟨dd, y, v, rfl, rfl, at_d, qv⟩
        · exact h.elim
        · obtain ⟨ha, _⟩ := I1.pin (a, oe) (List.mem_append_left _ hp)
          obtain ⟨mA, ns, rel⟩ := (I1.hok dd _ at_d : ObjOk X.prog X.w H1 s1.heap dd (.xd [(D.xf c, y)]))
          obtain ⟨od, ho, hl⟩ := lookIn_ns ns
          rw [← hxf] at no ⊢
          obtain ⟨u, hu, ru2⟩ := RelO.some_of (v := y) (o := mA (D.xf c)) (by
            have := rel (D.xf c)
            rw [show ([(D.xf c, y)] : List (Str × V)).lookup (D.xf c) = some y from by simp [List.lookup]] at this
            exact this)
          have J : PySem.W.InstAt s1.heap a oe (D.ca c) (some od) := ⟨ha, hz.1, by unfold PySem.W.notCls; rw [hd] <;> rfl, by rw [hz.2]; exact ho⟩
          exact HandSPX.exc_get I1.kIn J T.ga T.gg T.exC (PySem.W.findObj_own T.hdC no rfl (by rw [hl, hu])) (handed_of ru2) ⟨y, H1, I1.tok _, ru2, h i H1 y Ext.refl S qv⟩
end
/-! ### f-texts -/
def fpart : Expr → Option (Option Expr × Str)
  | .Constant (.str s) _ _ => some (none, s)
  | .FormattedValue e (-1) none _ => some (some e, Str.empty)
  | _ => none
section
variable {X : Cx} {D : Dat} {T : Tab} {cf : CallF}
/-- the parts of a text are the expressions cs -/
inductive FP (X : Cx) (D : Dat) (T : Tab) (cf : CallF) : List Expr → List CE → Prop
  | nil : FP X D T cf [] []
  | lit {s : Str} {k : Nat} {p : Pos} {es : List Expr} {cs : List CE} (hs : s.length ≤ line) (r : FP X D T cf es cs) : FP X D T cf (.Constant (.str s) k p :: es) (.str s.cps.toList :: cs)
  | arg {e : Expr} {c : CE} {p : Pos} {es : List Expr} {cs : List CE} (h : SE X D e (evE T cf c)) (r : FP X D T cf es cs) : FP X D T cf (.FormattedValue e (-1) none p :: es) (c :: cs)
theorem txt_str (s : Str) : (⟨s.cps.toList.toArray⟩ : Str) = s := by simp
theorem FP.pj {es : List Expr} {cs : List CE} (h : FP X D T cf es cs) (W : WX) (tk : Takes X W) : ∃ ts, PJ X es ts ∧ ∀ (acc : Txt) (σ : L2.St) (H : Hp) (Q : VK) (i : List Addr) (r : Env) (m : Mem), Sim D i m H → RE X D i H r σ → Pst D W σ (RV D) Q i H (evF T cf cs acc r m) → tJs ts ⟨acc.toArray⟩ σ H fun out H1 => Q (.str out) H1 := by
  induction h with
  | nil =>
    refine ⟨[], .nil, fun acc σ H Q i r m S E h => ?_⟩
    rw [evF] at h
    exact h i H _ Ext.refl S (.str acc)
  | @lit s k p es cs hs r ih =>
    obtain ⟨ts, j, g⟩ := ih
    refine ⟨_, .cons pe_str j, fun acc σ H Q i r m S E h => ?_⟩
    rw [evF, evE, bind_ok] at h
    have e1 : ftxt (.str s.cps.toList) = some s.cps.toList := by
      show (if s.cps.toList.length ≤ line then some s.cps.toList else none) = _
      rw [if_pos (by rw [Array.length_toList]; exact hs)]
    rw [e1] at h
    dsimp only at h
    split at h
    · rename_i hl
      refine ⟨s, rfl, ?_, ?_⟩
      · rw [← txt_str s, app_str, len_str, ← line_eq]
        exact hl
      · have := g (acc ++ s.cps.toList) σ H Q i r m S E h
        rw [← app_str, txt_str] at this
        exact this
    · exact h.elim
  | @arg e c p es cs he r ih =>
    obtain ⟨ts, j, g⟩ := ih
    refine ⟨_, .cons (pe_fmt (he W tk)) j, fun acc σ H Q i r m S E h => ?_⟩
    rw [evF] at h
    refine ⟨i, r, m, S, E, ?_⟩
    cases e1 : evE T cf c r m with
    | ok v m1 =>
      rw [e1, bind_ok] at h
      intro i' H' x e2 S1 q
      cases q with
      | str z =>
        unfold ftxt at h
        dsimp only at h
        split at h
        · rename_i y ey
          split at ey
          · rename_i hz
            cases ey
            split at h
            · rename_i hl
              refine .inl ⟨⟨z.toArray⟩, rfl, by rw [len_str, ← line_eq]; exact hz, ⟨z.toArray⟩, rfl, by rw [app_str, len_str, ← line_eq]; exact hl, ?_⟩
              rw [app_str]
              exact g (acc ++ z) σ H' Q i' r m1 S1 (E.ext e2) (Pst.ext h e2)
            · exact h.elim
          · cases ey
        · exact h.elim
      | int n =>
        unfold ftxt at h
        dsimp only at h
        split at h
        · rename_i y ey
          split at ey
          · rename_i hz
            cases ey
            split at h
            · rename_i hl
              have et : (⟨(txtOf n).toArray⟩ : Str) = toString n := by unfold txtOf; rw [txt_str]
              refine .inr ⟨n, rfl, hz, toString n, rfl, by rw [← et, app_str, len_str, ← line_eq]; exact hl, ?_⟩
              have := g (acc ++ txtOf n) σ H' Q i' r m1 S1 (E.ext e2) (Pst.ext h e2)
              rw [← app_str, et] at this
              exact this
            · exact h.elim
          · cases ey
        · exact h.elim
      | _ => exact h.elim
    | ex cc fs m1 => rw [e1] at h; exact h
    | fail => rw [e1] at h; exact h
theorem se_fstr {v1 v2 : Expr} {es : List Expr} {cs : List CE} {pos : Pos} (h : FP X D T cf (v1 :: v2 :: es) cs) : SE X D (.JoinedStr (v1 :: v2 :: es) pos) (evE T cf (.fstr cs)) := by
  refine fun W tk => ?_
  obtain ⟨ts, j, g⟩ := h.pj W tk
  refine U.PE.imp (pe_joined j) fun σ H Q ⟨i, r, m, S, E, h⟩ => ?_
  rw [evE] at h
  exact g [] σ H Q i r m S E h
end
/-! ### what the written part says of such a class -/
def oexB (K : PySem.W.Frag) (C : Addr) : Bool := (match K.lookup C with
  | some ⟨.type T, _, .cls cd, sl⟩ => (match cd.mro, sl.toList with
    | .ref C' :: bm, [_, _, _, _, some (.builtin n), _] => decide (T = "type") && (decide (C' = C) && (decide (n = "ValueError.__new__") && (!cd.hasDel && (cd.hasDict && PySem.HandSPX.refsVE bm))))
    | _, _ => false)
  | _ => false) && (He.eqO (PySem.W.findIn K (.ref C) "__setattr__") (some (some (.builtin "object.__setattr__"))) && (decide (PySem.W.subIn K (.ref C) (.type "BaseException") = some true) && (decide (PySem.W.typeIn K (.ref C) = some (.type "type")) && PySem.W.keepIn K (.ref C))))
theorem oexB_ok {K : PySem.W.Frag} {C : Addr} (h : oexB K C = true) : OexC K C := by
  unfold oexB at h
  simp only [Bool.and_eq_true, decide_eq_true_eq] at h
  obtain ⟨h0, h1, h2, h3, h4⟩ := h
  refine ⟨?_, He.eqO_ok h1, h2, h3, h4⟩
  split at h0
  · rename_i T dd cd sl ho
    split at h0
    · rename_i C' bm k0 k1 k2 k3 n k5 hm hs
      simp only [Bool.and_eq_true, decide_eq_true_eq, Bool.not_eq_true'] at h0
      obtain ⟨rfl, rfl, rfl, hdel, hdd, hv⟩ := h0
      obtain ⟨nm, bs, mro, ns, qn, hd, sn, sub, ab, col, del⟩ := cd
      dsimp only at hm hdel hdd
      subst hm hdel hdd
      obtain ⟨l⟩ := sl
      simp only at hs
      subst hs
      exact ⟨nm, qn, ns, bs, bm, sn, sub, ab, col, dd, k0, k1, k2, k3, k5, ho, hv⟩
    · cases h0
  · cases h0
end U
end Part_UE

section Part_U16
set_option Elab.async false
set_option linter.all false
set_option maxRecDepth 100000
set_option maxHeartbeats 4000000
/-! U16: from the text to the layer's expressions. -/
namespace U
open PySem PySem.Spec PyProof.Rows L2

/-! ### tests of chains -/
section
variable {X : Cx} {D : Dat} {ea eb ec : Expr} {ca cb cc : Env → M MV} {pos : Pos}
theorem bl_reads {W : WX} {σ : L2.St} {H : Hp} {Q : Bool → Hp → Prop} {i : List Addr} {a : R MV} (hb : ∀ v m', a = .ok v m' → ∃ k, v = .bl k) (h : Pst D W σ (fun (_ : List Addr) (_ : Hp) (b : Bool) (v : Bool) => b = v) Q i H (a.bind fun x m1 => onTru m1 x fun b => .ok b m1)) :
    Pst D W σ (RV D) (fun z H' => ∃ k, z = .bl k ∧ Q k H') i H a := by
  cases a with
  | ok v m1 =>
    obtain ⟨k, rfl⟩ := hb v m1 rfl
    exact fun i' H' x e S q => by
      cases q
      exact ⟨k, rfl, h i' H' k e S rfl⟩
  | ex c fs m1 => exact h
  | fail => exact h
theorem st_chain {o p : CmpOp} (hK : X.K = D.K) (hu : X.A.units + 1100 < cLine) (hm : lastMarks [o, p] [eb, ec] = false) (ha : SE X D ea ca) (hb : SE X D eb cb) (hc : SE X D ec cc) : ST X D (.Compare ea [o, p] [eb, ec] pos)
    (fun r m => (ca r m).bind fun x m1 => (cb r m1).bind fun y m2 => (lift (cmpop o x y m2)).bind fun z m3 => onTru m3 z fun b => if b = true then (cc r m3).bind fun u m4 => lift (cmpop p y u m4) else .ok (.bl false) m3) := by
  intro W tk
  refine U.PT.imp (pt_chain (or_cmp hK hu o) (or_cmp hK hu p) (ha W tk) (hb W tk) (hc W tk) hm) fun σ H Q ⟨i, r, m, S, E, h⟩ => chain_reads S E (bl_reads ?_ h)
  intro v m' e
  cases e1 : ca r m with
  | fail => rw [e1] at e; cases e
  | ex c fs m1 => rw [e1] at e; cases e
  | ok x m1 =>
    rw [e1] at e
    dsimp only [R.bind] at e
    cases e2 : cb r m1 with
    | fail => rw [e2] at e; cases e
    | ex c fs m1 => rw [e2] at e; cases e
    | ok y m2 =>
      rw [e2] at e
      dsimp only [R.bind] at e
      cases e3 : cmpop o x y m2 with
      | none => rw [e3] at e; cases e
      | some pr =>
        obtain ⟨k, rfl⟩ := cmpop_bl e3
        rw [e3] at e
        dsimp only [U.lift, R.bind] at e
        rw [onTru_bl] at e
        cases k with
        | false => cases e; exact ⟨false, rfl⟩
        | true =>
          rw [if_pos rfl] at e
          cases e4 : cc r m2 with
          | fail => rw [e4] at e; cases e
          | ex c fs m1 => rw [e4] at e; cases e
          | ok u m4 =>
            rw [e4] at e
            dsimp only [R.bind] at e
            cases e5 : cmpop p y u m4 with
            | none => rw [e5] at e; cases e
            | some pr =>
              obtain ⟨k2, rfl⟩ := cmpop_bl e5
              rw [e5] at e
              cases e
              exact ⟨k2, rfl⟩
end

/-! ### names -/
def ixOf : List Str → Str → Option Nat
  | [], _ => none
  | y :: ys, x => if y = x then some 0 else (ixOf ys x).map (· + 1)
theorem ixOf_at : ∀ {l : List Str} {x : Str} {k : Nat}, ixOf l x = some k → l[k]? = some x
  | [], _, _, h => by cases h
  | y :: ys, x, k, h => by
    unfold ixOf at h
    split at h
    · rename_i e
      cases h
      rw [e]
      rfl
    · cases e : ixOf ys x with
      | none => rw [e] at h; cases h
      | some j =>
        rw [e] at h
        cases h
        show (y :: ys)[j + 1]? = some x
        rw [List.getElem?_cons_succ]
        exact ixOf_at e
def visB (sc : Scope) (x : Str) : Bool := decide (sc.names.lookup x = some .local) || (decide (sc.names.lookup x = some .cell) || decide (sc.names.lookup x = some .free))
theorem visB_ok {sc : Scope} {x : Str} (h : visB sc x = true) : Vis sc x := by
  simpa [visB, Vis] using h
def locB (sc : Scope) (x : Str) : Bool := decide (sc.names.lookup x = some .local) || decide (sc.names.lookup x = some .cell)
theorem locB_ok {sc : Scope} {x : Str} (h : locB sc x = true) : L2.Loc sc x := by
  simpa [locB, L2.Loc] using h
def glB (sc : Scope) (x : Str) : Bool := decide (sc.names.lookup x = some .globalImplicit) && !(x == ("__debug__" : Str))
def okN (x : Str) : Bool := !(x == ("__debug__" : Str)) && !(x == ("__classdict__" : Str))
def blkB (N : List Str) (sc scope : Scope) (x : Str) (k : Nat) : Bool :=
  decide (scope.kind = .function) && (scope.names.all (fun y => decide (scope.names.lookup y.1 = some y.2)) && (decide (N[k]? = some x) && (scope.names.all (fun y => decide (y.2 ≠ .free) || (decide (sc.names.lookup y.1 = some .cell) || decide (sc.names.lookup y.1 = some .free))) &&
    scope.names.all fun y => !(decide (y.2 = .local) || decide (y.2 = .cell)) || (decide (y.1 = x) || !N.any fun z => decide (z = y.1)))))
theorem blkB_ok {N : List Str} {sc scope : Scope} {x : Str} {k : Nat} (h : blkB N sc scope x k = true) : BlkOk N sc scope [(x, k)] := by
  unfold blkB at h
  simp only [Bool.and_eq_true, decide_eq_true_eq, List.all_eq_true, Bool.or_eq_true] at h
  obtain ⟨h1, h2, h3, h4, h5⟩ := h
  refine ⟨h1, h2, fun p hp => ?_, fun y hy e => ?_, fun y hy e => ?_⟩
  · simp only [List.mem_singleton] at hp
    subst hp
    exact h3
  · rcases h4 y hy with z | z
    · exact absurd e z
    · exact z
  · rcases h5 y hy with z | z | z
    · exfalso
      rcases e with e | e
      · simp [e] at z
      · simp [e] at z
    · exact .inl (by simp [z])
    · refine .inr fun hm => ?_
      have : (N.any fun z => decide (z = y.1)) = true := List.any_eq_true.mpr ⟨y.1, hm, by simp⟩
      rw [this] at z
      cases z

/-! ### the program's names -/
structure Prg where
  fns : List Str
  cls : List Str
  con : List Str
  fld : List Str
  mth : List Str
  sh : List (Nat × Nat × List Str × List Nat)
  shN : List (Nat × Nat × List Str × List Nat)
  shM : List (Nat × Nat × List Str × List Nat)
  new0 : List Nat
  exs : List Str
  dcs : List Str
  exi : List Str
def Prg.fldN (P : Prg) (k : Nat) : Str := (P.fld[k]?).getD Str.empty
def shOf (l : List (Nat × Nat × List Str × List Nat)) (f n : Nat) (ks : List Str) : Option (List Nat) := (l.find? fun q => decide (q.1 = f) && (decide (q.2.1 = n) && decide (q.2.2.1 = ks))).map (·.2.2.2)
theorem shOf_mem {l : List (Nat × Nat × List Str × List Nat)} {f n : Nat} {ks : List Str} {ix : List Nat} (h : shOf l f n ks = some ix) : (f, n, ks, ix) ∈ l := by
  unfold shOf at h
  cases e : l.find? (fun q => decide (q.1 = f) && (decide (q.2.1 = n) && decide (q.2.2.1 = ks))) with
  | none => rw [e] at h; cases h
  | some q =>
    rw [e] at h
    have h1 := List.find?_some e
    have h2 := List.mem_of_find?_eq_some e
    simp only [Bool.and_eq_true, decide_eq_true_eq] at h1
    obtain ⟨a, b, c, d⟩ := q
    obtain ⟨h3, h4, h5⟩ := h1
    dsimp only at h3 h4 h5
    subst h3 h4 h5
    cases h
    exact h2
/-- the built-in names that are read -/
def bltN : List Str := ["isinstance", "len", "abs", "repr", "sum", "all", "any", "str", "tuple", "list", "int", "range", "bool", "dict", "enumerate", "max", "min", "sorted", "set", "zip", "reversed"]
/-- an exception class without an __init__ of its own -/
structure Ex0 (K : PySem.W.Frag) (C : Addr) : Prop where
  made : ∃ bmB B newId initId, ExcBaseFacts B newId initId bmB ∧ PySem.W.excIn K C bmB newId = true
  kp : PySem.W.keepIn K (.ref C) = true
  sub : PySem.W.subIn K (.ref C) (.type "BaseException") = some true
  ty : PySem.W.typeIn K (.ref C) = some (.type "type")
structure POk (P : Prg) (X : Cx) (D : Dat) (n : Nat) (cf : CallF) : Prop where
  hK : X.K = D.K
  A : AOk P.fldN D
  kit : KitF D
  fn : ∀ f x, P.fns[f]? = some x → ∃ a fd ps, X.mg x = some (.ref a) ∧ PySem.W.keepIn X.K (.ref a) = true ∧ FnG X.prog X.w X.K X.mg X.base n a fd ps (spOf D ps.length (cf f)) ∧ ∀ k ks ix, (f, k, ks, ix) ∈ P.sh → BindF X D cf f fd ps 0 k ks ix
  cl : ∀ c x, P.cls[c]? = some x → X.mg x = some (.ref (D.ca c))
  nw : ∀ c x k ks ix, P.cls[c]? = some x → (c, k, ks, ix) ∈ P.shN → NewF X D n cf c k ks ix
  nw0 : ∀ c x, P.cls[c]? = some x → c ∈ P.new0 → Mk0 X.K (D.ca c) ∧ D.T.init c = none
  mt : ∀ mm x k ks ix, P.mth[mm]? = some x → (mm, k, ks, ix) ∈ P.shM → MethF X D n cf mm x k ks ix
  cn : ∀ k x, P.con[k]? = some x → ∃ v u, X.mg x = some u ∧ RelV v u ∧ ∀ i H, RV D i H v (D.T.con k)
  bl : ∀ x, x ∈ bltN → X.mg x = none
  dc : ∀ k x, P.dcs[k]? = some x → ∃ d, X.mg x = some (.ref d) ∧ DicOk X.K X.w d (D.T.dic k)
  ex : ∀ j x, P.exs[j]? = some x → X.mg x = some (.ref (D.ca (P.cls.length + j))) ∧ Ex0 X.K (D.ca (P.cls.length + j)) ∧ D.T.fields (P.cls.length + j) = 0
  exm : ∀ c j x, D.T.ncls ≤ c → c < D.T.ncls + D.T.nex → (P.exs ++ P.exi)[j]? = some x → PySem.W.exmOne X.K (.ref (D.ca c)) (.ref (D.ca (P.cls.length + j))) = some (D.T.sub c (P.cls.length + j))
  exg : ∀ j x, (P.exs ++ P.exi)[j]? = some x → X.mg x = some (.ref (D.ca (P.cls.length + j)))
  x1 : ∀ j x, P.exi[j]? = some x → Ex1 X.prog X.w X.K X.mg X.base n (D.ca (P.cls.length + (P.exs.length + j))) (D.xf (P.cls.length + (P.exs.length + j))) ∧ D.T.fields (P.cls.length + (P.exs.length + j)) = 1
  xfs : ∀ c z j f, P.fld[j]? = some f → D.T.exf c j = some z → z = 0 ∧ D.xf c = f ∧ XfC X.K (D.ca c) ∧ PySem.W.findIn X.K (.ref (D.ca c)) f = some none
section
variable {X X' : Cx} {D : Dat} {n : Nat} {cf : CallF}
theorem BindF.move {f : Nat} {fd : FuncData} {ps : List Str} {h k : Nat} {ks : List Str} {ix : List Nat} (hK : X'.K = X.K) (B : BindF X D cf f fd ps h k ks ix) : BindF X' D cf f fd ps h k ks ix := ⟨by rw [hK]; exact B.ex⟩
/-- another context of the same program -/
structure Same (X X' : Cx) : Prop where
  p : X'.prog = X.prog
  w : X'.w = X.w
  K : X'.K = X.K
  m : X'.mg = X.mg
  b : X'.base = X.base
theorem POk.move {P : Prg} (s : Same X X') (h : POk P X D n cf) : POk P X' D n cf where
  hK := s.K.trans h.hK
  A := h.A
  kit := h.kit
  fn := fun f x e => by
    obtain ⟨a, fd, ps, h1, h2, h3, h4⟩ := h.fn f x e
    refine ⟨a, fd, ps, by rw [s.m]; exact h1, by rw [s.K]; exact h2, by rw [s.p, s.w, s.K, s.m, s.b]; exact h3, fun k ks ix hm => (h4 k ks ix hm).move s.K⟩
  cl := fun c x e => by rw [s.m]; exact h.cl c x e
  nw := fun c x k ks ix e hm => by
    obtain ⟨h1, f, a, fd, ps, h2, h3, h4, h5⟩ := h.nw c x k ks ix e hm
    exact ⟨h1, f, a, fd, ps, h2, by rw [s.p, s.w, s.K, s.m, s.b]; exact h3, h4.move s.K, by rw [s.K]; exact h5⟩
  nw0 := fun c x e hm => by rw [s.K]; exact h.nw0 c x e hm
  mt := fun mm x k ks ix e hm => ⟨fun c f ef => by
    obtain ⟨a, fd, ps, h1, h2, h3, h4, h5⟩ := (h.mt mm x k ks ix e hm).at_ c f ef
    exact ⟨a, fd, ps, by rw [s.p, s.w, s.K, s.m, s.b]; exact h1, h2.move s.K, by rw [s.K]; exact h3, by rw [s.K]; exact h4, h5⟩⟩
  cn := fun k x e => by rw [s.m]; exact h.cn k x e
  bl := fun x e => by rw [s.m]; exact h.bl x e
  dc := fun k x e => by rw [s.m, s.K, s.w]; exact h.dc k x e
  ex := fun j x e => by rw [s.m, s.K]; exact h.ex j x e
  exm := fun c j x h1 h2 e => by rw [s.K]; exact h.exm c j x h1 h2 e
  exg := fun j x e => by rw [s.m]; exact h.exg j x e
  x1 := fun j x e => by rw [s.p, s.w, s.K, s.m, s.b]; exact h.x1 j x e
  xfs := fun c z j f e1 e2 => by rw [s.K]; exact h.xfs c z j f e1 e2
end
/-- a context that is not within an except suite -/
structure EC (P : Prg) (X : Cx) (D : Dat) (n : Nat) (cf : CallF) (N : List Str) (sc : Scope) : Prop where
  hP : POk P X D n cf
  hN : X.N = N
  nd : N.Nodup
  hs : X.env.scope = sc
  calm : X.calm = true
  room : RoomB n X.A
section
variable {P : Prg} {X : Cx} {D : Dat} {n : Nat} {cf : CallF} {N : List Str} {sc : Scope}
theorem EC.gl (h : EC P X D n cf N sc) {x : Str} (hx : glB sc x = true) : Gl X x ∧ (x == ("__debug__" : Str)) = false := by
  unfold glB at hx
  rw [Bool.and_eq_true, decide_eq_true_eq] at hx
  refine ⟨?_, by simpa using hx.2⟩
  show X.env.scope.names.lookup x = _
  rw [h.hs]
  exact hx.1
theorem EC.blk (h : EC P X D n cf N sc) (s : Shared) (H : Hp) (scope : Scope) (cl : List (Str × Addr)) (C : Addr) (fp : List Addr) : EC P (blkX X s H scope cl C fp) D n cf N (relS scope sc) :=
  ⟨POk.move (X := X) ⟨rfl, rfl, rfl, rfl, rfl⟩ h.hP, h.hN, h.nd, by rw [← h.hs]; rfl, h.calm, h.room⟩

/-! ### expressions -/
def exprs (f : Expr → Option CE) : List Expr → Option (List CE)
  | [] => some []
  | e :: es => if plainE e then match f e, exprs f es with
      | some c, some cs => some (c :: cs)
      | _, _ => none
    else none
def kwds (f : Expr → Option CE) : List Keyword → Option (List CE)
  | [] => some []
  | k :: ks => if k.arg.isSome then match f k.value, kwds f ks with
      | some c, some cs => some (c :: cs)
      | _, _ => none
    else none
variable {T : Tab} {f : Expr → Option CE}
theorem evL_len : ∀ {cs : List CE} {r : Env} {m : Mem} {vs : List MV} {m' : Mem}, evL T cf cs r m = .ok vs m' → vs.length = cs.length
  | [], r, m, vs, m', h => by
    unfold evL at h
    cases h
    rfl
  | c :: cs, r, m, vs, m', h => by
    unfold evL at h
    cases e : evE T cf c r m with
    | fail => rw [e] at h; cases h
    | ex d fs m1 => rw [e] at h; cases h
    | ok v m1 =>
      rw [e] at h
      dsimp only [R.bind] at h
      cases e2 : evL T cf cs r m1 with
      | fail => rw [e2] at h; cases h
      | ex d fs m1 => rw [e2] at h; cases h
      | ok us m2 =>
        rw [e2] at h
        cases h
        exact congrArg Nat.succ (evL_len e2)
theorem evL_nil {r : Env} {m : Mem} : evL T cf [] r m = .ok [] m := by rw [evL]
theorem evL_cons {c : CE} {cs : List CE} {r : Env} {m : Mem} : evL T cf (c :: cs) r m = (evE T cf c r m).bind fun v m1 => (evL T cf cs r m1).bind fun vs m2 => .ok (v :: vs) m2 := by rw [evL]
theorem evL_append : ∀ {as bs : List CE} {r : Env} {m : Mem}, evL T cf (as ++ bs) r m = both (evL T cf as) (evL T cf bs) r m
  | [], bs, r, m => by
    show evL T cf bs r m = (evL T cf [] r m).bind fun us m1 => (evL T cf bs r m1).bind fun ws m2 => .ok (us ++ ws) m2
    rw [evL_nil, bind_ok]
    cases evL T cf bs r m <;> rfl
  | a :: as, bs, r, m => by
    show evL T cf (a :: (as ++ bs)) r m = (evL T cf (a :: as) r m).bind fun us m1 => (evL T cf bs r m1).bind fun ws m2 => .ok (us ++ ws) m2
    rw [evL_cons, evL_cons]
    cases e : evE T cf a r m with
    | fail => rfl
    | ex d fs m1 => rfl
    | ok v m1 =>
      simp only [bind_ok]
      rw [evL_append]
      unfold both
      cases e2 : evL T cf as r m1 with
      | fail => rfl
      | ex d fs m1 => rfl
      | ok us m2 =>
        simp only [bind_ok]
        cases e3 : evL T cf bs r m2 <;> rfl
theorem exprs_ok (hf : ∀ e c, f e = some c → SE X D e (evE D.T cf c)) : ∀ {es : List Expr} {cs : List CE}, exprs f es = some cs → es.all plainE = true ∧ SL X D es (evL D.T cf cs) ∧ cs.length = es.length
  | [], cs, h => by
    cases h
    exact ⟨rfl, by simpa only [evL] using sl_nil, rfl⟩
  | e :: es, cs, h => by
    unfold exprs at h
    split at h
    · rename_i hp
      split at h
      · rename_i c cs' h1 h2
        cases h
        obtain ⟨a1, a2, a3⟩ := exprs_ok hf h2
        refine ⟨by rw [List.all_cons, hp, a1]; rfl, ?_, congrArg Nat.succ a3⟩
        have z := sl_cons (hf e c h1) a2 (star_cons hp)
        simpa only [evL] using z
      · cases h
    · cases h
theorem kwds_ok (hf : ∀ e c, f e = some c → SE X D e (evE D.T cf c)) : ∀ {ks : List Keyword} {cs : List CE}, kwds f ks = some cs → (ks.all fun k => k.arg.isSome) = true ∧ SK X D ks (evL D.T cf cs) ∧ cs.length = ks.length
  | [], cs, h => by
    cases h
    exact ⟨rfl, by simpa only [evL] using sk_nil, rfl⟩
  | ⟨nm, e, kp⟩ :: ks, cs, h => by
    unfold kwds at h
    split at h
    · rename_i hp
      split at h
      · rename_i c cs' h1 h2
        cases h
        obtain ⟨a1, a2, a3⟩ := kwds_ok hf h2
        refine ⟨by rw [List.all_cons, a1, Bool.and_true]; exact hp, ?_, congrArg Nat.succ a3⟩
        have z := sk_cons (nm := nm) (kpos := kp) (hf e c h1) a2
        simpa only [evL] using z
      · cases h
    · cases h
def boolC (f : Expr → Option CE) (op : BoolOp) : List Expr → Option CE
  | [] => none
  | [a] => f a
  | a :: b :: rest => match f a, boolC f op (b :: rest) with
    | some c, some d => some (match op with
      | .And => .and c d
      | .Or => .or c d)
    | _, _ => none
theorem boolC_ok {pos : Pos} {op : BoolOp} (hK : X.K = D.K) (hf : ∀ e c, f e = some c → SE X D e (evE D.T cf c) ∧ ST X D e (evE D.T cf c)) : ∀ {es : List Expr} {c : CE}, boolC f op es = some c → SE X D (.BoolOp op es pos) (evE D.T cf c) ∧ SW X D (.BoolOp op es pos) (evE D.T cf c)
  | [], c, h => by cases h
  | [a], c, h => by
    obtain ⟨h1, h2⟩ := hf a c h
    refine ⟨se_one h1, ?_⟩
    cases op with
    | And => exact sw_and1 h2
    | Or => exact sw_or1 h2
  | a :: b :: rest, c, h => by
    unfold boolC at h
    split at h
    · rename_i c1 d1 h1 h2
      cases h
      obtain ⟨a1, a2⟩ := hf a c1 h1
      obtain ⟨b1, b2⟩ := boolC_ok hK hf h2
      cases op with
      | And => exact ⟨by simpa only [evE] using se_and hK a1 b1, by simpa only [evE] using sw_and a2 b2⟩
      | Or => exact ⟨by simpa only [evE] using se_or hK a1 b1, by simpa only [evE] using sw_or a2 b2⟩
    · cases h
end
end U
end Part_U16

section Part_UM
set_option Elab.async false
set_option linter.all false
set_option maxRecDepth 100000
set_option maxHeartbeats 4000000
/-! UM: max(.., default=..). -/
namespace U
open PySem PySem.Spec PyProof.Rows L2
def kD : Str := "default"
theorem fold_max : ∀ (ys : List Int) (y : Int), PySem.W.maxOf y ys = maxI (y :: ys) 0 := fun ys y => by
  unfold PySem.W.maxOf maxI
  congr 1
  funext a b
  show (if decide (a < b) = true then b else a) = _
  by_cases h : a < b
  · rw [if_pos (decide_eq_true h), if_pos h]
  · rw [if_neg (by rw [decide_eq_false h]; decide), if_neg h]
def rMaxd (D : Dat) : List V → List V → Hp → VK → Prop := fun xs zs H Q => ∃ i m vs ws, Sim D i m H ∧ RVs D i H xs vs ∧ RVs D i H zs ws ∧ vs.length = 1 ∧ ws.length = 1 ∧ PO2 D i H Q (builtin .maxd (vs ++ ws) m)
theorem cr_maxd {X : Cx} {D : Dat} (hc : X.calm = true) (hu : X.A.units + 1100 < cLine) : CallRK X (.builtin "max") [kD] (rMaxd D) := by
  rintro pins s σ H xs zs us ws Q I r rz ⟨i, m, vs, wv, S, rs, rw_, l1, l2, h⟩
  cases rs with
  | nil => cases l1
  | @cons x v xs vs rx rt =>
  cases rt with
  | cons _ _ => cases l1
  | nil =>
  cases rw_ with
  | nil => cases l2
  | @cons z w zs wv ry rt =>
  cases rt with
  | cons _ _ => cases l2
  | nil =>
  cases rx with
  | @ref p n h0 =>
    cases ry with
    | int d =>
      unfold builtin at h
      dsimp only [List.cons_append, List.nil_append] at h
      split at h
      · rename_i xs e0
        split at h
        · rename_i ns e
          obtain ⟨vs, h1, r1⟩ := S.lst_at h0 e0
          have ev := ints_of e r1
          subst ev
          obtain ⟨its, rv, hl, _⟩ := I.list (SqL.of h1)
          obtain ⟨w1, rfl, t1, e1⟩ := vals1 rz
          rw [Vals.ref1 r]
          subst e1
          have HA : PySem.W.HoldAll s.heap its ns := PySem.W.HoldAll.of_ints rv.ints
          have un : X.A.units + 1 + PySem.W.Datum.depth Int < cLine := by
            have : PySem.W.Datum.depth Int ≤ 100 := by decide
            omega
          refine PySem.W.max_list_datum_default (α := Int) (xs := ns) (I.ok.hd hc) hl.isList (by simpa using HA) un (fun e h' tk k => ?_) fun y ys j v h' tk e hv hH k => ?_
          · subst e
            exact ⟨.int d, H, I.kept k, ⟨_, rfl⟩, h.here S (.int _)⟩
          · subst e
            obtain ⟨as, hr⟩ := hH
            obtain ⟨t2, rfl⟩ : ∃ t2, v = .int (PySem.W.maxOf y ys) t2 := by
              cases hr with
              | int i t => exact ⟨t, rfl⟩
            refine ⟨.int (PySem.W.maxOf y ys), H, I.kept k, ⟨_, rfl⟩, ?_⟩
            rw [fold_max]
            exact h.here S (.int _)
        · exact h.elim
      · exact h.elim
    | _ => exact h.elim
  | _ => cases ry <;> exact h.elim
section
variable {X : Cx} {D : Dat} {e d : Expr} {cl ck : Env → M (List MV)} {p pos kp : Pos}
theorem se_maxd (hc : X.calm = true) (hu : X.A.units + 1100 < cLine) (hg : Gl X "max") (hm : X.mg "max" = none) (hp : plainE e = true) (ha : SL X D [e] cl) (hk : SK X D [⟨some kD, d, kp⟩] ck) (hl : ∀ r m vs m', cl r m = .ok vs m' → vs.length = 1) (hlk : ∀ r m vs m', ck r m = .ok vs m' → vs.length = 1) :
    SE X D (.Call (.Name "max" p) [e] [⟨some kD, d, kp⟩] pos) (fun r m => (both cl ck r m).bind fun vs m1 => lift (builtin .maxd vs m1)) := by
  refine SE.of (t := fun W => tCKw (rMaxd D) (tL X D W cl) (tL X D W ck)) (fun W tk => pe_callBK (cr_maxd hc hu) hg hm (by rfl) (ha W tk) (hk W tk) (by decide) (by decide) (by rw [star_cons hp]; rfl) (star_none (by rw [List.all_cons, hp]; rfl)) (by rfl) (by rfl) (by rfl)) fun W σ H Q ⟨i, r, m, S, E, h⟩ => ?_
  dsimp only [both] at h
  refine ⟨i, r, m, S, E, ?_⟩
  cases e1 : cl r m with
  | ok vs m1 =>
    rw [e1] at h
    dsimp only [R.bind] at h
    intro i' H' xs x1 S1 q1
    refine ⟨i', r, m1, S1, E.ext x1, ?_⟩
    cases e2 : ck r m1 with
    | ok ws m2 =>
      rw [e2] at h
      exact fun i2 H2 zs x2 S2 q2 => ⟨i2, m2, vs, ws, S2, q1.ext x2, q2, hl _ _ _ _ e1, hlk _ _ _ _ e2, Pst.lift (Pst.ext h (x1.trans x2))⟩
    | ex c fs m2 => rw [e2] at h; exact Pst.ext (a := R.ex c fs m2) (rel := RVs D) (Q := fun _ _ => True) (fun i3 H3 cls dd e3 S3 q3 => h i3 H3 cls dd (x1.trans e3) S3 q3) Ext.refl
    | fail => rw [e2] at h; exact h.elim
  | ex c fs m1 => rw [e1] at h; exact h
  | fail => rw [e1] at h; exact h
end
end U
end Part_UM

section Part_UG
set_option Elab.async false
set_option linter.all false
set_option maxRecDepth 100000
set_option maxHeartbeats 4000000
/-! UG: sets of texts: made of a list, sorted. -/
namespace UG
open PySem PySem.Spec PyProof.Rows L2 PySem.Froz
def keyS (e : Int × Value) : Str := match e.2 with
  | .str k _ => k
  | _ => Str.empty
/-- the set at a holds just the texts l, each once; its table rises and can be walked -/
structure TS (P : Program) (w : World) (h : Heap) (a : Addr) (l : List Str) : Prop where
  ex : ∃ D : SD, h.get? a = some (sObj "set" D) ∧ TxOk P w D l ∧ (D.1.toList.map keyS).Perm l ∧ (∀ e ∈ D.1.toList, ∃ k tk, e.2 = Value.str k tk) ∧ l.Nodup ∧ Ris D.2.2.place.toList ∧ (w.params.followText "set-order" = true ∨ D.2.2.led = true)
theorem TS.keep {P : Program} {w : World} {h h' : Heap} {a : Addr} {l : List Str} (t : TS P w h a l) (k : ∀ o, h.get? a = some o → h'.get? a = some o) : TS P w h' a l := by
  obtain ⟨D, h1, r⟩ := t.ex
  exact ⟨D, k _ h1, r⟩
theorem tail_inv (ep : Nat) (es1 : Array (Int × Value)) (t2 : SetTable) (b : Bool) (r : Ris t2.place.toList) : (tailTx ep es1 t2 b).1.toList.Perm es1.toList ∧ Ris (tailTx ep es1 t2 b).2.2.place.toList ∧ (tailTx ep es1 t2 b).2.2.led = t2.led := by
  unfold tailTx
  split
  · exact ⟨relayAll_perm .., relayAll_ris .., relayAll_led ..⟩
  · exact ⟨.refl _, r, rfl⟩
theorem add_inv {D : SD} {h : Int} {v : Value} (r : Ris D.2.2.place.toList) : (addTx h v D).1.toList.Perm (D.1.push (h, v)).toList ∧ Ris (addTx h v D).2.2.place.toList ∧ (addTx h v D).2.2.led = D.2.2.led := by
  obtain ⟨es, ep, t⟩ := D
  have r2 : ∀ b : Bool, Ris (if b = true then { (layNew t es h v).2.1 with plain := false } else (layNew t es h v).2.1).place.toList := fun b => by
    cases b
    · exact layNew_ris t es h v r
    · exact layNew_ris t es h v r
  have l2 : ∀ b : Bool, (if b = true then { (layNew t es h v).2.1 with plain := false } else (layNew t es h v).2.1).led = t.led := fun b => by
    cases b
    · exact layNew_led t es h v
    · exact layNew_led t es h v
  obtain ⟨a1, a2, a3⟩ := tail_inv ep (layNew t es h v).1 (if (layNew t es h v).2.1.plain = true then { (layNew t es h v).2.1 with plain := false } else (layNew t es h v).2.1) (layNew t es h v).2.2.1 (r2 _)
  exact ⟨a1.trans (layNew_perm t es h v), a2, a3.trans (l2 _)⟩
section
variable {P : Program} {w : World} {A : Around} {E : Value → Shared → Prop} {s : Shared}
/-- what is there already stays as it is -/
theorem add_there {a : Addr} {D : SD} {l : List Str} {k : Str} {u : Tok} {Q : Bool → Shared → Prop} (ho : s.heap.get? a = some (sObj "set" D)) (F : TxOk P w D l) (hk : k ∈ l) (hb : l.length < scanBound) (q : Q false s) :
    wpAny (model P w) A (setAddHashed a (.str k u) (hashStr w k)) Q E s := by
  obtain ⟨es, ep, t⟩ := D
  have fit : t.fits es.size = true := F.fit
  have elm : ElemsOf (strKind P w) es.toList := F.el
  have num : es.size = l.length := F.sz
  have isk : (strKind P w).is k (.str k u) = true := is_str k u
  obtain ⟨j, hj⟩ : ∃ j, List.findIdx? (fun e => (strKind P w).is k e.2) es.toList = some j := by
    cases hr : List.findIdx? (fun e => (strKind P w).is k e.2) es.toList with
    | some j => exact ⟨j, rfl⟩
    | none =>
      obtain ⟨e, he, hp⟩ := (F.mem k).mp hk
      have := List.findIdx?_eq_none_iff.mp hr e he
      rw [hp] at this
      cases this
  unfold setAddHashed setAddHashedIn
  refine wpAny_holding (wpAny_bind (wpAny_setState_of ho rfl fit ?_))
  dsimp only
  rw [byScan_of (knd := strKind P w) rfl (by rw [num]; exact hb) elm, if_pos rfl]
  unfold setAddByScan
  refine wpAny_bind (wpAny_bind (wpAny_rule (wpAny_bind (wpAny_setScan_of (knd := strKind P w) (k := k) isk ho rfl fit elm ?_))))
  rw [hj]
  exact wpAny_pure (wpAny_pure q)
/-- one text is put in -/
theorem add_one {a : Addr} {l : List Str} {k : Str} {u : Tok} {Q : Bool → Shared → Prop} (t : TS P w s.heap a l) (hb : l.length + 1 < scanBound)
    (q : ∀ (b : Bool) (h' : Heap) (l' : List Str), TS P w h' a l' → (∀ x, x ∈ l' ↔ x = k ∨ x ∈ l) → l'.length ≤ l.length + 1 → h'.objs.size = s.heap.objs.size → (∀ c o, c ≠ a → s.heap.get? c = some o → h'.get? c = some o) → Q b { s with heap := h' }) :
    wpAny (model P w) A (setAddHashed a (.str k u) (hashStr w k)) Q E s := by
  obtain ⟨D, h1, h2, h3, h4, h5, h6, h7⟩ := t.ex
  by_cases hk : k ∈ l
  · exact add_there h1 h2 hk (by omega) (q false s.heap l t (fun x => ⟨.inr, fun z => z.elim (fun z => z ▸ hk) id⟩) (by omega) rfl fun _ _ _ z => z)
  · obtain ⟨i1, i2, i3⟩ := add_inv (h := hashStr w k) (v := .str k u) h6
    refine add_x h1 h2 hk hb (q true _ (k :: l) ⟨addTx (hashStr w k) (.str k u) D, get_upd _ h1 rfl, Froz.add_ok u h2, ?_, fun e he => ?_, List.nodup_cons.mpr ⟨hk, h5⟩, i2, by rw [i3]; exact h7⟩ (fun x => List.mem_cons) (Nat.le_refl _) ?_ fun c o hc z => ?_)
    · refine (i1.map keyS).trans ?_
      rw [Array.toList_push, List.map_append]
      exact (List.perm_append_comm).trans (h3.cons k)
    · have := i1.mem_iff.mp he
      rw [Array.toList_push] at this
      rcases List.mem_append.mp this with z | z
      · exact h4 e z
      · rw [List.mem_singleton.mp z]
        exact ⟨k, u, rfl⟩
    · exact Heap.size_after_update ..
    · exact (Heap.get?_update_other _ _ (Ne.symm hc)).trans z
end
end UG
end Part_UG

section Part_UG2
set_option Elab.async false
set_option linter.all false
set_option maxRecDepth 100000
set_option maxHeartbeats 4000000
/-! UG2: set(xs) of a list of texts. -/
namespace UG
open PySem PySem.Spec PyProof.Rows L2 PySem.Froz
/-- the members so far -/
def Got (P : Program) (w : World) (h : Heap) (S : Addr) (xs : List Str) (i : Nat) : Prop := ∃ l, TS P w h S l ∧ (∀ x, x ∈ l ↔ x ∈ xs.take i) ∧ l.length ≤ i
theorem Got.keep {P : Program} {w : World} {h h' : Heap} {S : Addr} {xs : List Str} {i : Nat} (g : Got P w h S xs i) (k : ∀ o, h.get? S = some o → h'.get? S = some o) : Got P w h' S xs i := by
  obtain ⟨l, a, b, c⟩ := g
  exact ⟨l, a.keep k, b, c⟩
section
variable {prog : Program} {w : World} {A : Around} {R : Result → Shared → Prop} {I : Addr} {fp wr : List Addr} {G : Array GenState → Array GenState → Prop} {n : Nat} {Pv : Nat → Value → Prop} {St : Nat → Shared → Prop}
theorem upd_loop (W : WalksS prog w A.in1 I fp wr G n Pv St) (S : Addr) (nS : S ∉ fp) (xs : List Str) (hx : xs.length = n) (room : n + 1 < scanBound) (hv : ∀ i v, Pv i v → ∃ t, v = .str (xs.getD i Str.empty) t) :
    ∀ (left i : Nat) (s : Shared), n - i = left → i ≤ n → St i s → Got prog w s.heap S xs i → (∀ s', Moved (S :: wr) G s s' → Got prog w s'.heap S xs n → R (.ok (.ret .none)) s') →
      codeAny (model prog w) A (.builtin "set.update.loop" ⟨[.ref S, .ref I], []⟩) R s := by
  have nw : S ∉ wr := fun z => nS (W.sub _ z)
  have into : ∀ b ∈ wr, b ∈ S :: wr := fun b z => List.mem_cons_of_mem _ z
  intro left
  induction left with
  | zero =>
    intro i s hl hi st g fin
    obtain rfl : i = n := by omega
    refine codeAny_builtin PyProof.Rows.F.entry_set_update_loop (by
      rw [Around.under_plainId PyProof.Rows.F.plain_set_update_loop _]
      exact wpAny_bind (W.done s _ _ st fun s' mv => wpAny_pure (fin s' (mv.mono into) (g.keep fun o z => mv.heap S o nw z))))
  | succ left ih =>
    intro i s hl hi st g fin
    have lt : i < n := by omega
    refine codeAny_builtin PyProof.Rows.F.entry_set_update_loop ?_
    rw [Around.under_plainId PyProof.Rows.F.plain_set_update_loop _]
    refine wpAny_bind (m := pyNext (.ref I)) (W.item i s _ _ lt st fun v s' pv st' mv => ?_)
    obtain ⟨tk, rfl⟩ := hv i v pv
    obtain ⟨l, t0, m0, z0⟩ := g.keep fun o z => mv.heap S o nw z
    refine wpAny_bind (m := holding [Value.str (xs.getD i Str.empty) tk] (setAdd S (.str (xs.getD i Str.empty) tk))) (wpAny_holding ?_)
    unfold setAdd
    refine wpAny_holding (wpAny_bind ((PySem.strKind prog w).pyHash (k := xs.getD i Str.empty) (strKind_is _ _ _ _) ?_))
    refine add_one (s := { s' with toks := s'.toks + 1 }) (k := xs.getD i Str.empty) t0 (by omega) fun b h' l' t1 m1 z1 sz keep => ?_
    have g1 : Got prog w h' S xs (i + 1) := by
      refine ⟨l', t1, fun x => ?_, by omega⟩
      have at_i : xs[i]? = some (xs.getD i Str.empty) := by
        rw [List.getD_eq_getElem?_getD, List.getElem?_eq_getElem (show i < xs.length by omega)]
        rfl
      rw [m1 x, m0 x, List.take_add_one, at_i, List.mem_append]
      simp only [Option.toList_some, List.mem_singleton]
      exact Or.comm
    have away : ∀ c ∈ fp, ∀ o, s'.heap.get? c = some o → h'.get? c = some o := fun c hc o z => keep c o (fun q => nS (q ▸ hc)) z
    refine wpAny_pure ⟨plainId_quiet PyProof.Rows.F.plain_set_update_loop _, ih (i + 1) _ (by omega) lt (W.frame _ s' _ _ st' (Nat.le_succ _) away) g1 fun s2 mv2 g2 => fin s2 (Moved.trans W.gtrans ((mv.mono into).then_heap (Nat.le_succ _) fun c o hc z => keep c o (fun q => hc (by rw [q]; exact List.mem_cons_self ..)) z) mv2) g2⟩
end
end UG
end Part_UG2

section Part_UG3
set_option Elab.async false
set_option linter.all false
set_option maxRecDepth 100000
set_option maxHeartbeats 4000000
/-! UG3: the call of set. -/
namespace UG
open PySem PySem.Spec PyProof.Rows L2 PySem.Froz
section
variable {prog : Program} {w : World} {A : Around} {E : Value → Shared → Prop} {s : Shared}
/-- a set that is just made -/
abbrev emptyO (led : Bool) : Obj := { cls := .type "set", dict := none, data := .set #[] 0 (.fresh 0 0 led) }
abbrev ledOf (w : World) : Bool := !w.params.followText "set-order"
theorem got_new {h : Heap} {a : Addr} {xs : List Str} (z : h.get? a = some (emptyO (ledOf w))) : Got prog w h a xs 0 := by
  refine ⟨[], ⟨(#[], 0, .fresh 0 0 (ledOf w)), z, TxOk.nil rfl, List.Perm.refl _, (fun e he => by cases he), List.nodup_nil, List.Pairwise.nil, ?_⟩, (fun x => by simp), Nat.le_refl _⟩
  show _ ∨ (!w.params.followText "set-order") = true
  cases w.params.followText "set-order"
  · exact .inr rfl
  · exact .inl rfl
theorem new_code (a : Value) {Z : Value → Shared → Prop} (q : Z (.ref s.heap.objs.size) { s with heap := s.heap.push (emptyO (ledOf w)) }) : codeAny (model prog w) A (.call (.builtin "set.__new__") ⟨[.type "set", a], []⟩) (wants Z E) s := by
  refine codeAny_of_tree (wpAny_bind (m := checkBuiltinCall "set.__new__" ⟨[.type "set", a], []⟩) (wpAny_of_eq (PySem.F.newCall_set_1 a) (wpAny_pure ⟨plainId_quiet F.plain_set_new _, codeAny_builtin F.entry_set_new ?_⟩)))
  rw [Around.under_plainId F.plain_set_new _]
  unfold Builtin.«set.__new__» Builtin.Frozenset.newClass
  have sub1 := sub_set_self
  obtain ⟨hp, g, d, tk, os⟩ := s
  dsimp only
  wp_walk
  refine wpAny_askSetting (wpAny_pure ?_)
  dsimp only
  simp only [newObj]
  exact wpAny_bind (wpAny_alloc (wpAny_pure (wpAny_pure q)))
/-- set(xs) -/
theorem call_set {l : Addr} {items : Array Value} {xs : List Str} {Q : Value → Shared → Prop} (calm : A.handled = none) (at_l : s.heap.IsList l items) (are : PyProof.Rows.StrsAre items.toList xs) (room : items.size + 1 < scanBound)
    (q : ∀ (h' : Heap) (tk : Nat), Got prog w h' s.heap.objs.size xs items.size → (∀ b o, b < s.heap.objs.size → s.heap.get? b = some o → h'.get? b = some o) → s.heap.objs.size < h'.objs.size → Q (.ref s.heap.objs.size) { s with heap := h', toks := tk }) :
    wpAny (model prog w) A (call (.type "set") [.ref l]) Q E s := by
  obtain ⟨c, tl, hmro⟩ := PySem.F.called_set.mro
  have mk1 := PySem.F.called_set.made
  have sb1 := PySem.F.called_set.sub
  have nt1 := PySem.F.called_set.notType
  have cc1 := PySem.F.called_set.canCreate
  have tc1 := PySem.F.typeCall_set_1 (.ref l)
  refine wpAny_call (codeAny_of_tree (show wpAny _ _ (callAny (.type "set") _) _ _ _ from ?_))
  refine wpAny_pure ⟨(Code.quiet_builtin _ (by decide +kernel)), (codeAny_builtin PySem.F.entry_type_call ?_)⟩
  rw [(Around.under_plain (weight_type_call_type "set" [.ref l] []) rfl)]
  repeat (any_goals (first | assumption | wp_step))
  refine codeAny_mono (new_code (.ref l) (E := E) (Z := fun obj s1 => obj = .ref s.heap.objs.size ∧ s1 = { s with heap := s.heap.push (emptyO (ledOf w)) }) ⟨rfl, rfl⟩) fun r s1 hr => ?_
  cases r with
  | error e => exact hr
  | ok fl =>
    cases fl with
    | ret obj =>
      obtain ⟨rfl, rfl⟩ := hr
      have atS : (s.heap.push (emptyO (ledOf w))).get? s.heap.objs.size = some (emptyO (ledOf w)) := Heap.get?_push_size _ rfl
      have tyS : Shared.TypeIs { s with heap := s.heap.push (emptyO (ledOf w)) } (.ref s.heap.objs.size) "set" := ⟨_, atS, rfl⟩
      have li1 := PySem.F.called_set.init.lookup
      have bi1 := PySem.F.called_set.init.bind (.ref s.heap.objs.size)
      repeat (any_goals (first | assumption | wp_step))
      refine codeAny_mono (codeAny_call_builtin (R := wants (fun r s2 => r = .none ∧ ∃ h' tk, s2 = { s with heap := h', toks := tk } ∧ Got prog w h' s.heap.objs.size xs items.size ∧ (∀ b o, b < s.heap.objs.size → s.heap.get? b = some o → h'.get? b = some o) ∧ s.heap.objs.size < h'.objs.size) E) PySem.F.called_set.init.plain PySem.F.entry_set_init (check_set_init_1 tyS ?_)) fun r2 s2 hr2 => ?_
      · obtain ⟨⟨oc, od, odt, osl⟩, ho1, hc1, nl, hd1⟩ := at_l
        simp only at hc1 hd1
        subst hc1 hd1
        have ho2 : (s.heap.push (emptyO (ledOf w))).get? l = some { cls := .type "list", dict := od, data := .seq items nl, slots := osl } := Heap.get?_push_of_some _ ho1
        have s1 := PySem.F.sub_list_set
        have s2 := PySem.F.sub_list_frozenset
        have ne1 : (Value.type "list" == Value.type "dict") = false := by decide
        have il : (s.heap.push (emptyO (ledOf w))).IsList l items := ⟨_, ho2, rfl, nl, rfl⟩
        unfold Builtin.«set.__init__» noKeywords Builtin.Frozenset.updateFrom
        generalize hPI : pyIter = PI
        wp_walk
        subst hPI
        have ll : l < s.heap.objs.size := Heap.lt_size ho1
        have sz1 : (s.heap.push (emptyO (ledOf w))).objs.size = s.heap.objs.size + 1 := Heap.size_push ..
        have len1 : xs.length = items.size := by rw [← StrsAre.len_eq are, Array.length_toList]
        refine wpAny_pyIter_list il (wpAny_bind (wpAny_runValue (upd_loop ((Walks.list (A := A.in1.in1.in1) (by simp [calm]) _ l (Nat.ne_of_lt (show l < (s.heap.push (emptyO (ledOf w))).objs.size from by rw [sz1]; exact Nat.lt_succ_of_lt ll)) items).toS) s.heap.objs.size (fun hm => by
          rcases List.mem_cons.1 hm with e | hm
          · exact absurd (show s.heap.objs.size = (s.heap.push (emptyO (ledOf w))).objs.size from e) (by rw [sz1]; exact Nat.ne_of_lt (Nat.lt_succ_self _))
          · rcases List.mem_cons.1 hm with e | hm
            · exact absurd e (Nat.ne_of_gt ll)
            · cases hm) xs len1 room (fun i v hv => SS.strs_at are i v (by rw [Array.getElem?_toList]; exact hv)) (items.size - 0) 0 _ (by omega) (Nat.zero_le _) ⟨⟨_, Heap.get?_push_size _ rfl, rfl, rfl⟩, il.push _⟩ (got_new (Heap.get?_push_of_some _ atS)) fun s' mv g => ?_)))
        obtain ⟨h', g', d', tk', os'⟩ := s'
        obtain rfl : g' = s.gens := mv.gens
        obtain rfl : d' = s.drawn := mv.drawn
        obtain rfl : os' = s.os := mv.os
        have big : s.heap.objs.size < h'.objs.size := by
          obtain ⟨lx, tx, _, _⟩ := g
          obtain ⟨D, z, _⟩ := tx.ex
          exact Heap.lt_size z
        refine wpAny_pure (wpAny_pure ⟨rfl, h', tk', rfl, g, fun b o hb e => mv.heap b o ?_ (Heap.get?_push_of_some _ (Heap.get?_push_of_some _ e)), big⟩)
        intro hm
        rcases List.mem_cons.1 hm with e | hm
        · exact absurd (show b = s.heap.objs.size from e) (Nat.ne_of_lt hb)
        · rcases List.mem_cons.1 hm with e | hm
          · exact absurd (show b = (s.heap.push (emptyO (ledOf w))).objs.size from e) (by rw [sz1]; exact Nat.ne_of_lt (Nat.lt_succ_of_lt hb))
          · cases hm
      · cases r2 with
        | error e => exact hr2
        | ok fl2 =>
          cases fl2 with
          | ret r =>
            obtain ⟨rfl, h', tk, rfl, g, keep, big⟩ := hr2
            repeat (any_goals (first | assumption | wp_step))
            exact q _ _ g keep big
          | _ => exact hr2.elim
    | _ => exact hr.elim
end
end UG
end Part_UG3

section Part_UG4
set_option Elab.async false
set_option linter.all false
set_option maxRecDepth 100000
set_option maxHeartbeats 4000000
/-! UG4: sorted(set(xs)), sorted(xs) of a list of texts. -/
namespace UG
open PySem PySem.Spec PyProof.Rows L2 PySem.Froz
theorem texts_of : ∀ (es : List (Int × Value)), (∀ e ∈ es, ∃ k tk, e.2 = Value.str k tk) → StrsAre (es.map (·.2)) (es.map keyS)
  | [], _ => .nil
  | (i, v) :: es, h => by
    obtain ⟨k, tk, e⟩ := h _ (List.mem_cons_self ..)
    have e' : v = .str k tk := e
    subst e'
    exact .cons k tk (texts_of es fun e he => h e (List.mem_cons_of_mem _ he))
theorem texts_all : ∀ {vs : List Value}, (∀ v ∈ vs, ∃ k tk, v = Value.str k tk) → StrsAre vs (vs.map fun v => keyS (0, v))
  | [], _ => .nil
  | v :: vs, h => by
    obtain ⟨k, tk, e⟩ := h _ (List.mem_cons_self ..)
    subst e
    exact .cons k tk (texts_all fun e he => h e (List.mem_cons_of_mem _ he))
section
variable {prog : Program} {w : World} {A : Around} {E : Value → Shared → Prop} {s : Shared}
theorem sorted_setT {a : Addr} {l : List Str} {Z : Value → Shared → Prop} (calm : A.handled = none) (t : TS prog w s.heap a l) (few : l.length < 64)
    (z : ∀ s' p (res : Array Value) (n : Nat) (ys : List Str), (∀ b u, s.heap.get? b = some u → s'.heap.get? b = some u) → s'.gens = s.gens → s'.os = s.os → s.heap.objs.size ≤ p →
      s'.heap.get? p = some (seqObj "list" res n) → StrsAre res.toList ys → ys.Perm l → sortedS ys = true → Z (.ref p) s') :
    wpAny (model prog w) A (call (.builtin "sorted") [.ref a]) Z E s := by
  obtain ⟨⟨es, ep, t⟩, h1, h2, h3, h4, h5, h6, h7⟩ := t.ex
  have sz : es.size = l.length := h2.sz
  have at_a : SetAt s.heap a es ep t := ⟨_, h1, rfl, rfl⟩
  refine Calls.call_function_entry kind_sorted plain_sorted entry_sorted (args_sorted1 _) ?_
  unfold Builtin.«sorted»
  refine wpAny_bind (m := checkCount "sorted" 1 1 _) (wpAny_pure (wpAny_bind (collect_set (A := A.in1) calm at_a h2.fit (by rw [sz]; unfold scanBound; omega) h6 h7 fun s1 vs k1 up g1 o1 pm => ?_)))
  have lv : vs.length = l.length := by rw [pm.length_eq, List.length_map, Array.length_toList]; exact sz
  have ar : StrsAre vs (vs.map fun v => keyS (0, v)) := texts_all fun v hv => by
    obtain ⟨e, he, q⟩ := List.mem_map.mp (pm.mem_iff.mp hv)
    obtain ⟨k, tk, e1⟩ := h4 e he
    exact ⟨k, tk, q ▸ e1⟩
  have pk : (vs.map fun v => keyS (0, v)).Perm l := by
    refine (pm.map _).trans ?_
    rw [List.map_map]
    exact h3
  refine wpAny_bind (wpAny_newList ?_ (by rw [lv, sizeLine_eq]; omega))
  have new : (s1.heap.push (seqObj "list" vs.toArray 0)).get? s1.heap.objs.size = some (seqObj "list" vs.toArray 0) := Heap.get?_push_size _ rfl
  refine wpAny_bind (wpAny_holding (wpAny_call_entry slot_list_sort ⟨_, new, rfl⟩ entry_list_sort (list_sort_treeK strKind_oneLt new ar.keysOf (fun x y r e => keyKind_strs (by rw [← e]; exact ar)) (by rw [lv]; exact few) fun st pp ss => ⟨_, rfl, ?_⟩) (args_list_sort _)))
  obtain ⟨ys, b1, b2, b3⟩ := sorted_out_str ar pp ss
  obtain ⟨c, hc⟩ := sortedHeap_at (vs := vs) (out := _) new
  refine wpAny_pure ⟨_, rfl, z _ s1.heap.objs.size _ c ys (fun b u e => ?_) g1 o1 up hc b1 (b2.trans pk) b3⟩
  have lt := Heap.lt_size (k1 b u e)
  show (sortedHeap (s1.heap.push (seqObj "list" vs.toArray 0)) s1.heap.objs.size vs _).get? b = some u
  rw [sortedHeap_old (Nat.ne_of_lt lt) (by rw [PySem.Heap.size_push]; exact Nat.lt_succ_of_lt lt)]
  exact Heap.get?_push_of_some _ (k1 b u e)
end
/-! ### the order of texts -/
theorem rising_pw : ∀ (x : Str) (r : List Str), risingS x r = true → (x :: r).Pairwise fun a b => a.cps.toList ≤ b.cps.toList
  | x, [], _ => List.pairwise_singleton ..
  | x, y :: r, h => by
    unfold risingS at h
    rw [Bool.and_eq_true] at h
    have ih := rising_pw y r h.2
    have xy : x.cps.toList ≤ y.cps.toList := by
      have := h.1
      rw [ltCps_eq] at this
      simpa using this
    refine List.pairwise_cons.mpr ⟨fun b hb => ?_, ih⟩
    rcases List.mem_cons.mp hb with e | hb
    · exact e ▸ xy
    · exact List.le_trans xy ((List.pairwise_cons.mp ih).1 b hb)
theorem sorted_pw {l : List Str} (h : sortedS l = true) : (l.map fun x => x.cps.toList).Pairwise (· ≤ ·) := by
  rw [List.pairwise_map]
  cases l with
  | nil => exact .nil
  | cons x r => exact rising_pw x r h
end UG
namespace U
open PySem PySem.Spec PyProof.Rows L2
theorem insT_perm (x : Txt) : ∀ l, (insT x l).Perm (x :: l)
  | [] => .refl _
  | y :: l => by
    unfold insT
    split
    · exact ((insT_perm x l).cons y).trans (List.Perm.swap ..)
    · exact .refl _
theorem sortT_perm : ∀ l, (sortT l).Perm l
  | [] => .refl _
  | x :: l => (insT_perm x _).trans ((sortT_perm l).cons x)
theorem insT_pw (x : Txt) : ∀ l : List Txt, l.Pairwise (· ≤ ·) → (insT x l).Pairwise (· ≤ ·)
  | [], _ => List.pairwise_singleton ..
  | y :: l, h => by
    obtain ⟨h1, h2⟩ := List.pairwise_cons.mp h
    unfold insT
    split
    · rename_i lt
      refine List.pairwise_cons.mpr ⟨fun b hb => ?_, insT_pw x l h2⟩
      rcases List.mem_cons.mp ((insT_perm x l).mem_iff.mp hb) with e | hb
      · exact e ▸ List.le_of_lt lt
      · exact h1 b hb
    · rename_i nlt
      refine List.pairwise_cons.mpr ⟨fun b hb => ?_, h⟩
      have xy : x ≤ y := List.not_lt.mp nlt
      rcases List.mem_cons.mp hb with e | hb
      · exact e ▸ xy
      · exact List.le_trans xy (h1 b hb)
theorem sortT_pw : ∀ l, (sortT l).Pairwise (· ≤ ·)
  | [] => .nil
  | x :: l => insT_pw x _ (sortT_pw l)
theorem insD_mem (x : Txt) : ∀ (l : List Txt) (z : Txt), z ∈ insD x l ↔ z = x ∨ z ∈ l
  | [], z => by
    show z ∈ [x] ↔ _
    simp
  | y :: l, z => by
    unfold insD
    split
    · rw [List.mem_cons, insD_mem x l z, List.mem_cons]
      exact ⟨fun h => h.elim (fun e => .inr (.inl e)) fun h => h.elim .inl fun h => .inr (.inr h), fun h => h.elim (fun e => .inr (.inl e)) fun h => h.elim .inl fun h => .inr (.inr h)⟩
    · split
      · rename_i e
        subst e
        exact ⟨.inr, fun h => h.elim (fun e => e ▸ List.mem_cons_self ..) id⟩
      · exact List.mem_cons
theorem sortD_mem : ∀ (l : List Txt) (z : Txt), z ∈ sortD l ↔ z ∈ l
  | [], z => Iff.rfl
  | x :: l, z => by
    show z ∈ insD x (sortD l) ↔ _
    rw [insD_mem, sortD_mem l, List.mem_cons]
theorem lt_of_nlt_ne {x y : Txt} (a : ¬ y < x) (b : y ≠ x) : x < y := by
  by_cases c : x < y
  · exact c
  · exact absurd (List.le_antisymm (List.not_lt.mp c) (List.not_lt.mp a)) b
theorem insD_pw (x : Txt) : ∀ l : List Txt, l.Pairwise (· < ·) → (insD x l).Pairwise (· < ·)
  | [], _ => List.pairwise_singleton ..
  | y :: l, h => by
    obtain ⟨h1, h2⟩ := List.pairwise_cons.mp h
    unfold insD
    split
    · rename_i lt
      refine List.pairwise_cons.mpr ⟨fun b hb => ?_, insD_pw x l h2⟩
      rcases (insD_mem x l b).mp hb with e | hb
      · exact e ▸ lt
      · exact h1 b hb
    · split
      · exact h
      · rename_i a b
        have xy := lt_of_nlt_ne a b
        refine List.pairwise_cons.mpr ⟨fun b hb => ?_, h⟩
        rcases List.mem_cons.mp hb with e | hb
        · exact e ▸ xy
        · exact List.lt_trans xy (h1 b hb)
theorem sortD_pw : ∀ l, (sortD l).Pairwise (· < ·)
  | [] => .nil
  | x :: l => insD_pw x _ (sortD_pw l)
theorem sortT_uniq {l l' : List Txt} (p : l'.Perm l) (h : l'.Pairwise (· ≤ ·)) : l' = sortT l :=
  List.Perm.eq_of_pairwise (le := (· ≤ ·)) (fun _ _ _ _ a b => List.le_antisymm a b) h (sortT_pw l) (p.trans (sortT_perm l).symm)
theorem lt_nodup {l : List Txt} (h : l.Pairwise (· < ·)) : l.Nodup := List.Pairwise.imp (S := (· ≠ ·)) (fun {a b} (q : a < b) (e : a = b) => List.lt_irrefl b (e ▸ q)) h
theorem sorted_uniq : ∀ {l l' : List Txt}, l.Pairwise (· < ·) → l'.Pairwise (· < ·) → (∀ z, z ∈ l ↔ z ∈ l') → l = l' := fun {l l'} h h' e =>
  List.Perm.eq_of_pairwise (le := (· < ·)) (fun _ _ _ _ a b => absurd b (List.lt_asymm a)) h h' ((List.perm_ext_iff_of_nodup (lt_nodup h) (lt_nodup h')).mpr e)
theorem sortD_uniq {l l' : List Txt} (h : l'.Pairwise (· < ·)) (m : ∀ z, z ∈ l' ↔ z ∈ l) : l' = sortD l :=
  sorted_uniq h (sortD_pw l) fun z => (m z).trans (sortD_mem l z).symm
theorem sortD_few (l : List Txt) : (sortD l).length ≤ l.length := by
  induction l with
  | nil => exact Nat.le_refl _
  | cons x l ih =>
    have : ∀ l : List Txt, (insD x l).length ≤ l.length + 1 := fun l => by
      induction l with
      | nil => exact Nat.le_refl _
      | cons y l ih =>
        unfold insD
        split
        · exact Nat.succ_le_succ ih
        · split
          · exact Nat.le_succ _
          · exact Nat.le_refl _
    exact Nat.le_trans (this _) (Nat.succ_le_succ ih)
theorem map_str (l : List Txt) : (l.map fun x => (⟨x.toArray⟩ : Str)).map (fun x => x.cps.toList) = l := by
  rw [List.map_map]
  exact List.map_id _
theorem str_map (l : List Str) : (l.map fun x => x.cps.toList).map (fun x => (⟨x.toArray⟩ : Str)) = l := by
  rw [List.map_map]
  exact List.map_id _
theorem RVs.strs {D : Dat} {i : List Addr} {H : Hp} (l : List Str) : RVs D i H (l.map V.str) ((l.map fun x => x.cps.toList).map MV.str) := by
  induction l with
  | nil => exact .nil
  | cons x l ih => exact .cons (.str x.cps.toList) ih
theorem le_ne_pw {l : List Txt} (h : l.Pairwise (· ≤ ·)) (n : l.Nodup) : l.Pairwise (· < ·) := by
  induction l with
  | nil => exact .nil
  | cons x l ih =>
    obtain ⟨h1, h2⟩ := List.pairwise_cons.mp h
    obtain ⟨n1, n2⟩ := List.nodup_cons.mp n
    refine List.pairwise_cons.mpr ⟨fun b hb => ?_, ih h2 n2⟩
    exact lt_of_nlt_ne (List.not_lt.mpr (h1 b hb)) fun e => n1 (e ▸ hb)
/-- sorted(xs) -/
theorem cr_sortT {X : Cx} {D : Dat} : CallR X (.builtin "sorted") (rBf D .sort) := by
  rintro pins s σ H xs us Q I r ⟨i, m, vs, S, rs, h⟩
  cases rs with
  | nil => exact h.elim
  | @cons x v xs vs rx rt =>
  cases rt with
  | cons _ _ => cases rx <;> exact h.elim
  | nil =>
  cases rx with
  | @ref p n h0 =>
    unfold builtin at h
    dsimp only at h
    split at h
    · rename_i xs e0
      split at h
      · rename_i ns e
        split at h
        · rename_i few
          obtain ⟨vs, h1, r1⟩ := S.lst_at h0 e0
          have ev := strs_of e r1
          subst ev
          refine cr_sortedS pins s σ H _ us Q I r ⟨p, _, rfl, SqL.of h1, by rw [List.length_map]; exact few, fun ys q pm so hq => ?_⟩
          have pm2 := pm.map fun x => x.cps.toList
          rw [map_str] at pm2
          have e2 := sortT_uniq pm2 (UG.sorted_pw so)
          have r2 := RVs.strs (D := D) (i := i) (H := H) ys
          rw [e2] at r2
          exact PO2.lst h S r2 q hq
        · exact h.elim
      · exact h.elim
    · exact h.elim
  | _ => exact h.elim
def rSset (D : Dat) : V → Hp → VK → Prop := fun x H Q => ∃ i m v, Sim D i m H ∧ RV D i H x v ∧ PO2 D i H Q (builtin .sset [v] m)
section
variable {X : Cx} {D : Dat}
theorem pe_sset {a : Expr} {ta : TE} {p p2 q pos : Pos} (calm : X.calm = true) (g1 : Gl X "sorted") (m1 : X.mg "sorted" = none) (g2 : Gl X "set") (m2 : X.mg "set" = none) (ha : PE X a ta)
    (na : starEach [a] X.env = (false, eval a X.env) :: starEach [] X.env) : PE X (.Call (.Name "sorted" p) [.Call (.Name "set" p2) [a] [] q] [] pos) (fun σ H Q => ta σ H fun x H1 => rSset D x H1 Q) := by
  refine ⟨fun pins s σ H Q I h => ?_⟩
  refine Call_ (ld_blt I g1 m1 (show bootBuiltins "sorted" = some (.builtin "sorted") from by decide +kernel) ?_)
  refine PyProof.Rows.callWith_builtin1 (PyProof.Rows.args_cons ?_ rfl) rfl rfl
  refine Call_ (ld_blt I g2 m2 (show bootBuiltins "set" = some (.type "set") from by decide +kernel) ?_)
  refine PyProof.Rows.callWith_type1 (PyProof.Rows.args_cons (thn (ha.run pins s σ H _ I h) fun v s1 ⟨x, H1, I1, r1, i, m, y, S, rx, h1⟩ => PyProof.Rows.args_nil ?_) na) na rfl
  cases rx with
  | @ref p n h0 =>
    unfold builtin at h1
    dsimp only at h1
    split at h1
    · rename_i xs e0
      split at h1
      · rename_i ns e
        split at h1
        · rename_i few
          obtain ⟨vs, q1, r2⟩ := S.lst_at h0 e0
          have ev := strs_of e r2
          subst ev
          cases r1
          obtain ⟨its, rv, pl, hz⟩ := I1.list (SqL.of q1)
          have li : its.toArray.size = ns.length := by rw [List.size_toArray, ← rv.length, List.length_map, List.length_map]
          refine UG.call_set (I1.ok.hd calm) pl.isList (by simpa using rv.strs) (by rw [li]; unfold scanBound; omega) fun h' tk got keep big => ?_
          refine PyProof.Rows.args_nil ?_
          obtain ⟨l, tl, ml, zl⟩ := got
          have I2 : Inv X pins σ H1 { s1 with heap := h', toks := tk } := I1.kept fun b o e => keep b o (Heap.lt_size e) e
          refine UG.sorted_setT (I2.ok.hd calm) tl (by omega) fun s2 p2 res c ys k2 g2 o2 up at_p ar pm so => ?_
          have pm2 := pm.map fun x => x.cps.toList
          have nd : (l.map fun x => x.cps.toList).Nodup := by
            obtain ⟨_, _, _, _, _, nd, _⟩ := tl.ex
            exact List.Pairwise.map _ (fun x y ne e => ne (Str.ext' (Array.toList_inj.mp e))) nd
          have lt := le_ne_pw (UG.sorted_pw so) (pm2.nodup_iff.mpr nd)
          have e2 : (ys.map fun x => x.cps.toList) = sortD ns := sortD_uniq lt fun z => by
            rw [pm2.mem_iff, List.mem_map]
            constructor
            · rintro ⟨x, hx, rfl⟩
              have := (ml x).mp hx
              rw [List.take_of_length_le (by rw [li, List.length_map]; exact Nat.le_refl _)] at this
              obtain ⟨t, ht, rfl⟩ := List.mem_map.mp this
              exact ht
            · intro hz
              refine ⟨⟨z.toArray⟩, (ml _).mpr ?_, rfl⟩
              rw [List.take_of_length_le (by rw [li, List.length_map]; exact Nat.le_refl _)]
              exact List.mem_map.mpr ⟨z, hz, rfl⟩
          have lys : ys.length ≤ ns.length := by
            have := congrArg List.length e2
            rw [List.length_map] at this
            rw [this]
            exact sortD_few ns
          have r3 := RVs.strs (D := D) (i := i) (H := H1) ys
          rw [e2] at r3
          have hn : H1 p2 = none := I2.hok.fresh up
          have hlen : (ys.map V.str).length ≤ sizeLine := by rw [List.length_map, sizeLine_eq]; omega
          have J : Inv X pins σ (upd H1 p2 (.lst (ys.map V.str))) { s1 with heap := s2.heap, gens := s2.gens, drawn := s2.drawn, toks := s2.toks } :=
            Inv.call (s := { s1 with heap := h', toks := tk }) (ch := []) I2 (Un.laid k2 up hn) (I2.hok.laid k2 up ⟨hlen, res.toList, c, vals_of_strs ar, at_p⟩) (by rw [g2]; exact I2.bare) (fun _ z => nomatch z)
          have e : s2 = { s1 with heap := s2.heap, gens := s2.gens, drawn := s2.drawn, toks := s2.toks } := by
            cases s2
            cases s1
            cases o2
            rfl
          rw [e]
          exact ⟨.ref p2, _, J, rfl, PO2.lst h1 S r3 p2 hn⟩
        · exact h1.elim
      · exact h1.elim
    · exact h1.elim
  | _ => exact h1.elim
theorem se_sset {a : Expr} {c : Env → M MV} {p p2 q pos : Pos} (calm : X.calm = true) (g1 : Gl X "sorted") (m1 : X.mg "sorted" = none) (g2 : Gl X "set") (m2 : X.mg "set" = none) (ha : SE X D a c) (hp : plainE a = true) :
    SE X D (.Call (.Name "sorted" p) [.Call (.Name "set" p2) [a] [] q] [] pos) (fun r m => (c r m).bind fun v m1 => lift (builtin .sset [v] m1)) := by
  refine SE.of (t := fun W => fun σ H Q => tE X D W c σ H fun x H1 => rSset D x H1 Q) (fun W tk => pe_sset calm g1 m1 g2 m2 (ha W tk) (star_cons hp)) fun W σ H Q ⟨i, r, m, S, E, h⟩ => ?_
  refine ⟨i, r, m, S, E, ?_⟩
  dsimp only at h
  cases e1 : c r m with
  | ok v m1 =>
    rw [e1] at h
    dsimp only [R.bind] at h
    intro i' H' x x1 S1 q1
    exact ⟨i', m1, v, S1, q1, Pst.lift (Pst.ext h x1)⟩
  | ex cc fs m1 => rw [e1] at h; exact h
  | fail => rw [e1] at h; exact h
end
end U
end Part_UG4

section Part_U17
set_option Elab.async false
set_option linter.all false
set_option maxRecDepth 100000
set_option maxHeartbeats 4000000
/-! U17: the text's expressions, compiled. -/
namespace U
open PySem PySem.Spec PyProof.Rows L2

def bfn (x : Str) : Option BF :=
  if x = "len" then some .len else if x = "abs" then some .abs else if x = "repr" then some .repr else if x = "sum" then some .sum else if x = "all" then some .all else if x = "any" then some .any else if x = "sorted" then some .sort else none
def bty (x : Str) : Option BF :=
  if x = "str" then some .str else if x = "tuple" then some .tuple else if x = "list" then some .list else if x = "int" then some .int else none
def bmn (x : Str) : Option BM :=
  if x = "append" then some .append else if x = "extend" then some .extend else if x = "join" then some .join else none
def tyn (x : Str) : Option Ty :=
  if x = "int" then some .int else if x = "bool" then some .bool else if x = "str" then some .str else if x = "tuple" then some .tup else if x = "list" then some .lst else if x = "dict" then some .dct else none
section
variable {P : Prg} {X : Cx} {D : Dat} {n : Nat} {cf : CallF} {N : List Str} {sc : Scope} {f : Expr → Option CE}
theorem bfn_ok (E : EC P X D n cf N sc) {x : Str} {b : BF} (h : bfn x = some b) : ∃ id, CallR X (.builtin id) (rBf D b) ∧ bootBuiltins x = some (.builtin id) ∧ x ≠ "__name__" ∧ X.mg x = none := by
  have hK := E.hP.hK
  unfold bfn at h
  split at h
  · rename_i e; subst e; cases h; exact ⟨"len", cr_len hK, by decide +kernel, by decide, E.hP.bl _ (by decide)⟩
  split at h
  · rename_i e; subst e; cases h; exact ⟨"abs", cr_abs, by decide +kernel, by decide, E.hP.bl _ (by decide)⟩
  split at h
  · rename_i e; subst e; cases h; exact ⟨"repr", cr_repr hK E.room.gd E.room.un', by decide +kernel, by decide, E.hP.bl _ (by decide)⟩
  split at h
  · rename_i e; subst e; cases h; exact ⟨"sum", cr_sum_ E.calm, by decide +kernel, by decide, E.hP.bl _ (by decide)⟩
  split at h
  · rename_i e; subst e; cases h; exact ⟨"all", cr_all_ E.calm, by decide +kernel, by decide, E.hP.bl _ (by decide)⟩
  split at h
  · rename_i e; subst e; cases h; exact ⟨"any", cr_any_ E.calm, by decide +kernel, by decide, E.hP.bl _ (by decide)⟩
  split at h
  · rename_i e; subst e; cases h; exact ⟨"sorted", cr_sortT, by decide +kernel, by decide, E.hP.bl _ (by decide)⟩
  · cases h
theorem bty_ok (E : EC P X D n cf N sc) {x : Str} {b : BF} (h : bty x = some b) : ∃ id, CallR X (.type id) (rBf D b) ∧ bootBuiltins x = some (.type id) ∧ x ≠ "__name__" ∧ X.mg x = none := by
  have hK := E.hP.hK
  unfold bty at h
  split at h
  · rename_i e; subst e; cases h; exact ⟨"str", cr_str, by decide +kernel, by decide, E.hP.bl _ (by decide)⟩
  split at h
  · rename_i e; subst e; cases h; exact ⟨"tuple", cr_tuple hK, by decide +kernel, by decide, E.hP.bl _ (by decide)⟩
  split at h
  · rename_i e; subst e; cases h; exact ⟨"list", cr_list hK, by decide +kernel, by decide, E.hP.bl _ (by decide)⟩
  split at h
  · rename_i e; subst e; cases h; exact ⟨"int", cr_int, by decide +kernel, by decide, E.hP.bl _ (by decide)⟩
  · cases h
theorem bmn_ok (hK : X.K = D.K) {x : Str} {b : BM} (h : bmn x = some b) : ∃ id, PlainAttrs (bmTy b) ∧ Slot (bmTy b) x id ∧ typeOf (.builtin id) = pure (.type "method_descriptor") ∧ MtR X id (rBm D b) := by
  unfold bmn at h
  split at h
  · rename_i e; subst e; cases h; exact ⟨_, PySem.F.plainAttrs_list, PySem.F.slot_list_append, PySem.F.type_list_append, mr_append⟩
  split at h
  · rename_i e; subst e; cases h; exact ⟨_, PySem.F.plainAttrs_list, PySem.F.slot_list_extend, PySem.F.type_list_extend, mr_extend⟩
  split at h
  · rename_i e; subst e; cases h; exact ⟨_, PySem.F.plainAttrs_str, PySem.F.slot_str_join, PySem.F.type_str_join, mr_join hK⟩
  · cases h

/-! ### classes that are named -/
def tyOf (P : Prg) (sc : Scope) : Expr → Option Ty
  | .Name x _ => if glB sc x then match ixOf P.cls x with
      | some c => some (.own c)
      | none => tyn x
    else none
  | _ => none
def tysOf (P : Prg) (sc : Scope) : List Expr → Option (List Ty)
  | [] => some []
  | e :: es => match tyOf P sc e, tysOf P sc es with
    | some t, some ts => some (t :: ts)
    | _, _ => none
theorem tyOf_ok (E : EC P X D n cf N sc) {e : Expr} {t : Ty} (h : tyOf P sc e = some t) : TyE X D e t ∧ plainE e = true := by
  unfold tyOf at h
  split at h
  · rename_i x p
    split at h
    · rename_i hg
      obtain ⟨g1, g2⟩ := E.gl hg
      refine ⟨?_, rfl⟩
      split at h
      · rename_i c hc
        cases h
        exact ⟨.ref (D.ca c), pe_glob g1 (E.hP.cl c x (ixOf_at hc)) rfl g2, .own _⟩
      · have blt : ∀ {name : String}, bootBuiltins x = some (.type name) → x ≠ "__name__" → x ∈ bltN → PE X (.Name x p) (tC (.ty name)) := fun {name} h1 h2 h3 => pe_bltn g1 (E.hP.bl _ h3) h1 rfl h2 g2
        unfold tyn at h
        split at h
        · rename_i e; subst e; cases h; exact ⟨_, blt (name := "int") (by decide +kernel) (by decide) (by decide), .ty _⟩
        split at h
        · rename_i e; subst e; cases h; exact ⟨_, blt (name := "bool") (by decide +kernel) (by decide) (by decide), .ty _⟩
        split at h
        · rename_i e; subst e; cases h; exact ⟨_, blt (name := "str") (by decide +kernel) (by decide) (by decide), .ty _⟩
        split at h
        · rename_i e; subst e; cases h; exact ⟨_, blt (name := "tuple") (by decide +kernel) (by decide) (by decide), .ty _⟩
        split at h
        · rename_i e; subst e; cases h; exact ⟨_, blt (name := "list") (by decide +kernel) (by decide) (by decide), .ty _⟩
        split at h
        · rename_i e; subst e; cases h; exact ⟨_, blt (name := "dict") (by decide +kernel) (by decide) (by decide), .ty _⟩
        · cases h
    · cases h
  · cases h
theorem tysOf_ok (E : EC P X D n cf N sc) : ∀ {es : List Expr} {ts : List Ty}, tysOf P sc es = some ts → TyEs X D es ts
  | [], ts, h => by cases h; exact .nil
  | e :: es, ts, h => by
    unfold tysOf at h
    split at h
    · rename_i t ts' h1 h2
      cases h
      obtain ⟨a1, a2⟩ := tyOf_ok E h1
      exact .cons a1 (fun env => star_cons a2) (tysOf_ok E h2)
    · cases h

/-! ### calls -/
def isiC (P : Prg) (sc : Scope) (f : Expr → Option CE) : List Expr → Option CE
  | [a, .Tuple es _ _] => match f a, tysOf P sc es with
    | some c, some ts => if plainE a && (decide (ts ≠ []) && decide (ts.length ≤ 1000)) then some (.isi c ts) else none
    | _, _ => none
  | [a, b] => match f a, tyOf P sc b with
    | some c, some t => if plainE a then some (.isi c [t]) else none
    | _, _ => none
  | _ => none
theorem st_of (hK : X.K = D.K) {e : Expr} {c : Env → M MV} (h : SE X D e c) (he : ∀ whole, isTrue e X.env whole = (do let v ← whole; standAt e.pos; holding [v] (truthy v))) : SE X D e c ∧ ST X D e c := ⟨h, st_plain hK h he⟩
theorem isiC_ok (E : EC P X D n cf N sc) (hg : glB sc "isinstance" = true) (hf : ∀ e c, f e = some c → SE X D e (evE D.T cf c)) {as : List Expr} {c : CE} {p pos : Pos} (h : isiC P sc f as = some c) : SE X D (.Call (.Name "isinstance" p) as [] pos) (evE D.T cf c) := by
  obtain ⟨g1, _⟩ := E.gl hg
  have hm := E.hP.bl "isinstance" (by decide)
  unfold isiC at h
  split at h
  · rename_i a es k pt
    split at h
    · rename_i c1 ts h1 h2
      split at h
      · rename_i hc
        cases h
        simp only [Bool.and_eq_true, decide_eq_true_eq] at hc
        have z := se_isiT (p := p) (pos := pos) (k := k) (pt := pt) E.hP.kit E.hP.hK g1 hm hc.1 (tysOf_ok E h2) hc.2.2 hc.2.1 (hf _ _ h1)
        simpa only [evE] using z
      · cases h
    · cases h
  · rename_i a b hne
    split at h
    · rename_i c1 t h1 h2
      split at h
      · rename_i hc
        cases h
        obtain ⟨t1, t2⟩ := tyOf_ok E h2
        have z := se_isi1 (p := p) (pos := pos) E.hP.kit E.hP.hK g1 hm hc t2 t1 (hf _ _ h1)
        simpa only [evE] using z
      · cases h
    · cases h
  · cases h
/-- sorted(set(e)) -/
def ssetC (sc : Scope) (f : Expr → Option CE) (x : Str) : List Expr → Option CE
  | [.Call (.Name y _) [a] [] _] => if x = "sorted" ∧ y = "set" ∧ glB sc "set" = true ∧ plainE a = true then match f a with
    | some c => some (.blt .sset [c])
    | none => none
    else none
  | _ => none
theorem ssetC_ok (E : EC P X D n cf N sc) {x : Str} (hg : glB sc x = true) (hf : ∀ e c, f e = some c → SE X D e (evE D.T cf c)) {as : List Expr} {c : CE} {p pos : Pos} (h : ssetC sc f x as = some c) : SE X D (.Call (.Name x p) as [] pos) (evE D.T cf c) := by
  unfold ssetC at h
  split at h
  · rename_i y p2 a q
    split at h
    · rename_i hc
      obtain ⟨h1, h2, h3, h4⟩ := hc
      subst h1 h2
      split at h
      · rename_i c1 e1
        cases h
        have z := se_sset (p := p) (p2 := p2) (q := q) (pos := pos) E.calm (E.gl hg).1 (E.hP.bl _ (by decide)) (E.gl h3).1 (E.hP.bl _ (by decide)) (hf _ _ e1) h4
        refine z.congr fun r m => ?_
        rw [evE, evL_cons]
        cases evE D.T cf c1 r m with
        | ok v m1 => rw [bind_ok, bind_ok, evL_nil]; rfl
        | ex cc fs m1 => rfl
        | fail => rfl
      · cases h
    · cases h
  · cases h
def nameC (P : Prg) (sc : Scope) (f : Expr → Option CE) (x : Str) (as : List Expr) (kws : List Keyword) : Option CE :=
  if glB sc x then match ixOf P.fns x with
    | some g => match exprs f as, kwds f kws, shOf P.sh g as.length (kws.filterMap (·.arg)) with
      | some cs, some ds, some ix => some (.call g ix (cs ++ ds))
      | _, _, _ => none
    | none => match ixOf P.cls x with
      | some c => if as.isEmpty && (kws.isEmpty && P.new0.contains c) then some (.new c [] []) else
        match exprs f as, kwds f kws, shOf P.shN c as.length (kws.filterMap (·.arg)) with
        | some cs, some ds, some ix => some (.new c ix (cs ++ ds))
        | _, _, _ => none
      | none => match kws with
        | [] => if x = "isinstance" then isiC P sc f as else match ssetC sc f x as with
          | some c => some c
          | none => match exprs f as with
            | some (c :: cs) => match bfn x with
              | some b => some (.blt b (c :: cs))
              | none => match bty x with
                | some b => some (.blt b (c :: cs))
                | none => none
            | _ => none
        | [k] => if x = "max" ∧ k.arg = some kD then match as with
          | [e] => if plainE e then match exprs f [e], kwds f [k] with
            | some cs, some ds => some (.blt .maxd (cs ++ ds))
            | _, _ => none
            else none
          | _ => none
          else none
        | _ => none
  else none
theorem nameC_ok (E : EC P X D n cf N sc) (hf : ∀ e c, f e = some c → SE X D e (evE D.T cf c)) {x : Str} {as : List Expr} {kws : List Keyword} {c : CE} {p pos : Pos} (h : nameC P sc f x as kws = some c) : SE X D (.Call (.Name x p) as kws pos) (evE D.T cf c) := by
  unfold nameC at h
  split at h
  · rename_i hg
    obtain ⟨g1, g2⟩ := E.gl hg
    split at h
    · rename_i g eg
      split at h
      · rename_i cs ds ix h1 h2 h3
        cases h
        obtain ⟨a1, a2, a3⟩ := exprs_ok hf h1
        obtain ⟨b1, b2, b3⟩ := kwds_ok hf h2
        obtain ⟨a, fd, ps, f1, f2, f3, f4⟩ := E.hP.fn g x (ixOf_at eg)
        have z := se_call (p := p) (pos := pos) f3 (f4 _ _ _ (shOf_mem h3)) E.room.g g1 f1 f2 g2 a1 b1 a2 b2 (fun r m vs m' e => (evL_len e).trans a3) (fun r m vs m' e => (evL_len e).trans b3) (fun e r m => by
          subst e
          cases h1
          exact evL_nil)
        exact z.congr fun r m => by rw [evE, evL_append]
      · cases h
    · split at h
      · rename_i c eg
        split at h
        · rename_i he
          cases h
          simp only [Bool.and_eq_true, List.isEmpty_iff, List.contains_iff_mem] at he
          obtain ⟨e1, e2, e3⟩ := he
          subst e1 e2
          obtain ⟨m1, m2⟩ := E.hP.nw0 c x (ixOf_at eg) e3
          have z := se_new0 (p := p) (pos := pos) (cf := cf) (fun c => E.hP.A.len c) m1 m2 g1 (E.hP.cl c x (ixOf_at eg)) g2
          exact z.congr fun r m => by rw [evE, evL_nil, bind_ok]; rfl
        · split at h
          · rename_i cs ds ix h1 h2 h3
            cases h
            obtain ⟨a1, a2, a3⟩ := exprs_ok hf h1
            obtain ⟨b1, b2, b3⟩ := kwds_ok hf h2
            have z := se_new (p := p) (pos := pos) (E.hP.nw c x _ _ _ (ixOf_at eg) (shOf_mem h3)) E.room g1 (E.hP.cl c x (ixOf_at eg)) g2 a1 b1 a2 b2 (fun r m vs m' e => (evL_len e).trans a3) (fun r m vs m' e => (evL_len e).trans b3) (fun e r m => by
              subst e
              cases h1
              exact evL_nil)
            exact z.congr fun r m => by rw [evE, evL_append]
          · cases h
      · split at h
        · split at h
          · rename_i ex
            subst ex
            exact isiC_ok E hg hf h
          split at h
          · rename_i c1 e1
            cases h
            exact ssetC_ok E hg hf e1
          · split at h
            · rename_i c cs h1
              obtain ⟨a1, a2, a3⟩ := exprs_ok hf h1
              obtain ⟨e, es, rfl⟩ : ∃ e es, as = e :: es := by
                cases as with
                | nil => cases h1
                | cons e es => exact ⟨e, es, rfl⟩
              split at h
              · rename_i b hb
                cases h
                obtain ⟨id, c1, c2, c3, c4⟩ := bfn_ok E hb
                have z := se_blt (p := p) (pos := pos) c1 g1 c4 c2 c3 g2 a1 (fun r m vs m' e => (evL_len e).trans a3) a2
                exact z.congr fun r m => by rw [evE]
              · split at h
                · rename_i b hb
                  cases h
                  obtain ⟨id, c1, c2, c3, c4⟩ := bty_ok E hb
                  have z := se_bty (p := p) (pos := pos) c1 g1 c4 c2 c3 g2 a1 (fun r m vs m' e => (evL_len e).trans a3) a2
                  exact z.congr fun r m => by rw [evE]
                · cases h
            · cases h
        · rename_i k
          split at h
          · rename_i hx
            obtain ⟨hx1, hx2⟩ := hx
            subst hx1
            split at h
            · rename_i e
              split at h
              · rename_i hpl
                split at h
                · rename_i cs ds h1 h2
                  cases h
                  obtain ⟨a1, a2, a3⟩ := exprs_ok hf h1
                  obtain ⟨b1, b2, b3⟩ := kwds_ok hf h2
                  obtain ⟨ka, kv, kp⟩ := k
                  have hx2' : ka = some kD := hx2
                  subst hx2'
                  have z := se_maxd (p := p) (pos := pos) E.calm E.room.un' g1 (E.hP.bl _ (by decide)) hpl a2 b2 (fun r m vs m' e => (evL_len e).trans a3) (fun r m vs m' e => (evL_len e).trans b3)
                  exact z.congr fun r m => by rw [evE, evL_append]
                · cases h
              · cases h
            · cases h
          · cases h
        · cases h
  · cases h
def methC (P : Prg) (f : Expr → Option CE) (o : Expr) (name : Str) (apos : Pos) (as : List Expr) (kws : List Keyword) (pos : Pos) : Option CE :=
  if plainBase o && (apos.endLine == pos.line && decide (as.length + kws.length < 20)) then match f o with
    | none => none
    | some oc => match bmn name with
      | some b => match kws, exprs f as with
        | [], some (c :: cs) => some (.bm oc b (c :: cs))
        | _, _ => none
      | none => match ixOf P.mth name with
        | some mm => match exprs f as, kwds f kws, shOf P.shM mm as.length (kws.filterMap (·.arg)) with
          | some cs, some ds, some ix => some (.meth oc mm ix (cs ++ ds))
          | _, _, _ => none
        | none => none
  else none
theorem methC_ok (E : EC P X D n cf N sc) (hf : ∀ e c, f e = some c → SE X D e (evE D.T cf c)) {o : Expr} {name : Str} {as : List Expr} {kws : List Keyword} {c : CE} {apos pos : Pos} (h : methC P f o name apos as kws pos = some c) : SE X D (.Call (.Attribute o name apos) as kws pos) (evE D.T cf c) := by
  unfold methC at h
  split at h
  · rename_i hc
    simp only [Bool.and_eq_true, decide_eq_true_eq] at hc
    obtain ⟨hb, hl, hw⟩ := hc
    split at h
    · cases h
    · rename_i oc ho
      split at h
      · rename_i b hbm
        split at h
        · rename_i c cs h1
          cases h
          obtain ⟨a1, a2, a3⟩ := exprs_ok hf h1
          obtain ⟨e, es, rfl⟩ : ∃ e es, as = e :: es := by
            cases as with
            | nil => cases h1
            | cons e es => exact ⟨e, es, rfl⟩
          obtain ⟨id, d1, d2, d3, d4⟩ := bmn_ok E.hP.hK hbm
          have z := se_bm E.hP.hK d1 d2 d3 d4 hb hl a1 (by simpa using hw) (fun r m vs m' e => (evL_len e).trans a3) (hf _ _ ho) a2
          exact z.congr fun r m => by rw [evE]
        · cases h
      · split at h
        · rename_i mm hmm
          split at h
          · rename_i cs ds ix h1 h2 h3
            cases h
            obtain ⟨a1, a2, a3⟩ := exprs_ok hf h1
            obtain ⟨b1, b2, b3⟩ := kwds_ok hf h2
            have z := se_meth (E.hP.mt mm name _ _ _ (ixOf_at hmm) (shOf_mem h3)) E.room.g hb hl hw a1 b1 (hf _ _ ho) a2 b2 (fun r m vs m' e => (evL_len e).trans a3) (fun r m vs m' e => (evL_len e).trans b3) (fun e r m => by
              subst e
              cases h1
              exact evL_nil)
            exact z.congr fun r m => by
              rw [evE]
              simp only [evL_append]
          · cases h
        · cases h
  · cases h
end
end U
end Part_U17

section Part_U18
set_option Elab.async false
set_option linter.all false
set_option maxRecDepth 100000
set_option maxHeartbeats 4000000
/-! U18: all expressions, compiled. -/
namespace U
open PySem PySem.Spec PyProof.Rows L2
def optC (f : Expr → Option CE) : Option Expr → Option (List CE)
  | none => some []
  | some e => match f e with
    | some c => some [c]
    | none => none
def isTp : Expr → Bool
  | .Tuple _ _ _ => true
  | _ => false
theorem isTp_ok {e : Expr} (h : isTp e = true) : ∃ es k p, e = .Tuple es k p := by
  cases e with
  | Tuple es k p => exact ⟨es, k, p, rfl⟩
  | _ => cases h
def srcC (sc : Scope) (f : Expr → Option CE) (tp : Bool) : Expr → Option CI
  | .Call (.Name x p) as [] pos => if x = "range" then
      if glB sc x then match as with
        | [a] => if plainE a then (f a).map .rng1 else none
        | [a, b] => if plainE a && plainE b then match f a, f b with
          | some c, some d => some (.rng2 c d)
          | _, _ => none
          else none
        | _ => none
      else none
    else if x = "enumerate" then
      if glB sc x && tp then match as with
        | [a] => if plainE a then (f a).map .enum else none
        | _ => none
      else none
    else (f (.Call (.Name x p) as [] pos)).map .of
  | e => if plainE e then (f e).map .of else none
def lcX (N : List Str) (sc : Scope) (f : Scope → Expr → Option CE) (elt : Expr) (gs : List Comprehension) (scope : Scope) : Option CE := match gs with
  | [⟨.Name x _, iter, ifs, 0⟩] => match ixOf N x with
    | some k => if blkB N sc scope x k && (locB (relS scope sc) x && ((scope.names.lookup x == some .cell) || decide ((relS scope sc).names.lookup x = some .local)) && plainE iter) then
        match srcC sc (f sc) false iter, f (relS scope sc) elt with
        | some src, some c => match ifs with
          | [] => some (.lc c k src [])
          | [i] => match f (relS scope sc) i with
            | some d => some (.lc c k src [d])
            | none => none
          | _ => none
        | _, _ => none
      else none
    | none => none
  | _ => none
/-- a table's key: in it, or not -/
def dinC (P : Prg) (N : List Str) (sc : Scope) (op : CmpOp) (c : CE) : Expr → Option CE
  | .Name x _ => if glB sc x && (ixOf N x).isNone then match ixOf P.dcs x, op with
    | some k, .In => some (.din false c k)
    | some k, .NotIn => some (.din true c k)
    | _, _ => none
    else none
  | _ => none
/-- a table's value -/
def dixC (P : Prg) (N : List Str) (sc : Scope) (c : CE) : Expr → Option CE
  | .Name x _ => if glB sc x && (ixOf N x).isNone then (ixOf P.dcs x).map fun k => .dix k c else none
  | _ => none
/-- an f-text -/
def fstrC (f : Expr → Option CE) : List Expr → Option (List CE)
  | [] => some []
  | .Constant (.str s) _ _ :: r => if s.length ≤ line then (fstrC f r).map (.str s.cps.toList :: ·) else none
  | .FormattedValue e (-1) none _ :: r => match f e, fstrC f r with
    | some c, some cs => some (c :: cs)
    | _, _ => none
  | _ => none
def compE (P : Prg) (N : List Str) : Nat → Scope → Expr → Option CE
  | 0, _, _ => none
  | n + 1, sc, e => match e with
    | .Constant (.int i) _ _ => some (.int i)
    | .Constant (.bool b) _ _ => some (.bl b)
    | .Constant .none _ _ => some .non
    | .Constant (.str s) _ _ => some (.str s.cps.toList)
    | .Name x _ => match ixOf N x with
      | some k => if visB sc x && okN x then some (.var k) else none
      | none => if glB sc x then (ixOf P.con x).map .con else none
    | .BinOp a op b _ => match compE P N n sc a, compE P N n sc b with
      | some c, some d => some (.bin op c d)
      | _, _ => none
    | .UnaryOp .Not a _ => (compE P N n sc a).map .not
    | .UnaryOp .USub a _ => (compE P N n sc a).map .neg
    | .Compare a [op] [b] _ => if behindInMarks op b then none else match compE P N n sc a, compE P N n sc b with
      | some c, some d => some (.cmp op c d)
      | some c, none => dinC P N sc op c b
      | _, _ => none
    | .Compare a [o, p] [b, c] _ => if lastMarks [o, p] [b, c] then none else match compE P N n sc a, compE P N n sc b, compE P N n sc c with
      | some x, some y, some z => some (.chain o p x y z)
      | _, _, _ => none
    | .BoolOp op es _ => boolC (compE P N n sc) op es
    | .IfExp t a b _ => match compE P N n sc t, compE P N n sc a, compE P N n sc b with
      | some x, some y, some z => some (.ife x y z)
      | _, _, _ => none
    | .Call (.Name x _) as kws _ => nameC P sc (compE P N n sc) x as kws
    | .Call (.Attribute o name apos) as kws pos => methC P (compE P N n sc) o name apos as kws pos
    | .Attribute o name _ => if plainBase o then match compE P N n sc o, ixOf P.fld name with
      | some c, some k => some (.fld c k)
      | _, _ => none
      else none
    | .Subscript o (.Slice lo hi none _) _ => match compE P N n sc o, optC (compE P N n sc) lo, optC (compE P N n sc) hi with
      | some c, some l, some h => some (.slc c l h)
      | _, _, _ => none
    | .Subscript o (.Slice none none (some (.UnaryOp .USub (.Constant (.int 1) _ _) _)) _) _ => (compE P N n sc o).map .rev
    | .Subscript o i _ => if plainE i then match compE P N n sc o, compE P N n sc i with
      | some c, some d => some (.idx c d)
      | none, some d => dixC P N sc d o
      | _, _ => none
      else none
    | .List es _ => (exprs (compE P N n sc) es).map .lst
    | .Tuple es _ _ => (exprs (compE P N n sc) es).map .tup
    | .JoinedStr (v1 :: v2 :: vs) _ => (fstrC (compE P N n sc) (v1 :: v2 :: vs)).map .fstr
    | .ListComp elt gs scope _ => lcX N sc (compE P N n) elt gs scope
    | _ => none
section
variable {P : Prg} {X : Cx} {D : Dat} {n : Nat} {cf : CallF} {N : List Str} {sc : Scope}
theorem optC_ok {f : Expr → Option CE} (hf : ∀ e c, f e = some c → SE X D e (evE D.T cf c)) {o : Option Expr} {cs : List CE} (h : optC f o = some cs) : SO X D o (evL D.T cf cs) := by
  cases o with
  | none =>
    cases h
    have e : evL D.T cf [] = fun _ m => R.ok [] m := funext fun r => funext fun m => evL_nil
    rw [e]
    exact .non
  | some e =>
    unfold optC at h
    dsimp only at h
    split at h
    · rename_i c hc
      cases h
      have e2 : evL D.T cf [c] = fun r m => (evE D.T cf c r m).bind fun v m1 => (R.ok [] m1).bind fun vs m2 => .ok (v :: vs) m2 := funext fun r => funext fun m => by
        rw [evL_cons]
        simp only [evL_nil]
      rw [e2]
      exact .som (hf _ _ hc)
    · cases h
theorem SI.congr {tg it : Expr} {c c' : Env → M Walked} (h : SI X D tg it c) (hc : ∀ r m, c' r m = c r m) : SI X D tg it c' := by
  have e1 : c' = c := funext fun r => funext fun m => hc r m
  rw [e1]
  exact h
theorem srcC_ok {f : Expr → Option CE} (E : EC P X D n cf N sc) (hf : ∀ e c, f e = some c → SE X D e (evE D.T cf c)) {tg it : Expr} {ci : CI} {tp : Bool} (htp : tp = true → isTp tg = true) (h : srcC sc f tp it = some ci) : SI X D tg it (evI D.T cf ci) := by
  have of_ : ∀ {e : Expr} {ci : CI}, (f e).map CI.of = some ci → SI X D tg e (evI D.T cf ci) := fun {e ci} h => by
    cases e1 : f e with
    | none => rw [e1] at h; cases h
    | some c =>
      rw [e1] at h
      cases h
      exact (si_of E.hP.hK (hf _ _ e1)).congr fun r m => by rw [evI]
  unfold srcC at h
  split at h
  · rename_i x p as pos
    split at h
    · rename_i ex
      subst ex
      split at h
      · rename_i hg
        obtain ⟨g1, _⟩ := E.gl hg
        have hm := E.hP.bl "range" (by decide)
        split at h
        · rename_i a
          split at h
          · rename_i hp
            cases e1 : f a with
            | none => rw [e1] at h; cases h
            | some c =>
              rw [e1] at h
              cases h
              exact (si_rng1 g1 hm hp (hf _ _ e1)).congr fun r m => by rw [evI]
          · cases h
        · rename_i a b
          split at h
          · rename_i hp
            rw [Bool.and_eq_true] at hp
            split at h
            · rename_i c d e1 e2
              cases h
              exact (si_rng2 g1 hm hp.1 hp.2 (hf _ _ e1) (hf _ _ e2)).congr fun r m => by rw [evI]
            · cases h
          · cases h
        · cases h
      · cases h
    · split at h
      · rename_i ex
        subst ex
        split at h
        · rename_i hg
          rw [Bool.and_eq_true] at hg
          obtain ⟨g1, _⟩ := E.gl hg.1
          obtain ⟨es, kk, tpos, rfl⟩ := isTp_ok (htp hg.2)
          split at h
          · rename_i a
            split at h
            · rename_i hp
              cases e1 : f a with
              | none => rw [e1] at h; cases h
              | some c =>
                rw [e1] at h
                cases h
                exact (si_enum E.hP.hK g1 (E.hP.bl "enumerate" (by decide)) hp (hf _ _ e1)).congr fun r m => by rw [evI]
            · cases h
          · cases h
        · cases h
      · exact of_ h
  · split at h
    · exact of_ h
    · cases h
theorem folded_no {e : Expr} (h : plainE e = true) (env : PySem.Env) : ∀ x, foldedSetIterable e env x = pure x := by
  intro x
  cases e <;> first
    | rfl
    | cases h
/-- what a compiled comprehension is -/
structure LcP (X : Cx) (D : Dat) (cf : CallF) (elt : Expr) (gs : List Comprehension) (scope : Scope) (c : CE) : Prop where
  ex : ∃ (x : Str) (tp : Pos) (iter : Expr) (ifs : List Expr) (k : Nat) (ci : Env → M Walked) (ct ce : Env → M MV), gs = [⟨.Name x tp, iter, ifs, 0⟩] ∧ SI X D (.Name x tp) iter ci ∧ BlkOk X.N X.env.scope scope [(x, k)] ∧ X.N[k]? = some x ∧ L2.Loc (relS scope X.env.scope) x ∧
    ((scope.names.lookup x == some .cell) = true ∨ (relS scope X.env.scope).names.lookup x = some .local) ∧ (∀ s H C cl fp, STs (blkX X s H scope cl C fp) D ifs ct) ∧ (∀ s H C cl fp, SE (blkX X s H scope cl C fp) D elt ce) ∧ (∀ x, foldedSetIterable iter X.env x = pure x) ∧ ∀ r m, evE D.T cf c r m = lcC k ci ct ce r m
theorem lcX_ok {f : Scope → Expr → Option CE} (E : EC P X D n cf N sc) (hf : ∀ sc e c X, EC P X D n cf N sc → f sc e = some c → SE X D e (evE D.T cf c) ∧ ST X D e (evE D.T cf c)) {elt : Expr} {gs : List Comprehension} {scope : Scope} {c : CE} (h : lcX N sc f elt gs scope = some c) :
    LcP X D cf elt gs scope c := by
  unfold lcX at h
  split at h
  · rename_i x tp iter ifs
    split at h
    · rename_i k ek
      split at h
      · rename_i hc
        simp only [Bool.and_eq_true, Bool.or_eq_true, decide_eq_true_eq] at hc
        obtain ⟨h1, ⟨h2, h3⟩, h4⟩ := hc
        have ok : BlkOk X.N X.env.scope scope [(x, k)] := by rw [E.hN, E.hs]; exact blkB_ok h1
        have hk : X.N[k]? = some x := by rw [E.hN]; exact ixOf_at ek
        have hx : L2.Loc (relS scope X.env.scope) x := by rw [E.hs]; exact locB_ok h2
        have hfn : (scope.names.lookup x == some .cell) = true ∨ (relS scope X.env.scope).names.lookup x = some .local := by rw [E.hs]; exact h3
        have hB := fun s H C cl fp => E.blk s H scope cl C fp
        split at h
        · rename_i src c1 e1 e2
          have hi : SI X D (.Name x tp) iter (evI D.T cf src) := srcC_ok E (fun e c z => (hf sc e c X E z).1) (by intro z; cases z) e1
          have he : ∀ s H C cl fp, SE (blkX X s H scope cl C fp) D elt (evE D.T cf c1) := fun s H C cl fp => (hf _ _ _ _ (hB s H C cl fp) e2).1
          split at h
          · cases h
            exact ⟨x, tp, iter, _, k, _, _, _, rfl, hi, ok, hk, hx, hfn, fun s H C cl fp => sts_nil, he, folded_no h4 _, fun r m => by rw [evE]; rfl⟩
          · rename_i i
            split at h
            · rename_i d e3
              cases h
              exact ⟨x, tp, iter, _, k, _, _, _, rfl, hi, ok, hk, hx, hfn, fun s H C cl fp => sts_one takes_blk (hf _ _ _ _ (hB s H C cl fp) e3).2, he, folded_no h4 _, fun r m => by rw [evE]; rfl⟩
            · cases h
          · cases h
        · cases h
      · cases h
    · cases h
  · cases h
theorem lcP_se (E : EC P X D n cf N sc) {elt : Expr} {gs : List Comprehension} {scope : Scope} {pos : Pos} {c : CE} (h : LcP X D cf elt gs scope c) : SE X D (.ListComp elt gs scope pos) (evE D.T cf c) := by
  obtain ⟨x, tp, iter, ifs, k, ci, ct, ce, rfl, hi, ok, hk, hx, hfn, ht, he, hs, hc⟩ := h.ex
  exact (se_lc E.calm (by rw [E.hN]; exact E.nd) hi ok hk hx hfn ht he hs).congr hc
theorem se_int {i : Int} {j : Nat} {pos : Pos} : SE X D (.Constant (.int i) j pos) (evE D.T cf (.int i)) := (se_pure pe_int fun _ _ => .int i).congr fun r m => by rw [evE]
theorem fstrC_ok {f : Expr → Option CE} (hf : ∀ e c, f e = some c → SE X D e (evE D.T cf c)) : ∀ {es : List Expr} {cs : List CE}, fstrC f es = some cs → FP X D D.T cf es cs
  | [], cs, h => by
    cases h
    exact .nil
  | ex :: es, cs, h => by
    unfold fstrC at h
    split at h
    · rename_i er
      cases er
    · rename_i s k p r er
      cases er
      split at h
      · rename_i hl
        cases e1 : fstrC f es with
        | none => rw [e1] at h; cases h
        | some cs' =>
          rw [e1] at h
          cases h
          exact .lit hl (fstrC_ok hf e1)
      · cases h
    · rename_i e p r er
      cases er
      split at h
      · rename_i c cs' e1 e2
        cases h
        exact .arg (hf _ _ e1) (fstrC_ok hf e2)
      · cases h
    · cases h
theorem dinC_ok (E : EC P X D n cf N sc) {op : CmpOp} {a b : Expr} {c c' : CE} {pos : Pos} (ha : SE X D a (evE D.T cf c)) (h : dinC P N sc op c b = some c') : SE X D (.Compare a [op] [b] pos) (evE D.T cf c') ∧ ST X D (.Compare a [op] [b] pos) (evE D.T cf c') := by
  unfold dinC at h
  split at h
  · rename_i x p
    split at h
    · rename_i hg
      rw [Bool.and_eq_true] at hg
      obtain ⟨g1, g2⟩ := E.gl hg.1
      split at h
      · rename_i k ek
        cases h
        obtain ⟨d, h1, h2⟩ := E.hP.dc k x (ixOf_at ek)
        exact ⟨(se_din h2 g1 h1 g2 ha).congr fun r m => by rw [evE], (st_din h2 g1 h1 g2 ha).congr fun r m => by rw [evE]⟩
      · rename_i k ek
        cases h
        obtain ⟨d, h1, h2⟩ := E.hP.dc k x (ixOf_at ek)
        exact ⟨(se_ndin h2 g1 h1 g2 ha).congr fun r m => by rw [evE], (st_ndin h2 g1 h1 g2 ha).congr fun r m => by rw [evE]⟩
      · cases h
    · cases h
  · cases h
theorem dixC_ok (E : EC P X D n cf N sc) {a b : Expr} {c c' : CE} {pos : Pos} (hp : PlainIx a) (ha : SE X D a (evE D.T cf c)) (h : dixC P N sc c b = some c') : SE X D (.Subscript b a pos) (evE D.T cf c') := by
  unfold dixC at h
  split at h
  · rename_i x p
    split at h
    · rename_i hg
      rw [Bool.and_eq_true] at hg
      obtain ⟨g1, g2⟩ := E.gl hg.1
      cases ek : ixOf P.dcs x with
      | none => rw [ek] at h; cases h
      | some k =>
        rw [ek] at h
        cases h
        obtain ⟨d, h1, h2⟩ := E.hP.dc k x (ixOf_at ek)
        exact (se_dix h2 g1 h1 g2 hp ha).congr fun r m => by rw [evE]
    · cases h
  · cases h
theorem compE_ok : ∀ (k : Nat) (sc : Scope) (e : Expr) (c : CE) (X : Cx), EC P X D n cf N sc → compE P N k sc e = some c → SE X D e (evE D.T cf c) ∧ ST X D e (evE D.T cf c)
  | 0, sc, e, c, X, E, h => by cases h
  | k + 1, sc, e, c, X, E, h => by
    have hK := E.hP.hK
    have hu := E.room.un'
    have ih := compE_ok k
    have hf : ∀ e c, compE P N k sc e = some c → SE X D e (evE D.T cf c) := fun e c z => (ih sc e c X E z).1
    unfold compE at h
    split at h
    · cases h
      exact st_of hK ((se_pure pe_int fun _ _ => .int _).congr fun r m => by rw [evE]) fun _ => rfl
    · cases h
      exact st_of hK ((se_pure pe_bl fun _ _ => .bl _).congr fun r m => by rw [evE]) fun _ => rfl
    · cases h
      exact st_of hK ((se_pure pe_non fun _ _ => .non).congr fun r m => by rw [evE]) fun _ => rfl
    · cases h
      exact st_of hK ((se_pure pe_str fun _ _ => .str _).congr fun r m => by rw [evE]) fun _ => rfl
    · rename_i x p
      split at h
      · rename_i j ej
        split at h
        · rename_i hc
          cases h
          rw [Bool.and_eq_true] at hc
          have h2 := hc.2
          unfold okN at h2
          simp only [Bool.and_eq_true, Bool.not_eq_true'] at h2
          have z := se_var (D := D) (pos := p) (show X.N[j]? = some x by rw [E.hN]; exact ixOf_at ej) (by rw [E.hs]; exact visB_ok hc.1) h2.1 h2.2
          exact st_of hK (z.congr fun r m => by rw [evE]) fun _ => rfl
        · cases h
      · split at h
        · rename_i hg
          cases ej : ixOf P.con x with
          | none => rw [ej] at h; cases h
          | some j =>
            rw [ej] at h
            cases h
            obtain ⟨g1, g2⟩ := E.gl hg
            obtain ⟨v, u, h1, h2, h3⟩ := E.hP.cn j x (ixOf_at ej)
            exact st_of hK ((se_pure (pe_glob g1 h1 h2 g2) h3).congr fun r m => by rw [evE]) fun _ => rfl
        · cases h
    · split at h
      · rename_i c1 d1 h1 h2
        cases h
        exact st_of hK ((se_bin hK (hf _ _ h1) (hf _ _ h2)).congr fun r m => by rw [evE]) fun _ => rfl
      · cases h
    · rename_i a p
      cases e1 : compE P N k sc a with
      | none => rw [e1] at h; cases h
      | some c1 =>
        rw [e1] at h
        cases h
        obtain ⟨a1, a2⟩ := ih sc a c1 X E e1
        exact ⟨(se_not hK a1).congr fun r m => by rw [evE], (st_not a2).congr fun r m => by rw [evE]⟩
    · rename_i a p
      cases e1 : compE P N k sc a with
      | none => rw [e1] at h; cases h
      | some c1 =>
        rw [e1] at h
        cases h
        exact st_of hK ((se_neg (hf _ _ e1)).congr fun r m => by rw [evE]) fun _ => rfl
    · split at h
      · cases h
      · rename_i hm
        split at h
        · rename_i c1 d1 h1 h2
          cases h
          have hm' := Bool.eq_false_iff.mpr hm
          exact ⟨(se_cmp hK hu hm' (hf _ _ h1) (hf _ _ h2)).congr fun r m => by rw [evE], (st_cmp hK hu hm' (hf _ _ h1) (hf _ _ h2)).congr fun r m => by rw [evE]⟩
        · rename_i c1 h1 h2
          exact dinC_ok E (hf _ _ h1) h
        · cases h
    · split at h
      · cases h
      · rename_i hm
        split at h
        · rename_i x y z h1 h2 h3
          cases h
          have hm' := Bool.eq_false_iff.mpr hm
          exact ⟨(se_chain hK hu hm' (hf _ _ h1) (hf _ _ h2) (hf _ _ h3)).congr fun r m => by rw [evE], (st_chain hK hu hm' (hf _ _ h1) (hf _ _ h2) (hf _ _ h3)).congr fun r m => by rw [evE]⟩
        · cases h
    · obtain ⟨a1, a2⟩ := boolC_ok hK (fun e c z => ih sc e c X E z) h
      exact ⟨a1, a2.st⟩
    · split at h
      · rename_i x y z h1 h2 h3
        cases h
        obtain ⟨a1, a2⟩ := ih sc _ _ X E h1
        obtain ⟨b1, b2⟩ := ih sc _ _ X E h2
        obtain ⟨c1, c2⟩ := ih sc _ _ X E h3
        exact ⟨(se_ife a2 b1 c1).congr fun r m => by rw [evE], (st_ife a2 b2 c2).congr fun r m => by rw [evE]⟩
      · cases h
    · exact st_of hK (nameC_ok E hf h) fun _ => rfl
    · exact st_of hK (methC_ok E hf h) fun _ => rfl
    · rename_i o name p
      split at h
      · rename_i hb
        split at h
        · rename_i c1 j h1 h2
          cases h
          have e1 : P.fldN j = name := by
            unfold Prg.fldN
            rw [ixOf_at h2]
            rfl
          have z := se_fld (pos := p) (f := j) hK E.hP.A hb (hf _ _ h1)
          rw [e1] at z
          exact st_of hK (z.congr fun r m => by rw [evE]) fun _ => rfl
        · cases h
      · cases h
    · split at h
      · rename_i c1 l1 l2 h1 h2 h3
        cases h
        exact st_of hK ((se_slc hK (hf _ _ h1) (optC_ok hf h2) (optC_ok hf h3)).congr fun r m => by rw [evE]) fun _ => rfl
      · cases h
    · rename_i o k2 p1 p2 p3 p4
      cases e1 : compE P N k sc o with
      | none => rw [e1] at h; cases h
      | some c1 =>
        rw [e1] at h
        cases h
        exact st_of hK ((se_rev hK (hf _ _ e1)).congr fun r m => by rw [evE]) fun _ => rfl
    · split at h
      · rename_i hp
        split at h
        · rename_i c1 d1 h1 h2
          cases h
          exact st_of hK ((se_idx hK (plain_ix hp) (hf _ _ h1) (hf _ _ h2)).congr fun r m => by rw [evE]) fun _ => rfl
        · rename_i d1 h1 h2
          exact st_of hK (dixC_ok E (plain_ix hp) (hf _ _ h2) h) fun _ => rfl
        · cases h
      · cases h
    · rename_i es p
      cases e1 : exprs (compE P N k sc) es with
      | none => rw [e1] at h; cases h
      | some cs =>
        rw [e1] at h
        cases h
        obtain ⟨a1, a2, a3⟩ := exprs_ok hf e1
        exact st_of hK ((se_lst (fun r m vs m' e => (evL_len e).trans a3) a2).congr fun r m => by rw [evE]) fun _ => rfl
    · rename_i es j p
      cases e1 : exprs (compE P N k sc) es with
      | none => rw [e1] at h; cases h
      | some cs =>
        rw [e1] at h
        cases h
        obtain ⟨a1, a2, a3⟩ := exprs_ok hf e1
        exact st_of hK ((se_tup (fun r m vs m' e => (evL_len e).trans a3) a2).congr fun r m => by rw [evE]) fun _ => rfl
    · rename_i v1 v2 vs p
      cases e1 : fstrC (compE P N k sc) (v1 :: v2 :: vs) with
      | none => rw [e1] at h; cases h
      | some cs =>
        rw [e1] at h
        cases h
        exact st_of hK (se_fstr (fstrC_ok hf e1)) fun _ => rfl
    · exact st_of hK (lcP_se E (lcX_ok E (fun sc e c X E' z => ih sc e c X E' z) h)) fun _ => rfl
    · cases h
end
end U
end Part_U18

section Part_UX
set_option Elab.async false
set_option linter.all false
set_option maxRecDepth 100000
set_option maxHeartbeats 4000000
/-! UX: exceptions are raised and taken. -/
namespace U
open PySem PySem.Spec PyProof.Rows L2
section
variable {X : Cx} {D : Dat} {e : Expr} {es : List Expr} {cl : Env → M (List MV)} {pos p pos' : Pos} {x : Str} {c : Nat}
theorem Vals.len' {vs : List V} {us : List MV} {i : List Addr} {H : Hp} {D : Dat} (r : RVs D i H vs us) {n : Nat} (h : us.length = n) : vs.length = n := by rw [r.length]; exact h
theorem ss_raise0 (hc : X.calm = true) (F : Ex0 X.K (D.ca c)) (hg : Gl X x) (hm : X.mg x = some (.ref (D.ca c))) (hdb : (x == ("__debug__" : Str)) = false) (hp : (e :: es).all plainE = true) (ha : SL X D (e :: es) cl)
    (hl : ∀ r m vs m', cl r m = .ok vs m' → vs.length = (e :: es).length) (hz : (e :: es).length < 1000) :
    SS X D (.Raise (some (.Call (.Name x p) (e :: es) [] pos)) none pos') (fun r m => match cl r m with
      | .ok _ m1 => .ex c [] r m1
      | .ex d fs m1 => .ex d fs r m1
      | .fail => .fail) := by
  obtain ⟨bmB, B, newId, initId, FB, q⟩ := F.made
  refine SS.of (t := fun W => fun _ σ H => tL X D W cl σ H fun vs H1 => vs.length ≤ sizeLine ∧ W (.ref (D.ca c)) none σ H1) (fun W tk => ps_raise hc tk (pmk_ownA FB q hm F.kp (raises_own F.sub F.ty) hg (ha W tk) hdb ?he ?hpl)) fun W En σ H ⟨i, r, m, S, E, h⟩ => ?_
  case he => exact star_cons (by rw [List.all_cons, Bool.and_eq_true] at hp; exact hp.1)
  case hpl => exact star_none (by rw [List.all_cons, Bool.and_eq_true] at hp; exact hp.2)
  refine ⟨i, r, m, S, E, ?_⟩
  dsimp only at h
  cases e1 : cl r m with
  | ok vs m1 =>
    rw [e1] at h
    exact fun i' H' xs e2 S1 q => ⟨by rw [sizeLine_eq, Vals.len' q (hl _ _ _ _ e1)]; omega, h i' H' σ _ _ e2 S1 (E.ext e2) ⟨rfl, .inl ⟨rfl, rfl⟩⟩⟩
  | ex d fs m1 =>
    rw [e1] at h
    exact fun i' H' cls d e2 S1 q => h i' H' σ cls d e2 S1 (E.ext e2) q
  | fail => rw [e1] at h; exact h
end
/-! ### try -/
theorem RE.free {X X' : Cx} {D : Dat} {i : List Addr} {H : Hp} {r : Env} {σ : L2.St} (h : RE X D i H r σ) (f : r.all Sl.free = true) : RE X' D i H r σ := ⟨h.1, fun k s z => let ⟨o, h1, h2⟩ := h.2 k s z; ⟨o, h1, by
  have := List.all_eq_true.mp f s (List.mem_of_getElem? z)
  cases s with
  | no => trivial
  | val v => exact h2
  | exn c fs => cases this⟩⟩
/-- the clauses without names, one after the other -/
def tryGo (T : Tab) : List (Nat × (Env → Mem → RS)) → Nat → List MV → Env → Mem → RS
  | [], c, fs, r, m => .ex c fs r m
  | (d, ch) :: l, c, fs, r, m => if T.ncls ≤ c ∧ c < T.ncls + T.nex then (if T.sub c d then match ch r m with
      | .nx r' m' => if r'.all Sl.free then .nx r' m' else .fail
      | .bk r' m' => if r'.all Sl.free then .bk r' m' else .fail
      | .ct r' m' => if r'.all Sl.free then .ct r' m' else .fail
      | .rt v m' => .rt v m'
      | _ => .fail
    else tryGo T l c fs r m) else .fail
inductive Hds (X : Cx) (D : Dat) : List ExceptHandler → List (Nat × (Env → Mem → RS)) → Prop
  | nil : Hds X D [] []
  | cons {x : Str} {d : Nat} {ch : Env → Mem → RS} {b₀ : Stmt} {suite : List Stmt} {np pos' : Pos} {hds : List ExceptHandler} {l : List (Nat × (Env → Mem → RS))} (hc : Names X x (.ref (D.ca d)))
      (hx : ∀ c, D.T.ncls ≤ c → c < D.T.ncls + D.T.nex → PySem.W.exmOne X.K (.ref (D.ca c)) (.ref (D.ca d)) = some (D.T.sub c d))
      (hsu : ∀ (a : Addr) (pn : List (Addr × Obj)), SSs (X.suite a pn) D (b₀ :: suite) ch) (r : Hds X D hds l) : Hds X D (.ExceptHandler (some (.Name x np)) none (b₀ :: suite) pos' :: hds) ((d, ch) :: l)
section
variable {X : Cx} {D : Dat}
/-- what a clause does, whatever is pinned -/
def tsOf (X : Cx) (D : Dat) (ch : Env → Mem → RS) (a : Addr) : TS := fun En σ H => ∀ (oe : Obj) (pn : List (Addr × Obj)), tS (X.suite a ((a, oe) :: pn)) D (fun _ _ _ _ => False) ch En σ H
def hdsV (X : Cx) (D : Dat) (l : List (Nat × (Env → Mem → RS))) : List (Value × (Addr → Value → Option Addr → TS)) := l.map fun q => (.ref (D.ca q.1), fun a _ _ => tsOf X D q.2 a)
theorem Hds.ok {hds : List ExceptHandler} {l : List (Nat × (Env → Mem → RS))} (h : Hds X D hds l) : HdsOk X hds (hdsV X D l) := by
  induction h with
  | nil => exact .nil
  | cons hc hx hsu r ih => exact .cons hc (fun a oe cls d pn _ _ => U.PSs.imp (hsu a ((a, oe) :: pn) _ takes_none5) fun En σ H z => z oe pn) ih
theorem tryGo_ok {hds : List ExceptHandler} {l : List (Nat × (Env → Mem → RS))} (hl : Hds X D hds l) (hcalm : X.calm = true) {W : WX} {En : Ends} {c : Nat} {fs : List MV} {r : Env} {m : Mem} {i : List Addr} {H : Hp} (h : PsS X D W En i H (tryGo D.T l c fs r m)) :
    ∀ i' H' σ' cls d, Ext D i H i' H' → Sim D i' m H' → RE X D i' H' r σ' → RX D i' H' c fs cls d → wMany X.K W En (hdsV X D l) cls d σ' H' := by
  induction hl with
  | nil => exact fun i' H' σ' cls d e S E q => h i' H' σ' cls d e S E q
  | @cons x dd ch b₀ suite np pos' hds l hc hx hsu rr ih =>
    intro i' H' σ' cls d e S E q
    unfold tryGo at h
    split at h
    · rename_i hr
      have ecls : cls = .ref (D.ca c) := q.1
      refine ⟨D.T.sub c dd, by rw [ecls]; exact hx c hr.1 hr.2, fun hb a na oe pn => ?_, fun hb => ?_⟩
      · rw [if_pos hb] at h
        refine ⟨i', r, m, S, E.calm hcalm, ?_⟩
        show PsS (X.suite a ((a, oe) :: pn)) D (fun _ _ _ _ => False) En i' H' (ch r m)
        cases ech : ch r m with
        | nx r' m' =>
          rw [ech] at h
          dsimp only at h
          split at h
          · rename_i hf
            exact fun i2 H2 σ2 e2 S2 E2 => h i2 H2 σ2 (e.trans e2) S2 (RE.free E2 hf)
          · exact h.elim
        | bk r' m' =>
          rw [ech] at h
          dsimp only at h
          split at h
          · rename_i hf
            exact fun i2 H2 σ2 e2 S2 E2 => h i2 H2 σ2 (e.trans e2) S2 (RE.free E2 hf)
          · exact h.elim
        | ct r' m' =>
          rw [ech] at h
          dsimp only at h
          split at h
          · rename_i hf
            exact fun i2 H2 σ2 e2 S2 E2 => h i2 H2 σ2 (e.trans e2) S2 (RE.free E2 hf)
          · exact h.elim
        | rt v m' =>
          rw [ech] at h
          exact fun i2 H2 x e2 S2 q2 => h i2 H2 x (e.trans e2) S2 q2
        | ex c' fs' r' m' => rw [ech] at h; exact h.elim
        | fail => rw [ech] at h; exact h.elim
      · rw [if_neg (by rw [hb]; decide)] at h
        exact ih h i' H' σ' cls d e S E q
    · exact h.elim
theorem ss_try {body : List Stmt} {h₀ : ExceptHandler} {hds : List ExceptHandler} {pos : Pos} {cb : Env → Mem → RS} {l : List (Nat × (Env → Mem → RS))} (hs : X.stack = X.env :: X.outer) (hf : X.env.frame = some X.env.locals) (hcalm : X.calm = true)
    (hb : ∀ (pn : List (Addr × Obj)) (xe : Value → Shared → Prop), PassesOwn (model X.prog X.w) X.A X.env xe → SSs (X.tr pn xe) D body cb) (hl : Hds X D (h₀ :: hds) l) :
    SS X D (.Try body (h₀ :: hds) [] [] pos) (fun r m => match cb r m with
      | .ex c fs r1 m1 => tryGo D.T l c fs r1 m1
      | a => a) := by
  refine SS.of (t := fun W => fun En σ H => (fun W' => fun En σ H => ∀ (pn : List (Addr × Obj)) (xe : Value → Shared → Prop), tS (X.tr pn xe) D W' cb En σ H) (wMany X.K W En (hdsV X D l)) En σ H) (fun W tk => ps_try_many hs hf tk (tb := fun W' => fun En σ H => ∀ (pn : List (Addr × Obj)) (xe : Value → Shared → Prop), tS (X.tr pn xe) D W' cb En σ H) (fun W' pn xe tk' pa => U.PSs.imp (hb pn xe pa W' tk') fun En σ H z => z pn xe) hl.ok) fun W En σ H ⟨i, r, m, S, E, h⟩ => ?_
  intro pn xe
  refine ⟨i, r, m, S, E.calm hcalm, ?_⟩
  dsimp only at h
  have back : ∀ {i' : List Addr} {H' : Hp} {r' : Env} {σ' : L2.St}, RE (X.tr pn xe) D i' H' r' σ' → RE X D i' H' r' σ' := fun E' => RE.calm (X := X.tr pn xe) hcalm E'
  cases e1 : cb r m with
  | nx r' m' => rw [e1] at h; exact fun i' H' σ' e S E => h i' H' σ' e S (back E)
  | bk r' m' => rw [e1] at h; exact fun i' H' σ' e S E => h i' H' σ' e S (back E)
  | ct r' m' => rw [e1] at h; exact fun i' H' σ' e S E => h i' H' σ' e S (back E)
  | rt v m' => rw [e1] at h; exact h
  | ex c fs r' m' =>
    rw [e1] at h
    exact fun i' H' σ' cls d e S E q => tryGo_ok hl hcalm h i' H' σ' cls d e S (back E) q
  | fail => rw [e1] at h; exact h
end
/-! ### a clause with a name -/
section
variable {X : Cx} {D : Dat}
def asGo (T : Tab) (k d : Nat) (ch : Env → Mem → RS) (c : Nat) (fs : List MV) (r : Env) (m : Mem) : RS :=
  if T.ncls ≤ c ∧ c < T.ncls + T.nex then (if T.sub c d then match ch (r.set k (.exn c fs)) m with
      | .nx r' m' => if (r'.set k .no).all Sl.free then .nx (r'.set k .no) m' else .fail
      | .bk r' m' => if (r'.set k .no).all Sl.free then .bk (r'.set k .no) m' else .fail
      | .ct r' m' => if (r'.set k .no).all Sl.free then .ct (r'.set k .no) m' else .fail
      | .rt v m' => .rt v m'
      | _ => .fail
    else .ex c fs r m) else .fail
theorem RE.gone {i : List Addr} {H : Hp} {r : Env} {σ : L2.St} {k : Nat} (h : RE X D i H r σ) : RE X D i H (r.set k .no) (σ.set k none) := by
  refine ⟨by rw [List.length_set, List.length_set]; exact h.1, fun j s e => ?_⟩
  by_cases q : j = k
  · subst q
    have hl : j < r.length := by
      have := (List.getElem?_eq_some_iff.mp e).1
      rw [List.length_set] at this
      exact this
    rw [List.getElem?_set_self hl] at e
    cases e
    exact ⟨none, List.getElem?_set_self (by rw [← h.1]; exact hl), trivial⟩
  · rw [List.getElem?_set_ne (Ne.symm q)] at e
    obtain ⟨o, h1, h2⟩ := h.2 j s e
    exact ⟨o, by rw [List.getElem?_set_ne (Ne.symm q)]; exact h1, h2⟩
theorem ss_tryAs {body : List Stmt} {b₀ : Stmt} {suite : List Stmt} {x nm : Str} {np pos pos' : Pos} {k d : Nat} {cb ch : Env → Mem → RS} (hs : X.stack = X.env :: X.outer) (hf : X.env.frame = some X.env.locals) (hcalm : X.calm = true) (hN : X.N.Nodup) (hi : X.N[k]? = some nm) (hln : X.env.kindOf nm = some .local)
    (hc : Names X x (.ref (D.ca d))) (hx : ∀ c, D.T.ncls ≤ c → c < D.T.ncls + D.T.nex → PySem.W.exmOne X.K (.ref (D.ca c)) (.ref (D.ca d)) = some (D.T.sub c d))
    (hb : ∀ (pn : List (Addr × Obj)) (xe : Value → Shared → Prop), PassesOwn (model X.prog X.w) X.A X.env xe → SSs (X.tr pn xe) D body cb) (hsu : ∀ (a : Addr) (pn : List (Addr × Obj)), SSs (X.suite a pn) D (b₀ :: suite) ch) :
    SS X D (.Try body [.ExceptHandler (some (.Name x np)) (some nm) (b₀ :: suite) pos'] [] [] pos) (fun r m => match cb r m with
      | .ex c fs r1 m1 => asGo D.T k d ch c fs r1 m1
      | a => a) := by
  let ts : Addr → Value → Option Addr → TS := fun a cls dd En σ H => ∀ (oe : Obj) (pn : List (Addr × Obj)), Zc cls dd oe → (∃ vs, oe.data = .fields vs) → tS (X.suite a ((a, oe) :: pn)) D (fun _ _ _ _ => False) ch En σ H
  refine SS.of (t := fun W => fun En σ H => (fun W' => fun En σ H => ∀ (pn : List (Addr × Obj)) (xe : Value → Shared → Prop), tS (X.tr pn xe) D W' cb En σ H) (wAs X.K (.ref (D.ca d)) k ts W En) En σ H) (fun W tk => ps_try_as hs hf hN hi hln hc tk (tb := fun W' => fun En σ H => ∀ (pn : List (Addr × Obj)) (xe : Value → Shared → Prop), tS (X.tr pn xe) D W' cb En σ H) (fun W' pn xe tk' pa => U.PSs.imp (hb pn xe pa W' tk') fun En σ H z => z pn xe) fun a oe cls dd pn hz hd => U.PSs.imp (hsu a ((a, oe) :: pn) _ takes_none5) fun En σ H z => z oe pn hz hd) fun W En σ H ⟨i, r, m, S, E, h⟩ => ?_
  intro pn xe
  refine ⟨i, r, m, S, E.calm hcalm, ?_⟩
  dsimp only at h
  have back : ∀ {i' : List Addr} {H' : Hp} {r' : Env} {σ' : L2.St}, RE (X.tr pn xe) D i' H' r' σ' → RE X D i' H' r' σ' := fun E' => RE.calm (X := X.tr pn xe) hcalm E'
  cases e1 : cb r m with
  | nx r' m' => rw [e1] at h; exact fun i' H' σ' e S E => h i' H' σ' e S (back E)
  | bk r' m' => rw [e1] at h; exact fun i' H' σ' e S E => h i' H' σ' e S (back E)
  | ct r' m' => rw [e1] at h; exact fun i' H' σ' e S E => h i' H' σ' e S (back E)
  | rt v m' => rw [e1] at h; exact h
  | fail => rw [e1] at h; exact h
  | ex c fs r' m' =>
    rw [e1] at h
    dsimp only at h
    intro i' H' σ' cls dd e S E q
    have E := back E
    unfold asGo at h
    split at h
    · rename_i hr
      have ecls : cls = .ref (D.ca c) := q.1
      refine ⟨D.T.sub c d, by rw [ecls]; exact hx c hr.1 hr.2, fun hb2 a na oe pn2 hz hd => ?_, fun hb2 => ?_⟩
      · rw [if_pos hb2] at h
        refine ⟨i', r'.set k (.exn c fs), m', S, ?_, ?_⟩
        · refine ⟨by rw [List.length_set, List.length_set]; exact E.1, fun j s z => ?_⟩
          by_cases qk : j = k
          · subst qk
            have hl : j < r'.length := by
              have := (List.getElem?_eq_some_iff.mp z).1
              rw [List.length_set] at this
              exact this
            rw [List.getElem?_set_self hl] at z
            cases z
            obtain ⟨ws, hd⟩ := hd
            exact ⟨_, List.getElem?_set_self (by rw [← E.1]; exact hl), rfl, a, cls, dd, rfl, q, oe, ws, List.mem_cons_self .., hz, hd⟩
          · rw [List.getElem?_set_ne (Ne.symm qk)] at z
            obtain ⟨o, h1, h2⟩ := (E.calm (X' := X.suite a ((a, oe) :: pn2)) hcalm).2 j s z
            exact ⟨o, by rw [List.getElem?_set_ne (Ne.symm qk)]; exact h1, h2⟩
        · show PsS (X.suite a ((a, oe) :: pn2)) D (fun _ _ _ _ => False) { nx := fun σ' H' => En.nx (σ'.set k none) H', rt := En.rt, bk := fun σ' H' => En.bk (σ'.set k none) H', ct := fun σ' H' => En.ct (σ'.set k none) H' } i' H' (ch (r'.set k (.exn c fs)) m')
          cases ech : ch (r'.set k (.exn c fs)) m' with
          | nx r2 m2 =>
            rw [ech] at h
            dsimp only at h
            split at h
            · rename_i hf2
              exact fun i2 H2 σ2 e2 S2 E2 => h i2 H2 _ (e.trans e2) S2 (RE.free (RE.gone E2) hf2)
            · exact h.elim
          | bk r2 m2 =>
            rw [ech] at h
            dsimp only at h
            split at h
            · rename_i hf2
              exact fun i2 H2 σ2 e2 S2 E2 => h i2 H2 _ (e.trans e2) S2 (RE.free (RE.gone E2) hf2)
            · exact h.elim
          | ct r2 m2 =>
            rw [ech] at h
            dsimp only at h
            split at h
            · rename_i hf2
              exact fun i2 H2 σ2 e2 S2 E2 => h i2 H2 _ (e.trans e2) S2 (RE.free (RE.gone E2) hf2)
            · exact h.elim
          | rt v m2 =>
            rw [ech] at h
            exact fun i2 H2 x e2 S2 q2 => h i2 H2 x (e.trans e2) S2 q2
          | ex c' fs' r2 m2 => rw [ech] at h; exact h.elim
          | fail => rw [ech] at h; exact h.elim
      · rw [if_neg (by rw [hb2]; decide)] at h
        exact h i' H' σ' cls dd e S E q
    · exact h.elim
end
/-! ### what a clause may hold -/
def hotE (P : Prg) (N : List Str) (sc : Scope) : Nat → Expr → Option CE
  | 0, _ => none
  | n + 1, e => match e with
    | .Constant (.int i) _ _ => some (.int i)
    | .Constant (.bool b) _ _ => some (.bl b)
    | .Constant .none _ _ => some .non
    | .Constant (.str s) _ _ => some (.str s.cps.toList)
    | .Attribute (.Name x _) f _ => match ixOf N x, ixOf P.fld f with
      | some k, some j => if visB sc x && okN x then some (.xfld k j) else none
      | _, _ => none
    | .Name x _ => match ixOf N x with
      | some k => if visB sc x && okN x then some (.var k) else none
      | none => none
    | .Tuple es _ _ => (exprs (hotE P N sc n) es).map .tup
    | .List es _ => (exprs (hotE P N sc n) es).map .lst
    | _ => none
def hotS (P : Prg) (N : List Str) (sc : Scope) : Stmt → Option CS
  | .Assign [.Name x _] e _ => match ixOf N x, hotE P N sc 6 e with
    | some k, some c => if locB sc x then some (.asg k c) else none
    | _, _ => none
  | .Return none _ => some .retn
  | .Return (some e) _ => (hotE P N sc 6 e).map .ret
  | .Pass _ => some .pass
  | _ => none
section
variable {X : Cx} {D : Dat} {cf : CallF} {W : Nat} {N : List Str} {sc : Scope}
theorem hotE_ok {P : Prg} (hN : X.N = N) (hs : X.env.scope = sc) (hx : ∀ c z j f, P.fld[j]? = some f → D.T.exf c j = some z → z = 0 ∧ D.xf c = f ∧ XfC X.K (D.ca c) ∧ PySem.W.findIn X.K (.ref (D.ca c)) f = some none) : ∀ (n : Nat) (e : Expr) (c : CE), hotE P N sc n e = some c → SE X D e (evE D.T cf c) ∧ noLc e = true
  | 0, e, c, h => by cases h
  | n + 1, e, c, h => by
    have ih := hotE_ok hN hs hx n
    have hf : ∀ e c, hotE P N sc n e = some c → SE X D e (evE D.T cf c) := fun e c z => (ih e c z).1
    unfold hotE at h
    split at h
    · cases h; exact ⟨(se_pure pe_int fun _ _ => .int _).congr fun r m => by rw [evE], rfl⟩
    · cases h; exact ⟨(se_pure pe_bl fun _ _ => .bl _).congr fun r m => by rw [evE], rfl⟩
    · cases h; exact ⟨(se_pure pe_non fun _ _ => .non).congr fun r m => by rw [evE], rfl⟩
    · cases h; exact ⟨(se_pure pe_str fun _ _ => .str _).congr fun r m => by rw [evE], rfl⟩
    · rename_i x px f p
      split at h
      · rename_i k j e1 e2
        split at h
        · rename_i hc
          cases h
          rw [Bool.and_eq_true] at hc
          have h2 := hc.2
          unfold okN at h2
          simp only [Bool.and_eq_true, Bool.not_eq_true'] at h2
          exact ⟨(se_xfld (D := D) (k := k) (j := j) (by rw [hN]; exact ixOf_at e1) (by rw [hs]; exact visB_ok hc.1) h2.1 h2.2 fun c z ez => hx c z j f (ixOf_at e2) ez).congr fun r m => by
            rw [evE]
            all_goals (cases r[k]? with
              | none => rfl
              | some s => cases s with
                | exn c fs => cases D.T.exf c j with
                  | none => rfl
                  | some z => cases fs[z]? <;> rfl
                | _ => rfl), rfl⟩
        · cases h
      · cases h
    · rename_i x p
      split at h
      · rename_i k e1
        split at h
        · rename_i hc
          cases h
          rw [Bool.and_eq_true] at hc
          have h2 := hc.2
          unfold okN at h2
          simp only [Bool.and_eq_true, Bool.not_eq_true'] at h2
          exact ⟨(se_var (D := D) (pos := p) (show X.N[k]? = some x by rw [hN]; exact ixOf_at e1) (by rw [hs]; exact visB_ok hc.1) h2.1 h2.2).congr fun r m => by rw [evE], rfl⟩
        · cases h
      · cases h
    · rename_i es j p
      cases e1 : exprs (hotE P N sc n) es with
      | none => rw [e1] at h; cases h
      | some cs =>
        rw [e1] at h
        cases h
        obtain ⟨a1, a2, a3⟩ := exprs_ok hf e1
        exact ⟨(se_tup (fun r m vs m' e => (evL_len e).trans a3) a2).congr fun r m => by rw [evE], rfl⟩
    · rename_i es p
      cases e1 : exprs (hotE P N sc n) es with
      | none => rw [e1] at h; cases h
      | some cs =>
        rw [e1] at h
        cases h
        obtain ⟨a1, a2, a3⟩ := exprs_ok hf e1
        exact ⟨(se_lst (fun r m vs m' e => (evL_len e).trans a3) a2).congr fun r m => by rw [evE], rfl⟩
    · cases h
theorem SS.cg {st : Stmt} {c c' : Env → Mem → RS} (h : SS X D st c) (hc : ∀ r m, c' r m = c r m) : SS X D st c' := by
  have e1 : c' = c := funext fun r => funext fun m => hc r m
  rw [e1]
  exact h
theorem hotS_ok {P : Prg} (hxf : ∀ c z j f, P.fld[j]? = some f → D.T.exf c j = some z → z = 0 ∧ D.xf c = f ∧ XfC X.K (D.ca c) ∧ PySem.W.findIn X.K (.ref (D.ca c)) f = some none) (hN : X.N = N) (nd : N.Nodup) (hs : X.env.scope = sc) (fn : ∀ x, X.fn x = true) {st : Stmt} {s : CS} (h : hotS P N sc st = some s) : SS X D st (evS D.T W cf s) := by
  unfold hotS at h
  split at h
  · rename_i x px e p
    split at h
    · rename_i k c e1 e2
      split at h
      · rename_i hl
        cases h
        have hi : X.N[k]? = some x := by rw [hN]; exact ixOf_at e1
        have hx : L2.Loc X.env.scope x := by rw [hs]; exact locB_ok hl
        obtain ⟨z1, z2⟩ := hotE_ok (cf := cf) hN hs hxf 6 e c e2
        exact (ss_set (by rw [hN]; exact nd) hi hx (.inl (fn x)) (sw_no z2) z1).cg fun r m => by rw [evS]
      · cases h
    · cases h
  · cases h
    exact ss_retN.cg fun r m => by rw [evS]
  · rename_i e p
    cases e1 : hotE P N sc 6 e with
    | none => rw [e1] at h; cases h
    | some c =>
      rw [e1] at h
      cases h
      exact (ss_ret (hotE_ok (cf := cf) hN hs hxf 6 e c e1).1).cg fun r m => by rw [evS]
  · cases h
    exact ss_pass.cg fun r m => by rw [evS]
  · cases h
end
end U
end Part_UX

section Part_U19
set_option Elab.async false
set_option linter.all false
set_option maxRecDepth 100000
set_option maxHeartbeats 4000000
/-! U19: statements, compiled. -/
namespace U
open PySem PySem.Spec PyProof.Rows L2
def namesC (N : List Str) (sc : Scope) : List Expr → Option (List Nat)
  | [] => some []
  | .Name x _ :: es => match ixOf N x, namesC N sc es with
    | some k, some ks => if locB sc x then some (k :: ks) else none
    | _, _ => none
  | _ => none
def tgC (N : List Str) (sc : Scope) : Expr → Option Tg
  | .Name x _ => match ixOf N x with
    | some k => if locB sc x then some (.one k) else none
    | none => none
  | .Tuple es _ _ => (namesC N sc es).map .tup
  | _ => none
/-- does a comprehension hand its list straight to the name -/
def swB (sc scope : Scope) (y : Str) (py lpos : Pos) : Bool := decide (sc.names.lookup y = some .local) && (py.line == lpos.line) && !(scope.names.any fun (n, k) => n == y && (k == .local || k == .cell))
/-- (a, b) = (x, y) -/
def parC (N : List Str) (sc : Scope) (f : Expr → Option CE) (ts vs : List Expr) : Option CS := match ts, vs with
  | [.Name x _, .Name y _], [a, b] => match swRes sc ts vs with
    | some none => match ixOf N x, ixOf N y, exprs f vs with
      | some j, some k, some cs => if locB sc x && locB sc y then some (.unp [j, k] (.tup cs)) else none
      | _, _, _ => none
    | some (some ws) => match ixOf N x, ixOf N y, exprs f vs with
      | some j, some k, some cs => if decide (ws = [x, y]) && (decide (j ≠ k) && (decide (sc.names.lookup x = some .local) && decide (sc.names.lookup y = some .local))) then some (.unp [j, k] (.tup cs)) else none
      | _, _, _ => none
    | none => none
  | _, _ => none
def isLc : Expr → Bool
  | .ListComp _ _ _ _ => true
  | _ => false
def asgC (P : Prg) (N : List Str) (sc : Scope) (f : Scope → Expr → Option CE) (tg e : Expr) : Option CS := match tg with
  | .Name x py => match ixOf N x, f sc e with
    | some k, some c => if locB sc x && (noLc e || isLc e) then some (.asg k c) else none
    | _, _ => none
  | .Tuple ts _ _ => match e with
    | .Tuple vs _ _ => parC N sc (f sc) ts vs
    | _ => if noLc e then match namesC N sc ts, f sc e with
      | some ks, some c => some (.unp ks c)
      | _, _ => none
      else none
  | .Attribute o name _ => if noLc e then match f sc e, f sc o, ixOf P.fld name with
    | some c, some d, some k => some (.setf d k c)
    | _, _, _ => none
    else none
  | .Subscript o i _ => if plainE i && noLc e then match f sc e, f sc o, f sc i with
    | some c, some d, some j => some (.seti d j c)
    | _, _, _ => none
    else none
  | _ => none
def blkC (g : Stmt → Option CS) (ss : List Stmt) : List CS := ss.map fun s => (g s).getD .bad
def hdlsC (P : Prg) (N : List Str) (sc : Scope) : List ExceptHandler → Option (List (List Nat × Option Nat × List CS))
  | [] => some []
  | .ExceptHandler (some (.Name x _)) none (b :: suite) _ :: hs => match ixOf (P.exs ++ P.exi) x, hdlsC P N sc hs with
    | some j, some l => if glB sc x then some (([P.cls.length + j], none, blkC (hotS P N sc) (b :: suite)) :: l) else none
    | _, _ => none
  | _ => none
/-- a clause with a name -/
def asC (P : Prg) (N : List Str) (sc : Scope) (x nm : Str) (ss : List Stmt) : Option (List (List Nat × Option Nat × List CS)) := match ixOf (P.exs ++ P.exi) x, ixOf N nm with
  | some j, some k => if glB sc x && decide (sc.names.lookup nm = some .local) then some [([P.cls.length + j], some k, blkC (hotS P N sc) ss)] else none
  | _, _ => none
/-- an exception that keeps one thing is raised -/
def raiseC (P : Prg) (f : Expr → Option CE) (sc : Scope) (x : Str) : List Expr → Option CS
  | [e] => match ixOf P.exi x, exprs f [e] with
    | some j, some cs => if glB sc x then some (.raise (P.cls.length + (P.exs.length + j)) cs) else none
    | _, _ => none
  | _ => none
def compS (P : Prg) (N : List Str) (f : Scope → Expr → Option CE) (sc : Scope) : Nat → Stmt → Option CS
  | 0, _ => none
  | n + 1, s => match s with
    | .Expr (.Constant (.str _) _ _) _ => some .pass
    | .Expr e _ => if noLc e then (f sc e).map .expr else none
    | .Return none _ => some .retn
    | .Return (some e) _ => (f sc e).map .ret
    | .Pass _ => some .pass
    | .Break _ => some .brk
    | .Continue _ => some .cont
    | .Assign [tg] e _ => asgC P N sc f tg e
    | .AugAssign (.Name x _) op e _ => match ixOf N x, f sc e with
      | some k, some c => if locB sc x && (op == .Add || op == .Sub) then some (.aug k op c) else none
      | _, _ => none
    | .If c a b _ => (f sc c).map fun cc => .ifs cc (blkC (compS P N f sc n) a) (blkC (compS P N f sc n) b)
    | .While c a [] _ => (f sc c).map fun cc => .whl cc (blkC (compS P N f sc n) a)
    | .For tg it a [] _ => if plainE it then match tgC N sc tg, srcC sc (f sc) (isTp tg) it with
      | some t, some src => some (.for_ t src (blkC (compS P N f sc n) a))
      | _, _ => none
      else none
    | .Raise (some (.Call (.Name x _) (e :: es) [] _)) none _ => match ixOf P.exs x, exprs (f sc) (e :: es) with
      | some j, some cs => if glB sc x && decide ((e :: es).length < 1000) then some (.raise (P.cls.length + j) cs) else none
      | none, _ => raiseC P (f sc) sc x (e :: es)
      | _, _ => none
    | .Try body [.ExceptHandler (some (.Name x _)) (some nm) (b :: suite) _] [] [] _ => (asC P N sc x nm (b :: suite)).map fun l => .try_ (blkC (compS P N f sc n) body) l
    | .Try body (h :: hs) [] [] _ => (hdlsC P N sc (h :: hs)).map fun l => .try_ (blkC (compS P N f sc n) body) l
    | _ => none
/-- a def's context -/
structure SC (P : Prg) (X : Cx) (D : Dat) (n : Nat) (cf : CallF) (N : List Str) (sc : Scope) : Prop extends EC P X D n cf N sc where
  fn : ∀ x, X.fn x = true
  own : PassesOwn (model X.prog X.w) X.A X.env X.xe
  kind : X.env.scope.kind = .function
  stk : X.stack = X.env :: X.outer
  frm : X.env.frame = some X.env.locals
theorem SC.tr {P : Prg} {X : Cx} {D : Dat} {n : Nat} {cf : CallF} {N : List Str} {sc : Scope} (E : SC P X D n cf N sc) (pn : List (Addr × Obj)) (xe : Value → Shared → Prop) (pa : PassesOwn (model X.prog X.w) X.A X.env xe) : SC P (X.tr pn xe) D n cf N sc :=
  ⟨⟨POk.move (X := X) ⟨rfl, rfl, rfl, rfl, rfl⟩ E.hP, E.hN, E.nd, E.hs, E.calm, E.room⟩, E.fn, pa, E.kind, E.stk, E.frm⟩
section
variable {P : Prg} {X : Cx} {D : Dat} {n : Nat} {cf : CallF} {N : List Str} {sc : Scope} {W : Nat}
theorem SS.congr {st : Stmt} {c c' : Env → Mem → RS} (h : SS X D st c) (hc : ∀ r m, c' r m = c r m) : SS X D st c' := by
  have e1 : c' = c := funext fun r => funext fun m => hc r m
  rw [e1]
  exact h
theorem SSs.congr {st : List Stmt} {c c' : Env → Mem → RS} (h : SSs X D st c) (hc : ∀ r m, c' r m = c r m) : SSs X D st c' := by
  have e1 : c' = c := funext fun r => funext fun m => hc r m
  rw [e1]
  exact h
theorem evB_nil {T : Tab} {r : Env} {m : Mem} : evB T W cf [] r m = .nx r m := by rw [evB]
theorem evB_cons {T : Tab} {s : CS} {ss : List CS} {r : Env} {m : Mem} : evB T W cf (s :: ss) r m = match evS T W cf s r m with
    | .nx r' m' => evB T W cf ss r' m'
    | a => a := by
  rw [evB]
  all_goals (cases evS T W cf s r m <;> rfl)
theorem ss_bad {st : Stmt} : SS X D st (fun _ _ => .fail) := fun W tk => U.PS.imp ps_never fun En σ H ⟨i, r, m, S, E, h⟩ => h
theorem blkC_ok {g : Stmt → Option CS} (hg : ∀ s c, g s = some c → SS X D s (evS D.T W cf c)) : ∀ ss : List Stmt, SSs X D ss (evB D.T W cf (blkC g ss))
  | [] => sss_nil.congr fun r m => evB_nil
  | s :: ss => by
    have ih := blkC_ok hg ss
    have h1 : SS X D s (evS D.T W cf ((g s).getD .bad)) := by
      cases e : g s with
      | none => exact ss_bad.congr fun r m => by show evS D.T W cf .bad r m = _; rw [evS]
      | some c => exact hg s c e
    exact (sss_cons h1 ih).congr fun r m => by
      show evB D.T W cf ((g s).getD .bad :: blkC g ss) r m = _
      rw [evB_cons]
      all_goals rfl
theorem namesC_ok (E : SC P X D n cf N sc) : ∀ {es : List Expr} {ks : List Nat}, namesC N sc es = some ks → NameL X es ks
  | [], ks, h => by cases h; exact .nil
  | e :: es, ks, h => by
    cases e with
    | Name x p =>
      unfold namesC at h
      split at h
      · rename_i k ks' h1 h2
        split at h
        · rename_i hl
          cases h
          exact .cons (by rw [E.hN]; exact ixOf_at h1) (by rw [E.hs]; exact locB_ok hl) (.inl (E.fn x)) (namesC_ok E h2)
        · cases h
      · cases h
    | _ => cases h
theorem tgC_ok (E : SC P X D n cf N sc) {tg : Expr} {t : Tg} (h : tgC N sc tg = some t) : SG X D tg t.put := by
  unfold tgC at h
  split at h
  · rename_i x p
    split at h
    · rename_i k ek
      split at h
      · rename_i hl
        cases h
        exact sg_name (by rw [E.hN]; exact E.nd) (by rw [E.hN]; exact ixOf_at ek) (by rw [E.hs]; exact locB_ok hl) (.inl (E.fn x))
      · cases h
    · cases h
  · rename_i es k p
    cases e : namesC N sc es with
    | none => rw [e] at h; cases h
    | some ks =>
      rw [e] at h
      cases h
      exact sg_tup E.hP.hK E.calm (by rw [E.hN]; exact E.nd) (namesC_ok E e)
  · cases h
theorem swB_ok (E : SC P X D n cf N sc) {elt : Expr} {gs : List Comprehension} {scope : Scope} {y : Str} {py lpos : Pos} {l : Nat} : swapsWith (.ListComp elt gs scope lpos) (some (.Name y py)) l X.env = pure (swB sc scope y py lpos) := by
  have hb : X.env.blockKind = .function := by unfold Env.blockKind; rw [E.kind]; rfl
  unfold swapsWith
  dsimp only
  rw [hb]
  unfold Env.kindOf swB
  rw [E.hs]
  have e1 : (List.lookup y sc.names == some NameKind.local) = decide (List.lookup y sc.names = some .local) := by
    rw [Bool.eq_iff_iff]
    simp
  first
    | (rw [e1]; rfl)
    | simp [e1, Expr.pos]
theorem parC_ok (E : SC P X D n cf N sc) {f : Expr → Option CE} (hf : ∀ e c, f e = some c → SE X D e (evE D.T cf c)) {ts vs : List Expr} {kt k2 : Nat} {pt pt2 pos : Pos} {s : CS} (h : parC N sc f ts vs = some s) : SS X D (.Assign [.Tuple ts kt pt] (.Tuple vs k2 pt2) pos) (evS D.T W cf s) := by
  unfold parC at h
  have hN : X.N.Nodup := by rw [E.hN]; exact E.nd
  split at h
  · rename_i x px y py a b
    split at h
    · rename_i hsw
      split at h
      · rename_i j k cs e1 e2 e3
        split at h
        · rename_i hl
          cases h
          rw [Bool.and_eq_true] at hl
          obtain ⟨a1, a2, a3⟩ := exprs_ok hf e3
          have nl : NameL X [.Name x px, .Name y py] [j, k] := .cons (by rw [E.hN]; exact ixOf_at e1) (by rw [E.hs]; exact locB_ok hl.1) (.inl (E.fn x)) (.cons (by rw [E.hN]; exact ixOf_at e2) (by rw [E.hs]; exact locB_ok hl.2) (.inl (E.fn y)) .nil)
          have z := ss_asg (pos := pos) (ea := .Tuple [a, b] k2 pt2) (sg_tup (kk := kt) (p := pt) E.hP.hK E.calm hN nl) rfl (swRes_ok E.kind (by rw [E.hs]; exact hsw)) rfl ((se_tup (fun r m vs m' e => (evL_len e).trans a3) a2).congr (c' := evE D.T cf (.tup cs)) fun r m => by rw [evE])
          exact z.congr fun r m => by rw [evS]; try rfl
        · cases h
      · cases h
    · rename_i ws hsw
      split at h
      · rename_i j k cs e1 e2 e3
        split at h
        · rename_i hl
          cases h
          simp only [Bool.and_eq_true, decide_eq_true_eq] at hl
          obtain ⟨hw, hjk, hx, hy⟩ := hl
          subst hw
          obtain ⟨a1, a2, a3⟩ := exprs_ok hf e3
          have z := ss_par (pos := pos) (px := px) (py := py) (kt := kt) (pt := pt) (k2 := k2) (pt2 := pt2) E.calm hN (by rw [E.hN]; exact ixOf_at e1) (by rw [E.hN]; exact ixOf_at e2) hjk (by rw [E.hs]; exact hx) (by rw [E.hs]; exact hy) (swRes_ok E.kind (by rw [E.hs]; exact hsw)) a2
          exact z.congr fun r m => by rw [evS, evE]; rfl
        · cases h
      · cases h
    · cases h
  · cases h
theorem asgC_ok (E : SC P X D n cf N sc) {f : Scope → Expr → Option CE} (hf : ∀ e c, f sc e = some c → SE X D e (evE D.T cf c)) (hlc : ∀ elt gs scope lpos c, f sc (.ListComp elt gs scope lpos) = some c → LcP X D cf elt gs scope c) {tg e : Expr} {pos : Pos} {s : CS} (h : asgC P N sc f tg e = some s) : SS X D (.Assign [tg] e pos) (evS D.T W cf s) := by
  unfold asgC at h
  have hN : X.N.Nodup := by rw [E.hN]; exact E.nd
  split at h
  · rename_i x py
    split at h
    · rename_i k c e1 e2
      split at h
      · rename_i hl
        cases h
        rw [Bool.and_eq_true] at hl
        have hi : X.N[k]? = some x := by rw [E.hN]; exact ixOf_at e1
        have hx : L2.Loc X.env.scope x := by rw [E.hs]; exact locB_ok hl.1
        have plain : swapsWith e (some (.Name x py)) pos.line X.env = pure false → SS X D (.Assign [.Name x py] e pos) (evS D.T W cf (.asg k c)) := fun hs => (ss_set (pos := pos) hN hi hx (.inl (E.fn x)) hs (hf _ _ e2)).congr fun r m => by rw [evS]
        cases hb : noLc e with
        | true => exact plain (sw_no hb)
        | false =>
          rw [hb, Bool.false_or] at hl
          obtain ⟨elt, gs, scope, lpos, rfl⟩ : ∃ elt gs scope lpos, e = .ListComp elt gs scope lpos := by
            cases e with
            | ListComp elt gs scope lpos => exact ⟨_, _, _, _, rfl⟩
            | _ => cases hl.2
          cases hsw : swB sc scope x py lpos with
          | false => exact plain (by rw [swB_ok E, hsw])
          | true =>
            obtain ⟨y, tp, iter, ifs, j, ci, ct, ce, rfl, hi2, ok, hk, hx2, hfn, ht, he, hs, hc⟩ := (hlc _ _ _ _ _ e2).ex
            have hlo : X.env.scope.names.lookup x = some .local := by
              rw [E.hs]
              unfold swB at hsw
              simp only [Bool.and_eq_true, decide_eq_true_eq] at hsw
              exact hsw.1.1
            have z := ss_setLc (pos := pos) hi hlo (by rw [swB_ok E, hsw]) E.calm hN hi2 ok hk hx2 hfn ht he hs
            exact z.congr fun r m => by rw [evS, hc]
      · cases h
    · cases h
  · rename_i ts kt pt
    split at h
    · exact parC_ok E hf h
    · rename_i hne
      split at h
      · rename_i hn
        split at h
        · rename_i ks c e1 e2
          cases h
          have hw : swappedStores [.Tuple ts kt pt] e X.env = pure none := by
            cases e <;> first
              | rfl
              | exact absurd rfl (hne _ _ _)
          have z := ss_asg (pos := pos) (sg_tup (kk := kt) (p := pt) E.hP.hK E.calm hN (namesC_ok E e1)) hn hw rfl (hf _ _ e2)
          exact z.congr fun r m => by rw [evS]; try rfl
        · cases h
      · cases h
  · rename_i o name p
    split at h
    · rename_i hn
      split at h
      · rename_i c d k e1 e2 e3
        cases h
        have en : P.fldN k = name := by
          unfold Prg.fldN
          rw [ixOf_at e3]
          rfl
        have z := ss_fld (pos := pos) (pos' := p) (f := k) E.hP.hK E.hP.A hn (hf _ _ e1) (hf _ _ e2)
        rw [en] at z
        exact z.congr fun r m => by rw [evS]; try rfl
      · cases h
    · cases h
  · rename_i o i p
    split at h
    · rename_i hp
      rw [Bool.and_eq_true] at hp
      split at h
      · rename_i c d j e1 e2 e3
        cases h
        have ha : ∀ v, assign (.Subscript o i p) X.env v = (do
            let ov ← holding [v] (eval o X.env)
            let iv ← holding [v, ov] (eval i X.env)
            standAt p
            holding [v, ov, iv] (setItem ov iv v)
            release [v, ov, iv] []) := by
          intro v
          have hp1 := hp.1
          cases i <;> first
            | rfl
            | cases hp1
        have z := ss_seti (pos := pos) (pos' := p) hp.1 hp.2 (hf _ _ e1) (hf _ _ e2) (hf _ _ e3) ha
        exact z.congr fun r m => by rw [evS]; try rfl
      · cases h
    · cases h
  · cases h
theorem hdlsC_ok (E : SC P X D n cf N sc) : ∀ {hs : List ExceptHandler} {l : List (List Nat × Option Nat × List CS)}, hdlsC P N sc hs = some l → ∃ l', Hds X D hs l' ∧ ∀ c fs r m, evH D.T W cf l c fs r m = tryGo D.T l' c fs r m
  | [], l, h => by
    cases h
    exact ⟨[], .nil, fun c fs r m => by rw [evH, tryGo]⟩
  | hd :: hs, l, h => by
    unfold hdlsC at h
    split at h
    · rename_i e; cases e
    · rename_i x p b suite p2 hs' e
      cases e
      split at h
      · rename_i j l2 e1 e2
        split at h
        · rename_i hg
          cases h
          obtain ⟨l', h1, h2⟩ := hdlsC_ok E e2
          obtain ⟨g1, g2⟩ := E.gl hg
          have x1 := E.hP.exg j x (ixOf_at e1)
          refine ⟨(P.cls.length + j, evB D.T W cf (blkC (hotS P N sc) (b :: suite))) :: l', .cons ⟨g1, g2, .inl x1⟩ (fun c a1 a2 => E.hP.exm c j x a1 a2 (ixOf_at e1)) (fun a pn => blkC_ok (X := X.suite a pn) (fun s c z => hotS_ok (X := X.suite a pn) E.hP.xfs E.hN E.nd E.hs E.fn z) _) h1, fun c fs r m => ?_⟩
          rw [evH, tryGo, h2, show [P.cls.length + j].any (D.T.sub c) = D.T.sub c (P.cls.length + j) from by simp]
          rfl
        · cases h
      · cases h
    · cases h
theorem raiseC_ok (E : SC P X D n cf N sc) {f : Expr → Option CE} (hf : ∀ e c, f e = some c → SE X D e (evE D.T cf c)) {x : Str} {es : List Expr} {s : CS} {p pos pos' : Pos} (h : raiseC P f sc x es = some s) : SS X D (.Raise (some (.Call (.Name x p) es [] pos)) none pos') (evS D.T W cf s) := by
  unfold raiseC at h
  split at h
  · rename_i e
    split at h
    · rename_i j cs e1 e2
      split at h
      · rename_i hg
        cases h
        obtain ⟨g1, g2⟩ := E.gl hg
        obtain ⟨a1, a2, a3⟩ := exprs_ok hf e2
        have hj := ixOf_at e1
        obtain ⟨x1, x2⟩ := E.hP.x1 j x hj
        have hm := E.hP.exg (P.exs.length + j) x (by rw [List.getElem?_append_right (Nat.le_add_right _ _), Nat.add_sub_cancel_left]; exact hj)
        have a1' : plainE e = true := by simpa using a1
        exact (ss_raise1 (p := p) (pos := pos) (pos' := pos') E.calm x1 E.room g1 hm g2 a1' a2 fun r m vs m' z => (evL_len z).trans a3).cg fun r m => by
          rw [evS]
          cases e3 : evL D.T cf cs r m with
          | ok vs m1 =>
            dsimp only
            have l1 := (evL_len e3).trans a3
            rw [if_pos (by rw [x2, l1]; rfl)]
          | ex d fs m1 => rfl
          | fail => rfl
      · cases h
    · cases h
  · cases h
theorem asC_ok (E : SC P X D n cf N sc) {x nm : Str} {b : Stmt} {suite body : List Stmt} {l : List (List Nat × Option Nat × List CS)} {cb : Env → Mem → RS} {np pos pos' : Pos} (hb : ∀ (pn : List (Addr × Obj)) (xe : Value → Shared → Prop), PassesOwn (model X.prog X.w) X.A X.env xe → SSs (X.tr pn xe) D body cb) (h : asC P N sc x nm (b :: suite) = some l) :
    SS X D (.Try body [.ExceptHandler (some (.Name x np)) (some nm) (b :: suite) pos'] [] [] pos) (fun r m => match cb r m with
      | .ex c fs r1 m1 => evH D.T W cf l c fs r1 m1
      | a => a) := by
  unfold asC at h
  split at h
  · rename_i j k e1 e2
    split at h
    · rename_i hg
      cases h
      rw [Bool.and_eq_true, decide_eq_true_eq] at hg
      obtain ⟨g1, g2⟩ := E.gl hg.1
      have x1 := E.hP.exg j x (ixOf_at e1)
      refine (ss_tryAs (np := np) (pos := pos) (pos' := pos') (k := k) (d := P.cls.length + j) E.stk E.frm E.calm (by rw [E.hN]; exact E.nd) (by rw [E.hN]; exact ixOf_at e2) (by show X.env.scope.names.lookup nm = _; rw [E.hs]; exact hg.2) ⟨g1, g2, .inl x1⟩ (fun c a1 a2 => E.hP.exm c j x a1 a2 (ixOf_at e1)) hb fun a pn => blkC_ok (W := W) (cf := cf) (X := X.suite a pn) (fun s c z => hotS_ok (X := X.suite a pn) E.hP.xfs E.hN E.nd E.hs E.fn z) _).cg fun r m => ?_
      cases cb r m with
      | ex c fs r1 m1 =>
        dsimp only
        rw [evH, evH]
        unfold asGo
        rw [show [P.cls.length + j].any (D.T.sub c) = D.T.sub c (P.cls.length + j) from by simp]
        all_goals rfl
      | _ => rfl
    · cases h
  · cases h
theorem compS_ok {f : Scope → Expr → Option CE} (hf0 : ∀ X, EC P X D n cf N sc → ∀ e c, f sc e = some c → SE X D e (evE D.T cf c) ∧ ST X D e (evE D.T cf c)) (hlc0 : ∀ X, EC P X D n cf N sc → ∀ elt gs scope lpos c, f sc (.ListComp elt gs scope lpos) = some c → LcP X D cf elt gs scope c) :
    ∀ (k : Nat) (st : Stmt) (s : CS) (X : Cx), SC P X D n cf N sc → compS P N f sc k st = some s → SS X D st (evS D.T W cf s)
  | 0, st, s, X, E, h => by cases h
  | k + 1, st, s, X, E, h => by
    have ih := fun st s z => compS_ok hf0 hlc0 k st s X E z
    have hf := hf0 X E.toEC
    have hlc := hlc0 X E.toEC
    have hN : X.N.Nodup := by rw [E.hN]; exact E.nd
    unfold compS at h
    split at h
    · cases h
      exact ss_doc.congr fun r m => by rw [evS]
    · rename_i e p _
      split at h
      · rename_i hn
        cases e1 : f sc e with
        | none => rw [e1] at h; cases h
        | some c =>
          rw [e1] at h
          cases h
          exact (ss_expr hn (hf _ _ e1).1).congr fun r m => by rw [evS]
      · cases h
    · cases h
      exact ss_retN.congr fun r m => by rw [evS]
    · rename_i e p
      cases e1 : f sc e with
      | none => rw [e1] at h; cases h
      | some c =>
        rw [e1] at h
        cases h
        exact (ss_ret (hf _ _ e1).1).congr fun r m => by rw [evS]
    · cases h
      exact ss_pass.congr fun r m => by rw [evS]
    · cases h
      exact ss_brk.congr fun r m => by rw [evS]
    · cases h
      exact ss_cont.congr fun r m => by rw [evS]
    · exact asgC_ok E (fun e c z => (hf e c z).1) hlc h
    · rename_i x p op e p2
      split at h
      · rename_i j c e1 e2
        split at h
        · rename_i hc
          cases h
          rw [Bool.and_eq_true] at hc
          have hi : X.N[j]? = some x := by rw [E.hN]; exact ixOf_at e1
          have hx : L2.Loc X.env.scope x := by rw [E.hs]; exact locB_ok hc.1
          have h2 := hc.2
          cases op with
          | Add => exact (ss_aug (pos := p2) (pos' := p) (op := .Add) iop_add hN hi hx (.inl (E.fn x)) (hf _ _ e2).1).congr fun r m => by rw [evS]; try rfl
          | Sub => exact (ss_aug (pos := p2) (pos' := p) (op := .Sub) iop_sub hN hi hx (.inl (E.fn x)) (hf _ _ e2).1).congr fun r m => by rw [evS]; try rfl
          | _ => cases h2
        · cases h
      · cases h
    · rename_i c a b p
      cases e1 : f sc c with
      | none => rw [e1] at h; cases h
      | some cc =>
        rw [e1] at h
        cases h
        exact (ss_if (hf _ _ e1).2 (blkC_ok (fun s c z => ih s c z) a) (blkC_ok (fun s c z => ih s c z) b)).congr fun r m => by rw [evS]
    · rename_i c a p
      cases e1 : f sc c with
      | none => rw [e1] at h; cases h
      | some cc =>
        rw [e1] at h
        cases h
        exact (ss_whl (n := W) E.own (hf _ _ e1).2 (blkC_ok (fun s c z => ih s c z) a)).congr fun r m => by rw [evS]
    · rename_i tg it a p
      split at h
      · rename_i hp
        split at h
        · rename_i t src e1 e2
          cases h
          exact (ss_for E.own E.calm (srcC_ok E.toEC (fun e c z => (hf e c z).1) id e2) (tgC_ok E e1) (blkC_ok (fun s c z => ih s c z) a) (folded_no hp _)).congr fun r m => by rw [evS]; try rfl
        · cases h
      · cases h
    · rename_i x p e es p2 p3
      split at h
      · rename_i j cs e1 e2
        split at h
        · rename_i hg
          cases h
          rw [Bool.and_eq_true, decide_eq_true_eq] at hg
          obtain ⟨g1, g2⟩ := E.gl hg.1
          obtain ⟨x1, x2, x3⟩ := E.hP.ex j x (ixOf_at e1)
          obtain ⟨a1, a2, a3⟩ := exprs_ok (fun e c z => (hf e c z).1) e2
          refine (ss_raise0 (pos := p2) (p := p) (pos' := p3) E.calm x2 g1 x1 g2 a1 a2 (fun r m vs m' z => by rw [evL_len z, a3]) hg.2).congr fun r m => ?_
          rw [evS]
          cases e3 : evL D.T cf cs r m with
          | ok vs m1 =>
            dsimp only
            have l1 := evL_len e3
            rw [a3] at l1
            rw [if_neg (by rw [x3, l1, List.length_cons]; omega), if_pos x3]
          | ex d fs m1 => rfl
          | fail => rfl
        · cases h
      · exact raiseC_ok E (fun e c z => (hf e c z).1) h
      · cases h
    · rename_i body x xp nm b suite p2 p
      cases e1 : asC P N sc x nm (b :: suite) with
      | none => rw [e1] at h; cases h
      | some l =>
        rw [e1] at h
        cases h
        exact (asC_ok (W := W) (np := xp) (pos := p) (pos' := p2) E (fun pn xe pa => blkC_ok (fun s c z => compS_ok hf0 hlc0 k s c (X.tr pn xe) (E.tr pn xe pa) z) body) e1).congr fun r m => by
          rw [evS]
          try (cases evB D.T W cf (blkC (compS P N f sc k) body) r m <;> rfl)
    · rename_i body hd hs p _
      cases e1 : hdlsC P N sc (hd :: hs) with
      | none => rw [e1] at h; cases h
      | some l =>
        rw [e1] at h
        cases h
        obtain ⟨l', h1, h2⟩ := hdlsC_ok (W := W) E e1
        exact (ss_try (pos := p) E.stk E.frm E.calm (fun pn xe pa => blkC_ok (fun s c z => compS_ok hf0 hlc0 k s c (X.tr pn xe) (E.tr pn xe pa) z) body) h1).congr fun r m => by
          rw [evS]
          cases evB D.T W cf (blkC (compS P N f sc k) body) r m with
          | ex c fs r1 m1 => exact h2 c fs r1 m1
          | _ => rfl
    · cases h
end
end U
end Part_U19

section Part_U20
set_option Elab.async false
set_option linter.all false
set_option maxRecDepth 100000
set_option maxHeartbeats 4000000
/-! U20: defs, level by level. -/
namespace U
open PySem PySem.Spec PyProof.Rows L2
section
variable {D : Dat} {i : List Addr} {H : Hp} {m : Mem} {E : XK} {Q : VK} {X : Cx}
theorem RVs.low_of {i' : List Addr} {H' : Hp} {n : Nat} {x : V} {v : MV} (hn : n ≤ i'.length) (q : RV D i' H' x v) (l : v.low n = true) : RV D (i'.take n) H' x v := q.slim take_pre l
theorem Ext.cut {i' : List Addr} {H' : Hp} (S : Sim D i m H) (e : Ext D i H i' H') : Ext D i H (i'.take m.length) H' :=
  ⟨fun k a z => take_pre k a (by have := (List.getElem?_eq_some_iff.mp z).1; have := S.len; omega) (e.pre k a z), e.sol⟩
theorem gcV_ok {i' : List Addr} {H' : Hp} {m' : Mem} {x : V} {v : MV} (S : Sim D i m H) (h : Pst D (fun cls d _ H => E cls d H) ([] : L2.St) (RV D) Q i H (gcV m v m')) (e : Ext D i H i' H') (S' : Sim D i' m' H') (q : RV D i' H' x v) : Q x H' := by
  unfold gcV at h
  split at h
  · rename_i hok
    have lo := okOld_low S hok
    split at h
    · rename_i hl
      exact h (i'.take m.length) H' x (e.cut S) (S'.slim lo) (q.slim take_pre hl)
    · rename_i hl
      split at h
      · rename_i k
        split at h
        · rename_i o eo
          split at h
          · rename_i hol
            cases q with
            | @ref a _ h0 =>
              have hk : ¬ k < m.length := fun z => hl (decide_eq_true z)
              have hlen : (i'.take m.length).length = m.length := by
                rw [List.length_take]
                have h1 := S'.len
                have h2 := (List.getElem?_eq_some_iff.mp eo).1
                omega
              have tl : (m'.take m.length).length = m.length := by
                rw [List.length_take]
                have h2 := (List.getElem?_eq_some_iff.mp eo).1
                omega
              have St := S'.slim lo
              have e2 : Ext D (i'.take m.length) H' (i'.take m.length ++ [a]) H' := ⟨fun _ _ z => getE_old z, fun _ _ z _ => z⟩
              refine h (i'.take m.length ++ [a]) H' (.ref a) ((e.cut S).trans e2) ⟨?_, fun j b u z1 z2 => ?_, fun j j2 b u u2 z1 z2 z3 z4 l1 l2 => ?_⟩ (.ref (getE_append_len hlen))
              · rw [List.length_append, List.length_append, hlen, tl]
                rfl
              · rcases getE_push z1 with z1 | ⟨z1, z1'⟩
                · rcases getE_push z2 with z2 | ⟨z2, _⟩
                  · exact (St.at_ j b u z1 z2).ext e2 fun _ _ z => z
                  · have := (List.getElem?_eq_some_iff.mp z1).1
                    omega
                · rcases getE_push z2 with z2 | ⟨_, z2⟩
                  · have := (List.getElem?_eq_some_iff.mp z2).1
                    omega
                  · rw [z1', z2]
                    exact ((S'.at_ k a _ h0 eo).slim take_pre hol).ext e2 fun _ _ z => z
              · have old : ∀ {j : Nat} {b : Addr}, (i'.take m.length)[j]? = some b → j < m.length ∧ i'[j]? = some b := fun {j b} z => by
                  have hj := (List.getElem?_eq_some_iff.mp z).1
                  rw [hlen] at hj
                  rw [List.getElem?_take_of_lt hj] at z
                  exact ⟨hj, z⟩
                have oldm : ∀ {j : Nat} {u : MO}, (m'.take m.length)[j]? = some u → m'[j]? = some u := fun {j u} z => by
                  have hj := (List.getElem?_eq_some_iff.mp z).1
                  rw [tl] at hj
                  rwa [List.getElem?_take_of_lt hj] at z
                rcases getE_push z1 with z1 | ⟨z1, z1'⟩ <;> rcases getE_push z2 with z2 | ⟨z2, z2'⟩
                · rcases getE_push z3 with z3 | ⟨z3, _⟩
                  · rcases getE_push z4 with z4 | ⟨z4, _⟩
                    · exact St.nd j j2 b u u2 z1 z2 z3 z4 l1 l2
                    · have := (old z2).1
                      omega
                  · have := (old z1).1
                    omega
                · rcases getE_push z3 with z3 | ⟨z3, _⟩
                  · rcases getE_push z4 with z4 | ⟨_, z4⟩
                    · have := (List.getElem?_eq_some_iff.mp z4).1
                      omega
                    · have := S'.nd j k b u o (old z1).2 (by rw [z2']; exact h0) (oldm z3) eo l1 (by rw [← z4]; exact l2)
                      have := (old z1).1
                      omega
                  · have := (old z1).1
                    omega
                · rcases getE_push z4 with z4 | ⟨z4, _⟩
                  · rcases getE_push z3 with z3 | ⟨_, z3⟩
                    · have := (List.getElem?_eq_some_iff.mp z3).1
                      omega
                    · have := S'.nd k j2 b o u2 (by rw [z1']; exact h0) (old z2).2 eo (oldm z4) (by rw [← z3]; exact l1) l2
                      have := (old z2).1
                      omega
                  · have := (old z2).1
                    omega
                · omega
          · exact h i' H' x e S' q
        · exact h.elim
      · exact h i' H' x e S' q
  · exact h i' H' x e S' q
theorem gcX_ok {i' : List Addr} {H' : Hp} {m' : Mem} {c : Nat} {fs : List MV} {cls : Value} {d : Option Addr} (S : Sim D i m H) (h : Pst D (fun cls d _ H => E cls d H) ([] : L2.St) (RV D) Q i H (gcX m c fs m')) (e : Ext D i H i' H') (S' : Sim D i' m' H') (q : RX D i' H' c fs cls d) : E cls d H' := by
  unfold gcX at h
  split at h
  · rename_i hok
    rw [Bool.and_eq_true] at hok
    refine h (i'.take m.length) H' cls d (e.cut S) (S'.slim (okOld_low S hok.1)) ?_
    obtain ⟨h1, h2 | ⟨dd, y, v, h2, h3, h4, h5⟩⟩ := q
    · exact ⟨h1, .inl h2⟩
    · subst h2
      have hl := hok.2
      exact ⟨h1, .inr ⟨dd, y, v, rfl, h3, h4, h5.slim take_pre (by
        unfold MV.lows at hl
        exact (Bool.and_eq_true_iff.mp hl).1)⟩⟩
  · exact h i' H' cls d e S' q
theorem out_ok {a : RS} (S : Sim D i m H) (h : Pst D (fun cls d _ H => E cls d H) ([] : L2.St) (RV D) Q i H (a.out m)) : PsS X D (fun cls d _ H => E cls d H) { nx := fun _ H' => Q .non H', rt := Q } i H a := by
  cases a with
  | nx r m' => exact fun i' H' σ' e S' _ => gcV_ok S h e S' .non
  | rt v m' => exact fun i' H' x e S' q => gcV_ok S h e S' q
  | ex c fs r m' => exact fun i' H' σ' cls d e S' _ q => gcX_ok S h e S' q
  | bk r m' => exact h.elim
  | ct r m' => exact h.elim
  | fail => exact h.elim
end

/-! ### the program's defs -/
structure Lay where
  ad : Nat → Addr
  fdt : Nat → FuncData
  psn : Nat → List Str
/-- how a call binds, told without what it computes -/
def Bnd (K : PySem.W.Frag) (D : Dat) (fd : FD) (fdt : FuncData) (ps : List Str) (h k : Nat) (ks : List Str) (ix : List Nat) : Prop :=
  ∃ (ds : List Value) (dvs : List V) (dx : List MV), Vals dvs ds ∧ Free D dvs dx ∧
    (∀ (s : Shared) (u0 us ws : List Value), K.In s.heap → u0.length = h → us.length = k → ws.length = ks.length → BindsTo s fdt ⟨u0 ++ us, ks.zip ws⟩ (ps.zip (u0 ++ (ord ix (us ++ ws) ++ ds)))) ∧
    ∀ x0 xs : List MV, x0.length = h → xs.length = k + ks.length → pad fd (x0 ++ ord ix xs) = x0 ++ (ord ix xs ++ dx) ∧ (x0 ++ (ord ix xs ++ dx)).length = fd.np
/-- the depth to which the text is compiled -/
def cF : Nat := 60
structure Stat (P : Prg) (L : Lay) (defs : Nat → Option FD) (Pg : Program) (w : World) (K : PySem.W.Frag) (mg : Str → Option Value) (base : Heap) (D : Dat) : Prop where
  hK : K = D.K
  A : AOk P.fldN D
  kit : KitF D
  df : ∀ f fd, defs f = some fd → ∃ (x qual : Str) (params : Arguments) (body : List Stmt) (scope : Scope) (dvs : List V) (kws : List (Str × V)) (N : List Str), FunD K x qual params body scope dvs kws (L.ad f) (L.fdt f) ∧ FnScope N (L.psn f) scope ∧ (L.psn f).length = fd.np ∧ N.length = fd.ns ∧
    blkC (compS P N (compE P N cF) scope cF) body = fd.body
  fnm : ∀ f x, P.fns[f]? = some x → ∃ fd, defs f = some fd ∧ mg x = some (.ref (L.ad f)) ∧ PySem.W.keepIn K (.ref (L.ad f)) = true ∧ ∀ k ks ix, (f, k, ks, ix) ∈ P.sh → Bnd K D fd (L.fdt f) (L.psn f) 0 k ks ix
  cl : ∀ c x, P.cls[c]? = some x → mg x = some (.ref (D.ca c))
  nwf : ∀ c x k ks ix, P.cls[c]? = some x → (c, k, ks, ix) ∈ P.shN → ∃ f fd, D.T.init c = some f ∧ defs f = some fd ∧ Bnd K D fd (L.fdt f) (L.psn f) 1 k ks ix ∧ Mk K (D.ca c) (L.ad f)
  nw0 : ∀ c x, P.cls[c]? = some x → c ∈ P.new0 → Mk0 K (D.ca c) ∧ D.T.init c = none
  mtf : ∀ mm x k ks ix, P.mth[mm]? = some x → (mm, k, ks, ix) ∈ P.shM → ∀ c f, D.T.meth c mm = some f → ∃ fd, defs f = some fd ∧ Bnd K D fd (L.fdt f) (L.psn f) 1 k ks ix ∧ Cls K (D.ca c) ∧ Meth K (D.ca c) x (L.ad f) ∧ x ∉ D.fn c
  cn : ∀ k x, P.con[k]? = some x → ∃ v u, mg x = some u ∧ RelV v u ∧ ∀ i H, RV D i H v (D.T.con k)
  bl : ∀ x, x ∈ bltN → mg x = none
  dc : ∀ k x, P.dcs[k]? = some x → ∃ d, mg x = some (.ref d) ∧ DicOk K w d (D.T.dic k)
  ex : ∀ j x, P.exs[j]? = some x → mg x = some (.ref (D.ca (P.cls.length + j))) ∧ Ex0 K (D.ca (P.cls.length + j)) ∧ D.T.fields (P.cls.length + j) = 0
  exm : ∀ c j x, D.T.ncls ≤ c → c < D.T.ncls + D.T.nex → (P.exs ++ P.exi)[j]? = some x → PySem.W.exmOne K (.ref (D.ca c)) (.ref (D.ca (P.cls.length + j))) = some (D.T.sub c (P.cls.length + j))
  exg : ∀ j x, (P.exs ++ P.exi)[j]? = some x → mg x = some (.ref (D.ca (P.cls.length + j)))
  x1 : ∀ j x, P.exi[j]? = some x → (∀ (bs : Heap) (n : Nat), Ex1 Pg w K mg bs n (D.ca (P.cls.length + (P.exs.length + j))) (D.xf (P.cls.length + (P.exs.length + j)))) ∧ D.T.fields (P.cls.length + (P.exs.length + j)) = 1
  xfs : ∀ c z j f, P.fld[j]? = some f → D.T.exf c j = some z → z = 0 ∧ D.xf c = f ∧ XfC K (D.ca c) ∧ PySem.W.findIn K (.ref (D.ca c)) f = some none
section
variable {P : Prg} {L : Lay} {defs : Nat → Option FD} {Pg : Program} {w : World} {K : PySem.W.Frag} {mg : Str → Option Value} {base : Heap} {D : Dat} {W : Nat}
theorem pad_full {fd : FD} {vs : List MV} (h : vs.length = fd.np) : pad fd vs = vs := by
  unfold pad
  rw [h, Nat.sub_self, Nat.sub_zero, List.drop_length, List.append_nil]
theorem run_pad {n f : Nat} {fd : FD} {vs ws : List MV} {m : Mem} (hd : defs f = some fd) (h1 : pad fd vs = ws) (h2 : ws.length = fd.np) : run D.T W defs n f ws m = run D.T W defs n f vs m := by
  cases n with
  | zero => rfl
  | succ n =>
    unfold run
    rw [hd]
    dsimp only
    rw [pad_full h2, h1]
theorem Bnd.bindF {X : Cx} (hXK : X.K = K) {n f : Nat} {fd : FD} {h k : Nat} {ks : List Str} {ix : List Nat} {fdt : FuncData} {ps : List Str} (hd : defs f = some fd) (hnp : ps.length = fd.np) (B : Bnd K D fd fdt ps h k ks ix) : BindF X D (run D.T W defs n) f fdt ps h k ks ix := by
  obtain ⟨ds, dvs, dx, h1, h2, h3, h4⟩ := B
  refine ⟨ds, dvs, dx, h1, h2, by rw [hXK]; exact h3, fun x0 xs l0 l1 => ?_⟩
  obtain ⟨a1, a2⟩ := h4 x0 xs l0 l1
  exact ⟨by rw [hnp]; exact a2, fun m => run_pad hd a1 a2⟩
theorem pok_of (S : Stat P L defs Pg w K mg base D) {X : Cx} (h1 : X.prog = Pg) (h2 : X.w = w) (h3 : X.K = K) (h4 : X.mg = mg) (h5 : X.base = base) {n : Nat} (F : ∀ f fd, defs f = some fd → FnG Pg w K mg base n (L.ad f) (L.fdt f) (L.psn f) (spOf D (L.psn f).length (run D.T W defs n f))) : POk P X D n (run D.T W defs n) where
  hK := h3.trans S.hK
  A := S.A
  kit := S.kit
  fn := fun f x e => by
    obtain ⟨fd, hd, a1, a2, a3⟩ := S.fnm f x e
    obtain ⟨_, _, _, _, _, _, _, _, _, _, hnp, _⟩ := S.df f fd hd
    refine ⟨L.ad f, L.fdt f, L.psn f, by rw [h4]; exact a1, by rw [h3]; exact a2, by rw [h1, h2, h3, h4, h5]; exact F f fd hd, fun k ks ix hm => (a3 k ks ix hm).bindF h3 hd hnp⟩
  cl := fun c x e => by rw [h4]; exact S.cl c x e
  nw := fun c x k ks ix e hm => by
    obtain ⟨f, fd, a1, a2, a3, a4⟩ := S.nwf c x k ks ix e hm
    obtain ⟨_, _, _, _, _, _, _, _, _, _, hnp, _⟩ := S.df f fd a2
    exact ⟨fun c => S.A.len c, f, L.ad f, L.fdt f, L.psn f, a1, by rw [h1, h2, h3, h4, h5]; exact F f fd a2, a3.bindF h3 a2 hnp, by rw [h3]; exact a4⟩
  nw0 := fun c x e hm => by rw [h3]; exact S.nw0 c x e hm
  mt := fun mm x k ks ix e hm => ⟨fun c f ef => by
    obtain ⟨fd, a1, a2, a3, a4, a5⟩ := S.mtf mm x k ks ix e hm c f ef
    obtain ⟨_, _, _, _, _, _, _, _, _, _, hnp, _⟩ := S.df f fd a1
    exact ⟨L.ad f, L.fdt f, L.psn f, by rw [h1, h2, h3, h4, h5]; exact F f fd a1, a2.bindF h3 a1 hnp, by rw [h3]; exact a3, by rw [h3]; exact a4, a5⟩⟩
  cn := fun k x e => by rw [h4]; exact S.cn k x e
  bl := fun x e => by rw [h4]; exact S.bl x e
  dc := fun k x e => by rw [h4, h3, h2]; exact S.dc k x e
  ex := fun j x e => by rw [h4, h3]; exact S.ex j x e
  exm := fun c j x a1 a2 e => by rw [h3]; exact S.exm c j x a1 a2 e
  exg := fun j x e => by rw [h4]; exact S.exg j x e
  x1 := fun j x e => by rw [h1, h2, h3, h4]; exact ⟨(S.x1 j x e).1 _ n, (S.x1 j x e).2⟩
  xfs := fun c z j f e1 e2 => by rw [h3]; exact S.xfs c z j f e1 e2
theorem compE_lc {N : List Str} {k : Nat} {sc scope : Scope} {elt : Expr} {gs : List Comprehension} {pos : Pos} {c : CE} {n : Nat} {cf : CallF} {X : Cx} (E : EC P X D n cf N sc) (h : compE P N (k + 1) sc (.ListComp elt gs scope pos) = some c) : LcP X D cf elt gs scope c := by
  unfold compE at h
  exact lcX_ok E (fun sc e c X E' z => compE_ok k sc e c X E' z) h
theorem re_entry {X : Cx} {i : List Addr} {H : Hp} {fd : FD} {N : List Str} {vs : List V} {xs : List MV} (q : RVs D i H vs xs) (hl : vs.length ≤ N.length) (hN : N.length = fd.ns) : RE X D i H (entry fd xs) (L2.start N vs) := by
  have hvx := q.length
  unfold entry L2.start
  refine ⟨by simp; omega, fun k s h => ?_⟩
  by_cases hk : k < xs.length
  · rw [List.getElem?_append_left (by simpa using hk), List.getElem?_map] at h
    cases e : xs[k]? with
    | none => rw [e] at h; cases h
    | some x =>
      rw [e] at h
      cases h
      obtain ⟨v, e1, e2⟩ := q.get e
      refine ⟨some v, ?_, v, rfl, e2⟩
      rw [List.getElem?_append_left (by simp; omega), List.getElem?_map, e1]
      rfl
  · rw [List.getElem?_append_right (by simpa using hk)] at h
    have hs : s = .no := by
      have := List.mem_of_getElem? h
      rw [List.mem_replicate] at this
      exact this.2
    subst hs
    have hlt := (List.getElem?_eq_some_iff.mp h).1
    rw [List.length_replicate, List.length_map] at hlt
    refine ⟨none, ?_, trivial⟩
    rw [List.getElem?_append_right (by simp; omega), List.getElem?_replicate, if_pos (by simp; omega)]
theorem lvl (S : Stat P L defs Pg w K mg base D) : ∀ (n f : Nat) (fd : FD), defs f = some fd → FnG Pg w K mg base n (L.ad f) (L.fdt f) (L.psn f) (spOf D (L.psn f).length (run D.T W defs n f))
  | 0, f, fd, hd => ⟨fun vs H Q E h => h.1, fun A outer s H args us vs Q E hr e0 hb r h => by
    obtain ⟨_, i, m, xs, _, _, h⟩ := h
    exact h.elim⟩
  | n + 1, f, fd, hd => by
    obtain ⟨x, qual, params, body, scope, dvs, kws, N, F, Sc, hnp, hns, hb⟩ := S.df f fd hd
    refine fnG_of F Sc (fun vs H Q E h => h.1) fun cdv A outer s H vs Q E hr hsp => ?_
    obtain ⟨hl, i, m, xs, Sm, q, h⟩ := hsp
    have hx : xs.length = fd.np := by rw [← q.length, hl, hnp]
    unfold run at h
    rw [hd] at h
    dsimp only at h
    rw [pad_full hx, if_pos hx] at h
    have ps : POk P (cxOf (L2.CX Pg w) Pg w K mg base N qual scope (L.ad f) cdv A outer s H E) D n (run D.T W defs n) := pok_of S rfl rfl rfl rfl rfl fun f fd hd => lvl S n f fd hd
    have ec : SC P (cxOf (L2.CX Pg w) Pg w K mg base N qual scope (L.ad f) cdv A outer s H E) D n (run D.T W defs n) N scope := ⟨⟨ps, rfl, Sc.nd, rfl, rfl, hr⟩, fun _ => rfl, passes_of rfl, Sc.kind, rfl, rfl⟩
    have tk : Takes (cxOf (L2.CX Pg w) Pg w K mg base N qual scope (L.ad f) cdv A outer s H E) (fun cls d _ H => E cls d H) := takes_of rfl rfl rfl rfl
    have hpl : vs.length ≤ N.length := by
      have := congrArg List.length Sc.pre
      rw [List.length_take] at this
      omega
    refine ⟨_, blkC_ok (W := W) (fun s c z => compS_ok (fun X E e c z => compE_ok cF _ e c _ E z) (fun X E elt gs scope lpos c z => compE_lc (k := 59) E z) cF s c _ ec z) body _ tk, i, entry fd xs, m, Sm, re_entry q hpl hns, ?_⟩
    rw [hb]
    exact out_ok Sm h
end
end U
end Part_U20

section Part_U21
set_option Elab.async false
set_option linter.all false
set_option maxRecDepth 100000
set_option maxHeartbeats 4000000
/-! U21: what the head tells, told as data; all that the layer asks of a program. -/
namespace U
open PySem PySem.Spec PyProof.Rows L2
/-- a constant -/
inductive Cn where
  | int (i : Int) | str (x : Txt) | tup (xs : List Txt)
def Cn.v : Cn → MV
  | .int i => .int i
  | .str x => .str x
  | .tup xs => .tup (xs.map .str)
def dvs (xs : List Txt) : List He.Dv := xs.map fun z => .str ⟨z.toArray⟩
/-- a program, as data: its names, its defs (by number; those of the module first), their names of slots, how many parameters; of each class: attributes, frozen, __init__, methods, above -/
structure Dta where
  P : Prg
  dd : List He.DefD
  NN : List (List Str)
  np : List Nat
  flds : List (List Str)
  con : List Cn
  dic : List (List (Txt × Int))
  xfd : List Str
  xin : List Nat
  frozen : List Bool
  init : List (Option Nat)
  meth : List (List (Option Nat))
  sub : List (List Bool)
  kw : List (Nat × Nat × Nat × List Str × List Nat)
section
variable (A : Dta)
/-- where the exceptions begin that keep one thing -/
def Dta.xb : Nat := A.P.cls.length + A.P.exs.length
/-- what a class's things keep -/
def Dta.fnl (c : Nat) : List Str := match A.flds[c]? with
  | some l => l
  | none => if A.xb ≤ c then match A.xfd[c - A.xb]? with
    | some f => [f]
    | none => []
    else []
def Dta.T : Tab where
  ncls := A.P.cls.length
  nex := A.P.exs.length + A.P.exi.length
  con := fun k => ((A.con[k]?).map Cn.v).getD .non
  dic := fun k => (A.dic[k]?).getD []
  fields := fun c => (A.fnl c).length
  fix := fun c f => ixOf ((A.flds[c]?).getD []) (A.P.fldN f)
  frozen := fun c => (A.frozen[c]?).getD false
  init := fun c => (A.init[c]?).getD none
  meth := fun c mm => (((A.meth[c]?).getD [])[mm]?).getD none
  sub := fun c d => (((A.sub[c]?).getD [])[d]?).getD false
  exf := fun c j => if A.xb ≤ c ∧ c < A.xb + A.P.exi.length then match A.xfd[c - A.xb]? with
    | some f => if A.P.fldN j = f then some 0 else none
    | none => none
    else none
  eqm := fun _ => none
def Dta.N (f : Nat) : List Str := (A.NN[f]?).getD []
def Dta.ps (f : Nat) : List Str := (A.N f).take ((A.np[f]?).getD 0)
def Dta.fd (d : He.DefD) (f : Nat) : FD := ⟨(A.ps f).length, (A.N f).length, [], blkC (compS A.P (A.N f) (compE A.P (A.N f) cF) d.scope cF) d.body⟩
def Dta.defs (f : Nat) : Option FD := (A.dd[f]?).map fun d => A.fd d f
def clsN (c : Nat) : Str := (A.P.cls[c]?).getD Str.empty
def Dta.all : List Str := A.P.cls ++ (A.P.exs ++ A.P.exi)
def caK (K : PySem.W.Frag) (c : Nat) : Addr := match A.all[c]? with
  | some x => He.ga K x
  | none => 0
/-! ### checks that ask nothing of the heap -/
def scopeB (N ps : List Str) (sc : Scope) : Bool := decide (sc.kind = .function) && (!sc.isCoroutine && (!sc.isGenerator && (decide N.Nodup && (decide (N.take ps.length = ps) && (ps.all (fun x => decide (sc.names.lookup x = some .local) || decide (sc.names.lookup x = some .cell)) && sc.names.all fun y => decide (y.2 ≠ .free))))))
theorem scopeB_ok {N ps : List Str} {sc : Scope} (h : scopeB N ps sc = true) : FnScope N ps sc := by
  unfold scopeB at h
  simp only [Bool.and_eq_true, decide_eq_true_eq, Bool.not_eq_true', List.all_eq_true, Bool.or_eq_true] at h
  obtain ⟨h1, h2, h3, h4, h5, h6, h7⟩ := h
  exact ⟨h1, h2, h3, h4, h5, fun x hx => h6 x hx, fun y hy => h7 y hy⟩
/-- a call's shape (h values ahead) can be bound -/
def Dta.shB (f h k : Nat) (ks : List Str) (ix : List Nat) : Bool := (ks.isEmpty && (ix.isEmpty && decide (k + h = (A.ps f).length))) || (A.kw.any (fun q => decide (q = (f, h, k, ks, ix))) && decide ((ord ix (List.range (k + ks.length))).length + h = (A.ps f).length))
def Dta.defB : Bool := A.dd.zipIdx.all fun q => scopeB (A.N q.2) (A.ps q.2) q.1.scope && (q.1.dfl.isEmpty && q.1.kwd.isEmpty)
def Dta.fldB : Bool := A.flds.all (fun l => decide l.Nodup && decide (l.length < 900)) && (decide (A.flds.length ≤ A.P.cls.length) && (decide (A.frozen.length ≤ A.P.cls.length) && (decide (A.P.con.length ≤ A.con.length) && (decide (A.P.dcs.length ≤ A.dic.length) && decide (A.xfd.length = A.P.exi.length)))))
def Dta.fnB : Bool := A.P.fns.zipIdx.all fun q => match A.dd[q.2]? with
  | some d => decide (d.at_ = (q.1, none))
  | none => false
def Dta.callB : Bool := A.P.sh.all (fun q => A.shB q.1 0 q.2.1 q.2.2.1 q.2.2.2) && (A.P.shN.all (fun q => match (A.init[q.1]?).getD none with
    | some f => (A.dd[f]?).isSome && A.shB f 1 q.2.1 q.2.2.1 q.2.2.2
    | none => false) &&
  (A.P.new0.all (fun c => decide ((A.init[c]?).getD none = none)) &&
  (A.P.shM.all (fun q => (List.range A.meth.length).all fun c => match (((A.meth[c]?).getD [])[q.1]?).getD none with
    | some f => (A.dd[f]?).isSome && A.shB f 1 q.2.1 q.2.2.1 q.2.2.2
    | none => true) && decide (A.meth.length ≤ A.P.cls.length))))
/-! ### checks of the heap -/
def allTy : List Ty := [.int, .bool, .str, .tup, .lst, .dct] ++ (List.range A.P.cls.length).map .own
def dtyV (K : PySem.W.Frag) : Ty → Value
  | .own c => .ref (caK A K c)
  | t => .type (tyName t)
def dvtV (K : PySem.W.Frag) : Option Ty → Value
  | none => .type "NoneType"
  | some t => dtyV A K t
def conFa (o : Option Cn) (x : Str) : He.Fa := match o with
  | some (.int i) => .int x i
  | some (.str z) => .str x ⟨z.toArray⟩
  | some (.tup _) => .glo x
  | none => .free x
/-- a table as the head tells it -/
def dkeys (l : List (Txt × Int)) : List Str := l.map fun p => ⟨p.1.toArray⟩
def dvals (l : List (Txt × Int)) : List (Str × He.Dv) := l.map fun p => (⟨p.1.toArray⟩, .int p.2)
def Dta.tabs : List He.Tab := A.P.dcs.zipIdx.map fun q => ((fun K => He.ga K q.1), dkeys ((A.dic[q.2]?).getD []))
/-- the facts of the head -/
def Dta.fa : List He.Fa := bltN.map .free ++ ((A.P.fns ++ (A.P.exs ++ A.P.exi)).map .glo ++ (A.P.cls.map .glo ++ (A.P.cls.map .cls ++
  ((A.P.con.zipIdx.map fun q => conFa A.con[q.2]? q.1) ++ (A.P.dcs.map .glo ++
  (A.flds.zipIdx.flatMap fun q => q.1.map fun f => .noat (clsN A q.2) f))))))
def exB : List Value := [.type "ValueError", .type "Exception", .type "BaseException", .type "object"]
def eqA (a b : Addr) : Bool := decide (a = b)
/-- an exception that keeps one thing, as the head tells it -/
def Dta.xiB (K : PySem.W.Frag) (j : Nat) : Bool := match A.xfd[j]?, (A.xin[j]?).bind fun f => A.dd[f]? with
  | some f, some d => oexB K (caK A K (A.xb + j)) && (He.eqO (PySem.W.findIn K (.ref (caK A K (A.xb + j))) f) (some none) && (xfB K (caK A K (A.xb + j)) &&
    (He.eqO (PySem.W.findIn K (.ref (caK A K (A.xb + j))) "__init__") (some (some (.ref (He.fAd K d.at_)))) && (decide (PySem.W.typeIn K (.ref (He.fAd K d.at_)) = some (.type "function")) && match initS d.body with
      | some i => decide (i.f = f) && (A.P.exs.contains i.T && (supB K (He.ga K i.T) && (scopeB [("self" : Str), i.x] [("self" : Str), i.x] d.scope && (glB d.scope i.T && (okN i.x && (decide ((i.parts.map Part.len).sum ≤ 10000) && decide (A.ps ((A.xin[j]?).getD 0) = [("self" : Str), i.x])))))))
      | none => false))))
  | _, _ => false
def Dta.ex (K : PySem.W.Frag) : Bool :=
  (((none :: (allTy A).map some).all fun a => (allTy A).all fun t => decide (PySem.W.kitOne K (dvtV A K a) (dtyV A K t) = some (isTy A.T a t))) &&
  (((List.range A.P.cls.length).all fun c => He.eqO (PySem.W.findIn K (.ref (caK A K c)) "__class__") (some (some (.builtin "object.__class__"))) && decide (PySem.W.mroIn K (caK A K c) (.type "object") = some true)) &&
  (He.eqO (PySem.W.specialIn K (.builtin "object.__class__") "__get__") (some (some (.builtin "getset_descriptor.__get__"))) &&
  (decide (PySem.W.takesIn K (.builtin "object.__class__") = some true) &&
  (decide (((List.range A.all.length).map (caK A K)).Nodup) && (!((List.range A.all.length).map (caK A K)).contains 0 &&
  (A.P.shN.all (fun q => match A.P.cls[q.1]?, (A.init[q.1]?).getD none with
    | some x, some f => (He.Fa.mkr x).ok K && (match A.dd[f]? with
      | some d => eqA (He.ma K (He.ga K x) "__init__") (He.fAd K d.at_)
      | none => false)
    | _, _ => true) &&
  (A.P.new0.all (fun c => PySem.W.makesIn K (caK A K c) && (He.eqO (PySem.W.findIn K (.ref (caK A K c)) "__init__") (some (some (.builtin "object.__init__"))) && (decide (PySem.W.mroIn K (caK A K c) (.type "object") = some true) && PySem.W.keepIn K (.ref (caK A K c))))) &&
  (A.P.con.zipIdx.all (fun q => match A.con[q.2]? with
    | some (.tup xs) => He.tupB K q.1 (dvs xs)
    | _ => true) &&
  (A.P.dcs.zipIdx.all (fun q => He.valsB K (He.ga K q.1) (dvals ((A.dic[q.2]?).getD []))) &&
  ((List.range A.P.exs.length).all (fun j => PySem.W.excIn K (caK A K (A.P.cls.length + j)) exB "ValueError.__new__" && (PySem.W.keepIn K (.ref (caK A K (A.P.cls.length + j))) && (decide (PySem.W.subIn K (.ref (caK A K (A.P.cls.length + j))) (.type "BaseException") = some true) && (decide (PySem.W.typeIn K (.ref (caK A K (A.P.cls.length + j))) = some (.type "type")))))) &&
  ((List.range (A.P.exs.length + A.P.exi.length)).all (fun j => (List.range (A.P.exs.length + A.P.exi.length)).all fun k => decide (PySem.W.exmOne K (.ref (caK A K (A.P.cls.length + k))) (.ref (caK A K (A.P.cls.length + j))) = some (A.T.sub (A.P.cls.length + k) (A.P.cls.length + j)))) &&
  ((List.range A.P.exi.length).all (fun j => A.xiB K j) &&
  A.P.shM.all (fun q => match A.P.mth[q.1]? with
    | some m => (List.range A.meth.length).all fun c => match (((A.meth[c]?).getD [])[q.1]?).getD none with
      | some f => (He.Fa.meth (clsN A c) m).ok K && ((match A.dd[f]? with
        | some d => eqA (He.ma K (He.ga K (clsN A c)) m) (He.fAd K d.at_)
        | none => false) && !((A.flds[c]?).getD []).contains m)
      | none => true
    | none => true))))))))))))))
end
end U
end Part_U21

section Part_U22
set_option Elab.async false
set_option linter.all false
set_option maxRecDepth 100000
set_option maxHeartbeats 4000000
/-! U22: the data are the program. -/
namespace U
open PySem PySem.Spec PyProof.Rows L2
theorem zipIdx_mem {α : Type} {l : List α} {k : Nat} {x : α} (h : l[k]? = some x) : (x, k) ∈ l.zipIdx := by
  rw [List.mem_zipIdx_iff_getElem?]
  exact h
theorem all_of {α : Type} {l : List α} {p : α → Bool} (h : l.all p = true) {x : α} (hx : x ∈ l) : p x = true := List.all_eq_true.mp h x hx
section
variable {A : Dta} {K : PySem.W.Frag}
/-- how the program's objects are told -/
structure Bk (A : Dta) (K : PySem.W.Frag) : Prop where
  defB : A.defB = true
  fldB : A.fldB = true
  fnB : A.fnB = true
  callB : A.callB = true
theorem all_at {c : Nat} {x : Str} (h : A.P.cls[c]? = some x) : A.all[c]? = some x := by
  unfold Dta.all
  rw [List.getElem?_append_left (List.getElem?_eq_some_iff.mp h).1]
  exact h
theorem all_ex {j : Nat} {x : Str} (h : (A.P.exs ++ A.P.exi)[j]? = some x) : A.all[A.P.cls.length + j]? = some x := by
  unfold Dta.all
  rw [List.getElem?_append_right (Nat.le_add_right _ _), Nat.add_sub_cancel_left]
  exact h
theorem ca_at {c : Nat} {x : Str} (h : A.P.cls[c]? = some x) : caK A K c = He.ga K x := by
  unfold caK
  rw [all_at h]
theorem ca_ex {j : Nat} {x : Str} (h : (A.P.exs ++ A.P.exi)[j]? = some x) : caK A K (A.P.cls.length + j) = He.ga K x := by
  unfold caK
  rw [all_ex h]
def datOf (A : Dta) (K : PySem.W.Frag) (hj : ∀ c d, A.T.frozen c = true → caK A K c = caK A K d → c = d) : Dat := ⟨K, caK A K, A.fnl, fun c => (A.xfd[c - A.xb]?).getD Str.empty, A.T, hj⟩
theorem fnl_cls {c : Nat} (h : c < A.P.cls.length) : A.fnl c = (A.flds[c]?).getD [] := by
  unfold Dta.fnl
  cases A.flds[c]? with
  | none => exact if_neg (by unfold Dta.xb; omega)
  | some l => rfl
theorem fnl_ex {c : Nat} (h : A.P.cls.length ≤ c) (hl : A.flds.length ≤ A.P.cls.length) : A.fnl c = if A.xb ≤ c then match A.xfd[c - A.xb]? with
    | some f => [f]
    | none => []
    else [] := by
  unfold Dta.fnl
  rw [List.getElem?_eq_none (by omega)]
  all_goals rfl
theorem fnl_is (c : Nat) : (∃ l, A.flds[c]? = some l ∧ A.fnl c = l) ∨ (∃ f, A.fnl c = [f]) ∨ A.fnl c = [] := by
  unfold Dta.fnl
  split
  · rename_i l e
    exact .inl ⟨l, e, rfl⟩
  · split
    · split
      · exact .inr (.inl ⟨_, rfl⟩)
      · exact .inr (.inr rfl)
    · exact .inr (.inr rfl)
theorem allTy_mem {t : Ty} (h : tyIn A.T t = true) : t ∈ allTy A := by
  unfold allTy
  cases t with
  | own c =>
    refine List.mem_append_right _ (List.mem_map.mpr ⟨c, List.mem_range.mpr ?_, rfl⟩)
    exact of_decide_eq_true h
  | _ => exact List.mem_append_left _ (by decide)
theorem inj_of (hl : A.frozen.length ≤ A.P.cls.length) (hn : ((List.range A.all.length).map (caK A K)).Nodup) (h0 : ((List.range A.all.length).map (caK A K)).contains 0 = false) : ∀ c d, A.T.frozen c = true → caK A K c = caK A K d → c = d := fun c d hf e => by
  have hle : A.P.cls.length ≤ A.all.length := by
    unfold Dta.all
    rw [List.length_append]
    exact Nat.le_add_right _ _
  have hc : c < A.all.length := by
    by_cases z : c < A.frozen.length
    · omega
    · have e2 : A.frozen[c]? = none := List.getElem?_eq_none (by omega)
      have hf' : (A.frozen[c]?).getD false = true := hf
      rw [e2] at hf'
      cases hf'
  have mem0 : ∀ j, j < A.all.length → caK A K j ≠ 0 := fun j hj z => by
    have : (List.map (caK A K) (List.range A.all.length)).contains 0 = true := List.contains_iff_mem.mpr (List.mem_map.mpr ⟨j, List.mem_range.mpr hj, z⟩)
    rw [h0] at this
    cases this
  have hd : d < A.all.length := by
    by_cases z : d < A.all.length
    · exact z
    · exfalso
      have e2 : A.all[d]? = none := List.getElem?_eq_none (by omega)
      have e3 : caK A K d = 0 := by
        unfold caK
        rw [e2]
      exact mem0 c hc (e.trans e3)
  have g : ∀ j, j < A.all.length → ((List.range A.all.length).map (caK A K))[j]? = some (caK A K j) := fun j hj => by
    rw [List.getElem?_map, List.getElem?_range hj]
    rfl
  have h1 := g c hc
  have h2 := g d hd
  rw [← e] at h2
  exact (List.getElem?_inj (by simpa using hc) hn).mp (h1.trans h2.symm)
theorem bnd_of {D : Dat} {f h k : Nat} {ks : List Str} {ix : List Nat} {d : He.DefD} {kws : List (Str × V)} {a : Addr} {fdt : FuncData} (F : FunD K d.name d.qual d.params d.body d.scope [] kws a fdt) (hs : A.shB f h k ks ix = true)
    (b1 : ∀ (kV doc pm : Value) (an : Option Addr) (cdv ct : Value) (us : List Value), us.length = (A.ps f).length → bindArgs (PySem.W.fnOf d.name d.qual d.params d.body d.scope .none kV doc pm an cdv ct) ⟨us, []⟩ = pure ((A.ps f).zip us))
    (b2 : (f, h, k, ks, ix) ∈ A.kw → ∀ (kV doc pm : Value) (an : Option Addr) (cdv ct : Value) (u0 us ws : List Value), u0.length = h → us.length = k → ws.length = ks.length →
      bindArgs (PySem.W.fnOf d.name d.qual d.params d.body d.scope .none kV doc pm an cdv ct) ⟨u0 ++ us, ks.zip ws⟩ = pure ((A.ps f).zip (u0 ++ ord ix (us ++ ws)))) : Bnd K D (A.fd d f) fdt (A.ps f) h k ks ix := by
  obtain ⟨oc, od, dV, kV, doc, pm, an, cdv, ct, osl, rfl, lk, hcd, hD, hK⟩ := F.ex
  rcases hD with ⟨_, rfl⟩ | ⟨e, _⟩
  · unfold Dta.shB at hs
    simp only [Bool.or_eq_true, Bool.and_eq_true, List.isEmpty_iff, decide_eq_true_eq, List.any_eq_true] at hs
    refine ⟨[], [], [], .nil, fun _ _ => .nil, fun s u0 us ws _ l0 l1 l2 => .of_eq ?_, fun x0 xs l0 l1 => ?_⟩
    · rw [List.append_nil]
      rcases hs with ⟨e1, e2, e3⟩ | ⟨⟨q, hq, e⟩, _⟩
      · subst e1 e2
        have hw : ws = [] := List.length_eq_zero_iff.mp l2
        subst hw
        rw [List.append_nil]
        exact b1 kV doc pm an cdv ct (u0 ++ us) (by rw [List.length_append]; omega)
      · subst e
        exact b2 hq kV doc pm an cdv ct u0 us ws l0 l1 l2
    · rw [List.append_nil]
      have hlen : (x0 ++ ord ix xs).length = (A.ps f).length := by
        rw [List.length_append, l0]
        rcases hs with ⟨e1, e2, e3⟩ | ⟨_, e⟩
        · subst e1 e2
          show h + xs.length = _
          rw [l1]
          simp only [List.length_nil]
          omega
        · rw [ord_len (ix := ix) (l := xs) (l' := List.range (k + ks.length)) (by rw [List.length_range]; exact l1)]
          omega
      exact ⟨pad_full hlen, hlen⟩
  · exact absurd rfl e
theorem rvs_txt {D : Dat} {i : List Addr} {H : Hp} : ∀ xs : List Txt, RVs D i H ((dvs xs).map (He.Dv.v K)) (xs.map MV.str)
  | [] => .nil
  | x :: xs => .cons (.str x) (rvs_txt xs)
/-- what TURN's row lets be said of the head -/
theorem stat_of {h : Heap} {mg : Str → Option Value} {w : World} {Pg : Program} {base : Heap} (B : Bk A K) (X : K.In h) (G : h.Ns mainGlobals mg) (c : He.SaysX A.fa A.dd A.tabs [] A.ex w h K)
    (b1 : ∀ f d, A.dd[f]? = some d → ∀ (kV doc pm : Value) (an : Option Addr) (cdv ct : Value) (us : List Value), us.length = (A.ps f).length → bindArgs (PySem.W.fnOf d.name d.qual d.params d.body d.scope .none kV doc pm an cdv ct) ⟨us, []⟩ = pure ((A.ps f).zip us))
    (b2 : ∀ f d, A.dd[f]? = some d → ∀ h k ks ix, (f, h, k, ks, ix) ∈ A.kw → ∀ (kV doc pm : Value) (an : Option Addr) (cdv ct : Value) (u0 us ws : List Value), u0.length = h → us.length = k → ws.length = ks.length →
      bindArgs (PySem.W.fnOf d.name d.qual d.params d.body d.scope .none kV doc pm an cdv ct) ⟨u0 ++ us, ks.zip ws⟩ = pure ((A.ps f).zip (u0 ++ ord ix (us ++ ws)))) :
    ∃ (D : Dat) (L : Lay), D.K = K ∧ D.T = A.T ∧ Stat A.P L A.defs Pg w K mg base D ∧ ∀ f d, A.dd[f]? = some d → L.ad f = He.fAd K d.at_ ∧ L.psn f = A.ps f ∧ ∃ kws, FunD K d.name d.qual d.params d.body d.scope [] kws (L.ad f) (L.fdt f) := by
  have cd := c.t.d
  have ex := c.more
  unfold Dta.ex at ex
  simp only [Bool.and_eq_true, decide_eq_true_eq, Bool.not_eq_true'] at ex
  obtain ⟨k1, k2, k3, k4, k5, k6, k7, k8, k10, k12, k11, k13, k14, k9⟩ := ex
  have fl := B.fldB
  unfold Dta.fldB at fl
  simp only [Bool.and_eq_true, decide_eq_true_eq] at fl
  obtain ⟨f1, f2, f3, f4, f5, f6⟩ := fl
  have hj := inj_of f3 k5 k6
  have cb := B.callB
  unfold Dta.callB at cb
  simp only [Bool.and_eq_true, decide_eq_true_eq] at cb
  obtain ⟨c1, c2, c3, c4, c5⟩ := cb
  -- facts by name
  have fact : ∀ g : He.Fa, g ∈ A.fa → g.ok K = true := fun g hg => cd.facts hg
  have fFree : ∀ x, x ∈ bltN → mg x = none := fun x hx => He.free_ok X G (fact (.free x) (by unfold Dta.fa; exact List.mem_append_left _ (List.mem_map.mpr ⟨x, hx, rfl⟩)))
  have fGlo : ∀ x, x ∈ A.P.fns ++ (A.P.exs ++ A.P.exi) → mg x = some (.ref (He.ga K x)) := fun x hx => He.glo_ok X G (fact (.glo x) (by
    unfold Dta.fa
    exact List.mem_append_right _ (List.mem_append_left _ (List.mem_map.mpr ⟨x, hx, rfl⟩))))
  have fCls : ∀ x, x ∈ A.P.cls → mg x = some (.ref (He.ga K x)) ∧ Cls K (He.ga K x) := fun x hx => ⟨He.glo_ok X G (fact (.glo x) (by
    unfold Dta.fa
    exact List.mem_append_right _ (List.mem_append_right _ (List.mem_append_left _ (List.mem_map.mpr ⟨x, hx, rfl⟩))))), He.cls_ok (fact (.cls x) (by
    unfold Dta.fa
    exact List.mem_append_right _ (List.mem_append_right _ (List.mem_append_right _ (List.mem_append_left _ (List.mem_map.mpr ⟨x, hx, rfl⟩))))))⟩
  have fCon : ∀ (k : Nat) (x : Str), A.P.con[k]? = some x → (conFa A.con[k]? x).ok K = true := fun k x hk => fact _ (by
    unfold Dta.fa
    exact List.mem_append_right _ (List.mem_append_right _ (List.mem_append_right _ (List.mem_append_right _ (List.mem_append_left _ (List.mem_map.mpr ⟨(x, k), zipIdx_mem hk, rfl⟩))))))
  have fDic : ∀ x, x ∈ A.P.dcs → mg x = some (.ref (He.ga K x)) := fun x hx => He.glo_ok X G (fact (.glo x) (by
    unfold Dta.fa
    exact List.mem_append_right _ (List.mem_append_right _ (List.mem_append_right _ (List.mem_append_right _ (List.mem_append_right _ (List.mem_append_left _ (List.mem_map.mpr ⟨x, hx, rfl⟩))))))))
  have fNo : ∀ (c : Nat) (l : List Str) (f : Str), A.flds[c]? = some l → f ∈ l → NoAttr K (He.ga K (clsN A c)) f := fun c l f hc hf => He.noat_ok (fact (.noat (clsN A c) f) (by
    unfold Dta.fa
    exact List.mem_append_right _ (List.mem_append_right _ (List.mem_append_right _ (List.mem_append_right _ (List.mem_append_right _ (List.mem_append_right _ (List.mem_flatMap.mpr ⟨(l, c), zipIdx_mem hc, List.mem_map.mpr ⟨f, hf, rfl⟩⟩))))))))
  have clsLt : ∀ {c : Nat}, c < A.P.cls.length → ∃ x, A.P.cls[c]? = some x ∧ x ∈ A.P.cls ∧ caK A K c = He.ga K x ∧ clsN A c = x := fun {c} hc => by
    have e := List.getElem?_eq_getElem hc
    exact ⟨A.P.cls[c], e, List.getElem_mem hc, ca_at e, by unfold clsN; rw [e]; rfl⟩
  -- the function objects
  have H : ∀ f : Nat, ∃ fdt : FuncData, ∀ d : He.DefD, A.dd[f]? = some d → ∃ kws, FunD K d.name d.qual d.params d.body d.scope [] kws (He.fAd K d.at_) fdt := fun f => by
    cases e : A.dd[f]? with
    | none => exact ⟨PySem.W.fnOf Str.empty Str.empty ⟨[], [], none, [], [], none, []⟩ [] ⟨.function, [], false, false, []⟩ .none .none .none .none none .none .none, fun d z => by cases z⟩
    | some d =>
      obtain ⟨fdt, F⟩ := cd.defs (List.mem_of_getElem? e)
      have hd := all_of B.defB (zipIdx_mem e)
      simp only [Bool.and_eq_true, List.isEmpty_iff] at hd
      have e1 : d.dvs K = [] := by
        unfold He.DefD.dvs
        rw [hd.2.1]
        rfl
      rw [e1] at F
      exact ⟨fdt, fun d' z => by cases z; exact ⟨_, F⟩⟩
  let fdt : Nat → FuncData := fun f => Classical.choose (H f)
  have fF : ∀ (f : Nat) (d : He.DefD), A.dd[f]? = some d → ∃ kws, FunD K d.name d.qual d.params d.body d.scope [] kws (He.fAd K d.at_) (fdt f) := fun f => Classical.choose_spec (H f)
  let ad : Nat → Addr := fun f => match A.dd[f]? with
    | some d => He.fAd K d.at_
    | none => 0
  have adE : ∀ (f : Nat) (d : He.DefD), A.dd[f]? = some d → ad f = He.fAd K d.at_ := fun f d e => by
    show (match A.dd[f]? with | some d => He.fAd K d.at_ | none => 0) = _
    rw [e]
  have defE : ∀ (f : Nat) (d : He.DefD), A.dd[f]? = some d → A.defs f = some (A.fd d f) := fun f d e => by
    unfold Dta.defs
    rw [e]
    rfl
  have bnd : ∀ {D : Dat} {f h k : Nat} {ks : List Str} {ix : List Nat} {d : He.DefD}, A.dd[f]? = some d → A.shB f h k ks ix = true → Bnd K D (A.fd d f) (fdt f) (A.ps f) h k ks ix := fun {D f h k ks ix d} e hs => by
    obtain ⟨kws, F⟩ := fF f d e
    exact bnd_of F hs (b1 f d e) (b2 f d e h k ks ix)
  refine ⟨datOf A K hj, ⟨ad, fdt, A.ps⟩, rfl, rfl, ?_, fun f d e => ⟨adE f d e, rfl, by rw [show (Lay.mk ad fdt A.ps).ad f = _ from adE f d e]; exact fF f d e⟩⟩
  refine { hK := rfl, A := ?_, kit := ?_, df := ?_, fnm := ?_, cl := ?_, nwf := ?_, nw0 := ?_, mtf := ?_, cn := ?_, bl := fFree, dc := ?_, ex := ?_, exm := ?_, exg := ?_, x1 := ?_, xfs := ?_ }
  · refine ⟨fun c => ?_, fun c => rfl, fun c => ?_, fun c f k e => ?_⟩
    · show (A.fnl c).Nodup
      rcases fnl_is (A := A) c with ⟨l, e, q⟩ | ⟨f, q⟩ | q
      · rw [q]
        have := all_of f1 (List.mem_of_getElem? e)
        simp only [Bool.and_eq_true, decide_eq_true_eq] at this
        exact this.1
      · rw [q]
        exact List.nodup_cons.mpr ⟨List.not_mem_nil, List.nodup_nil⟩
      · rw [q]
        exact List.nodup_nil
    · show (A.fnl c).length < 900
      rcases fnl_is (A := A) c with ⟨l, e, q⟩ | ⟨f, q⟩ | q
      · rw [q]
        have := all_of f1 (List.mem_of_getElem? e)
        simp only [Bool.and_eq_true, decide_eq_true_eq] at this
        exact this.2
      · rw [q]
        show 1 < 900
        decide
      · rw [q]
        exact Nat.zero_lt_succ _
    · have e' : ixOf ((A.flds[c]?).getD []) (A.P.fldN f) = some k := e
      have h1 := ixOf_at e'
      cases el : A.flds[c]? with
      | none =>
        rw [el] at h1
        simp at h1
      | some l =>
        have hc : c < A.P.cls.length := by
          have := (List.getElem?_eq_some_iff.mp el).1
          omega
        obtain ⟨x, x1, x2, x3, x4⟩ := clsLt hc
        refine ⟨by show (A.fnl c)[k]? = _; rw [fnl_cls hc, el]; rw [el] at h1; exact h1, ?_, ?_⟩
        · show Cls K (caK A K c)
          rw [x3]
          exact (fCls x x2).2
        · show NoAttr K (caK A K c) _
          rw [x3, ← x4]
          rw [el] at h1
          exact fNo c l _ el (List.mem_of_getElem? h1)
  · refine ⟨fun a t ha ht => ?_, fun c hc => ?_, He.eqO_ok k3, k4⟩
    · have hm : a ∈ none :: (allTy A).map some := by
        cases a with
        | none => exact List.mem_cons_self ..
        | some a => exact List.mem_cons_of_mem _ (List.mem_map.mpr ⟨a, allTy_mem ha, rfl⟩)
      have z := of_decide_eq_true (all_of (all_of k1 hm) (allTy_mem ht))
      have e1 : dvtV A K a = vtV (datOf A K hj) a := by
        cases a with
        | none => rfl
        | some a => cases a <;> rfl
      have e2 : dtyV A K t = tyV (datOf A K hj) t := by cases t <;> rfl
      rw [e1, e2] at z
      exact z
    · have hc' : c < A.P.cls.length := hc
      obtain ⟨x, x1, x2, x3, x4⟩ := clsLt hc'
      have z := all_of k2 (List.mem_range.mpr hc')
      simp only [Bool.and_eq_true, decide_eq_true_eq] at z
      refine ⟨?_, He.eqO_ok z.1, z.2⟩
      show Cls K (caK A K c)
      rw [x3]
      exact (fCls x x2).2
  · intro f fd e
    unfold Dta.defs at e
    cases ed : A.dd[f]? with
    | none => rw [ed] at e; cases e
    | some d =>
      rw [ed] at e
      cases e
      obtain ⟨kws, F⟩ := fF f d ed
      have hd := all_of B.defB (zipIdx_mem ed)
      simp only [Bool.and_eq_true] at hd
      exact ⟨d.name, d.qual, d.params, d.body, d.scope, [], kws, A.N f, by rw [show (Lay.mk ad fdt A.ps).ad f = _ from adE f d ed]; exact F, scopeB_ok hd.1, rfl, rfl, rfl⟩
  · intro f x e
    have hb := all_of B.fnB (zipIdx_mem e)
    dsimp only at hb
    cases ed : A.dd[f]? with
    | none => rw [ed] at hb; cases hb
    | some d =>
      rw [ed] at hb
      have ha : d.at_ = (x, none) := of_decide_eq_true hb
      obtain ⟨kws, F⟩ := fF f d ed
      have e2 : ad f = He.ga K x := by
        rw [adE f d ed, ha]
        rfl
      refine ⟨A.fd d f, defE f d ed, ?_, ?_, fun k ks ix hm => bnd ed (all_of c1 hm)⟩
      · show mg x = some (.ref (ad f))
        rw [e2]
        exact fGlo x (List.mem_append_left _ (List.mem_of_getElem? e))
      · show PySem.W.keepIn K (.ref (ad f)) = true
        rw [adE f d ed]
        exact F.kp
  · intro c x e
    show mg x = some (.ref (caK A K c))
    rw [ca_at e]
    exact (fCls x (List.mem_of_getElem? e)).1
  · intro c x k ks ix e hm
    have z1 := all_of c2 hm
    have z2 := all_of k7 hm
    dsimp only at z1 z2
    rw [e] at z2
    cases ei : (A.init[c]?).getD none with
    | none => rw [ei] at z1; cases z1
    | some f =>
      rw [ei] at z1 z2
      simp only [Bool.and_eq_true] at z1 z2
      obtain ⟨d, ed⟩ := Option.isSome_iff_exists.mp z1.1
      rw [ed] at z2
      have ea : He.ma K (He.ga K x) "__init__" = He.fAd K d.at_ := of_decide_eq_true z2.2
      refine ⟨f, A.fd d f, ei, defE f d ed, bnd ed z1.2, ?_⟩
      show Mk K (caK A K c) (ad f)
      rw [ca_at e, adE f d ed, ← ea]
      exact He.mkr_ok z2.1
  · intro c x e hm
    have z1 := of_decide_eq_true (all_of c3 hm)
    have z2 := all_of k8 hm
    simp only [Bool.and_eq_true, decide_eq_true_eq] at z2
    exact ⟨⟨z2.1, He.eqO_ok z2.2.1, z2.2.2.1, z2.2.2.2⟩, z1⟩
  · intro mm x k ks ix e hm c f ef
    have ef' : (((A.meth[c]?).getD [])[mm]?).getD none = some f := ef
    have hc : c < A.meth.length := by
      by_cases z : c < A.meth.length
      · exact z
      · have e0 : A.meth[c]? = none := List.getElem?_eq_none (by omega)
        rw [e0] at ef'
        simp at ef'
    have z1 := all_of (all_of c4 hm) (List.mem_range.mpr hc)
    have z2 := all_of k9 hm
    dsimp only at z1 z2
    rw [e] at z2
    have z3 := all_of z2 (List.mem_range.mpr hc)
    rw [ef'] at z1 z3
    simp only [Bool.and_eq_true, Bool.not_eq_true'] at z1 z3
    obtain ⟨d, ed⟩ := Option.isSome_iff_exists.mp z1.1
    rw [ed] at z3
    have ea : He.ma K (He.ga K (clsN A c)) x = He.fAd K d.at_ := of_decide_eq_true z3.2.1
    obtain ⟨y, y1, y2, y3, y4⟩ := clsLt (Nat.lt_of_lt_of_le hc c5)
    refine ⟨A.fd d f, defE f d ed, bnd ed z1.2, ?_, ?_, ?_⟩
    · show Cls K (caK A K c)
      rw [y3]
      exact (fCls y y2).2
    · show Meth K (caK A K c) x (ad f)
      rw [y3, adE f d ed, ← ea, y4]
      rw [y4] at z3
      exact He.meth_ok z3.1
    · show x ∉ A.fnl c
      rw [fnl_cls (Nat.lt_of_lt_of_le hc c5)]
      intro hx
      have := List.contains_iff_mem.mpr hx
      rw [z3.2.2] at this
      cases this
  · intro k x e
    have z := fCon k x e
    show ∃ v u, mg x = some u ∧ RelV v u ∧ ∀ i H, RV (datOf A K hj) i H v (((A.con[k]?).map Cn.v).getD .non)
    cases ec : A.con[k]? with
    | none =>
      have h1 := (List.getElem?_eq_some_iff.mp e).1
      rw [List.getElem?_eq_none_iff] at ec
      omega
    | some cn =>
      rw [ec] at z
      cases cn with
      | int i =>
        obtain ⟨t, ht⟩ := He.int_ok X G z
        exact ⟨.int i, _, ht, ⟨t, rfl⟩, fun _ _ => .int i⟩
      | str s =>
        obtain ⟨t, ht⟩ := He.str_ok X G z
        exact ⟨.str ⟨s.toArray⟩, _, ht, ⟨t, rfl⟩, fun _ _ => .str s⟩
      | tup xs =>
        have z2 := all_of k10 (zipIdx_mem e)
        dsimp only at z2
        rw [ec] at z2
        refine ⟨.ref (He.ga K x), _, He.glo_ok X G z, rfl, fun i H => .tup (He.tupB_ok z2 H) ?_⟩
        exact rvs_txt xs
  · intro k x e
    refine ⟨He.ga K x, fDic x (List.mem_of_getElem? e), ?_⟩
    show DicOk K w (He.ga K x) ((A.dic[k]?).getD [])
    have z := all_of k12 (zipIdx_mem e)
    refine dicOk_of ?_ z
    have t1 : A.tabs.map (fun t => He.dicW K (t.1 K)) = A.tabs.map fun t => some (He.keysIn w.params t.2) := congrArg (fun z : He.AlT => z.2) c.t
    have t2 : A.tabs[k]? = some ((fun K => He.ga K x), dkeys ((A.dic[k]?).getD [])) := by
      unfold Dta.tabs
      rw [List.getElem?_map, List.getElem?_zipIdx, e]
      simp
    have t3 := congrArg (fun l => l[k]?) t1
    rw [List.getElem?_map, List.getElem?_map, t2] at t3
    exact Option.some.inj t3
  · intro j x e
    have hj2 : j < A.P.exs.length := (List.getElem?_eq_some_iff.mp e).1
    have z := all_of k11 (List.mem_range.mpr hj2)
    simp only [Bool.and_eq_true, decide_eq_true_eq] at z
    refine ⟨?_, ⟨⟨_, _, _, _, PySem.F.excBase_ValueError, z.1⟩, z.2.1, z.2.2.1, z.2.2.2⟩, ?_⟩
    · show mg x = some (.ref (caK A K (A.P.cls.length + j)))
      rw [ca_ex (by rw [List.getElem?_append_left hj2]; exact e)]
      exact fGlo x (List.mem_append_right _ (List.mem_append_left _ (List.mem_of_getElem? e)))
    · show (A.fnl (A.P.cls.length + j)).length = 0
      rw [fnl_ex (Nat.le_add_right _ _) f2, if_neg (by unfold Dta.xb; omega)]
      rfl
  · intro c j x h1 h2 e
    have hj2 : j < (A.P.exs ++ A.P.exi).length := (List.getElem?_eq_some_iff.mp e).1
    have h1' : A.P.cls.length ≤ c := h1
    have h2' : c < A.P.cls.length + (A.P.exs.length + A.P.exi.length) := h2
    rw [List.length_append] at hj2
    have z2 := of_decide_eq_true (all_of (all_of k13 (List.mem_range.mpr hj2)) (List.mem_range.mpr (show c - A.P.cls.length < A.P.exs.length + A.P.exi.length by omega)))
    rw [show A.P.cls.length + (c - A.P.cls.length) = c by omega] at z2
    exact z2
  · intro j x e
    show mg x = some (.ref (caK A K (A.P.cls.length + j)))
    rw [ca_ex e]
    exact fGlo x (List.mem_append_right _ (List.mem_of_getElem? e))
  · intro j x e
    have hj2 : j < A.P.exi.length := (List.getElem?_eq_some_iff.mp e).1
    have z := all_of k14 (List.mem_range.mpr hj2)
    unfold Dta.xiB at z
    have eb : A.P.cls.length + (A.P.exs.length + j) = A.xb + j := by unfold Dta.xb; omega
    rw [eb]
    split at z
    · rename_i f d ef ed
      simp only [Bool.and_eq_true, decide_eq_true_eq] at z
      obtain ⟨z1, z2, z3, z4, z5, z6⟩ := z
      split at z6
      · rename_i i ei
        simp only [Bool.and_eq_true, decide_eq_true_eq, List.contains_iff_mem] at z6
        obtain ⟨y1, y2, y3, y4, y5, y6, y7, y8⟩ := z6
        have exf : (datOf A K hj).xf (A.xb + j) = f := by
          show (A.xfd[A.xb + j - A.xb]?).getD Str.empty = f
          rw [Nat.add_sub_cancel_left, ef]
          rfl
        refine ⟨fun bs n => ?_, ?_⟩
        · rw [exf]
          cases ex : A.xin[j]? with
          | none => rw [ex] at ed; cases ed
          | some g =>
            rw [ex] at ed y8
            have ed' : A.dd[g]? = some d := ed
            have y8' : A.ps g = [("self" : Str), i.x] := y8
            obtain ⟨kws, F⟩ := fF g d ed'
            have oex := oexB_ok z1
            have hno := He.eqO_ok z2
            subst y1
            unfold glB at y5
            unfold okN at y6
            simp only [Bool.and_eq_true, Bool.not_eq_true', decide_eq_true_eq] at y5 y6
            refine ⟨oex, hno, xfB_ok z3, He.fAd K d.at_, fdt g, i.x, He.eqO_ok z4, z5, init_fnG F ei (scopeB_ok y4) oex hno (supB_ok y3) y5.1 (fGlo i.T (List.mem_append_right _ (List.mem_append_left _ y2))) y5.2 y6.1 y6.2 y7, fun s us kin hl => ?_⟩
            obtain ⟨oc, od, dV, kV, doc, pm, an, cdv, ct, osl, hfd, lk, hcd, hD, hK⟩ := F.ex
            have hD0 : dV = .none := by
              rcases hD with ⟨_, q⟩ | ⟨q, _⟩
              · exact q
              · exact absurd rfl q
            subst hD0
            have hb := b1 g d ed' kV doc pm an cdv ct us (by rw [y8']; exact hl)
            rw [y8'] at hb
            rw [hfd]
            exact .of_eq hb
        · show (A.fnl (A.xb + j)).length = 1
          rw [fnl_ex (by unfold Dta.xb; omega) f2, if_pos (Nat.le_add_right _ _), Nat.add_sub_cancel_left, ef]
          rfl
      · cases z6
    · cases z
  · intro c z j f e1 e2
    have e2' : (if A.xb ≤ c ∧ c < A.xb + A.P.exi.length then match A.xfd[c - A.xb]? with
      | some f => if A.P.fldN j = f then some 0 else none
      | none => none
      else none) = some z := e2
    split at e2'
    · rename_i hc
      have zz := all_of k14 (List.mem_range.mpr (show c - A.xb < A.P.exi.length by omega))
      unfold Dta.xiB at zz
      split at e2'
      · rename_i f' ef
        split at e2'
        · rename_i hf
          cases e2'
          have hff : f = f' := by
            rw [← hf]
            unfold Prg.fldN
            rw [e1]
            rfl
          subst hff
          rw [ef] at zz
          split at zz
          · rename_i f2 d h1 h2
            cases h1
            simp only [Bool.and_eq_true] at zz
            rw [show A.xb + (c - A.xb) = c by omega] at zz
            refine ⟨rfl, ?_, xfB_ok zz.2.2.1, He.eqO_ok zz.2.1⟩
            show (A.xfd[c - A.xb]?).getD Str.empty = f
            rw [ef]
            rfl
          · cases zz
        · cases e2'
      · cases e2'
    · cases e2'
end
end U
end Part_U22

section Part_U23
set_option Elab.async false
set_option linter.all false
set_option maxRecDepth 100000
set_option maxHeartbeats 4000000
/-! U23: the end. -/
namespace U
open PySem PySem.Spec PyProof.Rows L2
theorem ints_rel {D : Dat} {i : List Addr} {H : Hp} : ∀ zs : List Int, RVs D i H (zs.map V.int) (zs.map MV.int)
  | [] => .nil
  | z :: zs => .cons (.int z) (ints_rel zs)
/-- what the law's def is asked: the script is a list that stays as it is -/
def Asked (c : List MV → M MV) (zs : List Int) : Prop := ∃ m', c [.ref 0] [.frz (zs.map MV.int)] = .ok (.bl true) m'
section
variable {Pg : Program} {w : World} {K : PySem.W.Frag} {mg mb : Str → Option Value} {n : Nat} {fa a : Addr} {fdt : FuncData} {D : Dat} {c : List MV → M MV} {nm : Str} {st : Shared} {us : List Value} {zs : List Int}
theorem asked_sp {H : Hp} (hS : SqF D.K H a (zs.map V.int)) (hc : Asked c zs) : spOf D 1 c [.ref a] H (fun v _ => v = .bl true) (fun _ _ _ => False) := by
  obtain ⟨m', e⟩ := hc
  refine ⟨rfl, [a], [.frz (zs.map MV.int)], [.ref 0], ⟨rfl, fun k b o e1 e2 => ?_, fun k j b o u e1 e2 e3 e4 l1 l2 => ?_⟩, .cons (.ref rfl) .nil, ?_⟩
  · cases k with
    | zero =>
      cases e1
      cases e2
      exact ⟨_, hS, ints_rel zs⟩
    | succ k => cases e1
  · cases k with
    | zero =>
      cases e3
      cases l1
    | succ k => cases e1
  · rw [e]
    intro i' H' x _ _ q
    cases q
    rfl
/-- one call of the law, from an abstract heap that knows the script at most -/
theorem end_core {H : Hp} (KX : K.In st.heap) (hns : st.heap.Ns mainGlobals mg) (hb : st.heap.Ns builtinsNs mb) (hbb : ∀ y : Str, y ≠ "__name__" → mb y = bootBuiltins y) (hlim : st.heap.NoLimit) (hg : st.gens = #[])
    (ha : st.heap.get? a = some { cls := .type "list", data := .seq us.toArray }) (hr : RoomG n callerA) (F : ∀ base : Heap, FnG Pg w K mg base n fa fdt [nm] (spOf D 1 c)) (hbind : ∀ (s : Shared) (u : Value), BindsTo s fdt ⟨[u], []⟩ [(nm, u)]) (hc : Asked c zs)
    (hS : SqF D.K H a (zs.map V.int)) (hok : HOk Pg w H st.heap) (only : ∀ b, H b = none ∨ (b = a ∧ ∃ o xs, H b = some (.frz o (.lst xs)))) (hK : H a ≠ none → K.lookup a = none) :
    codeAny (model Pg w) callerA (.call (.ref fa) ⟨[.ref a], []⟩) (fun r s' => r = .ok (.ret (.bool true)) ∧ OldK st.heap s'.heap ∧ s'.os = st.os ∧ AllBare s'.gens) st := by
  -- a dict is never the script
  have free : ∀ {b : Addr} {o : Obj} {es : Array DictEntry} {ep : Nat}, st.heap.get? b = some o → o.data = .dict es ep → H b = none := by
    intro b o es ep e d
    rcases only b with z | ⟨rfl, _⟩
    · exact z
    · rw [ha] at e
      cases e
      cases (show Data.seq us.toArray _ = Data.dict es ep from d)
  have ground : ∀ {b : Addr} {f : Str → Option Value}, st.heap.Ns b f → (hidT st.heap H).Ns b f := by
    rintro b f ⟨o, es, ep, e, d, rest⟩
    exact ⟨o, es, ep, hidT_get e (free e d), d, rest⟩
  have KB : K.In (hidT st.heap H) := by
    intro b o e
    refine hidT_get (KX b o e) ?_
    rcases only b with z | ⟨rfl, o', xs, z⟩
    · exact z
    · rw [hK (by rw [z]; exact fun q => nomatch q)] at e
      cases e
  have lim : (hidT st.heap H).NoLimit := by
    obtain ⟨f, l1, l2⟩ := hlim
    exact ⟨f, ground l1, l2⟩
  have md : Mod K mg (hidT st.heap H) := ⟨KB, ground hns, ⟨mb, ground hb, hbb⟩, lim⟩
  have env : Env0 Pg w K mg (hidT st.heap H) callerA [] st H :=
    { frames := rfl, mod := md, bs := fun b o e => of_hidT e, bsz := Nat.le_of_eq (hidT_size _ _), funs := trivial, frf := fun b hb => (List.not_mem_nil hb).elim, hok := hok, bare := .of_eq hg }
  have go := (F (hidT st.heap H)).run callerA [] st H ⟨[.ref a], []⟩ [.ref a] [.ref a] _ _ hr env (hbind st (.ref a)) (.cons rfl .nil) (asked_sp hS hc)
  refine codeAny_mono go ?_
  intro r s' out
  match r, out with
  | .ok (.ret u), out =>
    obtain ⟨v, H', e1, e2, un, hok', rv, q⟩ := out
    have q' : v = .bl true := q
    subst q'
    cases (show u = Value.bool true from rv)
    refine ⟨rfl, OldK.of_keep fun b o e => ?_, e1, e2⟩
    rcases only b with z | ⟨rfl, ob, xs, z⟩
    · exact un.keep b o e z (List.not_mem_nil) (List.not_mem_nil)
    · have z1 := (hok b _ z).1
      have z2 := (hok' b _ (un.frzs b ob _ z)).1
      rw [e] at z1
      cases z1
      exact z2
  | .error e, out =>
    obtain ⟨_, _, _, _, _, _, _, _, _, _, _, _, no⟩ := out
    exact no.elim
theorem end_at (hKD : D.K = K) (KX : K.In st.heap) (hns : st.heap.Ns mainGlobals mg) (hb : st.heap.Ns builtinsNs mb) (hbb : ∀ y : Str, y ≠ "__name__" → mb y = bootBuiltins y) (hlim : st.heap.NoLimit) (hg : st.gens = #[])
    (ha : st.heap.get? a = some { cls := .type "list", data := .seq us.toArray }) (hi : IntsAre us zs) (hl : zs.length ≤ sizeLine) (hr : RoomG n callerA) (F : ∀ base : Heap, FnG Pg w K mg base n fa fdt [nm] (spOf D 1 c)) (hbind : ∀ (s : Shared) (u : Value), BindsTo s fdt ⟨[u], []⟩ [(nm, u)]) (hc : Asked c zs) :
    codeAny (model Pg w) callerA (.call (.ref fa) ⟨[.ref a], []⟩) (fun r s' => r = .ok (.ret (.bool true)) ∧ OldK st.heap s'.heap ∧ s'.os = st.os ∧ AllBare s'.gens) st := by
  have rel := vals_ints hi
  subst hKD
  by_cases hk : ∃ o, D.K.lookup a = some o
  · -- one of the module's own lists
    obtain ⟨o, hk⟩ := hk
    have e := KX a o hk
    rw [ha] at e
    cases e
    refine end_core (H := fun _ => none) KX hns hb hbb hlim hg ha hr F hbind hc (.inr ⟨_, us.toArray, _, hk, rfl, rfl, rfl, ?_, by simpa using rel⟩) (fun b u z => nomatch (show (none : Option HO) = some u from z)) (fun b => .inl rfl) fun z => absurd rfl z
    rw [List.size_toArray, hi.length]
    exact hl
  · have hn : D.K.lookup a = none := by
      cases e : D.K.lookup a with
      | none => rfl
      | some o => exact absurd ⟨o, e⟩ hk
    have at_ : (fun b => if b = a then some (HO.frz { cls := .type "list", data := .seq us.toArray } (.lst (zs.map V.int))) else none) a = some (HO.frz { cls := .type "list", data := .seq us.toArray } (.lst (zs.map V.int))) := if_pos rfl
    refine end_core (H := fun b => if b = a then some (.frz { cls := .type "list", data := .seq us.toArray } (.lst (zs.map V.int))) else none) KX hns hb hbb hlim hg ha hr F hbind hc (.inl ⟨_, at_⟩) (fun b u z => ?_) (fun b => ?_) fun _ => hn
    · by_cases q : b = a
      · subst q
        have z' := at_.symm.trans z
        cases z'
        exact ⟨ha, by rw [List.length_map]; exact hl, us, _, rel, ha⟩
      · cases (show (none : Option HO) = some u from (if_neg q).symm.trans z)
    · by_cases q : b = a
      · exact .inr ⟨q, _, _, if_pos q⟩
      · exact .inl (if_neg q)
end
/-- a law's end, by the data of its program -/
theorem end_walk {l : PySem.W.OpenLaw} {k N : Nat} {q : Program} {loose : List Str} {XP : (Str → Option Value) → Heap → Prop} {d : DefRec} {A : Dta} {W f : Nat} {df : He.DefD} (hn : l.most = some k) (hk : k ≤ sizeLine) (hdf : d.params.defaults = []) (hr : RoomG N callerA)
    (hB : A.defB = true) (hF : A.fldB = true) (hfn : A.fnB = true) (hC : A.callB = true) (hat : A.dd[f]? = some df) (hfx : A.P.fns[f]? = some d.name) (hps : (A.ps f).length = 1)
    (b1 : ∀ f d, A.dd[f]? = some d → ∀ (kV doc pm : Value) (an : Option Addr) (cdv ct : Value) (us : List Value), us.length = (A.ps f).length → bindArgs (PySem.W.fnOf d.name d.qual d.params d.body d.scope .none kV doc pm an cdv ct) ⟨us, []⟩ = pure ((A.ps f).zip us))
    (b2 : ∀ f d, A.dd[f]? = some d → ∀ h k ks ix, (f, h, k, ks, ix) ∈ A.kw → ∀ (kV doc pm : Value) (an : Option Addr) (cdv ct : Value) (u0 us ws : List Value), u0.length = h → us.length = k → ws.length = ks.length →
      bindArgs (PySem.W.fnOf d.name d.qual d.params d.body d.scope .none kV doc pm an cdv ct) ⟨u0 ++ us, ks.zip ws⟩ = pure ((A.ps f).zip (u0 ++ ord ix (us ++ ws))))
    (hlaw : ∀ zs : List Int, zs.length ≤ k → Asked (run A.T W A.defs N f) zs) :
    PySem.W.WalkO q loose XP (fun w h => ∃ K : PySem.W.Frag, K.In h ∧ He.SaysX A.fa A.dd A.tabs [] A.ex w h K) l.row.toRowW d [] (fun f vs => PySem.call f vs) := by
  refine Att.attach_call hn hdf ?_
  intro w s0 st mg mb fa o pm cd doc a us zs G Y ho hd hcd hmg hobj hints hlen hg
  obtain ⟨K, KX, c⟩ := Y
  obtain ⟨D, L, eK, eT, S, hL⟩ := stat_of (Pg := l.prog) (base := st.heap) ⟨hB, hF, hfn, hC⟩ KX G.T.g c b1 b2
  obtain ⟨l1, l2, kws, FD⟩ := hL f df hat
  obtain ⟨nm, hnm1⟩ : ∃ nm, A.ps f = [nm] := List.length_eq_one_iff.mp hps
  have hdefs : A.defs f = some (A.fd df f) := by
    unfold Dta.defs
    rw [hat]
    rfl
  obtain ⟨fdx, hd1, hd2, hd3, hd4⟩ := S.fnm f d.name hfx
  have efa : fa = L.ad f := by
    rw [hmg] at hd2
    cases hd2
    rfl
  have any : ∀ base : Heap, Stat A.P L A.defs l.prog w K mg base D := fun base => ⟨S.hK, S.A, S.kit, S.df, S.fnm, S.cl, S.nwf, S.nw0, S.mtf, S.cn, S.bl, S.dc, S.ex, S.exm, S.exg, S.x1, S.xfs⟩
  have F : ∀ base : Heap, FnG l.prog w K mg base N fa (L.fdt f) [nm] (spOf D 1 (run A.T W A.defs N f)) := fun base => by
    have z := lvl (W := W) (any base) N f _ hdefs
    rw [l2, hnm1, eT] at z
    rw [efa]
    exact z
  have hbind : ∀ (s : Shared) (u : Value), BindsTo s (L.fdt f) ⟨[u], []⟩ [(nm, u)] := fun s u => by
    have z := FD.bindsA (ps := A.ps f) (b1 f df hat) s [u] (by rw [hps]; rfl)
    rw [hnm1] at z
    exact z
  exact end_at eK KX G.T.g G.T.b G.T.builtins G.T.nolimit hg hobj hints (Nat.le_trans hlen hk) hr F hbind (hlaw zs hlen)
/-! ### what the head tells, the table of statics too -/
def frY (n : Nat) (g : Addr → Option Obj) : PySem.W.Frag := He.frT g (cStatics :: He.asD g n)
def obsY (n : Nat) (fa : List He.Fa) (fn : List He.DefD) (ts : List He.Tab) (ex : PySem.W.Frag → Bool) (g : Addr → Option Obj) : He.AlX := (He.obsT fa fn ts (frY n g), ex (frY n g))
def hookY (n : Nat) (fa : List He.Fa) (fn : List He.DefD) (ts : List He.Tab) (ex : PySem.W.Frag → Bool) : PySem.W.Hook where
  α := He.AlX
  obs := fun s => obsY n fa fn ts ex s.heap.get?
  val := fun w => (He.valT fn ts w, true)
  says := fun w h => ∃ K : PySem.W.Frag, K.In h ∧ He.SaysX fa fn ts [] ex w h K
  of := fun _ _ e => ⟨_, He.frT_in, ⟨congrArg (fun z : He.AlX => z.1) e, congrArg (fun z : He.AlX => z.2) e, (fun _ h => nomatch h), (fun _ h => nomatch h), (fun _ h => nomatch h)⟩⟩
  keeps := fun _ _ _ ⟨K, hK, c⟩ k => ⟨K, PySem.W.Frag.In.keeps hK k, ⟨c.t, c.more, c.hd, c.out, fun p hp => k _ _ (c.empty p hp)⟩⟩
theorem obsY_eq {n : Nat} {fa : List He.Fa} {fn : List He.DefD} {ts : List He.Tab} {ex : PySem.W.Frag → Bool} {g : Addr → Option Obj} {s : Shared} (h : ∀ a, g a = s.heap.get? a) : obsY n fa fn ts ex g = (hookY n fa fn ts ex).obs s := by
  have e : g = s.heap.get? := funext h
  rw [e] <;> rfl
end U
end Part_U23

section Part_K12H
set_option Elab.async false
set_option linter.all false
set_option maxRecDepth 100000
set_option maxHeartbeats 0
namespace LW
open PySem PySem.Spec PyProof.Rows L2 U
def top (i : Nat) : Stmt := PySem.Challenge.pw_usetally_k12_where_it_goes_on.main.body.getD i (.Pass ⟨0, 0, 0, 0⟩)
def inCls (s : Stmt) (j : Nat) : Stmt := match s with
  | .ClassDef _ _ _ b _ _ _ _ _ _ _ => b.getD j (.Pass ⟨0, 0, 0, 0⟩)
  | _ => s
def mth (i j : Nat) : Stmt := inCls (top i) j
def d0 : He.DefD := ⟨("is_name", none), "is_name", "is_name", defArgs (top 9), defBody (top 9), defScope (top 9), [], []⟩
def d1 : He.DefD := ⟨("is_whole", none), "is_whole", "is_whole", defArgs (top 10), defBody (top 10), defScope (top 10), [], []⟩
def d2 : He.DefD := ⟨("need_name", none), "need_name", "need_name", defArgs (top 11), defBody (top 11), defScope (top 11), [], []⟩
def d3 : He.DefD := ⟨("need_terms", none), "need_terms", "need_terms", defArgs (top 13), defBody (top 13), defScope (top 13), [], []⟩
def d4 : He.DefD := ⟨("must_be_closed", none), "must_be_closed", "must_be_closed", defArgs (top 22), defBody (top 22), defScope (top 22), [], []⟩
def d5 : He.DefD := ⟨("term_of", none), "term_of", "term_of", defArgs (top 25), defBody (top 25), defScope (top 25), [], []⟩
def d6 : He.DefD := ⟨("sort_at", none), "sort_at", "sort_at", defArgs (top 27), defBody (top 27), defScope (top 27), [], []⟩
def d7 : He.DefD := ⟨("awaited", none), "awaited", "awaited", defArgs (top 28), defBody (top 28), defScope (top 28), [], []⟩
def d8 : He.DefD := ⟨("going", none), "going", "going", defArgs (top 29), defBody (top 29), defScope (top 29), [], []⟩
def d9 : He.DefD := ⟨("how", none), "how", "how", defArgs (top 30), defBody (top 30), defScope (top 30), [], []⟩
def d10 : He.DefD := ⟨("spot", none), "spot", "spot", defArgs (top 31), defBody (top 31), defScope (top 31), [], []⟩
def d11 : He.DefD := ⟨("_law_state", none), "_law_state", "_law_state", defArgs (top 33), defBody (top 33), defScope (top 33), [], []⟩
def d12 : He.DefD := ⟨("_law_draw", none), "_law_draw", "_law_draw", defArgs (top 34), defBody (top 34), defScope (top 34), [], []⟩
def d13 : He.DefD := ⟨("_law_name", none), "_law_name", "_law_name", defArgs (top 35), defBody (top 35), defScope (top 35), [], []⟩
def d14 : He.DefD := ⟨("_law_number", none), "_law_number", "_law_number", defArgs (top 36), defBody (top 36), defScope (top 36), [], []⟩
def d15 : He.DefD := ⟨("_law_leaf", none), "_law_leaf", "_law_leaf", defArgs (top 37), defBody (top 37), defScope (top 37), [], []⟩
def d16 : He.DefD := ⟨("_law_any", none), "_law_any", "_law_any", defArgs (top 38), defBody (top 38), defScope (top 38), [], []⟩
def d17 : He.DefD := ⟨("_law_put", none), "_law_put", "_law_put", defArgs (top 39), defBody (top 39), defScope (top 39), [], []⟩
def d18 : He.DefD := ⟨("_law_frames", none), "_law_frames", "_law_frames", defArgs (top 40), defBody (top 40), defScope (top 40), [], []⟩
def d19 : He.DefD := ⟨("_law_around", none), "_law_around", "_law_around", defArgs (top 41), defBody (top 41), defScope (top 41), [], []⟩
def d20 : He.DefD := ⟨("_law_place", none), "_law_place", "_law_place", defArgs (top 42), defBody (top 42), defScope (top 42), [], []⟩
def d21 : He.DefD := ⟨("_law_core", none), "_law_core", "_law_core", defArgs (top 43), defBody (top 43), defScope (top 43), [], []⟩
def d22 : He.DefD := ⟨("_law_stuck", none), "_law_stuck", "_law_stuck", defArgs (top 44), defBody (top 44), defScope (top 44), [], []⟩
def d23 : He.DefD := ⟨("_law_case", none), "_law_case", "_law_case", defArgs (top 45), defBody (top 45), defScope (top 45), [], []⟩
def d24 : He.DefD := ⟨("_law_pair_is", none), "_law_pair_is", "_law_pair_is", defArgs (top 46), defBody (top 46), defScope (top 46), [], []⟩
def d25 : He.DefD := ⟨("law", none), "law", "law", defArgs (top 47), defBody (top 47), defScope (top 47), [], []⟩
def d26 : He.DefD := ⟨("Name", (some "__init__")), "__init__", "Name.__init__", defArgs (mth 15 0), defBody (mth 15 0), defScope (mth 15 0), [], []⟩
def d27 : He.DefD := ⟨("Number", (some "__init__")), "__init__", "Number.__init__", defArgs (mth 16 0), defBody (mth 16 0), defScope (mth 16 0), [], []⟩
def d28 : He.DefD := ⟨("Maker", (some "__init__")), "__init__", "Maker.__init__", defArgs (mth 17 0), defBody (mth 17 0), defScope (mth 17 0), [], []⟩
def d29 : He.DefD := ⟨("Give", (some "__init__")), "__init__", "Give.__init__", defArgs (mth 18 0), defBody (mth 18 0), defScope (mth 18 0), [], []⟩
def d30 : He.DefD := ⟨("Sum", (some "__init__")), "__init__", "Sum.__init__", defArgs (mth 19 0), defBody (mth 19 0), defScope (mth 19 0), [], []⟩
def d31 : He.DefD := ⟨("Choice", (some "__init__")), "__init__", "Choice.__init__", defArgs (mth 20 0), defBody (mth 20 0), defScope (mth 20 0), [], []⟩
def d32 : He.DefD := ⟨("Again", (some "__init__")), "__init__", "Again.__init__", defArgs (mth 21 0), defBody (mth 21 0), defScope (mth 21 0), [], []⟩
def d33 : He.DefD := ⟨("NotClosed", (some "__init__")), "__init__", "NotClosed.__init__", defArgs (mth 4 0), defBody (mth 4 0), defScope (mth 4 0), [], []⟩
def d34 : He.DefD := ⟨("Term", (some "parts")), "parts", "Term.parts", defArgs (mth 12 0), defBody (mth 12 0), defScope (mth 12 0), [], []⟩
def d35 : He.DefD := ⟨("Term", (some "rebuilt")), "rebuilt", "Term.rebuilt", defArgs (mth 12 1), defBody (mth 12 1), defScope (mth 12 1), [], []⟩
def d36 : He.DefD := ⟨("Term", (some "binds")), "binds", "Term.binds", defArgs (mth 12 2), defBody (mth 12 2), defScope (mth 12 2), [], []⟩
def d37 : He.DefD := ⟨("Term", (some "told")), "told", "Term.told", defArgs (mth 12 3), defBody (mth 12 3), defScope (mth 12 3), [], []⟩
def d38 : He.DefD := ⟨("Term", (some "text")), "text", "Term.text", defArgs (mth 12 4), defBody (mth 12 4), defScope (mth 12 4), [], []⟩
def d39 : He.DefD := ⟨("Term", (some "free")), "free", "Term.free", defArgs (mth 12 5), defBody (mth 12 5), defScope (mth 12 5), [], []⟩
def d40 : He.DefD := ⟨("Term", (some "put")), "put", "Term.put", defArgs (mth 12 6), defBody (mth 12 6), defScope (mth 12 6), [], []⟩
def d41 : He.DefD := ⟨("Term", (some "with_given")), "with_given", "Term.with_given", defArgs (mth 12 7), defBody (mth 12 7), defScope (mth 12 7), [], []⟩
def d42 : He.DefD := ⟨("Term", (some "__eq__")), "__eq__", "Term.__eq__", defArgs (mth 12 10), defBody (mth 12 10), defScope (mth 12 10), [], []⟩
def d43 : He.DefD := ⟨("Term", (some "__str__")), "__str__", "Term.__str__", defArgs (mth 12 11), defBody (mth 12 11), defScope (mth 12 11), [], []⟩
def d44 : He.DefD := ⟨("Name", (some "told")), "told", "Name.told", defArgs (mth 15 1), defBody (mth 15 1), defScope (mth 15 1), [], []⟩
def d45 : He.DefD := ⟨("Name", (some "text")), "text", "Name.text", defArgs (mth 15 2), defBody (mth 15 2), defScope (mth 15 2), [], []⟩
def d46 : He.DefD := ⟨("Name", (some "free")), "free", "Name.free", defArgs (mth 15 3), defBody (mth 15 3), defScope (mth 15 3), [], []⟩
def d47 : He.DefD := ⟨("Name", (some "with_given")), "with_given", "Name.with_given", defArgs (mth 15 4), defBody (mth 15 4), defScope (mth 15 4), [], []⟩
def d48 : He.DefD := ⟨("Number", (some "told")), "told", "Number.told", defArgs (mth 16 1), defBody (mth 16 1), defScope (mth 16 1), [], []⟩
def d49 : He.DefD := ⟨("Number", (some "text")), "text", "Number.text", defArgs (mth 16 2), defBody (mth 16 2), defScope (mth 16 2), [], []⟩
def d50 : He.DefD := ⟨("Maker", (some "parts")), "parts", "Maker.parts", defArgs (mth 17 1), defBody (mth 17 1), defScope (mth 17 1), [], []⟩
def d51 : He.DefD := ⟨("Maker", (some "rebuilt")), "rebuilt", "Maker.rebuilt", defArgs (mth 17 2), defBody (mth 17 2), defScope (mth 17 2), [], []⟩
def d52 : He.DefD := ⟨("Maker", (some "binds")), "binds", "Maker.binds", defArgs (mth 17 3), defBody (mth 17 3), defScope (mth 17 3), [], []⟩
def d53 : He.DefD := ⟨("Maker", (some "told")), "told", "Maker.told", defArgs (mth 17 4), defBody (mth 17 4), defScope (mth 17 4), [], []⟩
def d54 : He.DefD := ⟨("Maker", (some "text")), "text", "Maker.text", defArgs (mth 17 5), defBody (mth 17 5), defScope (mth 17 5), [], []⟩
def d55 : He.DefD := ⟨("Give", (some "parts")), "parts", "Give.parts", defArgs (mth 18 1), defBody (mth 18 1), defScope (mth 18 1), [], []⟩
def d56 : He.DefD := ⟨("Give", (some "rebuilt")), "rebuilt", "Give.rebuilt", defArgs (mth 18 2), defBody (mth 18 2), defScope (mth 18 2), [], []⟩
def d57 : He.DefD := ⟨("Give", (some "told")), "told", "Give.told", defArgs (mth 18 3), defBody (mth 18 3), defScope (mth 18 3), [], []⟩
def d58 : He.DefD := ⟨("Give", (some "text")), "text", "Give.text", defArgs (mth 18 4), defBody (mth 18 4), defScope (mth 18 4), [], []⟩
def d59 : He.DefD := ⟨("Sum", (some "parts")), "parts", "Sum.parts", defArgs (mth 19 1), defBody (mth 19 1), defScope (mth 19 1), [], []⟩
def d60 : He.DefD := ⟨("Sum", (some "rebuilt")), "rebuilt", "Sum.rebuilt", defArgs (mth 19 2), defBody (mth 19 2), defScope (mth 19 2), [], []⟩
def d61 : He.DefD := ⟨("Sum", (some "told")), "told", "Sum.told", defArgs (mth 19 3), defBody (mth 19 3), defScope (mth 19 3), [], []⟩
def d62 : He.DefD := ⟨("Sum", (some "text")), "text", "Sum.text", defArgs (mth 19 4), defBody (mth 19 4), defScope (mth 19 4), [], []⟩
def d63 : He.DefD := ⟨("Choice", (some "parts")), "parts", "Choice.parts", defArgs (mth 20 1), defBody (mth 20 1), defScope (mth 20 1), [], []⟩
def d64 : He.DefD := ⟨("Choice", (some "rebuilt")), "rebuilt", "Choice.rebuilt", defArgs (mth 20 2), defBody (mth 20 2), defScope (mth 20 2), [], []⟩
def d65 : He.DefD := ⟨("Choice", (some "told")), "told", "Choice.told", defArgs (mth 20 3), defBody (mth 20 3), defScope (mth 20 3), [], []⟩
def d66 : He.DefD := ⟨("Choice", (some "text")), "text", "Choice.text", defArgs (mth 20 4), defBody (mth 20 4), defScope (mth 20 4), [], []⟩
def d67 : He.DefD := ⟨("Again", (some "parts")), "parts", "Again.parts", defArgs (mth 21 1), defBody (mth 21 1), defScope (mth 21 1), [], []⟩
def d68 : He.DefD := ⟨("Again", (some "rebuilt")), "rebuilt", "Again.rebuilt", defArgs (mth 21 2), defBody (mth 21 2), defScope (mth 21 2), [], []⟩
def d69 : He.DefD := ⟨("Again", (some "binds")), "binds", "Again.binds", defArgs (mth 21 3), defBody (mth 21 3), defScope (mth 21 3), [], []⟩
def d70 : He.DefD := ⟨("Again", (some "told")), "told", "Again.told", defArgs (mth 21 4), defBody (mth 21 4), defScope (mth 21 4), [], []⟩
def d71 : He.DefD := ⟨("Again", (some "text")), "text", "Again.text", defArgs (mth 21 5), defBody (mth 21 5), defScope (mth 21 5), [], []⟩
def dat : Dta where
  P := ⟨["is_name", "is_whole", "need_name", "need_terms", "must_be_closed", "term_of", "sort_at", "awaited", "going", "how", "spot", "_law_state", "_law_draw", "_law_name", "_law_number", "_law_leaf", "_law_any", "_law_put", "_law_frames", "_law_around", "_law_place", "_law_core", "_law_stuck", "_law_case", "_law_pair_is", "law"], ["Term", "Open", "Name", "Number", "Maker", "Give", "Sum", "Choice", "Again"], ["LETTERS", "MOST_LETTERS", "SUMS"], ["name", "number", "body", "maker", "given", "sign", "one", "other", "asked", "nought"], ["parts", "rebuilt", "binds", "told", "text", "free", "put", "with_given", "__eq__", "__str__"],
    [(4, 1, [], []), (8, 1, [], []), (12, 2, [], []), (16, 3, [], []), (13, 2, [], []), (18, 3, [], []), (21, 1, [], []), (11, 1, [], []), (0, 1, [], []), (2, 1, [], []), (3, 1, [], []), (6, 1, [], []), (7, 1, [], []), (14, 1, [], []), (15, 2, [], []), (19, 2, [], []), (20, 1, [], []), (23, 1, [], []), (5, 1, [], []), (1, 1, [], []), (17, 3, [], []), (24, 3, [], []), (22, 1, [], []), (9, 0, ["term"], [0]), (9, 1, [], []), (10, 0, ["term"], [0]), (10, 1, [], [])],
    [(4, 2, [], []), (5, 2, [], []), (6, 3, [], []), (7, 3, [], []), (8, 2, [], []), (2, 1, [], []), (3, 1, [], [])],
    [(5, 0, [], []), (0, 0, [], []), (7, 2, [], []), (1, 1, [], []), (2, 0, [], []), (4, 0, [], []), (3, 0, [], [])], [1], ["TallyError", "BadTerm"], ["LENGTHS"], ["NotClosed"]⟩
  dd := [d0, d1, d2, d3, d4, d5, d6, d7, d8, d9, d10, d11, d12, d13, d14, d15, d16, d17, d18, d19, d20, d21, d22, d23, d24, d25, d26, d27, d28, d29, d30, d31, d32, d33, d34, d35, d36, d37, d38, d39, d40, d41, d42, d43, d44, d45, d46, d47, d48, d49, d50, d51, d52, d53, d54, d55, d56, d57, d58, d59, d60, d61, d62, d63, d64, d65, d66, d67, d68, d69, d70, d71]
  NN := [(["thing", "sign"] : List Str),
    (["thing"] : List Str),
    (["thing"] : List Str),
    (["things", "thing"] : List Str),
    (["term", "names"] : List Str),
    (["told", "word"] : List Str),
    (["part"] : List Str),
    (["part"] : List Str),
    (["term", "place", "part", "at"] : List Str),
    (["term"] : List Str),
    (["term"] : List Str),
    (["_law_script", "_law_cells", "_law_cell"] : List Str),
    (["_law_state_here", "_law_many", "_law_cells", "_law_at", "_law_cell"] : List Str),
    (["_law_state_here", "_law_names", "_law_way", "_law_letters", "_law_k"] : List Str),
    (["_law_state_here", "_law_way", "_law_number_here", "_law_k"] : List Str),
    (["_law_state_here", "_law_names", "_law_way"] : List Str),
    (["_law_state_here", "_law_names", "_law_deep", "_law_way", "_law_name_here", "_law_sign", "_law_parts", "_law_k"] : List Str),
    (["_law_told", "_law_name_here", "_law_given", "_law_head", "_law_part"] : List Str),
    (["_law_state_here", "_law_many", "_law_deep", "_law_frames_here", "_law_k", "_law_way", "_law_sign", "_law_nought"] : List Str),
    (["_law_frames_here", "_law_core_here", "_law_told", "_law_whole", "_law_hole"] : List Str),
    (["_law_frames_here", "_law_place_here", "_law_whole", "_law_hole"] : List Str),
    (["_law_state_here", "_law_way", "_law_name_here", "_law_body", "_law_given", "_law_one", "_law_near", "_law_other", "_law_sign", "_law_due", "_law_asked", "_law_nought"] : List Str),
    (["_law_state_here", "_law_way", "_law_name_here", "_law_maker", "_law_sign", "_law_more"] : List Str),
    (["_law_state_here", "_law_way", "_law_many", "_law_frames_here", "_law_name_here", "_law_sort", "_law_core_here", "_law_due"] : List Str),
    (["_law_found", "_law_place_here", "_law_sort", "_law_at"] : List Str),
    (["_law_script", "_law_state_here", "_law_turn", "_law_told", "_law_word", "_law_place_here", "_law_sort", "_law_whole"] : List Str),
    (["self", "name"] : List Str),
    (["self", "number"] : List Str),
    (["self", "name", "body"] : List Str),
    (["self", "maker", "given"] : List Str),
    (["self", "sign", "one", "other"] : List Str),
    (["self", "asked", "nought", "other"] : List Str),
    (["self", "name", "body"] : List Str),
    (["self", "name"] : List Str),
    (["self"] : List Str),
    (["self", "parts"] : List Str),
    (["self"] : List Str),
    (["self"] : List Str),
    (["self"] : List Str),
    (["self", "names", "part", "name"] : List Str),
    (["self", "name", "given"] : List Str),
    (["self", "name", "given", "part"] : List Str),
    (["self", "other"] : List Str),
    (["self"] : List Str),
    (["self"] : List Str),
    (["self"] : List Str),
    (["self"] : List Str),
    (["self", "name", "given"] : List Str),
    (["self"] : List Str),
    (["self"] : List Str),
    (["self"] : List Str),
    (["self", "parts"] : List Str),
    (["self"] : List Str),
    (["self"] : List Str),
    (["self"] : List Str),
    (["self"] : List Str),
    (["self", "parts"] : List Str),
    (["self"] : List Str),
    (["self"] : List Str),
    (["self"] : List Str),
    (["self", "parts"] : List Str),
    (["self"] : List Str),
    (["self"] : List Str),
    (["self"] : List Str),
    (["self", "parts"] : List Str),
    (["self"] : List Str),
    (["self"] : List Str),
    (["self"] : List Str),
    (["self", "parts"] : List Str),
    (["self"] : List Str),
    (["self"] : List Str),
    (["self"] : List Str)]
  np := [1, 1, 1, 1, 1, 1, 1, 1, 1, 1, 1, 1, 2, 2, 1, 2, 3, 3, 3, 2, 1, 1, 1, 1, 3, 1, 2, 2, 3, 3, 4, 4, 3, 2, 1, 2, 1, 1, 1, 1, 3, 3, 2, 1, 1, 1, 1, 3, 1, 1, 1, 2, 1, 1, 1, 1, 2, 1, 1, 1, 2, 1, 1, 1, 2, 1, 1, 1, 2, 1, 1, 1]
  flds := [[], [], ["name"], ["number"], ["name", "body"], ["maker", "given"], ["sign", "one", "other"], ["asked", "nought", "other"], ["name", "body"]]
  con := [.str [97, 98, 99, 100, 101, 102, 103, 104, 105, 106, 107, 108, 109, 110, 111, 112, 113, 114, 115, 116, 117, 118, 119, 120, 121, 122], .int 8, .tup [[43], [45], [60]]]
  dic := [[([110, 97, 109, 101], 2), ([110, 117, 109, 98, 101, 114], 2), ([109, 97, 107, 101, 114], 3), ([103, 105, 118, 101], 3), ([115, 117, 109], 4), ([99, 104, 111, 105, 99, 101], 4), ([97, 103, 97, 105, 110], 3), ([111, 112, 101, 110], 1)]]
  xfd := ["name"]
  xin := [33]
  frozen := [true, true, true, true, true, true, true, true, true]
  init := [none, none, some 26, some 27, some 28, some 29, some 30, some 31, some 32]
  meth := [[some 34, some 35, some 36, some 37, some 38, some 39, some 40, some 41, some 42, some 43], [some 34, some 35, some 36, some 37, some 38, some 39, some 40, some 41, some 42, some 43], [some 34, some 35, some 36, some 44, some 45, some 46, some 40, some 47, some 42, some 43], [some 34, some 35, some 36, some 48, some 49, some 39, some 40, some 41, some 42, some 43], [some 50, some 51, some 52, some 53, some 54, some 39, some 40, some 41, some 42, some 43], [some 55, some 56, some 36, some 57, some 58, some 39, some 40, some 41, some 42, some 43], [some 59, some 60, some 36, some 61, some 62, some 39, some 40, some 41, some 42, some 43], [some 63, some 64, some 36, some 65, some 66, some 39, some 40, some 41, some 42, some 43], [some 67, some 68, some 69, some 70, some 71, some 39, some 40, some 41, some 42, some 43]]
  sub := [[true, false, false, false, false, false, false, false, false], [true, true, false, false, false, false, false, false, false], [true, false, true, false, false, false, false, false, false], [true, false, false, true, false, false, false, false, false], [true, false, false, false, true, false, false, false, false], [true, false, false, false, false, true, false, false, false], [true, false, false, false, false, false, true, false, false], [true, false, false, false, false, false, false, true, false], [true, false, false, false, false, false, false, false, true], [false, false, false, false, false, false, false, false, false, true, false, false], [false, false, false, false, false, false, false, false, false, true, true, false], [false, false, false, false, false, false, false, false, false, true, false, true]]
  kw := [(9, 0, 0, ["term"], [0]), (10, 0, 0, ["term"], [0])]
theorem bind1 : ∀ (f : Nat) (d : He.DefD), dat.dd[f]? = some d → ∀ (kV doc pm : Value) (an : Option Addr) (cdv ct : Value) (us : List Value), us.length = (dat.ps f).length → bindArgs (PySem.W.fnOf d.name d.qual d.params d.body d.scope .none kV doc pm an cdv ct) ⟨us, []⟩ = pure ((dat.ps f).zip us)
  | 0, d, h, _, _, _, _, _, _, us, hl => by
    cases h
    match us, hl with
    | [_], _ => rfl
  | 1, d, h, _, _, _, _, _, _, us, hl => by
    cases h
    match us, hl with
    | [_], _ => rfl
  | 2, d, h, _, _, _, _, _, _, us, hl => by
    cases h
    match us, hl with
    | [_], _ => rfl
  | 3, d, h, _, _, _, _, _, _, us, hl => by
    cases h
    match us, hl with
    | [_], _ => rfl
  | 4, d, h, _, _, _, _, _, _, us, hl => by
    cases h
    match us, hl with
    | [_], _ => rfl
  | 5, d, h, _, _, _, _, _, _, us, hl => by
    cases h
    match us, hl with
    | [_], _ => rfl
  | 6, d, h, _, _, _, _, _, _, us, hl => by
    cases h
    match us, hl with
    | [_], _ => rfl
  | 7, d, h, _, _, _, _, _, _, us, hl => by
    cases h
    match us, hl with
    | [_], _ => rfl
  | 8, d, h, _, _, _, _, _, _, us, hl => by
    cases h
    match us, hl with
    | [_], _ => rfl
  | 9, d, h, _, _, _, _, _, _, us, hl => by
    cases h
    match us, hl with
    | [_], _ => rfl
  | 10, d, h, _, _, _, _, _, _, us, hl => by
    cases h
    match us, hl with
    | [_], _ => rfl
  | 11, d, h, _, _, _, _, _, _, us, hl => by
    cases h
    match us, hl with
    | [_], _ => rfl
  | 12, d, h, _, _, _, _, _, _, us, hl => by
    cases h
    match us, hl with
    | [_, _], _ => rfl
  | 13, d, h, _, _, _, _, _, _, us, hl => by
    cases h
    match us, hl with
    | [_, _], _ => rfl
  | 14, d, h, _, _, _, _, _, _, us, hl => by
    cases h
    match us, hl with
    | [_], _ => rfl
  | 15, d, h, _, _, _, _, _, _, us, hl => by
    cases h
    match us, hl with
    | [_, _], _ => rfl
  | 16, d, h, _, _, _, _, _, _, us, hl => by
    cases h
    match us, hl with
    | [_, _, _], _ => rfl
  | 17, d, h, _, _, _, _, _, _, us, hl => by
    cases h
    match us, hl with
    | [_, _, _], _ => rfl
  | 18, d, h, _, _, _, _, _, _, us, hl => by
    cases h
    match us, hl with
    | [_, _, _], _ => rfl
  | 19, d, h, _, _, _, _, _, _, us, hl => by
    cases h
    match us, hl with
    | [_, _], _ => rfl
  | 20, d, h, _, _, _, _, _, _, us, hl => by
    cases h
    match us, hl with
    | [_], _ => rfl
  | 21, d, h, _, _, _, _, _, _, us, hl => by
    cases h
    match us, hl with
    | [_], _ => rfl
  | 22, d, h, _, _, _, _, _, _, us, hl => by
    cases h
    match us, hl with
    | [_], _ => rfl
  | 23, d, h, _, _, _, _, _, _, us, hl => by
    cases h
    match us, hl with
    | [_], _ => rfl
  | 24, d, h, _, _, _, _, _, _, us, hl => by
    cases h
    match us, hl with
    | [_, _, _], _ => rfl
  | 25, d, h, _, _, _, _, _, _, us, hl => by
    cases h
    match us, hl with
    | [_], _ => rfl
  | 26, d, h, _, _, _, _, _, _, us, hl => by
    cases h
    match us, hl with
    | [_, _], _ => rfl
  | 27, d, h, _, _, _, _, _, _, us, hl => by
    cases h
    match us, hl with
    | [_, _], _ => rfl
  | 28, d, h, _, _, _, _, _, _, us, hl => by
    cases h
    match us, hl with
    | [_, _, _], _ => rfl
  | 29, d, h, _, _, _, _, _, _, us, hl => by
    cases h
    match us, hl with
    | [_, _, _], _ => rfl
  | 30, d, h, _, _, _, _, _, _, us, hl => by
    cases h
    match us, hl with
    | [_, _, _, _], _ => rfl
  | 31, d, h, _, _, _, _, _, _, us, hl => by
    cases h
    match us, hl with
    | [_, _, _, _], _ => rfl
  | 32, d, h, _, _, _, _, _, _, us, hl => by
    cases h
    match us, hl with
    | [_, _, _], _ => rfl
  | 33, d, h, _, _, _, _, _, _, us, hl => by
    cases h
    match us, hl with
    | [_, _], _ => rfl
  | 34, d, h, _, _, _, _, _, _, us, hl => by
    cases h
    match us, hl with
    | [_], _ => rfl
  | 35, d, h, _, _, _, _, _, _, us, hl => by
    cases h
    match us, hl with
    | [_, _], _ => rfl
  | 36, d, h, _, _, _, _, _, _, us, hl => by
    cases h
    match us, hl with
    | [_], _ => rfl
  | 37, d, h, _, _, _, _, _, _, us, hl => by
    cases h
    match us, hl with
    | [_], _ => rfl
  | 38, d, h, _, _, _, _, _, _, us, hl => by
    cases h
    match us, hl with
    | [_], _ => rfl
  | 39, d, h, _, _, _, _, _, _, us, hl => by
    cases h
    match us, hl with
    | [_], _ => rfl
  | 40, d, h, _, _, _, _, _, _, us, hl => by
    cases h
    match us, hl with
    | [_, _, _], _ => rfl
  | 41, d, h, _, _, _, _, _, _, us, hl => by
    cases h
    match us, hl with
    | [_, _, _], _ => rfl
  | 42, d, h, _, _, _, _, _, _, us, hl => by
    cases h
    match us, hl with
    | [_, _], _ => rfl
  | 43, d, h, _, _, _, _, _, _, us, hl => by
    cases h
    match us, hl with
    | [_], _ => rfl
  | 44, d, h, _, _, _, _, _, _, us, hl => by
    cases h
    match us, hl with
    | [_], _ => rfl
  | 45, d, h, _, _, _, _, _, _, us, hl => by
    cases h
    match us, hl with
    | [_], _ => rfl
  | 46, d, h, _, _, _, _, _, _, us, hl => by
    cases h
    match us, hl with
    | [_], _ => rfl
  | 47, d, h, _, _, _, _, _, _, us, hl => by
    cases h
    match us, hl with
    | [_, _, _], _ => rfl
  | 48, d, h, _, _, _, _, _, _, us, hl => by
    cases h
    match us, hl with
    | [_], _ => rfl
  | 49, d, h, _, _, _, _, _, _, us, hl => by
    cases h
    match us, hl with
    | [_], _ => rfl
  | 50, d, h, _, _, _, _, _, _, us, hl => by
    cases h
    match us, hl with
    | [_], _ => rfl
  | 51, d, h, _, _, _, _, _, _, us, hl => by
    cases h
    match us, hl with
    | [_, _], _ => rfl
  | 52, d, h, _, _, _, _, _, _, us, hl => by
    cases h
    match us, hl with
    | [_], _ => rfl
  | 53, d, h, _, _, _, _, _, _, us, hl => by
    cases h
    match us, hl with
    | [_], _ => rfl
  | 54, d, h, _, _, _, _, _, _, us, hl => by
    cases h
    match us, hl with
    | [_], _ => rfl
  | 55, d, h, _, _, _, _, _, _, us, hl => by
    cases h
    match us, hl with
    | [_], _ => rfl
  | 56, d, h, _, _, _, _, _, _, us, hl => by
    cases h
    match us, hl with
    | [_, _], _ => rfl
  | 57, d, h, _, _, _, _, _, _, us, hl => by
    cases h
    match us, hl with
    | [_], _ => rfl
  | 58, d, h, _, _, _, _, _, _, us, hl => by
    cases h
    match us, hl with
    | [_], _ => rfl
  | 59, d, h, _, _, _, _, _, _, us, hl => by
    cases h
    match us, hl with
    | [_], _ => rfl
  | 60, d, h, _, _, _, _, _, _, us, hl => by
    cases h
    match us, hl with
    | [_, _], _ => rfl
  | 61, d, h, _, _, _, _, _, _, us, hl => by
    cases h
    match us, hl with
    | [_], _ => rfl
  | 62, d, h, _, _, _, _, _, _, us, hl => by
    cases h
    match us, hl with
    | [_], _ => rfl
  | 63, d, h, _, _, _, _, _, _, us, hl => by
    cases h
    match us, hl with
    | [_], _ => rfl
  | 64, d, h, _, _, _, _, _, _, us, hl => by
    cases h
    match us, hl with
    | [_, _], _ => rfl
  | 65, d, h, _, _, _, _, _, _, us, hl => by
    cases h
    match us, hl with
    | [_], _ => rfl
  | 66, d, h, _, _, _, _, _, _, us, hl => by
    cases h
    match us, hl with
    | [_], _ => rfl
  | 67, d, h, _, _, _, _, _, _, us, hl => by
    cases h
    match us, hl with
    | [_], _ => rfl
  | 68, d, h, _, _, _, _, _, _, us, hl => by
    cases h
    match us, hl with
    | [_, _], _ => rfl
  | 69, d, h, _, _, _, _, _, _, us, hl => by
    cases h
    match us, hl with
    | [_], _ => rfl
  | 70, d, h, _, _, _, _, _, _, us, hl => by
    cases h
    match us, hl with
    | [_], _ => rfl
  | 71, d, h, _, _, _, _, _, _, us, hl => by
    cases h
    match us, hl with
    | [_], _ => rfl
  | _ + 72, d, h, _, _, _, _, _, _, us, hl => by cases h
theorem bind2 : ∀ (f : Nat) (d : He.DefD), dat.dd[f]? = some d → ∀ (h k : Nat) (ks : List Str) (ix : List Nat), (f, h, k, ks, ix) ∈ dat.kw → ∀ (kV doc pm : Value) (an : Option Addr) (cdv ct : Value) (u0 us ws : List Value), u0.length = h → us.length = k → ws.length = ks.length →
      bindArgs (PySem.W.fnOf d.name d.qual d.params d.body d.scope .none kV doc pm an cdv ct) ⟨u0 ++ us, ks.zip ws⟩ = pure ((dat.ps f).zip (u0 ++ ord ix (us ++ ws))) := by
  intro f d hd h k ks ix hm kV doc pm an cdv ct u0 us ws l0 l1 l2
  have hm2 : (f, h, k, ks, ix) ∈ ([(9, 0, 0, ["term"], [0]), (10, 0, 0, ["term"], [0])] : List (Nat × Nat × Nat × List Str × List Nat)) := hm
  simp only [List.mem_cons, Prod.mk.injEq, List.not_mem_nil, or_false] at hm2
  rcases hm2 with ⟨rfl, rfl, rfl, rfl, rfl⟩ | ⟨rfl, rfl, rfl, rfl, rfl⟩
  · cases hd
    match u0, us, ws, l0, l1, l2 with
    | [], [], [_], _, _, _ => rfl
  · cases hd
    match u0, us, ws, l0, l1, l2 with
    | [], [], [_], _, _, _ => rfl
theorem okD : dat.defB = true := by decide +kernel
theorem okF : dat.fldB = true := by decide +kernel
theorem okN : dat.fnB = true := by decide +kernel
theorem okC : dat.callB = true := by decide +kernel
abbrev rowO : PySem.W.OpenRow := PySem.W.OpenLaw.row PySem.Challenge.rw_usetally_k12_where_it_goes_on
abbrev hk : PySem.W.Hook := hookY 4 dat.fa dat.dd dat.tabs dat.ex
def ob (s : PySem.W.SharedT) : He.AlX := obsY 4 dat.fa dat.dd dat.tabs dat.ex (HandSHeadRun.getT s)
theorem ob_eq (s : PySem.W.SharedT) : ob s = hk.obs s.abs := obsY_eq (HandSHeadRun.getT_eq s)
def loose0 : List Str := ["_wall", "TallyError", "BadTerm", "NotClosed", "LETTERS", "MOST_LETTERS", "SUMS", "is_name", "is_whole", "need_name", "Term", "need_terms"]
def loose1 : List Str := ["Open", "Name", "Number", "Maker", "Give", "Sum", "Choice", "Again", "must_be_closed", "LENGTHS", "term_of", "sort_at"]
def loose2 : List Str := ["awaited", "going", "how", "spot", "_law_state", "_law_draw", "_law_name", "_law_number", "_law_leaf", "_law_any", "_law_put", "_law_frames"]
def loose3 : List Str := ["_law_around", "_law_place", "_law_core", "_law_stuck", "_law_case", "_law_pair_is"]
abbrev loose : List Str := loose0 ++ loose1 ++ loose2 ++ loose3
theorem headF (w : World) : HandSHeadRun.RunEq rowO (PySem.W.view rowO.prog [47]) hk ob 20000 loose (w.withFollow "special-get-raises" false) := by
  intro os
  kernel_rfl
theorem headT (w : World) : HandSHeadRun.RunEq rowO (PySem.W.view rowO.prog [47]) hk ob 20000 loose (w.withFollow "special-get-raises" true) := by
  intro os
  kernel_rfl
theorem head (w : World) : HandSHeadRun.RunEq rowO (PySem.W.view rowO.prog [47]) hk ob 20000 loose w :=
  PySem.W.byRow2 "special-get-raises" (P := fun w => HandSHeadRun.RunEq rowO (PySem.W.view rowO.prog [47]) hk ob 20000 loose w) headF headT w
end LW
end Part_K12H

section Part_K12B
set_option Elab.async false
set_option linter.all false
set_option maxRecDepth 100000
set_option maxHeartbeats 0
namespace LW
open PySem PySem.Spec PyProof.Rows L2 U
/-- is_name: thing, sign -/
abbrev body0 : List CS := [.ifs (.or (.not (.isi (.var 0) [.str])) (.not (.chain .LtE .LtE (.int 1) (.blt .len [(.var 0)]) (.con 1)))) [.ret (.bl false)] [], .ret (.blt .all [(.lc (.cmp .In (.var 1) (.con 0)) 1 (.of (.var 0)) [])])]
theorem def0 : dat.defs 0 = some ⟨1, 2, [], body0⟩ := by kernel_rfl
abbrev i_is_name : Nat := 0
abbrev b_is_name : List CS := body0
theorem t_is_name : dat.defs i_is_name = some ⟨1, 2, [], b_is_name⟩ := def0
/-- is_whole: thing -/
abbrev body1 : List CS := [.ret (.and (.isi (.var 0) [.int]) (.not (.isi (.var 0) [.bool])))]
theorem def1 : dat.defs 1 = some ⟨1, 1, [], body1⟩ := by kernel_rfl
abbrev i_is_whole : Nat := 1
abbrev b_is_whole : List CS := body1
theorem t_is_whole : dat.defs i_is_whole = some ⟨1, 1, [], b_is_whole⟩ := def1
/-- need_name: thing -/
abbrev body2 : List CS := [.ifs (.not (.call 0 [] [(.var 0)])) [.raise 10 [(.str [97, 32, 110, 97, 109, 101, 32, 104, 97, 115, 32, 49, 32, 116, 111, 32, 56, 32, 115, 109, 97, 108, 108, 32, 108, 101, 116, 116, 101, 114, 115])]] []]
theorem def2 : dat.defs 2 = some ⟨1, 1, [], body2⟩ := by kernel_rfl
abbrev i_need_name : Nat := 2
abbrev b_need_name : List CS := body2
theorem t_need_name : dat.defs i_need_name = some ⟨1, 1, [], b_need_name⟩ := def2
/-- need_terms: things, thing -/
abbrev body3 : List CS := [.for_ (.one 1) (.of (.var 0)) [.ifs (.not (.isi (.var 1) [.own 0])) [.raise 10 [(.str [97, 32, 112, 97, 114, 116, 32, 105, 115, 32, 97, 32, 116, 101, 114, 109])]] []]]
theorem def3 : dat.defs 3 = some ⟨1, 2, [], body3⟩ := by kernel_rfl
abbrev i_need_terms : Nat := 3
abbrev b_need_terms : List CS := body3
theorem t_need_terms : dat.defs i_need_terms = some ⟨1, 2, [], b_need_terms⟩ := def3
/-- must_be_closed: term, names -/
abbrev body4 : List CS := [.asg 1 (.meth (.var 0) 5 [] []), .ifs (.cmp .Gt (.blt .len [(.var 1)]) (.int 0)) [.raise 11 [(.idx (.var 1) (.int 0))]] []]
theorem def4 : dat.defs 4 = some ⟨1, 2, [], body4⟩ := by kernel_rfl
abbrev i_must_be_closed : Nat := 4
abbrev b_must_be_closed : List CS := body4
theorem t_must_be_closed : dat.defs i_must_be_closed = some ⟨1, 2, [], b_must_be_closed⟩ := def4
/-- term_of: told, word -/
abbrev body5 : List CS := [.ifs (.or (.not (.isi (.var 0) [.tup])) (.or (.cmp .Eq (.blt .len [(.var 0)]) (.int 0)) (.not (.isi (.idx (.var 0) (.int 0)) [.str])))) [.raise 10 [(.str [110, 111, 32, 116, 101, 114, 109, 32, 116, 101, 108, 108, 115, 32, 115, 111])]] [], .asg 1 (.idx (.var 0) (.int 0)), .ifs (.or (.din true (.var 1) 0) (.cmp .NotEq (.blt .len [(.var 0)]) (.dix 0 (.var 1)))) [.raise 10 [(.str [110, 111, 32, 116, 101, 114, 109, 32, 116, 101, 108, 108, 115, 32, 115, 111])]] [], .ifs (.cmp .Eq (.var 1) (.str [110, 97, 109, 101])) [.ret (.new 2 [] [(.idx (.var 0) (.int 1))])] [], .ifs (.cmp .Eq (.var 1) (.str [110, 117, 109, 98, 101, 114])) [.ret (.new 3 [] [(.idx (.var 0) (.int 1))])] [], .ifs (.cmp .Eq (.var 1) (.str [109, 97, 107, 101, 114])) [.ret (.new 4 [] [(.idx (.var 0) (.int 1)), (.call 5 [] [(.idx (.var 0) (.int 2))])])] [], .ifs (.cmp .Eq (.var 1) (.str [103, 105, 118, 101])) [.ret (.new 5 [] [(.call 5 [] [(.idx (.var 0) (.int 1))]), (.call 5 [] [(.idx (.var 0) (.int 2))])])] [], .ifs (.cmp .Eq (.var 1) (.str [115, 117, 109])) [.ret (.new 6 [] [(.idx (.var 0) (.int 1)), (.call 5 [] [(.idx (.var 0) (.int 2))]), (.call 5 [] [(.idx (.var 0) (.int 3))])])] [], .ifs (.cmp .Eq (.var 1) (.str [99, 104, 111, 105, 99, 101])) [.ret (.new 7 [] [(.call 5 [] [(.idx (.var 0) (.int 1))]), (.call 5 [] [(.idx (.var 0) (.int 2))]), (.call 5 [] [(.idx (.var 0) (.int 3))])])] [], .ifs (.cmp .Eq (.var 1) (.str [97, 103, 97, 105, 110])) [.ret (.new 8 [] [(.idx (.var 0) (.int 1)), (.call 5 [] [(.idx (.var 0) (.int 2))])])] [], .ret (.new 1 [] [])]
theorem def5 : dat.defs 5 = some ⟨1, 2, [], body5⟩ := by kernel_rfl
abbrev i_term_of : Nat := 5
abbrev b_term_of : List CS := body5
theorem t_term_of : dat.defs i_term_of = some ⟨1, 2, [], b_term_of⟩ := def5
/-- sort_at: part -/
abbrev body6 : List CS := [.ifs (.isi (.var 0) [.own 8]) [.ret (.str [116, 117, 114, 110])] [], .ifs (.and (.isi (.var 0) [.own 5]) (.isi (.fld (.var 0) 3) [.own 4])) [.ret (.str [116, 97, 107, 101])] [], .ifs (.and (.isi (.var 0) [.own 6]) (.and (.isi (.fld (.var 0) 6) [.own 3]) (.isi (.fld (.var 0) 7) [.own 3]))) [.ret (.str [115, 117, 109])] [], .ifs (.and (.isi (.var 0) [.own 7]) (.isi (.fld (.var 0) 8) [.own 3])) [.ret (.str [99, 104, 111, 111, 115, 101])] [], .ret .non]
theorem def6 : dat.defs 6 = some ⟨1, 1, [], body6⟩ := by kernel_rfl
abbrev i_sort_at : Nat := 6
abbrev b_sort_at : List CS := body6
theorem t_sort_at : dat.defs i_sort_at = some ⟨1, 1, [], b_sort_at⟩ := def6
/-- awaited: part -/
abbrev body7 : List CS := [.ifs (.and (.isi (.var 0) [.own 6]) (.isi (.fld (.var 0) 6) [.own 3])) [.ret (.int 1)] [], .ifs (.isi (.var 0) [.own 5, .own 6, .own 7]) [.ret (.int 0)] [], .ret .non]
theorem def7 : dat.defs 7 = some ⟨1, 1, [], body7⟩ := by kernel_rfl
abbrev i_awaited : Nat := 7
abbrev b_awaited : List CS := body7
theorem t_awaited : dat.defs i_awaited = some ⟨1, 1, [], b_awaited⟩ := def7
/-- going: term, place, part, at -/
abbrev body8 : List CS := [.asg 1 (.tup []), .asg 2 (.var 0), .whl (.cmp .Is (.call 6 [] [(.var 2)]) .non) [.asg 3 (.call 7 [] [(.var 2)]), .ifs (.cmp .Is (.var 3) .non) [.ret .non] [], .asg 1 (.bin .Add (.var 1) (.tup [(.var 3)])), .asg 2 (.idx (.meth (.var 2) 0 [] []) (.var 3))], .ret (.tup [(.var 1), (.call 6 [] [(.var 2)])])]
theorem def8 : dat.defs 8 = some ⟨1, 4, [], body8⟩ := by kernel_rfl
abbrev i_going : Nat := 8
abbrev b_going : List CS := body8
theorem t_going : dat.defs i_going = some ⟨1, 4, [], b_going⟩ := def8
/-- how: term -/
abbrev body9 : List CS := [.expr (.call 4 [] [(.var 0)]), .ifs (.isi (.var 0) [.own 3]) [.ret (.str [110, 117, 109, 98, 101, 114])] [], .ifs (.isi (.var 0) [.own 4]) [.ret (.str [109, 97, 107, 101, 114])] [], .ret (.ife (.cmp .Is (.call 8 [] [(.var 0)]) .non) (.str [115, 116, 117, 99, 107]) (.str [103, 111, 101, 115]))]
theorem def9 : dat.defs 9 = some ⟨1, 1, [], body9⟩ := by kernel_rfl
abbrev i_how : Nat := 9
abbrev b_how : List CS := body9
theorem t_how : dat.defs i_how = some ⟨1, 1, [], b_how⟩ := def9
/-- spot: term -/
abbrev body10 : List CS := [.expr (.call 4 [] [(.var 0)]), .ret (.call 8 [] [(.var 0)])]
theorem def10 : dat.defs 10 = some ⟨1, 1, [], body10⟩ := by kernel_rfl
abbrev i_spot : Nat := 10
abbrev b_spot : List CS := body10
theorem t_spot : dat.defs i_spot = some ⟨1, 1, [], b_spot⟩ := def10
/-- _law_state: _law_script, _law_cells, _law_cell -/
abbrev body11 : List CS := [.asg 1 (.lc (.blt .abs [(.var 2)]) 2 (.of (.var 0)) []), .ifs (.cmp .Eq (.var 1) (.lst [])) [.asg 1 (.lst [(.int 1)])] [], .ret (.lst [(.var 1), (.int 0), (.int 1)])]
theorem def11 : dat.defs 11 = some ⟨1, 3, [], body11⟩ := by kernel_rfl
abbrev i_law_state : Nat := 11
abbrev b_law_state : List CS := body11
theorem t_law_state : dat.defs i_law_state = some ⟨1, 3, [], b_law_state⟩ := def11
/-- _law_draw: _law_state_here, _law_many, _law_cells, _law_at, _law_cell -/
abbrev body12 : List CS := [.asg 2 (.idx (.var 0) (.int 0)), .asg 3 (.bin .Mod (.idx (.var 0) (.int 1)) (.blt .len [(.var 2)])), .asg 4 (.idx (.var 2) (.var 3)), .ifs (.cmp .GtE (.var 4) (.int 1000000000000000000)) [.seti (.var 2) (.var 3) (.bin .FloorDiv (.var 4) (.var 1)), .ret (.bin .Mod (.var 4) (.var 1))] [], .seti (.var 0) (.int 1) (.bin .Add (.idx (.var 0) (.int 1)) (.int 1)), .seti (.var 0) (.int 2) (.bin .Mod (.bin .Add (.bin .Add (.bin .Mult (.idx (.var 0) (.int 2)) (.int 48271)) (.var 4)) (.int 12345)) (.int 2147483647)), .ret (.bin .Mod (.bin .FloorDiv (.bin .Mod (.bin .Mult (.idx (.var 0) (.int 2)) (.idx (.var 0) (.int 2))) (.int 2147483629)) (.int 16)) (.var 1))]
theorem def12 : dat.defs 12 = some ⟨2, 5, [], body12⟩ := by kernel_rfl
abbrev i_law_draw : Nat := 12
abbrev b_law_draw : List CS := body12
theorem t_law_draw : dat.defs i_law_draw = some ⟨2, 5, [], b_law_draw⟩ := def12
/-- _law_name: _law_state_here, _law_names, _law_way, _law_letters, _law_k -/
abbrev body13 : List CS := [.asg 2 (.call 12 [] [(.var 0), (.int 10)]), .ifs (.and (.cmp .NotEq (.var 1) (.lst [])) (.cmp .Lt (.var 2) (.int 4))) [.ret (.idx (.var 1) (.call 12 [] [(.var 0), (.blt .len [(.var 1)])]))] [], .ifs (.cmp .Eq (.var 2) (.int 4)) [.ret (.idx (.lst [(.str [111, 112, 101, 110]), (.str [108, 111, 111, 107]), (.str [116, 97, 107, 101]), (.str [116, 117, 114, 110]), (.str [115, 117, 109]), (.str [99, 104, 111, 111, 115, 101]), (.str [109, 97, 107, 101, 114]), (.str [110, 117, 109, 98, 101, 114])]) (.call 12 [] [(.var 0), (.int 8)]))] [], .asg 3 (.str [97, 98, 99, 100, 101, 102, 103, 104, 105, 106, 107, 108, 109, 110, 111, 112, 113, 114, 115, 116, 117, 118, 119, 120, 121, 122]), .ret (.bm (.str []) .join [(.lc (.idx (.var 3) (.call 12 [] [(.var 0), (.int 26)])) 4 (.rng1 (.bin .Add (.int 1) (.call 12 [] [(.var 0), (.int 8)]))) [])])]
theorem def13 : dat.defs 13 = some ⟨2, 5, [], body13⟩ := by kernel_rfl
abbrev i_law_name : Nat := 13
abbrev b_law_name : List CS := body13
theorem t_law_name : dat.defs i_law_name = some ⟨2, 5, [], b_law_name⟩ := def13
/-- _law_number: _law_state_here, _law_way, _law_number_here, _law_k -/
abbrev body14 : List CS := [.asg 1 (.call 12 [] [(.var 0), (.int 6)]), .ifs (.cmp .Lt (.var 1) (.int 2)) [.ret (.var 1)] [], .asg 2 (.call 12 [] [(.var 0), (.int 100)]), .for_ (.one 3) (.rng1 (.idx (.lst [(.int 0), (.int 0), (.int 1), (.int 2), (.int 38)]) (.bin .Sub (.var 1) (.int 1)))) [.asg 2 (.bin .Add (.bin .Mult (.var 2) (.int 10)) (.call 12 [] [(.var 0), (.int 10)]))], .ret (.bin .Mult (.var 2) (.idx (.lst [(.int 1), (.neg (.int 1))]) (.call 12 [] [(.var 0), (.int 2)])))]
theorem def14 : dat.defs 14 = some ⟨1, 4, [], body14⟩ := by kernel_rfl
abbrev i_law_number : Nat := 14
abbrev b_law_number : List CS := body14
theorem t_law_number : dat.defs i_law_number = some ⟨1, 4, [], b_law_number⟩ := def14
/-- _law_leaf: _law_state_here, _law_names, _law_way -/
abbrev body15 : List CS := [.asg 2 (.call 12 [] [(.var 0), (.int 8)]), .ifs (.and (.cmp .NotEq (.var 1) (.lst [])) (.cmp .Lt (.var 2) (.int 5))) [.ret (.tup [(.str [110, 97, 109, 101]), (.idx (.var 1) (.call 12 [] [(.var 0), (.blt .len [(.var 1)])]))])] [], .ifs (.cmp .Eq (.var 2) (.int 7)) [.ret (.tup [(.str [111, 112, 101, 110])])] [], .ret (.tup [(.str [110, 117, 109, 98, 101, 114]), (.call 14 [] [(.var 0)])])]
theorem def15 : dat.defs 15 = some ⟨2, 3, [], body15⟩ := by kernel_rfl
abbrev i_law_leaf : Nat := 15
abbrev b_law_leaf : List CS := body15
theorem t_law_leaf : dat.defs i_law_leaf = some ⟨2, 3, [], b_law_leaf⟩ := def15
/-- _law_any: _law_state_here, _law_names, _law_deep, _law_way, _law_name_here, _law_sign, _law_parts, _law_k -/
abbrev body16 : List CS := [.asg 3 (.call 12 [] [(.var 0), (.int 12)]), .ifs (.or (.cmp .Lt (.var 2) (.int 2)) (.cmp .Lt (.var 3) (.int 3))) [.ret (.call 15 [] [(.var 0), (.var 1)])] [], .ifs (.cmp .Lt (.var 3) (.int 6)) [.asg 4 (.call 13 [] [(.var 0), (.var 1)]), .ret (.tup [(.idx (.lst [(.str [109, 97, 107, 101, 114]), (.str [109, 97, 107, 101, 114]), (.str [97, 103, 97, 105, 110])]) (.bin .Sub (.var 3) (.int 3))), (.var 4), (.call 16 [] [(.var 0), (.bin .Add (.var 1) (.lst [(.var 4)])), (.bin .Sub (.var 2) (.int 1))])])] [], .ifs (.cmp .Lt (.var 3) (.int 9)) [.ret (.tup [(.str [103, 105, 118, 101]), (.call 16 [] [(.var 0), (.var 1), (.bin .Sub (.var 2) (.int 1))]), (.call 16 [] [(.var 0), (.var 1), (.bin .Sub (.var 2) (.int 1))])])] [], .ifs (.cmp .Lt (.var 3) (.int 11)) [.asg 5 (.idx (.lst [(.str [43]), (.str [45]), (.str [60])]) (.call 12 [] [(.var 0), (.int 3)])), .ret (.tup [(.str [115, 117, 109]), (.var 5), (.call 16 [] [(.var 0), (.var 1), (.bin .Sub (.var 2) (.int 1))]), (.call 16 [] [(.var 0), (.var 1), (.bin .Sub (.var 2) (.int 1))])])] [], .asg 6 (.lc (.call 16 [] [(.var 0), (.var 1), (.bin .Sub (.var 2) (.int 1))]) 7 (.rng1 (.int 3)) []), .ret (.tup [(.str [99, 104, 111, 105, 99, 101]), (.idx (.var 6) (.int 0)), (.idx (.var 6) (.int 1)), (.idx (.var 6) (.int 2))])]
theorem def16 : dat.defs 16 = some ⟨3, 8, [], body16⟩ := by kernel_rfl
abbrev i_law_any : Nat := 16
abbrev b_law_any : List CS := body16
theorem t_law_any : dat.defs i_law_any = some ⟨3, 8, [], b_law_any⟩ := def16
/-- _law_put: _law_told, _law_name_here, _law_given, _law_head, _law_part -/
abbrev body17 : List CS := [.ifs (.cmp .Eq (.idx (.var 0) (.int 0)) (.str [110, 97, 109, 101])) [.ret (.ife (.cmp .Eq (.idx (.var 0) (.int 1)) (.var 1)) (.var 2) (.var 0))] [], .ifs (.or (.cmp .In (.idx (.var 0) (.int 0)) (.lst [(.str [110, 117, 109, 98, 101, 114]), (.str [111, 112, 101, 110])])) (.and (.cmp .In (.idx (.var 0) (.int 0)) (.lst [(.str [109, 97, 107, 101, 114]), (.str [97, 103, 97, 105, 110])])) (.cmp .Eq (.idx (.var 0) (.int 1)) (.var 1)))) [.ret (.var 0)] [], .asg 3 (.bin .Add (.int 1) (.blt .int [(.cmp .In (.idx (.var 0) (.int 0)) (.lst [(.str [109, 97, 107, 101, 114]), (.str [97, 103, 97, 105, 110]), (.str [115, 117, 109])]))])), .ret (.bin .Add (.slc (.var 0) [] [(.var 3)]) (.blt .tuple [(.lc (.call 17 [] [(.var 4), (.var 1), (.var 2)]) 4 (.of (.slc (.var 0) [(.var 3)] [])) [])]))]
theorem def17 : dat.defs 17 = some ⟨3, 5, [], body17⟩ := by kernel_rfl
abbrev i_law_put : Nat := 17
abbrev b_law_put : List CS := body17
theorem t_law_put : dat.defs i_law_put = some ⟨3, 5, [], b_law_put⟩ := def17
/-- _law_frames: _law_state_here, _law_many, _law_deep, _law_frames_here, _law_k, _law_way, _law_sign, _law_nought -/
abbrev body18 : List CS := [.asg 3 (.lst []), .for_ (.one 4) (.rng1 (.var 1)) [.asg 5 (.call 12 [] [(.var 0), (.int 4)]), .asg 6 (.idx (.lst [(.str [43]), (.str [45]), (.str [60])]) (.call 12 [] [(.var 0), (.int 3)])), .ifs (.cmp .Eq (.var 5) (.int 0)) [.expr (.bm (.var 3) .append [(.tup [(.tup [(.str [103, 105, 118, 101]), .non, (.call 16 [] [(.var 0), (.lst []), (.var 2)])]), (.int 1)])])] [.ifs (.cmp .Eq (.var 5) (.int 1)) [.expr (.bm (.var 3) .append [(.tup [(.tup [(.str [115, 117, 109]), (.var 6), .non, (.call 16 [] [(.var 0), (.lst []), (.var 2)])]), (.int 2)])])] [.ifs (.cmp .Eq (.var 5) (.int 2)) [.expr (.bm (.var 3) .append [(.tup [(.tup [(.str [115, 117, 109]), (.var 6), (.tup [(.str [110, 117, 109, 98, 101, 114]), (.call 14 [] [(.var 0)])]), .non]), (.int 3)])])] [.asg 7 (.call 16 [] [(.var 0), (.lst []), (.var 2)]), .expr (.bm (.var 3) .append [(.tup [(.tup [(.str [99, 104, 111, 105, 99, 101]), .non, (.var 7), (.call 16 [] [(.var 0), (.lst []), (.var 2)])]), (.int 1)])])]]]], .ret (.var 3)]
theorem def18 : dat.defs 18 = some ⟨3, 8, [], body18⟩ := by kernel_rfl
abbrev i_law_frames : Nat := 18
abbrev b_law_frames : List CS := body18
theorem t_law_frames : dat.defs i_law_frames = some ⟨3, 8, [], b_law_frames⟩ := def18
/-- _law_around: _law_frames_here, _law_core_here, _law_told, _law_whole, _law_hole -/
abbrev body19 : List CS := [.asg 2 (.var 1), .for_ (.tup [3, 4]) (.of (.var 0)) [.asg 2 (.bin .Add (.bin .Add (.slc (.var 3) [] [(.var 4)]) (.tup [(.var 2)])) (.slc (.var 3) [(.bin .Add (.var 4) (.int 1))] []))], .ret (.var 2)]
theorem def19 : dat.defs 19 = some ⟨2, 5, [], body19⟩ := by kernel_rfl
abbrev i_law_around : Nat := 19
abbrev b_law_around : List CS := body19
theorem t_law_around : dat.defs i_law_around = some ⟨2, 5, [], b_law_around⟩ := def19
/-- _law_place: _law_frames_here, _law_place_here, _law_whole, _law_hole -/
abbrev body20 : List CS := [.asg 1 (.tup []), .for_ (.tup [2, 3]) (.of (.var 0)) [.asg 1 (.bin .Add (.tup [(.bin .Sub (.bin .Sub (.var 3) (.int 1)) (.blt .int [(.cmp .Eq (.idx (.var 2) (.int 0)) (.str [115, 117, 109]))]))]) (.var 1))], .ret (.var 1)]
theorem def20 : dat.defs 20 = some ⟨1, 4, [], body20⟩ := by kernel_rfl
abbrev i_law_place : Nat := 20
abbrev b_law_place : List CS := body20
theorem t_law_place : dat.defs i_law_place = some ⟨1, 4, [], b_law_place⟩ := def20
/-- _law_core: _law_state_here, _law_way, _law_name_here, _law_body, _law_given, _law_one, _law_near, _law_other, _law_sign, _law_due, _law_asked, _law_nought -/
abbrev body21 : List CS := [.asg 1 (.call 12 [] [(.var 0), (.int 4)]), .ifs (.cmp .Lt (.var 1) (.int 2)) [.asg 2 (.call 13 [] [(.var 0), (.lst [])]), .asg 3 (.call 16 [] [(.var 0), (.lst [(.var 2)]), (.int 3)]), .asg 4 (.tup [(.str [97, 103, 97, 105, 110]), (.var 2), (.var 3)]), .ifs (.cmp .Eq (.var 1) (.int 1)) [.ret (.tup [(.str [116, 117, 114, 110]), (.var 4), (.call 17 [] [(.var 3), (.var 2), (.var 4)])])] [], .asg 4 (.call 16 [] [(.var 0), (.lst []), (.int 3)]), .ret (.tup [(.str [116, 97, 107, 101]), (.tup [(.str [103, 105, 118, 101]), (.tup [(.str [109, 97, 107, 101, 114]), (.var 2), (.var 3)]), (.var 4)]), (.call 17 [] [(.var 3), (.var 2), (.var 4)])])] [], .ifs (.cmp .Eq (.var 1) (.int 2)) [.asg 5 (.call 14 [] [(.var 0)]), .asg 6 (.blt .int [(.cmp .Lt (.blt .abs [(.var 5)]) (.bin .Pow (.int 10) (.int 39)))]), .asg 7 (.idx (.lst [(.var 5), (.call 14 [] [(.var 0)]), (.bin .Add (.var 5) (.var 6)), (.bin .Sub (.var 5) (.var 6))]) (.call 12 [] [(.var 0), (.int 4)])), .asg 8 (.call 12 [] [(.var 0), (.int 3)]), .asg 9 (.idx (.lst [(.bin .Add (.var 5) (.var 7)), (.bin .Sub (.var 5) (.var 7)), (.blt .int [(.cmp .Lt (.var 5) (.var 7))])]) (.var 8)), .ret (.tup [(.str [115, 117, 109]), (.tup [(.str [115, 117, 109]), (.idx (.lst [(.str [43]), (.str [45]), (.str [60])]) (.var 8)), (.tup [(.str [110, 117, 109, 98, 101, 114]), (.var 5)]), (.tup [(.str [110, 117, 109, 98, 101, 114]), (.var 7)])]), (.tup [(.str [110, 117, 109, 98, 101, 114]), (.var 9)])])] [], .asg 10 (.idx (.lst [(.int 0), (.call 14 [] [(.var 0)]), (.neg (.int 1))]) (.call 12 [] [(.var 0), (.int 3)])), .asg 11 (.call 16 [] [(.var 0), (.lst []), (.int 3)]), .asg 7 (.call 16 [] [(.var 0), (.lst []), (.int 3)]), .ret (.tup [(.str [99, 104, 111, 111, 115, 101]), (.tup [(.str [99, 104, 111, 105, 99, 101]), (.tup [(.str [110, 117, 109, 98, 101, 114]), (.var 10)]), (.var 11), (.var 7)]), (.ife (.cmp .Eq (.var 10) (.int 0)) (.var 11) (.var 7))])]
theorem def21 : dat.defs 21 = some ⟨1, 12, [], body21⟩ := by kernel_rfl
abbrev i_law_core : Nat := 21
abbrev b_law_core : List CS := body21
theorem t_law_core : dat.defs i_law_core = some ⟨1, 12, [], b_law_core⟩ := def21
/-- _law_stuck: _law_state_here, _law_way, _law_name_here, _law_maker, _law_sign, _law_more -/
abbrev body22 : List CS := [.asg 1 (.call 12 [] [(.var 0), (.int 5)]), .asg 2 (.call 13 [] [(.var 0), (.lst [])]), .asg 3 (.tup [(.str [109, 97, 107, 101, 114]), (.var 2), (.call 16 [] [(.var 0), (.lst [(.var 2)]), (.int 2)])]), .asg 4 (.idx (.lst [(.str [43]), (.str [45]), (.str [60])]) (.call 12 [] [(.var 0), (.int 3)])), .asg 5 (.call 16 [] [(.var 0), (.lst []), (.int 3)]), .ifs (.cmp .Eq (.var 1) (.int 0)) [.ret (.tup [(.str [111, 112, 101, 110])])] [], .ifs (.cmp .Eq (.var 1) (.int 1)) [.ret (.tup [(.str [103, 105, 118, 101]), (.tup [(.str [110, 117, 109, 98, 101, 114]), (.call 14 [] [(.var 0)])]), (.var 5)])] [], .ifs (.cmp .Eq (.var 1) (.int 2)) [.ret (.tup [(.str [115, 117, 109]), (.var 4), (.var 3), (.var 5)])] [], .ifs (.cmp .Eq (.var 1) (.int 3)) [.ret (.tup [(.str [115, 117, 109]), (.var 4), (.tup [(.str [110, 117, 109, 98, 101, 114]), (.call 14 [] [(.var 0)])]), (.var 3)])] [], .ret (.tup [(.str [99, 104, 111, 105, 99, 101]), (.var 3), (.var 5), (.call 16 [] [(.var 0), (.lst []), (.int 2)])])]
theorem def22 : dat.defs 22 = some ⟨1, 6, [], body22⟩ := by kernel_rfl
abbrev i_law_stuck : Nat := 22
abbrev b_law_stuck : List CS := body22
theorem t_law_stuck : dat.defs i_law_stuck = some ⟨1, 6, [], b_law_stuck⟩ := def22
/-- _law_case: _law_state_here, _law_way, _law_many, _law_frames_here, _law_name_here, _law_sort, _law_core_here, _law_due -/
abbrev body23 : List CS := [.asg 1 (.call 12 [] [(.var 0), (.int 8)]), .asg 2 (.idx (.lst [(.call 12 [] [(.var 0), (.int 9)]), (.int 40)]) (.blt .int [(.cmp .Eq (.call 12 [] [(.var 0), (.int 12)]) (.int 0))])), .asg 3 (.call 18 [] [(.var 0), (.var 2), (.idx (.lst [(.int 3), (.int 1)]) (.blt .int [(.cmp .Eq (.var 2) (.int 40))]))]), .ifs (.cmp .Eq (.var 1) (.int 0)) [.ret (.tup [(.tup [(.str [110, 117, 109, 98, 101, 114]), (.call 14 [] [(.var 0)])]), (.str [110, 117, 109, 98, 101, 114]), .non, .non])] [], .ifs (.cmp .Eq (.var 1) (.int 1)) [.asg 4 (.call 13 [] [(.var 0), (.lst [])]), .ret (.tup [(.tup [(.str [109, 97, 107, 101, 114]), (.var 4), (.call 16 [] [(.var 0), (.lst [(.var 4)]), (.int 4)])]), (.str [109, 97, 107, 101, 114]), .non, .non])] [], .ifs (.cmp .Lt (.var 1) (.int 4)) [.ret (.tup [(.call 19 [] [(.var 3), (.call 22 [] [(.var 0)])]), (.str [115, 116, 117, 99, 107]), .non, .non])] [], .unp [5, 6, 7] (.call 21 [] [(.var 0)]), .ret (.tup [(.call 19 [] [(.var 3), (.var 6)]), (.str [103, 111, 101, 115]), (.call 20 [] [(.var 3)]), (.var 5)])]
theorem def23 : dat.defs 23 = some ⟨1, 8, [], body23⟩ := by kernel_rfl
abbrev i_law_case : Nat := 23
abbrev b_law_case : List CS := body23
theorem t_law_case : dat.defs i_law_case = some ⟨1, 8, [], b_law_case⟩ := def23
/-- _law_pair_is: _law_found, _law_place_here, _law_sort, _law_at -/
abbrev body24 : List CS := [.ifs (.cmp .Is (.var 1) .non) [.ret (.cmp .Is (.var 0) .non)] [], .ifs (.or (.not (.isi (.var 0) [.tup])) (.or (.cmp .NotEq (.blt .len [(.var 0)]) (.int 2)) (.not (.isi (.idx (.var 0) (.int 0)) [.tup])))) [.ret (.bl false)] [], .ifs (.cmp .NotEq (.lc (.var 3) 3 (.of (.idx (.var 0) (.int 0))) [(.or (.not (.isi (.var 3) [.int])) (.isi (.var 3) [.bool]))]) (.lst [])) [.ret (.bl false)] [], .ret (.and (.isi (.idx (.var 0) (.int 1)) [.str]) (.cmp .Eq (.var 0) (.tup [(.var 1), (.var 2)])))]
theorem def24 : dat.defs 24 = some ⟨3, 4, [], body24⟩ := by kernel_rfl
abbrev i_law_pair_is : Nat := 24
abbrev b_law_pair_is : List CS := body24
theorem t_law_pair_is : dat.defs i_law_pair_is = some ⟨3, 4, [], b_law_pair_is⟩ := def24
/-- law: _law_script, _law_state_here, _law_turn, _law_told, _law_word, _law_place_here, _law_sort, _law_whole -/
abbrev body25 : List CS := [.asg 1 (.call 11 [] [(.var 0)]), .for_ (.one 2) (.rng1 (.int 6)) [.unp [3, 4, 5, 6] (.call 23 [] [(.var 1)]), .asg 7 (.call 5 [] [(.var 3)]), .ifs (.or (.cmp .NotEq (.call 9 [0] [(.var 7)]) (.var 4)) (.or (.not (.call 24 [] [(.call 10 [] [(.var 7)]), (.var 5), (.var 6)])) (.cmp .NotEq (.call 9 [] [(.var 7)]) (.var 4)))) [.ret (.bl false)] [], .ifs (.not (.call 24 [] [(.call 10 [0] [(.var 7)]), (.var 5), (.var 6)])) [.ret (.bl false)] [], .ifs (.cmp .NotEq (.meth (.var 7) 3 [] []) (.var 3)) [.ret (.bl false)] []], .ret (.bl true)]
theorem def25 : dat.defs 25 = some ⟨1, 8, [], body25⟩ := by kernel_rfl
abbrev i_law : Nat := 25
abbrev b_law : List CS := body25
theorem t_law : dat.defs i_law = some ⟨1, 8, [], b_law⟩ := def25
/-- Name.__init__: self, name -/
abbrev body26 : List CS := [.expr (.call 2 [] [(.var 1)]), .setf (.var 0) 0 (.var 1)]
theorem def26 : dat.defs 26 = some ⟨2, 2, [], body26⟩ := by kernel_rfl
abbrev i_Name___init : Nat := 26
abbrev b_Name___init : List CS := body26
theorem t_Name___init : dat.defs i_Name___init = some ⟨2, 2, [], b_Name___init⟩ := def26
/-- Number.__init__: self, number -/
abbrev body27 : List CS := [.ifs (.not (.call 1 [] [(.var 1)])) [.raise 10 [(.str [97, 32, 110, 117, 109, 98, 101, 114, 32, 105, 115, 32, 119, 104, 111, 108, 101])]] [], .setf (.var 0) 1 (.var 1)]
theorem def27 : dat.defs 27 = some ⟨2, 2, [], body27⟩ := by kernel_rfl
abbrev i_Number___init : Nat := 27
abbrev b_Number___init : List CS := body27
theorem t_Number___init : dat.defs i_Number___init = some ⟨2, 2, [], b_Number___init⟩ := def27
/-- Maker.__init__: self, name, body -/
abbrev body28 : List CS := [.expr (.call 2 [] [(.var 1)]), .expr (.call 3 [] [(.lst [(.var 2)])]), .setf (.var 0) 0 (.var 1), .setf (.var 0) 2 (.var 2)]
theorem def28 : dat.defs 28 = some ⟨3, 3, [], body28⟩ := by kernel_rfl
abbrev i_Maker___init : Nat := 28
abbrev b_Maker___init : List CS := body28
theorem t_Maker___init : dat.defs i_Maker___init = some ⟨3, 3, [], b_Maker___init⟩ := def28
/-- Give.__init__: self, maker, given -/
abbrev body29 : List CS := [.expr (.call 3 [] [(.lst [(.var 1), (.var 2)])]), .setf (.var 0) 3 (.var 1), .setf (.var 0) 4 (.var 2)]
theorem def29 : dat.defs 29 = some ⟨3, 3, [], body29⟩ := by kernel_rfl
abbrev i_Give___init : Nat := 29
abbrev b_Give___init : List CS := body29
theorem t_Give___init : dat.defs i_Give___init = some ⟨3, 3, [], b_Give___init⟩ := def29
/-- Sum.__init__: self, sign, one, other -/
abbrev body30 : List CS := [.ifs (.or (.not (.isi (.var 1) [.str])) (.cmp .NotIn (.var 1) (.con 2))) [.raise 10 [(.str [97, 32, 115, 117, 109, 39, 115, 32, 115, 105, 103, 110, 32, 105, 115, 32, 43, 44, 32, 45, 32, 111, 114, 32, 60])]] [], .expr (.call 3 [] [(.lst [(.var 2), (.var 3)])]), .setf (.var 0) 5 (.var 1), .setf (.var 0) 6 (.var 2), .setf (.var 0) 7 (.var 3)]
theorem def30 : dat.defs 30 = some ⟨4, 4, [], body30⟩ := by kernel_rfl
abbrev i_Sum___init : Nat := 30
abbrev b_Sum___init : List CS := body30
theorem t_Sum___init : dat.defs i_Sum___init = some ⟨4, 4, [], b_Sum___init⟩ := def30
/-- Choice.__init__: self, asked, nought, other -/
abbrev body31 : List CS := [.expr (.call 3 [] [(.lst [(.var 1), (.var 2), (.var 3)])]), .setf (.var 0) 8 (.var 1), .setf (.var 0) 9 (.var 2), .setf (.var 0) 7 (.var 3)]
theorem def31 : dat.defs 31 = some ⟨4, 4, [], body31⟩ := by kernel_rfl
abbrev i_Choice___init : Nat := 31
abbrev b_Choice___init : List CS := body31
theorem t_Choice___init : dat.defs i_Choice___init = some ⟨4, 4, [], b_Choice___init⟩ := def31
/-- Again.__init__: self, name, body -/
abbrev body32 : List CS := [.expr (.call 2 [] [(.var 1)]), .expr (.call 3 [] [(.lst [(.var 2)])]), .setf (.var 0) 0 (.var 1), .setf (.var 0) 2 (.var 2)]
theorem def32 : dat.defs 32 = some ⟨3, 3, [], body32⟩ := by kernel_rfl
abbrev i_Again___init : Nat := 32
abbrev b_Again___init : List CS := body32
theorem t_Again___init : dat.defs i_Again___init = some ⟨3, 3, [], b_Again___init⟩ := def32
/-- NotClosed.__init__: self, name -/
abbrev body33 : List CS := [.bad, .setf (.var 0) 0 (.var 1)]
theorem def33 : dat.defs 33 = some ⟨2, 2, [], body33⟩ := by kernel_rfl
abbrev i_NotClosed___init : Nat := 33
abbrev b_NotClosed___init : List CS := body33
theorem t_NotClosed___init : dat.defs i_NotClosed___init = some ⟨2, 2, [], b_NotClosed___init⟩ := def33
/-- Term.parts: self -/
abbrev body34 : List CS := [.ret (.lst [])]
theorem def34 : dat.defs 34 = some ⟨1, 1, [], body34⟩ := by kernel_rfl
abbrev i_Term_parts : Nat := 34
abbrev b_Term_parts : List CS := body34
theorem t_Term_parts : dat.defs i_Term_parts = some ⟨1, 1, [], b_Term_parts⟩ := def34
/-- Term.rebuilt: self, parts -/
abbrev body35 : List CS := [.ret (.var 0)]
theorem def35 : dat.defs 35 = some ⟨2, 2, [], body35⟩ := by kernel_rfl
abbrev i_Term_rebuilt : Nat := 35
abbrev b_Term_rebuilt : List CS := body35
theorem t_Term_rebuilt : dat.defs i_Term_rebuilt = some ⟨2, 2, [], b_Term_rebuilt⟩ := def35
/-- Term.binds: self -/
abbrev body36 : List CS := [.ret .non]
theorem def36 : dat.defs 36 = some ⟨1, 1, [], body36⟩ := by kernel_rfl
abbrev i_Term_binds : Nat := 36
abbrev b_Term_binds : List CS := body36
theorem t_Term_binds : dat.defs i_Term_binds = some ⟨1, 1, [], b_Term_binds⟩ := def36
/-- Term.told: self -/
abbrev body37 : List CS := [.ret (.tup [(.str [111, 112, 101, 110])])]
theorem def37 : dat.defs 37 = some ⟨1, 1, [], body37⟩ := by kernel_rfl
abbrev i_Term_told : Nat := 37
abbrev b_Term_told : List CS := body37
theorem t_Term_told : dat.defs i_Term_told = some ⟨1, 1, [], b_Term_told⟩ := def37
/-- Term.text: self -/
abbrev body38 : List CS := [.ret (.str [95])]
theorem def38 : dat.defs 38 = some ⟨1, 1, [], body38⟩ := by kernel_rfl
abbrev i_Term_text : Nat := 38
abbrev b_Term_text : List CS := body38
theorem t_Term_text : dat.defs i_Term_text = some ⟨1, 1, [], b_Term_text⟩ := def38
/-- Term.free: self, names, part, name -/
abbrev body39 : List CS := [.asg 1 (.lst []), .for_ (.one 2) (.of (.meth (.var 0) 0 [] [])) [.expr (.bm (.var 1) .extend [(.lc (.var 3) 3 (.of (.meth (.var 2) 5 [] [])) [(.cmp .NotEq (.var 3) (.meth (.var 0) 2 [] []))])])], .ret (.blt .sset [(.var 1)])]
theorem def39 : dat.defs 39 = some ⟨1, 4, [], body39⟩ := by kernel_rfl
abbrev i_Term_free : Nat := 39
abbrev b_Term_free : List CS := body39
theorem t_Term_free : dat.defs i_Term_free = some ⟨1, 4, [], b_Term_free⟩ := def39
/-- Term.put: self, name, given -/
abbrev body40 : List CS := [.expr (.call 4 [] [(.var 2)]), .ret (.meth (.var 0) 7 [] [(.var 1), (.var 2)])]
theorem def40 : dat.defs 40 = some ⟨3, 3, [], body40⟩ := by kernel_rfl
abbrev i_Term_put : Nat := 40
abbrev b_Term_put : List CS := body40
theorem t_Term_put : dat.defs i_Term_put = some ⟨3, 3, [], b_Term_put⟩ := def40
/-- Term.with_given: self, name, given, part -/
abbrev body41 : List CS := [.ifs (.cmp .Eq (.meth (.var 0) 2 [] []) (.var 1)) [.ret (.var 0)] [], .ret (.meth (.var 0) 1 [] [(.lc (.meth (.var 3) 7 [] [(.var 1), (.var 2)]) 3 (.of (.meth (.var 0) 0 [] [])) [])])]
theorem def41 : dat.defs 41 = some ⟨3, 4, [], body41⟩ := by kernel_rfl
abbrev i_Term_with_given : Nat := 41
abbrev b_Term_with_given : List CS := body41
theorem t_Term_with_given : dat.defs i_Term_with_given = some ⟨3, 4, [], b_Term_with_given⟩ := def41
/-- Term.__eq__: self, other -/
abbrev body42 : List CS := [.ret (.and (.isi (.var 1) [.own 0]) (.cmp .Eq (.meth (.var 0) 3 [] []) (.meth (.var 1) 3 [] [])))]
theorem def42 : dat.defs 42 = some ⟨2, 2, [], body42⟩ := by kernel_rfl
abbrev i_Term___eq : Nat := 42
abbrev b_Term___eq : List CS := body42
theorem t_Term___eq : dat.defs i_Term___eq = some ⟨2, 2, [], b_Term___eq⟩ := def42
/-- Term.__str__: self -/
abbrev body43 : List CS := [.ret (.blt .str [(.meth (.var 0) 4 [] [])])]
theorem def43 : dat.defs 43 = some ⟨1, 1, [], body43⟩ := by kernel_rfl
abbrev i_Term___str : Nat := 43
abbrev b_Term___str : List CS := body43
theorem t_Term___str : dat.defs i_Term___str = some ⟨1, 1, [], b_Term___str⟩ := def43
/-- Name.told: self -/
abbrev body44 : List CS := [.ret (.tup [(.str [110, 97, 109, 101]), (.fld (.var 0) 0)])]
theorem def44 : dat.defs 44 = some ⟨1, 1, [], body44⟩ := by kernel_rfl
abbrev i_Name_told : Nat := 44
abbrev b_Name_told : List CS := body44
theorem t_Name_told : dat.defs i_Name_told = some ⟨1, 1, [], b_Name_told⟩ := def44
/-- Name.text: self -/
abbrev body45 : List CS := [.ret (.fld (.var 0) 0)]
theorem def45 : dat.defs 45 = some ⟨1, 1, [], body45⟩ := by kernel_rfl
abbrev i_Name_text : Nat := 45
abbrev b_Name_text : List CS := body45
theorem t_Name_text : dat.defs i_Name_text = some ⟨1, 1, [], b_Name_text⟩ := def45
/-- Name.free: self -/
abbrev body46 : List CS := [.ret (.lst [(.fld (.var 0) 0)])]
theorem def46 : dat.defs 46 = some ⟨1, 1, [], body46⟩ := by kernel_rfl
abbrev i_Name_free : Nat := 46
abbrev b_Name_free : List CS := body46
theorem t_Name_free : dat.defs i_Name_free = some ⟨1, 1, [], b_Name_free⟩ := def46
/-- Name.with_given: self, name, given -/
abbrev body47 : List CS := [.ret (.ife (.cmp .Eq (.fld (.var 0) 0) (.var 1)) (.var 2) (.var 0))]
theorem def47 : dat.defs 47 = some ⟨3, 3, [], body47⟩ := by kernel_rfl
abbrev i_Name_with_given : Nat := 47
abbrev b_Name_with_given : List CS := body47
theorem t_Name_with_given : dat.defs i_Name_with_given = some ⟨3, 3, [], b_Name_with_given⟩ := def47
/-- Number.told: self -/
abbrev body48 : List CS := [.ret (.tup [(.str [110, 117, 109, 98, 101, 114]), (.fld (.var 0) 1)])]
theorem def48 : dat.defs 48 = some ⟨1, 1, [], body48⟩ := by kernel_rfl
abbrev i_Number_told : Nat := 48
abbrev b_Number_told : List CS := body48
theorem t_Number_told : dat.defs i_Number_told = some ⟨1, 1, [], b_Number_told⟩ := def48
/-- Number.text: self -/
abbrev body49 : List CS := [.ret (.blt .str [(.fld (.var 0) 1)])]
theorem def49 : dat.defs 49 = some ⟨1, 1, [], body49⟩ := by kernel_rfl
abbrev i_Number_text : Nat := 49
abbrev b_Number_text : List CS := body49
theorem t_Number_text : dat.defs i_Number_text = some ⟨1, 1, [], b_Number_text⟩ := def49
/-- Maker.parts: self -/
abbrev body50 : List CS := [.ret (.lst [(.fld (.var 0) 2)])]
theorem def50 : dat.defs 50 = some ⟨1, 1, [], body50⟩ := by kernel_rfl
abbrev i_Maker_parts : Nat := 50
abbrev b_Maker_parts : List CS := body50
theorem t_Maker_parts : dat.defs i_Maker_parts = some ⟨1, 1, [], b_Maker_parts⟩ := def50
/-- Maker.rebuilt: self, parts -/
abbrev body51 : List CS := [.ret (.new 4 [] [(.fld (.var 0) 0), (.idx (.var 1) (.int 0))])]
theorem def51 : dat.defs 51 = some ⟨2, 2, [], body51⟩ := by kernel_rfl
abbrev i_Maker_rebuilt : Nat := 51
abbrev b_Maker_rebuilt : List CS := body51
theorem t_Maker_rebuilt : dat.defs i_Maker_rebuilt = some ⟨2, 2, [], b_Maker_rebuilt⟩ := def51
/-- Maker.binds: self -/
abbrev body52 : List CS := [.ret (.fld (.var 0) 0)]
theorem def52 : dat.defs 52 = some ⟨1, 1, [], body52⟩ := by kernel_rfl
abbrev i_Maker_binds : Nat := 52
abbrev b_Maker_binds : List CS := body52
theorem t_Maker_binds : dat.defs i_Maker_binds = some ⟨1, 1, [], b_Maker_binds⟩ := def52
/-- Maker.told: self -/
abbrev body53 : List CS := [.ret (.tup [(.str [109, 97, 107, 101, 114]), (.fld (.var 0) 0), (.meth (.fld (.var 0) 2) 3 [] [])])]
theorem def53 : dat.defs 53 = some ⟨1, 1, [], body53⟩ := by kernel_rfl
abbrev i_Maker_told : Nat := 53
abbrev b_Maker_told : List CS := body53
theorem t_Maker_told : dat.defs i_Maker_told = some ⟨1, 1, [], b_Maker_told⟩ := def53
/-- Maker.text: self -/
abbrev body54 : List CS := [.ret (.fstr [(.str [40]), (.fld (.var 0) 0), (.str [58, 32]), (.meth (.fld (.var 0) 2) 4 [] []), (.str [41])])]
theorem def54 : dat.defs 54 = some ⟨1, 1, [], body54⟩ := by kernel_rfl
abbrev i_Maker_text : Nat := 54
abbrev b_Maker_text : List CS := body54
theorem t_Maker_text : dat.defs i_Maker_text = some ⟨1, 1, [], b_Maker_text⟩ := def54
/-- Give.parts: self -/
abbrev body55 : List CS := [.ret (.lst [(.fld (.var 0) 3), (.fld (.var 0) 4)])]
theorem def55 : dat.defs 55 = some ⟨1, 1, [], body55⟩ := by kernel_rfl
abbrev i_Give_parts : Nat := 55
abbrev b_Give_parts : List CS := body55
theorem t_Give_parts : dat.defs i_Give_parts = some ⟨1, 1, [], b_Give_parts⟩ := def55
/-- Give.rebuilt: self, parts -/
abbrev body56 : List CS := [.ret (.new 5 [] [(.idx (.var 1) (.int 0)), (.idx (.var 1) (.int 1))])]
theorem def56 : dat.defs 56 = some ⟨2, 2, [], body56⟩ := by kernel_rfl
abbrev i_Give_rebuilt : Nat := 56
abbrev b_Give_rebuilt : List CS := body56
theorem t_Give_rebuilt : dat.defs i_Give_rebuilt = some ⟨2, 2, [], b_Give_rebuilt⟩ := def56
/-- Give.told: self -/
abbrev body57 : List CS := [.ret (.tup [(.str [103, 105, 118, 101]), (.meth (.fld (.var 0) 3) 3 [] []), (.meth (.fld (.var 0) 4) 3 [] [])])]
theorem def57 : dat.defs 57 = some ⟨1, 1, [], body57⟩ := by kernel_rfl
abbrev i_Give_told : Nat := 57
abbrev b_Give_told : List CS := body57
theorem t_Give_told : dat.defs i_Give_told = some ⟨1, 1, [], b_Give_told⟩ := def57
/-- Give.text: self -/
abbrev body58 : List CS := [.ret (.fstr [(.str [40]), (.meth (.fld (.var 0) 3) 4 [] []), (.str [32]), (.meth (.fld (.var 0) 4) 4 [] []), (.str [41])])]
theorem def58 : dat.defs 58 = some ⟨1, 1, [], body58⟩ := by kernel_rfl
abbrev i_Give_text : Nat := 58
abbrev b_Give_text : List CS := body58
theorem t_Give_text : dat.defs i_Give_text = some ⟨1, 1, [], b_Give_text⟩ := def58
/-- Sum.parts: self -/
abbrev body59 : List CS := [.ret (.lst [(.fld (.var 0) 6), (.fld (.var 0) 7)])]
theorem def59 : dat.defs 59 = some ⟨1, 1, [], body59⟩ := by kernel_rfl
abbrev i_Sum_parts : Nat := 59
abbrev b_Sum_parts : List CS := body59
theorem t_Sum_parts : dat.defs i_Sum_parts = some ⟨1, 1, [], b_Sum_parts⟩ := def59
/-- Sum.rebuilt: self, parts -/
abbrev body60 : List CS := [.ret (.new 6 [] [(.fld (.var 0) 5), (.idx (.var 1) (.int 0)), (.idx (.var 1) (.int 1))])]
theorem def60 : dat.defs 60 = some ⟨2, 2, [], body60⟩ := by kernel_rfl
abbrev i_Sum_rebuilt : Nat := 60
abbrev b_Sum_rebuilt : List CS := body60
theorem t_Sum_rebuilt : dat.defs i_Sum_rebuilt = some ⟨2, 2, [], b_Sum_rebuilt⟩ := def60
/-- Sum.told: self -/
abbrev body61 : List CS := [.ret (.tup [(.str [115, 117, 109]), (.fld (.var 0) 5), (.meth (.fld (.var 0) 6) 3 [] []), (.meth (.fld (.var 0) 7) 3 [] [])])]
theorem def61 : dat.defs 61 = some ⟨1, 1, [], body61⟩ := by kernel_rfl
abbrev i_Sum_told : Nat := 61
abbrev b_Sum_told : List CS := body61
theorem t_Sum_told : dat.defs i_Sum_told = some ⟨1, 1, [], b_Sum_told⟩ := def61
/-- Sum.text: self -/
abbrev body62 : List CS := [.ret (.fstr [(.str [40]), (.meth (.fld (.var 0) 6) 4 [] []), (.str [32]), (.fld (.var 0) 5), (.str [32]), (.meth (.fld (.var 0) 7) 4 [] []), (.str [41])])]
theorem def62 : dat.defs 62 = some ⟨1, 1, [], body62⟩ := by kernel_rfl
abbrev i_Sum_text : Nat := 62
abbrev b_Sum_text : List CS := body62
theorem t_Sum_text : dat.defs i_Sum_text = some ⟨1, 1, [], b_Sum_text⟩ := def62
/-- Choice.parts: self -/
abbrev body63 : List CS := [.ret (.lst [(.fld (.var 0) 8), (.fld (.var 0) 9), (.fld (.var 0) 7)])]
theorem def63 : dat.defs 63 = some ⟨1, 1, [], body63⟩ := by kernel_rfl
abbrev i_Choice_parts : Nat := 63
abbrev b_Choice_parts : List CS := body63
theorem t_Choice_parts : dat.defs i_Choice_parts = some ⟨1, 1, [], b_Choice_parts⟩ := def63
/-- Choice.rebuilt: self, parts -/
abbrev body64 : List CS := [.ret (.new 7 [] [(.idx (.var 1) (.int 0)), (.idx (.var 1) (.int 1)), (.idx (.var 1) (.int 2))])]
theorem def64 : dat.defs 64 = some ⟨2, 2, [], body64⟩ := by kernel_rfl
abbrev i_Choice_rebuilt : Nat := 64
abbrev b_Choice_rebuilt : List CS := body64
theorem t_Choice_rebuilt : dat.defs i_Choice_rebuilt = some ⟨2, 2, [], b_Choice_rebuilt⟩ := def64
/-- Choice.told: self -/
abbrev body65 : List CS := [.ret (.tup [(.str [99, 104, 111, 105, 99, 101]), (.meth (.fld (.var 0) 8) 3 [] []), (.meth (.fld (.var 0) 9) 3 [] []), (.meth (.fld (.var 0) 7) 3 [] [])])]
theorem def65 : dat.defs 65 = some ⟨1, 1, [], body65⟩ := by kernel_rfl
abbrev i_Choice_told : Nat := 65
abbrev b_Choice_told : List CS := body65
theorem t_Choice_told : dat.defs i_Choice_told = some ⟨1, 1, [], b_Choice_told⟩ := def65
/-- Choice.text: self -/
abbrev body66 : List CS := [.ret (.fstr [(.str [40]), (.meth (.fld (.var 0) 8) 4 [] []), (.str [32, 63, 32]), (.meth (.fld (.var 0) 9) 4 [] []), (.str [32, 58, 32]), (.meth (.fld (.var 0) 7) 4 [] []), (.str [41])])]
theorem def66 : dat.defs 66 = some ⟨1, 1, [], body66⟩ := by kernel_rfl
abbrev i_Choice_text : Nat := 66
abbrev b_Choice_text : List CS := body66
theorem t_Choice_text : dat.defs i_Choice_text = some ⟨1, 1, [], b_Choice_text⟩ := def66
/-- Again.parts: self -/
abbrev body67 : List CS := [.ret (.lst [(.fld (.var 0) 2)])]
theorem def67 : dat.defs 67 = some ⟨1, 1, [], body67⟩ := by kernel_rfl
abbrev i_Again_parts : Nat := 67
abbrev b_Again_parts : List CS := body67
theorem t_Again_parts : dat.defs i_Again_parts = some ⟨1, 1, [], b_Again_parts⟩ := def67
/-- Again.rebuilt: self, parts -/
abbrev body68 : List CS := [.ret (.new 8 [] [(.fld (.var 0) 0), (.idx (.var 1) (.int 0))])]
theorem def68 : dat.defs 68 = some ⟨2, 2, [], body68⟩ := by kernel_rfl
abbrev i_Again_rebuilt : Nat := 68
abbrev b_Again_rebuilt : List CS := body68
theorem t_Again_rebuilt : dat.defs i_Again_rebuilt = some ⟨2, 2, [], b_Again_rebuilt⟩ := def68
/-- Again.binds: self -/
abbrev body69 : List CS := [.ret (.fld (.var 0) 0)]
theorem def69 : dat.defs 69 = some ⟨1, 1, [], body69⟩ := by kernel_rfl
abbrev i_Again_binds : Nat := 69
abbrev b_Again_binds : List CS := body69
theorem t_Again_binds : dat.defs i_Again_binds = some ⟨1, 1, [], b_Again_binds⟩ := def69
/-- Again.told: self -/
abbrev body70 : List CS := [.ret (.tup [(.str [97, 103, 97, 105, 110]), (.fld (.var 0) 0), (.meth (.fld (.var 0) 2) 3 [] [])])]
theorem def70 : dat.defs 70 = some ⟨1, 1, [], body70⟩ := by kernel_rfl
abbrev i_Again_told : Nat := 70
abbrev b_Again_told : List CS := body70
theorem t_Again_told : dat.defs i_Again_told = some ⟨1, 1, [], b_Again_told⟩ := def70
/-- Again.text: self -/
abbrev body71 : List CS := [.ret (.fstr [(.str [40]), (.fld (.var 0) 0), (.str [33, 32]), (.meth (.fld (.var 0) 2) 4 [] []), (.str [41])])]
theorem def71 : dat.defs 71 = some ⟨1, 1, [], body71⟩ := by kernel_rfl
abbrev i_Again_text : Nat := 71
abbrev b_Again_text : List CS := body71
theorem t_Again_text : dat.defs i_Again_text = some ⟨1, 1, [], b_Again_text⟩ := def71
abbrev k_Term : Nat := 0
abbrev k_Open : Nat := 1
abbrev k_Name : Nat := 2
abbrev k_Number : Nat := 3
abbrev k_Maker : Nat := 4
abbrev k_Give : Nat := 5
abbrev k_Sum : Nat := 6
abbrev k_Choice : Nat := 7
abbrev k_Again : Nat := 8
theorem cv_LETTERS : dat.T.con 0 = .str [97, 98, 99, 100, 101, 102, 103, 104, 105, 106, 107, 108, 109, 110, 111, 112, 113, 114, 115, 116, 117, 118, 119, 120, 121, 122] := by kernel_rfl
theorem cv_MOST_LETTERS : dat.T.con 1 = .int 8 := by kernel_rfl
theorem cv_SUMS : dat.T.con 2 = .tup [.str [43], .str [45], .str [60]] := by kernel_rfl
abbrev a_name : Nat := 0
abbrev a_number : Nat := 1
abbrev a_body : Nat := 2
abbrev a_maker : Nat := 3
abbrev a_given : Nat := 4
abbrev a_sign : Nat := 5
abbrev a_one : Nat := 6
abbrev a_other : Nat := 7
abbrev a_asked : Nat := 8
abbrev a_nought : Nat := 9
abbrev dc_LENGTHS : Nat := 0
abbrev c_LETTERS : Nat := 0
abbrev c_MOST_LETTERS : Nat := 1
abbrev c_SUMS : Nat := 2
abbrev x_TallyError : Nat := 9
abbrev x_BadTerm : Nat := 10
abbrev x_NotClosed : Nat := 11
abbrev m_parts : Nat := 0
abbrev m_rebuilt : Nat := 1
abbrev m_binds : Nat := 2
abbrev m_told : Nat := 3
abbrev m_text : Nat := 4
abbrev m_free : Nat := 5
abbrev m_put : Nat := 6
abbrev m_with_given : Nat := 7
abbrev m___eq__ : Nat := 8
abbrev m___str__ : Nat := 9
end LW
end Part_K12B

section Part_LawB
/-! the law that the texts behind this one are about -/
end Part_LawB

section Part_M1
set_option Elab.async false
set_option linter.all false
set_option maxRecDepth 100000
set_option maxHeartbeats 4000000
/-! M1: terms, as objects and as told. -/
namespace LW
open U
open PySem (Operator CmpOp)
inductive Tm where
  | opn | name (x : Txt) | num (i : Int) | mk (x : Txt) (b : Tm) | giv (a b : Tm) | sm (s : Txt) (a b : Tm) | cho (a b c : Tm) | aga (x : Txt) (b : Tm)
def Tm.obj : Tm → MV
  | .opn => .obj k_Open []
  | .name x => .obj k_Name [.str x]
  | .num i => .obj k_Number [.int i]
  | .mk x b => .obj k_Maker [.str x, b.obj]
  | .giv a b => .obj k_Give [a.obj, b.obj]
  | .sm s a b => .obj k_Sum [.str s, a.obj, b.obj]
  | .cho a b c => .obj k_Choice [a.obj, b.obj, c.obj]
  | .aga x b => .obj k_Again [.str x, b.obj]
def Tm.cls : Tm → Nat
  | .opn => k_Open | .name _ => k_Name | .num _ => k_Number | .mk _ _ => k_Maker | .giv _ _ => k_Give | .sm _ _ _ => k_Sum | .cho _ _ _ => k_Choice | .aga _ _ => k_Again
abbrev sOpen : Txt := [111, 112, 101, 110]
abbrev sName : Txt := [110, 97, 109, 101]
abbrev sNumber : Txt := [110, 117, 109, 98, 101, 114]
abbrev sMaker : Txt := [109, 97, 107, 101, 114]
abbrev sGive : Txt := [103, 105, 118, 101]
abbrev sSum : Txt := [115, 117, 109]
abbrev sChoice : Txt := [99, 104, 111, 105, 99, 101]
abbrev sAgain : Txt := [97, 103, 97, 105, 110]
def Tm.tell : Tm → MV
  | .opn => .tup [.str sOpen]
  | .name x => .tup [.str sName, .str x]
  | .num i => .tup [.str sNumber, .int i]
  | .mk x b => .tup [.str sMaker, .str x, b.tell]
  | .giv a b => .tup [.str sGive, a.tell, b.tell]
  | .sm s a b => .tup [.str sSum, .str s, a.tell, b.tell]
  | .cho a b c => .tup [.str sChoice, a.tell, b.tell, c.tell]
  | .aga x b => .tup [.str sAgain, .str x, b.tell]
def Tm.parts : Tm → List Tm
  | .mk _ b => [b] | .giv a b => [a, b] | .sm _ a b => [a, b] | .cho a b c => [a, b, c] | .aga _ b => [b] | _ => []
def Tm.deep : Tm → Nat
  | .opn => 0 | .name _ => 0 | .num _ => 0 | .mk _ b => b.deep + 1 | .giv a b => max a.deep b.deep + 1 | .sm _ a b => max a.deep b.deep + 1 | .cho a b c => max a.deep (max b.deep c.deep) + 1 | .aga _ b => b.deep + 1
def meth_of (t : Tm) (mm : Nat) : Nat := (dat.T.meth t.cls mm).getD 0
section
variable {W n : Nat} {m : Mem} {cl : CallF}
theorem cls_obj (t : Tm) : clsOf m t.obj = some t.cls := by cases t <;> rfl
theorem has_told (t : Tm) : dat.T.meth t.cls m_told = some (meth_of t m_told) := by cases t <;> rfl
theorem has_parts (t : Tm) : dat.T.meth t.cls m_parts = some (meth_of t m_parts) := by cases t <;> rfl
theorem has_rebuilt (t : Tm) : dat.T.meth t.cls m_rebuilt = some (meth_of t m_rebuilt) := by cases t <;> rfl
end
end LW
end Part_M1

section Part_US
set_option Elab.async false
set_option linter.all false
set_option maxRecDepth 100000
set_option maxHeartbeats 4000000
/-! US: the evaluator, one step each; no law in sight. -/
namespace U
open PySem (Operator CmpOp)
/-! ### one step each -/
section
variable {T : Tab} {W : Nat} {cl : CallF} {r r' : Env} {m m1 m2 m3 m4 : Mem} {a b c e : CE} {es : List CE} {x y z u v : MV} {vs : List MV} {i k : Nat}
theorem e_var (h : r[i]? = some (.val v)) : evE T cl (.var i) r m = .ok v m := by rw [evE]; unfold look; rw [h]
theorem e_int {n : Int} : evE T cl (.int n) r m = .ok (.int n) m := by rw [evE]
theorem e_str {t : Txt} : evE T cl (.str t) r m = .ok (.str t) m := by rw [evE]
theorem e_bl {t : Bool} : evE T cl (.bl t) r m = .ok (.bl t) m := by rw [evE]
theorem e_non : evE T cl .non r m = .ok .non m := by rw [evE]
theorem e_bin {op : Operator} (ha : evE T cl a r m = .ok x m1) (hb : evE T cl b r m1 = .ok y m2) (h : binop op x y m2 = some (z, m3)) : evE T cl (.bin op a b) r m = .ok z m3 := by
  rw [evE, ha, bind_ok, hb, bind_ok, h]; rfl
theorem e_cmp {op : CmpOp} (ha : evE T cl a r m = .ok x m1) (hb : evE T cl b r m1 = .ok y m2) (h : cmpop op x y m2 = some (z, m3)) : evE T cl (.cmp op a b) r m = .ok z m3 := by
  rw [evE, ha, bind_ok, hb, bind_ok, h]; rfl
theorem e_idx (ha : evE T cl a r m = .ok x m1) (hb : evE T cl b r m1 = .ok y m2) (h : subscr x y m2 = some (z, m3)) : evE T cl (.idx a b) r m = .ok z m3 := by
  rw [evE, ha, bind_ok, hb, bind_ok, h]; rfl
theorem e_neg (ha : evE T cl a r m = .ok x m1) (h : negv x m1 = some (z, m2)) : evE T cl (.neg a) r m = .ok z m2 := by
  rw [evE, ha, bind_ok, h]; rfl
theorem e_not {t : Bool} (ha : evE T cl a r m = .ok x m1) (h : truth m1 x = some t) : evE T cl (.not a) r m = .ok (.bl (!t)) m1 := by
  rw [evE, ha, bind_ok]; unfold onTru; rw [h]
theorem e_and_t (ha : evE T cl a r m = .ok x m1) (h : truth m1 x = some true) : evE T cl (.and a b) r m = evE T cl b r m1 := by
  rw [evE, ha, bind_ok]; unfold onTru; rw [h]; rfl
theorem e_and_f (ha : evE T cl a r m = .ok x m1) (h : truth m1 x = some false) : evE T cl (.and a b) r m = .ok x m1 := by
  rw [evE, ha, bind_ok]; unfold onTru; rw [h]; rfl
theorem e_or_t (ha : evE T cl a r m = .ok x m1) (h : truth m1 x = some true) : evE T cl (.or a b) r m = .ok x m1 := by
  rw [evE, ha, bind_ok]; unfold onTru; rw [h]; rfl
theorem e_or_f (ha : evE T cl a r m = .ok x m1) (h : truth m1 x = some false) : evE T cl (.or a b) r m = evE T cl b r m1 := by
  rw [evE, ha, bind_ok]; unfold onTru; rw [h]; rfl
theorem e_isi {ts : List Ty} {t : Bool} (ha : evE T cl a r m = .ok x m1) (h : tyAny T m1 x ts = some t) : evE T cl (.isi a ts) r m = .ok (.bl t) m1 := by
  rw [evE, ha, bind_ok, h]; rfl
theorem l_nil : evL T cl [] r m = .ok [] m := evL_nil
theorem l_cons (ha : evE T cl e r m = .ok v m1) (hl : evL T cl es r m1 = .ok vs m2) : evL T cl (e :: es) r m = .ok (v :: vs) m2 := by
  rw [evL_cons, ha, bind_ok, hl, bind_ok]
theorem l_one (ha : evE T cl e r m = .ok v m1) : evL T cl [e] r m = .ok [v] m1 := l_cons ha l_nil
theorem e_blt {f : BF} (hl : evL T cl es r m = .ok vs m1) (h : builtin f vs m1 = some (z, m2)) : evE T cl (.blt f es) r m = .ok z m2 := by
  rw [evE, hl, bind_ok, h]; rfl
theorem e_call {f : Nat} {ix : List Nat} (hl : evL T cl es r m = .ok vs m1) (h : cl f (ord ix vs) m1 = .ok v m2) : evE T cl (.call f ix es) r m = .ok v m2 := by
  rw [evE, hl, bind_ok, h]
theorem e_tup (hl : evL T cl es r m = .ok vs m1) (h : vs.length ≤ line) : evE T cl (.tup es) r m = .ok (.tup vs) m1 := by
  rw [evE, hl, bind_ok]; unfold mkTup; rw [if_pos h]; rfl
theorem e_lst (hl : evL T cl es r m = .ok vs m1) (h : vs.length ≤ line) : evE T cl (.lst es) r m = .ok (.ref m1.length) (m1 ++ [.lst vs]) := by
  rw [evE, hl, bind_ok]; unfold mkLst; rw [if_pos h]; rfl
theorem s_asg (he : evE T cl e r m = .ok v m1) : evS T W cl (.asg i e) r m = .nx (r.set i (.val v)) m1 := by rw [evS, he]; rfl
theorem s_ret (he : evE T cl e r m = .ok v m1) : evS T W cl (.ret e) r m = .rt v m1 := by rw [evS, he]; rfl
theorem s_expr (he : evE T cl e r m = .ok v m1) : evS T W cl (.expr e) r m = .nx r m1 := by rw [evS, he]; rfl
theorem s_if_t {p q : List CS} (he : evE T cl e r m = .ok v m1) (h : truth m1 v = some true) : evS T W cl (.ifs e p q) r m = evB T W cl p r m1 := by
  rw [evS, he]; dsimp only [R.st]; unfold onTruS; rw [h]; rfl
theorem s_if_f {p q : List CS} (he : evE T cl e r m = .ok v m1) (h : truth m1 v = some false) : evS T W cl (.ifs e p q) r m = evB T W cl q r m1 := by
  rw [evS, he]; dsimp only [R.st]; unfold onTruS; rw [h]; rfl
theorem s_seti (he : evE T cl e r m = .ok y m1) (ho : evE T cl a r m1 = .ok x m2) (hj : evE T cl b r m2 = .ok z m3) (h : setI x z y m3 = some m4) : evS T W cl (.seti a b e) r m = .nx r m4 := by
  rw [evS, he]; dsimp only [R.st]; rw [ho]; dsimp only; rw [hj]; dsimp only; rw [h]
theorem b_nil : evB T W cl [] r m = .nx r m := evB_nil
theorem b_nx {s : CS} {ss : List CS} (h : evS T W cl s r m = .nx r' m1) : evB T W cl (s :: ss) r m = evB T W cl ss r' m1 := by rw [evB_cons, h]
theorem b_rt {s : CS} {ss : List CS} (h : evS T W cl s r m = .rt v m1) : evB T W cl (s :: ss) r m = .rt v m1 := by rw [evB_cons, h]
/-- an if without an else that isn't taken -/
theorem b_skip {p : List CS} {ss : List CS} (he : evE T cl e r m = .ok v m1) (h : truth m1 v = some false) : evB T W cl (.ifs e p [] :: ss) r m = evB T W cl ss r m1 := b_nx ((s_if_f he h).trans b_nil)
/-- one that ends the def -/
theorem b_ends {p : List CS} {ss : List CS} (he : evE T cl e r m = .ok x m1) (h : truth m1 x = some true) (hp : evB T W cl p r m1 = .rt v m2) : evB T W cl (.ifs e p [] :: ss) r m = .rt v m2 := b_rt ((s_if_t he h).trans hp)
/-- a def at a level -/
theorem run_step {defs : Nat → Option FD} {n f : Nat} {fd : FD} {as : List MV} (h : defs f = some fd) (hl : as.length = fd.np) : run T W defs (n + 1) f as m = (evB T W (run T W defs n) fd.body (entry fd as) m).out m := by
  show (match defs f with
    | some fd => if (pad fd as).length = fd.np then (evB T W (run T W defs n) fd.body (entry fd (pad fd as)) m).out m else .fail
    | none => .fail) = _
  rw [h]
  dsimp only
  rw [pad_full hl, if_pos hl]
end
theorem okOld_of {n : Nat} : ∀ {m0 m : List MO}, m0.length ≤ m.length → (∀ (k : Nat) (o : MO), k < m0.length → m[k]? = some o → m0[k]? = some o ∨ o.low n = true) → okOld n m0 m = true
  | [], _, _, _ => by simp [okOld]
  | a :: as, [], h, _ => by simp at h
  | a :: as, b :: bs, h, hk => by
    have h0 := hk 0 b (by simp) rfl
    have ih := okOld_of (n := n) (m0 := as) (m := bs) (by simpa using h) fun k o hk' e => by
      have := hk (k + 1) o (by simpa using hk') (by simpa using e)
      simpa using this
    unfold okOld
    rw [ih, Bool.and_true]
    rcases h0 with e | e
    · have : a = b := by simpa using e
      simp [this]
    · simp [e]
theorem lows_ints {n : Nat} : ∀ cs : List Int, MV.lows n (cs.map MV.int) = true
  | [] => rfl
  | c :: cs => by
    show (MV.low n (.int c) && MV.lows n (cs.map MV.int)) = true
    rw [lows_ints cs]
    rfl
section
variable {T : Tab} {W : Nat} {cl : CallF} {r r' : Env} {m m1 m2 m3 : Mem} {a : CE} {es : List CE} {x v : MV} {vs : List MV}
theorem e_meth {mm c f : Nat} {ix : List Nat} (ha : evE T cl a r m = .ok x m1) (hc : clsOf m1 x = some c) (hf : T.meth c mm = some f) (hl : evL T cl es r m1 = .ok vs m2) (h : cl f (x :: ord ix vs) m2 = .ok v m3) : evE T cl (.meth a mm ix es) r m = .ok v m3 := by
  rw [evE, ha, bind_ok]
  unfold onMeth
  rw [hc]
  dsimp only
  rw [hf]
  dsimp only
  rw [hl, bind_ok, h]
theorem e_fld {f : Nat} (ha : evE T cl a r m = .ok x m1) (h : getF T x f m1 = some (v, m2)) : evE T cl (.fld a f) r m = .ok v m2 := by
  rw [evE, ha, bind_ok, h]; rfl
end
end U
end Part_US

section Part_M2
set_option Elab.async false
set_option linter.all false
set_option maxRecDepth 100000
set_option maxHeartbeats 4000000
/-! M2: what terms tell, by the program. -/
namespace LW
open U
open PySem (Operator CmpOp)
theorem low_tell {k : Nat} : ∀ t : Tm, t.tell.low k = true
  | .opn => rfl
  | .name _ => rfl
  | .num _ => rfl
  | .mk _ b => by simp [Tm.tell, MV.low, MV.lows, low_tell b]
  | .giv a b => by simp [Tm.tell, MV.low, MV.lows, low_tell a, low_tell b]
  | .sm _ a b => by simp [Tm.tell, MV.low, MV.lows, low_tell a, low_tell b]
  | .cho a b c => by simp [Tm.tell, MV.low, MV.lows, low_tell a, low_tell b, low_tell c]
  | .aga _ b => by simp [Tm.tell, MV.low, MV.lows, low_tell b]
theorem low_obj {k : Nat} : ∀ t : Tm, t.obj.low k = true
  | .opn => rfl
  | .name _ => rfl
  | .num _ => rfl
  | .mk _ b => by simp [Tm.obj, MV.low, MV.lows, low_obj b]
  | .giv a b => by simp [Tm.obj, MV.low, MV.lows, low_obj a, low_obj b]
  | .sm _ a b => by simp [Tm.obj, MV.low, MV.lows, low_obj a, low_obj b]
  | .cho a b c => by simp [Tm.obj, MV.low, MV.lows, low_obj a, low_obj b, low_obj c]
  | .aga _ b => by simp [Tm.obj, MV.low, MV.lows, low_obj b]
theorem okOld_self {n : Nat} : ∀ m : List MO, okOld n m m = true
  | [] => by simp [okOld]
  | a :: as => by unfold okOld; rw [okOld_self as]; simp
theorem out_rt {v : MV} {m : Mem} (l : v.low m.length = true) : (RS.rt v m).out m = .ok v m := by
  show gcV m v m = _
  unfold gcV
  rw [if_pos (okOld_self m), if_pos l, List.take_length]
section
variable {W : Nat}
theorem told_run : ∀ (t : Tm) {n : Nat} {m : Mem}, t.deep < n → run dat.T W dat.defs n (meth_of t m_told) [t.obj] m = .ok t.tell m := by
  have go : ∀ (t : Tm) {n f : Nat} {fd : FD} {m : Mem} {v : MV}, dat.defs f = some fd → fd.np = 1 → evB dat.T W (run dat.T W dat.defs n) fd.body (entry fd [t.obj]) m = .rt v m → v.low m.length = true → run dat.T W dat.defs (n + 1) f [t.obj] m = .ok v m := fun t {n f fd m v} h1 h2 h3 h4 => by
    rw [run_step (as := [t.obj]) h1 (by rw [h2]; rfl), h3, out_rt h4]
  have call : ∀ (t : Tm) {n : Nat} {m : Mem} {e : CE} {r : Env} {v : MV}, evE dat.T (run dat.T W dat.defs n) e r m = .ok t.obj m → run dat.T W dat.defs n (meth_of t m_told) [t.obj] m = .ok v m → evE dat.T (run dat.T W dat.defs n) (.meth e m_told [] []) r m = .ok v m := fun t {n m e r v} h1 h2 => e_meth h1 (cls_obj t) (has_told t) l_nil h2
  intro t
  induction t with
  | opn => intro n m h; obtain ⟨n, rfl⟩ : ∃ k, n = k + 1 := ⟨n - 1, by omega⟩; exact go .opn t_Term_told rfl rfl rfl
  | name x => intro n m h; obtain ⟨n, rfl⟩ : ∃ k, n = k + 1 := ⟨n - 1, by omega⟩; exact go (.name x) t_Name_told rfl rfl rfl
  | num i => intro n m h; obtain ⟨n, rfl⟩ : ∃ k, n = k + 1 := ⟨n - 1, by omega⟩; exact go (.num i) t_Number_told rfl rfl rfl
  | mk x b ih =>
    intro n m h
    obtain ⟨n, rfl⟩ : ∃ k, n = k + 1 := ⟨n - 1, by omega⟩
    have h1 : b.deep < n := Nat.lt_of_succ_lt_succ h
    exact go (.mk x b) t_Maker_told rfl (b_rt (s_ret (e_tup (l_cons e_str (l_cons rfl (l_one (call b rfl (ih h1))))) (by show 3 ≤ line; decide)))) (low_tell _)
  | giv a b iha ihb =>
    intro n m h
    obtain ⟨n, rfl⟩ : ∃ k, n = k + 1 := ⟨n - 1, by omega⟩
    have h0 : max a.deep b.deep < n := Nat.lt_of_succ_lt_succ h
    exact go (.giv a b) t_Give_told rfl (b_rt (s_ret (e_tup (l_cons e_str (l_cons (call a rfl (iha (by omega))) (l_one (call b rfl (ihb (by omega)))))) (by show 3 ≤ line; decide)))) (low_tell _)
  | sm s a b iha ihb =>
    intro n m h
    obtain ⟨n, rfl⟩ : ∃ k, n = k + 1 := ⟨n - 1, by omega⟩
    have h0 : max a.deep b.deep < n := Nat.lt_of_succ_lt_succ h
    exact go (.sm s a b) t_Sum_told rfl (b_rt (s_ret (e_tup (l_cons e_str (l_cons rfl (l_cons (call a rfl (iha (by omega))) (l_one (call b rfl (ihb (by omega))))))) (by show 4 ≤ line; decide)))) (low_tell _)
  | cho a b c iha ihb ihc =>
    intro n m h
    obtain ⟨n, rfl⟩ : ∃ k, n = k + 1 := ⟨n - 1, by omega⟩
    have h0 : max a.deep (max b.deep c.deep) < n := Nat.lt_of_succ_lt_succ h
    exact go (.cho a b c) t_Choice_told rfl (b_rt (s_ret (e_tup (l_cons e_str (l_cons (call a rfl (iha (by omega))) (l_cons (call b rfl (ihb (by omega))) (l_one (call c rfl (ihc (by omega))))))) (by show 4 ≤ line; decide)))) (low_tell _)
  | aga x b ih =>
    intro n m h
    obtain ⟨n, rfl⟩ : ∃ k, n = k + 1 := ⟨n - 1, by omega⟩
    have h1 : b.deep < n := Nat.lt_of_succ_lt_succ h
    exact go (.aga x b) t_Again_told rfl (b_rt (s_ret (e_tup (l_cons e_str (l_cons rfl (l_one (call b rfl (ih h1))))) (by show 3 ≤ line; decide)))) (low_tell _)
end
end LW
end Part_M2

section Part_M3
set_option Elab.async false
set_option linter.all false
set_option maxRecDepth 100000
set_option maxHeartbeats 4000000
/-! M3: a term's parts, by the program. -/
namespace LW
open U
open PySem (Operator CmpOp)
theorem okOld_app {n : Nat} : ∀ (m e : List MO), okOld n m (m ++ e) = true
  | [], e => by simp [okOld]
  | a :: as, e => by
    show okOld n (a :: as) (a :: (as ++ e)) = true
    unfold okOld
    rw [okOld_app as e]
    simp
/-- a def that tells one new list of plain things -/
theorem out_list {xs : List MV} {m e : Mem} (l : MV.lows m.length xs = true) : (RS.rt (.ref m.length) (m ++ .lst xs :: e)).out m = .ok (.ref m.length) (m ++ [.lst xs]) := by
  show gcV m (.ref m.length) (m ++ .lst xs :: e) = _
  unfold gcV
  rw [if_pos (okOld_app m _), if_neg (by simp [MV.low])]
  dsimp only
  have e1 : (m ++ .lst xs :: e)[m.length]? = some (.lst xs) := by rw [List.getElem?_append_right (Nat.le_refl _), Nat.sub_self]; rfl
  rw [e1]
  dsimp only
  rw [if_pos (show MO.low m.length (.lst xs) = true from l), List.take_left]
theorem lows_objs {k : Nat} : ∀ ts : List Tm, MV.lows k (ts.map Tm.obj) = true
  | [] => rfl
  | t :: ts => by
    show (MV.low k t.obj && MV.lows k (ts.map Tm.obj)) = true
    rw [low_obj t, lows_objs ts]
    rfl
theorem len3 (t : Tm) : (t.parts.map Tm.obj).length ≤ 3 := by
  rw [List.length_map]
  cases t <;> simp [Tm.parts]
section
variable {W n : Nat} {m : Mem}
theorem parts_run (t : Tm) : run dat.T W dat.defs (n + 1) (meth_of t m_parts) [t.obj] m = .ok (.ref m.length) (m ++ [.lst (t.parts.map Tm.obj)]) := by
  have go : ∀ {f : Nat} {fd : FD} {xs : List MV}, dat.defs f = some fd → fd.np = 1 → evB dat.T W (run dat.T W dat.defs n) fd.body (entry fd [t.obj]) m = .rt (.ref m.length) (m ++ [.lst xs]) → MV.lows m.length xs = true → run dat.T W dat.defs (n + 1) f [t.obj] m = .ok (.ref m.length) (m ++ [.lst xs]) := fun {f fd xs} h1 h2 h3 h4 => by
    rw [run_step (as := [t.obj]) h1 (by rw [h2]; rfl), h3, out_list h4]
  have l1 : ∀ {j : Nat}, j ≤ 3 → j ≤ line := fun {j} h => Nat.le_trans h (by show 3 ≤ line; decide)
  cases t with
  | opn => exact go t_Term_parts rfl (b_rt (s_ret (e_lst l_nil (l1 (len3 _))))) (lows_objs _)
  | name x => exact go t_Term_parts rfl (b_rt (s_ret (e_lst l_nil (l1 (len3 _))))) (lows_objs [])
  | num i => exact go t_Term_parts rfl (b_rt (s_ret (e_lst l_nil (l1 (len3 _))))) (lows_objs [])
  | mk x b => exact go t_Maker_parts rfl (b_rt (s_ret (e_lst (l_one rfl) (l1 (len3 _))))) (lows_objs [b])
  | giv a b => exact go t_Give_parts rfl (b_rt (s_ret (e_lst (l_cons rfl (l_one rfl)) (l1 (len3 _))))) (lows_objs [a, b])
  | sm s a b => exact go t_Sum_parts rfl (b_rt (s_ret (e_lst (l_cons rfl (l_one rfl)) (l1 (len3 _))))) (lows_objs [a, b])
  | cho a b c => exact go t_Choice_parts rfl (b_rt (s_ret (e_lst (l_cons rfl (l_cons rfl (l_one rfl))) (l1 (len3 _))))) (lows_objs [a, b, c])
  | aga x b => exact go t_Again_parts rfl (b_rt (s_ret (e_lst (l_one rfl) (l1 (len3 _))))) (lows_objs [b])
end
end LW
end Part_M3

section Part_UL
set_option Elab.async false
set_option linter.all false
set_option maxRecDepth 100000
set_option maxHeartbeats 4000000
/-! UL: loops and comprehensions of the evaluator; no law in sight. -/
namespace U
open PySem (Operator CmpOp)
theorem for_inv {w : Walked} {body : MV → Env → Mem → RS} {I : Nat → Env → Mem → Prop} (hs : ∀ k r m, I k r m → w.still m = true) : ∀ (l : List MV) (k : Nat) (r : Env) (m : Mem), (∀ x ∈ l, ∀ k r m, I k r m → ∃ r' m', body x r m = .nx r' m' ∧ I (k + 1) r' m') → I k r m →
    ∃ r' m', forGo w body l r m = .nx r' m' ∧ I (k + l.length) r' m'
  | [], k, r, m, _, h => ⟨r, m, by unfold forGo; rw [if_pos (hs k r m h)], h⟩
  | x :: l, k, r, m, hb, h => by
    obtain ⟨r1, m1, e1, h1⟩ := hb x (List.mem_cons_self ..) k r m h
    obtain ⟨r2, m2, e2, h2⟩ := for_inv hs l (k + 1) r1 m1 (fun y hy => hb y (List.mem_cons_of_mem _ hy)) h1
    refine ⟨r2, m2, ?_, by rw [List.length_cons, Nat.add_comm l.length 1, ← Nat.add_assoc]; exact h2⟩
    unfold forGo
    rw [if_pos (hs k r m h), e1]
    exact e2
section
variable {m : Mem}
/-- every element by itself; what is walked stands still -/
theorem lc_still {w : Walked} {elt : MV → M MV} {g : MV → MV} (hs : ∀ acc : List MV, w.still (m ++ [.lst acc]) = true) : ∀ (l : List MV) (acc : List MV), (∀ x ∈ l, ∀ acc : List MV, elt x (m ++ [.lst acc]) = .ok (g x) (m ++ [.lst acc])) → acc.length + l.length ≤ 30000 →
    lcGo w m.length (fun _ m2 => .ok (.bl true) m2) elt l (m ++ [.lst acc]) = .ok (.ref m.length) (m ++ [.lst (acc ++ l.map g)])
  | [], acc, _, _ => by
    rw [List.map_nil, List.append_nil]
    unfold lcGo
    rw [if_pos (hs acc)]
  | x :: l, acc, h, hl => by
    have h2 := h x (List.mem_cons_self ..) acc
    have ih := lc_still hs l (acc ++ [g x]) (fun y hy => h y (List.mem_cons_of_mem _ hy)) (by rw [List.length_append]; simp only [List.length_cons, List.length_nil] at hl ⊢; omega)
    unfold lcGo
    rw [if_pos (hs acc)]
    dsimp only
    rw [onTru_bl, if_pos rfl, h2]
    dsimp only
    rw [getE_new]
    dsimp only
    rw [if_pos (by simp only [List.length_cons] at hl; unfold line; omega)]
    have e : (m ++ [MO.lst acc]).set m.length (.lst (acc ++ [g x])) = m ++ [.lst (acc ++ [g x])] := by
      rw [List.set_append_right _ _ (Nat.le_refl _), Nat.sub_self]
      rfl
    rw [e, ih, List.map_cons, List.append_assoc]
    rfl
end
section
variable {w : Walked} {n : Nat} {t e : MV → M MV} {x v : MV} {xs acc : List MV} {m m1 m2 : Mem} {b : MV → Env → Mem → RS} {r r' : Env}
theorem lc_nil (h : w.still m = true) : lcGo w n t e [] m = .ok (.ref n) m := by
  unfold lcGo
  rw [if_pos h]
theorem lc_cons (h : w.still m = true) (ht : t x m = .ok (.bl true) m1) (he : e x m1 = .ok v m2) (hn : m2[n]? = some (.lst acc)) (hl : acc.length < line) : lcGo w n t e (x :: xs) m = lcGo w n t e xs (m2.set n (.lst (acc ++ [v]))) := by
  conv => lhs; unfold lcGo
  rw [if_pos h, ht]
  dsimp only
  rw [onTru_bl, if_pos rfl, he]
  dsimp only
  rw [hn]
  dsimp only
  rw [if_pos hl]
theorem lc_skip (h : w.still m = true) (ht : t x m = .ok (.bl false) m1) : lcGo w n t e (x :: xs) m = lcGo w n t e xs m1 := by
  conv => lhs; unfold lcGo
  rw [if_pos h, ht]
  dsimp only
  rw [onTru_bl, if_neg (by decide)]
theorem for_nil (h : w.still m = true) : forGo w b [] r m = .nx r m := by
  unfold forGo
  rw [if_pos h]
theorem for_cons (h : w.still m = true) (hb : b x r m = .nx r' m1) : forGo w b (x :: xs) r m = forGo w b xs r' m1 := by
  conv => lhs; unfold forGo
  rw [if_pos h, hb]
theorem for_ret (h : w.still m = true) (hb : b x r m = .rt v m1) : forGo w b (x :: xs) r m = .rt v m1 := by
  unfold forGo
  rw [if_pos h, hb]
end
end U
end Part_UL

section Part_M4
set_option Elab.async false
set_option linter.all false
set_option maxRecDepth 100000
set_option maxHeartbeats 4000000
/-! M4: names, and terms made. -/
namespace LW
open U
open PySem (Operator CmpOp)
/-- a def that leaves new things behind that nobody holds -/
theorem out_garb {v : MV} {m e : Mem} (l : v.low m.length = true) : (RS.rt v (m ++ e)).out m = .ok v m := by
  show gcV m v (m ++ e) = _
  unfold gcV
  rw [if_pos (okOld_app m e), if_pos l, List.take_left]
theorem out_nx {r : Env} {m e : Mem} : (RS.nx r (m ++ e)).out m = .ok .non m := by
  show gcV m .non (m ++ e) = _
  unfold gcV
  rw [if_pos (okOld_app m e), if_pos (show MV.low m.length .non = true from rfl), List.take_left]
def letters : Txt := [97, 98, 99, 100, 101, 102, 103, 104, 105, 106, 107, 108, 109, 110, 111, 112, 113, 114, 115, 116, 117, 118, 119, 120, 121, 122]
structure NameOk (x : Txt) : Prop where
  lo : 1 ≤ x.length
  hi : x.length ≤ 8
  let_ : ∀ c ∈ x, 97 ≤ c ∧ c ≤ 122
theorem letter_in {c : Nat} (h : 97 ≤ c ∧ c ≤ 122) : isIn [c] letters = true := by
  obtain ⟨k, rfl⟩ : ∃ k, c = 97 + k := ⟨c - 97, by omega⟩
  have all : ∀ k : Fin 26, isIn [97 + k.val] letters = true := by decide +kernel
  exact all ⟨k, by omega⟩
section
variable {W n : Nat} {m : Mem}
theorem e_chain {T : Tab} {cl : CallF} {r : Env} {m1 m2 m3 m4 m5 : Mem} {a b c : CE} {o p : CmpOp} {x y u z : MV} (ha : evE T cl a r m = .ok x m1) (hb : evE T cl b r m1 = .ok y m2) (h1 : cmpop o x y m2 = some (.bl true, m3)) (hc : evE T cl c r m3 = .ok u m4) (h2 : cmpop p y u m4 = some (z, m5)) : evE T cl (.chain o p a b c) r m = .ok z m5 := by
  rw [evE, ha, bind_ok, hb, bind_ok, h1]
  show (onTru m3 (.bl true) fun b => if b = true then (evE T cl c r m3).bind fun u m4 => lift (cmpop p y u m4) else .ok (.bl false) m3) = _
  rw [onTru_bl, if_pos rfl, hc, bind_ok, h2]
  rfl
theorem allBl_true : ∀ k : Nat, allBl (List.replicate k (.bl true)) = some (List.replicate k true)
  | 0 => rfl
  | k + 1 => by
    rw [List.replicate_succ, List.replicate_succ]
    show (allBl (List.replicate k (.bl true))).map (true :: ·) = _
    rw [allBl_true k]
    rfl
theorem e_lc0 {T : Tab} {cl : CallF} {r : Env} {m1 : Mem} {elt : CE} {i : Nat} {src : CI} {w : Walked} {z : R MV} (hs : evI T cl src r m = .ok w m1) (h : lcGo w m1.length (fun _ m2 => .ok (.bl true) m2) (fun x m2 => evE T cl elt (r.set i (.val x)) m2) w.items (m1 ++ [.lst []]) = z) : evE T cl (.lc elt i src []) r m = z := by
  rw [evE, hs, bind_ok]
  exact h
theorem i_of {T : Tab} {cl : CallF} {r : Env} {m1 : Mem} {e : CE} {v : MV} {w : Walked} (he : evE T cl e r m = .ok v m1) (hw : walkOf v m1 = some w) : evI T cl (.of e) r m = .ok w m1 := by
  rw [evI, he, bind_ok, hw]
  rfl
theorem is_name_run {x : Txt} (h : NameOk x) : run dat.T W dat.defs (n + 1) i_is_name [.str x] m = .ok (.bl true) m := by
  rw [run_step (as := [.str x]) t_is_name rfl]
  have hl : x.length ≤ line := Nat.le_trans h.hi (by decide)
  have e0 : evE dat.T (run dat.T W dat.defs n) (.chain .LtE .LtE (.int 1) (.blt .len [(.var 0)]) (.con c_MOST_LETTERS)) (entry ⟨1, 2, [], b_is_name⟩ [.str x]) m = .ok (.bl true) m := by
    refine e_chain (m3 := m) (m4 := m) (u := .int 8) e_int (e_blt (l_one (e_var rfl)) (show builtin .len [.str x] m = some (.int x.length, m) from if_pos hl)) ?_ (by rw [evE]; rfl) ?_
    · show some (MV.bl (decide ((1 : Int) ≤ x.length)), m) = _
      rw [decide_eq_true (by have := h.lo; omega)]
    · show some (MV.bl (decide ((x.length : Int) ≤ 8)), m) = _
      rw [decide_eq_true (by have := h.hi; omega)]
  have e1 : evE dat.T (run dat.T W dat.defs n) (.lc (.cmp .In (.var 1) (.con c_LETTERS)) 1 (.of (.var 0)) []) (entry ⟨1, 2, [], b_is_name⟩ [.str x]) m = .ok (.ref m.length) (m ++ [.lst (List.replicate x.length (.bl true))]) := by
    refine e_lc0 (i_of (e_var rfl) rfl) ?_
    have z := lc_still (m := m) (w := ⟨x.map fun c => .str [c], none⟩) (elt := fun y m2 => evE dat.T (run dat.T W dat.defs n) (.cmp .In (.var 1) (.con c_LETTERS)) (List.set (entry ⟨1, 2, [], b_is_name⟩ [.str x]) 1 (.val y)) m2) (g := fun _ => .bl true) (fun _ => rfl)
      (x.map fun c => .str [c]) [] (fun y hy acc => by
        obtain ⟨c, hc, rfl⟩ := List.mem_map.mp hy
        refine e_cmp (y := .str letters) (e_var rfl) (by rw [evE]; rfl) ?_
        show some (MV.bl (isIn [c] letters), _) = _
        rw [letter_in (h.let_ c hc)]) (by simp only [List.length_map, List.length_nil]; have := h.hi; omega)
    rw [List.nil_append, List.map_map] at z
    rw [show List.replicate x.length (MV.bl true) = x.map ((fun _ => MV.bl true) ∘ fun c => MV.str [c]) from by
      clear h hl e0 z
      induction x with
      | nil => rfl
      | cons c x ih => rw [List.length_cons, List.replicate_succ, List.map_cons, ih]; rfl]
    exact z
  have e2 : evB dat.T W (run dat.T W dat.defs n) b_is_name (entry ⟨1, 2, [], b_is_name⟩ [.str x]) m = .rt (.bl true) (m ++ [.lst (List.replicate x.length (.bl true))]) := by
    refine (b_skip (e_or_f (e_not (e_isi (t := true) (e_var rfl) rfl) rfl) rfl |>.trans (e_not e0 rfl)) rfl).trans (b_rt (s_ret (e_blt (l_one e1) ?_)))
    show (match (m ++ [MO.lst (List.replicate x.length (.bl true))])[m.length]? with | some (.lst xs) => (match allBl xs with | some bs => some (MV.bl (bs.all id), _) | none => none) | _ => none) = _
    rw [getE_new]
    dsimp only
    rw [allBl_true]
    dsimp only
    have : (List.replicate x.length true).all id = true := by simp
    rw [this]
  rw [show (FD.body ⟨1, 2, [], b_is_name⟩) = b_is_name from rfl, e2, out_garb rfl]
end
end LW
end Part_M4

section Part_M5
set_option Elab.async false
set_option linter.all false
set_option maxRecDepth 100000
set_option maxHeartbeats 4000000
/-! M5: terms made by their classes. -/
namespace LW
open U
open PySem (Operator CmpOp)
theorem okOld_last {n : Nat} {a b : MO} (hb : b.low n = true) : ∀ (m e : List MO), okOld n (m ++ [a]) (m ++ b :: e) = true
  | [], e => by
    show okOld n [a] (b :: e) = true
    unfold okOld
    rw [hb]
    simp [okOld]
  | x :: xs, e => by
    show okOld n (x :: (xs ++ [a])) (x :: (xs ++ b :: e)) = true
    unfold okOld
    rw [okOld_last hb xs e]
    simp
theorem out_init {r : Env} {m e : Mem} {c : Nat} {fs : List MV} (h : MV.lows (m.length + 1) fs = true) : (RS.nx r (m ++ .ins c fs :: e)).out (m ++ [.ins c []]) = .ok .non (m ++ [.ins c fs]) := by
  show gcV (m ++ [.ins c []]) .non (m ++ .ins c fs :: e) = _
  unfold gcV
  have hl : (m ++ [MO.ins c []]).length = m.length + 1 := by simp
  rw [hl, if_pos (okOld_last (show MO.low (m.length + 1) (.ins c fs) = true from h) m e), if_pos (show MV.low (m.length + 1) .non = true from rfl)]
  have : (m ++ MO.ins c fs :: e).take (m.length + 1) = m ++ [.ins c fs] := by
    rw [List.take_append, List.take_of_length_le (Nat.le_succ _)]
    simp
  rw [this]
theorem new_obj {T : Tab} {cl : CallF} {c f : Nat} {vs fs : List MV} {m : Mem} (hi : T.init c = some f) (h : cl f (.ref m.length :: vs) (m ++ [.ins c []]) = .ok .non (m ++ [.ins c fs])) (hf : T.frozen c = true) (hl : fs.length = T.fields c) (lo : MV.lows m.length fs = true) : newObj T cl c vs m = .ok (.obj c fs) m := by
  unfold newObj
  rw [hi]
  dsimp only
  rw [h, bind_ok]
  show made T c m (m ++ [.ins c fs]) = _
  unfold made
  rw [getE_new]
  dsimp only
  rw [if_pos rfl, hf, if_pos rfl, if_pos hl, if_pos ⟨okOld_app m _, by simp, lo⟩, List.take_left]
section
variable {W n : Nat} {m : Mem}
theorem need_name_run {x : Txt} (h : NameOk x) : run dat.T W dat.defs (n + 2) i_need_name [.str x] m = .ok .non m := by
  rw [run_step (as := [.str x]) t_need_name rfl]
  have e : evB dat.T W (run dat.T W dat.defs (n + 1)) b_need_name (entry ⟨1, 1, [], b_need_name⟩ [.str x]) m = .nx (entry ⟨1, 1, [], b_need_name⟩ [.str x]) m :=
    (b_skip (e_not (e_call (l_one (e_var rfl)) (is_name_run h)) rfl) rfl).trans b_nil
  rw [show (FD.body ⟨1, 1, [], b_need_name⟩) = b_need_name from rfl, e]
  have z := out_nx (r := entry ⟨1, 1, [], b_need_name⟩ [.str x]) (m := m) (e := [])
  rwa [List.append_nil] at z
theorem is_term (t : Tm) : tyAny dat.T m t.obj [.own 0] = some true := by cases t <;> rfl
theorem need_terms_run {L : Nat} {ts : List Tm} (h : m[L]? = some (.lst (ts.map Tm.obj))) : run dat.T W dat.defs (n + 1) i_need_terms [.ref L] m = .ok .non m := by
  rw [run_step (as := [.ref L]) t_need_terms rfl]
  have hw : walkOf (.ref L) m = some ⟨ts.map Tm.obj, some (L, false)⟩ := by
    show (match m[L]? with | some (.lst xs) => some (Walked.mk xs (some (L, false))) | some (.frz xs) => some (Walked.mk xs (some (L, false))) | _ => none) = _
    rw [h]
  have st : Walked.still ⟨ts.map Tm.obj, some (L, false)⟩ m = true := by
    unfold Walked.still
    dsimp only
    rw [h]
    exact (MV.eqbs_iff _ _).mpr rfl
  obtain ⟨p, hp⟩ : ∃ p, b_need_terms = [.for_ (.one 1) (.of (.var 0)) [.ifs (.not (.isi (.var 1) [.own 0])) p []]] := ⟨_, rfl⟩
  obtain ⟨r', m', f1, f2, f3⟩ := for_inv (w := ⟨ts.map Tm.obj, some (L, false)⟩) (body := fun x r' m' => match (Tg.one 1).put x r' with | some r2 => evB dat.T W (run dat.T W dat.defs n) [.ifs (.not (.isi (.var 1) [.own 0])) p []] r2 m' | none => .fail)
    (I := fun _ r mm => r.length = 2 ∧ mm = m) (fun _ _ _ hI => by rw [hI.2]; exact st) (ts.map Tm.obj) 0 (entry ⟨1, 2, [], b_need_terms⟩ [.ref L]) m (fun x hx k r mm hI => by
      obtain ⟨t, _, rfl⟩ := List.mem_map.mp hx
      obtain ⟨hr, rfl⟩ := hI
      have hv : (r.set 1 (.val t.obj))[1]? = some (.val t.obj) := List.getElem?_set_self (by omega)
      exact ⟨_, _, (b_skip (e_not (e_isi (e_var hv) (is_term t)) rfl) rfl).trans b_nil, by rw [List.length_set]; exact hr, rfl⟩) ⟨rfl, rfl⟩
  have e : evB dat.T W (run dat.T W dat.defs n) b_need_terms (entry ⟨1, 2, [], b_need_terms⟩ [.ref L]) m = .nx r' m' := by
    rw [hp]
    refine (b_nx ?_).trans b_nil
    rw [evS, i_of (e_var rfl) hw]
    exact f1
  rw [show (FD.body ⟨1, 2, [], b_need_terms⟩) = b_need_terms from rfl, e, f3]
  have z := out_nx (r := r') (m := m) (e := [])
  rwa [List.append_nil] at z
/-- what an __init__ leaves -/
theorem init_of {c f np ns : Nat} {body : List CS} {as : List MV} {fs : List MV} {r : Env} {e : Mem} (hd : dat.defs f = some ⟨np, ns, [], body⟩) (hn : np = as.length + 1)
    (hb : evB dat.T W (run dat.T W dat.defs n) body (entry ⟨np, ns, [], body⟩ (.ref m.length :: as)) (m ++ [.ins c []]) = .nx r (m ++ .ins c fs :: e)) (lo : MV.lows (m.length + 1) fs = true) :
    run dat.T W dat.defs (n + 1) f (.ref m.length :: as) (m ++ [.ins c []]) = .ok .non (m ++ [.ins c fs]) := by
  rw [run_step (as := .ref m.length :: as) hd (by rw [hn]; rfl)]
  dsimp only
  rw [hb, out_init lo]
theorem set_at {a : MO} {m e : Mem} {b : MO} : (m ++ a :: e).set m.length b = m ++ b :: e := by
  rw [List.set_append_right _ _ (Nat.le_refl _), Nat.sub_self]
  rfl
theorem get_at {a : MO} {m e : Mem} : (m ++ a :: e)[m.length]? = some a := by
  rw [List.getElem?_append_right (Nat.le_refl _), Nat.sub_self]
  rfl
theorem s_setf {T : Tab} {cl : CallF} {r : Env} {m m1 m2 m3 : Mem} {o e : CE} {f : Nat} {x y : MV} (he : evE T cl e r m = .ok y m1) (ho : evE T cl o r m1 = .ok x m2) (h : setF T x f y m2 = some m3) : evS T W cl (.setf o f e) r m = .nx r m3 := by
  rw [evS, he]
  dsimp only [R.st]
  rw [ho]
  dsimp only
  rw [h]
/-- the next attribute -/
theorem setF_next {T : Tab} {c f k : Nat} {fs : List MV} {y : MV} {m e : Mem} (hf : T.fix c f = some k) (hk : k = fs.length) (hl : fs.length < T.fields c) : setF T (.ref m.length) f y (m ++ .ins c fs :: e) = some (m ++ .ins c (fs ++ [y]) :: e) := by
  unfold setF
  dsimp only
  rw [get_at]
  dsimp only
  rw [hf]
  dsimp only
  rw [if_pos ⟨hk, hl⟩, set_at]
theorem new_name {x : Txt} (h : NameOk x) : newObj dat.T (run dat.T W dat.defs (n + 3)) k_Name [.str x] m = .ok (Tm.name x).obj m := by
  refine new_obj (f := i_Name___init) rfl ?_ rfl rfl rfl
  refine init_of (e := []) (r := entry ⟨2, 2, [], b_Name___init⟩ [.ref m.length, .str x]) t_Name___init rfl ?_ rfl
  refine (b_nx (s_expr (e_call (l_one (e_var rfl)) (need_name_run h)))).trans ((b_nx (s_setf (e_var rfl) (e_var rfl) (setF_next (e := []) (fs := []) (c := k_Name) (k := 0) rfl rfl (by decide)))).trans b_nil)
end
end LW
end Part_M5

section Part_RL
set_option Elab.async false
set_option linter.all false
set_option maxRecDepth 100000
set_option maxHeartbeats 4000000
/-! RL: repr of plain things: how long it may be. -/
namespace U
open PySem (Operator CmpOp PyData Str)
mutual
def MV.pd : MV → PyData
  | .non => .none | .bl b => .bool b | .int i => .int i | .str x => .str ⟨x.toArray⟩ | .tup xs => .tuple (MV.pds xs) | .obj _ _ => .none | .ref _ => .none
def MV.pds : List MV → List PyData
  | [] => []
  | x :: xs => x.pd :: MV.pds xs
end
mutual
def MV.fine : MV → Bool
  | .non => true | .bl _ => true | .int i => decide (i.natAbs.log2 < 400) | .str x => x.all fun c => decide (c < 16 ^ 8) | .tup xs => MV.fines xs | .obj _ _ => false | .ref _ => false
def MV.fines : List MV → Bool
  | [] => true
  | x :: xs => x.fine && MV.fines xs
end
mutual
def MV.dep : MV → Nat
  | .tup xs => MV.deps xs + 1
  | _ => 0
def MV.deps : List MV → Nat
  | [] => 0
  | x :: xs => max x.dep (MV.deps xs)
end
mutual
def MV.wide : MV → Nat
  | .int _ => 401
  | .str x => 10 * x.length + 2
  | .tup xs => MV.wides xs + 3
  | _ => 10
def MV.wides : List MV → Nat
  | [] => 0
  | x :: xs => x.wide + 2 + MV.wides xs
end
mutual
theorem data_fine {m : Mem} : ∀ (v : MV) {k : Nat}, v.fine = true → v.dep < k → v.data m k = some v.pd
  | .non, k + 1, _, _ => rfl
  | .bl _, k + 1, _, _ => rfl
  | .int _, k + 1, _, _ => rfl
  | .str _, k + 1, _, _ => rfl
  | .tup xs, k + 1, h, hk => by
    show (xs.mapM (MV.data m k)).map PyData.tuple = _
    rw [datas_fine xs h (Nat.lt_of_succ_lt_succ hk)]
    rfl
  | .obj _ _, _, h, _ => nomatch h
  | .ref _, _, h, _ => nomatch h
theorem datas_fine {m : Mem} : ∀ (xs : List MV) {k : Nat}, MV.fines xs = true → MV.deps xs < k → xs.mapM (MV.data m k) = some (MV.pds xs)
  | [], _, _, _ => rfl
  | x :: xs, k, h, hk => by
    have h2 := Bool.and_eq_true_iff.mp (show (x.fine && MV.fines xs) = true from h)
    have hk2 : max x.dep (MV.deps xs) < k := hk
    rw [List.mapM_cons, data_fine x h2.1 (by omega), datas_fine xs h2.2 (by omega)]
    rfl
end
mutual
theorem able_fine : ∀ (v : MV), v.fine = true → v.pd.showable = true ∧ v.pd.hasDict = false
  | .non, _ => by simp [MV.pd, PyData.showable, PyData.hasDict]
  | .bl _, _ => by simp [MV.pd, PyData.showable, PyData.hasDict]
  | .int i, h => by
    have h2 : i.natAbs.log2 < 400 := of_decide_eq_true h
    simp only [MV.pd, PyData.showable, PyData.hasDict, and_true]
    exact decide_eq_true (by omega)
  | .str _, _ => by simp [MV.pd, PyData.showable, PyData.hasDict]
  | .tup xs, h => by
    simp only [MV.pd, PyData.showable, PyData.hasDict]
    exact ables_fine xs h
  | .obj _ _, h => nomatch h
  | .ref _, h => nomatch h
theorem ables_fine : ∀ (xs : List MV), MV.fines xs = true → PyData.showableAll (MV.pds xs) = true ∧ PyData.hasDictAll (MV.pds xs) = false
  | [], _ => by simp [MV.pds, PyData.showableAll, PyData.hasDictAll]
  | x :: xs, h => by
    have h2 := Bool.and_eq_true_iff.mp (show (x.fine && MV.fines xs) = true from h)
    have a := able_fine x h2.1
    have b := ables_fine xs h2.2
    simp only [MV.pds, PyData.showableAll, PyData.hasDictAll, a.1, a.2, b.1, b.2]
    exact ⟨rfl, rfl⟩
end
theorem tupText_len (ts : List Str) : (PySem.tupleText ts).length ≤ PySem.piled ts + 3 := by
  unfold PySem.tupleText
  rw [PySem.strLen_append, PySem.strLen_append]
  have e1 : (("(" : Str)).length = 1 := rfl
  have e2 : ((if ts.length == 1 then ",)" else ")" : String) : Str).length ≤ 2 := by split <;> decide
  rw [e1]
  cases ts with
  | nil =>
    have : (Str.join ", " []).length = 0 := rfl
    omega
  | cons t ts =>
    have := PySem.join_length_add (t :: ts) (by simp)
    omega
theorem lstText_len (ts : List Str) : (PySem.listText ts).length ≤ PySem.piled ts + 2 := by
  cases ts with
  | nil => decide
  | cons t ts =>
    have hX : (PySem.listText (t :: ts)).length = (PySem.textFrom 1 (("[" : Str) ++ (if (0 : Nat) > 0 then ", " else "" : String) ++ t) ts).length + 1 := by
      show (PySem.textFrom 0 "[" (t :: ts) ++ "]").length = _
      rw [PySem.strLen_append]; rfl
    rw [hX, PySem.textFrom_length_pos _ _ _ (Nat.succ_pos 0), PySem.piled_cons, PySem.strLen_append, PySem.strLen_append]
    have e1 : (("[" : Str)).length = 1 := rfl
    have e2 : (((if (0 : Nat) > 0 then ", " else "" : String)) : Str).length = 0 := rfl
    omega
mutual
theorem shown_fine : ∀ (v : MV), v.fine = true → v.pd.shown.length ≤ v.wide
  | .non, _ => by simp only [MV.pd, PyData.shown, MV.wide]; decide
  | .bl b, _ => by simp only [MV.pd, PyData.shown, MV.wide]; cases b <;> decide
  | .int i, h => by
    simp only [MV.pd, PyData.shown, MV.wide]
    have := PySem.int_text_length_le (k := 400) (by decide) (of_decide_eq_true h)
    rw [PySem.ofString_length]
    exact this
  | .str x, h => by
    simp only [MV.pd, PyData.shown, MV.wide]
    refine Nat.le_trans (PySem.StrLaws.reprText_len _ fun c hc => ?_) (by simp [Str.length])
    have h2 : (x.all fun c => decide (c < 16 ^ 8)) = true := h
    exact of_decide_eq_true (List.all_eq_true.mp h2 c (by simpa using hc))
  | .tup xs, h => by
    simp only [MV.pd, PyData.shown, MV.wide]
    exact Nat.le_trans (tupText_len _) (Nat.add_le_add_right (showns_fine xs h) 3)
  | .obj _ _, h => nomatch h
  | .ref _, h => nomatch h
theorem showns_fine : ∀ (xs : List MV), MV.fines xs = true → PySem.piled (PyData.shownAll (MV.pds xs)) ≤ MV.wides xs
  | [], _ => by simp only [MV.pds, PyData.shownAll, MV.wides]; decide
  | x :: xs, h => by
    have h2 := Bool.and_eq_true_iff.mp (show (x.fine && MV.fines xs) = true from h)
    have a := shown_fine x h2.1
    have b := showns_fine xs h2.2
    simp only [MV.pds, PyData.shownAll, MV.wides, PySem.piled_cons]
    omega
end
def MV.rp (v : MV) : Txt := v.pd.shown.cps.toList
def rpL (xs : List MV) : Txt := (PyData.list (MV.pds xs)).shown.cps.toList
theorem repr_v {v : MV} {m : Mem} (hf : v.fine = true) (hd : v.dep < 1000) (hw : v.wide ≤ line) : builtin .repr [v] m = some (.str v.rp, m) := by
  show (match MV.data m dataFuel v with
    | some d => if d.showable = true ∧ d.hasDict = false ∧ d.shown.length ≤ line then some (MV.str d.shown.cps.toList, m) else none
    | none => none) = _
  rw [show MV.data m dataFuel v = some v.pd from data_fine v hf hd]
  dsimp only
  have a := able_fine v hf
  rw [if_pos ⟨a.1, a.2, Nat.le_trans (shown_fine v hf) hw⟩]
  rfl
theorem repr_l {xs : List MV} {n : Nat} {m : Mem} (hm : m[n]? = some (.lst xs)) (hf : MV.fines xs = true) (hd : MV.deps xs < 999) (hw : MV.wides xs + 2 ≤ line) : builtin .repr [.ref n] m = some (.str (rpL xs), m) := by
  show (match MV.data m dataFuel (.ref n) with
    | some d => if d.showable = true ∧ d.hasDict = false ∧ d.shown.length ≤ line then some (MV.str d.shown.cps.toList, m) else none
    | none => none) = _
  have e : MV.data m dataFuel (.ref n) = some (.list (MV.pds xs)) := by
    show (match m[n]? with | some (.lst xs) => (xs.mapM (MV.data m 999)).map PyData.list | some (.frz xs) => (xs.mapM (MV.data m 999)).map PyData.list | _ => none) = _
    rw [hm]
    dsimp only
    rw [datas_fine xs hf hd]
    rfl
  rw [e]
  dsimp only
  have a := ables_fine xs hf
  have l : (PyData.list (MV.pds xs)).shown.length ≤ line := by
    simp only [PyData.shown]
    exact Nat.le_trans (Nat.le_trans (lstText_len _) (Nat.add_le_add_right (showns_fine xs hf) 2)) hw
  rw [if_pos ⟨by simp only [PyData.showable]; exact a.1, by simp only [PyData.hasDict]; exact a.2, l⟩]
  rfl
theorem str_eq {x : Txt} {m : Mem} : cmpop .Eq (.str x) (.str x) m = some (.bl true, m) := by
  show okb (some (decide (MV.str x = MV.str x))) m = _
  rw [decide_eq_true rfl]
  rfl
theorem str_ne {x : Txt} {m : Mem} : cmpop .NotEq (.str x) (.str x) m = some (.bl false, m) := by
  show okb ((some (decide (MV.str x = MV.str x))).map (!·)) m = _
  rw [decide_eq_true rfl]
  rfl
end U
end Part_RL

section Part_M6
set_option Elab.async false
set_option linter.all false
set_option maxRecDepth 100000
set_option maxHeartbeats 4000000
/-! M6: all terms made, made anew with other parts, made of what is told. -/
namespace LW
open U
open PySem (Operator CmpOp)
def SignOk (s : Txt) : Prop := s = [43] ∨ s = [45] ∨ s = [60]
/-- names by P -/
def Tm.OkP (P : Txt → Prop) : Tm → Prop
  | .opn => True | .name x => P x | .num i => i.natAbs.log2 < 400 | .mk x b => P x ∧ b.OkP P | .giv a b => a.OkP P ∧ b.OkP P | .sm s a b => SignOk s ∧ a.OkP P ∧ b.OkP P | .cho a b c => a.OkP P ∧ b.OkP P ∧ c.OkP P | .aga x b => P x ∧ b.OkP P
abbrev Tm.Ok (t : Tm) : Prop := t.OkP NameOk
theorem Tm.OkP.imp {P Q : Txt → Prop} (h : ∀ x, P x → Q x) : ∀ {t : Tm}, t.OkP P → t.OkP Q
  | .opn, _ => trivial
  | .name x, o => h x o
  | .num _, o => o
  | .mk x b, o => ⟨h x o.1, OkP.imp h o.2⟩
  | .giv a b, o => ⟨OkP.imp h o.1, OkP.imp h o.2⟩
  | .sm s a b, o => ⟨o.1, OkP.imp h o.2.1, OkP.imp h o.2.2⟩
  | .cho a b c, o => ⟨OkP.imp h o.1, OkP.imp h o.2.1, OkP.imp h o.2.2⟩
  | .aga x b, o => ⟨h x o.1, OkP.imp h o.2⟩
def Tm.re : Tm → List Tm → Tm
  | .mk x _, [b] => .mk x b
  | .giv _ _, [a, b] => .giv a b
  | .sm s _ _, [a, b] => .sm s a b
  | .cho _ _ _, [a, b, c] => .cho a b c
  | .aga x _, [b] => .aga x b
  | t, _ => t
theorem len_two {α : Type} {l : List α} (h : l.length = 2) : ∃ a b, l = [a, b] := by
  match l, h with
  | [a, b], _ => exact ⟨a, b, rfl⟩
theorem len_three {α : Type} {l : List α} (h : l.length = 3) : ∃ a b c, l = [a, b, c] := by
  match l, h with
  | [a, b, c], _ => exact ⟨a, b, c, rfl⟩
theorem lt_r {a b : Nat} (h : Nat.ble (a + 1) b = true) : a < b := Nat.le_of_ble_eq_true h
theorem le_r {a b : Nat} (h : Nat.ble a b = true) : a ≤ b := Nat.le_of_ble_eq_true h
theorem atI0 {α : Type} {x : α} {xs : List α} : L2.atI (x :: xs) 0 = some x := L2.atI_nat (j := 0) rfl
theorem atI1 {α : Type} {x y : α} {xs : List α} : L2.atI (x :: y :: xs) 1 = some y := L2.atI_nat (j := 1) rfl
theorem atI2 {α : Type} {x y z : α} {xs : List α} : L2.atI (x :: y :: z :: xs) 2 = some z := L2.atI_nat (j := 2) rfl
section
variable {W n : Nat} {m : Mem}
theorem app2 {a b : MO} : m ++ [a] ++ [b] = m ++ a :: [b] := by rw [List.append_assoc]; rfl
theorem s_need {cl : CallF} {es : List CE} {r : Env} {ts : List Tm} (hc : cl = run dat.T W dat.defs (n + 1)) (h : evL dat.T cl es r m = .ok (ts.map Tm.obj) m) (hl : ts.length ≤ 3) : evS dat.T W cl (.expr (.call i_need_terms [] [.lst es])) r m = .nx r (m ++ [.lst (ts.map Tm.obj)]) := by
  subst hc
  exact s_expr (e_call (l_one (e_lst h (by rw [List.length_map]; exact Nat.le_trans hl (by show 3 ≤ line; decide)))) (need_terms_run getE_new))
theorem is_whole_run {i : Int} : run dat.T W dat.defs (n + 1) i_is_whole [.int i] m = .ok (.bl true) m := by
  rw [run_step (as := [.int i]) t_is_whole rfl]
  exact out_rt rfl
theorem e_new {T : Tab} {cl : CallF} {r : Env} {m1 m2 : Mem} {c : Nat} {ix : List Nat} {es : List CE} {vs : List MV} {v : MV} (hl : evL T cl es r m = .ok vs m1) (h : newObj T cl c (ord ix vs) m1 = .ok v m2) : evE T cl (.new c ix es) r m = .ok v m2 := by
  rw [evE, hl, bind_ok, h]
theorem new_number {i : Int} : newObj dat.T (run dat.T W dat.defs (n + 3)) k_Number [.int i] m = .ok (Tm.num i).obj m := by
  refine new_obj (f := i_Number___init) rfl ?_ rfl rfl rfl
  refine init_of (e := []) (r := entry ⟨2, 2, [], b_Number___init⟩ [.ref m.length, .int i]) t_Number___init rfl ?_ rfl
  exact (b_skip (e_not (e_call (l_one (e_var rfl)) is_whole_run) rfl) rfl).trans ((b_nx (s_setf (e_var rfl) (e_var rfl) (setF_next (e := []) (fs := []) (c := k_Number) (k := 0) rfl rfl (lt_r rfl)))).trans b_nil)
theorem new_open : newObj dat.T (run dat.T W dat.defs n) k_Open [] m = .ok Tm.opn.obj m := by
  show made dat.T k_Open m (m ++ [.ins k_Open []]) = _
  unfold made
  rw [getE_new]
  dsimp only
  rw [if_pos rfl, if_pos (show dat.T.frozen k_Open = true from rfl), if_pos (show [].length = dat.T.fields k_Open from rfl), if_pos ⟨okOld_app m _, by simp, rfl⟩, List.take_left]
  rfl
theorem lows1 {k : Nat} (b : Tm) : MV.lows k [b.obj] = true := lows_objs [b]
theorem lowsx1 {k : Nat} {x : Txt} (b : Tm) : MV.lows k [.str x, b.obj] = true := lows_objs [b]
theorem lows2 {k : Nat} (a b : Tm) : MV.lows k [a.obj, b.obj] = true := lows_objs [a, b]
theorem lowsx2 {k : Nat} {x : Txt} (a b : Tm) : MV.lows k [.str x, a.obj, b.obj] = true := lows_objs [a, b]
theorem lows3 {k : Nat} (a b c : Tm) : MV.lows k [a.obj, b.obj, c.obj] = true := lows_objs [a, b, c]
theorem new_maker {x : Txt} {b : Tm} (h : NameOk x) : newObj dat.T (run dat.T W dat.defs (n + 3)) k_Maker [.str x, b.obj] m = .ok (Tm.mk x b).obj m := by
  refine new_obj (f := i_Maker___init) rfl ?_ rfl rfl (lowsx1 b)
  refine init_of (e := [.lst [b.obj]]) (r := entry ⟨3, 3, [], b_Maker___init⟩ [.ref m.length, .str x, b.obj]) t_Maker___init rfl ?_ (lowsx1 b)
  refine (b_nx (s_expr (e_call (l_one (e_var rfl)) (need_name_run h)))).trans ((b_nx (s_need (ts := [b]) rfl (l_one (e_var rfl)) (le_r rfl))).trans ?_)
  rw [app2]
  exact (b_nx (s_setf (e_var rfl) (e_var rfl) (setF_next (fs := []) (c := k_Maker) (k := 0) rfl rfl (lt_r rfl)))).trans ((b_nx (s_setf (e_var rfl) (e_var rfl) (setF_next (fs := [.str x]) (c := k_Maker) (k := 1) rfl rfl (lt_r rfl)))).trans b_nil)
theorem new_again {x : Txt} {b : Tm} (h : NameOk x) : newObj dat.T (run dat.T W dat.defs (n + 3)) k_Again [.str x, b.obj] m = .ok (Tm.aga x b).obj m := by
  refine new_obj (f := i_Again___init) rfl ?_ rfl rfl (lowsx1 b)
  refine init_of (e := [.lst [b.obj]]) (r := entry ⟨3, 3, [], b_Again___init⟩ [.ref m.length, .str x, b.obj]) t_Again___init rfl ?_ (lowsx1 b)
  refine (b_nx (s_expr (e_call (l_one (e_var rfl)) (need_name_run h)))).trans ((b_nx (s_need (ts := [b]) rfl (l_one (e_var rfl)) (le_r rfl))).trans ?_)
  rw [app2]
  exact (b_nx (s_setf (e_var rfl) (e_var rfl) (setF_next (fs := []) (c := k_Again) (k := 0) rfl rfl (lt_r rfl)))).trans ((b_nx (s_setf (e_var rfl) (e_var rfl) (setF_next (fs := [.str x]) (c := k_Again) (k := 1) rfl rfl (lt_r rfl)))).trans b_nil)
theorem new_give {a b : Tm} : newObj dat.T (run dat.T W dat.defs (n + 3)) k_Give [a.obj, b.obj] m = .ok (Tm.giv a b).obj m := by
  refine new_obj (f := i_Give___init) rfl ?_ rfl rfl (lows2 a b)
  refine init_of (e := [.lst [a.obj, b.obj]]) (r := entry ⟨3, 3, [], b_Give___init⟩ [.ref m.length, a.obj, b.obj]) t_Give___init rfl ?_ (lows2 a b)
  refine (b_nx (s_need (ts := [a, b]) rfl (l_cons (e_var rfl) (l_one (e_var rfl))) (le_r rfl))).trans ?_
  rw [app2]
  exact (b_nx (s_setf (e_var rfl) (e_var rfl) (setF_next (fs := []) (c := k_Give) (k := 0) rfl rfl (lt_r rfl)))).trans ((b_nx (s_setf (e_var rfl) (e_var rfl) (setF_next (fs := [a.obj]) (c := k_Give) (k := 1) rfl rfl (lt_r rfl)))).trans b_nil)
theorem new_sum {s : Txt} {a b : Tm} (h : SignOk s) : newObj dat.T (run dat.T W dat.defs (n + 3)) k_Sum [.str s, a.obj, b.obj] m = .ok (Tm.sm s a b).obj m := by
  refine new_obj (f := i_Sum___init) rfl ?_ rfl rfl (lowsx2 a b)
  refine init_of (e := [.lst [a.obj, b.obj]]) (r := entry ⟨4, 4, [], b_Sum___init⟩ [.ref m.length, .str s, a.obj, b.obj]) t_Sum___init rfl ?_ (lowsx2 a b)
  have e0 : cmpop .NotIn (.str s) (dat.T.con c_SUMS) (m ++ [.ins k_Sum []]) = some (.bl false, m ++ [.ins k_Sum []]) := by
    rcases h with rfl | rfl | rfl <;> rfl
  refine (b_skip ((e_or_f (e_not (e_isi (t := true) (e_var rfl) rfl) rfl) rfl).trans (e_cmp (e_var rfl) (by rw [evE]) e0)) rfl).trans ((b_nx (s_need (ts := [a, b]) rfl (l_cons (e_var rfl) (l_one (e_var rfl))) (le_r rfl))).trans ?_)
  rw [app2]
  exact (b_nx (s_setf (e_var rfl) (e_var rfl) (setF_next (fs := []) (c := k_Sum) (k := 0) rfl rfl (lt_r rfl)))).trans ((b_nx (s_setf (e_var rfl) (e_var rfl) (setF_next (fs := [.str s]) (c := k_Sum) (k := 1) rfl rfl (lt_r rfl)))).trans ((b_nx (s_setf (e_var rfl) (e_var rfl) (setF_next (fs := [.str s, a.obj]) (c := k_Sum) (k := 2) rfl rfl (lt_r rfl)))).trans b_nil))
theorem new_choice {a b c : Tm} : newObj dat.T (run dat.T W dat.defs (n + 3)) k_Choice [a.obj, b.obj, c.obj] m = .ok (Tm.cho a b c).obj m := by
  refine new_obj (f := i_Choice___init) rfl ?_ rfl rfl (lows3 a b c)
  refine init_of (e := [.lst [a.obj, b.obj, c.obj]]) (r := entry ⟨4, 4, [], b_Choice___init⟩ [.ref m.length, a.obj, b.obj, c.obj]) t_Choice___init rfl ?_ (lows3 a b c)
  refine (b_nx (s_need (ts := [a, b, c]) rfl (l_cons (e_var rfl) (l_cons (e_var rfl) (l_one (e_var rfl)))) (le_r rfl))).trans ?_
  rw [app2]
  exact (b_nx (s_setf (e_var rfl) (e_var rfl) (setF_next (fs := []) (c := k_Choice) (k := 0) rfl rfl (lt_r rfl)))).trans ((b_nx (s_setf (e_var rfl) (e_var rfl) (setF_next (fs := [a.obj]) (c := k_Choice) (k := 1) rfl rfl (lt_r rfl)))).trans ((b_nx (s_setf (e_var rfl) (e_var rfl) (setF_next (fs := [a.obj, b.obj]) (c := k_Choice) (k := 2) rfl rfl (lt_r rfl)))).trans b_nil))
theorem get_l {xs : List MV} {L : Nat} {q : Int} {v : MV} (e1 : m[L]? = some (.lst xs)) (e2 : L2.atI xs q = some v) : subscr (.ref L) (.int q) m = some (v, m) := by
  show (match m[L]? with | some (.lst xs) => (match L2.atI xs q with | some y => some (y, m) | none => none) | some (.frz xs) => (match L2.atI xs q with | some y => some (y, m) | none => none) | _ => none) = _
  rw [e1]
  dsimp only
  rw [e2]
theorem rebuilt_run (t : Tm) (ok : t.Ok) {ps : List Tm} {L : Nat} (hp : ps.length = t.parts.length) (hL : m[L]? = some (.lst (ps.map Tm.obj))) : run dat.T W dat.defs (n + 4) (meth_of t m_rebuilt) [t.obj, .ref L] m = .ok (t.re ps).obj m := by
  have go : ∀ {f : Nat} {fd : FD} {v : Tm}, dat.defs f = some fd → fd.np = 2 → evB dat.T W (run dat.T W dat.defs (n + 3)) fd.body (entry fd [t.obj, .ref L]) m = .rt v.obj m → run dat.T W dat.defs (n + 4) f [t.obj, .ref L] m = .ok v.obj m := fun {f fd v} h1 h2 h3 => by
    rw [run_step (as := [t.obj, .ref L]) h1 (by rw [h2]; rfl), h3, out_rt (low_obj v)]
  have ix : ∀ {q : Int} {v : Tm} {r : Env}, r[1]? = some (.val (.ref L)) → L2.atI (ps.map Tm.obj) q = some v.obj → evE dat.T (run dat.T W dat.defs (n + 3)) (.idx (.var 1) (.int q)) r m = .ok v.obj m := fun {q v r} h1 h2 => e_idx (e_var h1) e_int (get_l hL h2)
  cases t with
  | opn => exact go (v := .opn) t_Term_rebuilt rfl rfl
  | name x => exact go (v := .name x) t_Term_rebuilt rfl rfl
  | num i => exact go (v := .num i) t_Term_rebuilt rfl rfl
  | mk x b => obtain ⟨a, rfl⟩ := List.length_eq_one_iff.mp (show ps.length = 1 from hp); exact go (v := .mk x a) t_Maker_rebuilt rfl (b_rt (s_ret (e_new (l_cons rfl (l_one (ix rfl atI0))) (new_maker ok.1))))
  | giv a b => obtain ⟨c, d, rfl⟩ := len_two (show ps.length = 2 from hp); exact go (v := .giv c d) t_Give_rebuilt rfl (b_rt (s_ret (e_new (l_cons (ix rfl atI0) (l_one (ix rfl atI1))) new_give)))
  | sm s a b => obtain ⟨c, d, rfl⟩ := len_two (show ps.length = 2 from hp); exact go (v := .sm s c d) t_Sum_rebuilt rfl (b_rt (s_ret (e_new (l_cons rfl (l_cons (ix rfl atI0) (l_one (ix rfl atI1)))) (new_sum ok.1))))
  | cho a b c => obtain ⟨d, e, f, rfl⟩ := len_three (show ps.length = 3 from hp); exact go (v := .cho d e f) t_Choice_rebuilt rfl (b_rt (s_ret (e_new (l_cons (ix rfl atI0) (l_cons (ix rfl atI1) (l_one (ix rfl atI2)))) new_choice)))
  | aga x b => obtain ⟨a, rfl⟩ := List.length_eq_one_iff.mp (show ps.length = 1 from hp); exact go (v := .aga x a) t_Again_rebuilt rfl (b_rt (s_ret (e_new (l_cons rfl (l_one (ix rfl atI0))) (new_again ok.1))))
end
end LW
end Part_M6

section Part_M7
set_option Elab.async false
set_option linter.all false
set_option maxRecDepth 100000
set_option maxHeartbeats 4000000
/-! M7: places, in plain Lean. -/
namespace LW
open U
open PySem (Operator CmpOp)
def stV (q : List Nat) : List MV := q.map fun k => .int (k : Nat)
def plV (q : List Nat) : MV := .tup (stV q)
def Tm.places : Tm → List (List Nat)
  | .mk _ b => [] :: b.places.map (0 :: ·)
  | .aga _ b => [] :: b.places.map (0 :: ·)
  | .giv a b => [] :: (a.places.map (0 :: ·) ++ b.places.map (1 :: ·))
  | .sm _ a b => [] :: (a.places.map (0 :: ·) ++ b.places.map (1 :: ·))
  | .cho a b c => [] :: (a.places.map (0 :: ·) ++ (b.places.map (1 :: ·) ++ c.places.map (2 :: ·)))
  | _ => [[]]
def under : Nat → List Tm → List (List Nat)
  | _, [] => []
  | k, p :: ps => p.places.map (k :: ·) ++ under (k + 1) ps
theorem places_eq (t : Tm) : t.places = [] :: under 0 t.parts := by cases t <;> simp [Tm.places, under, Tm.parts]
theorem deep_part {t p : Tm} (h : p ∈ t.parts) : p.deep < t.deep := by
  cases t <;> simp [Tm.parts] at h <;> simp only [Tm.deep] <;> (try (rcases h with rfl | rfl | rfl)) <;> (try (rcases h with rfl | rfl)) <;> (try subst h) <;> omega
theorem Tm.ind {P : Tm → Prop} (h : ∀ t : Tm, (∀ p ∈ t.parts, P p) → P t) (t : Tm) : P t := by
  have go : ∀ (n : Nat) (t : Tm), t.deep < n → P t := fun n => by
    induction n with
    | zero => intro t h; omega
    | succ n ih => exact fun t ht => h t fun p hp => ih p (by have := deep_part hp; omega)
  exact go _ t (Nat.lt_succ_self _)
theorem under_len {p : Tm} : ∀ {ps : List Tm} {k : Nat}, p ∈ ps → p.places.length ≤ (under k ps).length
  | q :: ps, k, h => by
    show _ ≤ (q.places.map (k :: ·) ++ under (k + 1) ps).length
    rw [List.length_append, List.length_map]
    rcases List.mem_cons.mp h with rfl | h
    · omega
    · have := under_len (k := k + 1) h
      omega
theorem part_few {t p : Tm} (h : p ∈ t.parts) : p.places.length ≤ t.places.length := by
  rw [places_eq t, List.length_cons]
  have := under_len (k := 0) h
  omega
theorem under_mem {q : List Nat} : ∀ {ps : List Tm} {k : Nat}, q ∈ under k ps → ∃ j p s, q = (k + j) :: s ∧ ps[j]? = some p ∧ s ∈ p.places
  | p :: ps, k, h => by
    rcases List.mem_append.mp (show q ∈ p.places.map (k :: ·) ++ under (k + 1) ps from h) with h | h
    · obtain ⟨s, hs, rfl⟩ := List.mem_map.mp h
      exact ⟨0, p, s, rfl, rfl, hs⟩
    · obtain ⟨j, p', s, rfl, h2, h3⟩ := under_mem h
      exact ⟨j + 1, p', s, by rw [Nat.add_right_comm, Nat.add_assoc], h2, h3⟩
theorem place_len : ∀ (t : Tm) {q : List Nat}, q ∈ t.places → q.length ≤ t.deep := fun t => by
  induction t using Tm.ind with
  | h t ih =>
    intro q h
    rw [places_eq t] at h
    rcases List.mem_cons.mp h with rfl | h
    · exact Nat.zero_le _
    · obtain ⟨j, p, s, rfl, h2, h3⟩ := under_mem h
      have hp := List.mem_of_getElem? h2
      have := ih p hp h3
      have := deep_part hp
      rw [List.length_cons]
      omega
theorem few (t : Tm) : t.parts.length ≤ 3 := by cases t <;> simp [Tm.parts]
theorem place_lt : ∀ (t : Tm) {q : List Nat}, q ∈ t.places → ∀ k ∈ q, k < 3 := fun t => by
  induction t using Tm.ind with
  | h t ih =>
    intro q h
    rw [places_eq t] at h
    rcases List.mem_cons.mp h with rfl | h
    · intro k hk; cases hk
    · obtain ⟨j, p, s, rfl, h2, h3⟩ := under_mem h
      intro k hk
      rcases List.mem_cons.mp hk with rfl | hk
      · have := (List.getElem?_eq_some_iff.mp h2).1
        have := few t
        omega
      · exact ih p (List.mem_of_getElem? h2) h3 k hk
structure Sm (t : Tm) : Prop where
  many : t.places.length ≤ 20000
  deep : t.deep ≤ 200
theorem Sm.part {t p : Tm} (h : Sm t) (hp : p ∈ t.parts) : Sm p := ⟨Nat.le_trans (part_few hp) h.many, by have := deep_part hp; have := h.deep; omega⟩
section
variable {W : Nat}
theorem get_at1 {a b : MO} {m e : Mem} : (m ++ a :: b :: e)[m.length + 1]? = some b := by
  rw [List.getElem?_append_right (Nat.le_add_right _ _), Nat.add_sub_cancel_left]
  rfl
theorem len_at {a : MO} {m : Mem} : (m ++ [a]).length = m.length + 1 := by simp
theorem lows_stV {k : Nat} : ∀ q : List Nat, MV.lows k (stV q) = true
  | [] => rfl
  | _ :: q => lows_stV q
theorem lows_plV {k : Nat} : ∀ qs : List (List Nat), MV.lows k (qs.map plV) = true
  | [] => rfl
  | q :: qs => by
    show (MV.lows k (stV q) && MV.lows k (qs.map plV)) = true
    rw [lows_stV, lows_plV qs]
    rfl
/-- a step ahead of a place -/
def ahead (k : Nat) : MV → MV
  | .tup q => .tup (.int (k : Nat) :: q)
  | v => v
theorem ahead_map (k : Nat) (qs : List (List Nat)) : (qs.map plV).map (ahead k) = (qs.map (k :: ·)).map plV := by
  rw [List.map_map, List.map_map]
  rfl
theorem e_bm {T : Tab} {cl : CallF} {r : Env} {m m1 m2 m3 : Mem} {o : CE} {b : BM} {es : List CE} {x z : MV} {vs : List MV} (ho : evE T cl o r m = .ok x m1) (hr : recv m1 b x = true) (hl : evL T cl es r m1 = .ok vs m2) (h : method b x vs m2 = some (z, m3)) : evE T cl (.bm o b es) r m = .ok z m3 := by
  rw [evE, ho, bind_ok]
  unfold onRecv
  rw [if_pos hr, hl, bind_ok, h]
  rfl
theorem i_enum {T : Tab} {cl : CallF} {r : Env} {m m1 : Mem} {e : CE} {n : Nat} {xs : List MV} (he : evE T cl e r m = .ok (.ref n) m1) (h : m1[n]? = some (.lst xs)) : evI T cl (.enum e) r m = .ok ⟨enumI xs, some (n, true)⟩ m1 := by
  rw [evI, he, bind_ok]
  show liftW (match m1[n]? with | some (.lst xs) => some (Walked.mk (enumI xs) (some (n, true))) | some (.frz xs) => some (Walked.mk (enumI xs) (some (n, true))) | _ => none) m1 = _
  rw [h]
  rfl
theorem still_at {n : Nat} {b : Bool} {xs : List MV} {m : Mem} (h : m[n]? = some (.lst xs)) : Walked.still ⟨shapeI b xs, some (n, b)⟩ m = true := by
  unfold Walked.still
  dsimp only
  rw [h]
  exact (MV.eqbs_iff _ _).mpr rfl
theorem walk_ref {n : Nat} {xs : List MV} {m : Mem} (h : m[n]? = some (.lst xs)) : walkOf (.ref n) m = some ⟨xs, some (n, false)⟩ := by
  show (match m[n]? with | some (.lst xs) => some (Walked.mk xs (some (n, false))) | some (.frz xs) => some (Walked.mk xs (some (n, false))) | _ => none) = _
  rw [h]
end
end LW
end Part_M7

section Part_M8
set_option Elab.async false
set_option linter.all false
set_option maxRecDepth 100000
set_option maxHeartbeats 4000000
/-! M8: the law's own walk of places; parts at places. -/
namespace LW
open U
open PySem (Operator CmpOp)
/-- a def that tells one new list of plain things, wherever it stands -/
theorem out_ref {xs : List MV} {m e : Mem} {j : Nat} (hj : m.length ≤ j) (h : (m ++ e)[j]? = some (.lst xs)) (l : MV.lows m.length xs = true) : (RS.rt (.ref j) (m ++ e)).out m = .ok (.ref m.length) (m ++ [.lst xs]) := by
  show gcV m (.ref j) (m ++ e) = _
  unfold gcV
  rw [if_pos (okOld_app m _), if_neg (by simp [MV.low]; omega)]
  dsimp only
  rw [h]
  dsimp only
  rw [if_pos (show MO.low m.length (.lst xs) = true from l), List.take_left]
theorem lows_tells {k : Nat} : ∀ ts : List Tm, MV.lows k (ts.map Tm.tell) = true
  | [] => rfl
  | t :: ts => by
    show (MV.low k t.tell && MV.lows k (ts.map Tm.tell)) = true
    rw [low_tell t, lows_tells ts]
    rfl
theorem in_new {x : MV} {ys : List MV} {m : Mem} {b : Bool} (h : inSeq x ys = some b) : cmpop .In x (.ref m.length) (m ++ [.lst ys]) = some (.bl b, m ++ [.lst ys]) := by
  show okb (match (m ++ [MO.lst ys])[m.length]? with | some (.lst ys) => inSeq x ys | some (.frz ys) => inSeq x ys | _ => none) _ = _
  rw [getE_new]
  dsimp only
  rw [h]
  rfl
theorem e_ife_t {T : Tab} {cl : CallF} {r : Env} {m m1 : Mem} {c a b : CE} {x : MV} (hc : evE T cl c r m = .ok x m1) (h : truth m1 x = some true) : evE T cl (.ife c a b) r m = evE T cl a r m1 := by
  rw [evE, hc, bind_ok]; unfold onTru; rw [h]; rfl
theorem e_ife_f {T : Tab} {cl : CallF} {r : Env} {m m1 : Mem} {c a b : CE} {x : MV} (hc : evE T cl c r m = .ok x m1) (h : truth m1 x = some false) : evE T cl (.ife c a b) r m = evE T cl b r m1 := by
  rw [evE, hc, bind_ok]; unfold onTru; rw [h]; rfl
theorem e_slc_lo {T : Tab} {cl : CallF} {r : Env} {m m1 m2 m3 : Mem} {o a : CE} {x z : MV} {i : Int} (ho : evE T cl o r m = .ok x m1) (ha : evE T cl a r m1 = .ok (.int i) m2) (h : slice x (some i) none m2 = some (z, m3)) : evE T cl (.slc o [a] []) r m = .ok z m3 := by
  rw [evE, ho, bind_ok, l_one ha, bind_ok]
  dsimp only [onPart]
  rw [l_nil, bind_ok]
  show lift (slice x (some i) none m2) = _
  rw [h]
  rfl
theorem e_slc_hi {T : Tab} {cl : CallF} {r : Env} {m m1 m2 m3 : Mem} {o a : CE} {x z : MV} {i : Int} (ho : evE T cl o r m = .ok x m1) (ha : evE T cl a r m1 = .ok (.int i) m2) (h : slice x none (some i) m2 = some (z, m3)) : evE T cl (.slc o [] [a]) r m = .ok z m3 := by
  rw [evE, ho, bind_ok, l_nil, bind_ok]
  dsimp only [onPart]
  rw [l_one ha, bind_ok]
  show lift (slice x none (some i) m2) = _
  rw [h]
  rfl
theorem cut_from {α : Type} {xs : List α} {k : Nat} : cut xs (some (k : Int)) none = xs.drop k := by
  unfold cut
  rw [HT.sIx_nat, HT.sIx_none]
  by_cases h : k ≤ xs.length
  · rw [Nat.min_eq_left h, List.take_of_length_le (by rw [List.length_drop]; omega)]
  · rw [Nat.min_eq_right (by omega), Nat.sub_self, List.take_zero, List.drop_eq_nil_of_le (by omega)]
theorem cut_to {α : Type} {xs : List α} {k : Nat} : cut xs none (some (k : Int)) = xs.take k := by
  unfold cut
  rw [HT.sIx_nat, HT.sIx_none]
  show List.take (min k xs.length - 0) xs = _
  by_cases h : k ≤ xs.length
  · rw [Nat.min_eq_left h]; rfl
  · rw [Nat.min_eq_right (by omega), List.take_of_length_le (by omega), List.take_of_length_le (by omega)]
/-- what is told ahead of the parts -/
def Tm.head : Tm → List MV
  | .opn => [.str sOpen] | .name x => [.str sName, .str x] | .num i => [.str sNumber, .int i] | .mk x _ => [.str sMaker, .str x] | .giv _ _ => [.str sGive] | .sm s _ _ => [.str sSum, .str s] | .cho _ _ _ => [.str sChoice] | .aga x _ => [.str sAgain, .str x]
theorem tell_eq (t : Tm) : t.tell = .tup (t.head ++ t.parts.map Tm.tell) := by cases t <;> rfl
section
variable {W n : Nat} {m : Mem}
end
end LW
end Part_M8

section Part_M9
set_option Elab.async false
set_option linter.all false
set_option maxRecDepth 100000
set_option maxHeartbeats 4000000
/-! M9: the part at a place, another part there. -/
namespace LW
open U
open PySem (Operator CmpOp)
def Tm.sub : Tm → List Nat → Option Tm
  | t, [] => some t
  | t, k :: q => match t.parts[k]? with
    | some p => p.sub q
    | none => none
def Tm.wit : Tm → List Nat → Tm → Tm
  | _, [], w => w
  | t, k :: q, w => match t.parts[k]? with
    | some p => t.re (t.parts.set k (p.wit q w))
    | none => t
theorem sub_cons {t u : Tm} {k : Nat} {q : List Nat} (h : t.sub (k :: q) = some u) : ∃ p, t.parts[k]? = some p ∧ p.sub q = some u := by
  unfold Tm.sub at h
  split at h
  · rename_i p hp
    exact ⟨p, hp, h⟩
  · exact nomatch h
theorem sub_step {t p : Tm} {k : Nat} {q : List Nat} (h : t.parts[k]? = some p) : t.sub (k :: q) = p.sub q := by
  conv => lhs; unfold Tm.sub
  rw [h]
theorem wit_step {t p w : Tm} {k : Nat} {q : List Nat} (h : t.parts[k]? = some p) : t.wit (k :: q) w = t.re (t.parts.set k (p.wit q w)) := by
  conv => lhs; unfold Tm.wit
  rw [h]
theorem place_sub : ∀ (t : Tm) {q : List Nat}, q ∈ t.places → ∃ u, t.sub q = some u := fun t => by
  induction t using Tm.ind with
  | h t ih =>
    intro q h
    rw [places_eq t] at h
    rcases List.mem_cons.mp h with rfl | h
    · exact ⟨t, rfl⟩
    · obtain ⟨j, p, s, rfl, h2, h3⟩ := under_mem h
      rw [Nat.zero_add, sub_step h2]
      exact ih p (List.mem_of_getElem? h2) h3
theorem ok_part {t p : Tm} (ok : t.Ok) (h : p ∈ t.parts) : p.Ok := by
  cases t <;> simp [Tm.parts] at h
  · subst h; exact ok.2
  · rcases h with rfl | rfl
    · exact ok.1
    · exact ok.2
  · rcases h with rfl | rfl
    · exact ok.2.1
    · exact ok.2.2
  · rcases h with rfl | rfl | rfl
    · exact ok.1
    · exact ok.2.1
    · exact ok.2.2
  · subst h; exact ok.2
theorem ixN_lt {n k : Nat} (h : k < n) : L2.ixN n (k : Int) = some k := by
  unfold L2.ixN
  rw [if_pos (by omega), if_pos (by omega)]
  simp
section
variable {W : Nat}
theorem len_pl {q : List Nat} {m : Mem} : builtin .len [plV q] m = some (.int (q.length : Nat), m) := by
  show some (MV.int ((stV q).length : Nat), m) = _
  rw [show (stV q).length = q.length from List.length_map ..]
theorem sub0 {x : MV} {xs : List MV} {m : Mem} : subscr (.tup (x :: xs)) (.int 0) m = some (x, m) := by
  show (match L2.atI (x :: xs) 0 with | some y => some (y, m) | none => none) = _
  rw [atI0]
theorem tail1 {k : Nat} {q : List Nat} {m : Mem} : slice (plV (k :: q)) (some 1) none m = some (plV q, m) := by
  show some (MV.tup (cut (stV (k :: q)) (some ((1 : Nat) : Int)) none), m) = _
  rw [cut_from]
  rfl
end
end LW
end Part_M9

section Part_M10
set_option Elab.async false
set_option linter.all false
set_option maxRecDepth 100000
set_option maxHeartbeats 4000000
/-! M10: the law's exchange at a place; how great all this gets. -/
namespace LW
open U
open PySem (Operator CmpOp PyData)
theorem re_tell (t : Tm) {ps : List Tm} (hp : ps.length = t.parts.length) : (t.re ps).tell = .tup (t.head ++ ps.map Tm.tell) := by
  cases t with
  | opn => obtain rfl := List.length_eq_zero_iff.mp hp; rfl
  | name x => obtain rfl := List.length_eq_zero_iff.mp hp; rfl
  | num i => obtain rfl := List.length_eq_zero_iff.mp hp; rfl
  | mk x b => obtain ⟨a, rfl⟩ := List.length_eq_one_iff.mp (show ps.length = 1 from hp); rfl
  | giv a b => obtain ⟨c, d, rfl⟩ := len_two (show ps.length = 2 from hp); rfl
  | sm s a b => obtain ⟨c, d, rfl⟩ := len_two (show ps.length = 2 from hp); rfl
  | cho a b c => obtain ⟨d, e, f, rfl⟩ := len_three (show ps.length = 3 from hp); rfl
  | aga x b => obtain ⟨a, rfl⟩ := List.length_eq_one_iff.mp (show ps.length = 1 from hp); rfl
theorem re_parts (t : Tm) {ps : List Tm} (hp : ps.length = t.parts.length) : (t.re ps).parts = ps := by
  cases t with
  | opn => obtain rfl := List.length_eq_zero_iff.mp hp; rfl
  | name x => obtain rfl := List.length_eq_zero_iff.mp hp; rfl
  | num i => obtain rfl := List.length_eq_zero_iff.mp hp; rfl
  | mk x b => obtain ⟨a, rfl⟩ := List.length_eq_one_iff.mp (show ps.length = 1 from hp); rfl
  | giv a b => obtain ⟨c, d, rfl⟩ := len_two (show ps.length = 2 from hp); rfl
  | sm s a b => obtain ⟨c, d, rfl⟩ := len_two (show ps.length = 2 from hp); rfl
  | cho a b c => obtain ⟨d, e, f, rfl⟩ := len_three (show ps.length = 3 from hp); rfl
  | aga x b => obtain ⟨a, rfl⟩ := List.length_eq_one_iff.mp (show ps.length = 1 from hp); rfl
theorem re_ok (t : Tm) (ok : t.Ok) {ps : List Tm} (hp : ps.length = t.parts.length) (h : ∀ p ∈ ps, p.Ok) : (t.re ps).Ok := by
  cases t with
  | opn => obtain rfl := List.length_eq_zero_iff.mp hp; exact ok
  | name x => obtain rfl := List.length_eq_zero_iff.mp hp; exact ok
  | num i => obtain rfl := List.length_eq_zero_iff.mp hp; exact ok
  | mk x b => obtain ⟨a, rfl⟩ := List.length_eq_one_iff.mp (show ps.length = 1 from hp); exact ⟨ok.1, h a (by simp)⟩
  | giv a b => obtain ⟨c, d, rfl⟩ := len_two (show ps.length = 2 from hp); exact ⟨h c (by simp), h d (by simp)⟩
  | sm s a b => obtain ⟨c, d, rfl⟩ := len_two (show ps.length = 2 from hp); exact ⟨ok.1, h c (by simp), h d (by simp)⟩
  | cho a b c => obtain ⟨d, e, f, rfl⟩ := len_three (show ps.length = 3 from hp); exact ⟨h d (by simp), h e (by simp), h f (by simp)⟩
  | aga x b => obtain ⟨a, rfl⟩ := List.length_eq_one_iff.mp (show ps.length = 1 from hp); exact ⟨ok.1, h a (by simp)⟩
theorem wit_ok : ∀ (q : List Nat) (t : Tm) {w : Tm}, t.Ok → w.Ok → (t.wit q w).Ok
  | [], t, w, _, h => h
  | k :: q, t, w, ok, h => by
    unfold Tm.wit
    split
    · rename_i p hp
      have hm := List.mem_of_getElem? hp
      refine re_ok t ok (by rw [List.length_set]) fun s hs => ?_
      rcases List.mem_or_eq_of_mem_set hs with hs | rfl
      · exact ok_part ok hs
      · exact wit_ok q p (ok_part ok hm) h
    · exact ok
theorem deep_of {t : Tm} {B : Nat} (h : ∀ p ∈ t.parts, p.deep < B) : t.deep ≤ B := by
  cases t <;> simp [Tm.parts] at h <;> simp only [Tm.deep] <;> omega
theorem wit_deep : ∀ (q : List Nat) (t : Tm) {w : Tm}, (t.wit q w).deep ≤ t.deep + w.deep
  | [], t, w => Nat.le_add_left _ _
  | k :: q, t, w => by
    unfold Tm.wit
    split
    · rename_i p hp
      have hm := List.mem_of_getElem? hp
      refine deep_of fun s hs => ?_
      rw [re_parts t (by rw [List.length_set])] at hs
      rcases List.mem_or_eq_of_mem_set hs with hs | rfl
      · have := deep_part hs
        omega
      · have := deep_part hm
        have := wit_deep q p (w := w)
        omega
    · exact Nat.le_add_right _ _
theorem under_set {p p' : Tm} : ∀ {ps : List Tm} {j k : Nat}, ps[k]? = some p → (under j (ps.set k p')).length + p.places.length = (under j ps).length + p'.places.length
  | a :: ps, j, 0, h => by
    cases (show some a = some p from h)
    show (p'.places.map (j :: ·) ++ under (j + 1) ps).length + _ = (p.places.map (j :: ·) ++ under (j + 1) ps).length + _
    rw [List.length_append, List.length_append, List.length_map, List.length_map]
    omega
  | a :: ps, j, k + 1, h => by
    have ih := under_set (j := j + 1) (p' := p') (show ps[k]? = some p from h)
    show (a.places.map (j :: ·) ++ under (j + 1) (ps.set k p')).length + _ = (a.places.map (j :: ·) ++ under (j + 1) ps).length + _
    rw [List.length_append, List.length_append, List.length_map]
    omega
theorem wit_many : ∀ (q : List Nat) (t : Tm) {w : Tm}, (t.wit q w).places.length ≤ t.places.length + w.places.length
  | [], t, w => Nat.le_add_left _ _
  | k :: q, t, w => by
    unfold Tm.wit
    split
    · rename_i p hp
      have ih := wit_many q p (w := w)
      have e := under_set (j := 0) (p' := p.wit q w) hp
      rw [places_eq, re_parts t (by rw [List.length_set]), places_eq t, List.length_cons, List.length_cons]
      omega
    · exact Nat.le_add_right _ _
theorem pos_places (t : Tm) : 1 ≤ t.places.length := by rw [places_eq]; simp
theorem name_wide {x : Txt} (h : NameOk x) : 10 * x.length ≤ 80 := by have := h.hi; omega
theorem name_fine {x : Txt} (h : NameOk x) : (x.all fun c => decide (c < 16 ^ 8)) = true := List.all_eq_true.mpr fun c hc => decide_eq_true (by have := h.let_ c hc; omega)
theorem sign_wide {s : Txt} (h : SignOk s) : s.length = 1 := by rcases h with rfl | rfl | rfl <;> rfl
theorem tell_wide : ∀ (t : Tm), t.Ok → t.tell.wide ≤ 600 * t.places.length
  | .opn, _ => by show 10 * 4 + 2 + 2 + 0 + 3 ≤ 600 * 1; omega
  | .name x, ok => by
    have := name_wide ok
    show 10 * 4 + 2 + 2 + (10 * x.length + 2 + 2 + 0) + 3 ≤ 600 * 1
    omega
  | .num i, ok => by show 10 * 6 + 2 + 2 + (401 + 2 + 0) + 3 ≤ 600 * 1; omega
  | .mk x b, ok => by
    have := name_wide ok.1
    have ih := tell_wide b ok.2
    show 10 * 5 + 2 + 2 + (10 * x.length + 2 + 2 + (b.tell.wide + 2 + 0)) + 3 ≤ 600 * (Tm.mk x b).places.length
    rw [places_eq]
    simp [Tm.parts, under]
    omega
  | .giv a b, ok => by
    have ih1 := tell_wide a ok.1
    have ih2 := tell_wide b ok.2
    show 10 * 4 + 2 + 2 + (a.tell.wide + 2 + (b.tell.wide + 2 + 0)) + 3 ≤ 600 * (Tm.giv a b).places.length
    rw [places_eq]
    simp [Tm.parts, under]
    omega
  | .sm s a b, ok => by
    have := sign_wide ok.1
    have ih1 := tell_wide a ok.2.1
    have ih2 := tell_wide b ok.2.2
    show 10 * 3 + 2 + 2 + (10 * s.length + 2 + 2 + (a.tell.wide + 2 + (b.tell.wide + 2 + 0))) + 3 ≤ 600 * (Tm.sm s a b).places.length
    rw [places_eq]
    simp [Tm.parts, under]
    omega
  | .cho a b c, ok => by
    have ih1 := tell_wide a ok.1
    have ih2 := tell_wide b ok.2.1
    have ih3 := tell_wide c ok.2.2
    show 10 * 6 + 2 + 2 + (a.tell.wide + 2 + (b.tell.wide + 2 + (c.tell.wide + 2 + 0))) + 3 ≤ 600 * (Tm.cho a b c).places.length
    rw [places_eq]
    simp [Tm.parts, under]
    omega
  | .aga x b, ok => by
    have := name_wide ok.1
    have ih := tell_wide b ok.2
    show 10 * 5 + 2 + 2 + (10 * x.length + 2 + 2 + (b.tell.wide + 2 + 0)) + 3 ≤ 600 * (Tm.aga x b).places.length
    rw [places_eq]
    simp [Tm.parts, under]
    omega
theorem fine2 {a b : MV} {l : List MV} (h1 : a.fine = true) (h2 : MV.fines l = true) : MV.fines (a :: l) = true := by
  show (a.fine && MV.fines l) = true
  rw [h1, h2]
  rfl
theorem fine_tup {l : List MV} (h : MV.fines l = true) : (MV.tup l).fine = true := h
theorem fines_cons {a : MV} {l : List MV} (h1 : a.fine = true) (h2 : MV.fines l = true) : MV.fines (a :: l) = true := by
  show (a.fine && MV.fines l) = true
  rw [h1, h2]
  rfl
theorem tell_fine : ∀ (t : Tm), t.Ok → t.tell.fine = true
  | .opn, _ => by decide
  | .name x, ok => fine_tup (fines_cons (by decide) (fines_cons (name_fine ok) rfl))
  | .num i, ok => fine_tup (fines_cons (by decide) (fines_cons (show decide _ = true from decide_eq_true ok) rfl))
  | .mk x b, ok => fine_tup (fines_cons (by decide) (fines_cons (name_fine ok.1) (fines_cons (tell_fine b ok.2) rfl)))
  | .giv a b, ok => fine_tup (fines_cons (by decide) (fines_cons (tell_fine a ok.1) (fines_cons (tell_fine b ok.2) rfl)))
  | .sm s a b, ok => fine_tup (fines_cons (by decide) (fines_cons (by rcases ok.1 with rfl | rfl | rfl <;> decide) (fines_cons (tell_fine a ok.2.1) (fines_cons (tell_fine b ok.2.2) rfl))))
  | .cho a b c, ok => fine_tup (fines_cons (by decide) (fines_cons (tell_fine a ok.1) (fines_cons (tell_fine b ok.2.1) (fines_cons (tell_fine c ok.2.2) rfl))))
  | .aga x b, ok => fine_tup (fines_cons (by decide) (fines_cons (name_fine ok.1) (fines_cons (tell_fine b ok.2) rfl)))
theorem tell_dep : ∀ (t : Tm), t.tell.dep ≤ t.deep + 1
  | .opn => by decide
  | .name x => by show max 0 (max 0 0) + 1 ≤ 0 + 1; decide
  | .num i => by show max 0 (max 0 0) + 1 ≤ 0 + 1; decide
  | .mk x b => by have := tell_dep b; show max 0 (max 0 (max b.tell.dep 0)) + 1 ≤ b.deep + 1 + 1; omega
  | .giv a b => by have := tell_dep a; have := tell_dep b; show max 0 (max a.tell.dep (max b.tell.dep 0)) + 1 ≤ max a.deep b.deep + 1 + 1; omega
  | .sm s a b => by have := tell_dep a; have := tell_dep b; show max 0 (max 0 (max a.tell.dep (max b.tell.dep 0))) + 1 ≤ max a.deep b.deep + 1 + 1; omega
  | .cho a b c => by have := tell_dep a; have := tell_dep b; have := tell_dep c; show max 0 (max a.tell.dep (max b.tell.dep (max c.tell.dep 0))) + 1 ≤ max a.deep (max b.deep c.deep) + 1 + 1; omega
  | .aga x b => by have := tell_dep b; show max 0 (max 0 (max b.tell.dep 0)) + 1 ≤ b.deep + 1 + 1; omega
theorem stV_fine : ∀ {q : List Nat}, (∀ k ∈ q, k < 3) → MV.fines (stV q) = true
  | [], _ => rfl
  | k :: q, h => fines_cons (show decide _ = true from decide_eq_true (by
      have h1 := h k (List.mem_cons_self ..)
      have : k = 0 ∨ k = 1 ∨ k = 2 := by omega
      rcases this with rfl | rfl | rfl <;> decide)) (stV_fine fun j hj => h j (List.mem_cons_of_mem _ hj))
theorem plVs_fine {qs : List (List Nat)} (h : ∀ q ∈ qs, ∀ k ∈ q, k < 3) : MV.fines (qs.map plV) = true := by
  induction qs with
  | nil => rfl
  | cons q qs ih => exact fines_cons (stV_fine (h q (List.mem_cons_self ..))) (ih fun s hs => h s (List.mem_cons_of_mem _ hs))
theorem stV_dep : ∀ q : List Nat, MV.deps (stV q) = 0
  | [] => rfl
  | _ :: q => by show max 0 (MV.deps (stV q)) = 0; rw [stV_dep q]; rfl
theorem plVs_dep : ∀ qs : List (List Nat), MV.deps (qs.map plV) ≤ 1
  | [] => Nat.zero_le _
  | q :: qs => by
    show max (MV.deps (stV q) + 1) (MV.deps (qs.map plV)) ≤ 1
    rw [stV_dep]
    have := plVs_dep qs
    omega
theorem stV_wide : ∀ q : List Nat, MV.wides (stV q) = 403 * q.length
  | [] => rfl
  | _ :: q => by show 401 + 2 + MV.wides (stV q) = _; rw [stV_wide q, List.length_cons]; omega
theorem plVs_wide {B : Nat} : ∀ {qs : List (List Nat)}, (∀ q ∈ qs, q.length ≤ B) → MV.wides (qs.map plV) ≤ (403 * B + 5) * qs.length
  | [], _ => Nat.zero_le _
  | q :: qs, h => by
    have ih := plVs_wide fun s hs => h s (List.mem_cons_of_mem _ hs)
    have h1 := h q (List.mem_cons_self ..)
    show MV.wides (stV q) + 3 + 2 + MV.wides (qs.map plV) ≤ _
    rw [stV_wide, List.length_cons, Nat.mul_succ]
    have : 403 * q.length ≤ 403 * B := Nat.mul_le_mul_left _ h1
    omega
/-- what the law draws -/
structure Fit (t : Tm) : Prop where
  ok : t.Ok
  many : t.places.length ≤ 400
  deep : t.deep ≤ 61
theorem Fit.sm {t : Tm} (h : Fit t) : Sm t := ⟨by have := h.many; omega, by have := h.deep; omega⟩
theorem repr_tell {t : Tm} {m : Mem} (ok : t.Ok) (h1 : t.places.length ≤ 20000) (h2 : t.deep ≤ 200) : builtin .repr [t.tell] m = some (.str t.tell.rp, m) :=
  repr_v (tell_fine t ok) (by have := tell_dep t; omega) (by have := tell_wide t ok; unfold line; omega)
theorem repr_places {t : Tm} {m : Mem} {n : Nat} (h : Fit t) (hm : m[n]? = some (.lst (t.places.map plV))) : builtin .repr [.ref n] m = some (.str (rpL (t.places.map plV)), m) :=
  repr_l hm (plVs_fine fun q hq => place_lt t hq) (by have := plVs_dep t.places; omega) (by
    have a := plVs_wide (B := 61) (qs := t.places) fun q hq => Nat.le_trans (place_len t hq) h.deep
    have b := h.many
    have c : (403 * 61 + 5) * t.places.length ≤ (403 * 61 + 5) * 400 := Nat.mul_le_mul_left _ b
    unfold line
    omega)
theorem data_stV {m : Mem} {k : Nat} : ∀ q : List Nat, (stV q).mapM (MV.data m (k + 1)) = some (q.map fun j => PyData.int (j : Nat))
  | [] => rfl
  | j :: q => by
    show ((MV.int (j : Nat)) :: stV q).mapM (MV.data m (k + 1)) = _
    rw [List.mapM_cons, data_stV q]
    rfl
theorem lay_ints : ∀ q : List Nat, PyData.canLayAll0 (q.map fun j => PyData.int (j : Nat)) = true
  | [] => by simp [PyData.canLayAll0]
  | j :: q => by simp [PyData.canLayAll0, PyData.canLay0, lay_ints q]
theorem eq_nil {q : List Nat} {m : Mem} : cmpop .Eq (plV q) (.tup []) m = some (.bl q.isEmpty, m) := by
  show okb (peq m (plV q) (.tup [])) m = _
  have : peq m (plV q) (.tup []) = some q.isEmpty := by
    unfold peq
    rw [if_neg (show ¬ plainEq (plV q) (.tup []) = true from fun h => nomatch (show false = true from h))]
    have e1 : MV.data m dataFuel (plV q) = some (.tuple (q.map fun j => PyData.int (j : Nat))) := by
      show ((stV q).mapM (MV.data m 999)).map PyData.tuple = _
      rw [data_stV q]
      rfl
    have e2 : MV.data m dataFuel (.tup []) = some (.tuple []) := rfl
    rw [e1, e2]
    dsimp only
    rw [if_pos (by simp [PyData.canLay0, lay_ints q, PyData.canLayAll0])]
    cases q <;> simp [PyData.eqv, PyData.eqvAll]
  rw [this]
  rfl
theorem Fit.part {t p : Tm} (h : Fit t) (hp : p ∈ t.parts) : Fit p := ⟨ok_part h.ok hp, Nat.le_trans (part_few hp) h.many, by have := deep_part hp; have := h.deep; omega⟩
theorem Fit.sub : ∀ (q : List Nat) {t u : Tm}, Fit t → t.sub q = some u → Fit u
  | [], t, u, h, e => by cases (show some t = some u from e); exact h
  | k :: q, t, u, h, e => by
    obtain ⟨p, hp, h2⟩ := sub_cons e
    exact Fit.sub q (h.part (List.mem_of_getElem? hp)) h2
theorem at_P {t : Tm} {i : Nat} {q : List Nat} (hq : t.places[i]? = some q) : L2.atI (t.places.map plV) (i : Int) = some (plV q) := L2.atI_nat (by rw [List.getElem?_map, hq]; rfl)
theorem idx_mod {k n : Nat} {m : Mem} (h : 0 < n) : binop .Mod (.int (k : Nat)) (.int (n : Nat)) m = some (.int ((k % n : Nat) : Int), m) := by
  show (if 0 < (n : Int) then some (MV.int ((k : Int) % (n : Int)), m) else none) = _
  rw [if_pos (by omega)]
  rfl
theorem len_ref {L : Nat} {xs : List MV} {m : Mem} (h : m[L]? = some (.lst xs)) : builtin .len [.ref L] m = some (.int (xs.length : Nat), m) := by
  show (match m[L]? with | some (.lst xs) => some (MV.int xs.length, m) | some (.frz xs) => some (MV.int xs.length, m) | _ => none) = _
  rw [h]
section
variable {W : Nat}
theorem told_repr {t : Tm} {k : Nat} {m m1 : Mem} {r : Env} {e : CE} (h : evE dat.T (run dat.T W dat.defs (k + 200)) e r m = .ok t.obj m1) (ok : t.Ok) (h1 : t.places.length ≤ 20000) (h2 : t.deep < 200) : evE dat.T (run dat.T W dat.defs (k + 200)) (.blt .repr [(.meth e m_told [] [])]) r m = .ok (.str t.tell.rp) m1 :=
  e_blt (l_one (e_meth h (cls_obj t) (has_told t) l_nil (told_run t (by omega)))) (repr_tell ok h1 (by omega))
end
end LW
end Part_M10

section Part_UD
set_option Elab.async false
set_option linter.all false
set_option maxRecDepth 100000
set_option maxHeartbeats 4000000
/-! UD: the state that draws are taken from, and what draws leave; no law in sight. -/
namespace U
open PySem (Operator CmpOp)
theorem ixN_ok {n k : Nat} (h : k < n) : L2.ixN n (k : Int) = some k := by
  unfold L2.ixN
  rw [if_pos (by omega), if_pos (by omega)]
  simp
/-- the state that draws are taken from -/
structure St (m : Mem) (s c : Nat) (cs : List Int) (i j : Int) : Prop where
  at_s : m[s]? = some (.lst [.ref c, .int i, .int j])
  at_c : m[c]? = some (.lst (cs.map .int))
  ne : s ≠ c
  some_ : cs ≠ []
  nn : ∀ z ∈ cs, 0 ≤ z
  hi : 0 ≤ i
  hj : 0 ≤ j
  hj2 : j < 2147483647
structure Sd (m : Mem) (s c : Nat) : Prop where
  ex : ∃ cs i j, St m s c cs i j
/-- what a draw leaves -/
structure Left (m m' : Mem) (s c : Nat) : Prop where
  st : Sd m' s c
  len : m'.length = m.length
  old : ∀ k, k ≠ s → k ≠ c → m'[k]? = m[k]?
theorem out_low {v : MV} {m mm : Mem} (h : okOld m.length m mm = true) (l : v.low m.length = true) : (RS.rt v mm).out m = .ok v (mm.take m.length) := by
  show gcV m v mm = _
  unfold gcV
  rw [if_pos h, if_pos l]
theorem mul_of {p q : Int} {mm : Mem} (k : Nat) (hk : 60000 = k) (h1 : p.natAbs < 2 ^ k) (h2 : q.natAbs < 2 ^ k) : binop .Mult (.int p) (.int q) mm = some (.int (p * q), mm) := by
  unfold binop
  rw [hk]
  exact if_pos ⟨h1, h2⟩
theorem mul_ok {p q : Int} {mm : Mem} (h1 : p.natAbs < 2 ^ 200) (h2 : q.natAbs < 2 ^ 200) : binop .Mult (.int p) (.int q) mm = some (.int (p * q), mm) := by
  obtain ⟨k, hk⟩ : ∃ k : Nat, 60000 = k := ⟨_, rfl⟩
  have h31 : 200 ≤ k := by omega
  exact mul_of k hk (Nat.lt_of_lt_of_le h1 (Nat.pow_le_pow_right (by decide) h31)) (Nat.lt_of_lt_of_le h2 (Nat.pow_le_pow_right (by decide) h31))
section
variable {m m' m'' mm : Mem} {s c : Nat}
theorem Left.refl (h : Sd m s c) : Left m m s c := ⟨h, rfl, fun _ _ _ => rfl⟩
theorem Left.trans (a : Left m m' s c) (b : Left m' m'' s c) : Left m m'' s c := ⟨b.st, b.len.trans a.len, fun k h1 h2 => (b.old k h1 h2).trans (a.old k h1 h2)⟩
theorem Sd.ls (h : Sd m s c) : s < m.length ∧ c < m.length := by
  obtain ⟨cs, i, j, h⟩ := h.ex
  exact ⟨(List.getElem?_eq_some_iff.mp h.at_s).1, (List.getElem?_eq_some_iff.mp h.at_c).1⟩
theorem Sd.of {n : Mem} (h : Sd m s c) (h1 : n[s]? = m[s]?) (h2 : n[c]? = m[c]?) : Sd n s c := by
  obtain ⟨cs, i, j, g⟩ := h.ex
  exact ⟨cs, i, j, ⟨by rw [h1]; exact g.at_s, by rw [h2]; exact g.at_c, g.ne, g.some_, g.nn, g.hi, g.hj, g.hj2⟩⟩
theorem Sd.more (h : Sd m s c) (x : List MO) : Sd (m ++ x) s c := h.of (List.getElem?_append_left h.ls.1) (List.getElem?_append_left h.ls.2)
/-- since the memory m only draws were made, and new things -/
structure Lf (m mm : Mem) (s c : Nat) : Prop where
  st : Sd mm s c
  len : m.length ≤ mm.length
  old : ∀ k, k < m.length → k ≠ s → k ≠ c → mm[k]? = m[k]?
theorem Lf.refl (h : Sd m s c) : Lf m m s c := ⟨h, Nat.le_refl _, fun _ _ _ _ => rfl⟩
theorem Lf.draw (a : Lf m mm s c) (b : Left mm m' s c) : Lf m m' s c := ⟨b.st, by rw [b.len]; exact a.len, fun k h h1 h2 => (b.old k h1 h2).trans (a.old k h h1 h2)⟩
theorem Lf.push (a : Lf m mm s c) (x : List MO) : Lf m (mm ++ x) s c := ⟨a.st.more x, by rw [List.length_append]; exact Nat.le_trans a.len (Nat.le_add_right _ _), fun k h h1 h2 => by
  rw [List.getElem?_append_left (Nat.lt_of_lt_of_le h a.len)]
  exact a.old k h h1 h2⟩
theorem Lf.set (h : Sd m s c) (a : Lf m mm s c) {k : Nat} {o : MO} (hk : m.length ≤ k) : Lf m (mm.set k o) s c := by
  obtain ⟨hs, hc⟩ := h.ls
  exact ⟨a.st.of (List.getElem?_set_ne (by omega)) (List.getElem?_set_ne (by omega)), by rw [List.length_set]; exact a.len, fun j hj h1 h2 => by
    rw [List.getElem?_set_ne (by omega)]
    exact a.old j hj h1 h2⟩
theorem Lf.okOld (h : Sd m s c) (a : Lf m mm s c) : okOld m.length m mm = true := okOld_of a.len fun k o hk e => by
  obtain ⟨cs, i, j, g⟩ := a.st.ex
  have hc := h.ls.2
  by_cases h1 : k = s
  · subst h1
    rw [g.at_s] at e
    cases e
    refine .inr ?_
    simp [MO.low, MV.lows, MV.low, hc]
  · by_cases h2 : k = c
    · subst h2
      rw [g.at_c] at e
      cases e
      exact .inr (lows_ints _)
    · rw [a.old k hk h1 h2] at e
      exact .inl e
theorem Lf.back (h : Sd m s c) (a : Lf m mm s c) : Left m (mm.take m.length) s c := by
  obtain ⟨hs, hc⟩ := h.ls
  have hl := a.len
  refine ⟨a.st.of (List.getElem?_take_of_lt hs) (List.getElem?_take_of_lt hc), by rw [List.length_take]; omega, fun k h1 h2 => ?_⟩
  by_cases hk : k < m.length
  · rw [List.getElem?_take_of_lt hk, a.old k hk h1 h2]
  · rw [List.getElem?_eq_none (by rw [List.length_take]; omega), List.getElem?_eq_none (by omega)]
theorem Lf.out (h : Sd m s c) (a : Lf m mm s c) {v : MV} (l : v.low m.length = true) : ∃ m', (RS.rt v mm).out m = .ok v m' ∧ Left m m' s c := ⟨_, out_low (a.okOld h) l, a.back h⟩
theorem Lf.out_ref (h : Sd m s c) (a : Lf m mm s c) {j : Nat} {xs : List MV} (hj : m.length ≤ j) (g : mm[j]? = some (.lst xs)) (l : MV.lows m.length xs = true) : ∃ m', (RS.rt (.ref j) mm).out m = .ok (.ref m.length) (m' ++ [.lst xs]) ∧ Left m m' s c := by
  refine ⟨_, ?_, a.back h⟩
  show gcV m (.ref j) mm = _
  unfold gcV
  rw [if_pos (a.okOld h), if_neg (by simp [MV.low]; omega)]
  dsimp only
  rw [g]
  dsimp only
  rw [if_pos (show MO.low m.length (.lst xs) = true from l)]
theorem Left.push (a : Left m m' s c) (o : MO) : Lf m (m' ++ [o]) s c := ((Lf.refl a.st).push [o] |> fun b => ⟨b.st, by rw [List.length_append, a.len]; exact Nat.le_add_right _ _, fun k h h1 h2 => by
  rw [List.getElem?_append_left (by rw [a.len]; exact h)]
  exact a.old k h1 h2⟩)
/-- a comprehension, item by item -/
theorem lc_at {w : Walked} (hw : w.src = none) {n : Nat} {elt : MV → M MV} {I : Nat → List MV → Mem → Prop} : ∀ (l : List MV) (k : Nat) (acc : List MV) (mm : Mem),
    (∀ j x, l[j]? = some x → ∀ acc mm, I (k + j) acc mm → acc.length < line ∧ ∃ v m', elt x mm = .ok v m' ∧ m'[n]? = some (.lst acc) ∧ I (k + j + 1) (acc ++ [v]) (m'.set n (.lst (acc ++ [v])))) → I k acc mm →
    ∃ acc' m', lcGo w n (fun _ m2 => .ok (.bl true) m2) elt l mm = .ok (.ref n) m' ∧ I (k + l.length) acc' m'
  | [], k, acc, mm, _, h => ⟨acc, mm, lc_nil (by unfold Walked.still; rw [hw]), h⟩
  | x :: l, k, acc, mm, st, h => by
    obtain ⟨hl, v, m', e1, e2, h2⟩ := st 0 x rfl acc mm h
    obtain ⟨acc', m3, e3, h3⟩ := lc_at hw l (k + 1) _ _ (fun j y hy acc mm hI => by
      have := st (j + 1) y hy acc mm (by rw [show k + (j + 1) = k + 1 + j by omega]; exact hI)
      rw [show k + 1 + j + 1 = k + (j + 1) + 1 by omega]
      exact this) h2
    refine ⟨acc', m3, ?_, by rw [List.length_cons, show k + (l.length + 1) = k + 1 + l.length by omega]; exact h3⟩
    rw [lc_cons (t := fun _ m2 => .ok (.bl true) m2) (by unfold Walked.still; rw [hw]) rfl e1 e2 hl]
    exact e3
end
end U
end Part_UD

section Part_UW
set_option Elab.async false
set_option linter.all false
set_option maxRecDepth 100000
set_option maxHeartbeats 4000000
/-! UW: the evaluator walked forth: what an evaluation comes to is handed to what is asked of it; no law in sight. -/
namespace U
open PySem (Operator CmpOp)
abbrev QX := Nat → List MV → Mem → Prop
abbrev QE := Nat → List MV → Env → Mem → Prop
@[irreducible] def We {α : Type} (x : R α) (Q : α → Mem → Prop) (X : QX) : Prop := match x with
  | .ok v m => Q v m
  | .ex c fs m => X c fs m
  | .fail => False
@[irreducible] def Op (o : Option (MV × Mem)) (Q : MV → Mem → Prop) : Prop := match o with
  | some p => Q p.1 p.2
  | none => False
@[irreducible] def Tr (m : Mem) (v : MV) (Q : Bool → Prop) : Prop := match truth m v with
  | some b => Q b
  | none => False
@[irreducible] def Br (k : Bool) (p q : Prop) : Prop := (k = true → p) ∧ (k = false → q)
@[irreducible] def IsI (v : MV) (Q : Int → Prop) : Prop := match v with
  | .int i => Q i
  | _ => False
@[irreducible] def Me {α : Type} (o : Option α) (Q : α → Prop) : Prop := match o with
  | some a => Q a
  | none => False
/-- a statement: what comes behind it, a return, what is raised, out of a loop (true) or on with it -/
@[irreducible] def Ws (x : RS) (N : Env → Mem → Prop) (R : MV → Mem → Prop) (X : QE) (L : Bool → Env → Mem → Prop) : Prop := match x with
  | .nx r m => N r m
  | .bk r m => L true r m
  | .ct r m => L false r m
  | .rt v m => R v m
  | .ex c fs r m => X c fs r m
  | .fail => False
def noX : QX := fun _ _ _ => False
def noE : QE := fun _ _ _ _ => False
def noL : Bool → Env → Mem → Prop := fun _ _ _ => False
section
variable {α β : Type} {x : R α} {v : α} {m m1 : Mem} {Q Q' : α → Mem → Prop} {X X' : QX}
theorem We.of (h : x = .ok v m) (q : Q v m) : We x Q X := by rw [h]; with_unfolding_all exact q
theorem we_out {v : α} (h : We (.ok v m) Q X) : Q v m := by with_unfolding_all exact h
theorem We.exn {c : Nat} {fs : List MV} (h : x = .ex c fs m) (q : X c fs m) : We x Q X := by rw [h]; with_unfolding_all exact q
theorem We.bind {Q : β → Mem → Prop} {f : α → M β} (h : We x (fun v m1 => We (f v m1) Q X) X) : We (x.bind f) Q X := by
  cases x with
  | ok v m => with_unfolding_all exact h
  | ex c fs m => with_unfolding_all exact h
  | fail => with_unfolding_all exact h
theorem We.mono (h : We x Q X) (q : ∀ v m, Q v m → Q' v m) (qx : ∀ c fs m, X c fs m → X' c fs m) : We x Q' X' := by
  cases x with
  | ok v m => with_unfolding_all exact q _ _ h
  | ex c fs m => with_unfolding_all exact qx _ _ _ h
  | fail => with_unfolding_all exact h
theorem We.get (h : We x Q noX) : ∃ v m, x = .ok v m ∧ Q v m := by
  cases x with
  | ok v m => exact ⟨v, m, rfl, by with_unfolding_all exact h⟩
  | ex c fs m => with_unfolding_all exact False.elim h
  | fail => with_unfolding_all exact False.elim h
theorem We.eq (h : We x (fun u mm => u = v ∧ mm = m) noX) : x = .ok v m := by
  obtain ⟨u, mm, e, rfl, rfl⟩ := h.get
  exact e
theorem We.eqx {c : Nat} {fs : List MV} (h : We x (fun _ _ => False) (fun d gs mm => d = c ∧ gs = fs ∧ mm = m)) : x = .ex c fs m := by
  cases x with
  | ok v m => with_unfolding_all exact False.elim h
  | ex d gs mm => obtain ⟨rfl, rfl, rfl⟩ : d = c ∧ gs = fs ∧ mm = m := by with_unfolding_all exact h
                  rfl
  | fail => with_unfolding_all exact False.elim h
end
section
variable {o : Option (MV × Mem)} {Q : MV → Mem → Prop} {v : MV} {m : Mem} {X : QX} {QB : Bool → Prop} {b : Bool} {p q : Prop}
theorem Op.of (h : o = some (v, m)) (q : Q v m) : Op o Q := by rw [h]; with_unfolding_all exact q
theorem Op.lift (h : Op o Q) : We (lift o) Q X := by
  cases o with
  | none => with_unfolding_all exact h
  | some p => with_unfolding_all exact h
theorem tr_of (h : truth m v = some b) (q : QB b) : Tr m v QB := by unfold Tr; rw [h]; exact q
theorem tr_bl (q : QB b) : Tr m (.bl b) QB := by with_unfolding_all exact q
theorem Tr.onTru {α : Type} {k : Bool → R α} {Q : α → Mem → Prop} (h : Tr m v fun b => We (k b) Q X) : We (onTru m v k) Q X := by
  unfold U.onTru
  unfold Tr at h
  cases e : truth m v with
  | none => rw [e] at h; with_unfolding_all exact False.elim h
  | some b => rw [e] at h; exact h
theorem Br.mk (h : (b = true → p) ∧ (b = false → q)) : Br b p q := by with_unfolding_all exact h
theorem Br.y (h : Br b p q) : b = true → p := by with_unfolding_all exact h.1
theorem Br.n (h : Br b p q) : b = false → q := by with_unfolding_all exact h.2
theorem br_t (h : b = true) (k : p) : Br b p q := .mk ⟨fun _ => k, (fun e => by rw [h] at e; cases e)⟩
theorem br_f (h : b = false) (k : q) : Br b p q := .mk ⟨(fun e => by rw [h] at e; cases e), fun _ => k⟩
theorem br_tt (k : p) : Br true p q := br_t rfl k
theorem br_ff (k : q) : Br false p q := br_f rfl k
theorem br_not (h : Br b q p) : Br (!b) p q := by
  cases b with
  | true => exact br_f rfl (h.y rfl)
  | false => exact br_t rfl (h.n rfl)
theorem br_dec {c : Prop} [Decidable c] (h1 : c → p) (h2 : ¬c → q) : Br (decide c) p q := .mk ⟨fun e => h1 (of_decide_eq_true e), fun e => h2 (of_decide_eq_false e)⟩
theorem br_dt {c : Prop} [Decidable c] (h : c) (k : p) : Br (decide c) p q := br_t (decide_eq_true h) k
theorem br_df {c : Prop} [Decidable c] (h : ¬c) (k : q) : Br (decide c) p q := br_f (decide_eq_false h) k
theorem Br.ite {α : Type} {x y : R α} {Q : α → Mem → Prop} (h : Br b (We x Q X) (We y Q X)) : We (if b = true then x else y) Q X := by
  cases b with
  | true => exact h.y rfl
  | false => exact h.n rfl
theorem isI {i : Int} {Q : Int → Prop} (q : Q i) : IsI (.int i) Q := by with_unfolding_all exact q
theorem IsI.get {v : MV} {P : Int → Prop} (h : IsI v P) : ∃ i, v = .int i ∧ P i := by
  cases v with
  | int i => exact ⟨i, rfl, by with_unfolding_all exact h⟩
  | _ => with_unfolding_all exact False.elim h
theorem me_of {α : Type} {o : Option α} {a : α} {Q : α → Prop} (h : o = some a) (q : Q a) : Me o Q := by rw [h]; with_unfolding_all exact q
end
section
variable {T : Tab} {W : Nat} {cl : CallF} {r : Env} {m : Mem} {a b c e o : CE} {es : List CE} {v : MV} {Q : MV → Mem → Prop} {X : QX}
theorem w_var {i : Nat} (h : r[i]? = some (.val v)) (q : Q v m) : We (evE T cl (.var i) r m) Q X := .of (e_var h) q
theorem w_int {i : Int} (q : Q (.int i) m) : We (evE T cl (.int i) r m) Q X := .of e_int q
theorem w_str {x : Txt} (q : Q (.str x) m) : We (evE T cl (.str x) r m) Q X := .of e_str q
theorem w_bl {x : Bool} (q : Q (.bl x) m) : We (evE T cl (.bl x) r m) Q X := .of e_bl q
theorem w_non (q : Q .non m) : We (evE T cl .non r m) Q X := .of e_non q
theorem w_con {k : Nat} (q : Q (T.con k) m) : We (evE T cl (.con k) r m) Q X := .of (by rw [evE]) q
theorem w_conv {k : Nat} {v : MV} (h : T.con k = v) (q : Q v m) : We (evE T cl (.con k) r m) Q X := by subst h; with_unfolding_all exact w_con q
theorem w_bin {op : Operator} (h : We (evE T cl a r m) (fun x m1 => We (evE T cl b r m1) (fun y m2 => Op (binop op x y m2) Q) X) X) : We (evE T cl (.bin op a b) r m) Q X := by
  rw [evE]; with_unfolding_all exact .bind (h.mono (fun _ _ h => .bind (h.mono (fun _ _ h => h.lift) fun _ _ _ h => h)) fun _ _ _ h => h)
theorem w_cmp {op : CmpOp} (h : We (evE T cl a r m) (fun x m1 => We (evE T cl b r m1) (fun y m2 => Op (cmpop op x y m2) Q) X) X) : We (evE T cl (.cmp op a b) r m) Q X := by
  rw [evE]; with_unfolding_all exact .bind (h.mono (fun _ _ h => .bind (h.mono (fun _ _ h => h.lift) fun _ _ _ h => h)) fun _ _ _ h => h)
theorem w_chain {p q : CmpOp} (h : We (evE T cl a r m) (fun x m1 => We (evE T cl b r m1) (fun y m2 => Op (cmpop p x y m2) fun z m3 => Tr m3 z fun k => Br k (We (evE T cl c r m3) (fun u m4 => Op (cmpop q y u m4) Q) X) (Q (.bl false) m3)) X) X) : We (evE T cl (.chain p q a b c) r m) Q X := by
  rw [evE]
  refine .bind (h.mono (fun _ _ h => .bind (h.mono (fun _ _ h => .bind (h.lift.mono (fun z m3 h => Tr.onTru ?_) fun _ _ _ h => h)) fun _ _ _ h => h)) fun _ _ _ h => h)
  unfold Tr at h ⊢
  cases e : truth m3 z with
  | none => rw [e] at h; with_unfolding_all exact h
  | some k =>
    rw [e] at h
    refine Br.ite (.mk ⟨fun q => .bind ((h.y q).mono (fun _ _ h => h.lift) fun _ _ _ h => h), fun q => We.of rfl (h.n q)⟩)
theorem w_neg (h : We (evE T cl a r m) (fun x m1 => Op (negv x m1) Q) X) : We (evE T cl (.neg a) r m) Q X := by
  rw [evE]; with_unfolding_all exact .bind (h.mono (fun _ _ h => h.lift) fun _ _ _ h => h)
theorem w_not (h : We (evE T cl a r m) (fun x m1 => Tr m1 x fun k => Q (.bl (!k)) m1) X) : We (evE T cl (.not a) r m) Q X := by
  rw [evE]; with_unfolding_all exact .bind (h.mono (fun _ _ h => Tr.onTru h) fun _ _ _ h => h)
theorem tr_br {x : MV} {p q : Bool → Prop} {α : Type} {y z : Bool → R α} {Q : α → Mem → Prop} (h : Tr m x fun k => Br k (We (y k) Q X) (We (z k) Q X)) : We (onTru m x fun k => if k = true then y k else z k) Q X := by
  refine Tr.onTru ?_
  unfold Tr at h ⊢
  cases e : truth m x with
  | none => rw [e] at h; with_unfolding_all exact h
  | some k => rw [e] at h; with_unfolding_all exact Br.ite h
theorem w_and (h : We (evE T cl a r m) (fun x m1 => Tr m1 x fun k => Br k (We (evE T cl b r m1) Q X) (Q x m1)) X) : We (evE T cl (.and a b) r m) Q X := by
  rw [evE]; with_unfolding_all exact .bind (h.mono (fun _ _ h => tr_br (p := fun _ => True) (q := fun _ => True) h) fun _ _ _ h => h)
theorem w_or (h : We (evE T cl a r m) (fun x m1 => Tr m1 x fun k => Br k (Q x m1) (We (evE T cl b r m1) Q X)) X) : We (evE T cl (.or a b) r m) Q X := by
  rw [evE]; with_unfolding_all exact .bind (h.mono (fun _ _ h => tr_br (p := fun _ => True) (q := fun _ => True) h) fun _ _ _ h => h)
theorem w_ife (h : We (evE T cl c r m) (fun x m1 => Tr m1 x fun k => Br k (We (evE T cl a r m1) Q X) (We (evE T cl b r m1) Q X)) X) : We (evE T cl (.ife c a b) r m) Q X := by
  rw [evE]; with_unfolding_all exact .bind (h.mono (fun _ _ h => tr_br (p := fun _ => True) (q := fun _ => True) h) fun _ _ _ h => h)
section
variable {QL : List MV → Mem → Prop}
theorem wl_nil (q : QL [] m) : We (evL T cl [] r m) QL X := .of l_nil q
theorem wl_cons (h : We (evE T cl e r m) (fun v m1 => We (evL T cl es r m1) (fun vs m2 => QL (v :: vs) m2) X) X) : We (evL T cl (e :: es) r m) QL X := by
  rw [evL_cons]; with_unfolding_all exact .bind (h.mono (fun _ _ h => .bind (h.mono (fun _ _ h => h) fun _ _ _ h => h)) fun _ _ _ h => h)
end
theorem w_call0 {f : Nat} (h : We (evL T cl es r m) (fun vs m1 => We (cl f vs m1) Q X) X) : We (evE T cl (.call f [] es) r m) Q X := by
  rw [evE]; with_unfolding_all exact .bind (h.mono (fun _ _ h => h) fun _ _ _ h => h)
theorem w_call {f : Nat} {ix : List Nat} (h : We (evL T cl es r m) (fun vs m1 => We (cl f (ord ix vs) m1) Q X) X) : We (evE T cl (.call f ix es) r m) Q X := by
  rw [evE]; with_unfolding_all exact .bind (h.mono (fun _ _ h => h) fun _ _ _ h => h)
theorem w_new {c : Nat} {ix : List Nat} (h : We (evL T cl es r m) (fun vs m1 => We (newObj T cl c (ord ix vs) m1) Q X) X) : We (evE T cl (.new c ix es) r m) Q X := by
  rw [evE]; with_unfolding_all exact .bind (h.mono (fun _ _ h => h) fun _ _ _ h => h)
theorem w_new0 {c : Nat} (h : We (evL T cl es r m) (fun vs m1 => We (newObj T cl c vs m1) Q X) X) : We (evE T cl (.new c [] es) r m) Q X := w_new h
/-- which def a method is -/
@[irreducible] def Mt (T : Tab) (m : Mem) (x : MV) (mm : Nat) (k : Nat → Prop) : Prop := match clsOf m x with
  | some c => Me (T.meth c mm) k
  | none => False
theorem mt_of {x : MV} {mm d f : Nat} {k : Nat → Prop} (h1 : clsOf m x = some d) (h2 : T.meth d mm = some f) (h : k f) : Mt T m x mm k := by unfold Mt; rw [h1]; with_unfolding_all exact me_of h2 h
theorem w_meth {mm : Nat} {ix : List Nat} (h : We (evE T cl o r m) (fun x m1 => Mt T m1 x mm fun f => We (evL T cl es r m1) (fun vs m2 => We (cl f (x :: ord ix vs) m2) Q X) X) X) : We (evE T cl (.meth o mm ix es) r m) Q X := by
  rw [evE]
  refine .bind (h.mono (fun x m1 h => ?_) fun _ _ _ h => h)
  unfold onMeth
  unfold Mt at h
  cases e : clsOf m1 x with
  | none => rw [e] at h; with_unfolding_all exact False.elim h
  | some d =>
    rw [e] at h
    dsimp only at h ⊢
    unfold Me at h
    cases e2 : T.meth d mm with
    | none => rw [e2] at h; with_unfolding_all exact False.elim h
    | some f =>
      rw [e2] at h
      with_unfolding_all exact .bind (h.mono (fun _ _ h => h) fun _ _ _ h => h)
theorem w_meth0 {mm : Nat} (h : We (evE T cl o r m) (fun x m1 => Mt T m1 x mm fun f => We (evL T cl es r m1) (fun vs m2 => We (cl f (x :: vs) m2) Q X) X) X) : We (evE T cl (.meth o mm [] es) r m) Q X := w_meth h
theorem w_fld {f : Nat} (h : We (evE T cl o r m) (fun x m1 => Op (getF T x f m1) Q) X) : We (evE T cl (.fld o f) r m) Q X := by
  rw [evE]; with_unfolding_all exact .bind (h.mono (fun _ _ h => h.lift) fun _ _ _ h => h)
theorem w_idx (h : We (evE T cl a r m) (fun x m1 => We (evE T cl b r m1) (fun y m2 => Op (subscr x y m2) Q) X) X) : We (evE T cl (.idx a b) r m) Q X := by
  rw [evE]; with_unfolding_all exact .bind (h.mono (fun _ _ h => .bind (h.mono (fun _ _ h => h.lift) fun _ _ _ h => h)) fun _ _ _ h => h)
theorem w_rev (h : We (evE T cl o r m) (fun x m1 => Op (revv x m1) Q) X) : We (evE T cl (.rev o) r m) Q X := by
  rw [evE]; with_unfolding_all exact .bind (h.mono (fun _ _ h => h.lift) fun _ _ _ h => h)
theorem w_slc00 (h : We (evE T cl o r m) (fun x m1 => Op (slice x none none m1) Q) X) : We (evE T cl (.slc o [] []) r m) Q X := by
  rw [evE]
  refine .bind (h.mono (fun _ _ h => ?_) fun _ _ _ h => h)
  rw [evL_nil, bind_ok]
  dsimp only [onPart]
  rw [evL_nil, bind_ok]
  with_unfolding_all exact h.lift
theorem w_slc10 (h : We (evE T cl o r m) (fun x m1 => We (evE T cl a r m1) (fun y m2 => IsI y fun i => Op (slice x (some i) none m2) Q) X) X) : We (evE T cl (.slc o [a] []) r m) Q X := by
  rw [evE]
  refine .bind (h.mono (fun _ _ h => ?_) fun _ _ _ h => h)
  refine .bind (wl_cons (h.mono (fun y m2 h => wl_nil ?_) fun _ _ _ h => h))
  obtain ⟨i, rfl, h⟩ := h.get
  dsimp only [onPart]
  rw [evL_nil, bind_ok]
  with_unfolding_all exact h.lift
theorem w_slc01 (h : We (evE T cl o r m) (fun x m1 => We (evE T cl a r m1) (fun y m2 => IsI y fun i => Op (slice x none (some i) m2) Q) X) X) : We (evE T cl (.slc o [] [a]) r m) Q X := by
  rw [evE]
  refine .bind (h.mono (fun _ _ h => ?_) fun _ _ _ h => h)
  rw [evL_nil, bind_ok]
  dsimp only [onPart]
  refine .bind (wl_cons (h.mono (fun y m2 h => wl_nil ?_) fun _ _ _ h => h))
  obtain ⟨i, rfl, h⟩ := h.get
  with_unfolding_all exact h.lift
theorem w_slc11 (h : We (evE T cl o r m) (fun x m1 => We (evE T cl a r m1) (fun y m2 => IsI y fun i => We (evE T cl b r m2) (fun z m3 => IsI z fun j => Op (slice x (some i) (some j) m3) Q) X) X) X) : We (evE T cl (.slc o [a] [b]) r m) Q X := by
  rw [evE]
  refine .bind (h.mono (fun _ _ h => ?_) fun _ _ _ h => h)
  refine .bind (wl_cons (h.mono (fun y m2 h => wl_nil ?_) fun _ _ _ h => h))
  obtain ⟨i, rfl, h2⟩ := h.get
  dsimp only [onPart] at h2 ⊢
  refine .bind (wl_cons (We.mono h2 (fun y m2 h => wl_nil ?_) fun _ _ _ h => h))
  obtain ⟨j, rfl, h3⟩ := h.get
  exact Op.lift h3
theorem w_lst (h : We (evL T cl es r m) (fun vs m1 => vs.length ≤ line ∧ Q (.ref m1.length) (m1 ++ [.lst vs])) X) : We (evE T cl (.lst es) r m) Q X := by
  rw [evE]
  refine .bind (h.mono (fun vs m1 h => ?_) fun _ _ _ h => h)
  unfold mkLst
  rw [if_pos h.1]
  with_unfolding_all exact h.2
theorem w_tup (h : We (evL T cl es r m) (fun vs m1 => vs.length ≤ line ∧ Q (.tup vs) m1) X) : We (evE T cl (.tup es) r m) Q X := by
  rw [evE]
  refine .bind (h.mono (fun vs m1 h => ?_) fun _ _ _ h => h)
  unfold mkTup
  rw [if_pos h.1]
  with_unfolding_all exact h.2
theorem le_line {n : Nat} (h : Nat.ble n 100 = true) : n ≤ line := Nat.le_trans (Nat.le_of_ble_eq_true h) (by decide)
theorem w_blt {f : BF} (h : We (evL T cl es r m) (fun vs m1 => Op (builtin f vs m1) Q) X) : We (evE T cl (.blt f es) r m) Q X := by
  rw [evE]; with_unfolding_all exact .bind (h.mono (fun _ _ h => h.lift) fun _ _ _ h => h)
theorem w_bm {f : BM} (h : We (evE T cl o r m) (fun x m1 => recv m1 f x = true ∧ We (evL T cl es r m1) (fun vs m2 => Op (method f x vs m2) Q) X) X) : We (evE T cl (.bm o f es) r m) Q X := by
  rw [evE]
  refine .bind (h.mono (fun x m1 h => ?_) fun _ _ _ h => h)
  unfold onRecv
  rw [if_pos h.1]
  with_unfolding_all exact .bind (h.2.mono (fun _ _ h => h.lift) fun _ _ _ h => h)
theorem w_isi {ts : List Ty} (h : We (evE T cl e r m) (fun x m1 => Me (tyAny T m1 x ts) fun k => Q (.bl k) m1) X) : We (evE T cl (.isi e ts) r m) Q X := by
  rw [evE]
  refine .bind (h.mono (fun x m1 h => ?_) fun _ _ _ h => h)
  unfold Me at h
  cases e : tyAny T m1 x ts with
  | none => rw [e] at h; with_unfolding_all exact False.elim h
  | some k => rw [e] at h; with_unfolding_all exact h
theorem w_din {neg : Bool} {k : Nat} (h : We (evE T cl e r m) (fun x m1 => Op (dinv (T.dic k) neg x m1) Q) X) : We (evE T cl (.din neg e k) r m) Q X := by
  rw [evE]; with_unfolding_all exact .bind (h.mono (fun _ _ h => h.lift) fun _ _ _ h => h)
theorem w_dix {k : Nat} (h : We (evE T cl e r m) (fun x m1 => Op (dixv (T.dic k) x m1) Q) X) : We (evE T cl (.dix k e) r m) Q X := by
  rw [evE]; with_unfolding_all exact .bind (h.mono (fun _ _ h => h.lift) fun _ _ _ h => h)
/-- the parts of a text -/
@[irreducible] def Ft (T : Tab) (cl : CallF) (es : List CE) (acc : Txt) (r : Env) (m : Mem) (Q : MV → Mem → Prop) (X : QX) : Prop := We (evF T cl es acc r m) Q X
theorem ft_nil {acc : Txt} (q : Q (.str acc) m) : Ft T cl [] acc r m Q X := by unfold Ft; rw [evF]; with_unfolding_all exact q
theorem ft_cons {acc : Txt} (h : We (evE T cl e r m) (fun v m1 => Me (ftxt v) fun y => (acc ++ y).length ≤ line ∧ Ft T cl es (acc ++ y) r m1 Q X) X) : Ft T cl (e :: es) acc r m Q X := by
  unfold Ft
  rw [evF]
  refine .bind (h.mono (fun v m1 h => ?_) fun _ _ _ h => h)
  unfold Me at h
  cases q : ftxt v with
  | none => rw [q] at h; with_unfolding_all exact False.elim h
  | some y =>
    rw [q] at h
    dsimp only at h ⊢
    rw [if_pos h.1]
    with_unfolding_all exact h.2
theorem w_fstr (h : Ft T cl es [] r m Q X) : We (evE T cl (.fstr es) r m) Q X := by rw [evE]; with_unfolding_all exact h
theorem w_xfld {i f d z : Nat} {fs : List MV} {y : MV} (h : r[i]? = some (.exn d fs)) (hf : T.exf d f = some z) (hy : fs[z]? = some y) (q : Q y m) : We (evE T cl (.xfld i f) r m) Q X := by
  rw [evE, h]; dsimp only; rw [hf]; dsimp only; rw [hy]; with_unfolding_all exact q
theorem w_xisi {i d : Nat} {fs : List MV} {ts : List Ty} (h : r[i]? = some (.exn d fs)) (q : Q (.bl (xTy T d ts)) m) : We (evE T cl (.xisi i ts) r m) Q X := by
  rw [evE, h]; with_unfolding_all exact q
theorem rng_fits {n : Nat} (h : n < 100000) : -(2 ^ 62 : Int) ≤ (n : Int) ∧ (n : Int) < 2 ^ 62 := ⟨Int.le_trans (by decide : -(2 ^ 62) ≤ (0 : Int)) (Int.natCast_nonneg n), Int.lt_of_lt_of_le (by omega : (n : Int) < 100000) (by decide)⟩
/-! ### what is walked -/
section
variable {QW : Walked → Mem → Prop} {w : Walked}
theorem liftW_of {o : Option Walked} (h : o = some w) (q : QW w m) : We (liftW o m) QW X := by rw [h]; with_unfolding_all exact q
theorem wi_of (h : We (evE T cl e r m) (fun v m1 => Me (walkOf v m1) fun w => QW w m1) X) : We (evI T cl (.of e) r m) QW X := by
  rw [evI]
  refine .bind (h.mono (fun v m1 h => ?_) fun _ _ _ h => h)
  unfold Me at h
  cases q : walkOf v m1 with
  | none => rw [q] at h; with_unfolding_all exact False.elim h
  | some w => rw [q] at h; with_unfolding_all exact h
theorem wi_enum (h : We (evE T cl e r m) (fun v m1 => Me (enumOf v m1) fun w => QW w m1) X) : We (evI T cl (.enum e) r m) QW X := by
  rw [evI]
  refine .bind (h.mono (fun v m1 h => ?_) fun _ _ _ h => h)
  unfold Me at h
  cases q : enumOf v m1 with
  | none => rw [q] at h; with_unfolding_all exact False.elim h
  | some w => rw [q] at h; with_unfolding_all exact h
/-- a range that isn't too long -/
@[irreducible] def Rgi (i : Int) (K : Prop) : Prop := (0 ≤ i ∧ i < 100000) ∧ K
theorem rgi {i : Int} {K : Prop} (h : 0 ≤ i ∧ i < 100000) (k : K) : Rgi i K := by with_unfolding_all exact And.intro h k
theorem wi_rng (h : We (evE T cl a r m) (fun v m1 => IsI v fun i => Rgi i (QW ⟨rng 0 i, none⟩ m1)) X) : We (evI T cl (.rng1 a) r m) QW X := by
  rw [evI]
  refine .bind (h.mono (fun v m1 h => ?_) fun _ _ _ h => h)
  obtain ⟨i, rfl, h3⟩ := IsI.get h
  obtain ⟨h1, h2⟩ : (0 ≤ i ∧ i < 100000) ∧ QW ⟨rng 0 i, none⟩ m1 := by with_unfolding_all exact h3
  obtain ⟨n, rfl⟩ : ∃ n : Nat, i = (n : Int) := ⟨i.toNat, by omega⟩
  rw [show rng1 (.int (n : Nat)) = some ⟨rng 0 (n : Nat), none⟩ from by unfold rng1; with_unfolding_all exact if_pos (rng_fits (by omega))]
  with_unfolding_all exact h2
end
end
/-! ### comprehensions -/
section
variable {T : Tab} {W : Nat} {cl : CallF} {r : Env} {m : Mem} {elt c : CE} {src : CI} {i : Nat} {Q : MV → Mem → Prop} {X : QX}
/-- every thing by itself -/
@[irreducible] def Lm (T : Tab) (cl : CallF) (elt : CE) (i : Nat) (r : Env) (w : Walked) (m : Mem) (Q : MV → Mem → Prop) (X : QX) : Prop := We (lcGo w m.length (fun _ m2 => .ok (.bl true) m2) (fun x m2 => evE T cl elt (r.set i (.val x)) m2) w.items (m ++ [.lst []])) Q X
@[irreducible] def Lc (T : Tab) (cl : CallF) (elt c : CE) (i : Nat) (r : Env) (w : Walked) (m : Mem) (Q : MV → Mem → Prop) (X : QX) : Prop := We (lcGo w m.length (fun x m2 => evE T cl c (r.set i (.val x)) m2) (fun x m2 => evE T cl elt (r.set i (.val x)) m2) w.items (m ++ [.lst []])) Q X
theorem w_lc0 (h : We (evI T cl src r m) (fun w m1 => Lm T cl elt i r w m1 Q X) X) : We (evE T cl (.lc elt i src []) r m) Q X := by
  rw [evE]; with_unfolding_all exact .bind (h.mono (fun _ _ h => h) fun _ _ _ h => h)
theorem w_lc1 (h : We (evI T cl src r m) (fun w m1 => Lc T cl elt c i r w m1 Q X) X) : We (evE T cl (.lc elt i src [c]) r m) Q X := by
  rw [evE]; with_unfolding_all exact .bind (h.mono (fun _ _ h => h) fun _ _ _ h => h)
theorem lm_map {α : Type} {f g : α → MV} {l : List α} {src : Option (Nat × Bool)} (hs : ∀ acc : List MV, Walked.still ⟨l.map f, src⟩ (m ++ [.lst acc]) = true) (hl : l.length ≤ 30000)
    (h : ∀ x ∈ l, ∀ acc : List MV, We (evE T cl elt (r.set i (.val (f x))) (m ++ [.lst acc])) (fun u mm => u = g x ∧ mm = m ++ [.lst acc]) noX) (q : Q (.ref m.length) (m ++ [.lst (l.map g)])) : Lm T cl elt i r ⟨l.map f, src⟩ m Q X := by
  have key : ∀ (l2 : List α) (acc : List MV), (∀ x ∈ l2, x ∈ l) → acc.length + l2.length ≤ 30000 → lcGo ⟨l.map f, src⟩ m.length (fun _ m2 => .ok (.bl true) m2) (fun x m2 => evE T cl elt (r.set i (.val x)) m2) (l2.map f) (m ++ [.lst acc]) = .ok (.ref m.length) (m ++ [.lst (acc ++ l2.map g)]) := fun l2 => by
    induction l2 with
    | nil =>
      intro acc _ _
      rw [List.map_nil, List.map_nil, List.append_nil]
      with_unfolding_all exact lc_nil (hs acc)
    | cons x l2 ih =>
      intro acc hm hn
      rw [List.map_cons, lc_cons (v := g x) (m1 := m ++ [.lst acc]) (hs acc) rfl (h x (hm x (List.mem_cons_self ..)) acc).eq getE_new (by rw [List.length_cons] at hn; unfold line; omega)]
      have e : (m ++ [MO.lst acc]).set m.length (.lst (acc ++ [g x])) = m ++ [.lst (acc ++ [g x])] := by
        rw [List.set_append_right _ _ (Nat.le_refl _), Nat.sub_self]
        rfl
      rw [e, ih _ (fun y hy => hm y (List.mem_cons_of_mem _ hy)) (by rw [List.length_append]; rw [List.length_cons] at hn; simp only [List.length_cons, List.length_nil]; omega), List.map_cons, List.append_assoc]
      rfl
  have z := key l [] (fun _ h => h) (by rw [List.length_nil]; omega)
  rw [List.nil_append] at z
  with_unfolding_all exact .of z q
theorem lc_fil {α : Type} {f g : α → MV} {p : α → Bool} {l : List α} {src : Option (Nat × Bool)} (hs : ∀ acc : List MV, Walked.still ⟨l.map f, src⟩ (m ++ [.lst acc]) = true) (hl : l.length ≤ 30000)
    (hc : ∀ x ∈ l, ∀ acc : List MV, We (evE T cl c (r.set i (.val (f x))) (m ++ [.lst acc])) (fun u mm => u = .bl (p x) ∧ mm = m ++ [.lst acc]) noX)
    (h : ∀ x ∈ l, p x = true → ∀ acc : List MV, We (evE T cl elt (r.set i (.val (f x))) (m ++ [.lst acc])) (fun u mm => u = g x ∧ mm = m ++ [.lst acc]) noX) (q : Q (.ref m.length) (m ++ [.lst ((l.filter p).map g)])) : Lc T cl elt c i r ⟨l.map f, src⟩ m Q X := by
  have key : ∀ (l2 : List α) (acc : List MV), (∀ x ∈ l2, x ∈ l) → acc.length + l2.length ≤ 30000 → lcGo ⟨l.map f, src⟩ m.length (fun x m2 => evE T cl c (r.set i (.val x)) m2) (fun x m2 => evE T cl elt (r.set i (.val x)) m2) (l2.map f) (m ++ [.lst acc]) = .ok (.ref m.length) (m ++ [.lst (acc ++ (l2.filter p).map g)]) := fun l2 => by
    induction l2 with
    | nil =>
      intro acc _ _
      rw [List.map_nil, List.filter_nil, List.map_nil, List.append_nil]
      with_unfolding_all exact lc_nil (hs acc)
    | cons x l2 ih =>
      intro acc hm hn
      have hm2 : ∀ y ∈ l2, y ∈ l := fun y hy => hm y (List.mem_cons_of_mem _ hy)
      have t := (hc x (hm x (List.mem_cons_self ..)) acc).eq
      cases hp : p x with
      | false =>
        rw [hp] at t
        rw [List.map_cons, lc_skip (hs acc) t, ih acc hm2 (by rw [List.length_cons] at hn; omega), List.filter_cons_of_neg (by rw [hp]; decide)]
      | true =>
        rw [hp] at t
        rw [List.map_cons, lc_cons (v := g x) (m1 := m ++ [.lst acc]) (hs acc) t (h x (hm x (List.mem_cons_self ..)) hp acc).eq getE_new (by rw [List.length_cons] at hn; unfold line; omega)]
        have e : (m ++ [MO.lst acc]).set m.length (.lst (acc ++ [g x])) = m ++ [.lst (acc ++ [g x])] := by
          rw [List.set_append_right _ _ (Nat.le_refl _), Nat.sub_self]
          rfl
        rw [e, ih _ hm2 (by rw [List.length_append]; rw [List.length_cons] at hn; simp only [List.length_cons, List.length_nil]; omega), List.filter_cons_of_pos hp, List.map_cons, List.append_assoc]
        rfl
  have z := key l [] (fun _ h => h) (by rw [List.length_nil]; omega)
  rw [List.nil_append] at z
  with_unfolding_all exact .of z q
end
/-! ### statements -/
section
variable {T : Tab} {W : Nat} {cl : CallF} {r : Env} {m : Mem} {a b c e o : CE} {es : List CE} {v : MV} {s : CS} {ss p q : List CS} {N : Env → Mem → Prop} {R : MV → Mem → Prop} {X : QE} {L : Bool → Env → Mem → Prop}
theorem Ws.mono {x : RS} {N' : Env → Mem → Prop} {R' : MV → Mem → Prop} {X' : QE} {L' : Bool → Env → Mem → Prop} (h : Ws x N R X L) (h1 : ∀ r m, N r m → N' r m) (h2 : ∀ v m, R v m → R' v m) (h3 : ∀ c fs r m, X c fs r m → X' c fs r m) (h4 : ∀ b r m, L b r m → L' b r m) : Ws x N' R' X' L' := by
  cases x with
  | nx r m => with_unfolding_all exact h1 _ _ h
  | bk r m => with_unfolding_all exact h4 _ _ _ h
  | ct r m => with_unfolding_all exact h4 _ _ _ h
  | rt v m => with_unfolding_all exact h2 _ _ h
  | ex c fs r m => with_unfolding_all exact h3 _ _ _ _ h
  | fail => with_unfolding_all exact h
theorem Ws.of_nx {x : RS} (h : x = .nx r m) (q : N r m) : Ws x N R X L := by rw [h]; with_unfolding_all exact q
theorem Ws.of_rt {x : RS} (h : x = .rt v m) (q : R v m) : Ws x N R X L := by rw [h]; with_unfolding_all exact q
theorem We.st {x : U.R MV} {f : MV → Mem → RS} (h : We x (fun v m1 => Ws (f v m1) N R X L) (fun c fs m1 => X c fs r m1)) : Ws (x.st r f) N R X L := by
  cases x with
  | ok v m => with_unfolding_all exact h
  | ex c fs m => with_unfolding_all exact h
  | fail => with_unfolding_all exact h
theorem wb_nil (h : N r m) : Ws (evB T W cl [] r m) N R X L := by rw [evB_nil]; with_unfolding_all exact h
theorem wb_cons (h : Ws (evS T W cl s r m) (fun r' m' => Ws (evB T W cl ss r' m') N R X L) R X L) : Ws (evB T W cl (s :: ss) r m) N R X L := by
  rw [evB_cons]
  cases e : evS T W cl s r m <;> rw [e] at h <;> with_unfolding_all exact h
/-- a slot is set -/
@[irreducible] def Se (r : Env) (i : Nat) (v : MV) (K : Env → Prop) : Prop := K (r.set i (.val v))
theorem se_of {r r' : Env} {i : Nat} {v : MV} {K : Env → Prop} (h : r.set i (.val v) = r') (k : K r') : Se r i v K := by subst h; with_unfolding_all exact k
theorem me_put {r r' : Env} {t : Tg} {v : MV} {K : Env → Prop} (h : t.put v r = some r') (k : K r') : Me (t.put v r) K := me_of h k
theorem ws_asg {i : Nat} (h : We (evE T cl e r m) (fun v m1 => Se r i v fun r' => N r' m1) (fun c fs m1 => X c fs r m1)) : Ws (evS T W cl (.asg i e) r m) N R X L := by
  rw [evS]; exact We.st (h.mono (fun v m1 h => by with_unfolding_all exact h) fun _ _ _ h => h)
theorem ws_ret (h : We (evE T cl e r m) (fun v m1 => R v m1) (fun c fs m1 => X c fs r m1)) : Ws (evS T W cl (.ret e) r m) N R X L := by
  rw [evS]; exact We.st (h.mono (fun v m1 h => by with_unfolding_all exact h) fun _ _ _ h => h)
theorem ws_retn (h : R .non m) : Ws (evS T W cl .retn r m) N R X L := by rw [evS]; with_unfolding_all exact h
theorem ws_pass (h : N r m) : Ws (evS T W cl .pass r m) N R X L := by rw [evS]; with_unfolding_all exact h
theorem ws_brk (h : L true r m) : Ws (evS T W cl .brk r m) N R X L := by rw [evS]; with_unfolding_all exact h
theorem ws_cont (h : L false r m) : Ws (evS T W cl .cont r m) N R X L := by rw [evS]; with_unfolding_all exact h
theorem ws_expr (h : We (evE T cl e r m) (fun _ m1 => N r m1) (fun c fs m1 => X c fs r m1)) : Ws (evS T W cl (.expr e) r m) N R X L := by
  rw [evS]; exact We.st (h.mono (fun v m1 h => by with_unfolding_all exact h) fun _ _ _ h => h)
theorem Tr.onTruS {k : Bool → RS} (h : Tr m v fun b => Ws (k b) N R X L) : Ws (onTruS m v k) N R X L := by
  unfold U.onTruS
  unfold Tr at h
  cases e : truth m v with
  | none => rw [e] at h; with_unfolding_all exact False.elim h
  | some b => rw [e] at h; with_unfolding_all exact h
theorem ws_ifs (h : We (evE T cl c r m) (fun v m1 => Tr m1 v fun k => Br k (Ws (evB T W cl p r m1) N R X L) (Ws (evB T W cl q r m1) N R X L)) (fun c fs m1 => X c fs r m1)) : Ws (evS T W cl (.ifs c p q) r m) N R X L := by
  rw [evS]
  refine We.st (h.mono (fun v m1 h => Tr.onTruS ?_) fun _ _ _ h => h)
  unfold Tr at h ⊢
  cases e : truth m1 v with
  | none => rw [e] at h; with_unfolding_all exact h
  | some k =>
    rw [e] at h
    dsimp only at h ⊢
    cases k with
    | true => exact h.y rfl
    | false => exact h.n rfl
theorem ws_unp {is : List Nat} (h : We (evE T cl e r m) (fun v m1 => Me ((Tg.tup is).put v r) fun r' => N r' m1) (fun c fs m1 => X c fs r m1)) : Ws (evS T W cl (.unp is e) r m) N R X L := by
  rw [evS]
  refine We.st (h.mono (fun v m1 h => ?_) fun _ _ _ h => h)
  unfold Me at h
  cases q : (Tg.tup is).put v r with
  | none => rw [q] at h; with_unfolding_all exact False.elim h
  | some r' => rw [q] at h; with_unfolding_all exact h
theorem ws_seti (h : We (evE T cl e r m) (fun y m1 => We (evE T cl a r m1) (fun x m2 => We (evE T cl b r m2) (fun j m3 => Me (setI x j y m3) fun m4 => N r m4) (fun c fs m1 => X c fs r m1)) (fun c fs m1 => X c fs r m1)) (fun c fs m1 => X c fs r m1)) : Ws (evS T W cl (.seti a b e) r m) N R X L := by
  rw [evS]
  refine We.st (h.mono (fun v m1 h => We.st (h.mono (fun x m2 h => We.st (h.mono (fun j m3 h => ?_) fun _ _ _ h => h)) fun _ _ _ h => h)) fun _ _ _ h => h)
  unfold Me at h
  cases q : setI x j v m3 with
  | none => rw [q] at h; with_unfolding_all exact False.elim h
  | some r' => rw [q] at h; with_unfolding_all exact h
theorem ws_setf {f : Nat} (h : We (evE T cl e r m) (fun y m1 => We (evE T cl o r m1) (fun x m2 => Me (setF T x f y m2) fun m3 => N r m3) (fun c fs m1 => X c fs r m1)) (fun c fs m1 => X c fs r m1)) : Ws (evS T W cl (.setf o f e) r m) N R X L := by
  rw [evS]
  refine We.st (h.mono (fun v m1 h => We.st (h.mono (fun x m2 h => ?_) fun _ _ _ h => h)) fun _ _ _ h => h)
  unfold Me at h
  cases q : setF T x f v m2 with
  | none => rw [q] at h; with_unfolding_all exact False.elim h
  | some r' => rw [q] at h; with_unfolding_all exact h
theorem ws_aug {i : Nat} {op : Operator} {x z : Int} (h0 : r[i]? = some (.val (.int x))) (h : We (evE T cl e r m) (fun v m1 => IsI v fun y => Me (augop op x y) fun z => Se r i (.int z) fun r' => N r' m1) (fun c fs m1 => X c fs r m1)) : Ws (evS T W cl (.aug i op e) r m) N R X L := by
  rw [evS, h0]
  refine We.st (h.mono (fun v m1 h => ?_) fun _ _ _ h => h)
  obtain ⟨y, rfl, h2⟩ := h.get
  dsimp only
  unfold Me at h2
  cases q : augop op x y with
  | none => rw [q] at h2; with_unfolding_all exact h2.elim
  | some z => rw [q] at h2; with_unfolding_all exact h2
theorem ws_raise (h : We (evL T cl es r m) (fun vs m1 => (vs.length = T.fields d ∧ vs.all shw = true) ∧ X d vs r m1) (fun c fs m1 => X c fs r m1)) : Ws (evS T W cl (.raise d es) r m) N R X L := by
  rw [evS]
  cases q : evL T cl es r m with
  | ok vs m1 =>
    rw [q] at h
    have h := we_out h
    dsimp only
    rw [if_pos h.1.1, if_pos h.1.2]
    with_unfolding_all exact h.2
  | ex c fs m1 => rw [q] at h; with_unfolding_all exact h
  | fail => rw [q] at h; with_unfolding_all exact h
theorem ws_raise0 (h : We (evL T cl es r m) (fun vs m1 => (vs.length ≠ 0 ∧ T.fields d = 0) ∧ X d [] r m1) (fun c fs m1 => X c fs r m1)) : Ws (evS T W cl (.raise d es) r m) N R X L := by
  rw [evS]
  cases q : evL T cl es r m with
  | ok vs m1 =>
    rw [q] at h
    have h := we_out h
    dsimp only
    rw [if_neg (by rw [h.1.2]; exact h.1.1), if_pos h.1.2]
    with_unfolding_all exact h.2
  | ex c fs m1 => rw [q] at h; with_unfolding_all exact h
  | fail => rw [q] at h; with_unfolding_all exact h
/-! ### try -/
/-- which clause takes it -/
@[irreducible] def Cl (T : Tab) (W : Nat) (cl : CallF) (hs : List (List Nat × Option Nat × List CS)) (c : Nat) (fs : List MV) (r : Env) (m : Mem) (N : Env → Mem → Prop) (R : MV → Mem → Prop) (X : QE) (L : Bool → Env → Mem → Prop) : Prop := Ws (evH T W cl hs c fs r m) N R X L
theorem ws_try {hs : List (List Nat × Option Nat × List CS)} (h : Ws (evB T W cl p r m) N R (fun c fs r1 m1 => Cl T W cl hs c fs r1 m1 N R X L) L) : Ws (evS T W cl (.try_ p hs) r m) N R X L := by
  rw [evS]
  cases q : evB T W cl p r m <;> rw [q] at h <;> with_unfolding_all exact h
@[irreducible] def clear (i : Option Nat) (r : Env) (K : Env → Prop) : Prop := (putX r i .no).all Sl.free = true ∧ K (putX r i .no)
theorem clear_out {i : Option Nat} {r : Env} {K : Env → Prop} (h : clear i r K) : (putX r i .no).all Sl.free = true ∧ K (putX r i .no) := by with_unfolding_all exact h
theorem ws_out_nx (h : Ws (.nx r m) N R X L) : N r m := by with_unfolding_all exact h
theorem ws_out_rt (h : Ws (.rt v m) N R X L) : R v m := by with_unfolding_all exact h
theorem ws_out_ex {c : Nat} {fs : List MV} (h : Ws (.ex c fs r m) N R X L) : X c fs r m := by with_unfolding_all exact h
theorem ws_out_bk (h : Ws (.bk r m) N R X L) : L true r m := by with_unfolding_all exact h
theorem ws_out_ct (h : Ws (.ct r m) N R X L) : L false r m := by with_unfolding_all exact h
theorem cl_nil {c : Nat} {fs : List MV} (h : X c fs r m) : Cl T W cl [] c fs r m N R X L := by unfold Cl; rw [evH]; with_unfolding_all exact h
theorem cl_no {c : Nat} {fs : List MV} {ds : List Nat} {i : Option Nat} {hs : List (List Nat × Option Nat × List CS)} (hc : (decide (T.ncls ≤ c) && decide (c < T.ncls + T.nex)) = true) (hd : ds.any (T.sub c) = false) (h : Cl T W cl hs c fs r m N R X L) : Cl T W cl ((ds, i, ss) :: hs) c fs r m N R X L := by
  unfold Cl
  rw [evH, if_pos (by simpa using hc), if_neg (by rw [hd]; decide)]
  with_unfolding_all exact h
theorem cl_yes {c : Nat} {fs : List MV} {ds : List Nat} {i : Option Nat} {hs : List (List Nat × Option Nat × List CS)} (hc : (decide (T.ncls ≤ c) && decide (c < T.ncls + T.nex)) = true) (hd : ds.any (T.sub c) = true) (h : Ws (evB T W cl ss (putX r i (.exn c fs)) m) (fun r' m' => clear i r' fun r2 => N r2 m') R noE (fun b r' m' => clear i r' fun r2 => L b r2 m')) : Cl T W cl ((ds, i, ss) :: hs) c fs r m N R X L := by
  unfold Cl
  rw [evH, if_pos (by simpa using hc), if_pos hd]
  cases q : evB T W cl ss (putX r i (.exn c fs)) m with
  | nx r' m' =>
    rw [q] at h
    have h2 := clear_out (ws_out_nx h)
    dsimp only; rw [if_pos h2.1]; with_unfolding_all exact h2.2
  | bk r' m' =>
    rw [q] at h
    have h2 := clear_out (ws_out_bk h)
    dsimp only; rw [if_pos h2.1]; with_unfolding_all exact h2.2
  | ct r' m' =>
    rw [q] at h
    have h2 := clear_out (ws_out_ct h)
    dsimp only; rw [if_pos h2.1]; with_unfolding_all exact h2.2
  | rt v m' => rw [q] at h; with_unfolding_all exact h
  | ex c fs r' m' => rw [q] at h; with_unfolding_all exact False.elim h
  | fail => rw [q] at h; with_unfolding_all exact h
theorem clear_of {i : Option Nat} {r : Env} {K : Env → Prop} (h : (putX r i .no).all Sl.free = true) (k : K (putX r i .no)) : clear i r K := by with_unfolding_all exact And.intro h k
/-! ### loops -/
@[irreducible] def Fo (T : Tab) (W : Nat) (cl : CallF) (t : Tg) (b : List CS) (w : Walked) (r : Env) (m : Mem) (N : Env → Mem → Prop) (R : MV → Mem → Prop) (X : QE) : Prop := Ws (forGo w (fun x r' m' => match t.put x r' with | some r2 => evB T W cl b r2 m' | none => .fail) w.items r m) N R X noL
theorem ws_for {t : Tg} {src : CI} {b : List CS} (h : We (evI T cl src r m) (fun w m1 => Fo T W cl t b w r m1 N R X) (fun c fs m1 => X c fs r m1)) : Ws (evS T W cl (.for_ t src b) r m) N R X L := by
  rw [evS]
  cases q : evI T cl src r m with
  | ok w m1 => rw [q] at h; with_unfolding_all exact Ws.mono h (fun _ _ h => h) (fun _ _ h => h) (fun _ _ _ _ h => h) (fun _ _ _ h => False.elim h)
  | ex c fs m1 => rw [q] at h; with_unfolding_all exact h
  | fail => rw [q] at h; with_unfolding_all exact h
theorem fo_inv {t : Tg} {b : List CS} {w : Walked} (I : Nat → Env → Mem → Prop) (hs : ∀ k r m, I k r m → w.still m = true) (h0 : I 0 r m)
    (hb : ∀ j x, w.items[j]? = some x → ∀ r m, I j r m → Me (t.put x r) fun r2 => Ws (evB T W cl b r2 m) (fun r' m' => I (j + 1) r' m') R X (fun k r' m' => if k = true then N r' m' else I (j + 1) r' m')) (hN : ∀ r m, I w.items.length r m → N r m) : Fo T W cl t b w r m N R X := by
  have key : ∀ (l : List MV) (k : Nat) (r : Env) (m : Mem), (∀ j, l[j]? = w.items[k + j]?) → k + l.length = w.items.length → I k r m → Ws (forGo w (fun x r' m' => match t.put x r' with | some r2 => evB T W cl b r2 m' | none => .fail) l r m) N R X noL := fun l => by
    induction l with
    | nil =>
      intro k r m _ hk hI
      unfold forGo
      rw [if_pos (hs _ _ _ hI)]
      with_unfolding_all exact hN r m (by rw [← hk]; with_unfolding_all exact hI)
    | cons x l ih =>
      intro k r m hj hk hI
      unfold forGo
      rw [if_pos (hs _ _ _ hI)]
      have z := hb k x (by rw [← Nat.add_zero k, ← hj 0]; rfl) r m hI
      unfold Me at z
      cases e : t.put x r with
      | none => rw [e] at z; with_unfolding_all exact z.elim
      | some r2 =>
        rw [e] at z
        dsimp only at z ⊢
        have nxt : ∀ r' m', I (k + 1) r' m' → Ws (forGo w (fun x r' m' => match t.put x r' with | some r2 => evB T W cl b r2 m' | none => .fail) l r' m') N R X noL := fun r' m' h => ih (k + 1) r' m' (fun j => by rw [Nat.add_assoc, Nat.add_comm 1 j, ← hj (j + 1)]; rfl) (by rw [List.length_cons] at hk; omega) h
        cases e2 : evB T W cl b r2 m with
        | nx r' m' => rw [e2] at z; with_unfolding_all exact nxt _ _ z
        | ct r' m' => rw [e2] at z; with_unfolding_all exact nxt _ _ (by simpa [Ws] using z)
        | bk r' m' => rw [e2] at z; with_unfolding_all exact (by simpa [Ws] using z : N r' m')
        | rt v m' => rw [e2] at z; with_unfolding_all exact z
        | ex c fs r' m' => rw [e2] at z; with_unfolding_all exact z
        | fail => rw [e2] at z; with_unfolding_all exact z
  unfold Fo
  with_unfolding_all exact key w.items 0 r m (fun j => by rw [Nat.zero_add]) (Nat.zero_add _) h0
@[irreducible] def Wh (T : Tab) (W : Nat) (cl : CallF) (c : CE) (b : List CS) (r : Env) (m : Mem) (N : Env → Mem → Prop) (R : MV → Mem → Prop) (X : QE) : Prop := Ws (whileGo (evE T cl c) (evB T W cl b) W r m) N R X noL
theorem ws_whl {b : List CS} (h : Wh T W cl c b r m N R X) : Ws (evS T W cl (.whl c b) r m) N R X L := by
  unfold Wh at h
  rw [evS]
  with_unfolding_all exact Ws.mono h (fun _ _ h => h) (fun _ _ h => h) (fun _ _ _ _ h => h) (fun _ _ _ h => False.elim h)
theorem wh_inv {b : List CS} (I : Nat → Env → Mem → Prop) (k0 : Nat) (hk : k0 < W) (h0 : I k0 r m)
    (hb : ∀ k r m, I k r m → We (evE T cl c r m) (fun v m1 => Tr m1 v fun t => Br t (∃ j, j < k ∧ Ws (evB T W cl b r m1) (fun r' m' => I j r' m') R X (fun s r' m' => if s = true then N r' m' else I j r' m')) (N r m1)) (fun c fs m1 => X c fs r m1)) : Wh T W cl c b r m N R X := by
  have key : ∀ (n k : Nat) (r : Env) (m : Mem), k < n → I k r m → Ws (whileGo (evE T cl c) (evB T W cl b) n r m) N R X noL := fun n => by
    induction n with
    | zero => intro k r m h; omega
    | succ n ih =>
      intro k r m hk hI
      unfold whileGo
      refine We.st ((hb k r m hI).mono (fun v m1 h => Tr.onTruS ?_) fun _ _ _ h => h)
      unfold Tr at h ⊢
      cases e : truth m1 v with
      | none => rw [e] at h; with_unfolding_all exact h
      | some t =>
        rw [e] at h
        dsimp only at h ⊢
        cases t with
        | false => rw [if_neg (by decide)]; with_unfolding_all exact h.n rfl
        | true =>
          rw [if_pos rfl]
          obtain ⟨j, hj, z⟩ := h.y rfl
          cases e2 : evB T W cl b r m1 with
          | nx r' m' => rw [e2] at z; with_unfolding_all exact ih j _ _ (by omega) z
          | ct r' m' => rw [e2] at z; with_unfolding_all exact ih j _ _ (by omega) (by simpa [Ws] using z)
          | bk r' m' => rw [e2] at z; with_unfolding_all exact (by simpa [Ws] using z : N r' m')
          | rt v m' => rw [e2] at z; with_unfolding_all exact z
          | ex c fs r' m' => rw [e2] at z; with_unfolding_all exact z
          | fail => rw [e2] at z; with_unfolding_all exact z
  unfold Wh
  with_unfolding_all exact key W k0 r m hk h0
end
end U
end Part_UW

section Part_UF
set_option Elab.async false
set_option linter.all false
set_option maxRecDepth 100000
set_option maxHeartbeats 4000000
/-! UF: a def, by what its body comes to; the memory that stays; no law in sight. -/
namespace U
open PySem (Operator CmpOp)
/-- what stood in the memory m stands -/
structure Keep (m mm : Mem) : Prop where
  len : m.length ≤ mm.length
  old : ∀ k, k < m.length → mm[k]? = m[k]?
section
variable {m m1 mm : Mem} {s c : Nat}
theorem Keep.refl : Keep m m := ⟨Nat.le_refl _, fun _ _ => rfl⟩
theorem Keep.push {x : Mem} (a : Keep m mm) : Keep m (mm ++ x) := ⟨by rw [List.length_append]; exact Nat.le_trans a.len (Nat.le_add_right _ _), fun k h => by
  rw [List.getElem?_append_left (Nat.lt_of_lt_of_le h a.len)]
  exact a.old k h⟩
theorem Keep.set {k : Nat} {o : MO} (a : Keep m mm) (hk : m.length ≤ k) : Keep m (mm.set k o) := ⟨by rw [List.length_set]; exact a.len, fun j hj => by
  rw [List.getElem?_set_ne (by omega)]
  exact a.old j hj⟩
theorem Keep.trans (a : Keep m m1) (b : Keep m1 mm) : Keep m mm := ⟨Nat.le_trans a.len b.len, fun k h => (b.old k (Nat.lt_of_lt_of_le h a.len)).trans (a.old k h)⟩
theorem Keep.get {k : Nat} {o : MO} (a : Keep m mm) (h : m[k]? = some o) : mm[k]? = some o := by
  rw [a.old k (List.getElem?_eq_some_iff.mp h).1]
  exact h
theorem Keep.okOld {n : Nat} (a : Keep m mm) : okOld n m mm = true := okOld_of a.len fun k o hk e => .inl (by rw [← a.old k hk]; exact e)
theorem Keep.take (a : Keep m mm) : mm.take m.length = m := by
  apply List.ext_getElem?
  intro k
  by_cases hk : k < m.length
  · rw [List.getElem?_take_of_lt hk, a.old k hk]
  · rw [List.getElem?_eq_none (by rw [List.length_take]; omega), List.getElem?_eq_none (by omega)]
theorem Lf.get {k : Nat} {o : MO} (a : Lf m mm s c) (h : m[k]? = some o) (h1 : k ≠ s) (h2 : k ≠ c) : mm[k]? = some o := by
  rw [a.old k (List.getElem?_eq_some_iff.mp h).1 h1 h2]
  exact h
theorem Lf.thn {m2 : Mem} (b : Lf m1 m2 s c) (a : Lf m m1 s c) : Lf m m2 s c := ⟨b.st, Nat.le_trans a.len b.len, fun k h h1 h2 => (b.old k (Nat.lt_of_lt_of_le h a.len) h1 h2).trans (a.old k h h1 h2)⟩
theorem Sd.ne1 (h : Sd m s c) : m.length ≠ s := by have := h.ls.1; omega
theorem Sd.ne2 (h : Sd m s c) : m.length ≠ c := by have := h.ls.2; omega
theorem Lf.keep (a : Lf m m1 s c) (h : Sd m s c) (b : Keep m1 mm) : Lf m mm s c := by
  obtain ⟨hs, hc⟩ := a.st.ls
  exact ⟨a.st.of (b.old s hs) (b.old c hc), Nat.le_trans a.len b.len, fun k h h1 h2 => (b.old k (Nat.lt_of_lt_of_le h a.len)).trans (a.old k h h1 h2)⟩
theorem Lf.then {m2 : Mem} (a : Lf m m1 s c) (b : Lf m1 m2 s c) : Lf m m2 s c := ⟨b.st, Nat.le_trans a.len b.len, fun k h h1 h2 => (b.old k (Nat.lt_of_lt_of_le h a.len) h1 h2).trans (a.old k h h1 h2)⟩
end
section
variable {T : Tab} {W : Nat} {defs : Nat → Option FD} {n f np ns : Nat} {body : List CS} {as xs : List MV} {v : MV} {m : Mem}
theorem ws_out {x : RS} {v : MV} (e : Ws x (fun _ mm => v = .non ∧ Keep m mm) (fun u mm => u = v ∧ Keep m mm) noE noL) (lo : v.low m.length = true) : x.out m = .ok v m := by
  cases x with
  | nx r mm =>
    obtain ⟨rfl, k⟩ := ws_out_nx e
    show gcV m .non mm = _
    unfold gcV
    rw [if_pos k.okOld, if_pos lo, k.take]
  | rt u mm =>
    obtain ⟨rfl, k⟩ := ws_out_rt e
    show gcV m _ mm = _
    unfold gcV
    rw [if_pos k.okOld, if_pos lo, k.take]
  | bk r mm => exact (by with_unfolding_all exact e : False).elim
  | ct r mm => exact (by with_unfolding_all exact e : False).elim
  | ex c fs r mm => exact (by with_unfolding_all exact e : False).elim
  | fail => exact (by with_unfolding_all exact e : False).elim
/-- the frame of a def at its start -/
def envOf (as : List MV) (k : Nat) : Env := as.map .val ++ List.replicate k .no
theorem run_val {r : Env} (h : defs f = some ⟨np, ns, [], body⟩) (hl : as.length = np) (hr : envOf as (ns - as.length) = r) (e : Ws (evB T W (run T W defs n) body r m) (fun _ mm => v = .non ∧ Keep m mm) (fun u mm => u = v ∧ Keep m mm) noE noL) (lo : v.low m.length = true) : run T W defs (n + 1) f as m = .ok v m := by
  subst hr
  rw [run_step h hl]
  exact ws_out e lo
theorem run_lst {r : Env} (h : defs f = some ⟨np, ns, [], body⟩) (hl : as.length = np) (hr : envOf as (ns - as.length) = r) (e : Ws (evB T W (run T W defs n) body r m) (fun _ _ => False) (fun u mm => ∃ j, u = .ref j ∧ m.length ≤ j ∧ mm[j]? = some (.lst xs) ∧ Keep m mm) noE noL) (lo : MV.lows m.length xs = true) : run T W defs (n + 1) f as m = .ok (.ref m.length) (m ++ [.lst xs]) := by
  subst hr
  rw [run_step h hl]
  dsimp only
  show (evB T W (run T W defs n) body (envOf as (ns - as.length)) m).out m = _
  cases q : evB T W (run T W defs n) body (envOf as (ns - as.length)) m with
  | rt u mm =>
    rw [q] at e
    obtain ⟨j, rfl, hj, g, k⟩ := ws_out_rt e
    show gcV m (.ref j) mm = _
    unfold gcV
    rw [if_pos k.okOld, if_neg (by simp [MV.low]; omega)]
    dsimp only
    rw [g]
    dsimp only
    rw [if_pos (show MO.low m.length (.lst xs) = true from lo), k.take]
  | nx r mm => rw [q] at e; exact (by with_unfolding_all exact e : False).elim
  | bk r mm => rw [q] at e; exact (by with_unfolding_all exact e : False).elim
  | ct r mm => rw [q] at e; exact (by with_unfolding_all exact e : False).elim
  | ex c fs r mm => rw [q] at e; exact (by with_unfolding_all exact e : False).elim
  | fail => rw [q] at e; exact (by with_unfolding_all exact e : False).elim
theorem run_exn {r : Env} {c : Nat} {fs : List MV} (h : defs f = some ⟨np, ns, [], body⟩) (hl : as.length = np) (hr : envOf as (ns - as.length) = r) (e : Ws (evB T W (run T W defs n) body r m) (fun _ _ => False) (fun _ _ => False) (fun d gs _ mm => (d = c ∧ gs = fs) ∧ Keep m mm) noL) (lo : MV.lows m.length fs = true) : run T W defs (n + 1) f as m = .ex c fs m := by
  subst hr
  rw [run_step h hl]
  dsimp only
  show (evB T W (run T W defs n) body (envOf as (ns - as.length)) m).out m = _
  cases q : evB T W (run T W defs n) body (envOf as (ns - as.length)) m with
  | ex d gs r mm =>
    rw [q] at e
    obtain ⟨⟨rfl, rfl⟩, k⟩ := ws_out_ex e
    show gcX m _ _ mm = _
    unfold gcX
    rw [if_pos (by rw [k.okOld, lo]; rfl), k.take]
  | nx r mm => rw [q] at e; exact (by with_unfolding_all exact e : False).elim
  | bk r mm => rw [q] at e; exact (by with_unfolding_all exact e : False).elim
  | ct r mm => rw [q] at e; exact (by with_unfolding_all exact e : False).elim
  | rt u mm => rw [q] at e; exact (by with_unfolding_all exact e : False).elim
  | fail => rw [q] at e; exact (by with_unfolding_all exact e : False).elim
/-- a def that draws and tells a thing -/
theorem run_drw {r : Env} {α : Type} {g : α → MV} {P : α → Prop} {s c : Nat} (hs : Sd m s c) (h : defs f = some ⟨np, ns, [], body⟩) (hl : as.length = np) (hr : envOf as (ns - as.length) = r) (lo : ∀ a k, P a → (g a).low k = true)
    (e : Ws (evB T W (run T W defs n) body r m) (fun _ _ => False) (fun u mm => ∃ a, u = g a ∧ P a ∧ Lf m mm s c) noE noL) : ∃ a m', run T W defs (n + 1) f as m = .ok (g a) m' ∧ P a ∧ Left m m' s c := by
  subst hr
  rw [run_step h hl]
  dsimp only
  show ∃ a m', (evB T W (run T W defs n) body (envOf as (ns - as.length)) m).out m = _ ∧ _
  cases q : evB T W (run T W defs n) body (envOf as (ns - as.length)) m with
  | rt u mm =>
    rw [q] at e
    obtain ⟨a, rfl, p, k⟩ := ws_out_rt e
    obtain ⟨m', e1, l⟩ := k.out hs (lo a _ p)
    exact ⟨a, m', e1, p, l⟩
  | nx r mm => rw [q] at e; exact (by with_unfolding_all exact e : False).elim
  | bk r mm => rw [q] at e; exact (by with_unfolding_all exact e : False).elim
  | ct r mm => rw [q] at e; exact (by with_unfolding_all exact e : False).elim
  | ex c fs r mm => rw [q] at e; exact (by with_unfolding_all exact e : False).elim
  | fail => rw [q] at e; exact (by with_unfolding_all exact e : False).elim
/-- a def that draws and tells a list -/
theorem run_drl {r : Env} {α : Type} {g : α → List MV} {P : α → Prop} {s c : Nat} (hs : Sd m s c) (h : defs f = some ⟨np, ns, [], body⟩) (hl : as.length = np) (hr : envOf as (ns - as.length) = r) (lo : ∀ a k, P a → MV.lows k (g a) = true)
    (e : Ws (evB T W (run T W defs n) body r m) (fun _ _ => False) (fun u mm => ∃ a j, u = .ref j ∧ P a ∧ m.length ≤ j ∧ mm[j]? = some (.lst (g a)) ∧ Lf m mm s c) noE noL) : ∃ a m', run T W defs (n + 1) f as m = .ok (.ref m.length) (m' ++ [.lst (g a)]) ∧ P a ∧ Left m m' s c := by
  subst hr
  rw [run_step h hl]
  dsimp only
  show ∃ a m', (evB T W (run T W defs n) body (envOf as (ns - as.length)) m).out m = _ ∧ _
  cases q : evB T W (run T W defs n) body (envOf as (ns - as.length)) m with
  | rt u mm =>
    rw [q] at e
    obtain ⟨a, j, rfl, p, hj, gj, k⟩ := ws_out_rt e
    obtain ⟨m', e1, l⟩ := k.out_ref hs hj gj (lo a _ p)
    exact ⟨a, m', e1, p, l⟩
  | nx r mm => rw [q] at e; exact (by with_unfolding_all exact e : False).elim
  | bk r mm => rw [q] at e; exact (by with_unfolding_all exact e : False).elim
  | ct r mm => rw [q] at e; exact (by with_unfolding_all exact e : False).elim
  | ex c fs r mm => rw [q] at e; exact (by with_unfolding_all exact e : False).elim
  | fail => rw [q] at e; exact (by with_unfolding_all exact e : False).elim
end
/-! ### single operations, by their values -/
section
variable {m : Mem} {Q : MV → Mem → Prop}
theorem op_cmp_eq {i j : Int} (q : Q (.bl (decide (i = j))) m) : Op (cmpop .Eq (.int i) (.int j) m) Q := by
  refine Op.of (v := .bl (decide (i = j))) (m := m) ?_ q
  show some (MV.bl (decide (MV.int i = MV.int j)), m) = _
  congr 3
  simp
theorem op_cmp_ne {i j : Int} (q : Q (.bl (decide (¬ i = j))) m) : Op (cmpop .NotEq (.int i) (.int j) m) Q := by
  refine Op.of (v := .bl (decide (¬ i = j))) (m := m) ?_ q
  show some (MV.bl (!decide (MV.int i = MV.int j)), m) = _
  congr 3
  simp
theorem op_cmp_lt {i j : Int} (q : Q (.bl (decide (i < j))) m) : Op (cmpop .Lt (.int i) (.int j) m) Q := by with_unfolding_all exact q
theorem op_cmp_le {i j : Int} (q : Q (.bl (decide (i ≤ j))) m) : Op (cmpop .LtE (.int i) (.int j) m) Q := by with_unfolding_all exact q
theorem op_cmp_gt {i j : Int} (q : Q (.bl (decide (j < i))) m) : Op (cmpop .Gt (.int i) (.int j) m) Q := by with_unfolding_all exact q
theorem op_cmp_ge {i j : Int} (q : Q (.bl (decide (j ≤ i))) m) : Op (cmpop .GtE (.int i) (.int j) m) Q := by with_unfolding_all exact q
theorem op_str_eq {x y : Txt} (q : Q (.bl (decide (x = y))) m) : Op (cmpop .Eq (.str x) (.str y) m) Q := by
  refine Op.of (v := .bl (decide (x = y))) (m := m) ?_ q
  show some (MV.bl (decide (MV.str x = MV.str y)), m) = _
  congr 3
  simp
theorem op_str_ne {x y : Txt} (q : Q (.bl (decide (¬ x = y))) m) : Op (cmpop .NotEq (.str x) (.str y) m) Q := by
  refine Op.of (v := .bl (decide (¬ x = y))) (m := m) ?_ q
  show some (MV.bl (!decide (MV.str x = MV.str y)), m) = _
  congr 3
  simp
theorem op_is_non {v : MV} (q : Q (.bl (decide (v = .non))) m) : Op (cmpop .Is v .non m) Q := by with_unfolding_all exact q
theorem op_isnot_non {v : MV} (q : Q (.bl (!decide (v = .non))) m) : Op (cmpop .IsNot v .non m) Q := by with_unfolding_all exact q
theorem op_add {i j : Int} (q : Q (.int (i + j)) m) : Op (binop .Add (.int i) (.int j) m) Q := by with_unfolding_all exact q
theorem op_sub {i j : Int} (q : Q (.int (i - j)) m) : Op (binop .Sub (.int i) (.int j) m) Q := by with_unfolding_all exact q
theorem op_mod {i j : Int} (h : 0 < j) (q : Q (.int (i % j)) m) : Op (binop .Mod (.int i) (.int j) m) Q := Op.of (by show (if 0 < j then some (MV.int (i % j), m) else none) = _; rw [if_pos h]) q
theorem op_fdiv {i j : Int} (h : 0 < j ∧ j < 1000000000001) (q : Q (.int (i / j)) m) : Op (binop .FloorDiv (.int i) (.int j) m) Q := Op.of (by
  show (if 0 < j ∧ j < 2 ^ 300 then some (MV.int (i / j), m) else none) = _
  rw [if_pos ⟨h.1, Int.lt_trans h.2 (by decide)⟩]) q
theorem op_mul {i j : Int} (h0 : (-100000000000000000000000000000000000000000000000000 ≤ i ∧ i ≤ 100000000000000000000000000000000000000000000000000) ∧ (-100000000000000000000000000000000000000000000000000 ≤ j ∧ j ≤ 100000000000000000000000000000000000000000000000000)) (q : Q (.int (i * j)) m) : Op (binop .Mult (.int i) (.int j) m) Q := by
  have b : (100000000000000000000000000000000000000000000000000 : Nat) < 2 ^ 200 := by decide
  have h : i.natAbs ≤ 100000000000000000000000000000000000000000000000000 ∧ j.natAbs ≤ 100000000000000000000000000000000000000000000000000 := by omega
  have e := mul_ok (mm := m) (Nat.lt_of_le_of_lt h.1 b) (Nat.lt_of_le_of_lt h.2 b)
  generalize binop .Mult (.int i) (.int j) m = o at e ⊢
  subst e
  exact Op.of rfl q
theorem op_pow {a b : Nat} (h : b ≤ 1000 ∧ a < 1000000) (q : Q (.int (((a ^ b : Nat) : Int))) m) : Op (binop .Pow (.int (a : Nat)) (.int (b : Nat)) m) Q := Op.of (v := .int ((a ^ b : Nat) : Int)) (m := m) (by
  show (if (0 : Int) ≤ (b : Nat) ∧ ((b : Nat) : Int) ≤ 1000 ∧ ((a : Nat) : Int).natAbs < 2 ^ 64 then some (MV.int (((a : Nat) : Int) ^ ((b : Nat) : Int).toNat), m) else none) = _
  rw [if_pos ⟨by omega, by omega, by rw [Int.natAbs_natCast]; exact Nat.lt_trans h.2 (by decide)⟩, Int.toNat_natCast]
  rw [Int.natCast_pow]) q
section
variable {v : MV} {m1 : Mem} {x y : MV} {vs : List MV}
theorem of_cmp {op : CmpOp} (h : cmpop op x y m = some (v, m1)) (q : Q v m1) : Op (cmpop op x y m) Q := .of h q
theorem of_sub (h : subscr x y m = some (v, m1)) (q : Q v m1) : Op (subscr x y m) Q := .of h q
theorem of_blt {f : BF} (h : builtin f vs m = some (v, m1)) (q : Q v m1) : Op (builtin f vs m) Q := .of h q
theorem of_fld {T : Tab} {f : Nat} (h : getF T x f m = some (v, m1)) (q : Q v m1) : Op (getF T x f m) Q := .of h q
theorem of_rev (h : revv x m = some (v, m1)) (q : Q v m1) : Op (revv x m) Q := .of h q
theorem of_din {l : List (Txt × Int)} {b : Bool} (h : dinv l b x m = some (v, m1)) (q : Q v m1) : Op (dinv l b x m) Q := .of h q
theorem of_dix {l : List (Txt × Int)} (h : dixv l x m = some (v, m1)) (q : Q v m1) : Op (dixv l x m) Q := .of h q
end
theorem op_tadd {x y : List MV} (h : x.length + y.length ≤ 100000) (q : Q (.tup (x ++ y)) m) : Op (binop .Add (.tup x) (.tup y) m) Q := Op.of (by show (if x.length + y.length ≤ line then some (MV.tup (x ++ y), m) else none) = _; rw [if_pos (Nat.le_trans h (by decide))]) q
theorem op_sadd {x y : Txt} (h : x.length + y.length ≤ 100000) (q : Q (.str (x ++ y)) m) : Op (binop .Add (.str x) (.str y) m) Q := Op.of (by show (if x.length + y.length ≤ line then some (MV.str (x ++ y), m) else none) = _; rw [if_pos (Nat.le_trans h (by decide))]) q
theorem op_ladd {i j : Nat} {x y : List MV} (h1 : m[i]? = some (.lst x)) (h2 : m[j]? = some (.lst y)) (h : x.length + y.length ≤ 100000) (q : Q (.ref m.length) (m ++ [.lst (x ++ y)])) : Op (binop .Add (.ref i) (.ref j) m) Q := Op.of (by
  show (match m[i]?, m[j]? with
    | some (.lst x), some (.lst y) => if x.length + y.length ≤ line then alloc (.lst (x ++ y)) m else none
    | _, _ => none) = _
  rw [h1, h2]
  dsimp only
  rw [if_pos (Nat.le_trans h (by decide))]
  rfl) q
theorem op_neg {i : Int} (q : Q (.int (-i)) m) : Op (negv (.int i) m) Q := by with_unfolding_all exact q
theorem op_idx {xs : List MV} {i : Int} {v : MV} (h : L2.atI xs i = some v) (q : Q v m) : Op (subscr (.tup xs) (.int i) m) Q := Op.of (by show (match L2.atI xs i with | some y => some (y, m) | none => none) = _; rw [h]) q
theorem op_idxl {n : Nat} {xs : List MV} {i : Int} {v : MV} (g : m[n]? = some (.lst xs)) (h : L2.atI xs i = some v) (q : Q v m) : Op (subscr (.ref n) (.int i) m) Q := Op.of (by
  show (match m[n]? with
    | some (.lst xs) => (match L2.atI xs i with | some y => some (y, m) | none => none)
    | some (.frz xs) => (match L2.atI xs i with | some y => some (y, m) | none => none)
    | _ => none) = _
  rw [g]; dsimp only; rw [h]) q
theorem op_idxs {x : Txt} {i : Int} {k : Nat} (hl : x.length ≤ 100000) (h : L2.atI x i = some k) (q : Q (.str [k]) m) : Op (subscr (.str x) (.int i) m) Q := Op.of (by
  show (if x.length ≤ line then (match L2.atI x i with | some c => some (MV.str [c], m) | none => none) else none) = _
  rw [if_pos (Nat.le_trans hl (by decide)), h]) q
theorem op_lent {xs : List MV} (q : Q (.int (xs.length : Nat)) m) : Op (builtin .len [.tup xs] m) Q := by with_unfolding_all exact q
theorem op_lens {x : Txt} (hl : x.length ≤ 100000) (q : Q (.int (x.length : Nat)) m) : Op (builtin .len [.str x] m) Q := Op.of (by show (if x.length ≤ line then some (MV.int x.length, m) else none) = _; rw [if_pos (Nat.le_trans hl (by decide))]) q
theorem op_lenl {n : Nat} {xs : List MV} (g : m[n]? = some (.lst xs)) (q : Q (.int (xs.length : Nat)) m) : Op (builtin .len [.ref n] m) Q := Op.of (by
  show (match m[n]? with | some (.lst xs) => some (MV.int xs.length, m) | some (.frz xs) => some (MV.int xs.length, m) | _ => none) = _
  rw [g]) q
theorem op_tupl {n : Nat} {xs : List MV} (g : m[n]? = some (.lst xs)) (q : Q (.tup xs) m) : Op (builtin .tuple [.ref n] m) Q := Op.of (by
  show (match m[n]? with | some (.lst xs) => some (MV.tup xs, m) | some (.frz xs) => some (MV.tup xs, m) | _ => none) = _
  rw [g]) q
theorem op_listt {xs : List MV} (q : Q (.ref m.length) (m ++ [.lst xs])) : Op (builtin .list [.tup xs] m) Q := by with_unfolding_all exact q
theorem op_listl {n : Nat} {xs : List MV} (g : m[n]? = some (.lst xs)) (q : Q (.ref m.length) (m ++ [.lst xs])) : Op (builtin .list [.ref n] m) Q := Op.of (by
  show (match m[n]? with | some (.lst xs) => alloc (.lst xs) m | some (.frz xs) => alloc (.lst xs) m | _ => none) = _
  rw [g]; rfl) q
theorem op_abs {i : Int} (q : Q (.int (if i < 0 then -i else i)) m) : Op (builtin .abs [.int i] m) Q := by with_unfolding_all exact q
theorem op_intb {b : Bool} (q : Q (.int (if b then 1 else 0)) m) : Op (builtin .int [.bl b] m) Q := by with_unfolding_all exact q
theorem op_slct {xs : List MV} {lo hi : Option Int} (q : Q (.tup (cut xs lo hi)) m) : Op (slice (.tup xs) lo hi m) Q := by with_unfolding_all exact q
theorem op_slcl {n : Nat} {xs : List MV} {lo hi : Option Int} (g : m[n]? = some (.lst xs)) (q : Q (.ref m.length) (m ++ [.lst (cut xs lo hi)])) : Op (slice (.ref n) lo hi m) Q := Op.of (by
  show (match m[n]? with | some (.lst xs) => alloc (.lst (cut xs lo hi)) m | some (.frz xs) => alloc (.lst (cut xs lo hi)) m | _ => none) = _
  rw [g]; rfl) q
theorem op_slcs {x : Txt} {lo hi : Option Int} (hl : x.length ≤ 100000) (q : Q (.str (cut x lo hi)) m) : Op (slice (.str x) lo hi m) Q := Op.of (by show (if x.length ≤ line then some (MV.str (cut x lo hi), m) else none) = _; rw [if_pos (Nat.le_trans hl (by decide))]) q
theorem op_in {n : Nat} {x : MV} {xs : List MV} {b : Bool} (g : m[n]? = some (.lst xs)) (h : inSeq x xs = some b) (q : Q (.bl b) m) : Op (cmpop .In x (.ref n) m) Q := Op.of (v := .bl b) (m := m) (by
  show okb (match m[n]? with | some (.lst ys) => inSeq x ys | some (.frz ys) => inSeq x ys | _ => none) m = _
  rw [g]; dsimp only; rw [h]; rfl) q
theorem op_notin {n : Nat} {x : MV} {xs : List MV} {b : Bool} (g : m[n]? = some (.lst xs)) (h : inSeq x xs = some b) (q : Q (.bl (!b)) m) : Op (cmpop .NotIn x (.ref n) m) Q := Op.of (v := .bl (!b)) (m := m) (by
  show okb ((match m[n]? with | some (.lst ys) => inSeq x ys | some (.frz ys) => inSeq x ys | _ => none).map (!·)) m = _
  rw [g]; dsimp only; rw [h]; rfl) q
theorem op_append {n : Nat} {xs : List MV} {v : MV} (g : m[n]? = some (.lst xs)) (hl : xs.length ≤ 100000) (q : Q .non (m.set n (.lst (xs ++ [v])))) : Op (method .append (.ref n) [v] m) Q := Op.of (by
  show (match m[n]? with | some (.lst xs) => if xs.length < line then some (MV.non, m.set n (.lst (xs ++ [v]))) else none | _ => none) = _
  rw [g]; dsimp only; rw [if_pos (Nat.lt_of_le_of_lt hl (by decide))]) q
theorem op_extend {n k : Nat} {xs ys : List MV} (g : m[n]? = some (.lst xs)) (g2 : m[k]? = some (.lst ys)) (hl : xs.length + ys.length ≤ 100000) (q : Q .non (m.set n (.lst (xs ++ ys)))) : Op (method .extend (.ref n) [.ref k] m) Q := Op.of (by
  show (match m[n]?, m[k]? with | some (.lst xs), some (.lst ys) => if xs.length + ys.length ≤ line then some (MV.non, m.set n (.lst (xs ++ ys))) else none | _, _ => none) = _
  rw [g, g2]; dsimp only; rw [if_pos (Nat.le_trans hl (by decide))]) q
theorem recv_a {n : Nat} {xs : List MV} (g : m[n]? = some (.lst xs)) : recv m .append (.ref n) = true := by show (match m[n]? with | some (.lst _) => true | _ => false) = true; rw [g]
theorem recv_j {x : Txt} : recv m .join (.str x) = true := rfl
theorem recv_e {n : Nat} {xs : List MV} (g : m[n]? = some (.lst xs)) : recv m .extend (.ref n) = true := by show (match m[n]? with | some (.lst _) => true | _ => false) = true; rw [g]
theorem wk_ref {n : Nat} {xs : List MV} {Q : Walked → Prop} (g : m[n]? = some (.lst xs)) (q : Q ⟨xs, some (n, false)⟩) : Me (walkOf (.ref n) m) Q := me_of (by
  show (match m[n]? with | some (.lst xs) => some (Walked.mk xs (some (n, false))) | some (.frz xs) => some (Walked.mk xs (some (n, false))) | _ => none) = _
  rw [g]) q
theorem wt_tup {xs : List MV} {Q : Walked → Prop} (q : Q ⟨xs, none⟩) : Me (walkOf (.tup xs) m) Q := by with_unfolding_all exact q
theorem wt_str {x : Txt} {Q : Walked → Prop} (q : Q ⟨x.map fun c => .str [c], none⟩) : Me (walkOf (.str x) m) Q := by with_unfolding_all exact q
theorem en_ref {n : Nat} {xs : List MV} {Q : Walked → Prop} (g : m[n]? = some (.lst xs)) (q : Q ⟨enumI xs, some (n, true)⟩) : Me (enumOf (.ref n) m) Q := me_of (by
  show (match m[n]? with | some (.lst xs) => some (Walked.mk (enumI xs) (some (n, true))) | some (.frz xs) => some (Walked.mk (enumI xs) (some (n, true))) | _ => none) = _
  rw [g]) q
theorem stl {n : Nat} {xs : List MV} (g : m[n]? = some (.lst xs)) : Walked.still ⟨xs, some (n, false)⟩ m = true := by
  unfold Walked.still
  dsimp only
  rw [g]
  exact (MV.eqbs_iff _ _).mpr rfl
theorem stle {n : Nat} {xs : List MV} (g : m[n]? = some (.lst xs)) : Walked.still ⟨enumI xs, some (n, true)⟩ m = true := by
  unfold Walked.still
  dsimp only
  rw [g]
  exact (MV.eqbs_iff _ _).mpr rfl
theorem stl0 {xs : List MV} : Walked.still ⟨xs, none⟩ m = true := rfl
theorem tr_tup {xs : List MV} {Q : Bool → Prop} (q : Q (!xs.isEmpty)) : Tr m (.tup xs) Q := by with_unfolding_all exact q
theorem tr_int {i : Int} {Q : Bool → Prop} (q : Q (i != 0)) : Tr m (.int i) Q := by with_unfolding_all exact q
theorem tr_non {Q : Bool → Prop} (q : Q false) : Tr m .non Q := by with_unfolding_all exact q
theorem op_setI {n k : Nat} {xs : List MV} {y : MV} {Q : Mem → Prop} (g : m[n]? = some (.lst xs)) (hk : k < xs.length) (q : Q (m.set n (.lst (xs.set k y)))) : Me (setI (.ref n) (.int (k : Nat)) y m) Q := me_of (by
  show (match m[n]? with | some (.lst xs) => (L2.ixN xs.length (k : Int)).map fun k => m.set n (.lst (xs.set k y)) | _ => none) = _
  rw [g]; dsimp only; rw [ixN_ok hk]; rfl) q
theorem op_repr {v : MV} (hf : v.fine = true) (hd : v.dep < 1000) (hw : v.wide ≤ line) (q : Q (.str v.rp) m) : Op (builtin .repr [v] m) Q := Op.of (repr_v hf hd hw) q
theorem op_reprl {n : Nat} {xs : List MV} (g : m[n]? = some (.lst xs)) (hf : MV.fines xs = true) (hd : MV.deps xs < 999) (hw : MV.wides xs + 2 ≤ line) (q : Q (.str (rpL xs)) m) : Op (builtin .repr [.ref n] m) Q := Op.of (repr_l g hf hd hw) q
end
/-- a comprehension whose things change the memory -/
theorem lm_inv {T : Tab} {cl : CallF} {elt : CE} {i : Nat} {r : Env} {w : Walked} {m : Mem} {Q : MV → Mem → Prop} {X : QX} (I : Nat → List MV → Mem → Prop) (hw : w.src = none) (h0 : I 0 [] (m ++ [.lst []]))
    (hb : ∀ j x, w.items[j]? = some x → ∀ acc mm, I j acc mm → We (evE T cl elt (r.set i (.val x)) mm) (fun v m' => m'[m.length]? = some (.lst acc) ∧ acc.length < 100000 ∧ I (j + 1) (acc ++ [v]) (m'.set m.length (.lst (acc ++ [v])))) noX)
    (q : ∀ acc mm, I w.items.length acc mm → Q (.ref m.length) mm) : Lm T cl elt i r w m Q X := by
  have still : ∀ mm, w.still mm = true := fun mm => by unfold Walked.still; rw [hw]
  have key : ∀ (l : List MV) (k : Nat) (acc : List MV) (mm : Mem), (∀ j, l[j]? = w.items[k + j]?) → k + l.length = w.items.length → I k acc mm → We (lcGo w m.length (fun _ m2 => .ok (.bl true) m2) (fun x m2 => evE T cl elt (r.set i (.val x)) m2) l mm) Q X := fun l => by
    induction l with
    | nil =>
      intro k acc mm _ hk hI
      refine We.of (lc_nil (still _)) (q acc mm ?_)
      rw [← hk]
      exact hI
    | cons x l ih =>
      intro k acc mm hj hk hI
      have z := hb k x (by rw [← Nat.add_zero k, ← hj 0]; rfl) acc mm hI
      cases e : evE T cl elt (r.set i (.val x)) mm with
      | ok v m' =>
        rw [e] at z
        obtain ⟨z1, z2, z3⟩ := we_out z
        rw [lc_cons (t := fun _ m2 => .ok (.bl true) m2) (e := fun x m2 => evE T cl elt (r.set i (.val x)) m2) (m1 := mm) (still mm) rfl e z1 (Nat.lt_of_lt_of_le z2 (by decide))]
        exact ih (k + 1) _ _ (fun j => by rw [Nat.add_assoc, Nat.add_comm 1 j, ← hj (j + 1)]; rfl) (by rw [List.length_cons] at hk; omega) z3
      | ex c fs m' =>
        rw [e] at z
        exact (by with_unfolding_all exact z : False).elim
      | fail =>
        rw [e] at z
        exact (by with_unfolding_all exact z : False).elim
  have z := key w.items 0 [] _ (fun j => by rw [Nat.zero_add]) (Nat.zero_add _) h0
  with_unfolding_all exact z
theorem at0 {α : Type} {x : α} {xs : List α} : L2.atI (x :: xs) 0 = some x := L2.atI_nat (j := 0) rfl
theorem at1 {α : Type} {x y : α} {xs : List α} : L2.atI (x :: y :: xs) 1 = some y := L2.atI_nat (j := 1) rfl
theorem at2 {α : Type} {x y z : α} {xs : List α} : L2.atI (x :: y :: z :: xs) 2 = some z := L2.atI_nat (j := 2) rfl
theorem at3 {α : Type} {x y z u : α} {xs : List α} : L2.atI (x :: y :: z :: u :: xs) 3 = some u := L2.atI_nat (j := 3) rfl
theorem atn {α : Type} {xs : List α} {k : Nat} {v : α} (h : xs[k]? = some v) : L2.atI xs (k : Int) = some v := L2.atI_nat h
theorem rng_at {i : Int} {j : Nat} {x : MV} (h : (rng 0 i)[j]? = some x) : x = .int (j : Nat) ∧ (j : Int) < i := by
  unfold rng at h
  rw [List.getElem?_map, Option.map_eq_some_iff] at h
  obtain ⟨a, ha, rfl⟩ := h
  obtain ⟨hl, e⟩ := List.getElem?_eq_some_iff.mp ha
  rw [List.getElem_range] at e
  subst e
  rw [List.length_range] at hl
  exact ⟨by rw [Int.zero_add], by omega⟩
theorem rng_many {i : Int} : (rng 0 i).length = i.toNat := by
  unfold rng
  rw [List.length_map, List.length_range, Int.sub_zero]
theorem at_some {α : Type} {l : List α} {k : Nat} (h : k < l.length) : ∃ v, L2.atI l (k : Int) = some v ∧ v ∈ l := ⟨l[k], L2.atI_nat (List.getElem?_eq_getElem h), List.getElem_mem h⟩
/-- the law's own def: it tells True -/
theorem run_asked {T : Tab} {W : Nat} {defs : Nat → Option FD} {n f np ns : Nat} {body : List CS} {r : Env} {zs : List Int} (h : defs f = some ⟨np, ns, [], body⟩) (hl : 1 = np) (hr : envOf [.ref 0] (ns - 1) = r)
    (e : Ws (evB T W (run T W defs n) body r [.frz (zs.map MV.int)]) (fun _ _ => False) (fun u _ => u = .bl true) noE noL) : Asked (run T W defs (n + 1) f) zs := by
  subst hr
  show ∃ m', run T W defs (n + 1) f [.ref 0] [.frz (zs.map MV.int)] = _
  rw [run_step (as := [.ref 0]) h hl]
  show ∃ m', (evB T W (run T W defs n) body (envOf [.ref 0] (ns - 1)) [.frz (zs.map MV.int)]).out [.frz (zs.map MV.int)] = _
  cases q : evB T W (run T W defs n) body (envOf [.ref 0] (ns - 1)) [.frz (zs.map MV.int)] with
  | rt u mm =>
    rw [q] at e
    obtain rfl : u = .bl true := ws_out_rt e
    show ∃ m', gcV _ _ _ = _
    unfold gcV
    split
    · rw [if_pos (show MV.low _ (.bl true) = true from rfl)]
      exact ⟨_, rfl⟩
    · exact ⟨_, rfl⟩
  | nx r mm => rw [q] at e; exact (by with_unfolding_all exact e : False).elim
  | bk r mm => rw [q] at e; exact (by with_unfolding_all exact e : False).elim
  | ct r mm => rw [q] at e; exact (by with_unfolding_all exact e : False).elim
  | ex c fs r mm => rw [q] at e; exact (by with_unfolding_all exact e : False).elim
  | fail => rw [q] at e; exact (by with_unfolding_all exact e : False).elim
end U
end Part_UF

section Part_M12G
set_option Elab.async false
set_option linter.all false
set_option maxRecDepth 100000
set_option maxHeartbeats 4000000
/-! M12G: what draws need. -/
namespace LW
open U
open PySem (Operator CmpOp)
theorem set_lst {L k : Nat} {xs : List MV} {y : MV} {m : Mem} (h : m[L]? = some (.lst xs)) (hk : k < xs.length) : setI (.ref L) (.int (k : Nat)) y m = some (m.set L (.lst (xs.set k y))) := by
  show (match m[L]? with | some (.lst xs) => (L2.ixN xs.length (k : Int)).map fun j => m.set L (.lst (xs.set j y)) | _ => none) = _
  rw [h]
  dsimp only
  rw [ixN_ok hk]
  rfl
theorem pow18 {m : Mem} : binop .Pow (.int 10) (.int 18) m = some (.int 1000000000000000000, m) := by
  show (if (0 : Int) ≤ 18 ∧ (18 : Int) ≤ 1000 ∧ (10 : Int).natAbs < 2 ^ 64 then some (MV.int (10 ^ (18 : Int).toNat), m) else none) = _
  rw [if_pos (by decide)]
  rfl
section
variable {W : Nat}
/-- the end of a draw -/
theorem draw_end {m mm : Mem} {s c : Nat} {cs' : List Int} {i' j' : Int} {r : Int} (h : Sd m s c) (hl : mm.length = m.length) (h' : St mm s c cs' i' j') (old : ∀ k, k ≠ s → k ≠ c → mm[k]? = m[k]?) : (RS.rt (.int r) mm).out m = .ok (.int r) mm ∧ Left m mm s c := by
  have a : Lf m mm s c := ⟨⟨cs', i', j', h'⟩, by omega, fun k _ h1 h2 => old k h1 h2⟩
  refine ⟨?_, ⟨⟨cs', i', j', h'⟩, hl, old⟩⟩
  rw [out_low (a.okOld h) rfl, List.take_of_length_le (by omega)]
theorem run_draw {T : Tab} {defs : Nat → Option FD} {n f np ns : Nat} {body : List CS} {as : List MV} {r : Env} {m : Mem} {s c : Nat} {z : Int} (hh : Sd m s c) (h : defs f = some ⟨np, ns, [], body⟩) (hl : as.length = np) (hr : envOf as (ns - as.length) = r)
    (e : Ws (evB T W (run T W defs n) body r m) (fun _ _ => False) (fun u mm => ∃ r : Int, u = .int r ∧ (0 ≤ r ∧ r < z) ∧ mm.length = m.length ∧ (∃ cs i j, St mm s c cs i j) ∧ ∀ k, k ≠ s → k ≠ c → mm[k]? = m[k]?) noE noL) : ∃ (r : Nat) (m' : Mem), run T W defs (n + 1) f as m = .ok (.int (r : Nat)) m' ∧ (r : Int) < z ∧ Left m m' s c := by
  subst hr
  rw [run_step h hl]
  show ∃ (r : Nat) (m' : Mem), (evB T W (run T W defs n) body (envOf as (ns - as.length)) m).out m = _ ∧ _
  cases q : evB T W (run T W defs n) body (envOf as (ns - as.length)) m with
  | rt u mm =>
    rw [q] at e
    obtain ⟨r, rfl, ⟨h0, h1⟩, hl, ⟨cs, i, j, hst⟩, old⟩ := ws_out_rt e
    obtain ⟨a1, a2⟩ := draw_end (r := r) hh hl hst old
    obtain ⟨k, rfl⟩ : ∃ k : Nat, r = (k : Int) := ⟨r.toNat, by omega⟩
    exact ⟨k, mm, a1, h1, a2⟩
  | nx r mm => rw [q] at e; exact (by with_unfolding_all exact e : False).elim
  | bk r mm => rw [q] at e; exact (by with_unfolding_all exact e : False).elim
  | ct r mm => rw [q] at e; exact (by with_unfolding_all exact e : False).elim
  | ex c fs r mm => rw [q] at e; exact (by with_unfolding_all exact e : False).elim
  | fail => rw [q] at e; exact (by with_unfolding_all exact e : False).elim
end
end LW
end Part_M12G

section Part_B12
set_option Elab.async false
set_option linter.all false
set_option maxRecDepth 100000
set_option maxHeartbeats 4000000
/-! B12: a draw, where the law names the cells. -/
namespace LW
open U
open PySem (Operator CmpOp)
local macro_rules | `(tactic| walk_at "g") => `(tactic| first | (with_reducible assumption) | (with_reducible exact getE_new) | ((with_reducible apply getE_old); walk_at "g") | ((with_reducible apply Keep.get); (with_reducible assumption); (with_reducible assumption)))
local macro_rules | `(tactic| walk_at "k") => `(tactic| first | (with_reducible exact Keep.refl) | ((with_reducible apply Keep.push); walk_at "k") | ((with_reducible apply Keep.set); walk_at "k"; ((try simp only [List.length_append, List.length_set, List.length_cons, List.length_nil]); omega)) | (with_reducible assumption))
local macro_rules | `(tactic| walk_at "d") => `(tactic| first | (with_reducible assumption) | omega | decide)
local macro_rules | `(tactic| walk_at "n") => `(tactic| first | (with_reducible assumption) | omega | exact Nat.le_of_ble_eq_true rfl | (simp only [List.length_append, List.length_cons, List.length_nil, List.length_map, List.length_reverse]; omega))
local macro_rules | `(tactic| walk_at "D") => `(tactic| first | (with_reducible assumption) | ((with_reducible apply Lf.st); (with_reducible assumption)) | ((with_reducible apply Sd.more); walk_at "D"))
local macro_rules | `(tactic| walk_at "h") => `(tactic| first | (with_reducible assumption) | omega | exact Sd.ne1 (by walk_at "D") | exact Sd.ne2 (by walk_at "D"))
local macro_rules | `(tactic| walk_at "L") => `(tactic| first | (with_reducible assumption) | ((with_reducible apply Lf.refl); walk_at "D") | ((with_reducible apply Lf.push); walk_at "L") | ((with_reducible apply Lf.thn); (with_reducible assumption); walk_at "L"))
local macro_rules | `(tactic| walk_at "a") => `(tactic| first | exact at0 | exact at1 | exact at2 | exact at3 | (with_reducible assumption) | exact (atn (by with_reducible assumption)) | exact rfl)
local macro_rules | `(tactic| walk_at "S") => `(tactic| first | (focus (simp only [Tg.put, setAll, envOf, List.map_cons, List.map_nil, List.length_cons, List.length_nil, Nat.reduceAdd, Nat.reduceSub, List.reduceReplicate, List.replicate_zero, List.cons_append, List.nil_append, List.append_nil, List.set_cons_succ, List.set_cons_zero, List.set_nil]; try exact rfl)) | exact rfl)
local macro_rules | `(tactic| walk_at "y") => `(tactic| first | fail)
local macro_rules | `(tactic| walk_at "c") => `(tactic| first | walk_at "y" | ((with_reducible refine' We.of ?h0 ?_); (case h0 => with_reducible assumption)) | ((with_reducible refine' We.exn ?h0 ?_); (case h0 => with_reducible assumption)) | with_reducible refine wi_of ?_ | with_reducible refine wi_enum ?_ | with_reducible refine wi_rng ?_)
local macro_rules | `(tactic| walk_at "o") => `(tactic| first | with_reducible refine op_cmp_eq ?_ | with_reducible refine op_cmp_lt ?_ | with_reducible refine op_str_eq ?_ | ((with_reducible refine' op_idx ?h0 ?_); (case h0 => walk_at "a")) | with_reducible refine op_add ?_ | with_reducible refine op_sub ?_ | ((with_reducible refine' op_idxl ?h0 ?h1 ?_); (case h0 => walk_at "g"); (case h1 => walk_at "a")) | with_reducible refine op_cmp_ne ?_ | with_reducible refine op_cmp_le ?_ | with_reducible refine op_cmp_gt ?_ | with_reducible refine op_cmp_ge ?_ | with_reducible refine op_str_ne ?_ | with_reducible refine op_is_non ?_ | with_reducible refine op_isnot_non ?_ | ((with_reducible refine' op_mod ?h0 ?_); (case h0 => walk_at "d")) | ((with_reducible refine' op_fdiv ?h0 ?_); (case h0 => walk_at "d")) | ((with_reducible refine' op_mul ?h0 ?_); (case h0 => walk_at "d")) | ((with_reducible refine' op_fdiv ?h0 ?_); (case h0 => walk_at "d")) | ((with_reducible refine' op_mul ?h0 ?_); (case h0 => walk_at "d")) | with_reducible refine op_neg ?_ | with_reducible refine op_lent ?_ | ((with_reducible refine' op_lenl ?h0 ?_); (case h0 => walk_at "g")) | ((with_reducible refine' op_tupl ?h0 ?_); (case h0 => walk_at "g")) | with_reducible refine op_listt ?_ | ((with_reducible refine' op_listl ?h0 ?_); (case h0 => walk_at "g")) | with_reducible refine op_abs ?_ | with_reducible refine op_intb ?_ | with_reducible refine op_slct ?_ | ((with_reducible refine' op_slcl ?h0 ?_); (case h0 => walk_at "g")) | ((with_reducible refine' op_in ?h0 ?h1 ?_); (case h0 => walk_at "g"); (case h1 => (first | assumption | rfl))) | ((with_reducible refine' op_notin ?h0 ?h1 ?_); (case h0 => walk_at "g"); (case h1 => (first | assumption | rfl))) | ((with_reducible refine' op_append ?h0 ?h1 ?_); (case h0 => walk_at "g"); (case h1 => walk_at "n")) | ((with_reducible refine' op_extend ?h0 ?h1 ?h2 ?_); (case h0 => walk_at "g"); (case h1 => walk_at "g"); (case h2 => walk_at "n")) | ((with_reducible refine' op_ladd ?h0 ?h1 ?h2 ?_); (case h0 => walk_at "g"); (case h1 => walk_at "g"); (case h2 => walk_at "n")) | ((with_reducible refine' op_tadd ?h0 ?_); (case h0 => walk_at "n")) | ((with_reducible refine' op_sadd ?h0 ?_); (case h0 => walk_at "n")) | ((with_reducible refine' op_lens ?h0 ?_); (case h0 => walk_at "n")) | ((with_reducible refine' op_slcs ?h0 ?_); (case h0 => walk_at "n")) | walk_at "y" | ((with_reducible refine' of_fld ?h0 ?_); (case h0 => exact rfl)) | ((with_reducible refine' of_cmp ?h0 ?_); (case h0 => exact rfl)) | ((with_reducible refine' of_sub ?h0 ?_); (case h0 => exact rfl)) | ((with_reducible refine' of_blt ?h0 ?_); (case h0 => exact rfl)) | ((with_reducible refine' of_rev ?h0 ?_); (case h0 => exact rfl)) | ((with_reducible refine' of_din ?h0 ?_); (case h0 => exact rfl)) | ((with_reducible refine' of_dix ?h0 ?_); (case h0 => exact rfl)))
local macro_rules | `(tactic| walk_at "e") => `(tactic| first | ((with_reducible refine' w_var ?h0 ?_); (case h0 => exact rfl)) | with_reducible refine w_int ?_ | with_reducible refine w_str ?_ | with_reducible refine w_cmp ?_ | with_reducible refine w_idx ?_ | with_reducible refine w_call0 ?_ | with_reducible refine w_bl ?_ | with_reducible refine w_non ?_ | with_reducible refine w_and ?_ | with_reducible refine w_or ?_ | with_reducible refine w_not ?_ | with_reducible refine w_bin ?_ | with_reducible refine w_tup ?_ | with_reducible refine w_lst ?_ | with_reducible refine w_blt ?_ | with_reducible refine w_bm ?_ | with_reducible refine w_meth0 ?_ | with_reducible refine w_fld ?_ | with_reducible refine w_isi ?_ | with_reducible refine w_ife ?_ | with_reducible refine w_slc10 ?_ | with_reducible refine w_slc01 ?_ | with_reducible refine w_slc11 ?_ | with_reducible refine w_slc00 ?_ | with_reducible refine w_rev ?_ | with_reducible refine w_new0 ?_ | with_reducible refine w_neg ?_ | with_reducible refine w_chain ?_ | with_reducible refine w_lc0 ?_ | with_reducible refine w_lc1 ?_ | with_reducible refine w_call ?_ | with_reducible refine w_new ?_ | with_reducible refine w_meth ?_ | walk_at "y" | with_reducible refine w_con ?_ | with_reducible refine w_din ?_ | with_reducible refine w_dix ?_ | ((with_reducible refine' w_xfld ?h0 ?h1 ?h2 ?_); (case h0 => exact rfl); (case h1 => exact rfl); (case h2 => exact rfl)) | ((with_reducible refine' w_xisi ?h0 ?_); (case h0 => exact rfl)) | with_reducible refine w_fstr ?_)
local macro_rules | `(tactic| walk_at "t") => `(tactic| first | with_reducible refine wb_cons ?_ | with_reducible refine ws_asg ?_ | with_reducible refine ws_ret ?_ | with_reducible refine ws_ifs ?_ | with_reducible refine wb_nil ?_ | with_reducible refine ws_expr ?_ | with_reducible refine ws_for ?_ | with_reducible refine ws_unp ?_ | with_reducible refine ws_setf ?_ | with_reducible refine ws_seti ?_ | ((with_reducible refine' ws_aug ?h0 ?_); (case h0 => exact rfl)) | with_reducible refine ws_try ?_ | with_reducible refine ws_whl ?_ | with_reducible refine ws_retn ?_ | with_reducible refine ws_pass ?_ | with_reducible refine ws_brk ?_ | with_reducible refine ws_cont ?_)
local macro_rules | `(tactic| walk_at "r") => `(tactic| first | with_reducible refine br_tt ?_ | with_reducible refine br_ff ?_ | with_reducible refine br_not ?_ | ((with_reducible refine' br_dt ?h0 ?_); (case h0 => walk_at "d")) | ((with_reducible refine' br_df ?h0 ?_); (case h0 => walk_at "d")) | ((with_reducible refine' br_t ?h0 ?_); (case h0 => (first | assumption | rfl))) | ((with_reducible refine' br_f ?h0 ?_); (case h0 => (first | assumption | rfl))))
local macro_rules | `(tactic| walk_at "b") => `(tactic| first | with_reducible refine tr_bl ?_ | with_reducible refine tr_tup ?_ | with_reducible refine tr_int ?_ | with_reducible refine tr_non ?_ | with_reducible refine isI ?_ | ((with_reducible refine' wk_ref ?h0 ?_); (case h0 => walk_at "g")) | ((with_reducible refine' en_ref ?h0 ?_); (case h0 => walk_at "g")) | with_reducible refine wt_tup ?_ | with_reducible refine wt_str ?_ | with_reducible refine And.intro (le_line rfl) ?_ | with_reducible refine And.intro (recv_a (by walk_at "g")) ?_ | with_reducible refine And.intro (recv_e (by walk_at "g")) ?_ | with_reducible refine And.intro recv_j ?_ | ((with_reducible refine' cl_yes ?h0 ?h1 ?_); (case h0 => exact rfl); (case h1 => exact rfl)) | ((with_reducible refine' cl_no ?h0 ?h1 ?_); (case h0 => exact rfl); (case h1 => exact rfl)) | ((with_reducible refine' rgi ?h0 ?_); (case h0 => omega)) | ((with_reducible refine' clear_of ?h0 ?_); (case h0 => exact rfl)) | ((with_reducible refine' se_of ?h0 ?_); (case h0 => walk_at "S")) | ((with_reducible refine' me_put ?h0 ?_); (case h0 => walk_at "S")) | with_reducible refine ft_cons ?_ | with_reducible refine ft_nil ?_ | walk_at "y" | ((with_reducible refine' me_of ?h0 ?_); (case h0 => exact rfl)))
local macro_rules | `(tactic| walk_at "1") => `(tactic| first | ((with_reducible show Ws _ _ _ _ _); walk_at "t") | ((with_reducible show We (evE _ _ _ _ _) _ _); walk_at "e") | with_reducible refine wl_cons ?_ | with_reducible refine wl_nil ?_ | ((with_reducible show Op _ _); walk_at "o") | ((with_reducible show Br _ _ _); walk_at "r") | ((with_reducible show We _ _ _); walk_at "c") | walk_at "b")
local macro_rules | `(tactic| walk_at "w") => `(tactic| repeat walk_at "1")
section
variable {W : Nat}
theorem draw_z {n : Nat} {m : Mem} {s c : Nat} {z : Int} (hh : Sd m s c) (hz : 0 < z) (hz2 : z < 1000000000000) : ∃ (r : Nat) (m' : Mem), run dat.T W dat.defs (n + 1) i_law_draw [.ref s, .int z] m = .ok (.int (r : Nat)) m' ∧ (r : Int) < z ∧ Left m m' s c := by
  obtain ⟨cs, i, j, h⟩ := hh.ex
  have hs := h.at_s
  have hc := h.at_c
  have hlen : 0 < cs.length := List.length_pos_iff.mpr h.some_
  have hj := h.hj
  have hj2 := h.hj2
  have hi := h.hi
  have lenc : (cs.map MV.int).length = cs.length := List.length_map ..
  obtain ⟨k, hk⟩ : ∃ k : Nat, i % ((cs.map MV.int).length : Nat) = (k : Int) := ⟨(i % ((cs.map MV.int).length : Nat)).toNat, by have := Int.emod_nonneg i (by omega : ((cs.map MV.int).length : Int) ≠ 0); omega⟩
  have hk2 : k < cs.length := by have := Int.emod_lt_of_pos i (by omega : 0 < ((cs.map MV.int).length : Int)); omega
  obtain ⟨x, hx⟩ : ∃ x, cs[k]? = some x := ⟨_, List.getElem?_eq_getElem hk2⟩
  have hx0 : 0 ≤ x := h.nn x (List.mem_of_getElem? hx)
  have hat : L2.atI (cs.map MV.int) (k : Int) = some (.int x) := L2.atI_nat (by rw [List.getElem?_map, hx]; rfl)
  have hsl : s < m.length := hh.ls.1
  have hcl : c < m.length := hh.ls.2
  have hne := h.ne
  refine run_draw hh t_law_draw rfl (by walk_at "S") ?_
  walk_at "w"
  rw [hk]
  walk_at "w"
  refine br_dec (fun hb => ?_) (fun hb => ?_)
  · walk_at "w"
    refine op_setI hc (by rw [lenc]; exact hk2) ?_
    walk_at "w"
    refine ⟨_, rfl, ⟨Int.emod_nonneg _ (by omega), Int.emod_lt_of_pos _ hz⟩, by rw [List.length_set], ⟨cs.set k (x / z), i, j, ?_⟩, fun q q1 q2 => List.getElem?_set_ne (Ne.symm q2)⟩
    refine ⟨by rw [List.getElem?_set_ne (Ne.symm hne)]; exact hs, ?_, hne, by simpa using h.some_, fun y hy => ?_, h.hi, h.hj, h.hj2⟩
    · rw [List.getElem?_set_self hcl, List.map_set]
    · rcases List.mem_or_eq_of_mem_set hy with q | q
      · exact h.nn y q
      · subst q
        exact Int.ediv_nonneg hx0 (by omega)
  · walk_at "w"
    refine op_setI (k := 1) hs (lt_r rfl) ?_
    obtain ⟨m1, hm1⟩ : ∃ m1, m1 = m.set s (.lst ([MV.ref c, .int i, .int j].set 1 (.int (i + 1)))) := ⟨_, rfl⟩
    rw [← hm1]
    have s1 : m1[s]? = some (.lst [.ref c, .int (i + 1), .int j]) := by rw [hm1]; exact List.getElem?_set_self hsl
    have l1 : m1.length = m.length := by rw [hm1, List.length_set]
    walk_at "w"
    obtain ⟨j2, hj3⟩ : ∃ j2, j2 = (j * 48271 + x + 12345) % 2147483647 := ⟨_, rfl⟩
    have j0 : 0 ≤ j2 := by rw [hj3]; exact Int.emod_nonneg _ (by decide)
    have j1 : j2 < 2147483647 := by rw [hj3]; exact Int.emod_lt_of_pos _ (by decide)
    rw [← hj3]
    refine op_setI (k := 2) s1 (lt_r rfl) ?_
    obtain ⟨m2, hm2⟩ : ∃ m2, m2 = m1.set s (.lst ([MV.ref c, .int (i + 1), .int j].set 2 (.int j2))) := ⟨_, rfl⟩
    rw [← hm2]
    have s2 : m2[s]? = some (.lst [.ref c, .int (i + 1), .int j2]) := by rw [hm2]; exact List.getElem?_set_self (by omega)
    walk_at "w"
    refine ⟨_, rfl, ⟨Int.emod_nonneg _ (by omega), Int.emod_lt_of_pos _ hz⟩, by rw [hm2, List.length_set, l1], ⟨cs, i + 1, j2, ?_⟩, fun q q1 q2 => by rw [hm2, hm1, List.getElem?_set_ne (Ne.symm q1), List.getElem?_set_ne (Ne.symm q1)]⟩
    refine ⟨s2, ?_, hne, h.some_, h.nn, by omega, j0, j1⟩
    rw [hm2, hm1, List.getElem?_set_ne hne, List.getElem?_set_ne hne]
    exact hc
end
end LW
end Part_B12

section Part_M13G
set_option Elab.async false
set_option linter.all false
set_option maxRecDepth 100000
set_option maxHeartbeats 4000000
/-! M13G: what draws of numbers and names need. -/
namespace LW
open U
open PySem (Operator CmpOp)
theorem for_at {w : Walked} {body : MV → Env → Mem → RS} {I : Nat → Env → Mem → Prop} (hs : ∀ k r m, I k r m → w.still m = true) : ∀ (l : List MV) (k : Nat) (r : Env) (m : Mem), (∀ j x, l[j]? = some x → ∀ r m, I (k + j) r m → ∃ r' m', body x r m = .nx r' m' ∧ I (k + j + 1) r' m') → I k r m →
    ∃ r' m', forGo w body l r m = .nx r' m' ∧ I (k + l.length) r' m'
  | [], k, r, m, _, h => ⟨r, m, for_nil (hs k r m h), h⟩
  | x :: l, k, r, m, hb, h => by
    obtain ⟨r1, m1, e1, h1⟩ := hb 0 x rfl r m h
    obtain ⟨r2, m2, e2, h2⟩ := for_at hs l (k + 1) r1 m1 (fun j y hy r m hI => by
      have := hb (j + 1) y hy r m (by rw [show k + (j + 1) = k + 1 + j by omega]; exact hI)
      rw [show k + 1 + j + 1 = k + (j + 1) + 1 by omega]
      exact this) h1
    refine ⟨r2, m2, (for_cons (hs k r m h) e1).trans e2, ?_⟩
    rw [List.length_cons, show k + (l.length + 1) = k + 1 + l.length by omega]
    exact h2
theorem rng_len {n : Nat} : (rng 0 (n : Nat)).length = n := by
  unfold rng
  rw [List.length_map, List.length_range]
  omega
theorem rng_get {n j : Nat} {x : MV} (h : (rng 0 (n : Nat))[j]? = some x) : x = .int (j : Nat) ∧ j < n := by
  have hl := (List.getElem?_eq_some_iff.mp h).1
  rw [rng_len] at hl
  refine ⟨?_, hl⟩
  unfold rng at h
  rw [List.getElem?_map, List.getElem?_range (by omega)] at h
  cases h
  show MV.int (0 + (j : Int)) = _
  rw [Int.zero_add]
theorem i_rng {T : Tab} {cl : CallF} {r : Env} {m m1 : Mem} {a : CE} {n : Nat} (h : evE T cl a r m = .ok (.int (n : Nat)) m1) (hn : n < 1000) : evI T cl (.rng1 a) r m = .ok ⟨rng 0 (n : Nat), none⟩ m1 := by
  rw [evI, h, bind_ok]
  have e : rng1 (.int (n : Nat)) = some ⟨rng 0 (n : Nat), none⟩ := by
    unfold rng1
    exact if_pos ⟨by omega, by omega⟩
  rw [e]
  rfl
theorem still_none {xs : List MV} {m : Mem} : Walked.still ⟨xs, none⟩ m = true := rfl
theorem log_ok {n : Nat} (h : n < 2 ^ 200) : n.log2 < 400 := by
  by_cases h0 : n = 0
  · subst h0; decide
  · exact (Nat.log2_lt h0).mpr (Nat.lt_of_lt_of_le h (Nat.pow_le_pow_right (by decide) (by decide)))
theorem pow8 {m : Mem} : binop .Pow (.int 10) (.int 8) m = some (.int ((100000000 : Nat) : Int), m) := by
  show (if (0 : Int) ≤ 8 ∧ (8 : Int) ≤ 1000 ∧ (10 : Int).natAbs < 2 ^ 64 then some (MV.int (10 ^ (8 : Int).toNat), m) else none) = _
  rw [if_pos (by decide)]
  rfl
section
variable {W : Nat}
theorem cmp_lt {a b : Nat} {m : Mem} : cmpop .Lt (.int (a : Nat)) (.int (b : Nat)) m = some (.bl (decide (a < b)), m) := by
  show some (MV.bl (decide ((a : Int) < (b : Nat))), m) = _
  congr 3
  exact decide_eq_decide.mpr Int.ofNat_lt
theorem cmp_gt {a b : Nat} {m : Mem} : cmpop .Gt (.int (a : Nat)) (.int (b : Nat)) m = some (.bl (decide (b < a)), m) := by
  show some (MV.bl (decide ((b : Int) < (a : Nat))), m) = _
  congr 3
  exact decide_eq_decide.mpr Int.ofNat_lt
theorem cmp_eq {a b : Nat} {m : Mem} : cmpop .Eq (.int (a : Nat)) (.int (b : Nat)) m = some (.bl (decide (a = b)), m) := by
  show okb (some (decide (MV.int (a : Nat) = MV.int (b : Nat)))) m = _
  show some (MV.bl (decide (MV.int (a : Nat) = MV.int (b : Nat))), m) = _
  congr 3
  exact decide_eq_decide.mpr (by simp; omega)
/-- the three names -/
structure NmP (P : Txt → Prop) (m : Mem) (N s c : Nat) : Prop where
  ex : ∃ a b d : Txt, m[N]? = some (.lst [.str a, .str b, .str d]) ∧ P a ∧ P b ∧ P d
  ns : N ≠ s
  nc : N ≠ c
abbrev Nm := NmP NameOk
theorem NmP.left {P : Txt → Prop} {m m' : Mem} {N s c : Nat} (h : NmP P m N s c) (l : Left m m' s c) : NmP P m' N s c := by
  obtain ⟨a, b, d, e, o⟩ := h.ex
  exact ⟨⟨a, b, d, by rw [l.old N h.ns h.nc]; exact e, o⟩, h.ns, h.nc⟩
theorem NmP.more {P : Txt → Prop} {m : Mem} {N s c : Nat} (h : NmP P m N s c) (x : List MO) : NmP P (m ++ x) N s c := by
  obtain ⟨a, b, d, e, o⟩ := h.ex
  exact ⟨⟨a, b, d, by rw [List.getElem?_append_left (List.getElem?_eq_some_iff.mp e).1]; exact e, o⟩, h.ns, h.nc⟩
end
end LW
end Part_M13G

section Part_M14G
set_option Elab.async false
set_option linter.all false
set_option maxRecDepth 100000
set_option maxHeartbeats 4000000
/-! M14G: letters and texts. -/
namespace LW
open U
open PySem (Operator CmpOp)
def nameB (x : Txt) : Bool := decide (1 ≤ x.length) && (decide (x.length ≤ 8) && x.all fun c => decide (97 ≤ c) && decide (c ≤ 122))
theorem nameOk_of {x : Txt} (h : nameB x = true) : NameOk x := by
  unfold nameB at h
  simp only [Bool.and_eq_true, decide_eq_true_eq, List.all_eq_true] at h
  exact ⟨h.1, h.2.1, fun c hc => h.2.2 c hc⟩
theorem letter_at {q : Nat} (h : q < 26) : ∃ c, L2.atI letters ((q : Nat) : Int) = some c ∧ 97 ≤ c ∧ c ≤ 122 := by
  have all : ∀ k : Fin 26, letters[k.val]? = some (97 + k.val) := by decide
  exact ⟨97 + q, L2.atI_nat (all ⟨q, h⟩), by omega, by omega⟩
section
variable {W : Nat}
theorem gt_t {a b : Nat} {m : Mem} (h : b < a) : cmpop .Gt (.int (a : Nat)) (.int (b : Nat)) m = some (.bl true, m) := by rw [cmp_gt, decide_eq_true h]
theorem gt_f {a b : Nat} {m : Mem} (h : ¬ b < a) : cmpop .Gt (.int (a : Nat)) (.int (b : Nat)) m = some (.bl false, m) := by rw [cmp_gt, decide_eq_false h]
theorem lt_t {a b : Nat} {m : Mem} (h : a < b) : cmpop .Lt (.int (a : Nat)) (.int (b : Nat)) m = some (.bl true, m) := by rw [cmp_lt, decide_eq_true h]
theorem lt_f {a b : Nat} {m : Mem} (h : ¬ a < b) : cmpop .Lt (.int (a : Nat)) (.int (b : Nat)) m = some (.bl false, m) := by rw [cmp_lt, decide_eq_false h]
theorem eq_t {a b : Nat} {m : Mem} (h : a = b) : cmpop .Eq (.int (a : Nat)) (.int (b : Nat)) m = some (.bl true, m) := by rw [cmp_eq, decide_eq_true h]
theorem eq_f {a b : Nat} {m : Mem} (h : ¬ a = b) : cmpop .Eq (.int (a : Nat)) (.int (b : Nat)) m = some (.bl false, m) := by rw [cmp_eq, decide_eq_false h]
theorem len_str {x : Txt} {m : Mem} (h : x.length ≤ 100) : builtin .len [.str x] m = some (.int (x.length : Nat), m) := by
  show (if x.length ≤ line then some (MV.int (x.length : Nat), m) else none) = _
  rw [if_pos (by unfold line; omega)]
theorem slice_to {x : Txt} {k : Nat} {m : Mem} (h : x.length ≤ 100) : slice (.str x) none (some (k : Int)) m = some (.str (x.take k), m) := by
  show (if x.length ≤ line then some (MV.str (cut x none (some (k : Int))), m) else none) = _
  rw [if_pos (by unfold line; omega), cut_to]
theorem slice_from {x : Txt} {k : Nat} {m : Mem} (h : x.length ≤ 100) : slice (.str x) (some (k : Int)) none m = some (.str (x.drop k), m) := by
  show (if x.length ≤ line then some (MV.str (cut x (some (k : Int)) none), m) else none) = _
  rw [if_pos (by unfold line; omega), cut_from]
theorem add_str {x y : Txt} {m : Mem} (h : x.length + y.length ≤ 100) : binop .Add (.str x) (.str y) m = some (.str (x ++ y), m) := by
  show (if x.length + y.length ≤ line then some (MV.str (x ++ y), m) else none) = _
  rw [if_pos (by unfold line; omega)]
theorem append_ok {L : Nat} {xs : List MV} {v : MV} {m : Mem} (h : m[L]? = some (.lst xs)) (hl : xs.length ≤ 1000) : method .append (.ref L) [v] m = some (.non, m.set L (.lst (xs ++ [v]))) := by
  show (match m[L]? with | some (.lst xs) => if xs.length < line then some (MV.non, m.set L (.lst (xs ++ [v]))) else none | _ => none) = _
  rw [h]
  dsimp only
  rw [if_pos (by unfold line; omega)]
theorem recv_ref {L : Nat} {xs : List MV} {m : Mem} (h : m[L]? = some (.lst xs)) : recv m .append (.ref L) = true := by
  show (match m[L]? with | some (.lst _) => true | _ => false) = true
  rw [h]
theorem changed_ok {x : Txt} {k l : Nat} (h : NameOk x) (hk : k < x.length) (h1 : 97 ≤ l) (h2 : l ≤ 122) : NameOk (x.take k ++ [l] ++ x.drop (k + 1)) := by
  have hlo := h.lo
  have hhi := h.hi
  have hl : (x.take k ++ [l] ++ x.drop (k + 1)).length = x.length := by
    rw [List.length_append, List.length_append, List.length_take, List.length_drop]
    simp only [List.length_cons, List.length_nil]
    omega
  refine ⟨by omega, by omega, fun c hc => ?_⟩
  rcases List.mem_append.mp hc with hc | hc
  · rcases List.mem_append.mp hc with hc | hc
    · exact h.let_ c (List.mem_of_mem_take hc)
    · rw [List.mem_singleton] at hc
      omega
  · exact h.let_ c (List.mem_of_mem_drop hc)
theorem allStr_signs : ∀ x : Txt, allStr (x.map fun c => MV.str [c]) = some (x.map fun c => [c])
  | [] => rfl
  | c :: x => by
    show (allStr (x.map fun c => MV.str [c])).map ([c] :: ·) = _
    rw [allStr_signs x]
    rfl
theorem joined_signs : ∀ x : Txt, joined [] (x.map fun c => [c]) = x
  | [] => rfl
  | [c] => rfl
  | c :: d :: x => by
    show [c] ++ [] ++ joined [] ((d :: x).map fun c => [c]) = _
    rw [joined_signs (d :: x)]
    rfl
theorem sum_ones : ∀ x : Txt, ((x.map fun c => ([c] : Txt)).map (fun t : Txt => t.length)).sum = x.length
  | [] => rfl
  | c :: x => by
    rw [List.map_cons, List.map_cons, List.sum_cons, sum_ones x, List.length_cons]
    simp only [List.length_cons, List.length_nil]
    omega
theorem join_ok {L : Nat} {x : Txt} {m : Mem} (h : m[L]? = some (.lst (x.map fun c => MV.str [c]))) (hl : x.length ≤ 100) : method .join (.str []) [.ref L] m = some (.str x, m) := by
  show (match items m (.ref L) with
    | some xs => match allStr xs with
      | some ys => if (ys.map fun t : Txt => t.length).sum + ys.length * ([] : Txt).length ≤ line then some (MV.str (joined [] ys), m) else none
      | none => none
    | none => none) = _
  have : items m (.ref L) = some (x.map fun c => MV.str [c]) := by
    show (match m[L]? with | some (.lst xs) => some xs | some (.frz xs) => some xs | _ => none) = _
    rw [h]
  rw [this]
  dsimp only
  rw [allStr_signs]
  dsimp only
  rw [sum_ones, joined_signs, if_pos (by simp only [List.length_nil]; unfold line; omega)]end
end LW
end Part_M14G

section Part_M20
set_option Elab.async false
set_option linter.all false
set_option maxRecDepth 100000
set_option maxHeartbeats 4000000
/-! M20: the names that stand free. -/
namespace LW
open U
open PySem (Operator CmpOp)
/-- the name that is bound, as a value -/
def Tm.bnd : Tm → MV
  | .mk x _ => .str x | .aga x _ => .str x | _ => .non
def isNot (v : MV) (y : Txt) : Bool := !decide (MV.str y = v)
def Tm.fr : Tm → List Txt
  | .opn => sortD [] | .name x => [x] | .num _ => sortD []
  | .mk x b => sortD (b.fr.filter (isNot (.str x)) ++ [])
  | .giv a b => sortD (a.fr.filter (isNot .non) ++ (b.fr.filter (isNot .non) ++ []))
  | .sm _ a b => sortD (a.fr.filter (isNot .non) ++ (b.fr.filter (isNot .non) ++ []))
  | .cho a b c => sortD (a.fr.filter (isNot .non) ++ (b.fr.filter (isNot .non) ++ (c.fr.filter (isNot .non) ++ [])))
  | .aga x b => sortD (b.fr.filter (isNot (.str x)) ++ [])
/-- does a name stand free -/
def Tm.st (x : Txt) : Tm → Bool
  | .opn => false | .name y => decide (MV.str y = MV.str x) | .num _ => false
  | .mk y b => !decide (MV.str y = MV.str x) && b.st x
  | .giv a b => a.st x || b.st x
  | .sm _ a b => a.st x || b.st x
  | .cho a b c => a.st x || (b.st x || c.st x)
  | .aga y b => !decide (MV.str y = MV.str x) && b.st x
def Tm.isName : Tm → Bool
  | .name _ => true
  | _ => false
theorem fr_eq (t : Tm) (h : t.isName = false) : t.fr = sortD (t.parts.flatMap fun p => p.fr.filter (isNot t.bnd)) := by cases t <;> first | rfl | exact nomatch h
theorem isNot_non (y : Txt) : isNot .non y = true := rfl
theorem isNot_str {x y : Txt} : isNot (.str x) y = true ↔ ¬ y = x := by
  unfold isNot
  rw [Bool.not_eq_true', decide_eq_false_iff_not, MV.str.injEq]
theorem mem_fr (x : Txt) : ∀ t : Tm, x ∈ t.fr ↔ t.st x = true
  | .opn => by simp [Tm.fr, Tm.st, sortD_mem]
  | .num _ => by simp [Tm.fr, Tm.st, sortD_mem]
  | .name y => by simp [Tm.fr, Tm.st, eq_comm]
  | .mk y b => by
    show x ∈ sortD (b.fr.filter (isNot (.str y)) ++ []) ↔ (!decide (MV.str y = MV.str x) && b.st x) = true
    rw [sortD_mem, List.append_nil, List.mem_filter, isNot_str, mem_fr x b, Bool.and_eq_true, Bool.not_eq_true', decide_eq_false_iff_not, MV.str.injEq]
    exact ⟨fun h => ⟨fun e => h.2 e.symm, h.1⟩, fun h => ⟨h.2, fun e => h.1 e.symm⟩⟩
  | .giv a b => by simp [Tm.fr, Tm.st, sortD_mem, isNot_non, mem_fr x a, mem_fr x b]
  | .sm _ a b => by simp [Tm.fr, Tm.st, sortD_mem, isNot_non, mem_fr x a, mem_fr x b]
  | .cho a b c => by simp [Tm.fr, Tm.st, sortD_mem, isNot_non, mem_fr x a, mem_fr x b, mem_fr x c]
  | .aga y b => by
    show x ∈ sortD (b.fr.filter (isNot (.str y)) ++ []) ↔ (!decide (MV.str y = MV.str x) && b.st x) = true
    rw [sortD_mem, List.append_nil, List.mem_filter, isNot_str, mem_fr x b, Bool.and_eq_true, Bool.not_eq_true', decide_eq_false_iff_not, MV.str.injEq]
    exact ⟨fun h => ⟨fun e => h.2 e.symm, h.1⟩, fun h => ⟨h.2, fun e => h.1 e.symm⟩⟩
theorem fr_pw (t : Tm) : t.fr.Pairwise (· < ·) := by
  cases t <;> first | exact sortD_pw _ | exact List.pairwise_singleton ..
theorem fr_in {ns : List Txt} : ∀ (t : Tm), t.OkP (· ∈ ns) → ∀ x ∈ t.fr, x ∈ ns
  | .opn, _, x, h => by simp [Tm.fr, sortD_mem] at h
  | .num _, _, x, h => by simp [Tm.fr, sortD_mem] at h
  | .name y, o, x, h => by
    have e : x = y := by simpa [Tm.fr] using h
    exact e ▸ o
  | .mk y b, o, x, h => by
    simp [Tm.fr, sortD_mem] at h
    exact fr_in b o.2 x h.1
  | .giv a b, o, x, h => by
    simp [Tm.fr, sortD_mem] at h
    exact h.elim (fun h => fr_in a o.1 x h.1) fun h => fr_in b o.2 x h.1
  | .sm _ a b, o, x, h => by
    simp [Tm.fr, sortD_mem] at h
    exact h.elim (fun h => fr_in a o.2.1 x h.1) fun h => fr_in b o.2.2 x h.1
  | .cho a b c, o, x, h => by
    simp [Tm.fr, sortD_mem] at h
    exact h.elim (fun h => fr_in a o.1 x h.1) fun h => h.elim (fun h => fr_in b o.2.1 x h.1) fun h => fr_in c o.2.2 x h.1
  | .aga y b, o, x, h => by
    simp [Tm.fr, sortD_mem] at h
    exact fr_in b o.2 x h.1
theorem fr_due {ns : List Txt} (t : Tm) (o : t.OkP (· ∈ ns)) : (sortD ns).filter (fun x => t.st x) = t.fr :=
  sorted_uniq ((sortD_pw ns).filter _) (fr_pw t) fun z => by
    rw [List.mem_filter, sortD_mem, mem_fr]
    exact ⟨fun h => h.2, fun h => ⟨fr_in t o z ((mem_fr z t).mpr h), h⟩⟩
theorem fr_few {ns : List Txt} (t : Tm) (o : t.OkP (· ∈ ns)) : t.fr.length ≤ ns.length := by
  rw [← fr_due t o]
  exact Nat.le_trans (List.length_filter_le ..) (sortD_few ns)
theorem part_okP {P : Txt → Prop} {t p : Tm} (o : t.OkP P) (h : p ∈ t.parts) : p.OkP P := by
  cases t with
  | opn => cases h
  | name x => cases h
  | num i => cases h
  | mk x b => simp [Tm.parts] at h; exact h ▸ o.2
  | giv a b => simp [Tm.parts] at h; exact h.elim (fun e => e ▸ o.1) fun e => e ▸ o.2
  | sm s a b => simp [Tm.parts] at h; exact h.elim (fun e => e ▸ o.2.1) fun e => e ▸ o.2.2
  | cho a b c => simp [Tm.parts] at h; exact h.elim (fun e => e ▸ o.1) fun h => h.elim (fun e => e ▸ o.2.1) fun e => e ▸ o.2.2
  | aga x b => simp [Tm.parts] at h; exact h ▸ o.2
/-- a comprehension over a row of things that are told by a function -/
theorem lc_map {α : Type} {f g : α → MV} {m : Mem} {w : Walked} {elt : MV → M MV} (hs : ∀ acc : List MV, w.still (m ++ [.lst acc]) = true) : ∀ (l : List α) (acc : List MV), (∀ x ∈ l, ∀ acc : List MV, elt (f x) (m ++ [.lst acc]) = .ok (g x) (m ++ [.lst acc])) → acc.length + l.length ≤ 30000 →
    lcGo w m.length (fun _ m2 => .ok (.bl true) m2) elt (l.map f) (m ++ [.lst acc]) = .ok (.ref m.length) (m ++ [.lst (acc ++ l.map g)])
  | [], acc, _, _ => by
    rw [List.map_nil, List.map_nil, List.append_nil]
    exact lc_nil (hs acc)
  | x :: l, acc, h, hl => by
    have ih := lc_map hs l (acc ++ [g x]) (fun y hy => h y (List.mem_cons_of_mem _ hy)) (by rw [List.length_append]; simp only [List.length_cons, List.length_nil] at hl ⊢; omega)
    rw [List.map_cons, lc_cons (t := fun _ m2 => .ok (.bl true) m2) (hs acc) rfl (h x (List.mem_cons_self ..) acc) getE_new (by simp only [List.length_cons] at hl; unfold line; omega)]
    rw [show (m ++ [MO.lst acc]).set m.length (.lst (acc ++ [g x])) = m ++ [.lst (acc ++ [g x])] from set_at (e := []), ih, List.map_cons, List.append_assoc]
    rfl
/-- a comprehension with a test -/
theorem lc_filter {α : Type} {f : α → MV} {p : α → Bool} {m : Mem} {w : Walked} {t e : MV → M MV} (hs : ∀ acc : List MV, w.still (m ++ [.lst acc]) = true) : ∀ (l : List α) (acc : List MV), (∀ x ∈ l, ∀ acc : List MV, t (f x) (m ++ [.lst acc]) = .ok (.bl (p x)) (m ++ [.lst acc])) → (∀ x ∈ l, ∀ acc : List MV, e (f x) (m ++ [.lst acc]) = .ok (f x) (m ++ [.lst acc])) → acc.length + l.length ≤ 30000 →
    lcGo w m.length t e (l.map f) (m ++ [.lst acc]) = .ok (.ref m.length) (m ++ [.lst (acc ++ (l.filter p).map f)])
  | [], acc, _, _, _ => by
    rw [List.map_nil, List.filter_nil, List.map_nil, List.append_nil]
    exact lc_nil (hs acc)
  | x :: l, acc, ht, he, hl => by
    have ht1 := ht x (List.mem_cons_self ..) acc
    rw [List.map_cons]
    simp only [List.length_cons] at hl
    cases hp : p x with
    | true =>
      rw [hp] at ht1
      have ih := lc_filter (p := p) hs l (acc ++ [f x]) (fun y hy => ht y (List.mem_cons_of_mem _ hy)) (fun y hy => he y (List.mem_cons_of_mem _ hy)) (by rw [List.length_append]; simp only [List.length_cons, List.length_nil]; omega)
      rw [lc_cons (hs acc) ht1 (he x (List.mem_cons_self ..) acc) getE_new (by unfold line; omega)]
      rw [show (m ++ [MO.lst acc]).set m.length (.lst (acc ++ [f x])) = m ++ [.lst (acc ++ [f x])] from set_at (e := []), ih, List.filter_cons_of_pos hp, List.map_cons, List.append_assoc]
      rfl
    | false =>
      rw [hp] at ht1
      rw [lc_skip (hs acc) ht1, lc_filter (p := p) hs l acc (fun y hy => ht y (List.mem_cons_of_mem _ hy)) (fun y hy => he y (List.mem_cons_of_mem _ hy)) (by omega), List.filter_cons_of_neg (by rw [hp]; decide)]
theorem e_lc1 {T : Tab} {cl : CallF} {r : Env} {m1 : Mem} {elt c : CE} {i : Nat} {src : CI} {w : Walked} {z : R MV} {m : Mem} (hs : evI T cl src r m = .ok w m1) (h : lcGo w m1.length (fun x m2 => evE T cl c (r.set i (.val x)) m2) (fun x m2 => evE T cl elt (r.set i (.val x)) m2) w.items (m1 ++ [.lst []]) = z) : evE T cl (.lc elt i src [c]) r m = z := by
  rw [evE, hs, bind_ok]
  exact h
theorem has_free (t : Tm) : dat.T.meth t.cls m_free = some (meth_of t m_free) := by cases t <;> rfl
theorem has_binds (t : Tm) : dat.T.meth t.cls m_binds = some (meth_of t m_binds) := by cases t <;> rfl
theorem allStr_map : ∀ l : List Txt, allStr (l.map MV.str) = some l
  | [] => rfl
  | x :: l => by
    show (allStr (l.map MV.str)).map (x :: ·) = _
    rw [allStr_map l]
    rfl
theorem sset_ok {L : Nat} {l : List Txt} {m : Mem} (h : m[L]? = some (.lst (l.map MV.str))) (few : l.length < 64) : builtin .sset [.ref L] m = some (.ref m.length, m ++ [.lst ((sortD l).map .str)]) := by
  show (match m[L]? with
    | some (.lst xs) => match allStr xs with
      | some ss => if ss.length < 64 then alloc (.lst ((sortD ss).map .str)) m else none
      | none => none
    | _ => none) = _
  rw [h]
  dsimp only
  rw [allStr_map]
  dsimp only
  rw [if_pos few]
  rfl
theorem sort_ok {L : Nat} {l : List Txt} {m : Mem} (h : m[L]? = some (.lst (l.map MV.str))) (few : l.length < 64) : builtin .sort [.ref L] m = some (.ref m.length, m ++ [.lst ((sortT l).map .str)]) := by
  show (match m[L]? with
    | some (.lst xs) => match allStr xs with
      | some ss => if ss.length < 64 then alloc (.lst ((sortT ss).map .str)) m else none
      | none => none
    | _ => none) = _
  rw [h]
  dsimp only
  rw [allStr_map]
  dsimp only
  rw [if_pos few]
  rfl
theorem lows_strs {k : Nat} : ∀ l : List Txt, MV.lows k (l.map MV.str) = true
  | [] => rfl
  | t :: ts => by
    show (MV.low k (.str t) && MV.lows k (ts.map MV.str)) = true
    rw [lows_strs ts]
    rfl
theorem ext_ok {a b : Nat} {xs ys : List MV} {m : Mem} (ha : m[a]? = some (.lst xs)) (hb : m[b]? = some (.lst ys)) (h : xs.length + ys.length ≤ 1000000) : method .extend (.ref a) [.ref b] m = some (.non, m.set a (.lst (xs ++ ys))) := by
  show (match m[a]?, m[b]? with | some (.lst xs), some (.lst ys) => if xs.length + ys.length ≤ line then some (MV.non, m.set a (.lst (xs ++ ys))) else none | _, _ => none) = _
  rw [ha, hb]
  dsimp only
  rw [if_pos (by unfold line; omega)]
theorem recv_extend {L : Nat} {xs : List MV} {m : Mem} (h : m[L]? = some (.lst xs)) : recv m .extend (.ref L) = true := by
  show (match m[L]? with | some (.lst _) => true | _ => false) = true
  rw [h]
theorem ne_bnd {y : Txt} {t : Tm} {m : Mem} : cmpop .NotEq (.str y) t.bnd m = some (.bl (isNot t.bnd y), m) := by
  cases t <;> rfl
section
variable {W : Nat}
theorem binds_run (t : Tm) {n : Nat} {m : Mem} : run dat.T W dat.defs (n + 1) (meth_of t m_binds) [t.obj] m = .ok t.bnd m := by
  have go : ∀ {f : Nat} {fd : FD} {v : MV}, dat.defs f = some fd → fd.np = 1 → evB dat.T W (run dat.T W dat.defs n) fd.body (entry fd [t.obj]) m = .rt v m → v.low m.length = true → run dat.T W dat.defs (n + 1) f [t.obj] m = .ok v m := fun {f fd v} h1 h2 h3 h4 => by
    have z := out_garb (m := m) (e := []) h4
    rw [List.append_nil] at z
    rw [run_step (as := [t.obj]) h1 (by rw [h2]; rfl), h3, z]
  cases t with
  | mk x b => exact go t_Maker_binds rfl (b_rt (s_ret rfl)) rfl
  | aga x b => exact go t_Again_binds rfl (b_rt (s_ret rfl)) rfl
  | _ => exact go t_Term_binds rfl (b_rt (s_ret rfl)) rfl
def b_freeIn : List CS := [.expr (.bm (.var 1) .extend [(.lc (.var 3) 3 (.of (.meth (.var 2) m_free [] [])) [(.cmp .NotEq (.var 3) (.meth (.var 0) m_binds [] []))])])]
theorem flat_len {q : Tm → List Txt} {B : Nat} : ∀ {ps : List Tm}, (∀ p ∈ ps, (q p).length ≤ B) → (ps.flatMap q).length ≤ ps.length * B
  | [], _ => Nat.zero_le _
  | p :: ps, h => by
    have ih := flat_len (q := q) fun x hx => h x (List.mem_cons_of_mem _ hx)
    have h1 := h p (List.mem_cons_self ..)
    rw [List.flatMap_cons, List.length_append, List.length_cons, Nat.succ_mul]
    omega
/-- few names stand free in each part -/
def Tm.Few : Tm → Prop
  | .opn => True | .name _ => True | .num _ => True
  | .mk _ b => b.Few ∧ b.fr.length ≤ 20
  | .giv a b => (a.Few ∧ a.fr.length ≤ 20) ∧ (b.Few ∧ b.fr.length ≤ 20)
  | .sm _ a b => (a.Few ∧ a.fr.length ≤ 20) ∧ (b.Few ∧ b.fr.length ≤ 20)
  | .cho a b c => (a.Few ∧ a.fr.length ≤ 20) ∧ ((b.Few ∧ b.fr.length ≤ 20) ∧ (c.Few ∧ c.fr.length ≤ 20))
  | .aga _ b => b.Few ∧ b.fr.length ≤ 20
theorem few_part {t p : Tm} (h : t.Few) (hp : p ∈ t.parts) : p.Few ∧ p.fr.length ≤ 20 := by
  cases t with
  | opn => cases hp
  | name _ => cases hp
  | num _ => cases hp
  | mk x b => rw [List.mem_singleton.mp hp]; exact h
  | aga x b => rw [List.mem_singleton.mp hp]; exact h
  | giv a b =>
    rcases List.mem_cons.mp hp with rfl | hp
    · exact h.1
    · rw [List.mem_singleton.mp hp]; exact h.2
  | sm _ a b =>
    rcases List.mem_cons.mp hp with rfl | hp
    · exact h.1
    · rw [List.mem_singleton.mp hp]; exact h.2
  | cho a b c =>
    rcases List.mem_cons.mp hp with rfl | hp
    · exact h.1
    · rcases List.mem_cons.mp hp with rfl | hp
      · exact h.2.1
      · rw [List.mem_singleton.mp hp]; exact h.2.2
theorem few_ok {ns : List Txt} (hns : ns.length ≤ 20) : ∀ t : Tm, t.OkP (· ∈ ns) → t.Few
  | .opn, _ => trivial
  | .name _, _ => trivial
  | .num _, _ => trivial
  | .mk _ b, o => ⟨few_ok hns b o.2, Nat.le_trans (fr_few b o.2) hns⟩
  | .aga _ b, o => ⟨few_ok hns b o.2, Nat.le_trans (fr_few b o.2) hns⟩
  | .giv a b, o => ⟨⟨few_ok hns a o.1, Nat.le_trans (fr_few a o.1) hns⟩, ⟨few_ok hns b o.2, Nat.le_trans (fr_few b o.2) hns⟩⟩
  | .sm _ a b, o => ⟨⟨few_ok hns a o.2.1, Nat.le_trans (fr_few a o.2.1) hns⟩, ⟨few_ok hns b o.2.2, Nat.le_trans (fr_few b o.2.2) hns⟩⟩
  | .cho a b c, o => ⟨⟨few_ok hns a o.1, Nat.le_trans (fr_few a o.1) hns⟩, ⟨few_ok hns b o.2.1, Nat.le_trans (fr_few b o.2.1) hns⟩, ⟨few_ok hns c o.2.2, Nat.le_trans (fr_few c o.2.2) hns⟩⟩
theorem free_few_run : ∀ (t : Tm) {n : Nat} {m : Mem}, t.Few → t.deep < n → run dat.T W dat.defs (n + 1) (meth_of t m_free) [t.obj] m = .ok (.ref m.length) (m ++ [.lst (t.fr.map MV.str)]) := fun t => by
  induction t using Tm.ind with
  | h t ih =>
    intro n m ho hn
    obtain ⟨n, rfl⟩ : ∃ j, n = j + 1 := ⟨n - 1, by omega⟩
    cases hnm : t.isName with
    | true =>
      obtain ⟨x, rfl⟩ : ∃ x, t = .name x := by cases t <;> first | exact ⟨_, rfl⟩ | exact nomatch hnm
      show run dat.T W dat.defs (n + 1 + 1) i_Name_free [(Tm.name x).obj] m = _
      rw [run_step (as := [(Tm.name x).obj]) t_Name_free rfl]
      dsimp only
      have e0 : evB dat.T W (run dat.T W dat.defs (n + 1)) b_Name_free (entry ⟨1, 1, [], b_Name_free⟩ [(Tm.name x).obj]) m = .rt (.ref m.length) (m ++ [.lst [.str x]]) := b_rt (s_ret (e_lst (l_one rfl) (by show 1 ≤ line; decide)))
      rw [e0]
      exact out_list (lows_strs [x])
    | false =>
      have hm : meth_of t m_free = i_Term_free := by cases t <;> first | rfl | exact nomatch hnm
      rw [hm, run_step (as := [t.obj]) t_Term_free rfl]
      dsimp only
      let q : Tm → List Txt := fun p => p.fr.filter (isNot t.bnd)
      have ql : ∀ p ∈ t.parts, (q p).length ≤ 20 := fun p hp => Nat.le_trans (List.length_filter_le ..) (few_part ho hp).2
      have f3 := few t
      have tot : ∀ k, ((t.parts.take k).flatMap q).length ≤ 60 := fun k => by
        have := flat_len (q := q) (B := 20) (ps := t.parts.take k) fun p hp => ql p (List.mem_of_mem_take hp)
        have l := List.length_take_le k t.parts
        have : (t.parts.take k).length ≤ t.parts.length := by rw [List.length_take]; exact Nat.min_le_right ..
        omega
      obtain ⟨r3, m3, f3', I3⟩ := for_at (w := ⟨t.parts.map Tm.obj, some (m.length + 1, false)⟩) (body := fun x r' m' => match (Tg.one 2).put x r' with | some r2 => evB dat.T W (run dat.T W dat.defs (n + 1)) b_freeIn r2 m' | none => .fail)
        (I := fun k r mm => mm[m.length + 1]? = some (.lst (t.parts.map Tm.obj)) ∧ ∃ (e1 : Mem) (y2 : Sl), mm = m ++ e1 ∧ mm[m.length]? = some (.lst (((t.parts.take k).flatMap q).map MV.str)) ∧ r = [.val t.obj, .val (.ref m.length), y2, .no]) (fun _ _ _ hI => still_at (b := false) hI.1) (t.parts.map Tm.obj) 0 [.val t.obj, .val (.ref m.length), .no, .no] (m ++ [.lst []] ++ [.lst (t.parts.map Tm.obj)]) (fun j x hx r mm hI => by
          obtain ⟨gA, e1, y2, rfl, gB, rfl⟩ := hI
          rw [Nat.zero_add] at gB ⊢
          rw [List.getElem?_map] at hx
          cases hj : t.parts[j]? with
          | none => rw [hj] at hx; cases hx
          | some p =>
            rw [hj] at hx
            cases hx
            have hp : p ∈ t.parts := List.mem_of_getElem? hj
            have dp := deep_part hp
            have fp := ih p hp (n := n) (m := m ++ e1) (few_part ho hp).1 (by omega)
            obtain ⟨m1, hm1⟩ : ∃ m1, m1 = m ++ e1 ++ [MO.lst (p.fr.map MV.str)] := ⟨_, rfl⟩
            have ok1 : evE dat.T (run dat.T W dat.defs (n + 1)) (.lc (.var 3) 3 (.of (.meth (.var 2) m_free [] [])) [(.cmp .NotEq (.var 3) (.meth (.var 0) m_binds [] []))]) [.val t.obj, .val (.ref m.length), .val p.obj, .no] (m ++ e1) = .ok (.ref m1.length) (m1 ++ [.lst ((q p).map MV.str)]) := by
              refine e_lc1 (i_of (e_meth (e_var rfl) (cls_obj p) (has_free p) l_nil fp) (walk_ref getE_new)) ?_
              rw [← hm1]
              have z := lc_filter (f := MV.str) (p := isNot t.bnd) (m := m1) (w := ⟨p.fr.map MV.str, some ((m ++ e1).length, false)⟩) (t := fun y m2 => evE dat.T (run dat.T W dat.defs (n + 1)) (.cmp .NotEq (.var 3) (.meth (.var 0) m_binds [] [])) (List.set [.val t.obj, .val (.ref m.length), .val p.obj, .no] 3 (.val y)) m2) (e := fun y m2 => evE dat.T (run dat.T W dat.defs (n + 1)) (.var 3) (List.set [.val t.obj, .val (.ref m.length), .val p.obj, .no] 3 (.val y)) m2)
                (fun acc => still_at (b := false) (getE_old (by rw [hm1]; exact getE_new))) p.fr [] (fun y _ acc => e_cmp (e_var rfl) (e_meth (e_var rfl) (cls_obj t) (has_binds t) l_nil (binds_run t)) ne_bnd) (fun y _ acc => e_var rfl) (by have := (few_part ho hp).2; simp only [List.length_nil]; omega)
              rw [List.nil_append] at z
              exact z
            have g1 : m1[m.length]? = some (.lst (((t.parts.take j).flatMap q).map MV.str)) := by rw [hm1]; exact getE_old gB
            have g2 : (m1 ++ [MO.lst ((q p).map MV.str)])[m.length]? = some (.lst (((t.parts.take j).flatMap q).map MV.str)) := getE_old g1
            have ex := ext_ok g2 (getE_new (l := m1) (x := MO.lst ((q p).map MV.str))) (by rw [List.length_map, List.length_map]; have := tot j; have := ql p hp; omega)
            have nxt : ((t.parts.take j).flatMap q).map MV.str ++ (q p).map MV.str = ((t.parts.take (j + 1)).flatMap q).map MV.str := by
              rw [List.take_add_one, hj, List.flatMap_append, List.map_append]
              simp
            rw [nxt] at ex
            refine ⟨_, _, (b_nx (s_expr (e_bm (e_var rfl) (recv_extend gB) (l_one ok1) ex))).trans b_nil, ?_, (e1 ++ [MO.lst (p.fr.map MV.str)] ++ [MO.lst ((q p).map MV.str)]).set 0 (.lst (((t.parts.take (j + 1)).flatMap q).map MV.str)), _, ?_, ?_, rfl⟩
            · rw [List.getElem?_set_ne (by omega), hm1]
              exact getE_old (getE_old gA)
            · rw [hm1, List.append_assoc, List.append_assoc, List.set_append_right _ _ (Nat.le_refl _), Nat.sub_self, List.append_assoc]
            · exact List.getElem?_set_self (List.getElem?_eq_some_iff.mp g2).1) ⟨by rw [← show (m ++ [MO.lst []]).length = m.length + 1 from by rw [List.length_append]; rfl]; exact getE_new, [.lst []] ++ [.lst (t.parts.map Tm.obj)], .no, List.append_assoc .., getE_old getE_new, rfl⟩
      obtain ⟨_, e1, y2, rfl, gB, rfl⟩ := I3
      rw [Nat.zero_add, List.length_map, List.take_length] at gB
      have tot2 := tot t.parts.length
      rw [List.take_length] at tot2
      have pr := parts_run (W := W) (n := n) (m := m ++ [MO.lst []]) t
      have e0 : evB dat.T W (run dat.T W dat.defs (n + 1)) b_Term_free (entry ⟨1, 4, [], b_Term_free⟩ [t.obj]) m = .rt (.ref (m ++ e1).length) (m ++ e1 ++ [.lst (t.fr.map MV.str)]) := by
        refine (b_nx (s_asg (e_lst l_nil (by show 0 ≤ line; decide)))).trans ((b_nx (r' := [.val t.obj, .val (.ref m.length), y2, .no]) (m1 := m ++ e1) ?_).trans (b_rt (s_ret ?_)))
        · show evS dat.T W (run dat.T W dat.defs (n + 1)) (.for_ (.one 2) (.of (.meth (.var 0) m_parts [] [])) b_freeIn) [.val t.obj, .val (.ref m.length), .no, .no] (m ++ [.lst []]) = _
          have wl : (m ++ [MO.lst []]).length = m.length + 1 := by rw [List.length_append]; rfl
          rw [evS, i_of (e_meth (e_var rfl) (cls_obj t) (has_parts t) l_nil pr) (walk_ref getE_new), wl]
          exact f3'
        · rw [fr_eq t hnm]
          exact e_blt (l_one (e_var rfl)) (sset_ok gB (Nat.lt_of_le_of_lt tot2 (by decide)))
      rw [e0]
      have fin := out_ref (m := m) (e := e1 ++ [MO.lst (t.fr.map MV.str)]) (j := (m ++ e1).length) (xs := t.fr.map MV.str) (by rw [List.length_append]; omega) (by rw [← List.append_assoc]; exact getE_new) (lows_strs _)
      rw [← List.append_assoc] at fin
      exact fin
theorem free_run {ns : List Txt} (hns : ns.length ≤ 20) (t : Tm) {n : Nat} {m : Mem} (o : t.OkP (· ∈ ns)) (h : t.deep < n) : run dat.T W dat.defs (n + 1) (meth_of t m_free) [t.obj] m = .ok (.ref m.length) (m ++ [.lst (t.fr.map MV.str)]) := free_few_run t (few_ok hns t o) h
end
end LW
end Part_M20

section Part_UQ
set_option Elab.async false
set_option linter.all false
set_option maxRecDepth 100000
set_option maxHeartbeats 4000000
/-! UQ: == of plain things; no law in sight. -/
namespace U
open PySem (PyData Str)
mutual
def MV.lay : MV → Bool
  | .str x => x.all fun c => decide (c < 0x110000)
  | .tup xs => MV.lays xs
  | _ => true
def MV.lays : List MV → Bool
  | [] => true
  | x :: xs => x.lay && MV.lays xs
end
mutual
theorem lay_fine : ∀ (v : MV), v.lay = true → v.pd.canLay0 = true
  | .non, _ => rfl
  | .bl _, _ => rfl
  | .int _, _ => rfl
  | .str x, h => by
    show (x.toArray.all fun c => decide (c < 0x110000)) = true
    rw [List.all_toArray]
    exact h
  | .tup xs, h => lays_fine xs h
  | .obj _ _, _ => rfl
  | .ref _, _ => rfl
theorem lays_fine : ∀ (xs : List MV), MV.lays xs = true → PyData.canLayAll0 (MV.pds xs) = true
  | [], _ => by simp [MV.pds, PyData.canLayAll0]
  | x :: xs, h => by
    have z := Bool.and_eq_true_iff.mp (show (x.lay && MV.lays xs) = true from h)
    simp [MV.pds, PyData.canLayAll0, lay_fine x z.1, lays_fine xs z.2]
end
section
variable {m : Mem} {v : MV} {Q : MV → Mem → Prop}
theorem peq_self (hf : v.fine = true) (hy : v.lay = true) (hd : v.dep < 1000) : peq m v v = some true := by
  unfold peq
  split
  · simp
  · rw [show MV.data m dataFuel v = some v.pd from data_fine v hf hd]
    dsimp only
    rw [lay_fine v hy, Bool.and_self, if_pos rfl, PySem.SeqAt.eqv_refl _ (lay_fine v hy)]
theorem op_eq_self (hf : v.fine = true) (hy : v.lay = true) (hd : v.dep < 1000) (q : Q (.bl true) m) : Op (cmpop .Eq v v m) Q := .of (v := .bl true) (m := m) (by show okb (peq m v v) m = _; rw [peq_self hf hy hd]; rfl) q
theorem op_ne_self (hf : v.fine = true) (hy : v.lay = true) (hd : v.dep < 1000) (q : Q (.bl false) m) : Op (cmpop .NotEq v v m) Q := .of (v := .bl false) (m := m) (by show okb ((peq m v v).map (!·)) m = _; rw [peq_self hf hy hd]; rfl) q
theorem data_lst {a : Nat} {xs : List MV} (ha : m[a]? = some (.lst xs)) (hf : MV.fines xs = true) (hd : MV.deps xs < 999) : MV.data m dataFuel (.ref a) = some (.list (MV.pds xs)) := by
  show (match m[a]? with
    | some (.lst xs) => (xs.mapM (MV.data m 999)).map PyData.list
    | some (.frz xs) => (xs.mapM (MV.data m 999)).map PyData.list
    | _ => none) = _
  rw [ha]
  dsimp only
  rw [datas_fine xs hf hd]
  rfl
theorem peq_nil {a b : Nat} {xs : List MV} (ha : m[a]? = some (.lst xs)) (hb : m[b]? = some (.lst [])) (hf : MV.fines xs = true) (hy : MV.lays xs = true) (hd : MV.deps xs < 999) : peq m (.ref a) (.ref b) = some xs.isEmpty := by
  unfold peq
  rw [if_neg (show ¬ plainEq (.ref a) (.ref b) = true from fun h => nomatch (show false = true from h)), data_lst ha hf hd, data_lst hb rfl (by decide)]
  dsimp only
  rw [if_pos (by simp [PyData.canLay0, lays_fine xs hy, MV.pds, PyData.canLayAll0])]
  cases xs <;> simp [PyData.eqv, PyData.eqvAll, MV.pds]
theorem op_nil_eq {a b : Nat} {xs : List MV} (ha : m[a]? = some (.lst xs)) (hb : m[b]? = some (.lst [])) (hf : MV.fines xs = true) (hy : MV.lays xs = true) (hd : MV.deps xs < 999) (k : Q (.bl xs.isEmpty) m) : Op (cmpop .Eq (.ref a) (.ref b) m) Q := .of (by show okb (peq m (.ref a) (.ref b)) m = _; rw [peq_nil ha hb hf hy hd]; rfl) k
theorem op_nil_ne {a b : Nat} {xs : List MV} (ha : m[a]? = some (.lst xs)) (hb : m[b]? = some (.lst [])) (hf : MV.fines xs = true) (hy : MV.lays xs = true) (hd : MV.deps xs < 999) (k : Q (.bl (!xs.isEmpty)) m) : Op (cmpop .NotEq (.ref a) (.ref b) m) Q := .of (by show okb ((peq m (.ref a) (.ref b)).map (!·)) m = _; rw [peq_nil ha hb hf hy hd]; rfl) k
end
theorem strs_fine {l : List Txt} (h : ∀ x ∈ l, ∀ c ∈ x, c < 16 ^ 8) : MV.fines (l.map MV.str) = true := by
  induction l with
  | nil => rfl
  | cons x l ih =>
    show ((MV.str x).fine && MV.fines (l.map MV.str)) = true
    rw [ih fun y hy => h y (List.mem_cons_of_mem _ hy), Bool.and_true]
    exact List.all_eq_true.mpr fun c hc => decide_eq_true (h x (List.mem_cons_self ..) c hc)
theorem strs_lay {l : List Txt} (h : ∀ x ∈ l, ∀ c ∈ x, c < 0x110000) : MV.lays (l.map MV.str) = true := by
  induction l with
  | nil => rfl
  | cons x l ih =>
    show ((MV.str x).lay && MV.lays (l.map MV.str)) = true
    rw [ih fun y hy => h y (List.mem_cons_of_mem _ hy), Bool.and_true]
    exact List.all_eq_true.mpr fun c hc => decide_eq_true (h x (List.mem_cons_self ..) c hc)
theorem strs_dep : ∀ l : List Txt, MV.deps (l.map MV.str) = 0
  | [] => rfl
  | x :: l => by show max 0 (MV.deps (l.map MV.str)) = 0; rw [strs_dep l]; rfl
end U
end Part_UQ

section Part_B13
set_option Elab.async false
set_option linter.all false
set_option maxRecDepth 100000
set_option maxHeartbeats 4000000
/-! B13: names, numbers and leaves drawn, where the law names the cells. -/
namespace LW
open U
open PySem (Operator CmpOp)
local macro_rules | `(tactic| walk_at "g") => `(tactic| first | (with_reducible assumption) | (with_reducible exact getE_new) | ((with_reducible apply getE_old); walk_at "g") | ((with_reducible apply Keep.get); (with_reducible assumption); (with_reducible assumption)))
local macro_rules | `(tactic| walk_at "k") => `(tactic| first | (with_reducible exact Keep.refl) | ((with_reducible apply Keep.push); walk_at "k") | ((with_reducible apply Keep.set); walk_at "k"; ((try simp only [List.length_append, List.length_set, List.length_cons, List.length_nil]); omega)) | (with_reducible assumption))
local macro_rules | `(tactic| walk_at "d") => `(tactic| first | (with_reducible assumption) | omega | decide)
local macro_rules | `(tactic| walk_at "n") => `(tactic| first | (with_reducible assumption) | omega | exact Nat.le_of_ble_eq_true rfl | (simp only [List.length_append, List.length_cons, List.length_nil, List.length_map, List.length_reverse]; omega))
local macro_rules | `(tactic| walk_at "D") => `(tactic| first | (with_reducible assumption) | ((with_reducible apply Lf.st); (with_reducible assumption)) | ((with_reducible apply Sd.more); walk_at "D"))
local macro_rules | `(tactic| walk_at "h") => `(tactic| first | (with_reducible assumption) | omega | exact Sd.ne1 (by walk_at "D") | exact Sd.ne2 (by walk_at "D"))
local macro_rules | `(tactic| walk_at "L") => `(tactic| first | (with_reducible assumption) | ((with_reducible apply Lf.refl); walk_at "D") | ((with_reducible apply Lf.push); walk_at "L") | ((with_reducible apply Lf.thn); (with_reducible assumption); walk_at "L"))
local macro_rules | `(tactic| walk_at "a") => `(tactic| first | exact at0 | exact at1 | exact at2 | exact at3 | (with_reducible assumption) | exact (atn (by with_reducible assumption)) | exact rfl)
local macro_rules | `(tactic| walk_at "S") => `(tactic| first | (focus (simp only [Tg.put, setAll, envOf, List.map_cons, List.map_nil, List.length_cons, List.length_nil, Nat.reduceAdd, Nat.reduceSub, List.reduceReplicate, List.replicate_zero, List.cons_append, List.nil_append, List.append_nil, List.set_cons_succ, List.set_cons_zero, List.set_nil]; try exact rfl)) | exact rfl)
local macro_rules | `(tactic| walk_at "y") => `(tactic| first | fail)
local macro_rules | `(tactic| walk_at "c") => `(tactic| first | walk_at "y" | ((with_reducible refine' We.of ?h0 ?_); (case h0 => with_reducible assumption)) | ((with_reducible refine' We.exn ?h0 ?_); (case h0 => with_reducible assumption)) | with_reducible refine wi_of ?_ | with_reducible refine wi_enum ?_ | with_reducible refine wi_rng ?_)
local macro_rules | `(tactic| walk_at "o") => `(tactic| first | with_reducible refine op_cmp_eq ?_ | with_reducible refine op_cmp_lt ?_ | with_reducible refine op_str_eq ?_ | ((with_reducible refine' op_idx ?h0 ?_); (case h0 => walk_at "a")) | with_reducible refine op_add ?_ | with_reducible refine op_sub ?_ | ((with_reducible refine' op_idxl ?h0 ?h1 ?_); (case h0 => walk_at "g"); (case h1 => walk_at "a")) | with_reducible refine op_cmp_ne ?_ | with_reducible refine op_cmp_le ?_ | with_reducible refine op_cmp_gt ?_ | with_reducible refine op_cmp_ge ?_ | with_reducible refine op_str_ne ?_ | with_reducible refine op_is_non ?_ | with_reducible refine op_isnot_non ?_ | ((with_reducible refine' op_mod ?h0 ?_); (case h0 => walk_at "d")) | ((with_reducible refine' op_fdiv ?h0 ?_); (case h0 => walk_at "d")) | ((with_reducible refine' op_mul ?h0 ?_); (case h0 => walk_at "d")) | ((with_reducible refine' op_fdiv ?h0 ?_); (case h0 => walk_at "d")) | ((with_reducible refine' op_mul ?h0 ?_); (case h0 => walk_at "d")) | with_reducible refine op_neg ?_ | with_reducible refine op_lent ?_ | ((with_reducible refine' op_lenl ?h0 ?_); (case h0 => walk_at "g")) | ((with_reducible refine' op_tupl ?h0 ?_); (case h0 => walk_at "g")) | with_reducible refine op_listt ?_ | ((with_reducible refine' op_listl ?h0 ?_); (case h0 => walk_at "g")) | with_reducible refine op_abs ?_ | with_reducible refine op_intb ?_ | with_reducible refine op_slct ?_ | ((with_reducible refine' op_slcl ?h0 ?_); (case h0 => walk_at "g")) | ((with_reducible refine' op_in ?h0 ?h1 ?_); (case h0 => walk_at "g"); (case h1 => (first | assumption | rfl))) | ((with_reducible refine' op_notin ?h0 ?h1 ?_); (case h0 => walk_at "g"); (case h1 => (first | assumption | rfl))) | ((with_reducible refine' op_append ?h0 ?h1 ?_); (case h0 => walk_at "g"); (case h1 => walk_at "n")) | ((with_reducible refine' op_extend ?h0 ?h1 ?h2 ?_); (case h0 => walk_at "g"); (case h1 => walk_at "g"); (case h2 => walk_at "n")) | ((with_reducible refine' op_ladd ?h0 ?h1 ?h2 ?_); (case h0 => walk_at "g"); (case h1 => walk_at "g"); (case h2 => walk_at "n")) | ((with_reducible refine' op_tadd ?h0 ?_); (case h0 => walk_at "n")) | ((with_reducible refine' op_sadd ?h0 ?_); (case h0 => walk_at "n")) | ((with_reducible refine' op_lens ?h0 ?_); (case h0 => walk_at "n")) | ((with_reducible refine' op_slcs ?h0 ?_); (case h0 => walk_at "n")) | walk_at "y" | ((with_reducible refine' of_fld ?h0 ?_); (case h0 => exact rfl)) | ((with_reducible refine' of_cmp ?h0 ?_); (case h0 => exact rfl)) | ((with_reducible refine' of_sub ?h0 ?_); (case h0 => exact rfl)) | ((with_reducible refine' of_blt ?h0 ?_); (case h0 => exact rfl)) | ((with_reducible refine' of_rev ?h0 ?_); (case h0 => exact rfl)) | ((with_reducible refine' of_din ?h0 ?_); (case h0 => exact rfl)) | ((with_reducible refine' of_dix ?h0 ?_); (case h0 => exact rfl)))
local macro_rules | `(tactic| walk_at "e") => `(tactic| first | ((with_reducible refine' w_var ?h0 ?_); (case h0 => exact rfl)) | with_reducible refine w_int ?_ | with_reducible refine w_str ?_ | with_reducible refine w_cmp ?_ | with_reducible refine w_idx ?_ | with_reducible refine w_call0 ?_ | with_reducible refine w_bl ?_ | with_reducible refine w_non ?_ | with_reducible refine w_and ?_ | with_reducible refine w_or ?_ | with_reducible refine w_not ?_ | with_reducible refine w_bin ?_ | with_reducible refine w_tup ?_ | with_reducible refine w_lst ?_ | with_reducible refine w_blt ?_ | with_reducible refine w_bm ?_ | with_reducible refine w_meth0 ?_ | with_reducible refine w_fld ?_ | with_reducible refine w_isi ?_ | with_reducible refine w_ife ?_ | with_reducible refine w_slc10 ?_ | with_reducible refine w_slc01 ?_ | with_reducible refine w_slc11 ?_ | with_reducible refine w_slc00 ?_ | with_reducible refine w_rev ?_ | with_reducible refine w_new0 ?_ | with_reducible refine w_neg ?_ | with_reducible refine w_chain ?_ | with_reducible refine w_lc0 ?_ | with_reducible refine w_lc1 ?_ | with_reducible refine w_call ?_ | with_reducible refine w_new ?_ | with_reducible refine w_meth ?_ | walk_at "y" | with_reducible refine w_con ?_ | with_reducible refine w_din ?_ | with_reducible refine w_dix ?_ | ((with_reducible refine' w_xfld ?h0 ?h1 ?h2 ?_); (case h0 => exact rfl); (case h1 => exact rfl); (case h2 => exact rfl)) | ((with_reducible refine' w_xisi ?h0 ?_); (case h0 => exact rfl)) | with_reducible refine w_fstr ?_)
local macro_rules | `(tactic| walk_at "t") => `(tactic| first | with_reducible refine wb_cons ?_ | with_reducible refine ws_asg ?_ | with_reducible refine ws_ret ?_ | with_reducible refine ws_ifs ?_ | with_reducible refine wb_nil ?_ | with_reducible refine ws_expr ?_ | with_reducible refine ws_for ?_ | with_reducible refine ws_unp ?_ | with_reducible refine ws_setf ?_ | with_reducible refine ws_seti ?_ | ((with_reducible refine' ws_aug ?h0 ?_); (case h0 => exact rfl)) | with_reducible refine ws_try ?_ | with_reducible refine ws_whl ?_ | with_reducible refine ws_retn ?_ | with_reducible refine ws_pass ?_ | with_reducible refine ws_brk ?_ | with_reducible refine ws_cont ?_)
local macro_rules | `(tactic| walk_at "r") => `(tactic| first | with_reducible refine br_tt ?_ | with_reducible refine br_ff ?_ | with_reducible refine br_not ?_ | ((with_reducible refine' br_dt ?h0 ?_); (case h0 => walk_at "d")) | ((with_reducible refine' br_df ?h0 ?_); (case h0 => walk_at "d")) | ((with_reducible refine' br_t ?h0 ?_); (case h0 => (first | assumption | rfl))) | ((with_reducible refine' br_f ?h0 ?_); (case h0 => (first | assumption | rfl))))
local macro_rules | `(tactic| walk_at "b") => `(tactic| first | with_reducible refine tr_bl ?_ | with_reducible refine tr_tup ?_ | with_reducible refine tr_int ?_ | with_reducible refine tr_non ?_ | with_reducible refine isI ?_ | ((with_reducible refine' wk_ref ?h0 ?_); (case h0 => walk_at "g")) | ((with_reducible refine' en_ref ?h0 ?_); (case h0 => walk_at "g")) | with_reducible refine wt_tup ?_ | with_reducible refine wt_str ?_ | with_reducible refine And.intro (le_line rfl) ?_ | with_reducible refine And.intro (recv_a (by walk_at "g")) ?_ | with_reducible refine And.intro (recv_e (by walk_at "g")) ?_ | with_reducible refine And.intro recv_j ?_ | ((with_reducible refine' cl_yes ?h0 ?h1 ?_); (case h0 => exact rfl); (case h1 => exact rfl)) | ((with_reducible refine' cl_no ?h0 ?h1 ?_); (case h0 => exact rfl); (case h1 => exact rfl)) | ((with_reducible refine' rgi ?h0 ?_); (case h0 => omega)) | ((with_reducible refine' clear_of ?h0 ?_); (case h0 => exact rfl)) | ((with_reducible refine' se_of ?h0 ?_); (case h0 => walk_at "S")) | ((with_reducible refine' me_put ?h0 ?_); (case h0 => walk_at "S")) | with_reducible refine ft_cons ?_ | with_reducible refine ft_nil ?_ | walk_at "y" | ((with_reducible refine' me_of ?h0 ?_); (case h0 => exact rfl)))
local macro_rules | `(tactic| walk_at "1") => `(tactic| first | ((with_reducible show Ws _ _ _ _ _); walk_at "t") | ((with_reducible show We (evE _ _ _ _ _) _ _); walk_at "e") | with_reducible refine wl_cons ?_ | with_reducible refine wl_nil ?_ | ((with_reducible show Op _ _); walk_at "o") | ((with_reducible show Br _ _ _); walk_at "r") | ((with_reducible show We _ _ _); walk_at "c") | walk_at "b")
local macro_rules | `(tactic| walk_at "w") => `(tactic| repeat walk_at "1")
section
variable {W n s c : Nat} {m : Mem} {Q : MV → Mem → Prop} {X : QX}
theorem w_draw {z : Int} (l : Sd m s c) (hz : (decide (0 < z) && decide (z < 1000000000000)) = true) (k : ∀ (r : Nat) (m' : Mem), (r : Int) < z → Lf m m' s c → Q (.int (r : Nat)) m') : We (run dat.T W dat.defs (n + 1) i_law_draw [.ref s, .int z] m) Q X := by
  rw [Bool.and_eq_true, decide_eq_true_eq, decide_eq_true_eq] at hz
  obtain ⟨r, m', e, h, l2⟩ := draw_z (W := W) (n := n) l hz.1 hz.2
  exact .of e (k r m' h ((Lf.refl l).draw l2))
/-- below a number that isn't written -/
theorem w_drawn {z : Int} (l : Sd m s c) (hz : 0 < z ∧ z < 1000000000000) (k : ∀ (r : Nat) (m' : Mem), (r : Int) < z → Lf m m' s c → Q (.int (r : Nat)) m') : We (run dat.T W dat.defs (n + 1) i_law_draw [.ref s, .int z] m) Q X := w_draw l (by simp [hz.1, hz.2]) k
end
local macro_rules | `(tactic| walk_at "g") => `(tactic| ((with_reducible apply Lf.get); (with_reducible assumption); walk_at "g"; walk_at "h"; walk_at "h"))
local macro_rules | `(tactic| walk_at "y") => `(tactic| first | ((with_reducible refine' w_draw ?h0 ?h1 ?_); (case h0 => walk_at "D"); (case h1 => exact rfl)) | ((with_reducible refine' w_drawn ?h0 ?h1 ?_); (case h0 => walk_at "D"); (case h1 => simp only [List.length_map]; omega)))
def ownB : List Txt := [[111, 112, 101, 110], [108, 111, 111, 107], [116, 97, 107, 101], [116, 117, 114, 110], [115, 117, 109], [99, 104, 111, 111, 115, 101], [109, 97, 107, 101, 114], [110, 117, 109, 98, 101, 114]]
theorem ownB_ok : ∀ x ∈ ownB, NameOk x := by
  have : ∀ x ∈ ownB, nameB x = true := by decide
  exact fun x hx => nameOk_of (this x hx)
theorem at_map {α : Type} {f : α → MV} {l : List α} {k : Nat} (h : k < l.length) : ∃ a, L2.atI (l.map f) (k : Int) = some (f a) ∧ a ∈ l := ⟨l[k], L2.atI_nat (by rw [List.getElem?_map, List.getElem?_eq_getElem h]; rfl), List.getElem_mem h⟩
section
variable {W n s c N : Nat} {m : Mem} {Q : MV → Mem → Prop} {X : QX}
theorem name_ok {ns : List Txt} (hs : Sd m s c) (g : m[N]? = some (.lst (ns.map .str))) (h1 : N ≠ s) (h2 : N ≠ c) (hns : ∀ x ∈ ns, NameOk x) (few : ns.length ≤ 50) : ∃ (x : Txt) (m' : Mem), run dat.T W dat.defs (n + 2) i_law_name [.ref s, .ref N] m = .ok (.str x) m' ∧ NameOk x ∧ Left m m' s c := by
  refine run_drw (g := MV.str) (P := NameOk) hs t_law_name rfl (by walk_at "S") (fun _ _ _ => rfl) ?_
  walk_at "w"
  intro way m1 hw l1
  have fS : MV.fines (ns.map MV.str) = true := strs_fine fun y hy c hc => by have := (hns y hy).let_ c hc; omega
  have lS : MV.lays (ns.map MV.str) = true := strs_lay fun y hy c hc => by have := (hns y hy).let_ c hc; omega
  walk_at "w"
  refine op_nil_ne (xs := ns.map MV.str) (by walk_at "g") (by walk_at "g") fS lS (by rw [strs_dep]; decide) ?_
  walk_at "w"
  have rest : ∀ (m2 : Mem), Lf m m2 s c → Ws (evB dat.T W (run dat.T W dat.defs (n + 1)) (b_law_name.drop 2) [Sl.val (MV.ref s), Sl.val (MV.ref N), Sl.val (MV.int way), Sl.no, Sl.no] m2) (fun x x_1 => False) (fun u mm => ∃ a, u = MV.str a ∧ NameOk a ∧ Lf m mm s c) noE noL := fun m2 l2 => by
    show Ws (evB dat.T W (run dat.T W dat.defs (n + 1)) [_, _, _] _ m2) _ _ _ _
    walk_at "w"
    refine br_dec (fun h4 => ?_) (fun h4 => ?_)
    · walk_at "w"
      intro k m3 hk l3
      obtain ⟨x, hx, hm⟩ := at_map (f := MV.str) (l := ownB) (k := k) (by show k < 8; omega)
      refine' op_idxl ?hg ?hx ?_
      case hg => walk_at "g"
      case hx => exact hx
      exact ⟨x, rfl, ownB_ok x hm, by walk_at "L"⟩
    · walk_at "w"
      intro k m3 hk l3
      walk_at "w"
      refine lm_inv (fun j acc mm => Lf m3 mm s c ∧ mm[m3.length]? = some (.lst acc) ∧ ∃ cs : Txt, acc = cs.map (fun c => .str [c]) ∧ cs.length = j ∧ ∀ c ∈ cs, 97 ≤ c ∧ c ≤ 122) rfl ⟨by walk_at "L", getE_new, [], rfl, rfl, fun _ h => nomatch h⟩ ?_ ?_
      · rintro j x hx acc mm ⟨l4, g4, cs, rfl, hl, hc⟩
        obtain ⟨_, hj⟩ := rng_at hx
        walk_at "w"
        intro q m5 hq l5
        obtain ⟨z, hz, z1, z2⟩ := letter_at (q := q) (by omega)
        have ⟨hs3, hc3⟩ := l3.st.ls
        refine op_idxs (x := letters) (by decide) hz ?_
        have g5 : m5[m3.length]? = some (.lst (cs.map fun c => .str [c])) := Lf.get l5 g4 (by omega) (by omega)
        refine ⟨g5, by rw [List.length_map]; omega, ?_⟩
        exact ⟨Lf.set l3.st (Lf.thn l5 l4) (Nat.le_refl _), List.getElem?_set_self (List.getElem?_eq_some_iff.mp g5).1, cs ++ [z], by simp, by simp [hl], fun c hc2 => by
          rcases List.mem_append.mp hc2 with h | h
          · exact hc c h
          · rw [List.mem_singleton.mp h]; exact ⟨z1, z2⟩⟩
      · rintro acc mm ⟨l4, g4, cs, rfl, hl, hc⟩
        rw [rng_many] at hl
        walk_at "w"
        refine Op.of (join_ok g4 (by omega)) ?_
        exact ⟨cs, rfl, ⟨by omega, by omega, hc⟩, Lf.thn l4 (Lf.thn l3 l2)⟩
  cases hns0 : ns with
  | nil =>
    iterate 5 walk_at "1"
    exact rest _ (by walk_at "L")
  | cons y ys =>
    rw [← hns0]
    have pos : 0 < ns.length := by rw [hns0]; exact Nat.succ_pos _
    have e0 : (ns.map MV.str).isEmpty = false := by rw [hns0]; rfl
    walk_at "w"
    refine br_dec (fun h4 => ?_) (fun h4 => ?_)
    · walk_at "w"
      intro k m3 hk l3
      rw [List.length_map] at hk
      obtain ⟨x, hx, hm⟩ := at_map (f := MV.str) (l := ns) (k := k) (by omega)
      walk_at "w"
      exact ⟨x, rfl, hns x hm, by walk_at "L"⟩
    · walk_at "1"
      exact rest _ (by walk_at "L")
theorem w_name {ns : List Txt} (hs : Sd m s c) (g : m[N]? = some (.lst (ns.map .str))) (h1 : N ≠ s) (h2 : N ≠ c) (hns : ∀ x ∈ ns, NameOk x) (few : ns.length ≤ 50) (k : ∀ (x : Txt) (m' : Mem), NameOk x → Lf m m' s c → Q (.str x) m') : We (run dat.T W dat.defs (n + 2) i_law_name [.ref s, .ref N] m) Q X := by
  obtain ⟨x, m', e, o, l⟩ := name_ok (W := W) (n := n) hs g h1 h2 hns few
  exact .of e (k x m' o ((Lf.refl hs).draw l))
theorem number_ok (hs : Sd m s c) : ∃ (i : Int) (m' : Mem), run dat.T W dat.defs (n + 2) i_law_number [.ref s] m = .ok (.int i) m' ∧ i.natAbs < 10000000000000000000000000000000000000000 ∧ Left m m' s c := by
  refine run_drw (g := MV.int) (P := fun i => i.natAbs < 10000000000000000000000000000000000000000) hs t_law_number rfl (by walk_at "S") (fun _ _ _ => rfl) ?_
  walk_at "w"
  intro way m1 hw l1
  walk_at "w"
  refine br_dec (fun h4 => ?_) (fun h4 => ?_)
  · walk_at "w"
    exact ⟨_, rfl, by omega, by walk_at "L"⟩
  · walk_at "w"
    intro q m2 hq l2
    walk_at "w"
    obtain ⟨z, hz, z0, z1⟩ : ∃ z : Int, L2.atI [MV.int 0, MV.int 0, MV.int 1, MV.int 2, MV.int 38] ((way : Int) - 1) = some (.int z) ∧ 0 ≤ z ∧ z ≤ 38 := by
      have : way = 2 ∨ way = 3 ∨ way = 4 ∨ way = 5 := by omega
      rcases this with rfl | rfl | rfl | rfl
      · exact ⟨0, L2.atI_nat (j := 1) rfl, by decide, by decide⟩
      · exact ⟨1, L2.atI_nat (j := 2) rfl, by decide, by decide⟩
      · exact ⟨2, L2.atI_nat (j := 3) rfl, by decide, by decide⟩
      · exact ⟨38, L2.atI_nat (j := 4) rfl, by decide, by decide⟩
    walk_at "w"
    refine fo_inv (fun j r mm => Lf m mm s c ∧ ∃ (v : Nat) (y : Sl), r = [.val (.ref s), .val (.int way), .val (.int v), y] ∧ v < 100 * 10 ^ j) (fun _ _ _ _ => rfl) ⟨by walk_at "L", q, _, rfl, by omega⟩ ?_ ?_
    · rintro j x hx r mm ⟨l3, v, y, rfl, hv⟩
      obtain ⟨_, hj⟩ := rng_at hx
      have pj : 10 ^ j ≤ 10 ^ 38 := Nat.pow_le_pow_right (by decide) (by omega)
      have p38 : 10 ^ 38 = 100000000000000000000000000000000000000 := by decide
      rw [p38] at pj
      walk_at "w"
      intro d m3 hd l4
      walk_at "w"
      exact ⟨Lf.thn l4 l3, v * 10 + d, .val x, by simp, by rw [Nat.pow_succ]; omega⟩
    · rintro r mm ⟨l3, v, y, rfl, hv⟩
      rw [rng_many] at hv
      have pj : 10 ^ z.toNat ≤ 10 ^ 38 := Nat.pow_le_pow_right (by decide) (by omega)
      have p38 : 10 ^ 38 = 100000000000000000000000000000000000000 := by decide
      rw [p38] at pj
      walk_at "w"
      intro d m3 hd l4
      have : d = 0 ∨ d = 1 := by omega
      rcases this with rfl | rfl
      · refine' op_idxl ?hg ?hx ?_
        case hg => walk_at "g"
        case hx => exact L2.atI_nat (j := 0) rfl
        walk_at "w"
        exact ⟨_, rfl, by omega, by walk_at "L"⟩
      · refine' op_idxl ?hg ?hx ?_
        case hg => walk_at "g"
        case hx => exact L2.atI_nat (j := 1) rfl
        walk_at "w"
        exact ⟨_, rfl, by omega, by walk_at "L"⟩
theorem w_number (hs : Sd m s c) (k : ∀ (i : Int) (m' : Mem), i.natAbs < 10000000000000000000000000000000000000000 → Lf m m' s c → Q (.int i) m') : We (run dat.T W dat.defs (n + 2) i_law_number [.ref s] m) Q X := by
  obtain ⟨x, m', e, o, l⟩ := number_ok (W := W) (n := n) hs
  exact .of e (k x m' o ((Lf.refl hs).draw l))
end
end LW
end Part_B13

section Part_B14
set_option Elab.async false
set_option linter.all false
set_option maxRecDepth 100000
set_option maxHeartbeats 4000000
/-! B14: any terms drawn, where the law names the cells; names that are bound. -/
namespace LW
open U
open PySem (Operator CmpOp)
/-- the names that stand free are among these -/
def Tm.Sc : Tm → List Txt → Prop
  | .opn, _ => True
  | .name x, ns => x ∈ ns
  | .num i, _ => i.natAbs < 10000000000000000000000000000000000000000
  | .mk x b, ns => NameOk x ∧ b.Sc (ns ++ [x])
  | .giv a b, ns => a.Sc ns ∧ b.Sc ns
  | .sm s a b, ns => SignOk s ∧ (a.Sc ns ∧ b.Sc ns)
  | .cho a b c, ns => a.Sc ns ∧ (b.Sc ns ∧ c.Sc ns)
  | .aga x b, ns => NameOk x ∧ b.Sc (ns ++ [x])
theorem big_log {i : Int} (h : i.natAbs < 10000000000000000000000000000000000000000) : i.natAbs.log2 < 400 := log_ok (Nat.lt_trans h (by decide))
theorem sc_ok : ∀ (t : Tm) {ns : List Txt}, t.Sc ns → (∀ x ∈ ns, NameOk x) → t.Ok
  | .opn, _, _, _ => trivial
  | .name x, _, h, o => o x h
  | .num i, _, h, _ => big_log h
  | .mk x b, ns, h, o => ⟨h.1, sc_ok b h.2 fun y hy => by
    rcases List.mem_append.mp hy with q | q
    · exact o y q
    · rw [List.mem_singleton.mp q]; exact h.1⟩
  | .aga x b, ns, h, o => ⟨h.1, sc_ok b h.2 fun y hy => by
    rcases List.mem_append.mp hy with q | q
    · exact o y q
    · rw [List.mem_singleton.mp q]; exact h.1⟩
  | .giv a b, _, h, o => ⟨sc_ok a h.1 o, sc_ok b h.2 o⟩
  | .sm s a b, _, h, o => ⟨h.1, sc_ok a h.2.1 o, sc_ok b h.2.2 o⟩
  | .cho a b c, _, h, o => ⟨sc_ok a h.1 o, sc_ok b h.2.1 o, sc_ok c h.2.2 o⟩
theorem sc_st {x : Txt} : ∀ (t : Tm) {ns : List Txt}, t.Sc ns → t.st x = true → x ∈ ns
  | .opn, _, _, h => by simp [Tm.st] at h
  | .name y, _, h, e => by simp [Tm.st] at e; rw [← e]; exact h
  | .num _, _, _, h => by simp [Tm.st] at h
  | .mk y b, ns, h, e => by
    simp [Tm.st] at e
    rcases List.mem_append.mp (sc_st b h.2 e.2) with q | q
    · exact q
    · exact absurd (List.mem_singleton.mp q).symm e.1
  | .aga y b, ns, h, e => by
    simp [Tm.st] at e
    rcases List.mem_append.mp (sc_st b h.2 e.2) with q | q
    · exact q
    · exact absurd (List.mem_singleton.mp q).symm e.1
  | .giv a b, _, h, e => by
    simp [Tm.st] at e
    exact e.elim (sc_st a h.1) (sc_st b h.2)
  | .sm _ a b, _, h, e => by
    simp [Tm.st] at e
    exact e.elim (sc_st a h.2.1) (sc_st b h.2.2)
  | .cho a b c, _, h, e => by
    simp [Tm.st] at e
    rcases e with e | e | e
    · exact sc_st a h.1 e
    · exact sc_st b h.2.1 e
    · exact sc_st c h.2.2 e
theorem len_sub : ∀ (l ns : List Txt), l.Nodup → (∀ x ∈ l, x ∈ ns) → l.length ≤ ns.length
  | [], _, _, _ => Nat.zero_le _
  | x :: l, ns, hn, hs => by
    have hx := hs x (List.mem_cons_self ..)
    have hn2 := List.nodup_cons.mp hn
    have ih := len_sub l (ns.erase x) hn2.2 fun y hy => (List.mem_erase_of_ne (fun e => hn2.1 (by rw [← e]; exact hy))).mpr (hs y (List.mem_cons_of_mem _ hy))
    rw [List.length_erase_of_mem hx] at ih
    have := List.length_pos_of_mem hx
    rw [List.length_cons]
    omega
theorem sc_fr {t : Tm} {ns : List Txt} (h : t.Sc ns) : t.fr.length ≤ ns.length := by
  have sub : ∀ x ∈ t.fr, x ∈ ns := fun x hx => sc_st t h ((mem_fr x t).mp hx)
  have nd : t.fr.Nodup := (fr_pw t).imp fun {a b} h e => by subst e; exact List.lt_irrefl _ h
  exact len_sub _ _ nd sub
theorem sc_few : ∀ (t : Tm) {ns : List Txt}, t.Sc ns → ns.length + t.deep ≤ 20 → t.Few
  | .opn, _, _, _ => trivial
  | .name _, _, _, _ => trivial
  | .num _, _, _, _ => trivial
  | .mk x b, ns, h, d => by
    have d : ns.length + (b.deep + 1) ≤ 20 := d
    have f := sc_fr h.2
    rw [List.length_append] at f
    simp only [List.length_cons, List.length_nil] at f
    exact ⟨sc_few b h.2 (by rw [List.length_append]; simp only [List.length_cons, List.length_nil]; omega), by omega⟩
  | .aga x b, ns, h, d => by
    have d : ns.length + (b.deep + 1) ≤ 20 := d
    have f := sc_fr h.2
    rw [List.length_append] at f
    simp only [List.length_cons, List.length_nil] at f
    exact ⟨sc_few b h.2 (by rw [List.length_append]; simp only [List.length_cons, List.length_nil]; omega), by omega⟩
  | .giv a b, ns, h, d => by
    have d : ns.length + (max a.deep b.deep + 1) ≤ 20 := d
    have f1 := sc_fr h.1
    have f2 := sc_fr h.2
    exact ⟨⟨sc_few a h.1 (by omega), by omega⟩, ⟨sc_few b h.2 (by omega), by omega⟩⟩
  | .sm _ a b, ns, h, d => by
    have d : ns.length + (max a.deep b.deep + 1) ≤ 20 := d
    have f1 := sc_fr h.2.1
    have f2 := sc_fr h.2.2
    exact ⟨⟨sc_few a h.2.1 (by omega), by omega⟩, ⟨sc_few b h.2.2 (by omega), by omega⟩⟩
  | .cho a b c, ns, h, d => by
    have d : ns.length + (max a.deep (max b.deep c.deep) + 1) ≤ 20 := d
    have f1 := sc_fr h.1
    have f2 := sc_fr h.2.1
    have f3 := sc_fr h.2.2
    exact ⟨⟨sc_few a h.1 (by omega), by omega⟩, ⟨sc_few b h.2.1 (by omega), by omega⟩, ⟨sc_few c h.2.2 (by omega), by omega⟩⟩
/-- closed, and few names in each part -/
structure Cz (t : Tm) : Prop where
  ok : t.Ok
  few : t.Few
  fr : t.fr = []
theorem cz_of {t : Tm} (h : t.Sc []) (d : t.deep ≤ 20) : Cz t := ⟨sc_ok t h (fun _ q => nomatch q), sc_few t h (by simpa using d), List.length_eq_zero_iff.mp (Nat.le_zero.mp (sc_fr h))⟩
local macro_rules | `(tactic| walk_at "g") => `(tactic| first | (with_reducible assumption) | (with_reducible exact getE_new) | ((with_reducible apply getE_old); walk_at "g") | ((with_reducible apply Keep.get); (with_reducible assumption); (with_reducible assumption)))
local macro_rules | `(tactic| walk_at "k") => `(tactic| first | (with_reducible exact Keep.refl) | ((with_reducible apply Keep.push); walk_at "k") | ((with_reducible apply Keep.set); walk_at "k"; ((try simp only [List.length_append, List.length_set, List.length_cons, List.length_nil]); omega)) | (with_reducible assumption))
local macro_rules | `(tactic| walk_at "d") => `(tactic| first | (with_reducible assumption) | omega | decide)
local macro_rules | `(tactic| walk_at "n") => `(tactic| first | (with_reducible assumption) | omega | exact Nat.le_of_ble_eq_true rfl | (simp only [List.length_append, List.length_cons, List.length_nil, List.length_map, List.length_reverse]; omega))
local macro_rules | `(tactic| walk_at "D") => `(tactic| first | (with_reducible assumption) | ((with_reducible apply Lf.st); (with_reducible assumption)) | ((with_reducible apply Sd.more); walk_at "D"))
local macro_rules | `(tactic| walk_at "h") => `(tactic| first | (with_reducible assumption) | omega | exact Sd.ne1 (by walk_at "D") | exact Sd.ne2 (by walk_at "D"))
local macro_rules | `(tactic| walk_at "L") => `(tactic| first | (with_reducible assumption) | ((with_reducible apply Lf.refl); walk_at "D") | ((with_reducible apply Lf.push); walk_at "L") | ((with_reducible apply Lf.thn); (with_reducible assumption); walk_at "L"))
local macro_rules | `(tactic| walk_at "a") => `(tactic| first | exact at0 | exact at1 | exact at2 | exact at3 | (with_reducible assumption) | exact (atn (by with_reducible assumption)) | exact rfl)
local macro_rules | `(tactic| walk_at "S") => `(tactic| first | (focus (simp only [Tg.put, setAll, envOf, List.map_cons, List.map_nil, List.length_cons, List.length_nil, Nat.reduceAdd, Nat.reduceSub, List.reduceReplicate, List.replicate_zero, List.cons_append, List.nil_append, List.append_nil, List.set_cons_succ, List.set_cons_zero, List.set_nil]; try exact rfl)) | exact rfl)
local macro_rules | `(tactic| walk_at "y") => `(tactic| first | fail)
local macro_rules | `(tactic| walk_at "c") => `(tactic| first | walk_at "y" | ((with_reducible refine' We.of ?h0 ?_); (case h0 => with_reducible assumption)) | ((with_reducible refine' We.exn ?h0 ?_); (case h0 => with_reducible assumption)) | with_reducible refine wi_of ?_ | with_reducible refine wi_enum ?_ | with_reducible refine wi_rng ?_)
local macro_rules | `(tactic| walk_at "o") => `(tactic| first | with_reducible refine op_cmp_eq ?_ | with_reducible refine op_cmp_lt ?_ | with_reducible refine op_str_eq ?_ | ((with_reducible refine' op_idx ?h0 ?_); (case h0 => walk_at "a")) | with_reducible refine op_add ?_ | with_reducible refine op_sub ?_ | ((with_reducible refine' op_idxl ?h0 ?h1 ?_); (case h0 => walk_at "g"); (case h1 => walk_at "a")) | with_reducible refine op_cmp_ne ?_ | with_reducible refine op_cmp_le ?_ | with_reducible refine op_cmp_gt ?_ | with_reducible refine op_cmp_ge ?_ | with_reducible refine op_str_ne ?_ | with_reducible refine op_is_non ?_ | with_reducible refine op_isnot_non ?_ | ((with_reducible refine' op_mod ?h0 ?_); (case h0 => walk_at "d")) | ((with_reducible refine' op_fdiv ?h0 ?_); (case h0 => walk_at "d")) | ((with_reducible refine' op_mul ?h0 ?_); (case h0 => walk_at "d")) | ((with_reducible refine' op_fdiv ?h0 ?_); (case h0 => walk_at "d")) | ((with_reducible refine' op_mul ?h0 ?_); (case h0 => walk_at "d")) | with_reducible refine op_neg ?_ | with_reducible refine op_lent ?_ | ((with_reducible refine' op_lenl ?h0 ?_); (case h0 => walk_at "g")) | ((with_reducible refine' op_tupl ?h0 ?_); (case h0 => walk_at "g")) | with_reducible refine op_listt ?_ | ((with_reducible refine' op_listl ?h0 ?_); (case h0 => walk_at "g")) | with_reducible refine op_abs ?_ | with_reducible refine op_intb ?_ | with_reducible refine op_slct ?_ | ((with_reducible refine' op_slcl ?h0 ?_); (case h0 => walk_at "g")) | ((with_reducible refine' op_in ?h0 ?h1 ?_); (case h0 => walk_at "g"); (case h1 => (first | assumption | rfl))) | ((with_reducible refine' op_notin ?h0 ?h1 ?_); (case h0 => walk_at "g"); (case h1 => (first | assumption | rfl))) | ((with_reducible refine' op_append ?h0 ?h1 ?_); (case h0 => walk_at "g"); (case h1 => walk_at "n")) | ((with_reducible refine' op_extend ?h0 ?h1 ?h2 ?_); (case h0 => walk_at "g"); (case h1 => walk_at "g"); (case h2 => walk_at "n")) | ((with_reducible refine' op_ladd ?h0 ?h1 ?h2 ?_); (case h0 => walk_at "g"); (case h1 => walk_at "g"); (case h2 => walk_at "n")) | ((with_reducible refine' op_tadd ?h0 ?_); (case h0 => walk_at "n")) | ((with_reducible refine' op_sadd ?h0 ?_); (case h0 => walk_at "n")) | ((with_reducible refine' op_lens ?h0 ?_); (case h0 => walk_at "n")) | ((with_reducible refine' op_slcs ?h0 ?_); (case h0 => walk_at "n")) | walk_at "y" | ((with_reducible refine' of_fld ?h0 ?_); (case h0 => exact rfl)) | ((with_reducible refine' of_cmp ?h0 ?_); (case h0 => exact rfl)) | ((with_reducible refine' of_sub ?h0 ?_); (case h0 => exact rfl)) | ((with_reducible refine' of_blt ?h0 ?_); (case h0 => exact rfl)) | ((with_reducible refine' of_rev ?h0 ?_); (case h0 => exact rfl)) | ((with_reducible refine' of_din ?h0 ?_); (case h0 => exact rfl)) | ((with_reducible refine' of_dix ?h0 ?_); (case h0 => exact rfl)))
local macro_rules | `(tactic| walk_at "e") => `(tactic| first | ((with_reducible refine' w_var ?h0 ?_); (case h0 => exact rfl)) | with_reducible refine w_int ?_ | with_reducible refine w_str ?_ | with_reducible refine w_cmp ?_ | with_reducible refine w_idx ?_ | with_reducible refine w_call0 ?_ | with_reducible refine w_bl ?_ | with_reducible refine w_non ?_ | with_reducible refine w_and ?_ | with_reducible refine w_or ?_ | with_reducible refine w_not ?_ | with_reducible refine w_bin ?_ | with_reducible refine w_tup ?_ | with_reducible refine w_lst ?_ | with_reducible refine w_blt ?_ | with_reducible refine w_bm ?_ | with_reducible refine w_meth0 ?_ | with_reducible refine w_fld ?_ | with_reducible refine w_isi ?_ | with_reducible refine w_ife ?_ | with_reducible refine w_slc10 ?_ | with_reducible refine w_slc01 ?_ | with_reducible refine w_slc11 ?_ | with_reducible refine w_slc00 ?_ | with_reducible refine w_rev ?_ | with_reducible refine w_new0 ?_ | with_reducible refine w_neg ?_ | with_reducible refine w_chain ?_ | with_reducible refine w_lc0 ?_ | with_reducible refine w_lc1 ?_ | with_reducible refine w_call ?_ | with_reducible refine w_new ?_ | with_reducible refine w_meth ?_ | walk_at "y" | with_reducible refine w_con ?_ | with_reducible refine w_din ?_ | with_reducible refine w_dix ?_ | ((with_reducible refine' w_xfld ?h0 ?h1 ?h2 ?_); (case h0 => exact rfl); (case h1 => exact rfl); (case h2 => exact rfl)) | ((with_reducible refine' w_xisi ?h0 ?_); (case h0 => exact rfl)) | with_reducible refine w_fstr ?_)
local macro_rules | `(tactic| walk_at "t") => `(tactic| first | with_reducible refine wb_cons ?_ | with_reducible refine ws_asg ?_ | with_reducible refine ws_ret ?_ | with_reducible refine ws_ifs ?_ | with_reducible refine wb_nil ?_ | with_reducible refine ws_expr ?_ | with_reducible refine ws_for ?_ | with_reducible refine ws_unp ?_ | with_reducible refine ws_setf ?_ | with_reducible refine ws_seti ?_ | ((with_reducible refine' ws_aug ?h0 ?_); (case h0 => exact rfl)) | with_reducible refine ws_try ?_ | with_reducible refine ws_whl ?_ | with_reducible refine ws_retn ?_ | with_reducible refine ws_pass ?_ | with_reducible refine ws_brk ?_ | with_reducible refine ws_cont ?_)
local macro_rules | `(tactic| walk_at "r") => `(tactic| first | with_reducible refine br_tt ?_ | with_reducible refine br_ff ?_ | with_reducible refine br_not ?_ | ((with_reducible refine' br_dt ?h0 ?_); (case h0 => walk_at "d")) | ((with_reducible refine' br_df ?h0 ?_); (case h0 => walk_at "d")) | ((with_reducible refine' br_t ?h0 ?_); (case h0 => (first | assumption | rfl))) | ((with_reducible refine' br_f ?h0 ?_); (case h0 => (first | assumption | rfl))))
local macro_rules | `(tactic| walk_at "b") => `(tactic| first | with_reducible refine tr_bl ?_ | with_reducible refine tr_tup ?_ | with_reducible refine tr_int ?_ | with_reducible refine tr_non ?_ | with_reducible refine isI ?_ | ((with_reducible refine' wk_ref ?h0 ?_); (case h0 => walk_at "g")) | ((with_reducible refine' en_ref ?h0 ?_); (case h0 => walk_at "g")) | with_reducible refine wt_tup ?_ | with_reducible refine wt_str ?_ | with_reducible refine And.intro (le_line rfl) ?_ | with_reducible refine And.intro (recv_a (by walk_at "g")) ?_ | with_reducible refine And.intro (recv_e (by walk_at "g")) ?_ | with_reducible refine And.intro recv_j ?_ | ((with_reducible refine' cl_yes ?h0 ?h1 ?_); (case h0 => exact rfl); (case h1 => exact rfl)) | ((with_reducible refine' cl_no ?h0 ?h1 ?_); (case h0 => exact rfl); (case h1 => exact rfl)) | ((with_reducible refine' rgi ?h0 ?_); (case h0 => omega)) | ((with_reducible refine' clear_of ?h0 ?_); (case h0 => exact rfl)) | ((with_reducible refine' se_of ?h0 ?_); (case h0 => walk_at "S")) | ((with_reducible refine' me_put ?h0 ?_); (case h0 => walk_at "S")) | with_reducible refine ft_cons ?_ | with_reducible refine ft_nil ?_ | walk_at "y" | ((with_reducible refine' me_of ?h0 ?_); (case h0 => exact rfl)))
local macro_rules | `(tactic| walk_at "1") => `(tactic| first | ((with_reducible show Ws _ _ _ _ _); walk_at "t") | ((with_reducible show We (evE _ _ _ _ _) _ _); walk_at "e") | with_reducible refine wl_cons ?_ | with_reducible refine wl_nil ?_ | ((with_reducible show Op _ _); walk_at "o") | ((with_reducible show Br _ _ _); walk_at "r") | ((with_reducible show We _ _ _); walk_at "c") | walk_at "b")
local macro_rules | `(tactic| walk_at "w") => `(tactic| repeat walk_at "1")
local macro_rules | `(tactic| walk_at "g") => `(tactic| ((with_reducible apply Lf.get); (with_reducible assumption); walk_at "g"; walk_at "h"; walk_at "h"))
local macro_rules | `(tactic| walk_at "y") => `(tactic| first | ((with_reducible refine' w_draw ?h0 ?h1 ?_); (case h0 => walk_at "D"); (case h1 => exact rfl)) | ((with_reducible refine' w_drawn ?h0 ?h1 ?_); (case h0 => walk_at "D"); (case h1 => simp only [List.length_map]; omega)) | ((with_reducible refine' w_number ?h0 ?_); (case h0 => walk_at "D")) | ((with_reducible refine' w_name ?h0 ?h1 ?h2 ?h3 ?h4 ?h5 ?_); (case h0 => walk_at "D"); (case h1 => walk_at "g"); (case h2 => walk_at "h"); (case h3 => walk_at "h"); (case h4 => assumption); (case h5 => omega)))
section
variable {W n s c N : Nat} {m : Mem} {Q : MV → Mem → Prop} {X : QX}
theorem leaf_ok {ns : List Txt} (hs : Sd m s c) (g : m[N]? = some (.lst (ns.map .str))) (h1 : N ≠ s) (h2 : N ≠ c) (hns : ∀ x ∈ ns, NameOk x) (few : ns.length ≤ 50) : ∃ (t : Tm) (m' : Mem), run dat.T W dat.defs (n + 3) i_law_leaf [.ref s, .ref N] m = .ok t.tell m' ∧ (t.Sc ns ∧ t.deep = 0) ∧ Left m m' s c := by
  refine run_drw (g := Tm.tell) (P := fun t => t.Sc ns ∧ t.deep = 0) hs t_law_leaf rfl (by walk_at "S") (fun t _ _ => low_tell t) ?_
  walk_at "w"
  intro way m1 hw l1
  have fS : MV.fines (ns.map MV.str) = true := strs_fine fun y hy c hc => by have := (hns y hy).let_ c hc; omega
  have lS : MV.lays (ns.map MV.str) = true := strs_lay fun y hy c hc => by have := (hns y hy).let_ c hc; omega
  walk_at "w"
  refine op_nil_ne (xs := ns.map MV.str) (by walk_at "g") (by walk_at "g") fS lS (by rw [strs_dep]; decide) ?_
  walk_at "w"
  have rest : ∀ (m2 : Mem), Lf m m2 s c → Ws (evB dat.T W (run dat.T W dat.defs (n + 2)) (b_law_leaf.drop 2) [Sl.val (MV.ref s), Sl.val (MV.ref N), Sl.val (MV.int way)] m2) (fun x x_1 => False) (fun u mm => ∃ a : Tm, u = a.tell ∧ (a.Sc ns ∧ a.deep = 0) ∧ Lf m mm s c) noE noL := fun m2 l2 => by
    show Ws (evB dat.T W (run dat.T W dat.defs (n + 2)) [_, _] _ m2) _ _ _ _
    walk_at "w"
    refine br_dec (fun h4 => ?_) (fun h4 => ?_)
    · walk_at "w"
      exact ⟨.opn, rfl, ⟨trivial, rfl⟩, by walk_at "L"⟩
    · walk_at "w"
      intro i m3 hi l3
      walk_at "w"
      exact ⟨.num i, rfl, ⟨hi, rfl⟩, by walk_at "L"⟩
  cases hns0 : ns with
  | nil =>
    iterate 5 walk_at "1"
    rw [← hns0]
    exact rest _ (by walk_at "L")
  | cons y ys =>
    rw [← hns0]
    have pos : 0 < ns.length := by rw [hns0]; exact Nat.succ_pos _
    have e0 : (ns.map MV.str).isEmpty = false := by rw [hns0]; rfl
    walk_at "w"
    refine br_dec (fun h4 => ?_) (fun h4 => ?_)
    · walk_at "w"
      intro k m3 hk l3
      rw [List.length_map] at hk
      obtain ⟨x, hx, hm⟩ := at_map (f := MV.str) (l := ns) (k := k) (by omega)
      walk_at "w"
      exact ⟨.name x, rfl, ⟨hm, rfl⟩, by walk_at "L"⟩
    · walk_at "1"
      exact rest _ (by walk_at "L")
theorem w_leaf {ns : List Txt} (hs : Sd m s c) (g : m[N]? = some (.lst (ns.map .str))) (h1 : N ≠ s) (h2 : N ≠ c) (hns : ∀ x ∈ ns, NameOk x) (few : ns.length ≤ 50) (k : ∀ (t : Tm) (m' : Mem), t.Sc ns → t.deep = 0 → Lf m m' s c → Q t.tell m') : We (run dat.T W dat.defs (n + 3) i_law_leaf [.ref s, .ref N] m) Q X := by
  obtain ⟨x, m', e, o, l⟩ := leaf_ok (W := W) (n := n) hs g h1 h2 hns few
  exact .of e (k x m' o.1 o.2 ((Lf.refl hs).draw l))
end
end LW
end Part_B14

section Part_B15
set_option Elab.async false
set_option linter.all false
set_option maxRecDepth 100000
set_option maxHeartbeats 4000000
/-! B15: any terms drawn. -/
namespace LW
open U
open PySem (Operator CmpOp)
local macro_rules | `(tactic| walk_at "g") => `(tactic| first | (with_reducible assumption) | (with_reducible exact getE_new) | ((with_reducible apply getE_old); walk_at "g") | ((with_reducible apply Keep.get); (with_reducible assumption); (with_reducible assumption)))
local macro_rules | `(tactic| walk_at "k") => `(tactic| first | (with_reducible exact Keep.refl) | ((with_reducible apply Keep.push); walk_at "k") | ((with_reducible apply Keep.set); walk_at "k"; ((try simp only [List.length_append, List.length_set, List.length_cons, List.length_nil]); omega)) | (with_reducible assumption))
local macro_rules | `(tactic| walk_at "d") => `(tactic| first | (with_reducible assumption) | omega | decide)
local macro_rules | `(tactic| walk_at "n") => `(tactic| first | (with_reducible assumption) | omega | exact Nat.le_of_ble_eq_true rfl | (simp only [List.length_append, List.length_cons, List.length_nil, List.length_map, List.length_reverse]; omega))
local macro_rules | `(tactic| walk_at "D") => `(tactic| first | (with_reducible assumption) | ((with_reducible apply Lf.st); (with_reducible assumption)) | ((with_reducible apply Sd.more); walk_at "D"))
local macro_rules | `(tactic| walk_at "h") => `(tactic| first | (with_reducible assumption) | omega | exact Sd.ne1 (by walk_at "D") | exact Sd.ne2 (by walk_at "D"))
local macro_rules | `(tactic| walk_at "L") => `(tactic| first | (with_reducible assumption) | ((with_reducible apply Lf.refl); walk_at "D") | ((with_reducible apply Lf.push); walk_at "L") | ((with_reducible apply Lf.thn); (with_reducible assumption); walk_at "L"))
local macro_rules | `(tactic| walk_at "a") => `(tactic| first | exact at0 | exact at1 | exact at2 | exact at3 | (with_reducible assumption) | exact (atn (by with_reducible assumption)) | exact rfl)
local macro_rules | `(tactic| walk_at "S") => `(tactic| first | (focus (simp only [Tg.put, setAll, envOf, List.map_cons, List.map_nil, List.length_cons, List.length_nil, Nat.reduceAdd, Nat.reduceSub, List.reduceReplicate, List.replicate_zero, List.cons_append, List.nil_append, List.append_nil, List.set_cons_succ, List.set_cons_zero, List.set_nil]; try exact rfl)) | exact rfl)
local macro_rules | `(tactic| walk_at "y") => `(tactic| first | fail)
local macro_rules | `(tactic| walk_at "c") => `(tactic| first | walk_at "y" | ((with_reducible refine' We.of ?h0 ?_); (case h0 => with_reducible assumption)) | ((with_reducible refine' We.exn ?h0 ?_); (case h0 => with_reducible assumption)) | with_reducible refine wi_of ?_ | with_reducible refine wi_enum ?_ | with_reducible refine wi_rng ?_)
local macro_rules | `(tactic| walk_at "o") => `(tactic| first | with_reducible refine op_cmp_eq ?_ | with_reducible refine op_cmp_lt ?_ | with_reducible refine op_str_eq ?_ | ((with_reducible refine' op_idx ?h0 ?_); (case h0 => walk_at "a")) | with_reducible refine op_add ?_ | with_reducible refine op_sub ?_ | ((with_reducible refine' op_idxl ?h0 ?h1 ?_); (case h0 => walk_at "g"); (case h1 => walk_at "a")) | with_reducible refine op_cmp_ne ?_ | with_reducible refine op_cmp_le ?_ | with_reducible refine op_cmp_gt ?_ | with_reducible refine op_cmp_ge ?_ | with_reducible refine op_str_ne ?_ | with_reducible refine op_is_non ?_ | with_reducible refine op_isnot_non ?_ | ((with_reducible refine' op_mod ?h0 ?_); (case h0 => walk_at "d")) | ((with_reducible refine' op_fdiv ?h0 ?_); (case h0 => walk_at "d")) | ((with_reducible refine' op_mul ?h0 ?_); (case h0 => walk_at "d")) | ((with_reducible refine' op_fdiv ?h0 ?_); (case h0 => walk_at "d")) | ((with_reducible refine' op_mul ?h0 ?_); (case h0 => walk_at "d")) | with_reducible refine op_neg ?_ | with_reducible refine op_lent ?_ | ((with_reducible refine' op_lenl ?h0 ?_); (case h0 => walk_at "g")) | ((with_reducible refine' op_tupl ?h0 ?_); (case h0 => walk_at "g")) | with_reducible refine op_listt ?_ | ((with_reducible refine' op_listl ?h0 ?_); (case h0 => walk_at "g")) | with_reducible refine op_abs ?_ | with_reducible refine op_intb ?_ | with_reducible refine op_slct ?_ | ((with_reducible refine' op_slcl ?h0 ?_); (case h0 => walk_at "g")) | ((with_reducible refine' op_in ?h0 ?h1 ?_); (case h0 => walk_at "g"); (case h1 => (first | assumption | rfl))) | ((with_reducible refine' op_notin ?h0 ?h1 ?_); (case h0 => walk_at "g"); (case h1 => (first | assumption | rfl))) | ((with_reducible refine' op_append ?h0 ?h1 ?_); (case h0 => walk_at "g"); (case h1 => walk_at "n")) | ((with_reducible refine' op_extend ?h0 ?h1 ?h2 ?_); (case h0 => walk_at "g"); (case h1 => walk_at "g"); (case h2 => walk_at "n")) | ((with_reducible refine' op_ladd ?h0 ?h1 ?h2 ?_); (case h0 => walk_at "g"); (case h1 => walk_at "g"); (case h2 => walk_at "n")) | ((with_reducible refine' op_tadd ?h0 ?_); (case h0 => walk_at "n")) | ((with_reducible refine' op_sadd ?h0 ?_); (case h0 => walk_at "n")) | ((with_reducible refine' op_lens ?h0 ?_); (case h0 => walk_at "n")) | ((with_reducible refine' op_slcs ?h0 ?_); (case h0 => walk_at "n")) | walk_at "y" | ((with_reducible refine' of_fld ?h0 ?_); (case h0 => exact rfl)) | ((with_reducible refine' of_cmp ?h0 ?_); (case h0 => exact rfl)) | ((with_reducible refine' of_sub ?h0 ?_); (case h0 => exact rfl)) | ((with_reducible refine' of_blt ?h0 ?_); (case h0 => exact rfl)) | ((with_reducible refine' of_rev ?h0 ?_); (case h0 => exact rfl)) | ((with_reducible refine' of_din ?h0 ?_); (case h0 => exact rfl)) | ((with_reducible refine' of_dix ?h0 ?_); (case h0 => exact rfl)))
local macro_rules | `(tactic| walk_at "e") => `(tactic| first | ((with_reducible refine' w_var ?h0 ?_); (case h0 => exact rfl)) | with_reducible refine w_int ?_ | with_reducible refine w_str ?_ | with_reducible refine w_cmp ?_ | with_reducible refine w_idx ?_ | with_reducible refine w_call0 ?_ | with_reducible refine w_bl ?_ | with_reducible refine w_non ?_ | with_reducible refine w_and ?_ | with_reducible refine w_or ?_ | with_reducible refine w_not ?_ | with_reducible refine w_bin ?_ | with_reducible refine w_tup ?_ | with_reducible refine w_lst ?_ | with_reducible refine w_blt ?_ | with_reducible refine w_bm ?_ | with_reducible refine w_meth0 ?_ | with_reducible refine w_fld ?_ | with_reducible refine w_isi ?_ | with_reducible refine w_ife ?_ | with_reducible refine w_slc10 ?_ | with_reducible refine w_slc01 ?_ | with_reducible refine w_slc11 ?_ | with_reducible refine w_slc00 ?_ | with_reducible refine w_rev ?_ | with_reducible refine w_new0 ?_ | with_reducible refine w_neg ?_ | with_reducible refine w_chain ?_ | with_reducible refine w_lc0 ?_ | with_reducible refine w_lc1 ?_ | with_reducible refine w_call ?_ | with_reducible refine w_new ?_ | with_reducible refine w_meth ?_ | walk_at "y" | with_reducible refine w_con ?_ | with_reducible refine w_din ?_ | with_reducible refine w_dix ?_ | ((with_reducible refine' w_xfld ?h0 ?h1 ?h2 ?_); (case h0 => exact rfl); (case h1 => exact rfl); (case h2 => exact rfl)) | ((with_reducible refine' w_xisi ?h0 ?_); (case h0 => exact rfl)) | with_reducible refine w_fstr ?_)
local macro_rules | `(tactic| walk_at "t") => `(tactic| first | with_reducible refine wb_cons ?_ | with_reducible refine ws_asg ?_ | with_reducible refine ws_ret ?_ | with_reducible refine ws_ifs ?_ | with_reducible refine wb_nil ?_ | with_reducible refine ws_expr ?_ | with_reducible refine ws_for ?_ | with_reducible refine ws_unp ?_ | with_reducible refine ws_setf ?_ | with_reducible refine ws_seti ?_ | ((with_reducible refine' ws_aug ?h0 ?_); (case h0 => exact rfl)) | with_reducible refine ws_try ?_ | with_reducible refine ws_whl ?_ | with_reducible refine ws_retn ?_ | with_reducible refine ws_pass ?_ | with_reducible refine ws_brk ?_ | with_reducible refine ws_cont ?_)
local macro_rules | `(tactic| walk_at "r") => `(tactic| first | with_reducible refine br_tt ?_ | with_reducible refine br_ff ?_ | with_reducible refine br_not ?_ | ((with_reducible refine' br_dt ?h0 ?_); (case h0 => walk_at "d")) | ((with_reducible refine' br_df ?h0 ?_); (case h0 => walk_at "d")) | ((with_reducible refine' br_t ?h0 ?_); (case h0 => (first | assumption | rfl))) | ((with_reducible refine' br_f ?h0 ?_); (case h0 => (first | assumption | rfl))))
local macro_rules | `(tactic| walk_at "b") => `(tactic| first | with_reducible refine tr_bl ?_ | with_reducible refine tr_tup ?_ | with_reducible refine tr_int ?_ | with_reducible refine tr_non ?_ | with_reducible refine isI ?_ | ((with_reducible refine' wk_ref ?h0 ?_); (case h0 => walk_at "g")) | ((with_reducible refine' en_ref ?h0 ?_); (case h0 => walk_at "g")) | with_reducible refine wt_tup ?_ | with_reducible refine wt_str ?_ | with_reducible refine And.intro (le_line rfl) ?_ | with_reducible refine And.intro (recv_a (by walk_at "g")) ?_ | with_reducible refine And.intro (recv_e (by walk_at "g")) ?_ | with_reducible refine And.intro recv_j ?_ | ((with_reducible refine' cl_yes ?h0 ?h1 ?_); (case h0 => exact rfl); (case h1 => exact rfl)) | ((with_reducible refine' cl_no ?h0 ?h1 ?_); (case h0 => exact rfl); (case h1 => exact rfl)) | ((with_reducible refine' rgi ?h0 ?_); (case h0 => omega)) | ((with_reducible refine' clear_of ?h0 ?_); (case h0 => exact rfl)) | ((with_reducible refine' se_of ?h0 ?_); (case h0 => walk_at "S")) | ((with_reducible refine' me_put ?h0 ?_); (case h0 => walk_at "S")) | with_reducible refine ft_cons ?_ | with_reducible refine ft_nil ?_ | walk_at "y" | ((with_reducible refine' me_of ?h0 ?_); (case h0 => exact rfl)))
local macro_rules | `(tactic| walk_at "1") => `(tactic| first | ((with_reducible show Ws _ _ _ _ _); walk_at "t") | ((with_reducible show We (evE _ _ _ _ _) _ _); walk_at "e") | with_reducible refine wl_cons ?_ | with_reducible refine wl_nil ?_ | ((with_reducible show Op _ _); walk_at "o") | ((with_reducible show Br _ _ _); walk_at "r") | ((with_reducible show We _ _ _); walk_at "c") | walk_at "b")
local macro_rules | `(tactic| walk_at "w") => `(tactic| repeat walk_at "1")
local macro_rules | `(tactic| walk_at "g") => `(tactic| ((with_reducible apply Lf.get); (with_reducible assumption); walk_at "g"; walk_at "h"; walk_at "h"))
local macro_rules | `(tactic| walk_at "y") => `(tactic| first | ((with_reducible refine' w_draw ?h0 ?h1 ?_); (case h0 => walk_at "D"); (case h1 => exact rfl)) | ((with_reducible refine' w_drawn ?h0 ?h1 ?_); (case h0 => walk_at "D"); (case h1 => (simp only [List.length_map]; omega))) | ((with_reducible refine' w_number ?h0 ?_); (case h0 => walk_at "D")) | ((with_reducible refine' w_name ?h0 ?h1 ?h2 ?h3 ?h4 ?h5 ?_); (case h0 => walk_at "D"); (case h1 => walk_at "g"); (case h2 => walk_at "h"); (case h3 => walk_at "h"); (case h4 => assumption); (case h5 => omega)) | ((with_reducible refine' w_leaf ?h0 ?h1 ?h2 ?h3 ?h4 ?h5 ?_); (case h0 => walk_at "D"); (case h1 => walk_at "g"); (case h2 => walk_at "h"); (case h3 => walk_at "h"); (case h4 => assumption); (case h5 => omega)))
section
variable {W : Nat}
theorem mapapp {ns : List Txt} {x : Txt} : ns.map MV.str ++ [MV.str x] = (ns ++ [x]).map MV.str := by simp
theorem any_ok : ∀ (d : Nat) {L s c N : Nat} {m : Mem} {ns : List Txt}, d + 4 ≤ L → Sd m s c → m[N]? = some (.lst (ns.map .str)) → N ≠ s → N ≠ c → (∀ x ∈ ns, NameOk x) → ns.length + d ≤ 30 →
    ∃ (t : Tm) (m' : Mem), run dat.T W dat.defs L i_law_any [.ref s, .ref N, .int (d : Nat)] m = .ok t.tell m' ∧ (t.Sc ns ∧ t.deep ≤ d) ∧ Left m m' s c := fun d => by
  induction d with
  | zero =>
    intro L s c N m ns hL hs g h1 h2 hns few
    obtain ⟨L, rfl⟩ : ∃ l, L = l + 4 := ⟨L - 4, by omega⟩
    refine run_drw (g := Tm.tell) (P := fun t => t.Sc ns ∧ t.deep ≤ 0) hs t_law_any rfl (by walk_at "S") (fun t _ _ => low_tell t) ?_
    have few2 : ns.length ≤ 50 := by omega
    walk_at "w"
    intro way m1 hw l1
    walk_at "w"
    intro t m2 ht hd l2
    walk_at "w"
    exact ⟨t, rfl, ⟨ht, by omega⟩, by walk_at "L"⟩
  | succ d ih =>
    intro L s c N m ns hL hs g h1 h2 hns few
    obtain ⟨L, rfl⟩ : ∃ l, L = l + 4 := ⟨L - 4, by omega⟩
    refine run_drw (g := Tm.tell) (P := fun t => t.Sc ns ∧ t.deep ≤ d + 1) hs t_law_any rfl (by walk_at "S") (fun t _ _ => low_tell t) ?_
    have few2 : ns.length ≤ 50 := by omega
    have sub : ∀ {m : Mem} {N : Nat} {xs : List Txt} {Q : MV → Mem → Prop} {X : QX}, Sd m s c → m[N]? = some (.lst (xs.map .str)) → N ≠ s → N ≠ c → (∀ x ∈ xs, NameOk x) → xs.length + d ≤ 30 → (∀ (t : Tm) (m' : Mem), t.Sc xs → t.deep ≤ d → Lf m m' s c → Q t.tell m') → We (run dat.T W dat.defs (L + 3) i_law_any [.ref s, .ref N, .int ((d + 1 : Nat) - 1)] m) Q X := fun hs g h1 h2 hx fx k => by
      rw [show (((d + 1 : Nat) : Int) - 1) = (d : Nat) from by omega]
      obtain ⟨t, m', e, o, l⟩ := ih (L := L + 3) (by omega) hs g h1 h2 hx fx
      exact .of e (k t m' o.1 o.2 ((Lf.refl hs).draw l))
    walk_at "w"
    intro way m1 hw l1
    walk_at "w"
    refine br_dec (fun hd => ?_) (fun hd => ?_)
    · walk_at "w"
      intro t m2 ht hd2 l2
      walk_at "w"
      exact ⟨t, rfl, ⟨ht, by omega⟩, by walk_at "L"⟩
    walk_at "w"
    refine br_dec (fun h3 => ?_) (fun h3 => ?_)
    · walk_at "w"
      intro t m2 ht hd2 l2
      walk_at "w"
      exact ⟨t, rfl, ⟨ht, by omega⟩, by walk_at "L"⟩
    walk_at "w"
    refine br_dec (fun h6 => ?_) (fun h6 => ?_)
    · walk_at "w"
      intro x m2 ox l2
      walk_at "w"
      obtain ⟨k, hk, hk3⟩ : ∃ k : Nat, ((way : Int) - 3) = (k : Nat) ∧ k < 3 := ⟨way - 3, by omega, by omega⟩
      rw [hk]
      obtain ⟨w, hw2, hwm⟩ := at_map (f := MV.str) (l := [sMaker, sMaker, sAgain]) (k := k) (by show k < 3; omega)
      refine' op_idxl ?hg ?hx ?_
      case hg => walk_at "g"
      case hx => exact hw2
      walk_at "w"
      refine sub (xs := ns ++ [x]) (by walk_at "D") (by rw [← mapapp]; exact getE_new) (by walk_at "h") (by walk_at "h") (fun y hy => (List.mem_append.mp hy).elim (hns y) fun q => by rw [List.mem_singleton.mp q]; exact ox) (by rw [List.length_append]; simp only [List.length_cons, List.length_nil]; omega) ?_
      intro t m3 ht hd2 l3
      walk_at "w"
      have hw3 : w = sMaker ∨ w = sAgain := by simpa using hwm
      rcases hw3 with rfl | rfl
      · exact ⟨.mk x t, rfl, ⟨⟨ox, ht⟩, by show t.deep + 1 ≤ d + 1; omega⟩, by walk_at "L"⟩
      · exact ⟨.aga x t, rfl, ⟨⟨ox, ht⟩, by show t.deep + 1 ≤ d + 1; omega⟩, by walk_at "L"⟩
    walk_at "w"
    refine br_dec (fun h9 => ?_) (fun h9 => ?_)
    · walk_at "w"
      refine sub (by walk_at "D") (by walk_at "g") h1 h2 hns (by omega) ?_
      intro t1 m2 ht1 hd1 l2
      walk_at "w"
      refine sub (by walk_at "D") (by walk_at "g") h1 h2 hns (by omega) ?_
      intro t2 m3 ht2 hd2 l3
      walk_at "w"
      exact ⟨.giv t1 t2, rfl, ⟨⟨ht1, ht2⟩, by show max t1.deep t2.deep + 1 ≤ d + 1; omega⟩, by walk_at "L"⟩
    walk_at "w"
    refine br_dec (fun h11 => ?_) (fun h11 => ?_)
    · walk_at "w"
      intro k m2 hk l2
      obtain ⟨w, hw2, hwm⟩ := at_map (f := MV.str) (l := [[43], [45], [60]]) (k := k) (by show k < 3; omega)
      refine' op_idxl ?hg ?hx ?_
      case hg => walk_at "g"
      case hx => exact hw2
      have ow : SignOk w := by unfold SignOk; simpa using hwm
      walk_at "w"
      refine sub (by walk_at "D") (by walk_at "g") h1 h2 hns (by omega) ?_
      intro t1 m3 ht1 hd1 l3
      walk_at "w"
      refine sub (by walk_at "D") (by walk_at "g") h1 h2 hns (by omega) ?_
      intro t2 m4 ht2 hd2 l4
      walk_at "w"
      exact ⟨.sm w t1 t2, rfl, ⟨⟨ow, ht1, ht2⟩, by show max t1.deep t2.deep + 1 ≤ d + 1; omega⟩, by walk_at "L"⟩
    walk_at "w"
    refine lm_inv (fun j acc mm => Lf m1 mm s c ∧ mm[m1.length]? = some (.lst acc) ∧ ∃ ts : List Tm, acc = ts.map Tm.tell ∧ ts.length = j ∧ ∀ t ∈ ts, t.Sc ns ∧ t.deep ≤ d) rfl ⟨by walk_at "L", getE_new, [], rfl, rfl, fun _ h => nomatch h⟩ ?_ ?_
    · rintro j x hx acc mm ⟨l4, g4, ts, rfl, hl, hc⟩
      obtain ⟨_, hj⟩ := rng_at hx
      have ⟨hs3, hc3⟩ := l1.st.ls
      walk_at "w"
      refine sub (by walk_at "D") (Lf.get l4 (Lf.get l1 g h1 h2) h1 h2) h1 h2 hns (by omega) ?_
      intro t1 m3 ht1 hd1 l3
      have g5 : m3[m1.length]? = some (.lst (ts.map Tm.tell)) := Lf.get l3 g4 (by omega) (by omega)
      refine ⟨g5, by rw [List.length_map]; omega, ?_⟩
      exact ⟨Lf.set l1.st (Lf.thn l3 l4) (Nat.le_refl _), List.getElem?_set_self (List.getElem?_eq_some_iff.mp g5).1, ts ++ [t1], by simp, by simp [hl], fun t ht => by
        rcases List.mem_append.mp ht with h | h
        · exact hc t h
        · rw [List.mem_singleton.mp h]; exact ⟨ht1, hd1⟩⟩
    · rintro acc mm ⟨l4, g4, ts, rfl, hl, hc⟩
      rw [rng_many] at hl
      obtain ⟨t1, t2, t3, rfl⟩ := len_three hl
      have a1 := hc t1 (by simp)
      have a2 := hc t2 (by simp)
      have a3 := hc t3 (by simp)
      have l5 := Lf.thn l4 l1
      simp only [List.map_cons, List.map_nil] at g4
      walk_at "w"
      exact ⟨.cho t1 t2 t3, rfl, ⟨⟨a1.1, a2.1, a3.1⟩, by show max t1.deep (max t2.deep t3.deep) + 1 ≤ d + 1; omega⟩, l5⟩
theorem w_any {n s c N : Nat} {m : Mem} {ns : List Txt} {d : Int} {Q : MV → Mem → Prop} {X : QX} (hd : (decide (0 ≤ d) && decide (d ≤ 10)) = true) (hs : Sd m s c) (g : m[N]? = some (.lst (ns.map .str))) (h1 : N ≠ s) (h2 : N ≠ c) (hns : ∀ x ∈ ns, NameOk x) (few : ns.length ≤ 20) (k : ∀ (t : Tm) (m' : Mem), t.Sc ns → (t.deep : Int) ≤ d → Lf m m' s c → Q t.tell m') : We (run dat.T W dat.defs (n + 14) i_law_any [.ref s, .ref N, .int d] m) Q X := by
  rw [Bool.and_eq_true, decide_eq_true_eq, decide_eq_true_eq] at hd
  obtain ⟨a, rfl⟩ : ∃ a : Nat, d = (a : Int) := ⟨d.toNat, by omega⟩
  obtain ⟨t, m', e, o, l⟩ := any_ok (W := W) a (L := n + 14) (by omega) hs g h1 h2 hns (by omega)
  exact .of e (k t m' o.1 (by omega) ((Lf.refl hs).draw l))
/-- of no names, the empty list being the last thing of the memory -/
theorem w_any0 {n s c : Nat} {m : Mem} {d : Int} {Q : MV → Mem → Prop} {X : QX} (hd : (decide (0 ≤ d) && decide (d ≤ 10)) = true) (hs : Sd m s c) (k : ∀ (t : Tm) (m' : Mem), t.Sc [] → (t.deep : Int) ≤ d → Lf (m ++ [.lst []]) m' s c → Q t.tell m') : We (run dat.T W dat.defs (n + 14) i_law_any [.ref s, .ref m.length, .int d] (m ++ [.lst []])) Q X :=
  w_any (ns := []) hd (hs.more _) getE_new hs.ne1 hs.ne2 (fun _ h => nomatch h) (Nat.zero_le _) k
theorem w_any1 {n s c : Nat} {m : Mem} {x : Txt} {d : Int} {Q : MV → Mem → Prop} {X : QX} (hd : (decide (0 ≤ d) && decide (d ≤ 10)) = true) (hs : Sd m s c) (ox : NameOk x) (k : ∀ (t : Tm) (m' : Mem), t.Sc [x] → (t.deep : Int) ≤ d → Lf (m ++ [.lst [.str x]]) m' s c → Q t.tell m') : We (run dat.T W dat.defs (n + 14) i_law_any [.ref s, .ref m.length, .int d] (m ++ [.lst [.str x]])) Q X :=
  w_any (ns := [x]) hd (hs.more _) getE_new hs.ne1 hs.ne2 (fun y h => by rw [List.mem_singleton.mp h]; exact ox) (by show 1 ≤ 20; decide) k
theorem w_name0 {n s c : Nat} {m : Mem} {Q : MV → Mem → Prop} {X : QX} (hs : Sd m s c) (k : ∀ (x : Txt) (m' : Mem), NameOk x → Lf (m ++ [.lst []]) m' s c → Q (.str x) m') : We (run dat.T W dat.defs (n + 2) i_law_name [.ref s, .ref m.length] (m ++ [.lst []])) Q X :=
  w_name (ns := []) (hs.more _) getE_new hs.ne1 hs.ne2 (fun _ h => nomatch h) (Nat.zero_le _) k
end
end LW
end Part_B15

section Part_M21
set_option Elab.async false
set_option linter.all false
set_option maxRecDepth 100000
set_option maxHeartbeats 4000000
/-! M21: a thing is put for a name; what isn't closed is refused. -/
namespace LW
open U
open PySem (Operator CmpOp)
/-! ### exceptions in the evaluator -/
section
variable {T : Tab} {W : Nat} {cl : CallF} {r : Env} {m m1 m2 m3 : Mem} {a e : CE} {es : List CE} {x v : MV} {vs fs : List MV} {c : Nat}
theorem s_raise1 (hl : evL T cl es r m = .ok vs m1) (h1 : vs.length = T.fields c) (h2 : vs.all shw = true) : evS T W cl (.raise c es) r m = .ex c vs r m1 := by
  rw [evS, hl]
  dsimp only
  rw [if_pos h1, if_pos h2]
theorem b_ex {s : CS} {ss : List CS} (h : evS T W cl s r m = .ex c fs r m1) : evB T W cl (s :: ss) r m = .ex c fs r m1 := by rw [evB_cons, h]
theorem b_ends_ex {p : List CS} {ss : List CS} (he : evE T cl e r m = .ok x m1) (h : truth m1 x = some true) (hp : evB T W cl p r m1 = .ex c fs r m2) : evB T W cl (.ifs e p [] :: ss) r m = .ex c fs r m2 := b_ex ((s_if_t he h).trans hp)
theorem e_call_ex {f : Nat} {ix : List Nat} (hl : evL T cl es r m = .ok vs m1) (h : cl f (ord ix vs) m1 = .ex c fs m2) : evE T cl (.call f ix es) r m = .ex c fs m2 := by
  rw [evE, hl, bind_ok, h]
theorem e_meth_ex {mm k f : Nat} {ix : List Nat} (ha : evE T cl a r m = .ok x m1) (hc : clsOf m1 x = some k) (hf : T.meth k mm = some f) (hl : evL T cl es r m1 = .ok vs m2) (h : cl f (x :: ord ix vs) m2 = .ex c fs m3) : evE T cl (.meth a mm ix es) r m = .ex c fs m3 := by
  rw [evE, ha, bind_ok]
  unfold onMeth
  rw [hc]
  dsimp only
  rw [hf]
  dsimp only
  rw [hl, bind_ok, h]
theorem s_expr_ex (he : evE T cl e r m = .ex c fs m1) : evS T W cl (.expr e) r m = .ex c fs r m1 := by rw [evS, he]; rfl
theorem s_asg_ex {i : Nat} (he : evE T cl e r m = .ex c fs m1) : evS T W cl (.asg i e) r m = .ex c fs r m1 := by rw [evS, he]; rfl
theorem out_ex {e : Mem} (l : MV.lows m.length fs = true) : (RS.ex c fs r (m ++ e)).out m = .ex c fs m := by
  show gcX m c fs (m ++ e) = _
  unfold gcX
  rw [if_pos (by rw [okOld_app m e, l]; rfl), List.take_left]
theorem s_try_ok {b : List CS} {hs : List (List Nat × Option Nat × List CS)} {r' : Env} (h : evB T W cl b r m = .nx r' m1) : evS T W cl (.try_ b hs) r m = .nx r' m1 := by rw [evS, h]
theorem s_try_as {b ss : List CS} {d k : Nat} {r1 r' : Env} (h : evB T W cl b r m = .ex c fs r1 m1) (hc : T.ncls ≤ c ∧ c < T.ncls + T.nex) (hd : T.sub c d = true) (hs : evB T W cl ss (r1.set k (.exn c fs)) m1 = .nx r' m2) (hf : (r'.set k .no).all Sl.free = true) : evS T W cl (.try_ b [([d], some k, ss)]) r m = .nx (r'.set k .no) m2 := by
  rw [evS, h]
  dsimp only
  rw [evH, if_pos hc, if_pos (by simp [hd])]
  show (match evB T W cl ss (r1.set k (.exn c fs)) m1 with
    | RS.nx r' m' => if (r'.set k .no).all Sl.free then RS.nx (r'.set k .no) m' else RS.fail
    | RS.bk r' m' => if (r'.set k .no).all Sl.free then RS.bk (r'.set k .no) m' else RS.fail
    | RS.ct r' m' => if (r'.set k .no).all Sl.free then RS.ct (r'.set k .no) m' else RS.fail
    | RS.rt v m' => RS.rt v m'
    | _ => RS.fail) = _
  rw [hs]
  dsimp only
  rw [if_pos hf]
theorem e_xfld {i f z : Nat} {y : MV} (h : r[i]? = some (.exn c fs)) (hf : T.exf c f = some z) (hy : fs[z]? = some y) : evE T cl (.xfld i f) r m = .ok y m := by
  rw [evE, h]
  dsimp only
  rw [hf]
  dsimp only
  rw [hy]
end
/-! ### put -/
def Tm.pt : Tm → Txt → Tm → Tm
  | .opn, _, _ => .opn
  | .name y, x, g => if MV.str y = MV.str x then g else .name y
  | .num i, _, _ => .num i
  | .mk y b, x, g => if MV.str y = MV.str x then .mk y b else .mk y (b.pt x g)
  | .giv a b, x, g => .giv (a.pt x g) (b.pt x g)
  | .sm s a b, x, g => .sm s (a.pt x g) (b.pt x g)
  | .cho a b c, x, g => .cho (a.pt x g) (b.pt x g) (c.pt x g)
  | .aga y b, x, g => if MV.str y = MV.str x then .aga y b else .aga y (b.pt x g)
theorem pt_eq (x : Txt) (g t : Tm) (h : t.isName = false) : t.pt x g = if t.bnd = .str x then t else t.re (t.parts.map (·.pt x g)) := by
  cases t with
  | name y => exact nomatch h
  | mk y b => rfl
  | aga y b => rfl
  | _ => rw [if_neg (by intro z; cases z)]; rfl
theorem pt_okP {P : Txt → Prop} {x : Txt} {g : Tm} (hg : g.OkP P) : ∀ t : Tm, t.OkP P → (t.pt x g).OkP P
  | .opn, _ => trivial
  | .name y, o => by unfold Tm.pt; split <;> assumption
  | .num _, o => o
  | .mk y b, o => by
    unfold Tm.pt
    split
    · exact o
    · exact ⟨o.1, pt_okP hg b o.2⟩
  | .giv a b, o => ⟨pt_okP hg a o.1, pt_okP hg b o.2⟩
  | .sm s a b, o => ⟨o.1, pt_okP hg a o.2.1, pt_okP hg b o.2.2⟩
  | .cho a b c, o => ⟨pt_okP hg a o.1, pt_okP hg b o.2.1, pt_okP hg c o.2.2⟩
  | .aga y b, o => by
    unfold Tm.pt
    split
    · exact o
    · exact ⟨o.1, pt_okP hg b o.2⟩
theorem pt_deep {x : Txt} {g : Tm} : ∀ t : Tm, (t.pt x g).deep ≤ t.deep + g.deep
  | .opn => Nat.zero_le _
  | .name y => by unfold Tm.pt; split <;> simp [Tm.deep]
  | .num _ => Nat.zero_le _
  | .mk y b => by
    have := pt_deep (x := x) (g := g) b
    unfold Tm.pt
    split
    · exact Nat.le_add_right _ _
    · show (b.pt x g).deep + 1 ≤ b.deep + 1 + g.deep
      omega
  | .giv a b => by
    have := pt_deep (x := x) (g := g) a
    have := pt_deep (x := x) (g := g) b
    show max (a.pt x g).deep (b.pt x g).deep + 1 ≤ max a.deep b.deep + 1 + g.deep
    omega
  | .sm s a b => by
    have := pt_deep (x := x) (g := g) a
    have := pt_deep (x := x) (g := g) b
    show max (a.pt x g).deep (b.pt x g).deep + 1 ≤ max a.deep b.deep + 1 + g.deep
    omega
  | .cho a b c => by
    have := pt_deep (x := x) (g := g) a
    have := pt_deep (x := x) (g := g) b
    have := pt_deep (x := x) (g := g) c
    show max (a.pt x g).deep (max (b.pt x g).deep (c.pt x g).deep) + 1 ≤ max a.deep (max b.deep c.deep) + 1 + g.deep
    omega
  | .aga y b => by
    have := pt_deep (x := x) (g := g) b
    unfold Tm.pt
    split
    · exact Nat.le_add_right _ _
    · show (b.pt x g).deep + 1 ≤ b.deep + 1 + g.deep
      omega
theorem one_mk {x : Txt} {b : Tm} : (Tm.mk x b).places.length = b.places.length + 1 := by simp [places_eq, Tm.parts, under]
theorem one_aga {x : Txt} {b : Tm} : (Tm.aga x b).places.length = b.places.length + 1 := by simp [places_eq, Tm.parts, under]
theorem two_giv {a b : Tm} : (Tm.giv a b).places.length = a.places.length + b.places.length + 1 := by
  simp [places_eq, Tm.parts, under]
  omega
theorem two_sm {x : Txt} {a b : Tm} : (Tm.sm x a b).places.length = a.places.length + b.places.length + 1 := by
  simp [places_eq, Tm.parts, under]
  omega
theorem three_cho {a b c : Tm} : (Tm.cho a b c).places.length = a.places.length + b.places.length + c.places.length + 1 := by
  simp [places_eq, Tm.parts, under]
  omega
theorem pt_many {x : Txt} {g : Tm} : ∀ t : Tm, (t.pt x g).places.length ≤ t.places.length * g.places.length := by
  have g1 := pos_places g
  have big : ∀ {a : Nat}, a ≤ a * g.places.length := fun {a} => Nat.le_mul_of_pos_right a g1
  intro t
  induction t with
  | opn => exact big
  | num i => exact big
  | name y =>
    show (if MV.str y = MV.str x then g else .name y).places.length ≤ 1 * g.places.length
    split
    · omega
    · rw [Nat.one_mul]; exact g1
  | mk y b ih =>
    unfold Tm.pt
    split
    · exact big
    · rw [one_mk, one_mk, Nat.add_mul]; omega
  | aga y b ih =>
    unfold Tm.pt
    split
    · exact big
    · rw [one_aga, one_aga, Nat.add_mul]; omega
  | giv a b i1 i2 =>
    show (Tm.giv (a.pt x g) (b.pt x g)).places.length ≤ _
    rw [two_giv, two_giv, Nat.add_mul, Nat.add_mul]; omega
  | sm s a b i1 i2 =>
    show (Tm.sm s (a.pt x g) (b.pt x g)).places.length ≤ _
    rw [two_sm, two_sm, Nat.add_mul, Nat.add_mul]; omega
  | cho a b c i1 i2 i3 =>
    show (Tm.cho (a.pt x g) (b.pt x g) (c.pt x g)).places.length ≤ _
    rw [three_cho, three_cho, Nat.add_mul, Nat.add_mul, Nat.add_mul]; omega
theorem has_with_given (t : Tm) : dat.T.meth t.cls m_with_given = some (meth_of t m_with_given) := by cases t <;> rfl
theorem has_put (t : Tm) : dat.T.meth t.cls m_put = some i_Term_put := by cases t <;> rfl
theorem eq_bnd {x : Txt} {t : Tm} {m : Mem} : cmpop .Eq t.bnd (.str x) m = some (.bl (decide (t.bnd = .str x)), m) := by cases t <;> rfl
section
variable {W : Nat} {x : Txt} {g : Tm}
theorem with_given_run : ∀ (t : Tm) {n : Nat} {m : Mem}, t.Ok → t.deep < n → run dat.T W dat.defs (n + 4) (meth_of t m_with_given) [t.obj, .str x, g.obj] m = .ok (t.pt x g).obj m := fun t => by
  induction t using Tm.ind with
  | h t ih =>
    intro n m ho hn
    obtain ⟨n, rfl⟩ : ∃ j, n = j + 1 := ⟨n - 1, by omega⟩
    cases hnm : t.isName with
    | true =>
      obtain ⟨y, rfl⟩ : ∃ y, t = .name y := by cases t <;> first | exact ⟨_, rfl⟩ | exact nomatch hnm
      show run dat.T W dat.defs (n + 4 + 1) i_Name_with_given [(Tm.name y).obj, .str x, g.obj] m = _
      rw [run_step (as := [(Tm.name y).obj, .str x, g.obj]) t_Name_with_given rfl]
      dsimp only
      have c1 : evE dat.T (run dat.T W dat.defs (n + 4)) (.cmp .Eq (.fld (.var 0) a_name) (.var 1)) (entry ⟨3, 3, [], b_Name_with_given⟩ [(Tm.name y).obj, .str x, g.obj]) m = .ok (.bl (decide (MV.str y = MV.str x))) m := e_cmp (e_fld (e_var rfl) rfl) (e_var rfl) rfl
      have e0 : evB dat.T W (run dat.T W dat.defs (n + 4)) b_Name_with_given (entry ⟨3, 3, [], b_Name_with_given⟩ [(Tm.name y).obj, .str x, g.obj]) m = .rt ((Tm.name y).pt x g).obj m := by
        refine b_rt (s_ret ?_)
        show _ = R.ok (if MV.str y = MV.str x then g else .name y).obj m
        by_cases hy : MV.str y = MV.str x
        · rw [if_pos hy]
          rw [decide_eq_true hy] at c1
          exact (e_ife_t c1 rfl).trans (e_var rfl)
        · rw [if_neg hy]
          rw [decide_eq_false hy] at c1
          exact (e_ife_f c1 rfl).trans (e_var rfl)
      rw [e0, out_rt (low_obj _)]
    | false =>
      have hm : meth_of t m_with_given = i_Term_with_given := by cases t <;> first | rfl | exact nomatch hnm
      rw [hm, show n + 1 + 4 = n + 4 + 1 from rfl, run_step (as := [t.obj, .str x, g.obj]) t_Term_with_given rfl]
      dsimp only
      have c1 : evE dat.T (run dat.T W dat.defs (n + 4)) (.cmp .Eq (.meth (.var 0) m_binds [] []) (.var 1)) (entry ⟨3, 4, [], b_Term_with_given⟩ [t.obj, .str x, g.obj]) m = .ok (.bl (decide (t.bnd = .str x))) m := e_cmp (e_meth (e_var rfl) (cls_obj t) (has_binds t) l_nil (binds_run t)) (e_var rfl) eq_bnd
      rw [pt_eq x g t hnm]
      by_cases hb : t.bnd = .str x
      · rw [if_pos hb]
        rw [decide_eq_true hb] at c1
        have e0 : evB dat.T W (run dat.T W dat.defs (n + 4)) b_Term_with_given (entry ⟨3, 4, [], b_Term_with_given⟩ [t.obj, .str x, g.obj]) m = .rt t.obj m := b_ends c1 rfl (b_rt (s_ret (e_var rfl)))
        rw [e0, out_rt (low_obj _)]
      · rw [if_neg hb]
        rw [decide_eq_false hb] at c1
        have pl : (t.parts.map (·.pt x g)).length = t.parts.length := List.length_map ..
        have lc : evE dat.T (run dat.T W dat.defs (n + 4)) (.lc (.meth (.var 3) m_with_given [] [(.var 1), (.var 2)]) 3 (.of (.meth (.var 0) m_parts [] [])) []) (entry ⟨3, 4, [], b_Term_with_given⟩ [t.obj, .str x, g.obj]) m = .ok (.ref (m ++ [MO.lst (t.parts.map Tm.obj)]).length) (m ++ [MO.lst (t.parts.map Tm.obj)] ++ [.lst (t.parts.map fun p => (p.pt x g).obj)]) := by
          refine e_lc0 (i_of (e_meth (e_var rfl) (cls_obj t) (has_parts t) l_nil (parts_run t)) (walk_ref getE_new)) ?_
          have z := lc_map (f := Tm.obj) (g := fun p => (p.pt x g).obj) (m := m ++ [MO.lst (t.parts.map Tm.obj)]) (w := ⟨t.parts.map Tm.obj, some (m.length, false)⟩) (elt := fun y m2 => evE dat.T (run dat.T W dat.defs (n + 4)) (.meth (.var 3) m_with_given [] [(.var 1), (.var 2)]) (List.set (entry ⟨3, 4, [], b_Term_with_given⟩ [t.obj, .str x, g.obj]) 3 (.val y)) m2) (fun acc => still_at (b := false) (getE_old getE_new)) t.parts [] (fun p hp acc => e_meth (e_var rfl) (cls_obj p) (has_with_given p) (l_cons (e_var rfl) (l_one (e_var rfl))) (ih p hp (ok_part ho hp) (by have := deep_part hp; omega))) (by have := few t; simp only [List.length_nil]; omega)
          rw [List.nil_append] at z
          exact z
        have gp : (m ++ [MO.lst (t.parts.map Tm.obj)] ++ [MO.lst (t.parts.map fun p => (p.pt x g).obj)])[(m ++ [MO.lst (t.parts.map Tm.obj)]).length]? = some (.lst ((t.parts.map (·.pt x g)).map Tm.obj)) := by
          rw [List.map_map]
          exact getE_new
        have e0 : evB dat.T W (run dat.T W dat.defs (n + 4)) b_Term_with_given (entry ⟨3, 4, [], b_Term_with_given⟩ [t.obj, .str x, g.obj]) m = .rt (t.re (t.parts.map (·.pt x g))).obj (m ++ [MO.lst (t.parts.map Tm.obj)] ++ [.lst (t.parts.map fun p => (p.pt x g).obj)]) :=
          (b_skip c1 rfl).trans (b_rt (s_ret (e_meth (e_var rfl) (cls_obj t) (has_rebuilt t) (l_one lc) (rebuilt_run t ho pl gp))))
        rw [e0, List.append_assoc, out_garb (low_obj _)]
theorem closed_run (ho : g.Few) (hc : g.fr = []) {n : Nat} {m : Mem} (hd : g.deep < n) : run dat.T W dat.defs (n + 2) i_must_be_closed [g.obj] m = .ok .non m := by
  rw [run_step (as := [g.obj]) t_must_be_closed rfl]
  dsimp only
  have f := free_few_run (W := W) g (n := n) (m := m) ho hd
  rw [hc] at f
  have e0 : evB dat.T W (run dat.T W dat.defs (n + 1)) b_must_be_closed (entry ⟨1, 2, [], b_must_be_closed⟩ [g.obj]) m = .nx [.val g.obj, .val (.ref m.length)] (m ++ [.lst []]) :=
    (b_nx (s_asg (e_meth (e_var rfl) (cls_obj g) (has_free g) l_nil f))).trans ((b_skip (e_cmp (e_blt (l_one (e_var rfl)) (len_ref getE_new)) e_int rfl) rfl).trans b_nil)
  rw [e0]
  exact out_nx
theorem unclosed_run (ho : g.Few) {y : Txt} {ys : List Txt} (hc : g.fr = y :: ys) (hy : y.length ≤ 1000) {n : Nat} {m : Mem} (hd : g.deep < n) : run dat.T W dat.defs (n + 2) i_must_be_closed [g.obj] m = .ex x_NotClosed [.str y] m := by
  rw [run_step (as := [g.obj]) t_must_be_closed rfl]
  dsimp only
  have f := free_few_run (W := W) g (n := n) (m := m) ho hd
  rw [hc] at f
  have gt : cmpop .Gt (.int (((y :: ys).map MV.str).length : Nat)) (.int 0) (m ++ [.lst ((y :: ys).map MV.str)]) = some (.bl true, m ++ [.lst ((y :: ys).map MV.str)]) := by
    rw [show (MV.int 0) = .int ((0 : Nat) : Int) from rfl, cmp_gt, decide_eq_true (by simp)]
  have e0 : evB dat.T W (run dat.T W dat.defs (n + 1)) b_must_be_closed (entry ⟨1, 2, [], b_must_be_closed⟩ [g.obj]) m = .ex x_NotClosed [.str y] [.val g.obj, .val (.ref m.length)] (m ++ [.lst ((y :: ys).map MV.str)]) :=
    (b_nx (s_asg (e_meth (e_var rfl) (cls_obj g) (has_free g) l_nil f))).trans (b_ends_ex (e_cmp (e_blt (l_one (e_var rfl)) (len_ref getE_new)) e_int gt) rfl (b_ex (s_raise1 (l_one (e_idx (e_var rfl) e_int (get_l getE_new atI0))) rfl (by
      show (shw (.str y) && true) = true
      rw [Bool.and_true]
      exact decide_eq_true hy))))
  rw [e0]
  exact out_ex rfl
theorem put_run (ho : g.Few) (hc : g.fr = []) (t : Tm) (ok : t.Ok) {n : Nat} {m : Mem} (hd : g.deep < n) (ht : t.deep < n) : run dat.T W dat.defs (n + 5) i_Term_put [t.obj, .str x, g.obj] m = .ok (t.pt x g).obj m := by
  rw [run_step (as := [t.obj, .str x, g.obj]) t_Term_put rfl]
  dsimp only
  have e0 : evB dat.T W (run dat.T W dat.defs (n + 4)) b_Term_put (entry ⟨3, 3, [], b_Term_put⟩ [t.obj, .str x, g.obj]) m = .rt (t.pt x g).obj m :=
    (b_nx (s_expr (e_call (l_one (e_var rfl)) (closed_run ho hc (n := n + 2) (by omega))))).trans (b_rt (s_ret (e_meth (e_var rfl) (cls_obj t) (has_with_given t) (l_cons (e_var rfl) (l_one (e_var rfl))) (with_given_run t ok ht))))
  rw [e0, out_rt (low_obj _)]
theorem put_ex (ho : g.Few) {y : Txt} {ys : List Txt} (hc : g.fr = y :: ys) (hy : y.length ≤ 1000) (t : Tm) {n : Nat} {m : Mem} (hd : g.deep < n) : run dat.T W dat.defs (n + 5) i_Term_put [t.obj, .str x, g.obj] m = .ex x_NotClosed [.str y] m := by
  rw [run_step (as := [t.obj, .str x, g.obj]) t_Term_put rfl]
  dsimp only
  have e0 : evB dat.T W (run dat.T W dat.defs (n + 4)) b_Term_put (entry ⟨3, 3, [], b_Term_put⟩ [t.obj, .str x, g.obj]) m = .ex x_NotClosed [.str y] [.val t.obj, .val (.str x), .val g.obj] m :=
    b_ex (s_expr_ex (e_call_ex (l_one (e_var rfl)) (unclosed_run ho hc hy (n := n + 2) (by omega))))
  have o := out_ex (m := m) (e := []) (c := x_NotClosed) (fs := [.str y]) (r := [.val t.obj, .val (.str x), .val g.obj]) rfl
  rw [List.append_nil] at o
  rw [e0, o]
end
end LW
end Part_M21

section Part_M6W
set_option Elab.async false
set_option linter.all false
set_option maxRecDepth 100000
set_option maxHeartbeats 400000
/-! M6W: terms made, as rules of the walk. -/
namespace LW
open U
open PySem (Operator CmpOp)
section
variable {W n : Nat} {m : Mem} {Q : MV → Mem → Prop} {X : QX} {x s : Txt} {i : Int} {a b c t : Tm}
theorem wn_open (q : Q Tm.opn.obj m) : We (newObj dat.T (run dat.T W dat.defs n) k_Open [] m) Q X := We.of new_open q
theorem wn_name (h : NameOk x) (q : Q (Tm.name x).obj m) : We (newObj dat.T (run dat.T W dat.defs (n + 3)) k_Name [.str x] m) Q X := We.of (new_name h) q
theorem wn_number (q : Q (Tm.num i).obj m) : We (newObj dat.T (run dat.T W dat.defs (n + 3)) k_Number [.int i] m) Q X := We.of new_number q
theorem wn_maker (h : NameOk x) (q : Q (Tm.mk x b).obj m) : We (newObj dat.T (run dat.T W dat.defs (n + 3)) k_Maker [.str x, b.obj] m) Q X := We.of (new_maker h) q
theorem wn_again (h : NameOk x) (q : Q (Tm.aga x b).obj m) : We (newObj dat.T (run dat.T W dat.defs (n + 3)) k_Again [.str x, b.obj] m) Q X := We.of (new_again h) q
theorem wn_give (q : Q (Tm.giv a b).obj m) : We (newObj dat.T (run dat.T W dat.defs (n + 3)) k_Give [a.obj, b.obj] m) Q X := We.of new_give q
theorem wn_sum (h : SignOk s) (q : Q (Tm.sm s a b).obj m) : We (newObj dat.T (run dat.T W dat.defs (n + 3)) k_Sum [.str s, a.obj, b.obj] m) Q X := We.of (new_sum h) q
theorem wn_choice (q : Q (Tm.cho a b c).obj m) : We (newObj dat.T (run dat.T W dat.defs (n + 3)) k_Choice [a.obj, b.obj, c.obj] m) Q X := We.of new_choice q
theorem wm_told (h : t.deep < n) (q : Q t.tell m) : We (run dat.T W dat.defs n (meth_of t m_told) [t.obj] m) Q X := .of (told_run t h) q
theorem wm_parts (q : Q (.ref m.length) (m ++ [.lst (t.parts.map Tm.obj)])) : We (run dat.T W dat.defs (n + 1) (meth_of t m_parts) [t.obj] m) Q X := .of (parts_run t) q
end
end LW
end Part_M6W

section Part_N0
set_option Elab.async false
set_option linter.all false
set_option maxRecDepth 100000
set_option maxHeartbeats 4000000
/-! N0: term_of, of what a term tells. -/
namespace LW
open U
open PySem (Operator CmpOp)
local macro_rules | `(tactic| walk_at "g") => `(tactic| first | (with_reducible assumption) | (with_reducible exact getE_new) | ((with_reducible apply getE_old); walk_at "g") | ((with_reducible apply Keep.get); (with_reducible assumption); (with_reducible assumption)))
local macro_rules | `(tactic| walk_at "k") => `(tactic| first | (with_reducible exact Keep.refl) | ((with_reducible apply Keep.push); walk_at "k") | ((with_reducible apply Keep.set); walk_at "k"; ((try simp only [List.length_append, List.length_set, List.length_cons, List.length_nil]); omega)) | (with_reducible assumption))
local macro_rules | `(tactic| walk_at "d") => `(tactic| first | (with_reducible assumption) | omega | decide)
local macro_rules | `(tactic| walk_at "n") => `(tactic| first | (with_reducible assumption) | omega | exact Nat.le_of_ble_eq_true rfl | (simp only [List.length_append, List.length_cons, List.length_nil, List.length_map, List.length_reverse]; omega))
local macro_rules | `(tactic| walk_at "D") => `(tactic| first | (with_reducible assumption) | ((with_reducible apply Lf.st); (with_reducible assumption)) | ((with_reducible apply Sd.more); walk_at "D"))
local macro_rules | `(tactic| walk_at "h") => `(tactic| first | (with_reducible assumption) | omega | exact Sd.ne1 (by walk_at "D") | exact Sd.ne2 (by walk_at "D"))
local macro_rules | `(tactic| walk_at "L") => `(tactic| first | (with_reducible assumption) | ((with_reducible apply Lf.refl); walk_at "D") | ((with_reducible apply Lf.push); walk_at "L") | ((with_reducible apply Lf.thn); (with_reducible assumption); walk_at "L"))
local macro_rules | `(tactic| walk_at "a") => `(tactic| first | exact at0 | exact at1 | exact at2 | exact at3 | (with_reducible assumption) | exact (atn (by with_reducible assumption)) | exact rfl)
local macro_rules | `(tactic| walk_at "S") => `(tactic| first | (focus (simp only [Tg.put, setAll, envOf, List.map_cons, List.map_nil, List.length_cons, List.length_nil, Nat.reduceAdd, Nat.reduceSub, List.reduceReplicate, List.replicate_zero, List.cons_append, List.nil_append, List.append_nil, List.set_cons_succ, List.set_cons_zero, List.set_nil]; try exact rfl)) | exact rfl)
local macro_rules | `(tactic| walk_at "y") => `(tactic| first | fail)
local macro_rules | `(tactic| walk_at "c") => `(tactic| first | walk_at "y" | ((with_reducible refine' We.of ?h0 ?_); (case h0 => with_reducible assumption)) | ((with_reducible refine' We.exn ?h0 ?_); (case h0 => with_reducible assumption)) | with_reducible refine wi_of ?_ | with_reducible refine wi_enum ?_ | with_reducible refine wi_rng ?_)
local macro_rules | `(tactic| walk_at "o") => `(tactic| first | with_reducible refine op_cmp_eq ?_ | with_reducible refine op_cmp_lt ?_ | with_reducible refine op_str_eq ?_ | ((with_reducible refine' op_idx ?h0 ?_); (case h0 => walk_at "a")) | with_reducible refine op_add ?_ | with_reducible refine op_sub ?_ | ((with_reducible refine' op_idxl ?h0 ?h1 ?_); (case h0 => walk_at "g"); (case h1 => walk_at "a")) | with_reducible refine op_cmp_ne ?_ | with_reducible refine op_cmp_le ?_ | with_reducible refine op_cmp_gt ?_ | with_reducible refine op_cmp_ge ?_ | with_reducible refine op_str_ne ?_ | with_reducible refine op_is_non ?_ | with_reducible refine op_isnot_non ?_ | ((with_reducible refine' op_mod ?h0 ?_); (case h0 => walk_at "d")) | ((with_reducible refine' op_fdiv ?h0 ?_); (case h0 => walk_at "d")) | ((with_reducible refine' op_mul ?h0 ?_); (case h0 => walk_at "d")) | ((with_reducible refine' op_fdiv ?h0 ?_); (case h0 => walk_at "d")) | ((with_reducible refine' op_mul ?h0 ?_); (case h0 => walk_at "d")) | with_reducible refine op_neg ?_ | with_reducible refine op_lent ?_ | ((with_reducible refine' op_lenl ?h0 ?_); (case h0 => walk_at "g")) | ((with_reducible refine' op_tupl ?h0 ?_); (case h0 => walk_at "g")) | with_reducible refine op_listt ?_ | ((with_reducible refine' op_listl ?h0 ?_); (case h0 => walk_at "g")) | with_reducible refine op_abs ?_ | with_reducible refine op_intb ?_ | with_reducible refine op_slct ?_ | ((with_reducible refine' op_slcl ?h0 ?_); (case h0 => walk_at "g")) | ((with_reducible refine' op_in ?h0 ?h1 ?_); (case h0 => walk_at "g"); (case h1 => (first | assumption | rfl))) | ((with_reducible refine' op_notin ?h0 ?h1 ?_); (case h0 => walk_at "g"); (case h1 => (first | assumption | rfl))) | ((with_reducible refine' op_append ?h0 ?h1 ?_); (case h0 => walk_at "g"); (case h1 => walk_at "n")) | ((with_reducible refine' op_extend ?h0 ?h1 ?h2 ?_); (case h0 => walk_at "g"); (case h1 => walk_at "g"); (case h2 => walk_at "n")) | ((with_reducible refine' op_ladd ?h0 ?h1 ?h2 ?_); (case h0 => walk_at "g"); (case h1 => walk_at "g"); (case h2 => walk_at "n")) | ((with_reducible refine' op_tadd ?h0 ?_); (case h0 => walk_at "n")) | ((with_reducible refine' op_sadd ?h0 ?_); (case h0 => walk_at "n")) | ((with_reducible refine' op_lens ?h0 ?_); (case h0 => walk_at "n")) | ((with_reducible refine' op_slcs ?h0 ?_); (case h0 => walk_at "n")) | walk_at "y" | ((with_reducible refine' of_fld ?h0 ?_); (case h0 => exact rfl)) | ((with_reducible refine' of_cmp ?h0 ?_); (case h0 => exact rfl)) | ((with_reducible refine' of_sub ?h0 ?_); (case h0 => exact rfl)) | ((with_reducible refine' of_blt ?h0 ?_); (case h0 => exact rfl)) | ((with_reducible refine' of_rev ?h0 ?_); (case h0 => exact rfl)) | ((with_reducible refine' of_din ?h0 ?_); (case h0 => exact rfl)) | ((with_reducible refine' of_dix ?h0 ?_); (case h0 => exact rfl)))
local macro_rules | `(tactic| walk_at "e") => `(tactic| first | ((with_reducible refine' w_var ?h0 ?_); (case h0 => exact rfl)) | with_reducible refine w_int ?_ | with_reducible refine w_str ?_ | with_reducible refine w_cmp ?_ | with_reducible refine w_idx ?_ | with_reducible refine w_call0 ?_ | with_reducible refine w_bl ?_ | with_reducible refine w_non ?_ | with_reducible refine w_and ?_ | with_reducible refine w_or ?_ | with_reducible refine w_not ?_ | with_reducible refine w_bin ?_ | with_reducible refine w_tup ?_ | with_reducible refine w_lst ?_ | with_reducible refine w_blt ?_ | with_reducible refine w_bm ?_ | with_reducible refine w_meth0 ?_ | with_reducible refine w_fld ?_ | with_reducible refine w_isi ?_ | with_reducible refine w_ife ?_ | with_reducible refine w_slc10 ?_ | with_reducible refine w_slc01 ?_ | with_reducible refine w_slc11 ?_ | with_reducible refine w_slc00 ?_ | with_reducible refine w_rev ?_ | with_reducible refine w_new0 ?_ | with_reducible refine w_neg ?_ | with_reducible refine w_chain ?_ | with_reducible refine w_lc0 ?_ | with_reducible refine w_lc1 ?_ | with_reducible refine w_call ?_ | with_reducible refine w_new ?_ | with_reducible refine w_meth ?_ | walk_at "y" | with_reducible refine w_con ?_ | with_reducible refine w_din ?_ | with_reducible refine w_dix ?_ | ((with_reducible refine' w_xfld ?h0 ?h1 ?h2 ?_); (case h0 => exact rfl); (case h1 => exact rfl); (case h2 => exact rfl)) | ((with_reducible refine' w_xisi ?h0 ?_); (case h0 => exact rfl)) | with_reducible refine w_fstr ?_)
local macro_rules | `(tactic| walk_at "t") => `(tactic| first | with_reducible refine wb_cons ?_ | with_reducible refine ws_asg ?_ | with_reducible refine ws_ret ?_ | with_reducible refine ws_ifs ?_ | with_reducible refine wb_nil ?_ | with_reducible refine ws_expr ?_ | with_reducible refine ws_for ?_ | with_reducible refine ws_unp ?_ | with_reducible refine ws_setf ?_ | with_reducible refine ws_seti ?_ | ((with_reducible refine' ws_aug ?h0 ?_); (case h0 => exact rfl)) | with_reducible refine ws_try ?_ | with_reducible refine ws_whl ?_ | with_reducible refine ws_retn ?_ | with_reducible refine ws_pass ?_ | with_reducible refine ws_brk ?_ | with_reducible refine ws_cont ?_)
local macro_rules | `(tactic| walk_at "r") => `(tactic| first | with_reducible refine br_tt ?_ | with_reducible refine br_ff ?_ | with_reducible refine br_not ?_ | ((with_reducible refine' br_dt ?h0 ?_); (case h0 => walk_at "d")) | ((with_reducible refine' br_df ?h0 ?_); (case h0 => walk_at "d")) | ((with_reducible refine' br_t ?h0 ?_); (case h0 => (first | assumption | rfl))) | ((with_reducible refine' br_f ?h0 ?_); (case h0 => (first | assumption | rfl))))
local macro_rules | `(tactic| walk_at "b") => `(tactic| first | with_reducible refine tr_bl ?_ | with_reducible refine tr_tup ?_ | with_reducible refine tr_int ?_ | with_reducible refine tr_non ?_ | with_reducible refine isI ?_ | ((with_reducible refine' wk_ref ?h0 ?_); (case h0 => walk_at "g")) | ((with_reducible refine' en_ref ?h0 ?_); (case h0 => walk_at "g")) | with_reducible refine wt_tup ?_ | with_reducible refine wt_str ?_ | with_reducible refine And.intro (le_line rfl) ?_ | with_reducible refine And.intro (recv_a (by walk_at "g")) ?_ | with_reducible refine And.intro (recv_e (by walk_at "g")) ?_ | with_reducible refine And.intro recv_j ?_ | ((with_reducible refine' cl_yes ?h0 ?h1 ?_); (case h0 => exact rfl); (case h1 => exact rfl)) | ((with_reducible refine' cl_no ?h0 ?h1 ?_); (case h0 => exact rfl); (case h1 => exact rfl)) | ((with_reducible refine' rgi ?h0 ?_); (case h0 => omega)) | ((with_reducible refine' clear_of ?h0 ?_); (case h0 => exact rfl)) | ((with_reducible refine' se_of ?h0 ?_); (case h0 => walk_at "S")) | ((with_reducible refine' me_put ?h0 ?_); (case h0 => walk_at "S")) | with_reducible refine ft_cons ?_ | with_reducible refine ft_nil ?_ | walk_at "y" | ((with_reducible refine' me_of ?h0 ?_); (case h0 => exact rfl)))
local macro_rules | `(tactic| walk_at "1") => `(tactic| first | ((with_reducible show Ws _ _ _ _ _); walk_at "t") | ((with_reducible show We (evE _ _ _ _ _) _ _); walk_at "e") | with_reducible refine wl_cons ?_ | with_reducible refine wl_nil ?_ | ((with_reducible show Op _ _); walk_at "o") | ((with_reducible show Br _ _ _); walk_at "r") | ((with_reducible show We _ _ _); walk_at "c") | walk_at "b")
local macro_rules | `(tactic| walk_at "w") => `(tactic| repeat walk_at "1")
section
variable {W : Nat} {Q : MV → Mem → Prop} {X : QX}
theorem tell_lay : ∀ t : Tm, t.Ok → t.tell.lay = true := fun t => by
  have nm : ∀ x : Txt, NameOk x → (x.all fun c => decide (c < 0x110000)) = true := fun x h => List.all_eq_true.mpr fun c hc => decide_eq_true (by have := h.let_ c hc; omega)
  have sg : ∀ x : Txt, SignOk x → (x.all fun c => decide (c < 0x110000)) = true := fun x h => by rcases h with rfl | rfl | rfl <;> rfl
  have c2 : ∀ {a : MV} {l : List MV}, a.lay = true → MV.lays l = true → MV.lays (a :: l) = true := fun h1 h2 => by show (_ && _) = true; rw [h1, h2]; rfl
  induction t with
  | opn => intro _; rfl
  | name x => intro o; exact c2 rfl (c2 (nm x o) rfl)
  | num i => intro o; rfl
  | mk x b ih => intro o; exact c2 rfl (c2 (nm x o.1) (c2 (ih o.2) rfl))
  | aga x b ih => intro o; exact c2 rfl (c2 (nm x o.1) (c2 (ih o.2) rfl))
  | giv a b i1 i2 => intro o; exact c2 rfl (c2 (i1 o.1) (c2 (i2 o.2) rfl))
  | sm s a b i1 i2 => intro o; exact c2 rfl (c2 (sg s o.1) (c2 (i1 o.2.1) (c2 (i2 o.2.2) rfl)))
  | cho a b c i1 i2 i3 => intro o; exact c2 rfl (c2 (i1 o.1) (c2 (i2 o.2.1) (c2 (i3 o.2.2) rfl)))
theorem ne_tell {t : Tm} {m : Mem} (o : t.Ok) (h : t.deep ≤ 900) (q : Q (.bl false) m) : Op (cmpop .NotEq t.tell t.tell m) Q := op_ne_self (tell_fine t o) (tell_lay t o) (by have := tell_dep t; omega) q
local macro_rules | `(tactic| walk_at "y") => `(tactic| first | with_reducible refine wn_open ?_ | ((with_reducible refine' wn_name ?h0 ?_); (case h0 => with_reducible assumption)) | with_reducible refine wn_number ?_ | ((with_reducible refine' wn_maker ?h0 ?_); (case h0 => with_reducible assumption)) | ((with_reducible refine' wn_again ?h0 ?_); (case h0 => with_reducible assumption)) | with_reducible refine wn_give ?_ | ((with_reducible refine' wn_sum ?h0 ?_); (case h0 => with_reducible assumption)) | with_reducible refine wn_choice ?_ | with_reducible refine mt_of (cls_obj _) (has_told _) ?_ | ((with_reducible refine' wm_told ?h0 ?_); (case h0 => (first | with_reducible assumption | omega))) | with_reducible refine me_of (is_term _) ?_)
theorem term_of_run : ∀ (t : Tm) {n : Nat} {m : Mem}, t.Ok → t.deep < n → run dat.T W dat.defs (n + 3) i_term_of [t.tell] m = .ok t.obj m := fun t => by
  induction t using Tm.ind with
  | h t ih =>
    intro n m o hn
    obtain ⟨n, rfl⟩ : ∃ j, n = j + 1 := ⟨n - 1, by omega⟩
    have mem1 : ∀ p ∈ t.parts, p.Ok → run dat.T W dat.defs (n + 3) i_term_of [p.tell] m = .ok p.obj m := fun p hp ho => ih p hp ho (by have := deep_part hp; omega)
    refine run_val t_term_of rfl (by walk_at "S") ?_ (low_obj _)
    cases t with
    | opn =>
      walk_at "w"
      exact ⟨rfl, by walk_at "k"⟩
    | name x =>
      have o : NameOk x := o
      walk_at "w"
      exact ⟨rfl, by walk_at "k"⟩
    | num i =>
      walk_at "w"
      exact ⟨rfl, by walk_at "k"⟩
    | mk x b =>
      have o1 : NameOk x := o.1
      have h1 := mem1 b (by simp [Tm.parts]) o.2
      walk_at "w"
      exact ⟨rfl, by walk_at "k"⟩
    | aga x b =>
      have o1 : NameOk x := o.1
      have h1 := mem1 b (by simp [Tm.parts]) o.2
      walk_at "w"
      exact ⟨rfl, by walk_at "k"⟩
    | giv a b =>
      have h1 := mem1 a (by simp [Tm.parts]) o.1
      have h2 := mem1 b (by simp [Tm.parts]) o.2
      walk_at "w"
      exact ⟨rfl, by walk_at "k"⟩
    | sm s a b =>
      have o1 : SignOk s := o.1
      have h1 := mem1 a (by simp [Tm.parts]) o.2.1
      have h2 := mem1 b (by simp [Tm.parts]) o.2.2
      walk_at "w"
      exact ⟨rfl, by walk_at "k"⟩
    | cho a b c =>
      have h1 := mem1 a (by simp [Tm.parts]) o.1
      have h2 := mem1 b (by simp [Tm.parts]) o.2.1
      have h3 := mem1 c (by simp [Tm.parts]) o.2.2
      walk_at "w"
      exact ⟨rfl, by walk_at "k"⟩
end
end LW
end Part_N0

section Part_N1
set_option Elab.async false
set_option linter.all false
set_option maxRecDepth 100000
set_option maxHeartbeats 4000000
/-! N1: where a term goes on: sort_at, awaited, going, how, spot. -/
namespace LW
open U
open PySem (Operator CmpOp)
local macro_rules | `(tactic| walk_at "g") => `(tactic| first | (with_reducible assumption) | (with_reducible exact getE_new) | ((with_reducible apply getE_old); walk_at "g") | ((with_reducible apply Keep.get); (with_reducible assumption); (with_reducible assumption)))
local macro_rules | `(tactic| walk_at "k") => `(tactic| first | (with_reducible exact Keep.refl) | ((with_reducible apply Keep.push); walk_at "k") | ((with_reducible apply Keep.set); walk_at "k"; ((try simp only [List.length_append, List.length_set, List.length_cons, List.length_nil]); omega)) | (with_reducible assumption))
local macro_rules | `(tactic| walk_at "d") => `(tactic| first | (with_reducible assumption) | omega | decide)
local macro_rules | `(tactic| walk_at "n") => `(tactic| first | (with_reducible assumption) | omega | exact Nat.le_of_ble_eq_true rfl | (simp only [List.length_append, List.length_cons, List.length_nil, List.length_map, List.length_reverse]; omega))
local macro_rules | `(tactic| walk_at "D") => `(tactic| first | (with_reducible assumption) | ((with_reducible apply Lf.st); (with_reducible assumption)) | ((with_reducible apply Sd.more); walk_at "D"))
local macro_rules | `(tactic| walk_at "h") => `(tactic| first | (with_reducible assumption) | omega | exact Sd.ne1 (by walk_at "D") | exact Sd.ne2 (by walk_at "D"))
local macro_rules | `(tactic| walk_at "L") => `(tactic| first | (with_reducible assumption) | ((with_reducible apply Lf.refl); walk_at "D") | ((with_reducible apply Lf.push); walk_at "L") | ((with_reducible apply Lf.thn); (with_reducible assumption); walk_at "L"))
local macro_rules | `(tactic| walk_at "a") => `(tactic| first | exact at0 | exact at1 | exact at2 | exact at3 | (with_reducible assumption) | exact (atn (by with_reducible assumption)) | exact rfl)
local macro_rules | `(tactic| walk_at "S") => `(tactic| first | (focus (simp only [Tg.put, setAll, envOf, List.map_cons, List.map_nil, List.length_cons, List.length_nil, Nat.reduceAdd, Nat.reduceSub, List.reduceReplicate, List.replicate_zero, List.cons_append, List.nil_append, List.append_nil, List.set_cons_succ, List.set_cons_zero, List.set_nil]; try exact rfl)) | exact rfl)
local macro_rules | `(tactic| walk_at "y") => `(tactic| first | fail)
local macro_rules | `(tactic| walk_at "c") => `(tactic| first | walk_at "y" | ((with_reducible refine' We.of ?h0 ?_); (case h0 => with_reducible assumption)) | ((with_reducible refine' We.exn ?h0 ?_); (case h0 => with_reducible assumption)) | with_reducible refine wi_of ?_ | with_reducible refine wi_enum ?_ | with_reducible refine wi_rng ?_)
local macro_rules | `(tactic| walk_at "o") => `(tactic| first | with_reducible refine op_cmp_eq ?_ | with_reducible refine op_cmp_lt ?_ | with_reducible refine op_str_eq ?_ | ((with_reducible refine' op_idx ?h0 ?_); (case h0 => walk_at "a")) | with_reducible refine op_add ?_ | with_reducible refine op_sub ?_ | ((with_reducible refine' op_idxl ?h0 ?h1 ?_); (case h0 => walk_at "g"); (case h1 => walk_at "a")) | with_reducible refine op_cmp_ne ?_ | with_reducible refine op_cmp_le ?_ | with_reducible refine op_cmp_gt ?_ | with_reducible refine op_cmp_ge ?_ | with_reducible refine op_str_ne ?_ | with_reducible refine op_is_non ?_ | with_reducible refine op_isnot_non ?_ | ((with_reducible refine' op_mod ?h0 ?_); (case h0 => walk_at "d")) | ((with_reducible refine' op_fdiv ?h0 ?_); (case h0 => walk_at "d")) | ((with_reducible refine' op_mul ?h0 ?_); (case h0 => walk_at "d")) | ((with_reducible refine' op_fdiv ?h0 ?_); (case h0 => walk_at "d")) | ((with_reducible refine' op_mul ?h0 ?_); (case h0 => walk_at "d")) | with_reducible refine op_neg ?_ | with_reducible refine op_lent ?_ | ((with_reducible refine' op_lenl ?h0 ?_); (case h0 => walk_at "g")) | ((with_reducible refine' op_tupl ?h0 ?_); (case h0 => walk_at "g")) | with_reducible refine op_listt ?_ | ((with_reducible refine' op_listl ?h0 ?_); (case h0 => walk_at "g")) | with_reducible refine op_abs ?_ | with_reducible refine op_intb ?_ | with_reducible refine op_slct ?_ | ((with_reducible refine' op_slcl ?h0 ?_); (case h0 => walk_at "g")) | ((with_reducible refine' op_in ?h0 ?h1 ?_); (case h0 => walk_at "g"); (case h1 => (first | assumption | rfl))) | ((with_reducible refine' op_notin ?h0 ?h1 ?_); (case h0 => walk_at "g"); (case h1 => (first | assumption | rfl))) | ((with_reducible refine' op_append ?h0 ?h1 ?_); (case h0 => walk_at "g"); (case h1 => walk_at "n")) | ((with_reducible refine' op_extend ?h0 ?h1 ?h2 ?_); (case h0 => walk_at "g"); (case h1 => walk_at "g"); (case h2 => walk_at "n")) | ((with_reducible refine' op_ladd ?h0 ?h1 ?h2 ?_); (case h0 => walk_at "g"); (case h1 => walk_at "g"); (case h2 => walk_at "n")) | ((with_reducible refine' op_tadd ?h0 ?_); (case h0 => walk_at "n")) | ((with_reducible refine' op_sadd ?h0 ?_); (case h0 => walk_at "n")) | ((with_reducible refine' op_lens ?h0 ?_); (case h0 => walk_at "n")) | ((with_reducible refine' op_slcs ?h0 ?_); (case h0 => walk_at "n")) | walk_at "y" | ((with_reducible refine' of_fld ?h0 ?_); (case h0 => exact rfl)) | ((with_reducible refine' of_cmp ?h0 ?_); (case h0 => exact rfl)) | ((with_reducible refine' of_sub ?h0 ?_); (case h0 => exact rfl)) | ((with_reducible refine' of_blt ?h0 ?_); (case h0 => exact rfl)) | ((with_reducible refine' of_rev ?h0 ?_); (case h0 => exact rfl)) | ((with_reducible refine' of_din ?h0 ?_); (case h0 => exact rfl)) | ((with_reducible refine' of_dix ?h0 ?_); (case h0 => exact rfl)))
local macro_rules | `(tactic| walk_at "e") => `(tactic| first | ((with_reducible refine' w_var ?h0 ?_); (case h0 => exact rfl)) | with_reducible refine w_int ?_ | with_reducible refine w_str ?_ | with_reducible refine w_cmp ?_ | with_reducible refine w_idx ?_ | with_reducible refine w_call0 ?_ | with_reducible refine w_bl ?_ | with_reducible refine w_non ?_ | with_reducible refine w_and ?_ | with_reducible refine w_or ?_ | with_reducible refine w_not ?_ | with_reducible refine w_bin ?_ | with_reducible refine w_tup ?_ | with_reducible refine w_lst ?_ | with_reducible refine w_blt ?_ | with_reducible refine w_bm ?_ | with_reducible refine w_meth0 ?_ | with_reducible refine w_fld ?_ | with_reducible refine w_isi ?_ | with_reducible refine w_ife ?_ | with_reducible refine w_slc10 ?_ | with_reducible refine w_slc01 ?_ | with_reducible refine w_slc11 ?_ | with_reducible refine w_slc00 ?_ | with_reducible refine w_rev ?_ | with_reducible refine w_new0 ?_ | with_reducible refine w_neg ?_ | with_reducible refine w_chain ?_ | with_reducible refine w_lc0 ?_ | with_reducible refine w_lc1 ?_ | with_reducible refine w_call ?_ | with_reducible refine w_new ?_ | with_reducible refine w_meth ?_ | walk_at "y" | with_reducible refine w_con ?_ | with_reducible refine w_din ?_ | with_reducible refine w_dix ?_ | ((with_reducible refine' w_xfld ?h0 ?h1 ?h2 ?_); (case h0 => exact rfl); (case h1 => exact rfl); (case h2 => exact rfl)) | ((with_reducible refine' w_xisi ?h0 ?_); (case h0 => exact rfl)) | with_reducible refine w_fstr ?_)
local macro_rules | `(tactic| walk_at "t") => `(tactic| first | with_reducible refine wb_cons ?_ | with_reducible refine ws_asg ?_ | with_reducible refine ws_ret ?_ | with_reducible refine ws_ifs ?_ | with_reducible refine wb_nil ?_ | with_reducible refine ws_expr ?_ | with_reducible refine ws_for ?_ | with_reducible refine ws_unp ?_ | with_reducible refine ws_setf ?_ | with_reducible refine ws_seti ?_ | ((with_reducible refine' ws_aug ?h0 ?_); (case h0 => exact rfl)) | with_reducible refine ws_try ?_ | with_reducible refine ws_whl ?_ | with_reducible refine ws_retn ?_ | with_reducible refine ws_pass ?_ | with_reducible refine ws_brk ?_ | with_reducible refine ws_cont ?_)
local macro_rules | `(tactic| walk_at "r") => `(tactic| first | with_reducible refine br_tt ?_ | with_reducible refine br_ff ?_ | with_reducible refine br_not ?_ | ((with_reducible refine' br_dt ?h0 ?_); (case h0 => walk_at "d")) | ((with_reducible refine' br_df ?h0 ?_); (case h0 => walk_at "d")) | ((with_reducible refine' br_t ?h0 ?_); (case h0 => (first | assumption | rfl))) | ((with_reducible refine' br_f ?h0 ?_); (case h0 => (first | assumption | rfl))))
local macro_rules | `(tactic| walk_at "b") => `(tactic| first | with_reducible refine tr_bl ?_ | with_reducible refine tr_tup ?_ | with_reducible refine tr_int ?_ | with_reducible refine tr_non ?_ | with_reducible refine isI ?_ | ((with_reducible refine' wk_ref ?h0 ?_); (case h0 => walk_at "g")) | ((with_reducible refine' en_ref ?h0 ?_); (case h0 => walk_at "g")) | with_reducible refine wt_tup ?_ | with_reducible refine wt_str ?_ | with_reducible refine And.intro (le_line rfl) ?_ | with_reducible refine And.intro (recv_a (by walk_at "g")) ?_ | with_reducible refine And.intro (recv_e (by walk_at "g")) ?_ | with_reducible refine And.intro recv_j ?_ | ((with_reducible refine' cl_yes ?h0 ?h1 ?_); (case h0 => exact rfl); (case h1 => exact rfl)) | ((with_reducible refine' cl_no ?h0 ?h1 ?_); (case h0 => exact rfl); (case h1 => exact rfl)) | ((with_reducible refine' rgi ?h0 ?_); (case h0 => omega)) | ((with_reducible refine' clear_of ?h0 ?_); (case h0 => exact rfl)) | ((with_reducible refine' se_of ?h0 ?_); (case h0 => walk_at "S")) | ((with_reducible refine' me_put ?h0 ?_); (case h0 => walk_at "S")) | with_reducible refine ft_cons ?_ | with_reducible refine ft_nil ?_ | walk_at "y" | ((with_reducible refine' me_of ?h0 ?_); (case h0 => exact rfl)))
local macro_rules | `(tactic| walk_at "1") => `(tactic| first | ((with_reducible show Ws _ _ _ _ _); walk_at "t") | ((with_reducible show We (evE _ _ _ _ _) _ _); walk_at "e") | with_reducible refine wl_cons ?_ | with_reducible refine wl_nil ?_ | ((with_reducible show Op _ _); walk_at "o") | ((with_reducible show Br _ _ _); walk_at "r") | ((with_reducible show We _ _ _); walk_at "c") | walk_at "b")
local macro_rules | `(tactic| walk_at "w") => `(tactic| repeat walk_at "1")
def Tm.isNum : Tm → Bool
  | .num _ => true | _ => false
def Tm.isMk : Tm → Bool
  | .mk _ _ => true | _ => false
def sTurn : Txt := [116, 117, 114, 110]
def sTake : Txt := [116, 97, 107, 101]
def sChoose : Txt := [99, 104, 111, 111, 115, 101]
/-- the sort of the step at the term itself -/
def Tm.sortAt : Tm → Option Txt
  | .aga _ _ => some sTurn
  | .giv a _ => if a.isMk then some sTake else none
  | .sm _ a b => if a.isNum && b.isNum then some sSum else none
  | .cho a _ _ => if a.isNum then some sChoose else none
  | _ => none
def Tm.awaits : Tm → Option Nat
  | .giv _ _ => some 0
  | .sm _ a _ => some (if a.isNum then 1 else 0)
  | .cho _ _ _ => some 0
  | _ => none
def Tm.goes : Tm → Option (List Nat × Txt)
  | .aga _ _ => some ([], sTurn)
  | .giv a _ => if a.isMk then some ([], sTake) else a.goes.map fun p => (0 :: p.1, p.2)
  | .sm _ a b => if a.isNum then (if b.isNum then some ([], sSum) else b.goes.map fun p => (1 :: p.1, p.2)) else a.goes.map fun p => (0 :: p.1, p.2)
  | .cho a _ _ => if a.isNum then some ([], sChoose) else a.goes.map fun p => (0 :: p.1, p.2)
  | _ => none
def optV : Option Txt → MV
  | none => .non
  | some x => .str x
def optN : Option Nat → MV
  | none => .non
  | some k => .int (k : Nat)
def goV : Option (List Nat × Txt) → MV
  | none => .non
  | some p => .tup [plV p.1, .str p.2]
section
variable {W n : Nat} {m : Mem} {Q : MV → Mem → Prop} {X : QX}
theorem is_mk {t : Tm} : tyAny dat.T m t.obj [.own k_Maker] = some t.isMk := by cases t <;> rfl
theorem is_num {t : Tm} : tyAny dat.T m t.obj [.own k_Number] = some t.isNum := by cases t <;> rfl
local macro_rules | `(tactic| walk_at "y") => `(tactic| first | (with_reducible refine me_of is_mk ?_) | (with_reducible refine me_of is_num ?_))
theorem sort_at_run (t : Tm) : run dat.T W dat.defs (n + 1) i_sort_at [t.obj] m = .ok (optV t.sortAt) m := by
  refine run_val t_sort_at rfl (by walk_at "S") ?_ (by cases t.sortAt <;> rfl)
  cases t with
  | giv a b =>
    cases h : a.isMk with
    | true => walk_at "w"; exact ⟨by simp [Tm.sortAt, h, optV, sTake], by walk_at "k"⟩
    | false => walk_at "w"; exact ⟨by simp [Tm.sortAt, h, optV], by walk_at "k"⟩
  | sm s a b =>
    cases h : a.isNum with
    | true =>
      cases h2 : b.isNum with
      | true => walk_at "w"; exact ⟨by simp [Tm.sortAt, h, h2, optV, sSum], by walk_at "k"⟩
      | false => walk_at "w"; exact ⟨by simp [Tm.sortAt, h, h2, optV], by walk_at "k"⟩
    | false => walk_at "w"; exact ⟨by simp [Tm.sortAt, h, optV], by walk_at "k"⟩
  | cho a b c =>
    cases h : a.isNum with
    | true => walk_at "w"; exact ⟨by simp [Tm.sortAt, h, optV, sChoose], by walk_at "k"⟩
    | false => walk_at "w"; exact ⟨by simp [Tm.sortAt, h, optV], by walk_at "k"⟩
  | _ => walk_at "w"; exact ⟨rfl, by walk_at "k"⟩
theorem awaited_run (t : Tm) : run dat.T W dat.defs (n + 1) i_awaited [t.obj] m = .ok (optN t.awaits) m := by
  refine run_val t_awaited rfl (by walk_at "S") ?_ (by cases t.awaits <;> rfl)
  cases t with
  | sm s a b =>
    cases h : a.isNum with
    | true => walk_at "w"; exact ⟨by simp [Tm.awaits, h, optN], by walk_at "k"⟩
    | false => walk_at "w"; exact ⟨by simp [Tm.awaits, h, optN], by walk_at "k"⟩
  | _ => walk_at "w"; exact ⟨rfl, by walk_at "k"⟩
theorem goes_at {t : Tm} {x : Txt} (h : t.sortAt = some x) : t.goes = some ([], x) := by
  cases t with
  | giv a b => cases e : a.isMk <;> simp [Tm.sortAt, e] at h; simp [Tm.goes, e, h]
  | sm s a b => cases e : a.isNum <;> cases e2 : b.isNum <;> simp [Tm.sortAt, e, e2] at h; simp [Tm.goes, e, e2, h]
  | cho a b c => cases e : a.isNum <;> simp [Tm.sortAt, e] at h; simp [Tm.goes, e, h]
  | aga x b => simp [Tm.sortAt] at h; simp [Tm.goes, h]
  | _ => simp [Tm.sortAt] at h
theorem goes_no {t : Tm} (h : t.sortAt = none) (h2 : t.awaits = none) : t.goes = none := by
  cases t <;> simp [Tm.sortAt, Tm.awaits] at h h2 <;> rfl
theorem goes_in {t : Tm} {k : Nat} (h : t.sortAt = none) (h2 : t.awaits = some k) : ∃ p, t.parts[k]? = some p ∧ t.goes = p.goes.map fun q => (k :: q.1, q.2) := by
  cases t with
  | giv a b => cases e : a.isMk <;> simp [Tm.sortAt, Tm.awaits, e] at h h2; subst h2; exact ⟨a, rfl, by simp [Tm.goes, e]⟩
  | sm s a b =>
    cases e : a.isNum with
    | false => simp [Tm.awaits, e] at h2; subst h2; exact ⟨a, rfl, by simp [Tm.goes, e]⟩
    | true => cases e2 : b.isNum <;> simp [Tm.sortAt, Tm.awaits, e, e2] at h h2; subst h2; exact ⟨b, rfl, by simp [Tm.goes, e, e2]⟩
  | cho a b c => cases e : a.isNum <;> simp [Tm.sortAt, Tm.awaits, e] at h h2; subst h2; exact ⟨a, rfl, by simp [Tm.goes, e]⟩
  | _ => simp [Tm.sortAt, Tm.awaits] at h h2
theorem ws_sort_at {t : Tm} (q : Q (optV t.sortAt) m) : We (run dat.T W dat.defs (n + 1) i_sort_at [t.obj] m) Q X := We.of (sort_at_run t) q
theorem ws_awaited {t : Tm} (q : Q (optN t.awaits) m) : We (run dat.T W dat.defs (n + 1) i_awaited [t.obj] m) Q X := We.of (awaited_run t) q
theorem go_low (o : Option (List Nat × Txt)) (k : Nat) : (goV o).low k = true := by
  cases o with
  | none => rfl
  | some p => show (MV.lows k (stV p.1) && (true && true)) = true; rw [lows_stV]; rfl
end
local macro_rules | `(tactic| walk_at "y") => `(tactic| first | with_reducible refine ws_sort_at ?_ | with_reducible refine ws_awaited ?_ | with_reducible refine mt_of (cls_obj _) (has_parts _) ?_ | with_reducible refine wm_parts ?_ | (with_reducible refine me_of is_mk ?_) | (with_reducible refine me_of is_num ?_))
section
variable {n : Nat} {m : Mem} {Q : MV → Mem → Prop} {X : QX}
theorem going_run (t : Tm) (h : t.deep < 500) : run dat.T 1000 dat.defs (n + 2) i_going [t.obj] m = .ok (goV t.goes) m := by
  refine run_val t_going rfl (by walk_at "S") ?_ (go_low _ _)
  walk_at "w"
  refine wh_inv (fun k r mm => ∃ (p : List Nat) (u : Tm) (y : Sl), r = [.val t.obj, .val (plV p), .val u.obj, y] ∧ t.goes = u.goes.map (fun q => (p ++ q.1, q.2)) ∧ u.deep + 1 ≤ k ∧ p.length + u.deep ≤ t.deep ∧ Keep m mm) (t.deep + 1) (by omega) ⟨[], t, _, rfl, by cases t.goes <;> simp, Nat.le_refl _, by simp, Keep.refl⟩ ?_
  rintro k r mm ⟨p, u, y, rfl, hg, hk, hp, kp⟩
  walk_at "w"
  cases hs : u.sortAt with
  | some x =>
    rw [goes_at hs] at hg
    refine br_f rfl ?_
    walk_at "w"
    rw [hs]
    walk_at "w"
    exact ⟨by rw [hg]; simp [goV, optV], kp⟩
  | none =>
    refine br_t rfl ?_
    refine ⟨k - 1, by omega, ?_⟩
    walk_at "w"
    cases ha : u.awaits with
    | none =>
      refine br_t rfl ?_
      walk_at "w"
      exact ⟨by rw [hg, goes_no hs ha]; rfl, kp⟩
    | some j =>
      obtain ⟨v, hv, hgv⟩ := goes_in hs ha
      have dv := deep_part (List.mem_of_getElem? hv)
      refine br_f rfl ?_
      have hi : L2.atI (u.parts.map Tm.obj) (j : Int) = some v.obj := L2.atI_nat (by rw [List.getElem?_map, hv]; rfl)
      rw [show optN (some j) = .int (j : Nat) from rfl]
      walk_at "w"
      refine op_tadd (x := stV p) (y := [.int (j : Nat)]) (by simp only [stV, List.length_map, List.length_cons, List.length_nil]; omega) ?_
      walk_at "w"
      refine ⟨p ++ [j], v, .val (.int (j : Nat)), by simp [plV, stV], by rw [hg, hgv, Option.map_map]; congr 1; funext q; simp, by omega, by rw [List.length_append]; simp only [List.length_cons, List.length_nil]; omega, by walk_at "k"⟩
theorem goes_none {t : Tm} : decide (goV t.goes = .non) = t.goes.isNone := by cases t.goes <;> rfl
theorem how_run (t : Tm) (h : t.deep < 290) (few : t.Few) (hc : t.fr = []) {x : Txt} (hx : x = if t.isNum then sNumber else if t.isMk then sMaker else if t.goes.isNone then [115, 116, 117, 99, 107] else [103, 111, 101, 115]) : run dat.T 1000 dat.defs (n + 298) i_how [t.obj] m = .ok (.str x) m := by
  have c1 := closed_run (W := 1000) few hc (n := n + 295) (m := m) (by omega)
  have g1 := going_run t (n := n + 295) (m := m) (by omega)
  refine run_val t_how rfl (by walk_at "S") ?_ rfl
  walk_at "w"
  cases h1 : t.isNum with
  | true =>
    refine br_t rfl ?_
    walk_at "w"
    exact ⟨by rw [hx, h1]; rfl, by walk_at "k"⟩
  | false =>
    refine br_f rfl ?_
    walk_at "w"
    cases h2 : t.isMk with
    | true =>
      refine br_t rfl ?_
      walk_at "w"
      exact ⟨by rw [hx, h1, h2]; rfl, by walk_at "k"⟩
    | false =>
      refine br_f rfl ?_
      walk_at "w"
      rw [goes_none]
      cases h3 : t.goes.isNone with
      | true =>
        refine br_t rfl ?_
        walk_at "w"
        exact ⟨by rw [hx, h1, h2, h3]; rfl, by walk_at "k"⟩
      | false =>
        refine br_f rfl ?_
        walk_at "w"
        exact ⟨by rw [hx, h1, h2, h3]; rfl, by walk_at "k"⟩
theorem spot_run (t : Tm) (h : t.deep < 290) (few : t.Few) (hc : t.fr = []) : run dat.T 1000 dat.defs (n + 298) i_spot [t.obj] m = .ok (goV t.goes) m := by
  have c1 := closed_run (W := 1000) few hc (n := n + 295) (m := m) (by omega)
  have g1 := going_run t (n := n + 295) (m := m) (by omega)
  refine run_val t_spot rfl (by walk_at "S") ?_ (go_low _ _)
  walk_at "w"
  exact ⟨rfl, by walk_at "k"⟩
end
end LW
end Part_N1

section Part_B16
set_option Elab.async false
set_option linter.all false
set_option maxRecDepth 100000
set_option maxHeartbeats 4000000
/-! B16: things that wait about a part. -/
namespace LW
open U
open PySem (Operator CmpOp)
local macro_rules | `(tactic| walk_at "g") => `(tactic| first | (with_reducible assumption) | (with_reducible exact getE_new) | ((with_reducible apply getE_old); walk_at "g") | ((with_reducible apply Keep.get); (with_reducible assumption); (with_reducible assumption)))
local macro_rules | `(tactic| walk_at "k") => `(tactic| first | (with_reducible exact Keep.refl) | ((with_reducible apply Keep.push); walk_at "k") | ((with_reducible apply Keep.set); walk_at "k"; ((try simp only [List.length_append, List.length_set, List.length_cons, List.length_nil]); omega)) | (with_reducible assumption))
local macro_rules | `(tactic| walk_at "d") => `(tactic| first | (with_reducible assumption) | omega | decide)
local macro_rules | `(tactic| walk_at "n") => `(tactic| first | (with_reducible assumption) | omega | exact Nat.le_of_ble_eq_true rfl | (simp only [List.length_append, List.length_cons, List.length_nil, List.length_map, List.length_reverse]; omega))
local macro_rules | `(tactic| walk_at "D") => `(tactic| first | (with_reducible assumption) | ((with_reducible apply Lf.st); (with_reducible assumption)) | ((with_reducible apply Sd.more); walk_at "D"))
local macro_rules | `(tactic| walk_at "h") => `(tactic| first | (with_reducible assumption) | omega | exact Sd.ne1 (by walk_at "D") | exact Sd.ne2 (by walk_at "D"))
local macro_rules | `(tactic| walk_at "L") => `(tactic| first | (with_reducible assumption) | ((with_reducible apply Lf.refl); walk_at "D") | ((with_reducible apply Lf.push); walk_at "L") | ((with_reducible apply Lf.thn); (with_reducible assumption); walk_at "L"))
local macro_rules | `(tactic| walk_at "a") => `(tactic| first | exact at0 | exact at1 | exact at2 | exact at3 | (with_reducible assumption) | exact (atn (by with_reducible assumption)) | exact rfl)
local macro_rules | `(tactic| walk_at "S") => `(tactic| first | (focus (simp only [Tg.put, setAll, envOf, List.map_cons, List.map_nil, List.length_cons, List.length_nil, Nat.reduceAdd, Nat.reduceSub, List.reduceReplicate, List.replicate_zero, List.cons_append, List.nil_append, List.append_nil, List.set_cons_succ, List.set_cons_zero, List.set_nil]; try exact rfl)) | exact rfl)
local macro_rules | `(tactic| walk_at "y") => `(tactic| first | fail)
local macro_rules | `(tactic| walk_at "c") => `(tactic| first | walk_at "y" | ((with_reducible refine' We.of ?h0 ?_); (case h0 => with_reducible assumption)) | ((with_reducible refine' We.exn ?h0 ?_); (case h0 => with_reducible assumption)) | with_reducible refine wi_of ?_ | with_reducible refine wi_enum ?_ | with_reducible refine wi_rng ?_)
local macro_rules | `(tactic| walk_at "o") => `(tactic| first | with_reducible refine op_cmp_eq ?_ | with_reducible refine op_cmp_lt ?_ | with_reducible refine op_str_eq ?_ | ((with_reducible refine' op_idx ?h0 ?_); (case h0 => walk_at "a")) | with_reducible refine op_add ?_ | with_reducible refine op_sub ?_ | ((with_reducible refine' op_idxl ?h0 ?h1 ?_); (case h0 => walk_at "g"); (case h1 => walk_at "a")) | with_reducible refine op_cmp_ne ?_ | with_reducible refine op_cmp_le ?_ | with_reducible refine op_cmp_gt ?_ | with_reducible refine op_cmp_ge ?_ | with_reducible refine op_str_ne ?_ | with_reducible refine op_is_non ?_ | with_reducible refine op_isnot_non ?_ | ((with_reducible refine' op_mod ?h0 ?_); (case h0 => walk_at "d")) | ((with_reducible refine' op_fdiv ?h0 ?_); (case h0 => walk_at "d")) | ((with_reducible refine' op_mul ?h0 ?_); (case h0 => walk_at "d")) | ((with_reducible refine' op_fdiv ?h0 ?_); (case h0 => walk_at "d")) | ((with_reducible refine' op_mul ?h0 ?_); (case h0 => walk_at "d")) | with_reducible refine op_neg ?_ | with_reducible refine op_lent ?_ | ((with_reducible refine' op_lenl ?h0 ?_); (case h0 => walk_at "g")) | ((with_reducible refine' op_tupl ?h0 ?_); (case h0 => walk_at "g")) | with_reducible refine op_listt ?_ | ((with_reducible refine' op_listl ?h0 ?_); (case h0 => walk_at "g")) | with_reducible refine op_abs ?_ | with_reducible refine op_intb ?_ | with_reducible refine op_slct ?_ | ((with_reducible refine' op_slcl ?h0 ?_); (case h0 => walk_at "g")) | ((with_reducible refine' op_in ?h0 ?h1 ?_); (case h0 => walk_at "g"); (case h1 => (first | assumption | rfl))) | ((with_reducible refine' op_notin ?h0 ?h1 ?_); (case h0 => walk_at "g"); (case h1 => (first | assumption | rfl))) | ((with_reducible refine' op_append ?h0 ?h1 ?_); (case h0 => walk_at "g"); (case h1 => walk_at "n")) | ((with_reducible refine' op_extend ?h0 ?h1 ?h2 ?_); (case h0 => walk_at "g"); (case h1 => walk_at "g"); (case h2 => walk_at "n")) | ((with_reducible refine' op_ladd ?h0 ?h1 ?h2 ?_); (case h0 => walk_at "g"); (case h1 => walk_at "g"); (case h2 => walk_at "n")) | ((with_reducible refine' op_tadd ?h0 ?_); (case h0 => walk_at "n")) | ((with_reducible refine' op_sadd ?h0 ?_); (case h0 => walk_at "n")) | ((with_reducible refine' op_lens ?h0 ?_); (case h0 => walk_at "n")) | ((with_reducible refine' op_slcs ?h0 ?_); (case h0 => walk_at "n")) | walk_at "y" | ((with_reducible refine' of_fld ?h0 ?_); (case h0 => exact rfl)) | ((with_reducible refine' of_cmp ?h0 ?_); (case h0 => exact rfl)) | ((with_reducible refine' of_sub ?h0 ?_); (case h0 => exact rfl)) | ((with_reducible refine' of_blt ?h0 ?_); (case h0 => exact rfl)) | ((with_reducible refine' of_rev ?h0 ?_); (case h0 => exact rfl)) | ((with_reducible refine' of_din ?h0 ?_); (case h0 => exact rfl)) | ((with_reducible refine' of_dix ?h0 ?_); (case h0 => exact rfl)))
local macro_rules | `(tactic| walk_at "e") => `(tactic| first | ((with_reducible refine' w_var ?h0 ?_); (case h0 => exact rfl)) | with_reducible refine w_int ?_ | with_reducible refine w_str ?_ | with_reducible refine w_cmp ?_ | with_reducible refine w_idx ?_ | with_reducible refine w_call0 ?_ | with_reducible refine w_bl ?_ | with_reducible refine w_non ?_ | with_reducible refine w_and ?_ | with_reducible refine w_or ?_ | with_reducible refine w_not ?_ | with_reducible refine w_bin ?_ | with_reducible refine w_tup ?_ | with_reducible refine w_lst ?_ | with_reducible refine w_blt ?_ | with_reducible refine w_bm ?_ | with_reducible refine w_meth0 ?_ | with_reducible refine w_fld ?_ | with_reducible refine w_isi ?_ | with_reducible refine w_ife ?_ | with_reducible refine w_slc10 ?_ | with_reducible refine w_slc01 ?_ | with_reducible refine w_slc11 ?_ | with_reducible refine w_slc00 ?_ | with_reducible refine w_rev ?_ | with_reducible refine w_new0 ?_ | with_reducible refine w_neg ?_ | with_reducible refine w_chain ?_ | with_reducible refine w_lc0 ?_ | with_reducible refine w_lc1 ?_ | with_reducible refine w_call ?_ | with_reducible refine w_new ?_ | with_reducible refine w_meth ?_ | walk_at "y" | with_reducible refine w_con ?_ | with_reducible refine w_din ?_ | with_reducible refine w_dix ?_ | ((with_reducible refine' w_xfld ?h0 ?h1 ?h2 ?_); (case h0 => exact rfl); (case h1 => exact rfl); (case h2 => exact rfl)) | ((with_reducible refine' w_xisi ?h0 ?_); (case h0 => exact rfl)) | with_reducible refine w_fstr ?_)
local macro_rules | `(tactic| walk_at "t") => `(tactic| first | with_reducible refine wb_cons ?_ | with_reducible refine ws_asg ?_ | with_reducible refine ws_ret ?_ | with_reducible refine ws_ifs ?_ | with_reducible refine wb_nil ?_ | with_reducible refine ws_expr ?_ | with_reducible refine ws_for ?_ | with_reducible refine ws_unp ?_ | with_reducible refine ws_setf ?_ | with_reducible refine ws_seti ?_ | ((with_reducible refine' ws_aug ?h0 ?_); (case h0 => exact rfl)) | with_reducible refine ws_try ?_ | with_reducible refine ws_whl ?_ | with_reducible refine ws_retn ?_ | with_reducible refine ws_pass ?_ | with_reducible refine ws_brk ?_ | with_reducible refine ws_cont ?_)
local macro_rules | `(tactic| walk_at "r") => `(tactic| first | with_reducible refine br_tt ?_ | with_reducible refine br_ff ?_ | with_reducible refine br_not ?_ | ((with_reducible refine' br_dt ?h0 ?_); (case h0 => walk_at "d")) | ((with_reducible refine' br_df ?h0 ?_); (case h0 => walk_at "d")) | ((with_reducible refine' br_t ?h0 ?_); (case h0 => (first | assumption | rfl))) | ((with_reducible refine' br_f ?h0 ?_); (case h0 => (first | assumption | rfl))))
local macro_rules | `(tactic| walk_at "b") => `(tactic| first | with_reducible refine tr_bl ?_ | with_reducible refine tr_tup ?_ | with_reducible refine tr_int ?_ | with_reducible refine tr_non ?_ | with_reducible refine isI ?_ | ((with_reducible refine' wk_ref ?h0 ?_); (case h0 => walk_at "g")) | ((with_reducible refine' en_ref ?h0 ?_); (case h0 => walk_at "g")) | with_reducible refine wt_tup ?_ | with_reducible refine wt_str ?_ | with_reducible refine And.intro (le_line rfl) ?_ | with_reducible refine And.intro (recv_a (by walk_at "g")) ?_ | with_reducible refine And.intro (recv_e (by walk_at "g")) ?_ | with_reducible refine And.intro recv_j ?_ | ((with_reducible refine' cl_yes ?h0 ?h1 ?_); (case h0 => exact rfl); (case h1 => exact rfl)) | ((with_reducible refine' cl_no ?h0 ?h1 ?_); (case h0 => exact rfl); (case h1 => exact rfl)) | ((with_reducible refine' rgi ?h0 ?_); (case h0 => omega)) | ((with_reducible refine' clear_of ?h0 ?_); (case h0 => exact rfl)) | ((with_reducible refine' se_of ?h0 ?_); (case h0 => walk_at "S")) | ((with_reducible refine' me_put ?h0 ?_); (case h0 => walk_at "S")) | with_reducible refine ft_cons ?_ | with_reducible refine ft_nil ?_ | walk_at "y" | ((with_reducible refine' me_of ?h0 ?_); (case h0 => exact rfl)))
local macro_rules | `(tactic| walk_at "1") => `(tactic| first | ((with_reducible show Ws _ _ _ _ _); walk_at "t") | ((with_reducible show We (evE _ _ _ _ _) _ _); walk_at "e") | with_reducible refine wl_cons ?_ | with_reducible refine wl_nil ?_ | ((with_reducible show Op _ _); walk_at "o") | ((with_reducible show Br _ _ _); walk_at "r") | ((with_reducible show We _ _ _); walk_at "c") | walk_at "b")
local macro_rules | `(tactic| walk_at "w") => `(tactic| repeat walk_at "1")
local macro_rules | `(tactic| walk_at "g") => `(tactic| ((with_reducible apply Lf.get); (with_reducible assumption); walk_at "g"; walk_at "h"; walk_at "h"))
local macro_rules | `(tactic| walk_at "y") => `(tactic| first | ((with_reducible refine' w_draw ?h0 ?h1 ?_); (case h0 => walk_at "D"); (case h1 => exact rfl)) | ((with_reducible refine' w_drawn ?h0 ?h1 ?_); (case h0 => walk_at "D"); (case h1 => (simp only [List.length_map]; omega))) | ((with_reducible refine' w_number ?h0 ?_); (case h0 => walk_at "D")) | ((with_reducible refine' w_name ?h0 ?h1 ?h2 ?h3 ?h4 ?h5 ?_); (case h0 => walk_at "D"); (case h1 => walk_at "g"); (case h2 => walk_at "h"); (case h3 => walk_at "h"); (case h4 => assumption); (case h5 => omega)) | ((with_reducible refine' w_leaf ?h0 ?h1 ?h2 ?h3 ?h4 ?h5 ?_); (case h0 => walk_at "D"); (case h1 => walk_at "g"); (case h2 => walk_at "h"); (case h3 => walk_at "h"); (case h4 => assumption); (case h5 => omega)))
local macro_rules | `(tactic| walk_at "y") => `(tactic| first | ((with_reducible refine' w_any0 ?h0 ?h1 ?_); (case h0 => (first | with_reducible assumption | exact rfl)); (case h1 => walk_at "D")) | ((with_reducible refine' w_any1 ?h0 ?h1 ?h2 ?_); (case h0 => (first | with_reducible assumption | exact rfl)); (case h1 => walk_at "D"); (case h2 => assumption)) | ((with_reducible refine' w_name0 ?h0 ?_); (case h0 => walk_at "D")))
inductive Fr where
  | giv (b : Tm) | smL (s : Txt) (b : Tm) | smR (s : Txt) (i : Int) | cho (b c : Tm)
def Fr.v : Fr → MV
  | .giv b => .tup [.tup [.str sGive, .non, b.tell], .int 1]
  | .smL s b => .tup [.tup [.str sSum, .str s, .non, b.tell], .int 2]
  | .smR s i => .tup [.tup [.str sSum, .str s, .tup [.str sNumber, .int i], .non], .int 3]
  | .cho b c => .tup [.tup [.str sChoice, .non, b.tell, c.tell], .int 1]
def Fr.plug : Fr → Tm → Tm
  | .giv b, t => .giv t b
  | .smL s b, t => .sm s t b
  | .smR s i, t => .sm s (.num i) t
  | .cho b c, t => .cho t b c
def Fr.k : Fr → Nat
  | .smR _ _ => 1
  | _ => 0
def Fr.Cl (d : Nat) : Fr → Prop
  | .giv b => b.Sc [] ∧ b.deep ≤ d
  | .smL s b => SignOk s ∧ (b.Sc [] ∧ b.deep ≤ d)
  | .smR s i => SignOk s ∧ i.natAbs < 10000000000000000000000000000000000000000
  | .cho b c => (b.Sc [] ∧ b.deep ≤ d) ∧ (c.Sc [] ∧ c.deep ≤ d)
def plugs (fs : List Fr) (t : Tm) : Tm := fs.foldl (fun t f => f.plug t) t
section
variable {W n s c N : Nat} {m : Mem} {Q : MV → Mem → Prop} {X : QX}
theorem low_fr (f : Fr) (k : Nat) : f.v.low k = true := by
  cases f <;> simp [Fr.v, MV.low, MV.lows, low_tell]
theorem low_frs : ∀ (fs : List Fr) (k : Nat), MV.lows k (fs.map Fr.v) = true
  | [], _ => rfl
  | f :: fs, k => by show (f.v.low k && MV.lows k (fs.map Fr.v)) = true; rw [low_fr, low_frs]; rfl
theorem frames_ok {many d : Nat} (hm : many ≤ 60) (hd : d ≤ 6) (hs : Sd m s c) : ∃ (fs : List Fr) (m' : Mem), run dat.T W dat.defs (n + 15) i_law_frames [.ref s, .int (many : Nat), .int (d : Nat)] m = .ok (.ref m.length) (m' ++ [.lst (fs.map Fr.v)]) ∧ (fs.length = many ∧ ∀ f ∈ fs, f.Cl d) ∧ Left m m' s c := by
  refine run_drl (g := fun fs : List Fr => fs.map Fr.v) (P := fun fs => fs.length = many ∧ ∀ f ∈ fs, f.Cl d) hs t_law_frames rfl (by walk_at "S") (fun fs k _ => low_frs fs k) ?_
  walk_at "w"
  have ⟨hs1, hc1⟩ := hs.ls
  refine fo_inv (fun j r mm => Lf m mm s c ∧ ∃ (fs : List Fr) (a b e f : Sl), r = [.val (.ref s), .val (.int many), .val (.int d), .val (.ref m.length), a, b, e, f] ∧ mm[m.length]? = some (.lst (fs.map Fr.v)) ∧ fs.length = j ∧ ∀ f ∈ fs, f.Cl d) (fun _ _ _ _ => rfl) ⟨by walk_at "L", [], _, _, _, _, rfl, getE_new, rfl, fun _ h => nomatch h⟩ ?_ ?_
  · rintro j x hx r mm ⟨l1, fs, a, b, e, f, rfl, gF, hl, hf⟩
    obtain ⟨_, hj⟩ := rng_at hx
    walk_at "w"
    intro way m1 hw l2
    walk_at "w"
    intro k m2 hk l3
    obtain ⟨w, hw2, hwm⟩ := at_map (f := MV.str) (l := [[43], [45], [60]]) (k := k) (by show k < 3; omega)
    have ow : SignOk w := by unfold SignOk; simpa using hwm
    refine' op_idxl ?hg ?hx ?_
    case hg => walk_at "g"
    case hx => exact hw2
    walk_at "w"
    have hdd : (decide (0 ≤ (d : Int)) && decide ((d : Int) ≤ 10)) = true := by simp; omega
    have gM : m.length < mm.length := (List.getElem?_eq_some_iff.mp gF).1
    have len1 := l2.len
    have len2 := l3.len
    rw [List.length_append] at len2
    refine br_dec (fun h0 => ?_) (fun h0 => ?_)
    · walk_at "w"
      intro t1 m3 ht1 hd1 l4
      have len3 := l4.len
      rw [List.length_append] at len3
      walk_at "w"
      refine ⟨Lf.set hs (by walk_at "L") (Nat.le_refl _), fs ++ [.giv t1], _, _, _, _, rfl, ?_, by simp [hl], fun f hfm => ?_⟩
      · rw [List.getElem?_set_self (by omega), List.map_append]; rfl
      · rcases List.mem_append.mp hfm with h | h
        · exact hf f h
        · rw [List.mem_singleton.mp h]; exact ⟨ht1, by omega⟩
    walk_at "w"
    refine br_dec (fun h1 => ?_) (fun h1 => ?_)
    · walk_at "w"
      intro t1 m3 ht1 hd1 l4
      have len3 := l4.len
      rw [List.length_append] at len3
      walk_at "w"
      refine ⟨Lf.set hs (by walk_at "L") (Nat.le_refl _), fs ++ [.smL w t1], _, _, _, _, rfl, ?_, by simp [hl], fun f hfm => ?_⟩
      · rw [List.getElem?_set_self (by omega), List.map_append]; rfl
      · rcases List.mem_append.mp hfm with h | h
        · exact hf f h
        · rw [List.mem_singleton.mp h]; exact ⟨ow, ht1, by omega⟩
    walk_at "w"
    refine br_dec (fun h2 => ?_) (fun h2 => ?_)
    · walk_at "w"
      intro i m3 hi l4
      have len3 := l4.len
      walk_at "w"
      refine ⟨Lf.set hs (by walk_at "L") (Nat.le_refl _), fs ++ [.smR w i], _, _, _, _, rfl, ?_, by simp [hl], fun f hfm => ?_⟩
      · rw [List.getElem?_set_self (by omega), List.map_append]; rfl
      · rcases List.mem_append.mp hfm with h | h
        · exact hf f h
        · rw [List.mem_singleton.mp h]; exact ⟨ow, hi⟩
    walk_at "w"
    intro t1 m3 ht1 hd1 l4
    have len3 := l4.len
    rw [List.length_append] at len3
    walk_at "w"
    intro t2 m4 ht2 hd2 l5
    have len4 := l5.len
    rw [List.length_append] at len4
    walk_at "w"
    refine ⟨Lf.set hs (by walk_at "L") (Nat.le_refl _), fs ++ [.cho t1 t2], _, _, _, _, rfl, ?_, by simp [hl], fun f hfm => ?_⟩
    · rw [List.getElem?_set_self (by omega), List.map_append]; rfl
    · rcases List.mem_append.mp hfm with h | h
      · exact hf f h
      · rw [List.mem_singleton.mp h]; exact ⟨⟨ht1, by omega⟩, ht2, by omega⟩
  · rintro r mm ⟨l1, fs, a, b, e, f, rfl, gF, hl, hf⟩
    rw [rng_many] at hl
    walk_at "w"
    exact ⟨fs, _, rfl, ⟨by omega, hf⟩, Nat.le_refl _, gF, l1⟩
theorem w_frames {a d : Int} (ha : 0 ≤ a ∧ a ≤ 60) (hd : 0 ≤ d ∧ d ≤ 6) (hs : Sd m s c) (k : ∀ (fs : List Fr) (m' : Mem) (F : Nat), (fs.length : Int) = a → (∀ f ∈ fs, f.Cl d.toNat) → m'[F]? = some (.lst (fs.map Fr.v)) → (F ≠ s ∧ F ≠ c) → Lf m m' s c → Q (.ref F) m') : We (run dat.T W dat.defs (n + 15) i_law_frames [.ref s, .int a, .int d] m) Q X := by
  obtain ⟨a, rfl⟩ : ∃ b : Nat, a = (b : Int) := ⟨a.toNat, by omega⟩
  obtain ⟨d, rfl⟩ : ∃ b : Nat, d = (b : Int) := ⟨d.toNat, by omega⟩
  obtain ⟨fs, m', e, ⟨h1, h2⟩, l⟩ := frames_ok (W := W) (n := n) (many := a) (d := d) (by omega) (by omega) hs
  have ⟨hs1, hc1⟩ := hs.ls
  exact .of e (k fs _ m.length (by omega) h2 (by rw [← l.len]; exact getE_new) ⟨by omega, by omega⟩ (((Lf.refl hs).draw l).push _))
theorem around_run (fs : List Fr) (t : Tm) {F : Nat} (g : m[F]? = some (.lst (fs.map Fr.v))) : run dat.T W dat.defs (n + 1) i_law_around [.ref F, t.tell] m = .ok (plugs fs t).tell m := by
  refine run_val t_law_around rfl (by walk_at "S") ?_ (low_tell _)
  walk_at "w"
  refine fo_inv (fun j r mm => mm = m ∧ ∃ a b, r = [.val (.ref F), .val t.tell, .val (plugs (fs.take j) t).tell, a, b]) (fun k r mm h => by rw [h.1]; exact stl g) ⟨rfl, _, _, rfl⟩ ?_ ?_
  · rintro j x hx r mm ⟨rfl, a, b, rfl⟩
    rw [List.getElem?_map, Option.map_eq_some_iff] at hx
    obtain ⟨f, hf, rfl⟩ := hx
    have nxt : plugs (fs.take (j + 1)) t = f.plug (plugs (fs.take j) t) := by
      unfold plugs
      rw [List.take_add_one, hf, List.foldl_append]
      rfl
    obtain ⟨u, hu⟩ : ∃ u, u = plugs (fs.take j) t := ⟨_, rfl⟩
    rw [nxt, ← hu]
    cases f with
    | giv b => dsimp only [Fr.v]; walk_at "w"; exact ⟨rfl, _, _, rfl⟩
    | smL s b => dsimp only [Fr.v]; walk_at "w"; exact ⟨rfl, _, _, rfl⟩
    | smR s i => dsimp only [Fr.v]; walk_at "w"; exact ⟨rfl, _, _, rfl⟩
    | cho b c => dsimp only [Fr.v]; walk_at "w"; exact ⟨rfl, _, _, rfl⟩
  · rintro r mm ⟨rfl, a, b, rfl⟩
    rw [List.length_map, List.take_length]
    walk_at "w"
    exact ⟨rfl, by walk_at "k"⟩
theorem place_run (fs : List Fr) {F : Nat} (few : fs.length ≤ 1000) (g : m[F]? = some (.lst (fs.map Fr.v))) : run dat.T W dat.defs (n + 1) i_law_place [.ref F] m = .ok (plV (fs.map Fr.k).reverse) m := by
  refine run_val t_law_place rfl (by walk_at "S") ?_ (lows_stV _)
  walk_at "w"
  refine fo_inv (fun j r mm => mm = m ∧ ∃ a b, r = [.val (.ref F), .val (plV ((fs.take j).map Fr.k).reverse), a, b]) (fun k r mm h => by rw [h.1]; exact stl g) ⟨rfl, _, _, rfl⟩ ?_ ?_
  · rintro j x hx r mm ⟨rfl, a, b, rfl⟩
    rw [List.getElem?_map, Option.map_eq_some_iff] at hx
    obtain ⟨f, hf, rfl⟩ := hx
    have nxt : ((fs.take (j + 1)).map Fr.k).reverse = f.k :: ((fs.take j).map Fr.k).reverse := by
      rw [List.take_add_one, hf, List.map_append, List.reverse_append]
      rfl
    have len : ((fs.take j).map Fr.k).reverse.length ≤ 1000 := by
      rw [List.length_reverse, List.length_map, List.length_take]
      omega
    rw [nxt]
    obtain ⟨u, hu⟩ : ∃ u, u = ((fs.take j).map Fr.k).reverse := ⟨_, rfl⟩
    rw [← hu] at len ⊢
    have app : ∀ {k : Nat} {Q : MV → Mem → Prop}, Q (plV (k :: u)) mm → Op (binop .Add (.tup [.int (k : Nat)]) (plV u) mm) Q := fun {k Q} q => op_tadd (x := [.int (k : Nat)]) (y := stV u) (by simp only [stV, List.length_map, List.length_cons, List.length_nil]; omega) q
    cases f with
    | giv b =>
      dsimp only [Fr.v]
      walk_at "w"
      refine app (k := 0) ?_
      walk_at "w"
      exact ⟨rfl, _, _, rfl⟩
    | smL s b =>
      dsimp only [Fr.v]
      walk_at "w"
      refine app (k := 0) ?_
      walk_at "w"
      exact ⟨rfl, _, _, rfl⟩
    | smR s i =>
      dsimp only [Fr.v]
      walk_at "w"
      refine app (k := 1) ?_
      walk_at "w"
      exact ⟨rfl, _, _, rfl⟩
    | cho b c =>
      dsimp only [Fr.v]
      walk_at "w"
      refine app (k := 0) ?_
      walk_at "w"
      exact ⟨rfl, _, _, rfl⟩
  · rintro r mm ⟨rfl, a, b, rfl⟩
    rw [List.length_map, List.take_length]
    walk_at "w"
    exact ⟨rfl, by walk_at "k"⟩
end
end LW
end Part_B16

section Part_B17
set_option Elab.async false
set_option linter.all false
set_option maxRecDepth 100000
set_option maxHeartbeats 4000000
/-! B17: the law's own put; what goes on at itself, what is stuck. -/
namespace LW
open U
open PySem (Operator CmpOp)
local macro_rules | `(tactic| walk_at "g") => `(tactic| first | (with_reducible assumption) | (with_reducible exact getE_new) | ((with_reducible apply getE_old); walk_at "g") | ((with_reducible apply Keep.get); (with_reducible assumption); (with_reducible assumption)))
local macro_rules | `(tactic| walk_at "k") => `(tactic| first | (with_reducible exact Keep.refl) | ((with_reducible apply Keep.push); walk_at "k") | ((with_reducible apply Keep.set); walk_at "k"; ((try simp only [List.length_append, List.length_set, List.length_cons, List.length_nil]); omega)) | (with_reducible assumption))
local macro_rules | `(tactic| walk_at "d") => `(tactic| first | (with_reducible assumption) | omega | decide)
local macro_rules | `(tactic| walk_at "n") => `(tactic| first | (with_reducible assumption) | omega | exact Nat.le_of_ble_eq_true rfl | (simp only [List.length_append, List.length_cons, List.length_nil, List.length_map, List.length_reverse]; omega))
local macro_rules | `(tactic| walk_at "D") => `(tactic| first | (with_reducible assumption) | ((with_reducible apply Lf.st); (with_reducible assumption)) | ((with_reducible apply Sd.more); walk_at "D"))
local macro_rules | `(tactic| walk_at "h") => `(tactic| first | (with_reducible assumption) | omega | exact Sd.ne1 (by walk_at "D") | exact Sd.ne2 (by walk_at "D"))
local macro_rules | `(tactic| walk_at "L") => `(tactic| first | (with_reducible assumption) | ((with_reducible apply Lf.refl); walk_at "D") | ((with_reducible apply Lf.push); walk_at "L") | ((with_reducible apply Lf.thn); (with_reducible assumption); walk_at "L"))
local macro_rules | `(tactic| walk_at "a") => `(tactic| first | exact at0 | exact at1 | exact at2 | exact at3 | (with_reducible assumption) | exact (atn (by with_reducible assumption)) | exact rfl)
local macro_rules | `(tactic| walk_at "S") => `(tactic| first | (focus (simp only [Tg.put, setAll, envOf, List.map_cons, List.map_nil, List.length_cons, List.length_nil, Nat.reduceAdd, Nat.reduceSub, List.reduceReplicate, List.replicate_zero, List.cons_append, List.nil_append, List.append_nil, List.set_cons_succ, List.set_cons_zero, List.set_nil]; try exact rfl)) | exact rfl)
local macro_rules | `(tactic| walk_at "y") => `(tactic| first | fail)
local macro_rules | `(tactic| walk_at "c") => `(tactic| first | walk_at "y" | ((with_reducible refine' We.of ?h0 ?_); (case h0 => with_reducible assumption)) | ((with_reducible refine' We.exn ?h0 ?_); (case h0 => with_reducible assumption)) | with_reducible refine wi_of ?_ | with_reducible refine wi_enum ?_ | with_reducible refine wi_rng ?_)
local macro_rules | `(tactic| walk_at "o") => `(tactic| first | with_reducible refine op_cmp_eq ?_ | with_reducible refine op_cmp_lt ?_ | with_reducible refine op_str_eq ?_ | ((with_reducible refine' op_idx ?h0 ?_); (case h0 => walk_at "a")) | with_reducible refine op_add ?_ | with_reducible refine op_sub ?_ | ((with_reducible refine' op_idxl ?h0 ?h1 ?_); (case h0 => walk_at "g"); (case h1 => walk_at "a")) | with_reducible refine op_cmp_ne ?_ | with_reducible refine op_cmp_le ?_ | with_reducible refine op_cmp_gt ?_ | with_reducible refine op_cmp_ge ?_ | with_reducible refine op_str_ne ?_ | with_reducible refine op_is_non ?_ | with_reducible refine op_isnot_non ?_ | ((with_reducible refine' op_mod ?h0 ?_); (case h0 => walk_at "d")) | ((with_reducible refine' op_fdiv ?h0 ?_); (case h0 => walk_at "d")) | ((with_reducible refine' op_mul ?h0 ?_); (case h0 => walk_at "d")) | ((with_reducible refine' op_fdiv ?h0 ?_); (case h0 => walk_at "d")) | ((with_reducible refine' op_mul ?h0 ?_); (case h0 => walk_at "d")) | with_reducible refine op_neg ?_ | with_reducible refine op_lent ?_ | ((with_reducible refine' op_lenl ?h0 ?_); (case h0 => walk_at "g")) | ((with_reducible refine' op_tupl ?h0 ?_); (case h0 => walk_at "g")) | with_reducible refine op_listt ?_ | ((with_reducible refine' op_listl ?h0 ?_); (case h0 => walk_at "g")) | with_reducible refine op_abs ?_ | with_reducible refine op_intb ?_ | with_reducible refine op_slct ?_ | ((with_reducible refine' op_slcl ?h0 ?_); (case h0 => walk_at "g")) | ((with_reducible refine' op_in ?h0 ?h1 ?_); (case h0 => walk_at "g"); (case h1 => (first | assumption | rfl))) | ((with_reducible refine' op_notin ?h0 ?h1 ?_); (case h0 => walk_at "g"); (case h1 => (first | assumption | rfl))) | ((with_reducible refine' op_append ?h0 ?h1 ?_); (case h0 => walk_at "g"); (case h1 => walk_at "n")) | ((with_reducible refine' op_extend ?h0 ?h1 ?h2 ?_); (case h0 => walk_at "g"); (case h1 => walk_at "g"); (case h2 => walk_at "n")) | ((with_reducible refine' op_ladd ?h0 ?h1 ?h2 ?_); (case h0 => walk_at "g"); (case h1 => walk_at "g"); (case h2 => walk_at "n")) | ((with_reducible refine' op_tadd ?h0 ?_); (case h0 => walk_at "n")) | ((with_reducible refine' op_sadd ?h0 ?_); (case h0 => walk_at "n")) | ((with_reducible refine' op_lens ?h0 ?_); (case h0 => walk_at "n")) | ((with_reducible refine' op_slcs ?h0 ?_); (case h0 => walk_at "n")) | walk_at "y" | ((with_reducible refine' of_fld ?h0 ?_); (case h0 => exact rfl)) | ((with_reducible refine' of_cmp ?h0 ?_); (case h0 => exact rfl)) | ((with_reducible refine' of_sub ?h0 ?_); (case h0 => exact rfl)) | ((with_reducible refine' of_blt ?h0 ?_); (case h0 => exact rfl)) | ((with_reducible refine' of_rev ?h0 ?_); (case h0 => exact rfl)) | ((with_reducible refine' of_din ?h0 ?_); (case h0 => exact rfl)) | ((with_reducible refine' of_dix ?h0 ?_); (case h0 => exact rfl)))
local macro_rules | `(tactic| walk_at "e") => `(tactic| first | ((with_reducible refine' w_var ?h0 ?_); (case h0 => exact rfl)) | with_reducible refine w_int ?_ | with_reducible refine w_str ?_ | with_reducible refine w_cmp ?_ | with_reducible refine w_idx ?_ | with_reducible refine w_call0 ?_ | with_reducible refine w_bl ?_ | with_reducible refine w_non ?_ | with_reducible refine w_and ?_ | with_reducible refine w_or ?_ | with_reducible refine w_not ?_ | with_reducible refine w_bin ?_ | with_reducible refine w_tup ?_ | with_reducible refine w_lst ?_ | with_reducible refine w_blt ?_ | with_reducible refine w_bm ?_ | with_reducible refine w_meth0 ?_ | with_reducible refine w_fld ?_ | with_reducible refine w_isi ?_ | with_reducible refine w_ife ?_ | with_reducible refine w_slc10 ?_ | with_reducible refine w_slc01 ?_ | with_reducible refine w_slc11 ?_ | with_reducible refine w_slc00 ?_ | with_reducible refine w_rev ?_ | with_reducible refine w_new0 ?_ | with_reducible refine w_neg ?_ | with_reducible refine w_chain ?_ | with_reducible refine w_lc0 ?_ | with_reducible refine w_lc1 ?_ | with_reducible refine w_call ?_ | with_reducible refine w_new ?_ | with_reducible refine w_meth ?_ | walk_at "y" | with_reducible refine w_con ?_ | with_reducible refine w_din ?_ | with_reducible refine w_dix ?_ | ((with_reducible refine' w_xfld ?h0 ?h1 ?h2 ?_); (case h0 => exact rfl); (case h1 => exact rfl); (case h2 => exact rfl)) | ((with_reducible refine' w_xisi ?h0 ?_); (case h0 => exact rfl)) | with_reducible refine w_fstr ?_)
local macro_rules | `(tactic| walk_at "t") => `(tactic| first | with_reducible refine wb_cons ?_ | with_reducible refine ws_asg ?_ | with_reducible refine ws_ret ?_ | with_reducible refine ws_ifs ?_ | with_reducible refine wb_nil ?_ | with_reducible refine ws_expr ?_ | with_reducible refine ws_for ?_ | with_reducible refine ws_unp ?_ | with_reducible refine ws_setf ?_ | with_reducible refine ws_seti ?_ | ((with_reducible refine' ws_aug ?h0 ?_); (case h0 => exact rfl)) | with_reducible refine ws_try ?_ | with_reducible refine ws_whl ?_ | with_reducible refine ws_retn ?_ | with_reducible refine ws_pass ?_ | with_reducible refine ws_brk ?_ | with_reducible refine ws_cont ?_)
local macro_rules | `(tactic| walk_at "r") => `(tactic| first | with_reducible refine br_tt ?_ | with_reducible refine br_ff ?_ | with_reducible refine br_not ?_ | ((with_reducible refine' br_dt ?h0 ?_); (case h0 => walk_at "d")) | ((with_reducible refine' br_df ?h0 ?_); (case h0 => walk_at "d")) | ((with_reducible refine' br_t ?h0 ?_); (case h0 => (first | assumption | rfl))) | ((with_reducible refine' br_f ?h0 ?_); (case h0 => (first | assumption | rfl))))
local macro_rules | `(tactic| walk_at "b") => `(tactic| first | with_reducible refine tr_bl ?_ | with_reducible refine tr_tup ?_ | with_reducible refine tr_int ?_ | with_reducible refine tr_non ?_ | with_reducible refine isI ?_ | ((with_reducible refine' wk_ref ?h0 ?_); (case h0 => walk_at "g")) | ((with_reducible refine' en_ref ?h0 ?_); (case h0 => walk_at "g")) | with_reducible refine wt_tup ?_ | with_reducible refine wt_str ?_ | with_reducible refine And.intro (le_line rfl) ?_ | with_reducible refine And.intro (recv_a (by walk_at "g")) ?_ | with_reducible refine And.intro (recv_e (by walk_at "g")) ?_ | with_reducible refine And.intro recv_j ?_ | ((with_reducible refine' cl_yes ?h0 ?h1 ?_); (case h0 => exact rfl); (case h1 => exact rfl)) | ((with_reducible refine' cl_no ?h0 ?h1 ?_); (case h0 => exact rfl); (case h1 => exact rfl)) | ((with_reducible refine' rgi ?h0 ?_); (case h0 => omega)) | ((with_reducible refine' clear_of ?h0 ?_); (case h0 => exact rfl)) | ((with_reducible refine' se_of ?h0 ?_); (case h0 => walk_at "S")) | ((with_reducible refine' me_put ?h0 ?_); (case h0 => walk_at "S")) | with_reducible refine ft_cons ?_ | with_reducible refine ft_nil ?_ | walk_at "y" | ((with_reducible refine' me_of ?h0 ?_); (case h0 => exact rfl)))
local macro_rules | `(tactic| walk_at "1") => `(tactic| first | ((with_reducible show Ws _ _ _ _ _); walk_at "t") | ((with_reducible show We (evE _ _ _ _ _) _ _); walk_at "e") | with_reducible refine wl_cons ?_ | with_reducible refine wl_nil ?_ | ((with_reducible show Op _ _); walk_at "o") | ((with_reducible show Br _ _ _); walk_at "r") | ((with_reducible show We _ _ _); walk_at "c") | walk_at "b")
local macro_rules | `(tactic| walk_at "w") => `(tactic| repeat walk_at "1")
section
variable {W : Nat}
theorem law_put_run {x : Txt} {g : Tm} : ∀ (t : Tm) {n : Nat} {m : Mem}, t.deep < n → run dat.T W dat.defs (n + 1) i_law_put [t.tell, .str x, g.tell] m = .ok (t.pt x g).tell m := fun t => by
  induction t using Tm.ind with
  | h t ih =>
    intro n m hn
    obtain ⟨n, rfl⟩ : ∃ j, n = j + 1 := ⟨n - 1, by omega⟩
    have ih2 : ∀ p ∈ t.parts, ∀ {m : Mem}, run dat.T W dat.defs (n + 1) i_law_put [p.tell, .str x, g.tell] m = .ok (p.pt x g).tell m := fun p hp {m} => ih p hp (by have := deep_part hp; omega)
    refine run_val t_law_put rfl (by walk_at "S") ?_ (low_tell _)
    cases t with
    | opn => walk_at "w"; exact ⟨rfl, by walk_at "k"⟩
    | num i => dsimp only [Tm.tell]; walk_at "w"; exact ⟨rfl, by walk_at "k"⟩
    | name y =>
      dsimp only [Tm.tell]
      walk_at "w"
      refine br_dec (fun h => ?_) (fun h => ?_)
      · walk_at "w"; exact ⟨by subst h; simp [Tm.pt], by walk_at "k"⟩
      · walk_at "w"; exact ⟨by simp [Tm.pt, h, Tm.tell], by walk_at "k"⟩
    | mk y b =>
      dsimp only [Tm.tell]
      walk_at "w"
      refine br_dec (fun h => ?_) (fun h => ?_)
      · walk_at "w"; exact ⟨by subst h; simp [Tm.pt, Tm.tell], by walk_at "k"⟩
      · walk_at "w"
        refine lm_map (l := [b]) (f := Tm.tell) (g := fun p => (p.pt x g).tell) (fun _ => rfl) (Nat.le_of_ble_eq_true rfl) ?_ ?_
        · intro p hp acc
          walk_at "w"
          refine We.of (ih2 p hp) ?_
          exact ⟨rfl, rfl⟩
        walk_at "w"
        exact ⟨by rw [show (Tm.mk y b).pt x g = .mk y (b.pt x g) from by simp [Tm.pt, h]]; rfl, by walk_at "k"⟩
    | aga y b =>
      dsimp only [Tm.tell]
      walk_at "w"
      refine br_dec (fun h => ?_) (fun h => ?_)
      · walk_at "w"; exact ⟨by subst h; simp [Tm.pt, Tm.tell], by walk_at "k"⟩
      · walk_at "w"
        refine lm_map (l := [b]) (f := Tm.tell) (g := fun p => (p.pt x g).tell) (fun _ => rfl) (Nat.le_of_ble_eq_true rfl) ?_ ?_
        · intro p hp acc
          walk_at "w"
          refine We.of (ih2 p hp) ?_
          exact ⟨rfl, rfl⟩
        walk_at "w"
        exact ⟨by rw [show (Tm.aga y b).pt x g = .aga y (b.pt x g) from by simp [Tm.pt, h]]; rfl, by walk_at "k"⟩
    | giv a b =>
      dsimp only [Tm.tell]
      walk_at "w"
      refine lm_map (l := [a, b]) (f := Tm.tell) (g := fun p => (p.pt x g).tell) (fun _ => rfl) (Nat.le_of_ble_eq_true rfl) ?_ ?_
      · intro p hp acc
        walk_at "w"
        refine We.of (ih2 p hp) ?_
        exact ⟨rfl, rfl⟩
      walk_at "w"
      exact ⟨rfl, by walk_at "k"⟩
    | sm s a b =>
      dsimp only [Tm.tell]
      walk_at "w"
      refine lm_map (l := [a, b]) (f := Tm.tell) (g := fun p => (p.pt x g).tell) (fun _ => rfl) (Nat.le_of_ble_eq_true rfl) ?_ ?_
      · intro p hp acc
        walk_at "w"
        refine We.of (ih2 p hp) ?_
        exact ⟨rfl, rfl⟩
      walk_at "w"
      exact ⟨rfl, by walk_at "k"⟩
    | cho a b c =>
      dsimp only [Tm.tell]
      walk_at "w"
      refine lm_map (l := [a, b, c]) (f := Tm.tell) (g := fun p => (p.pt x g).tell) (fun _ => rfl) (Nat.le_of_ble_eq_true rfl) ?_ ?_
      · intro p hp acc
        walk_at "w"
        refine We.of (ih2 p hp) ?_
        exact ⟨rfl, rfl⟩
      walk_at "w"
      exact ⟨rfl, by walk_at "k"⟩
end
end LW
end Part_B17

section Part_B18
set_option Elab.async false
set_option linter.all false
set_option maxRecDepth 100000
set_option maxHeartbeats 4000000
/-! B18: what goes on at itself. -/
namespace LW
open U
open PySem (Operator CmpOp)
local macro_rules | `(tactic| walk_at "g") => `(tactic| first | (with_reducible assumption) | (with_reducible exact getE_new) | ((with_reducible apply getE_old); walk_at "g") | ((with_reducible apply Keep.get); (with_reducible assumption); (with_reducible assumption)))
local macro_rules | `(tactic| walk_at "k") => `(tactic| first | (with_reducible exact Keep.refl) | ((with_reducible apply Keep.push); walk_at "k") | ((with_reducible apply Keep.set); walk_at "k"; ((try simp only [List.length_append, List.length_set, List.length_cons, List.length_nil]); omega)) | (with_reducible assumption))
local macro_rules | `(tactic| walk_at "d") => `(tactic| first | (with_reducible assumption) | omega | decide)
local macro_rules | `(tactic| walk_at "n") => `(tactic| first | (with_reducible assumption) | omega | exact Nat.le_of_ble_eq_true rfl | (simp only [List.length_append, List.length_cons, List.length_nil, List.length_map, List.length_reverse]; omega))
local macro_rules | `(tactic| walk_at "D") => `(tactic| first | (with_reducible assumption) | ((with_reducible apply Lf.st); (with_reducible assumption)) | ((with_reducible apply Sd.more); walk_at "D"))
local macro_rules | `(tactic| walk_at "h") => `(tactic| first | (with_reducible assumption) | omega | exact Sd.ne1 (by walk_at "D") | exact Sd.ne2 (by walk_at "D"))
local macro_rules | `(tactic| walk_at "L") => `(tactic| first | (with_reducible assumption) | ((with_reducible apply Lf.refl); walk_at "D") | ((with_reducible apply Lf.push); walk_at "L") | ((with_reducible apply Lf.thn); (with_reducible assumption); walk_at "L"))
local macro_rules | `(tactic| walk_at "a") => `(tactic| first | exact at0 | exact at1 | exact at2 | exact at3 | (with_reducible assumption) | exact (atn (by with_reducible assumption)) | exact rfl)
local macro_rules | `(tactic| walk_at "S") => `(tactic| first | (focus (simp only [Tg.put, setAll, envOf, List.map_cons, List.map_nil, List.length_cons, List.length_nil, Nat.reduceAdd, Nat.reduceSub, List.reduceReplicate, List.replicate_zero, List.cons_append, List.nil_append, List.append_nil, List.set_cons_succ, List.set_cons_zero, List.set_nil]; try exact rfl)) | exact rfl)
local macro_rules | `(tactic| walk_at "y") => `(tactic| first | fail)
local macro_rules | `(tactic| walk_at "c") => `(tactic| first | walk_at "y" | ((with_reducible refine' We.of ?h0 ?_); (case h0 => with_reducible assumption)) | ((with_reducible refine' We.exn ?h0 ?_); (case h0 => with_reducible assumption)) | with_reducible refine wi_of ?_ | with_reducible refine wi_enum ?_ | with_reducible refine wi_rng ?_)
local macro_rules | `(tactic| walk_at "o") => `(tactic| first | with_reducible refine op_cmp_eq ?_ | with_reducible refine op_cmp_lt ?_ | with_reducible refine op_str_eq ?_ | ((with_reducible refine' op_idx ?h0 ?_); (case h0 => walk_at "a")) | with_reducible refine op_add ?_ | with_reducible refine op_sub ?_ | ((with_reducible refine' op_idxl ?h0 ?h1 ?_); (case h0 => walk_at "g"); (case h1 => walk_at "a")) | with_reducible refine op_cmp_ne ?_ | with_reducible refine op_cmp_le ?_ | with_reducible refine op_cmp_gt ?_ | with_reducible refine op_cmp_ge ?_ | with_reducible refine op_str_ne ?_ | with_reducible refine op_is_non ?_ | with_reducible refine op_isnot_non ?_ | ((with_reducible refine' op_mod ?h0 ?_); (case h0 => walk_at "d")) | ((with_reducible refine' op_fdiv ?h0 ?_); (case h0 => walk_at "d")) | ((with_reducible refine' op_mul ?h0 ?_); (case h0 => walk_at "d")) | ((with_reducible refine' op_fdiv ?h0 ?_); (case h0 => walk_at "d")) | ((with_reducible refine' op_mul ?h0 ?_); (case h0 => walk_at "d")) | with_reducible refine op_neg ?_ | with_reducible refine op_lent ?_ | ((with_reducible refine' op_lenl ?h0 ?_); (case h0 => walk_at "g")) | ((with_reducible refine' op_tupl ?h0 ?_); (case h0 => walk_at "g")) | with_reducible refine op_listt ?_ | ((with_reducible refine' op_listl ?h0 ?_); (case h0 => walk_at "g")) | with_reducible refine op_abs ?_ | with_reducible refine op_intb ?_ | with_reducible refine op_slct ?_ | ((with_reducible refine' op_slcl ?h0 ?_); (case h0 => walk_at "g")) | ((with_reducible refine' op_in ?h0 ?h1 ?_); (case h0 => walk_at "g"); (case h1 => (first | assumption | rfl))) | ((with_reducible refine' op_notin ?h0 ?h1 ?_); (case h0 => walk_at "g"); (case h1 => (first | assumption | rfl))) | ((with_reducible refine' op_append ?h0 ?h1 ?_); (case h0 => walk_at "g"); (case h1 => walk_at "n")) | ((with_reducible refine' op_extend ?h0 ?h1 ?h2 ?_); (case h0 => walk_at "g"); (case h1 => walk_at "g"); (case h2 => walk_at "n")) | ((with_reducible refine' op_ladd ?h0 ?h1 ?h2 ?_); (case h0 => walk_at "g"); (case h1 => walk_at "g"); (case h2 => walk_at "n")) | ((with_reducible refine' op_tadd ?h0 ?_); (case h0 => walk_at "n")) | ((with_reducible refine' op_sadd ?h0 ?_); (case h0 => walk_at "n")) | ((with_reducible refine' op_lens ?h0 ?_); (case h0 => walk_at "n")) | ((with_reducible refine' op_slcs ?h0 ?_); (case h0 => walk_at "n")) | walk_at "y" | ((with_reducible refine' of_fld ?h0 ?_); (case h0 => exact rfl)) | ((with_reducible refine' of_cmp ?h0 ?_); (case h0 => exact rfl)) | ((with_reducible refine' of_sub ?h0 ?_); (case h0 => exact rfl)) | ((with_reducible refine' of_blt ?h0 ?_); (case h0 => exact rfl)) | ((with_reducible refine' of_rev ?h0 ?_); (case h0 => exact rfl)) | ((with_reducible refine' of_din ?h0 ?_); (case h0 => exact rfl)) | ((with_reducible refine' of_dix ?h0 ?_); (case h0 => exact rfl)))
local macro_rules | `(tactic| walk_at "e") => `(tactic| first | ((with_reducible refine' w_var ?h0 ?_); (case h0 => exact rfl)) | with_reducible refine w_int ?_ | with_reducible refine w_str ?_ | with_reducible refine w_cmp ?_ | with_reducible refine w_idx ?_ | with_reducible refine w_call0 ?_ | with_reducible refine w_bl ?_ | with_reducible refine w_non ?_ | with_reducible refine w_and ?_ | with_reducible refine w_or ?_ | with_reducible refine w_not ?_ | with_reducible refine w_bin ?_ | with_reducible refine w_tup ?_ | with_reducible refine w_lst ?_ | with_reducible refine w_blt ?_ | with_reducible refine w_bm ?_ | with_reducible refine w_meth0 ?_ | with_reducible refine w_fld ?_ | with_reducible refine w_isi ?_ | with_reducible refine w_ife ?_ | with_reducible refine w_slc10 ?_ | with_reducible refine w_slc01 ?_ | with_reducible refine w_slc11 ?_ | with_reducible refine w_slc00 ?_ | with_reducible refine w_rev ?_ | with_reducible refine w_new0 ?_ | with_reducible refine w_neg ?_ | with_reducible refine w_chain ?_ | with_reducible refine w_lc0 ?_ | with_reducible refine w_lc1 ?_ | with_reducible refine w_call ?_ | with_reducible refine w_new ?_ | with_reducible refine w_meth ?_ | walk_at "y" | with_reducible refine w_con ?_ | with_reducible refine w_din ?_ | with_reducible refine w_dix ?_ | ((with_reducible refine' w_xfld ?h0 ?h1 ?h2 ?_); (case h0 => exact rfl); (case h1 => exact rfl); (case h2 => exact rfl)) | ((with_reducible refine' w_xisi ?h0 ?_); (case h0 => exact rfl)) | with_reducible refine w_fstr ?_)
local macro_rules | `(tactic| walk_at "t") => `(tactic| first | with_reducible refine wb_cons ?_ | with_reducible refine ws_asg ?_ | with_reducible refine ws_ret ?_ | with_reducible refine ws_ifs ?_ | with_reducible refine wb_nil ?_ | with_reducible refine ws_expr ?_ | with_reducible refine ws_for ?_ | with_reducible refine ws_unp ?_ | with_reducible refine ws_setf ?_ | with_reducible refine ws_seti ?_ | ((with_reducible refine' ws_aug ?h0 ?_); (case h0 => exact rfl)) | with_reducible refine ws_try ?_ | with_reducible refine ws_whl ?_ | with_reducible refine ws_retn ?_ | with_reducible refine ws_pass ?_ | with_reducible refine ws_brk ?_ | with_reducible refine ws_cont ?_)
local macro_rules | `(tactic| walk_at "r") => `(tactic| first | with_reducible refine br_tt ?_ | with_reducible refine br_ff ?_ | with_reducible refine br_not ?_ | ((with_reducible refine' br_dt ?h0 ?_); (case h0 => walk_at "d")) | ((with_reducible refine' br_df ?h0 ?_); (case h0 => walk_at "d")) | ((with_reducible refine' br_t ?h0 ?_); (case h0 => (first | assumption | rfl))) | ((with_reducible refine' br_f ?h0 ?_); (case h0 => (first | assumption | rfl))))
local macro_rules | `(tactic| walk_at "b") => `(tactic| first | with_reducible refine tr_bl ?_ | with_reducible refine tr_tup ?_ | with_reducible refine tr_int ?_ | with_reducible refine tr_non ?_ | with_reducible refine isI ?_ | ((with_reducible refine' wk_ref ?h0 ?_); (case h0 => walk_at "g")) | ((with_reducible refine' en_ref ?h0 ?_); (case h0 => walk_at "g")) | with_reducible refine wt_tup ?_ | with_reducible refine wt_str ?_ | with_reducible refine And.intro (le_line rfl) ?_ | with_reducible refine And.intro (recv_a (by walk_at "g")) ?_ | with_reducible refine And.intro (recv_e (by walk_at "g")) ?_ | with_reducible refine And.intro recv_j ?_ | ((with_reducible refine' cl_yes ?h0 ?h1 ?_); (case h0 => exact rfl); (case h1 => exact rfl)) | ((with_reducible refine' cl_no ?h0 ?h1 ?_); (case h0 => exact rfl); (case h1 => exact rfl)) | ((with_reducible refine' rgi ?h0 ?_); (case h0 => omega)) | ((with_reducible refine' clear_of ?h0 ?_); (case h0 => exact rfl)) | ((with_reducible refine' se_of ?h0 ?_); (case h0 => walk_at "S")) | ((with_reducible refine' me_put ?h0 ?_); (case h0 => walk_at "S")) | with_reducible refine ft_cons ?_ | with_reducible refine ft_nil ?_ | walk_at "y" | ((with_reducible refine' me_of ?h0 ?_); (case h0 => exact rfl)))
local macro_rules | `(tactic| walk_at "1") => `(tactic| first | ((with_reducible show Ws _ _ _ _ _); walk_at "t") | ((with_reducible show We (evE _ _ _ _ _) _ _); walk_at "e") | with_reducible refine wl_cons ?_ | with_reducible refine wl_nil ?_ | ((with_reducible show Op _ _); walk_at "o") | ((with_reducible show Br _ _ _); walk_at "r") | ((with_reducible show We _ _ _); walk_at "c") | walk_at "b")
local macro_rules | `(tactic| walk_at "w") => `(tactic| repeat walk_at "1")
local macro_rules | `(tactic| walk_at "g") => `(tactic| ((with_reducible apply Lf.get); (with_reducible assumption); walk_at "g"; walk_at "h"; walk_at "h"))
local macro_rules | `(tactic| walk_at "y") => `(tactic| first | ((with_reducible refine' w_draw ?h0 ?h1 ?_); (case h0 => walk_at "D"); (case h1 => exact rfl)) | ((with_reducible refine' w_drawn ?h0 ?h1 ?_); (case h0 => walk_at "D"); (case h1 => (simp only [List.length_map]; omega))) | ((with_reducible refine' w_number ?h0 ?_); (case h0 => walk_at "D")) | ((with_reducible refine' w_name ?h0 ?h1 ?h2 ?h3 ?h4 ?h5 ?_); (case h0 => walk_at "D"); (case h1 => walk_at "g"); (case h2 => walk_at "h"); (case h3 => walk_at "h"); (case h4 => assumption); (case h5 => omega)) | ((with_reducible refine' w_leaf ?h0 ?h1 ?h2 ?h3 ?h4 ?h5 ?_); (case h0 => walk_at "D"); (case h1 => walk_at "g"); (case h2 => walk_at "h"); (case h3 => walk_at "h"); (case h4 => assumption); (case h5 => omega)))
local macro_rules | `(tactic| walk_at "y") => `(tactic| first | ((with_reducible refine' w_any0 ?h0 ?h1 ?_); (case h0 => (first | with_reducible assumption | exact rfl)); (case h1 => walk_at "D")) | ((with_reducible refine' w_any1 ?h0 ?h1 ?h2 ?_); (case h0 => (first | with_reducible assumption | exact rfl)); (case h1 => walk_at "D"); (case h2 => assumption)) | ((with_reducible refine' w_name0 ?h0 ?_); (case h0 => walk_at "D")))
/-- a part that goes on at itself, by a sort -/
structure Core (x : Txt) (t : Tm) : Prop where
  cz : Cz t
  deep : t.deep ≤ 8
  sort : t.sortAt = some x
  num : t.isNum = false
  nmk : t.isMk = false
section
variable {W n s c N : Nat} {m : Mem} {Q : MV → Mem → Prop} {X : QX}
theorem pow39 (q : Q (.int 1000000000000000000000000000000000000000) m) : Op (binop .Pow (.int 10) (.int 39) m) Q := Op.of (v := .int 1000000000000000000000000000000000000000) (m := m) (by
  show (if (0 : Int) ≤ 39 ∧ (39 : Int) ≤ 1000 ∧ (10 : Int).natAbs < 2 ^ 64 then some (MV.int (10 ^ (39 : Int).toNat), m) else none) = _
  rw [if_pos (by decide)]
  rfl) q
theorem core_ok (hs : Sd m s c) : ∃ (a : Txt × Tm × Tm) (m' : Mem), run dat.T W dat.defs (n + 15) i_law_core [.ref s] m = .ok (.tup [.str a.1, a.2.1.tell, a.2.2.tell]) m' ∧ Core a.1 a.2.1 ∧ Left m m' s c := by
  refine run_drw (g := fun a : Txt × Tm × Tm => .tup [.str a.1, a.2.1.tell, a.2.2.tell]) (P := fun a => Core a.1 a.2.1) hs t_law_core rfl (by walk_at "S") (fun a k _ => by simp [MV.low, MV.lows, low_tell]) ?_
  walk_at "w"
  intro way m1 hw l1
  walk_at "w"
  refine br_dec (fun h2 => ?_) (fun h2 => ?_)
  · walk_at "w"
    intro x m2 ox l2
    walk_at "w"
    intro b m3 hb db l3
    walk_at "w"
    refine br_dec (fun h1 => ?_) (fun h1 => ?_)
    · walk_at "w"
      refine We.of (law_put_run (g := .aga x b) b (by omega)) ?_
      walk_at "w"
      have hc : (Tm.aga x b).Sc [] := ⟨ox, hb⟩
      have dd : (Tm.aga x b).deep = b.deep + 1 := rfl
      have cc : Core sTurn (.aga x b) := ⟨cz_of hc (by omega), by omega, rfl, rfl, rfl⟩
      exact ⟨(sTurn, .aga x b, b.pt x (.aga x b)), rfl, cc, by walk_at "L"⟩
    · walk_at "w"
      intro g m4 hg dg l4
      walk_at "w"
      refine We.of (law_put_run (g := g) b (by omega)) ?_
      walk_at "w"
      have hc : (Tm.giv (.mk x b) g).Sc [] := ⟨⟨ox, hb⟩, hg⟩
      have dd : (Tm.giv (.mk x b) g).deep = max (b.deep + 1) g.deep + 1 := rfl
      have cc : Core sTake (.giv (.mk x b) g) := ⟨cz_of hc (by omega), by omega, rfl, rfl, rfl⟩
      exact ⟨(sTake, .giv (.mk x b) g, b.pt x g), rfl, cc, by walk_at "L"⟩
  · walk_at "w"
    refine br_dec (fun h3 => ?_) (fun h3 => ?_)
    · walk_at "w"
      intro i m2 hi l2
      walk_at "w"
      refine pow39 ?_
      walk_at "w"
      generalize hgen : (if decide ((if i < 0 then -i else i) < 1000000000000000000000000000000000000000) = true then (1 : Int) else 0) = e
      have he : 0 ≤ e ∧ e ≤ 1 ∧ (e = 1 → i.natAbs < 1000000000000000000000000000000000000000) := by
        subst hgen
        by_cases q : (if i < 0 then -i else i) < 1000000000000000000000000000000000000000
        · rw [decide_eq_true q, if_pos rfl]
          refine ⟨by decide, by decide, fun _ => ?_⟩
          split at q <;> omega
        · rw [decide_eq_false q, if_neg (by decide)]
          exact ⟨by decide, by decide, fun h => by omega⟩
      obtain ⟨he0, he1, he2⟩ := he
      intro j m3 hj l3
      walk_at "w"
      intro k m4 hk l4
      obtain ⟨z, hz, hzb⟩ : ∃ z : Int, L2.atI [MV.int i, MV.int j, MV.int (i + e), MV.int (i - e)] (k : Int) = some (.int z) ∧ z.natAbs < 10000000000000000000000000000000000000000 := by
        have : k = 0 ∨ k = 1 ∨ k = 2 ∨ k = 3 := by omega
        have e01 : e = 0 ∨ e = 1 := by omega
        have b1 : (i + e).natAbs < 10000000000000000000000000000000000000000 ∧ (i - e).natAbs < 10000000000000000000000000000000000000000 := by
          rcases e01 with q | q
          · omega
          · have := he2 q
            omega
        rcases this with rfl | rfl | rfl | rfl
        · exact ⟨i, L2.atI_nat (j := 0) rfl, hi⟩
        · exact ⟨j, L2.atI_nat (j := 1) rfl, hj⟩
        · exact ⟨i + e, L2.atI_nat (j := 2) rfl, b1.1⟩
        · exact ⟨i - e, L2.atI_nat (j := 3) rfl, b1.2⟩
      walk_at "w"
      intro q m5 hq l5
      walk_at "w"
      obtain ⟨d, hd⟩ : ∃ d : Int, L2.atI [MV.int (i + z), MV.int (i - z), MV.int (if decide (i < z) = true then 1 else 0)] (q : Int) = some (.int d) := by
        have : q = 0 ∨ q = 1 ∨ q = 2 := by omega
        rcases this with rfl | rfl | rfl
        · exact ⟨_, L2.atI_nat (j := 0) rfl⟩
        · exact ⟨_, L2.atI_nat (j := 1) rfl⟩
        · exact ⟨_, L2.atI_nat (j := 2) rfl⟩
      obtain ⟨w, hw2, hwm⟩ := at_map (f := MV.str) (l := [[43], [45], [60]]) (k := q) (by show q < 3; omega)
      have ow : SignOk w := by unfold SignOk; simpa using hwm
      walk_at "w"
      refine' op_idxl ?hg ?hx ?_
      case hg => walk_at "g"
      case hx => exact hw2
      walk_at "w"
      have hc : (Tm.sm w (.num i) (.num z)).Sc [] := ⟨ow, hi, hzb⟩
      have cc : Core sSum (.sm w (.num i) (.num z)) := ⟨cz_of hc (by show 1 ≤ 20; decide), by show 1 ≤ 8; decide, rfl, rfl, rfl⟩
      exact ⟨(sSum, .sm w (.num i) (.num z), .num d), rfl, cc, by walk_at "L"⟩
    · walk_at "w"
      intro i m2 hi l2
      walk_at "w"
      intro k m3 hk l3
      obtain ⟨z, hz, hzb⟩ : ∃ z : Int, L2.atI [MV.int 0, MV.int i, MV.int (-1)] (k : Int) = some (.int z) ∧ z.natAbs < 10000000000000000000000000000000000000000 := by
        have : k = 0 ∨ k = 1 ∨ k = 2 := by omega
        rcases this with rfl | rfl | rfl
        · exact ⟨0, L2.atI_nat (j := 0) rfl, by decide⟩
        · exact ⟨i, L2.atI_nat (j := 1) rfl, hi⟩
        · exact ⟨-1, L2.atI_nat (j := 2) rfl, by decide⟩
      walk_at "w"
      intro t1 m4 h1 d1 l4
      walk_at "w"
      intro t2 m5 h2 d2 l5
      walk_at "w"
      have hc : (Tm.cho (.num z) t1 t2).Sc [] := ⟨hzb, h1, h2⟩
      have dd : (Tm.cho (.num z) t1 t2).deep = max 0 (max t1.deep t2.deep) + 1 := rfl
      have cc : Core sChoose (.cho (.num z) t1 t2) := ⟨cz_of hc (by omega), by omega, rfl, rfl, rfl⟩
      refine br_dec (fun h0 => ?_) (fun h0 => ?_)
      · walk_at "w"
        exact ⟨(sChoose, .cho (.num z) t1 t2, t1), rfl, cc, by walk_at "L"⟩
      · walk_at "w"
        exact ⟨(sChoose, .cho (.num z) t1 t2, t2), rfl, cc, by walk_at "L"⟩
theorem w_core (hs : Sd m s c) (k : ∀ (x : Txt) (t u : Tm) (m' : Mem), Core x t → Lf m m' s c → Q (.tup [.str x, t.tell, u.tell]) m') : We (run dat.T W dat.defs (n + 15) i_law_core [.ref s] m) Q X := by
  obtain ⟨a, m', e, o, l⟩ := core_ok (W := W) (n := n) hs
  exact .of e (k a.1 a.2.1 a.2.2 m' o ((Lf.refl hs).draw l))
end
end LW
end Part_B18

section Part_C1
set_option Elab.async false
set_option linter.all false
set_option maxRecDepth 100000
set_option maxHeartbeats 4000000
/-! C1: what is stuck; cases. -/
namespace LW
open U
open PySem (Operator CmpOp)
local macro_rules | `(tactic| walk_at "g") => `(tactic| first | (with_reducible assumption) | (with_reducible exact getE_new) | ((with_reducible apply getE_old); walk_at "g") | ((with_reducible apply Keep.get); (with_reducible assumption); (with_reducible assumption)))
local macro_rules | `(tactic| walk_at "k") => `(tactic| first | (with_reducible exact Keep.refl) | ((with_reducible apply Keep.push); walk_at "k") | ((with_reducible apply Keep.set); walk_at "k"; ((try simp only [List.length_append, List.length_set, List.length_cons, List.length_nil]); omega)) | (with_reducible assumption))
local macro_rules | `(tactic| walk_at "d") => `(tactic| first | (with_reducible assumption) | omega | decide)
local macro_rules | `(tactic| walk_at "n") => `(tactic| first | (with_reducible assumption) | omega | exact Nat.le_of_ble_eq_true rfl | (simp only [List.length_append, List.length_cons, List.length_nil, List.length_map, List.length_reverse]; omega))
local macro_rules | `(tactic| walk_at "D") => `(tactic| first | (with_reducible assumption) | ((with_reducible apply Lf.st); (with_reducible assumption)) | ((with_reducible apply Sd.more); walk_at "D"))
local macro_rules | `(tactic| walk_at "h") => `(tactic| first | (with_reducible assumption) | omega | exact Sd.ne1 (by walk_at "D") | exact Sd.ne2 (by walk_at "D"))
local macro_rules | `(tactic| walk_at "L") => `(tactic| first | (with_reducible assumption) | ((with_reducible apply Lf.refl); walk_at "D") | ((with_reducible apply Lf.push); walk_at "L") | ((with_reducible apply Lf.thn); (with_reducible assumption); walk_at "L"))
local macro_rules | `(tactic| walk_at "a") => `(tactic| first | exact at0 | exact at1 | exact at2 | exact at3 | (with_reducible assumption) | exact (atn (by with_reducible assumption)) | exact rfl)
local macro_rules | `(tactic| walk_at "S") => `(tactic| first | (focus (simp only [Tg.put, setAll, envOf, List.map_cons, List.map_nil, List.length_cons, List.length_nil, Nat.reduceAdd, Nat.reduceSub, List.reduceReplicate, List.replicate_zero, List.cons_append, List.nil_append, List.append_nil, List.set_cons_succ, List.set_cons_zero, List.set_nil]; try exact rfl)) | exact rfl)
local macro_rules | `(tactic| walk_at "y") => `(tactic| first | fail)
local macro_rules | `(tactic| walk_at "c") => `(tactic| first | walk_at "y" | ((with_reducible refine' We.of ?h0 ?_); (case h0 => with_reducible assumption)) | ((with_reducible refine' We.exn ?h0 ?_); (case h0 => with_reducible assumption)) | with_reducible refine wi_of ?_ | with_reducible refine wi_enum ?_ | with_reducible refine wi_rng ?_)
local macro_rules | `(tactic| walk_at "o") => `(tactic| first | with_reducible refine op_cmp_eq ?_ | with_reducible refine op_cmp_lt ?_ | with_reducible refine op_str_eq ?_ | ((with_reducible refine' op_idx ?h0 ?_); (case h0 => walk_at "a")) | with_reducible refine op_add ?_ | with_reducible refine op_sub ?_ | ((with_reducible refine' op_idxl ?h0 ?h1 ?_); (case h0 => walk_at "g"); (case h1 => walk_at "a")) | with_reducible refine op_cmp_ne ?_ | with_reducible refine op_cmp_le ?_ | with_reducible refine op_cmp_gt ?_ | with_reducible refine op_cmp_ge ?_ | with_reducible refine op_str_ne ?_ | with_reducible refine op_is_non ?_ | with_reducible refine op_isnot_non ?_ | ((with_reducible refine' op_mod ?h0 ?_); (case h0 => walk_at "d")) | ((with_reducible refine' op_fdiv ?h0 ?_); (case h0 => walk_at "d")) | ((with_reducible refine' op_mul ?h0 ?_); (case h0 => walk_at "d")) | ((with_reducible refine' op_fdiv ?h0 ?_); (case h0 => walk_at "d")) | ((with_reducible refine' op_mul ?h0 ?_); (case h0 => walk_at "d")) | with_reducible refine op_neg ?_ | with_reducible refine op_lent ?_ | ((with_reducible refine' op_lenl ?h0 ?_); (case h0 => walk_at "g")) | ((with_reducible refine' op_tupl ?h0 ?_); (case h0 => walk_at "g")) | with_reducible refine op_listt ?_ | ((with_reducible refine' op_listl ?h0 ?_); (case h0 => walk_at "g")) | with_reducible refine op_abs ?_ | with_reducible refine op_intb ?_ | with_reducible refine op_slct ?_ | ((with_reducible refine' op_slcl ?h0 ?_); (case h0 => walk_at "g")) | ((with_reducible refine' op_in ?h0 ?h1 ?_); (case h0 => walk_at "g"); (case h1 => (first | assumption | rfl))) | ((with_reducible refine' op_notin ?h0 ?h1 ?_); (case h0 => walk_at "g"); (case h1 => (first | assumption | rfl))) | ((with_reducible refine' op_append ?h0 ?h1 ?_); (case h0 => walk_at "g"); (case h1 => walk_at "n")) | ((with_reducible refine' op_extend ?h0 ?h1 ?h2 ?_); (case h0 => walk_at "g"); (case h1 => walk_at "g"); (case h2 => walk_at "n")) | ((with_reducible refine' op_ladd ?h0 ?h1 ?h2 ?_); (case h0 => walk_at "g"); (case h1 => walk_at "g"); (case h2 => walk_at "n")) | ((with_reducible refine' op_tadd ?h0 ?_); (case h0 => walk_at "n")) | ((with_reducible refine' op_sadd ?h0 ?_); (case h0 => walk_at "n")) | ((with_reducible refine' op_lens ?h0 ?_); (case h0 => walk_at "n")) | ((with_reducible refine' op_slcs ?h0 ?_); (case h0 => walk_at "n")) | walk_at "y" | ((with_reducible refine' of_fld ?h0 ?_); (case h0 => exact rfl)) | ((with_reducible refine' of_cmp ?h0 ?_); (case h0 => exact rfl)) | ((with_reducible refine' of_sub ?h0 ?_); (case h0 => exact rfl)) | ((with_reducible refine' of_blt ?h0 ?_); (case h0 => exact rfl)) | ((with_reducible refine' of_rev ?h0 ?_); (case h0 => exact rfl)) | ((with_reducible refine' of_din ?h0 ?_); (case h0 => exact rfl)) | ((with_reducible refine' of_dix ?h0 ?_); (case h0 => exact rfl)))
local macro_rules | `(tactic| walk_at "e") => `(tactic| first | ((with_reducible refine' w_var ?h0 ?_); (case h0 => exact rfl)) | with_reducible refine w_int ?_ | with_reducible refine w_str ?_ | with_reducible refine w_cmp ?_ | with_reducible refine w_idx ?_ | with_reducible refine w_call0 ?_ | with_reducible refine w_bl ?_ | with_reducible refine w_non ?_ | with_reducible refine w_and ?_ | with_reducible refine w_or ?_ | with_reducible refine w_not ?_ | with_reducible refine w_bin ?_ | with_reducible refine w_tup ?_ | with_reducible refine w_lst ?_ | with_reducible refine w_blt ?_ | with_reducible refine w_bm ?_ | with_reducible refine w_meth0 ?_ | with_reducible refine w_fld ?_ | with_reducible refine w_isi ?_ | with_reducible refine w_ife ?_ | with_reducible refine w_slc10 ?_ | with_reducible refine w_slc01 ?_ | with_reducible refine w_slc11 ?_ | with_reducible refine w_slc00 ?_ | with_reducible refine w_rev ?_ | with_reducible refine w_new0 ?_ | with_reducible refine w_neg ?_ | with_reducible refine w_chain ?_ | with_reducible refine w_lc0 ?_ | with_reducible refine w_lc1 ?_ | with_reducible refine w_call ?_ | with_reducible refine w_new ?_ | with_reducible refine w_meth ?_ | walk_at "y" | with_reducible refine w_con ?_ | with_reducible refine w_din ?_ | with_reducible refine w_dix ?_ | ((with_reducible refine' w_xfld ?h0 ?h1 ?h2 ?_); (case h0 => exact rfl); (case h1 => exact rfl); (case h2 => exact rfl)) | ((with_reducible refine' w_xisi ?h0 ?_); (case h0 => exact rfl)) | with_reducible refine w_fstr ?_)
local macro_rules | `(tactic| walk_at "t") => `(tactic| first | with_reducible refine wb_cons ?_ | with_reducible refine ws_asg ?_ | with_reducible refine ws_ret ?_ | with_reducible refine ws_ifs ?_ | with_reducible refine wb_nil ?_ | with_reducible refine ws_expr ?_ | with_reducible refine ws_for ?_ | with_reducible refine ws_unp ?_ | with_reducible refine ws_setf ?_ | with_reducible refine ws_seti ?_ | ((with_reducible refine' ws_aug ?h0 ?_); (case h0 => exact rfl)) | with_reducible refine ws_try ?_ | with_reducible refine ws_whl ?_ | with_reducible refine ws_retn ?_ | with_reducible refine ws_pass ?_ | with_reducible refine ws_brk ?_ | with_reducible refine ws_cont ?_)
local macro_rules | `(tactic| walk_at "r") => `(tactic| first | with_reducible refine br_tt ?_ | with_reducible refine br_ff ?_ | with_reducible refine br_not ?_ | ((with_reducible refine' br_dt ?h0 ?_); (case h0 => walk_at "d")) | ((with_reducible refine' br_df ?h0 ?_); (case h0 => walk_at "d")) | ((with_reducible refine' br_t ?h0 ?_); (case h0 => (first | assumption | rfl))) | ((with_reducible refine' br_f ?h0 ?_); (case h0 => (first | assumption | rfl))))
local macro_rules | `(tactic| walk_at "b") => `(tactic| first | with_reducible refine tr_bl ?_ | with_reducible refine tr_tup ?_ | with_reducible refine tr_int ?_ | with_reducible refine tr_non ?_ | with_reducible refine isI ?_ | ((with_reducible refine' wk_ref ?h0 ?_); (case h0 => walk_at "g")) | ((with_reducible refine' en_ref ?h0 ?_); (case h0 => walk_at "g")) | with_reducible refine wt_tup ?_ | with_reducible refine wt_str ?_ | with_reducible refine And.intro (le_line rfl) ?_ | with_reducible refine And.intro (recv_a (by walk_at "g")) ?_ | with_reducible refine And.intro (recv_e (by walk_at "g")) ?_ | with_reducible refine And.intro recv_j ?_ | ((with_reducible refine' cl_yes ?h0 ?h1 ?_); (case h0 => exact rfl); (case h1 => exact rfl)) | ((with_reducible refine' cl_no ?h0 ?h1 ?_); (case h0 => exact rfl); (case h1 => exact rfl)) | ((with_reducible refine' rgi ?h0 ?_); (case h0 => omega)) | ((with_reducible refine' clear_of ?h0 ?_); (case h0 => exact rfl)) | ((with_reducible refine' se_of ?h0 ?_); (case h0 => walk_at "S")) | ((with_reducible refine' me_put ?h0 ?_); (case h0 => walk_at "S")) | with_reducible refine ft_cons ?_ | with_reducible refine ft_nil ?_ | walk_at "y" | ((with_reducible refine' me_of ?h0 ?_); (case h0 => exact rfl)))
local macro_rules | `(tactic| walk_at "1") => `(tactic| first | ((with_reducible show Ws _ _ _ _ _); walk_at "t") | ((with_reducible show We (evE _ _ _ _ _) _ _); walk_at "e") | with_reducible refine wl_cons ?_ | with_reducible refine wl_nil ?_ | ((with_reducible show Op _ _); walk_at "o") | ((with_reducible show Br _ _ _); walk_at "r") | ((with_reducible show We _ _ _); walk_at "c") | walk_at "b")
local macro_rules | `(tactic| walk_at "w") => `(tactic| repeat walk_at "1")
local macro_rules | `(tactic| walk_at "g") => `(tactic| ((with_reducible apply Lf.get); (with_reducible assumption); walk_at "g"; walk_at "h"; walk_at "h"))
local macro_rules | `(tactic| walk_at "y") => `(tactic| first | ((with_reducible refine' w_draw ?h0 ?h1 ?_); (case h0 => walk_at "D"); (case h1 => exact rfl)) | ((with_reducible refine' w_drawn ?h0 ?h1 ?_); (case h0 => walk_at "D"); (case h1 => (simp only [List.length_map]; omega))) | ((with_reducible refine' w_number ?h0 ?_); (case h0 => walk_at "D")) | ((with_reducible refine' w_name ?h0 ?h1 ?h2 ?h3 ?h4 ?h5 ?_); (case h0 => walk_at "D"); (case h1 => walk_at "g"); (case h2 => walk_at "h"); (case h3 => walk_at "h"); (case h4 => assumption); (case h5 => omega)) | ((with_reducible refine' w_leaf ?h0 ?h1 ?h2 ?h3 ?h4 ?h5 ?_); (case h0 => walk_at "D"); (case h1 => walk_at "g"); (case h2 => walk_at "h"); (case h3 => walk_at "h"); (case h4 => assumption); (case h5 => omega)))
local macro_rules | `(tactic| walk_at "y") => `(tactic| first | ((with_reducible refine' w_any0 ?h0 ?h1 ?_); (case h0 => (first | with_reducible assumption | exact rfl)); (case h1 => walk_at "D")) | ((with_reducible refine' w_any1 ?h0 ?h1 ?h2 ?_); (case h0 => (first | with_reducible assumption | exact rfl)); (case h1 => walk_at "D"); (case h2 => assumption)) | ((with_reducible refine' w_name0 ?h0 ?_); (case h0 => walk_at "D")))
structure Busy (t : Tm) : Prop where
  num : t.isNum = false
  nmk : t.isMk = false
theorem plug_busy (f : Fr) (t : Tm) : Busy (f.plug t) := by cases f <;> exact ⟨rfl, rfl⟩
theorem plug_goes (f : Fr) {t : Tm} (h : Busy t) : (f.plug t).goes = t.goes.map fun p => (f.k :: p.1, p.2) := by
  have h1 := h.num
  have h2 := h.nmk
  cases f with
  | giv b => simp only [Fr.plug, Tm.goes, Fr.k, h2]; rfl
  | smL s b => simp only [Fr.plug, Tm.goes, Fr.k, h1]; rfl
  | smR s i => simp only [Fr.plug, Tm.goes, Fr.k, h1]; rfl
  | cho b c => simp only [Fr.plug, Tm.goes, Fr.k, h1]; rfl
theorem plugs_goes : ∀ (fs : List Fr) {t : Tm}, Busy t → (plugs fs t).goes = t.goes.map fun p => ((fs.map Fr.k).reverse ++ p.1, p.2)
  | [], t, _ => by show t.goes = _; cases t.goes <;> simp
  | f :: fs, t, h => by
    show (plugs fs (f.plug t)).goes = _
    rw [plugs_goes fs (plug_busy f t), plug_goes f h, Option.map_map]
    congr 1
    funext p
    simp
theorem plugs_busy : ∀ (fs : List Fr) {t : Tm}, Busy t → Busy (plugs fs t)
  | [], _, h => h
  | f :: fs, t, _ => plugs_busy fs (plug_busy f t)
theorem fr0 {l : List Txt} (h : l = []) (v : MV) : (l.filter (isNot v)) = [] := by rw [h]; rfl
theorem plug_cz {f : Fr} {t : Tm} {d : Nat} (hf : f.Cl d) (hd : d ≤ 10) (h : Cz t) : Cz (f.plug t) := by
  have z : t.fr.length ≤ 20 := by rw [h.fr]; exact Nat.zero_le _
  cases f with
  | giv b =>
    have hb := cz_of hf.1 (by have := hf.2; omega)
    exact ⟨⟨h.ok, hb.ok⟩, ⟨⟨h.few, z⟩, ⟨hb.few, by rw [hb.fr]; exact Nat.zero_le _⟩⟩, by simp [Fr.plug, Tm.fr, h.fr, hb.fr, sortD]⟩
  | smL s b =>
    have hb := cz_of hf.2.1 (by have := hf.2.2; omega)
    exact ⟨⟨hf.1, h.ok, hb.ok⟩, ⟨⟨h.few, z⟩, ⟨hb.few, by rw [hb.fr]; exact Nat.zero_le _⟩⟩, by simp [Fr.plug, Tm.fr, h.fr, hb.fr, sortD]⟩
  | smR s i => exact ⟨⟨hf.1, big_log hf.2, h.ok⟩, ⟨⟨trivial, Nat.zero_le _⟩, ⟨h.few, z⟩⟩, by simp [Fr.plug, Tm.fr, h.fr, sortD]⟩
  | cho b c =>
    have hb := cz_of hf.1.1 (by have := hf.1.2; omega)
    have hc := cz_of hf.2.1 (by have := hf.2.2; omega)
    exact ⟨⟨h.ok, hb.ok, hc.ok⟩, ⟨⟨h.few, z⟩, ⟨hb.few, by rw [hb.fr]; exact Nat.zero_le _⟩, ⟨hc.few, by rw [hc.fr]; exact Nat.zero_le _⟩⟩, by simp [Fr.plug, Tm.fr, h.fr, hb.fr, hc.fr, sortD]⟩
theorem plugs_cz {d : Nat} (hd : d ≤ 10) : ∀ (fs : List Fr) {t : Tm}, (∀ f ∈ fs, f.Cl d) → Cz t → Cz (plugs fs t)
  | [], _, _, h => h
  | f :: fs, t, hf, h => plugs_cz hd fs (fun g hg => hf g (List.mem_cons_of_mem _ hg)) (plug_cz (hf f (List.mem_cons_self ..)) hd h)
theorem plug_deep {f : Fr} {t : Tm} {d : Nat} (hf : f.Cl d) : (f.plug t).deep ≤ max t.deep d + 1 := by
  cases f with
  | giv b => have := hf.2; show max t.deep b.deep + 1 ≤ _; omega
  | smL s b => have := hf.2.2; show max t.deep b.deep + 1 ≤ _; omega
  | smR s i => show max 0 t.deep + 1 ≤ _; omega
  | cho b c => have := hf.1.2; have := hf.2.2; show max t.deep (max b.deep c.deep) + 1 ≤ _; omega
theorem plugs_deep {d : Nat} : ∀ (fs : List Fr) {t : Tm}, (∀ f ∈ fs, f.Cl d) → (plugs fs t).deep ≤ max t.deep d + fs.length
  | [], t, _ => by show t.deep ≤ _; simp; omega
  | f :: fs, t, hf => by
    have a := plugs_deep fs (t := f.plug t) fun g hg => hf g (List.mem_cons_of_mem _ hg)
    have b := plug_deep (t := t) (hf f (List.mem_cons_self ..))
    show (plugs fs (f.plug t)).deep ≤ _
    rw [List.length_cons]
    omega
structure Stuck (t : Tm) : Prop where
  cz : Cz t
  deep : t.deep ≤ 8
  goes : t.goes = none
  busy : Busy t
section
variable {W n s c N : Nat} {m : Mem} {Q : MV → Mem → Prop} {X : QX}
theorem stuck_ok (hs : Sd m s c) : ∃ (t : Tm) (m' : Mem), run dat.T W dat.defs (n + 15) i_law_stuck [.ref s] m = .ok t.tell m' ∧ Stuck t ∧ Left m m' s c := by
  refine run_drw (g := Tm.tell) (P := Stuck) hs t_law_stuck rfl (by walk_at "S") (fun a k _ => low_tell a) ?_
  walk_at "w"
  intro way m1 hw l1
  walk_at "w"
  intro x m2 ox l2
  walk_at "w"
  intro b m3 hb db l3
  walk_at "w"
  intro q m4 hq l4
  obtain ⟨w, hw2, hwm⟩ := at_map (f := MV.str) (l := [[43], [45], [60]]) (k := q) (by show q < 3; omega)
  have ow : SignOk w := by unfold SignOk; simpa using hwm
  refine' op_idxl ?hg ?hx ?_
  case hg => walk_at "g"
  case hx => exact hw2
  walk_at "w"
  intro u m5 hu du l5
  walk_at "w"
  have hmk : (Tm.mk x b).Sc [] := ⟨ox, hb⟩
  have dmk : (Tm.mk x b).deep = b.deep + 1 := rfl
  refine br_dec (fun h0 => ?_) (fun h0 => ?_)
  · walk_at "w"
    exact ⟨.opn, rfl, ⟨cz_of trivial (by decide), by decide, rfl, rfl, rfl⟩, by walk_at "L"⟩
  walk_at "w"
  refine br_dec (fun h1 => ?_) (fun h1 => ?_)
  · walk_at "w"
    intro i m6 hi l6
    walk_at "w"
    have hc : (Tm.giv (.num i) u).Sc [] := ⟨hi, hu⟩
    have dd : (Tm.giv (.num i) u).deep = max 0 u.deep + 1 := rfl
    exact ⟨.giv (.num i) u, rfl, ⟨cz_of hc (by omega), by omega, rfl, rfl, rfl⟩, by walk_at "L"⟩
  walk_at "w"
  refine br_dec (fun h2 => ?_) (fun h2 => ?_)
  · walk_at "w"
    have hc : (Tm.sm w (.mk x b) u).Sc [] := ⟨ow, hmk, hu⟩
    have dd : (Tm.sm w (.mk x b) u).deep = max (b.deep + 1) u.deep + 1 := rfl
    exact ⟨.sm w (.mk x b) u, rfl, ⟨cz_of hc (by omega), by omega, rfl, rfl, rfl⟩, by walk_at "L"⟩
  walk_at "w"
  refine br_dec (fun h3 => ?_) (fun h3 => ?_)
  · walk_at "w"
    intro i m6 hi l6
    walk_at "w"
    have hc : (Tm.sm w (.num i) (.mk x b)).Sc [] := ⟨ow, hi, hmk⟩
    have dd : (Tm.sm w (.num i) (.mk x b)).deep = max 0 (b.deep + 1) + 1 := rfl
    exact ⟨.sm w (.num i) (.mk x b), rfl, ⟨cz_of hc (by omega), by omega, rfl, rfl, rfl⟩, by walk_at "L"⟩
  walk_at "w"
  intro v m6 hv dv l6
  walk_at "w"
  have hc : (Tm.cho (.mk x b) u v).Sc [] := ⟨hmk, hu, hv⟩
  have dd : (Tm.cho (.mk x b) u v).deep = max (b.deep + 1) (max u.deep v.deep) + 1 := rfl
  exact ⟨.cho (.mk x b) u v, rfl, ⟨cz_of hc (by omega), by omega, rfl, rfl, rfl⟩, by walk_at "L"⟩
theorem w_stuck (hs : Sd m s c) (k : ∀ (t : Tm) (m' : Mem), Stuck t → Lf m m' s c → Q t.tell m') : We (run dat.T W dat.defs (n + 15) i_law_stuck [.ref s] m) Q X := by
  obtain ⟨a, m', e, o, l⟩ := stuck_ok (W := W) (n := n) hs
  exact .of e (k a m' o ((Lf.refl hs).draw l))
def howW (t : Tm) : Txt := if t.isNum then sNumber else if t.isMk then sMaker else if t.goes.isNone then [115, 116, 117, 99, 107] else [103, 111, 101, 115]
def plO (o : Option (List Nat × Txt)) : MV := match o with
  | none => .non
  | some p => plV p.1
def soO (o : Option (List Nat × Txt)) : MV := match o with
  | none => .non
  | some p => .str p.2
def caseV (t : Tm) : MV := .tup [t.tell, .str (howW t), plO t.goes, soO t.goes]
theorem low_plV (p : List Nat) (k : Nat) : (plV p).low k = true := lows_stV p
theorem case_low (t : Tm) (k : Nat) : (caseV t).low k = true := by
  unfold caseV
  cases t.goes with
  | none => simp [MV.low, MV.lows, low_tell, plO, soO]
  | some p => simp [MV.low, MV.lows, low_tell, plO, soO, low_plV]
local macro_rules | `(tactic| walk_at "y") => `(tactic| first | ((with_reducible refine' w_core ?h0 ?_); (case h0 => walk_at "D")) | ((with_reducible refine' w_stuck ?h0 ?_); (case h0 => walk_at "D")))
theorem case_ok (hs : Sd m s c) : ∃ (t : Tm) (m' : Mem), run dat.T W dat.defs (n + 16) i_law_case [.ref s] m = .ok (caseV t) m' ∧ (Cz t ∧ t.deep ≤ 60) ∧ Left m m' s c := by
  refine run_drw (g := caseV) (P := fun t => Cz t ∧ t.deep ≤ 60) hs t_law_case rfl (by walk_at "S") (fun a k _ => case_low a k) ?_
  walk_at "w"
  intro way m1 hw l1
  walk_at "w"
  intro q1 m2 hq1 l2
  walk_at "w"
  intro q2 m3 hq2 l3
  walk_at "w"
  obtain ⟨a, ha, ha0, ha1⟩ : ∃ a : Int, L2.atI [MV.int (q1 : Nat), MV.int 40] (if decide ((q2 : Int) = 0) = true then 1 else 0) = some (.int a) ∧ 0 ≤ a ∧ a ≤ 40 := by
    by_cases q : (q2 : Int) = 0
    · rw [decide_eq_true q, if_pos rfl]
      exact ⟨40, at1, by decide, by decide⟩
    · rw [decide_eq_false q, if_neg (by decide)]
      exact ⟨q1, at0, by omega, by omega⟩
  walk_at "w"
  obtain ⟨d, hd, hd0, hd1⟩ : ∃ d : Int, L2.atI [MV.int 3, MV.int 1] (if decide (a = 40) = true then 1 else 0) = some (.int d) ∧ 0 ≤ d ∧ d ≤ 3 := by
    by_cases q : a = 40
    · rw [decide_eq_true q, if_pos rfl]
      exact ⟨1, at1, by decide, by decide⟩
    · rw [decide_eq_false q, if_neg (by decide)]
      exact ⟨3, at0, by decide, by decide⟩
  walk_at "w"
  refine w_frames ⟨ha0, by omega⟩ ⟨hd0, by omega⟩ (by walk_at "D") ?_
  intro fs m4 F hfl hfc gF hF l4
  obtain ⟨hF1, hF2⟩ := hF
  have dn : d.toNat ≤ 10 := by omega
  walk_at "w"
  refine br_dec (fun h0 => ?_) (fun h0 => ?_)
  · walk_at "w"
    intro i m5 hi l5
    walk_at "w"
    exact ⟨.num i, rfl, ⟨cz_of (t := .num i) hi (Nat.zero_le _), Nat.zero_le _⟩, by walk_at "L"⟩
  walk_at "w"
  refine br_dec (fun h1 => ?_) (fun h1 => ?_)
  · walk_at "w"
    intro x m5 ox l5
    walk_at "w"
    intro b m6 hb db l6
    walk_at "w"
    have hc : (Tm.mk x b).Sc [] := ⟨ox, hb⟩
    have dd : (Tm.mk x b).deep = b.deep + 1 := rfl
    exact ⟨.mk x b, rfl, ⟨cz_of hc (by omega), by omega⟩, by walk_at "L"⟩
  walk_at "w"
  refine br_dec (fun h4 => ?_) (fun h4 => ?_)
  · walk_at "w"
    intro t m5 ht l5
    walk_at "w"
    refine We.of (around_run fs t (by walk_at "g")) ?_
    walk_at "w"
    have bz := plugs_busy fs ht.busy
    have gs := plugs_goes fs ht.busy
    rw [ht.goes] at gs
    have dp := plugs_deep (d := d.toNat) fs (t := t) hfc
    have := ht.deep
    exact ⟨plugs fs t, by unfold caseV howW; rw [bz.num, bz.nmk, gs]; rfl, ⟨plugs_cz dn fs hfc ht.cz, by omega⟩, by walk_at "L"⟩
  walk_at "w"
  intro x t u m5 ht l5
  walk_at "w"
  refine We.of (around_run fs t (by walk_at "g")) ?_
  walk_at "w"
  refine We.of (place_run fs (by omega) (by walk_at "g")) ?_
  walk_at "w"
  have bt : Busy t := ⟨ht.num, ht.nmk⟩
  have bz := plugs_busy fs bt
  have gs := plugs_goes fs bt
  rw [goes_at ht.sort] at gs
  have dp := plugs_deep (d := d.toNat) fs (t := t) hfc
  have := ht.deep
  exact ⟨plugs fs t, by unfold caseV howW; rw [bz.num, bz.nmk, gs]; simp [plO, soO], ⟨plugs_cz dn fs hfc ht.cz, by omega⟩, by walk_at "L"⟩
theorem w_case (hs : Sd m s c) (k : ∀ (t : Tm) (m' : Mem), Cz t → t.deep ≤ 60 → Lf m m' s c → Q (caseV t) m') : We (run dat.T W dat.defs (n + 16) i_law_case [.ref s] m) Q X := by
  obtain ⟨a, m', e, o, l⟩ := case_ok (W := W) (n := n) hs
  exact .of e (k a m' o.1 o.2 ((Lf.refl hs).draw l))
end
end LW
end Part_C1

section Part_MS
set_option Elab.async false
set_option linter.all false
set_option maxRecDepth 100000
set_option maxHeartbeats 4000000
/-! M15S: the state made. -/
namespace LW
open U
open PySem (Operator CmpOp PyData)
def absI (i : Int) : Int := if i < 0 then -i else i
theorem absI_nn (i : Int) : 0 ≤ absI i := by unfold absI; split <;> omega
theorem data_ints {m : Mem} {k : Nat} : ∀ q : List Int, (q.map MV.int).mapM (MV.data m (k + 1)) = some (q.map fun j => PyData.int j)
  | [] => rfl
  | j :: q => by
    show ((MV.int j) :: q.map MV.int).mapM (MV.data m (k + 1)) = _
    rw [List.mapM_cons, data_ints q]
    rfl
theorem lay_ints2 : ∀ q : List Int, PyData.canLayAll0 (q.map fun j => PyData.int j) = true
  | [] => by simp [PyData.canLayAll0]
  | j :: q => by simp [PyData.canLayAll0, PyData.canLay0, lay_ints2 q]
theorem eq_empty {q : List Int} {m : Mem} {a b : Nat} (ha : m[a]? = some (.lst (q.map MV.int))) (hb : m[b]? = some (.lst [])) : cmpop .Eq (.ref a) (.ref b) m = some (.bl q.isEmpty, m) := by
  show okb (peq m (.ref a) (.ref b)) m = _
  have : peq m (.ref a) (.ref b) = some q.isEmpty := by
    unfold peq
    rw [if_neg (show ¬ plainEq (.ref a) (.ref b) = true from fun h => nomatch (show false = true from h))]
    have e1 : MV.data m dataFuel (.ref a) = some (.list (q.map fun j => PyData.int j)) := by
      show (match m[a]? with | some (.lst xs) => (xs.mapM (MV.data m 999)).map PyData.list | some (.frz xs) => (xs.mapM (MV.data m 999)).map PyData.list | _ => none) = _
      rw [ha]
      dsimp only
      rw [data_ints q]
      rfl
    have e2 : MV.data m dataFuel (.ref b) = some (.list []) := by
      show (match m[b]? with | some (.lst xs) => (xs.mapM (MV.data m 999)).map PyData.list | some (.frz xs) => (xs.mapM (MV.data m 999)).map PyData.list | _ => none) = _
      rw [hb]
      rfl
    rw [e1, e2]
    dsimp only
    rw [if_pos (by simp [PyData.canLay0, lay_ints2 q, PyData.canLayAll0])]
    cases q <;> simp [PyData.eqv, PyData.eqvAll]
  rw [this]
  rfl
section
variable {W : Nat}
theorem state_ok {n : Nat} {zs : List Int} (hz : zs.length ≤ 63) : ∃ s c mm, run dat.T W dat.defs (n + 1) i_law_state [.ref 0] [.frz (zs.map .int)] = .ok (.ref s) mm ∧ Sd mm s c := by
  rw [run_step (as := [.ref 0]) t_law_state rfl]
  dsimp only
  let cs : List Int := zs.map absI
  let m0 : Mem := [.frz (zs.map .int)]
  let m1 : Mem := [.frz (zs.map .int), .lst (cs.map .int)]
  let m2 : Mem := [.frz (zs.map .int), .lst (cs.map .int), .lst []]
  have elc : evE dat.T (run dat.T W dat.defs n) (.lc (.blt .abs [(.var 2)]) 2 (.of (.var 0)) []) (entry ⟨1, 3, [], b_law_state⟩ [.ref 0]) m0 = .ok (.ref 1) m1 := by
    refine e_lc0 (w := ⟨zs.map .int, some (0, false)⟩) (i_of (e_var rfl) rfl) ?_
    have z := lc_still (m := m0) (w := ⟨zs.map .int, some (0, false)⟩) (elt := fun x m2 => evE dat.T (run dat.T W dat.defs n) (.blt .abs [(.var 2)]) (List.set (entry ⟨1, 3, [], b_law_state⟩ [.ref 0]) 2 (.val x)) m2) (g := fun x => match x with | .int i => .int (absI i) | x => x)
      (fun acc => (MV.eqbs_iff _ _).mpr rfl) (zs.map .int) [] (fun x hx acc => by
        obtain ⟨i, _, rfl⟩ := List.mem_map.mp hx
        exact e_blt (l_one (e_var rfl)) rfl) (by rw [List.length_map, List.length_nil]; omega)
    have e2 : (zs.map MV.int).map (fun x => match x with | .int i => MV.int (absI i) | x => x) = cs.map MV.int := by
      show _ = (zs.map absI).map MV.int
      rw [List.map_map, List.map_map]
      rfl
    rw [e2] at z
    exact z
  have a1 := s_asg (T := dat.T) (W := W) (i := 1) elc
  have ecmp : evE dat.T (run dat.T W dat.defs n) (.cmp .Eq (.var 1) (.lst [])) [.val (.ref 0), .val (.ref 1), .no] m1 = .ok (.bl cs.isEmpty) m2 := e_cmp (e_var rfl) (e_lst l_nil (le_r rfl)) (eq_empty rfl rfl)
  have fin : ∃ s c mm, evB dat.T W (run dat.T W dat.defs n) b_law_state (entry ⟨1, 3, [], b_law_state⟩ [.ref 0]) m0 = .rt (.ref s) mm ∧ Sd mm s c ∧ 1 ≤ c ∧ 1 ≤ s := by
    cases hb : cs.isEmpty with
    | true =>
      rw [hb] at ecmp
      exact ⟨4, 3, m2 ++ [.lst [.int 1]] ++ [.lst [.ref 3, .int 0, .int 1]], (b_nx a1).trans ((b_nx ((s_if_t ecmp rfl).trans ((b_nx (s_asg (e_lst (l_one e_int) (le_r rfl)))).trans b_nil))).trans (b_rt (s_ret (e_lst (l_cons (e_var rfl) (l_cons e_int (l_one e_int))) (le_r rfl))))), ⟨[1], 0, 1, ⟨rfl, rfl, by decide, by simp, by simp, by decide, by decide, by decide⟩⟩, by decide, by decide⟩
    | false =>
      rw [hb] at ecmp
      refine ⟨3, 1, m2 ++ [.lst [.ref 1, .int 0, .int 1]], (b_nx a1).trans ((b_skip ecmp rfl).trans (b_rt (s_ret (e_lst (l_cons (e_var rfl) (l_cons e_int (l_one e_int))) (le_r rfl))))), ⟨cs, 0, 1, ⟨rfl, rfl, by decide, (fun z => by rw [z] at hb; cases hb), fun z hz => ?_, by decide, by decide, by decide⟩⟩, by decide, by decide⟩
      obtain ⟨y, _, rfl⟩ := List.mem_map.mp hz
      exact absI_nn y
  obtain ⟨s, c, mm, e, hsd, hc, hs⟩ := fin
  refine ⟨s, c, mm, ?_, hsd⟩
  rw [e]
  show gcV m0 (.ref s) mm = _
  obtain ⟨cs', i, j, g⟩ := hsd.ex
  unfold gcV
  split
  · rw [if_neg (show ¬ MV.low m0.length (.ref s) = true by simp [MV.low, m0]; omega)]
    dsimp only
    rw [g.at_s]
    dsimp only
    rw [if_neg (show ¬ MO.low m0.length (.lst [.ref c, .int i, .int j]) = true by simp [MO.low, MV.lows, MV.low, m0]; omega)]
  · rfl
end
end LW
end Part_MS

section Part_C2
set_option Elab.async false
set_option linter.all false
set_option maxRecDepth 100000
set_option maxHeartbeats 4000000
/-! C2: the law. -/
namespace LW
open U
open PySem (Operator CmpOp)
local macro_rules | `(tactic| walk_at "g") => `(tactic| first | (with_reducible assumption) | (with_reducible exact getE_new) | ((with_reducible apply getE_old); walk_at "g") | ((with_reducible apply Keep.get); (with_reducible assumption); (with_reducible assumption)))
local macro_rules | `(tactic| walk_at "k") => `(tactic| first | (with_reducible exact Keep.refl) | ((with_reducible apply Keep.push); walk_at "k") | ((with_reducible apply Keep.set); walk_at "k"; ((try simp only [List.length_append, List.length_set, List.length_cons, List.length_nil]); omega)) | (with_reducible assumption))
local macro_rules | `(tactic| walk_at "d") => `(tactic| first | (with_reducible assumption) | omega | decide)
local macro_rules | `(tactic| walk_at "n") => `(tactic| first | (with_reducible assumption) | omega | exact Nat.le_of_ble_eq_true rfl | (simp only [List.length_append, List.length_cons, List.length_nil, List.length_map, List.length_reverse]; omega))
local macro_rules | `(tactic| walk_at "D") => `(tactic| first | (with_reducible assumption) | ((with_reducible apply Lf.st); (with_reducible assumption)) | ((with_reducible apply Sd.more); walk_at "D"))
local macro_rules | `(tactic| walk_at "h") => `(tactic| first | (with_reducible assumption) | omega | exact Sd.ne1 (by walk_at "D") | exact Sd.ne2 (by walk_at "D"))
local macro_rules | `(tactic| walk_at "L") => `(tactic| first | (with_reducible assumption) | ((with_reducible apply Lf.refl); walk_at "D") | ((with_reducible apply Lf.push); walk_at "L") | ((with_reducible apply Lf.thn); (with_reducible assumption); walk_at "L"))
local macro_rules | `(tactic| walk_at "a") => `(tactic| first | exact at0 | exact at1 | exact at2 | exact at3 | (with_reducible assumption) | exact (atn (by with_reducible assumption)) | exact rfl)
local macro_rules | `(tactic| walk_at "S") => `(tactic| first | (focus (simp only [Tg.put, setAll, envOf, List.map_cons, List.map_nil, List.length_cons, List.length_nil, Nat.reduceAdd, Nat.reduceSub, List.reduceReplicate, List.replicate_zero, List.cons_append, List.nil_append, List.append_nil, List.set_cons_succ, List.set_cons_zero, List.set_nil]; try exact rfl)) | exact rfl)
local macro_rules | `(tactic| walk_at "y") => `(tactic| first | fail)
local macro_rules | `(tactic| walk_at "c") => `(tactic| first | walk_at "y" | ((with_reducible refine' We.of ?h0 ?_); (case h0 => with_reducible assumption)) | ((with_reducible refine' We.exn ?h0 ?_); (case h0 => with_reducible assumption)) | with_reducible refine wi_of ?_ | with_reducible refine wi_enum ?_ | with_reducible refine wi_rng ?_)
local macro_rules | `(tactic| walk_at "o") => `(tactic| first | with_reducible refine op_cmp_eq ?_ | with_reducible refine op_cmp_lt ?_ | with_reducible refine op_str_eq ?_ | ((with_reducible refine' op_idx ?h0 ?_); (case h0 => walk_at "a")) | with_reducible refine op_add ?_ | with_reducible refine op_sub ?_ | ((with_reducible refine' op_idxl ?h0 ?h1 ?_); (case h0 => walk_at "g"); (case h1 => walk_at "a")) | with_reducible refine op_cmp_ne ?_ | with_reducible refine op_cmp_le ?_ | with_reducible refine op_cmp_gt ?_ | with_reducible refine op_cmp_ge ?_ | with_reducible refine op_str_ne ?_ | with_reducible refine op_is_non ?_ | with_reducible refine op_isnot_non ?_ | ((with_reducible refine' op_mod ?h0 ?_); (case h0 => walk_at "d")) | ((with_reducible refine' op_fdiv ?h0 ?_); (case h0 => walk_at "d")) | ((with_reducible refine' op_mul ?h0 ?_); (case h0 => walk_at "d")) | ((with_reducible refine' op_fdiv ?h0 ?_); (case h0 => walk_at "d")) | ((with_reducible refine' op_mul ?h0 ?_); (case h0 => walk_at "d")) | with_reducible refine op_neg ?_ | with_reducible refine op_lent ?_ | ((with_reducible refine' op_lenl ?h0 ?_); (case h0 => walk_at "g")) | ((with_reducible refine' op_tupl ?h0 ?_); (case h0 => walk_at "g")) | with_reducible refine op_listt ?_ | ((with_reducible refine' op_listl ?h0 ?_); (case h0 => walk_at "g")) | with_reducible refine op_abs ?_ | with_reducible refine op_intb ?_ | with_reducible refine op_slct ?_ | ((with_reducible refine' op_slcl ?h0 ?_); (case h0 => walk_at "g")) | ((with_reducible refine' op_in ?h0 ?h1 ?_); (case h0 => walk_at "g"); (case h1 => (first | assumption | rfl))) | ((with_reducible refine' op_notin ?h0 ?h1 ?_); (case h0 => walk_at "g"); (case h1 => (first | assumption | rfl))) | ((with_reducible refine' op_append ?h0 ?h1 ?_); (case h0 => walk_at "g"); (case h1 => walk_at "n")) | ((with_reducible refine' op_extend ?h0 ?h1 ?h2 ?_); (case h0 => walk_at "g"); (case h1 => walk_at "g"); (case h2 => walk_at "n")) | ((with_reducible refine' op_ladd ?h0 ?h1 ?h2 ?_); (case h0 => walk_at "g"); (case h1 => walk_at "g"); (case h2 => walk_at "n")) | ((with_reducible refine' op_tadd ?h0 ?_); (case h0 => walk_at "n")) | ((with_reducible refine' op_sadd ?h0 ?_); (case h0 => walk_at "n")) | ((with_reducible refine' op_lens ?h0 ?_); (case h0 => walk_at "n")) | ((with_reducible refine' op_slcs ?h0 ?_); (case h0 => walk_at "n")) | walk_at "y" | ((with_reducible refine' of_fld ?h0 ?_); (case h0 => exact rfl)) | ((with_reducible refine' of_cmp ?h0 ?_); (case h0 => exact rfl)) | ((with_reducible refine' of_sub ?h0 ?_); (case h0 => exact rfl)) | ((with_reducible refine' of_blt ?h0 ?_); (case h0 => exact rfl)) | ((with_reducible refine' of_rev ?h0 ?_); (case h0 => exact rfl)) | ((with_reducible refine' of_din ?h0 ?_); (case h0 => exact rfl)) | ((with_reducible refine' of_dix ?h0 ?_); (case h0 => exact rfl)))
local macro_rules | `(tactic| walk_at "e") => `(tactic| first | ((with_reducible refine' w_var ?h0 ?_); (case h0 => exact rfl)) | with_reducible refine w_int ?_ | with_reducible refine w_str ?_ | with_reducible refine w_cmp ?_ | with_reducible refine w_idx ?_ | with_reducible refine w_call0 ?_ | with_reducible refine w_bl ?_ | with_reducible refine w_non ?_ | with_reducible refine w_and ?_ | with_reducible refine w_or ?_ | with_reducible refine w_not ?_ | with_reducible refine w_bin ?_ | with_reducible refine w_tup ?_ | with_reducible refine w_lst ?_ | with_reducible refine w_blt ?_ | with_reducible refine w_bm ?_ | with_reducible refine w_meth0 ?_ | with_reducible refine w_fld ?_ | with_reducible refine w_isi ?_ | with_reducible refine w_ife ?_ | with_reducible refine w_slc10 ?_ | with_reducible refine w_slc01 ?_ | with_reducible refine w_slc11 ?_ | with_reducible refine w_slc00 ?_ | with_reducible refine w_rev ?_ | with_reducible refine w_new0 ?_ | with_reducible refine w_neg ?_ | with_reducible refine w_chain ?_ | with_reducible refine w_lc0 ?_ | with_reducible refine w_lc1 ?_ | with_reducible refine w_call ?_ | with_reducible refine w_new ?_ | with_reducible refine w_meth ?_ | walk_at "y" | with_reducible refine w_con ?_ | with_reducible refine w_din ?_ | with_reducible refine w_dix ?_ | ((with_reducible refine' w_xfld ?h0 ?h1 ?h2 ?_); (case h0 => exact rfl); (case h1 => exact rfl); (case h2 => exact rfl)) | ((with_reducible refine' w_xisi ?h0 ?_); (case h0 => exact rfl)) | with_reducible refine w_fstr ?_)
local macro_rules | `(tactic| walk_at "t") => `(tactic| first | with_reducible refine wb_cons ?_ | with_reducible refine ws_asg ?_ | with_reducible refine ws_ret ?_ | with_reducible refine ws_ifs ?_ | with_reducible refine wb_nil ?_ | with_reducible refine ws_expr ?_ | with_reducible refine ws_for ?_ | with_reducible refine ws_unp ?_ | with_reducible refine ws_setf ?_ | with_reducible refine ws_seti ?_ | ((with_reducible refine' ws_aug ?h0 ?_); (case h0 => exact rfl)) | with_reducible refine ws_try ?_ | with_reducible refine ws_whl ?_ | with_reducible refine ws_retn ?_ | with_reducible refine ws_pass ?_ | with_reducible refine ws_brk ?_ | with_reducible refine ws_cont ?_)
local macro_rules | `(tactic| walk_at "r") => `(tactic| first | with_reducible refine br_tt ?_ | with_reducible refine br_ff ?_ | with_reducible refine br_not ?_ | ((with_reducible refine' br_dt ?h0 ?_); (case h0 => walk_at "d")) | ((with_reducible refine' br_df ?h0 ?_); (case h0 => walk_at "d")) | ((with_reducible refine' br_t ?h0 ?_); (case h0 => (first | assumption | rfl))) | ((with_reducible refine' br_f ?h0 ?_); (case h0 => (first | assumption | rfl))))
local macro_rules | `(tactic| walk_at "b") => `(tactic| first | with_reducible refine tr_bl ?_ | with_reducible refine tr_tup ?_ | with_reducible refine tr_int ?_ | with_reducible refine tr_non ?_ | with_reducible refine isI ?_ | ((with_reducible refine' wk_ref ?h0 ?_); (case h0 => walk_at "g")) | ((with_reducible refine' en_ref ?h0 ?_); (case h0 => walk_at "g")) | with_reducible refine wt_tup ?_ | with_reducible refine wt_str ?_ | with_reducible refine And.intro (le_line rfl) ?_ | with_reducible refine And.intro (recv_a (by walk_at "g")) ?_ | with_reducible refine And.intro (recv_e (by walk_at "g")) ?_ | with_reducible refine And.intro recv_j ?_ | ((with_reducible refine' cl_yes ?h0 ?h1 ?_); (case h0 => exact rfl); (case h1 => exact rfl)) | ((with_reducible refine' cl_no ?h0 ?h1 ?_); (case h0 => exact rfl); (case h1 => exact rfl)) | ((with_reducible refine' rgi ?h0 ?_); (case h0 => omega)) | ((with_reducible refine' clear_of ?h0 ?_); (case h0 => exact rfl)) | ((with_reducible refine' se_of ?h0 ?_); (case h0 => walk_at "S")) | ((with_reducible refine' me_put ?h0 ?_); (case h0 => walk_at "S")) | with_reducible refine ft_cons ?_ | with_reducible refine ft_nil ?_ | walk_at "y" | ((with_reducible refine' me_of ?h0 ?_); (case h0 => exact rfl)))
local macro_rules | `(tactic| walk_at "1") => `(tactic| first | ((with_reducible show Ws _ _ _ _ _); walk_at "t") | ((with_reducible show We (evE _ _ _ _ _) _ _); walk_at "e") | with_reducible refine wl_cons ?_ | with_reducible refine wl_nil ?_ | ((with_reducible show Op _ _); walk_at "o") | ((with_reducible show Br _ _ _); walk_at "r") | ((with_reducible show We _ _ _); walk_at "c") | walk_at "b")
local macro_rules | `(tactic| walk_at "w") => `(tactic| repeat walk_at "1")
section
variable {W n : Nat} {m : Mem} {Q : MV → Mem → Prop} {X : QX}
theorem pair_run {o : Option (List Nat × Txt)} (ho : ∀ p, o = some p → p.1.length ≤ 1000 ∧ p.2.length ≤ 100 ∧ MV.fine (.str p.2) = true ∧ MV.lay (.str p.2) = true) (hk : ∀ p, o = some p → ∀ k ∈ p.1, k < 3) : run dat.T W dat.defs (n + 1) i_law_pair_is [goV o, plO o, soO o] m = .ok (.bl true) m := by
  refine run_val t_law_pair_is rfl (by walk_at "S") ?_ rfl
  cases o with
  | none =>
    dsimp only [goV, plO, soO]
    walk_at "w"
    exact ⟨rfl, by walk_at "k"⟩
  | some p =>
    obtain ⟨h1, h2, h3, h4⟩ := ho p rfl
    have h5 := hk p rfl
    dsimp only [goV, plO, soO, plV]
    walk_at "w"
    have fil : (p.1.filter fun _ => false) = [] := by simp
    refine lc_fil (l := p.1) (f := fun k : Nat => MV.int (k : Nat)) (g := fun k : Nat => MV.int (k : Nat)) (p := fun _ => false) (fun _ => rfl) (by omega) ?_ ?_ ?_
    · intro k hk acc
      walk_at "w"
      exact ⟨rfl, rfl⟩
    · intro k hk hb
      cases hb
    rw [fil]
    walk_at "w"
    refine op_nil_ne (xs := List.map (fun k : Nat => MV.int (k : Nat)) []) (by walk_at "g") (by walk_at "g") rfl rfl (by decide) ?_
    walk_at "w"
    have ff : MV.fine (.tup [.tup (stV p.1), .str p.2]) = true := fine_tup (fines_cons (fine_tup (stV_fine h5)) (fines_cons h3 rfl))
    have ll : ∀ q : List Nat, MV.lays (stV q) = true := fun q => by
      induction q with
      | nil => rfl
      | cons a q ih => exact ih
    have ly : MV.lay (.tup [.tup (stV p.1), .str p.2]) = true := by
      show (MV.lays (stV p.1) && (MV.lay (.str p.2) && true)) = true
      rw [ll, h4]
      rfl
    have dp : MV.dep (.tup [.tup (stV p.1), .str p.2]) < 1000 := by
      show max (MV.deps (stV p.1) + 1) (max 0 0) + 1 < 1000
      rw [stV_dep]
      decide
    refine op_eq_self ff ly dp ?_
    exact ⟨rfl, by walk_at "k"⟩
theorem goes_word : ∀ (t : Tm) {p : List Nat × Txt}, t.goes = some p → (p.1.length ≤ t.deep ∧ ∀ k ∈ p.1, k < 3) ∧ (p.2 = sTurn ∨ p.2 = sTake ∨ p.2 = sSum ∨ p.2 = sChoose) := fun t => by
  induction t using Tm.ind with
  | h t ih =>
    intro p hp
    cases hs : t.sortAt with
    | some x =>
      rw [goes_at hs] at hp
      cases hp
      refine ⟨⟨Nat.zero_le _, fun _ h => nomatch h⟩, ?_⟩
      cases t with
      | giv a b => cases e : a.isMk <;> simp [Tm.sortAt, e] at hs; simp [← hs]
      | sm s a b => cases e : a.isNum <;> cases e2 : b.isNum <;> simp [Tm.sortAt, e, e2] at hs; simp [← hs]
      | cho a b c => cases e : a.isNum <;> simp [Tm.sortAt, e] at hs; simp [← hs]
      | aga x b => simp [Tm.sortAt] at hs; simp [← hs]
      | _ => simp [Tm.sortAt] at hs
    | none =>
      cases ha : t.awaits with
      | none => rw [goes_no hs ha] at hp; cases hp
      | some k =>
        obtain ⟨v, hv, hg⟩ := goes_in hs ha
        rw [hg, Option.map_eq_some_iff] at hp
        obtain ⟨q, hq, rfl⟩ := hp
        have hvm := List.mem_of_getElem? hv
        have a := ih v hvm hq
        have dv := deep_part hvm
        have k3 : k < 3 := by have := few t; have := (List.getElem?_eq_some_iff.mp hv).1; omega
        refine ⟨⟨by show q.1.length + 1 ≤ _; omega, fun j hj => ?_⟩, a.2⟩
        rcases List.mem_cons.mp hj with rfl | hj
        · exact k3
        · exact a.1.2 j hj
local macro_rules | `(tactic| walk_at "y") => `(tactic| ((with_reducible refine' w_case ?h0 ?_); (case h0 => walk_at "D")))
theorem w_state {zs : List Int} (hz : zs.length ≤ 63) (k : ∀ (s c : Nat) (m' : Mem), Sd m' s c → Q (.ref s) m') : We (run dat.T W dat.defs (n + 1) i_law_state [.ref 0] [.frz (zs.map .int)]) Q X := by
  obtain ⟨s, c, m', e, h⟩ := state_ok (W := W) (n := n) hz
  exact .of e (k s c m' h)
theorem law_main {zs : List Int} (hz : zs.length ≤ 63) : Asked (run dat.T 1000 dat.defs 300 i_law) zs := by
  refine run_asked (n := 299) t_law rfl (by walk_at "S") ?_
  walk_at "w"
  refine w_state hz ?_
  intro s c M l0
  walk_at "w"
  refine fo_inv (fun _ r mm => Sd mm s c ∧ ∃ y2 y3 y4 y5 y6 y7, r = [.val (.ref 0), .val (.ref s), y2, y3, y4, y5, y6, y7]) (fun _ _ _ _ => rfl) ⟨l0, _, _, _, _, _, _, rfl⟩ ?_ ?_
  · rintro j x hx r mm ⟨l1, y2, y3, y4, y5, y6, y7, rfl⟩
    walk_at "w"
    intro t m1 hc hd l2
    unfold caseV
    walk_at "w"
    have how1 : ∀ {m : Mem}, run dat.T 1000 dat.defs 299 i_how [t.obj] m = .ok (.str (howW t)) m := fun {m} => how_run t (by omega) hc.few hc.fr (n := 1) rfl
    have spot1 : ∀ {m : Mem}, run dat.T 1000 dat.defs 299 i_spot [t.obj] m = .ok (goV t.goes) m := fun {m} => spot_run t (by omega) hc.few hc.fr (n := 1)
    have pair1 : ∀ {m : Mem}, run dat.T 1000 dat.defs 299 i_law_pair_is [goV t.goes, plO t.goes, soO t.goes] m = .ok (.bl true) m := fun {m} => pair_run (fun p hp => by
      have g := goes_word t hp
      refine ⟨by omega, ?_, ?_, ?_⟩ <;> (rcases g.2 with e | e | e | e <;> rw [e] <;> decide)) fun p hp => (goes_word t hp).1.2
    refine We.of (term_of_run t hc.ok (by omega) (n := 296)) ?_
    walk_at "w"
    refine We.of how1 ?_
    walk_at "w"
    refine br_df (fun h => h rfl) ?_
    walk_at "w"
    refine We.of spot1 ?_
    walk_at "w"
    refine We.of pair1 ?_
    walk_at "w"
    refine We.of how1 ?_
    walk_at "w"
    refine br_df (fun h => h rfl) ?_
    walk_at "w"
    refine We.of spot1 ?_
    walk_at "w"
    refine We.of pair1 ?_
    walk_at "w"
    refine mt_of (cls_obj t) (has_told t) ?_
    walk_at "w"
    refine wm_told (by omega) ?_
    walk_at "w"
    refine ne_tell hc.ok (by omega) ?_
    walk_at "w"
    exact ⟨l2.st, _, _, _, _, _, _, rfl⟩
  · rintro r mm ⟨l1, y2, y3, y4, y5, y6, y7, rfl⟩
    walk_at "w"
    rfl
end
end LW
end Part_C2

section Part_K12E
set_option Elab.async false
set_option linter.all false
set_option maxRecDepth 100000
set_option maxHeartbeats 0
namespace LW
open PySem PySem.Spec PyProof.Rows L2 U
theorem hlaw (zs : List Int) (h : zs.length ≤ 63) : Asked (U.run dat.T 1000 dat.defs 300 25) zs := law_main h
theorem room : RoomG 300 callerA := ⟨rfl, rfl, by decide, by decide⟩
end LW
open PySem PySem.W PySem.Calls PyProof.Rows
theorem PySem.Challenge.cw_usetally_k12_where_it_goes_on_holds : PySem.Challenge.rw_usetally_k12_where_it_goes_on.Holds := by
  w_on; o_law
  refine HandSHeadRun.head_any (r := LW.rowO) (q := view LW.rowO.prog [47]) (H := LW.hk) (ob := LW.ob) (M := 20000) (loose := LW.loose) (d := HandSHeadRun.topDef LW.rowO.prog 47) (kwd := []) LW.ob_eq
    (by kernel_rfl) (fun s => by kernel_rfl) LW.head (by kernel_rfl) (by kernel_rfl) (by kernel_rfl) (by rfl) (by first | assumption | decide +kernel) (by decide +kernel) ⟨rfl, rfl, rfl, rfl, rfl, by decide +kernel⟩ ?hw ?hc
  case hw => w_witness2
  case hc =>
    exact U.end_walk (l := PySem.Challenge.rw_usetally_k12_where_it_goes_on) (k := 63) (N := 300) (W := 1000) (f := 25) (df := LW.d25) (A := LW.dat) rfl (by decide) (by kernel_rfl) LW.room LW.okD LW.okF LW.okN LW.okC rfl (by kernel_rfl) (by kernel_rfl) LW.bind1 LW.bind2 LW.hlaw
end Part_K12E

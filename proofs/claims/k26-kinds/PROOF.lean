import PyProof.Rows.All
import Wide.All
import OpenK.AllK
import Wide.FinOn
import PyProof.ListMulRoad
import PyProof.FactsAll.tuple_2
import HandS.Base
import HandS.Call
import HandS.List
import HandS.TupMul
import KE.KRevSl
import HandS.Style
import HandS.ForMost
import HandS.ForExc
import HandS.Wide
import HandS.TupAny
import HandS.NoneIn
import HandS.RaiseMore
import HandS.Flow
import HandS.Defaults
import HandS.HeadWalk
import HandS.IsInst
import HandS.New
import HandS.HeadHook1
import HandS.HeadHook2
import HandS.HeadHook3
import HandS.HeadHook4
import HandS.HeadEnd
import HandS.Head0
import HandS.Head1
import HandS.Head2
import PySem.Challenge.RW_usetally_k26_kinds
section Part_UT
set_option Elab.async false
set_option linter.all false
set_option maxRecDepth 100000
set_option maxHeartbeats 4000000
/-! UT: tuple * int, the small counts too. -/
namespace U
open PySem PySem.Spec PyProof.Rows L2
/-- once: the tuple itself -/
theorem tup_mul_one (l : Addr) (items : Array Value) (n : Nat) (dd : Option Addr) (sl : Array (Option Value)) (u : Tok) :
    Meets (Builtin.«tuple.__mul__» ⟨[.ref l, .int 1 u], []⟩) (fun _ R s => s.heap.get? l = some { cls := .type "tuple", dict := dd, data := .seq items n, slots := sl } ∧ R (.ok (.ret (Value.ref l))) s) :=
  .of_wp fun prog w A R s h => by
    obtain ⟨hp, g, d, tk, os⟩ := s
    obtain ⟨hl, h⟩ := h
    have f1 := AutoSeq1.idx_int
    wp_walk using wpAny_loadPart' hl
    exact ⟨_, rfl, h⟩
/-- not once: the empty one -/
theorem tup_mul_no (l : Addr) (items : Array Value) (n : Nat) (dd : Option Addr) (sl : Array (Option Value)) (x : Int) (u : Tok) (c0 : (decide (x < -(2 ^ 63)) || decide (x ≥ 2 ^ 63)) = false) (c1 : (items.isEmpty || x == 1) = false) (c2 : (decide (x ≤ 0) || items.isEmpty) = true) :
    Meets (Builtin.«tuple.__mul__» ⟨[.ref l, .int x u], []⟩) (fun _ R s => s.heap.get? l = some { cls := .type "tuple", dict := dd, data := .seq items n, slots := sl } ∧
      R (.ok (.ret (Value.ref s.heap.objs.size))) { s with heap := s.heap.push { cls := Value.type "tuple", data := Data.seq #[] }, toks := s.toks }) :=
  .of_wp fun prog w A R s h => by
    obtain ⟨hp, g, d, tk, os⟩ := s
    obtain ⟨hl, h⟩ := h
    have f1 := AutoSeq1.idx_int
    wp_walk using wpAny_loadPart' hl
    repeat (first
      | (refine wpAny_ite_false (decide_eq_false (by rw [c0]; exact Bool.false_ne_true)) ?_; wp_walk using wpAny_loadPart' hl)
      | (refine wpAny_ite_false (decide_eq_false (by rw [c1]; exact Bool.false_ne_true)) ?_; wp_walk using wpAny_loadPart' hl)
      | (rw [if_pos c2]; wp_walk using wpAny_loadPart' hl)
      | (refine wpAny_ite_true (decide_eq_true c2) ?_; wp_walk using wpAny_loadPart' hl))
    all_goals exact ⟨_, rfl, h⟩
def rMulT (K : PySem.W.Frag) : R2 := fun x y H Q => ∃ (l : Addr) (k : Int) (xs : List V), x = .ref l ∧ y = .int k ∧ SqT K H l xs ∧ xs ≠ [] ∧ -1000 ≤ k ∧ k ≤ 1000 ∧ xs.length ≤ 1000 ∧ (k = 1 → Q (.ref l) H) ∧ (k ≠ 1 → ∀ p, H p = none → Q (.ref p) (upd H p (.tup (List.replicate k.toNat xs).flatten)))
theorem op_mulT {X : Cx} : OpR X (binaryOp .Mult) (rMulT X.K) := by
  intro pins s σ H x y v u Q I rx ry h
  obtain ⟨l, k, xs, rfl, rfl, hT, hne, h0, h1, hz, q1, q⟩ := h
  by_cases h2 : 2 ≤ k
  · exact op_repT pins s σ H _ _ v u Q I rx ry ⟨l, k, xs, rfl, rfl, hT, hne, h2, h1, hz, q (by omega)⟩
  cases rx
  obtain ⟨t, rfl⟩ := ry
  obtain ⟨its, r, ⟨⟨cls, dd, data, sl⟩, ho, hc, n, hd⟩, hs⟩ := I.tuple hT
  simp only at hc hd
  subst hc hd
  have hi : its.toArray.isEmpty = false := by
    cases its with
    | nil =>
      cases r
      exact absurd rfl hne
    | cons a b => rfl
  have road : ∀ {Q' : Value → Shared → Prop}, wpAny (model X.prog X.w) X.A (call (.builtin "tuple.__mul__") [.ref l, .int k t]) Q' X.xe s → wpAny (model X.prog X.w) X.A (binaryOp .Mult (.ref l) (.int k t)) Q' X.xe s := fun {Q'} z =>
    wpAny_binaryOp_repeat_ref (T := "tuple") (U := "int") (by decide) ⟨_, ho, rfl⟩ (fun s' => typeIs_int s' k t) noFill_tuple_mul F.fills_int_mul F.slot_int_rmul repeat_tuple F.slot_int_index.lookup
      (call_meets F.slot_int_rmul (typeIs_int s k t) F.entry_int_rmul (F.args_int_rmul_2 _ _) (int_rmul_tuple k t l its.toArray n dd sl) ⟨ho, rfl, ⟨_, ho, rfl⟩, z⟩)
  by_cases e1 : k = 1
  · subst e1
    exact road (call_meets F.slot_tuple_mul ⟨_, ho, rfl⟩ F.entry_tuple_mul (F.args_tuple_mul_2 _ _) (tup_mul_one l its.toArray n dd sl t) ⟨ho, ⟨.ref l, H, I, rfl, q1 rfl⟩⟩)
  · have c0 : (decide (k < -(2 ^ 63)) || decide (k ≥ 2 ^ 63)) = false := by
      rw [decide_eq_false (by omega), decide_eq_false (by omega)] <;> rfl
    have c1 : (its.toArray.isEmpty || k == 1) = false := by
      rw [hi, Bool.false_or]
      exact beq_eq_false_iff_ne.mpr e1
    have c2 : (decide (k ≤ 0) || its.toArray.isEmpty) = true := by
      rw [decide_eq_true (by omega)] <;> rfl
    refine road (call_meets F.slot_tuple_mul ⟨_, ho, rfl⟩ F.entry_tuple_mul (F.args_tuple_mul_2 _ _) (tup_mul_no l its.toArray n dd sl k t c0 c1 c2) ⟨ho, ?_⟩)
    have ek : (List.replicate k.toNat xs).flatten = [] := by
      rw [show k.toNat = 0 from by omega]
      rfl
    have hq := q e1 s.heap.objs.size (I.hok.fresh (Nat.le_refl _))
    rw [ek] at hq
    exact ⟨.ref s.heap.objs.size, _, I.laid (t' := s.toks) (o := .tup []) (fun b ob q => Heap.get?_push_of_some _ q) (Nat.le_refl _) ⟨by rw [sizeLine_eq]; exact Nat.zero_le _, _, .nil, IsTup.new _ _⟩, rfl, hq⟩
end U
end Part_UT

section Part_UR
set_option Elab.async false
set_option linter.all false
set_option maxRecDepth 100000
set_option maxHeartbeats 4000000
/-! UR: xs[::-1], of lists and tuples. -/
namespace U
open PySem PySem.Spec PyProof.Rows L2 PySem.Calls
section
variable {prog : Program} {w : World} {A : Around} {E : Value → Shared → Prop} {s : Shared}
theorem adj_back (n : Nat) : Builtin.Slice.sliceAdjust none none (-1) (n : Int) = ((n : Int) - 1, -1) := by
  unfold Builtin.Slice.sliceAdjust
  simp
theorem places_back (n : Nat) : Builtin.Slice.slicePlaces ((n : Int) - 1) (-1) (-1) = n := by
  unfold Builtin.Slice.slicePlaces
  simp
  split <;> omega
theorem fm_congr {α β : Type} {f g : α → Option β} : ∀ {l : List α}, (∀ x ∈ l, f x = g x) → l.filterMap f = l.filterMap g
  | [], _ => rfl
  | a :: l, h => by
    rw [List.filterMap_cons, List.filterMap_cons, h a (List.mem_cons_self ..), fm_congr fun x hx => h x (List.mem_cons_of_mem _ hx)]
theorem pick_back (xs : Array Value) : ((List.range xs.size).filterMap fun (m : Nat) => xs[(((xs.size : Int) - 1) + (m : Int) * (-1)).toNat]?).toArray = xs.toList.reverse.toArray := by
  have h := PySem.W.krv_pick xs
  unfold slicePick at h
  rw [PySem.W.krv_bounds] at h
  have h2 : ((sliceRange ((xs.size : Int) - 1) (-1) (-1)).filterMap (xs[·]?)).toArray = xs.toList.reverse.toArray := h
  rw [PySem.W.krv_sliceRange, List.filterMap_map] at h2
  rw [← h2]
  congr 1
  apply fm_congr
  intro m hm
  have hm' := List.mem_range.mp hm
  show xs[(((xs.size : Int) - 1) + (m : Int) * (-1)).toNat]? = xs[xs.size - 1 - m]?
  congr 1
  omega
theorem getItem_tuple_back {t sl : Addr} {items : Array Value} {u : Tok} {Q : Value → Shared → Prop} (ht : IsTup s.heap t items) (hs : s.heap.IsSliceOf sl .none .none (.int (-1) u))
    (h : Q (.ref s.heap.objs.size) { s with heap := s.heap.push { cls := .type "tuple", data := .seq items.toList.reverse.toArray } }) (hsz : items.size ≤ sizeLine) : wpAny (model prog w) A (getItem (.ref t) (.ref sl)) Q E s := by
  obtain ⟨os, hos, hcs, hds⟩ := id hs
  have hTs : s.TypeIs (.ref sl) "slice" := ⟨os, hos, hcs⟩
  have fits : sizeOk (.seq items.toList.reverse.toArray) := by
    show items.toList.reverse.toArray.size ≤ sizeLine
    simpa using hsz
  have parts : ∀ {A' : Around} {E' : Value → Shared → Prop} {Q' : Int × Int × Nat → Shared → Prop}, Q' ((items.size : Int) - 1, -1, items.size) s → wpAny (model prog w) A' (Builtin.Slice.sliceApplied (.ref sl) (pure (items.size : Int))) Q' E' s := fun {A' E' Q'} z => by
    unfold Builtin.Slice.sliceApplied Builtin.Slice.sliceFields
    refine wpAny_bind (wpAny_bind (wpAny_field hos hds (x := .none) rfl (wpAny_bind (wpAny_field hos hds (x := .none) rfl (wpAny_bind (wpAny_field hos hds (x := .int (-1) u) rfl (wpAny_pure ?_)))))))
    refine wpAny_bind (slicePart_int ?_)
    show wpAny _ _ (if ((-1 : Int) == 0) = true then _ else _) _ _ s
    rw [if_neg (by decide)]
    refine wpAny_bind (slicePart_none (wpAny_bind (slicePart_none (wpAny_bind (wpAny_pure ?_)))))
    show wpAny _ _ (match Builtin.Slice.sliceAdjust none none (-1) (items.size : Int) with | (lo, hi) => pure (lo, (-1 : Int), Builtin.Slice.slicePlaces lo hi (-1))) _ _ s
    rw [adj_back]
    show wpAny _ _ (pure (((items.size : Int) - 1), (-1 : Int), Builtin.Slice.slicePlaces ((items.size : Int) - 1) (-1) (-1))) _ _ s
    rw [places_back]
    exact wpAny_pure z
  unfold getItem
  try with_reducible refine wpAny_holding ?_
  first | refine wpAny_bind (wpAny_pure ?_) | skip
  refine wpAny_bind (wpAny_sequenceKey ht.typeIs (by decide) ?_)
  refine wpAny_bind (wpAny_callSpecial?_slot (name := Str.ofString "__getitem__") ht.typeIs PyProof.Rows.slot_tuple_getitem
    (wpAny_call_entry PyProof.Rows.slot_tuple_getitem ht.typeIs entry_tuple_getitem ?_ (args_tuple_getitem _ _)))
  show wpAny _ _ (Builtin.Tuple.tupleItemsOf (.ref t) >>= _) _ _ s
  refine wpAny_bind (tupleItemsOf_ ht ?_)
  refine wpAny_bind (wpAny_typeOf hTs ?_)
  rw [if_pos (by decide)]
  refine wpAny_bind (parts ?_)
  show wpAny _ _ (if ((((items.size : Int) - 1) == 0 && (-1 : Int) == 1 && items.size == items.size) = true) then _ else _) _ _ s
  rw [if_neg (by simp), pick_back]
  first
    | exact wpAny_bind (m := Builtin.Tuple.tupleExact _) (wpAny_newObj_type (wpAny_pure ⟨_, rfl, wpAny_pure h⟩) fits)
    | exact wpAny_bind (wpAny_bind (m := Builtin.Tuple.tupleExact _) (wpAny_newObj_type (wpAny_pure (wpAny_pure ⟨_, rfl, wpAny_pure h⟩)) fits))
    | exact wpAny_bind (wpAny_bind (m := Builtin.Tuple.tupleExact _) (wpAny_newObj_type (wpAny_pure ⟨_, rfl, wpAny_pure h⟩) fits))
end
/-- x[::-1] -/
def tRevA (K : PySem.W.Frag) (te : TE) : TE := fun σ H Q => te σ H fun x H1 => (∃ a xs, x = .ref a ∧ SqL K H1 a xs ∧ ∀ p, H1 p = none → Q (.ref p) (upd H1 p (.lst xs.reverse))) ∨ ∃ a xs, x = .ref a ∧ SqT K H1 a xs ∧ ∀ p, H1 p = none → Q (.ref p) (upd H1 p (.tup xs.reverse))
theorem pe_revA {X : Cx} {e : Expr} {te : TE} {k : Nat} {p1 p2 p3 pos : Pos} (he : PE X e te) : PE X (.Subscript e (.Slice none none (some (.UnaryOp .USub (.Constant (.int 1) k p1) p2)) p3) pos) (tRevA X.K te) := by
  refine ⟨fun pins s σ H Q I h => ?_⟩
  refine Subscript_ (thn (he.run pins s σ H _ I h) fun v s1 ⟨x, H1, I1, r1, q1⟩ => ?_)
  have step : PO X (some (.UnaryOp .USub (.Constant (.int 1) k p1) p2)) (tPart (tUn (rU fun i => .int (-i)) (tC (.int 1)))) := po_some (pe_un un_neg pe_int)
  refine wpAny_Slice (thn (po_none.run pins s1 σ H1 (fun o H2 => o = none ∧ H2 = H1) I1 ⟨rfl, rfl⟩) fun vl s2 ⟨l, H2, I2, pl, el, e2⟩ => ?_)
  subst el e2
  refine thn (po_none.run pins s2 σ H2 (fun o H3 => o = none ∧ H3 = H2) I2 ⟨rfl, rfl⟩) fun vu s3 ⟨u, H3, I3, pu, eu, e3⟩ => ?_
  subst eu e3
  refine thn (step.run pins s3 σ H3 (fun o H4 => o = some (-1) ∧ H4 = H3) I3 ⟨1, rfl, -1, rfl, rfl, rfl⟩) fun vs s4 ⟨o, H4, I4, ps, eo, e4⟩ => ?_
  subst eo e4
  have I5 : Inv X pins σ H4 { s4 with heap := s4.heap.push { cls := .type "slice", data := .fields #[vl, vu, vs] } } := I4.kept (t' := s4.toks) fun b ob q => Heap.get?_push_of_some _ q
  rcases q1 with ⟨a, xs, rfl, hx, q⟩ | ⟨a, xs, rfl, hx, q⟩
  · cases r1
    obtain ⟨its, r, ht, hz⟩ := I5.list hx
    have hlen := r.length
    show wpAny (model X.prog X.w) X.A (subscriptTail e (.Slice none none (some (.UnaryOp .USub (.Constant (.int 1) k p1) p2)) p3) (.ref a) (.ref s4.heap.objs.size)) (EP X pins σ Q) X.xe _
    refine tail_any (ops := [.ref a, .ref s4.heap.objs.size]) ht.isList.typeIs (PySem.slot_list_getitem.lookup) ?_ (by with_unfolding_all rfl)
    refine wpAny_getItem_list_slice ht.isList (Heap.IsSliceOf.new _ vl vu vs) pl pu ps (by decide) ?_ (by rw [List.size_toArray]; omega)
    rw [PySem.W.krv_pick]
    refine ⟨.ref _, _, I5.laid (t' := s4.toks) (o := .lst xs.reverse) (fun b ob q => Heap.get?_push_of_some _ q) (Nat.le_refl _) ⟨by rw [List.length_reverse]; exact hz, _, 0, r.reverse, Heap.get?_push_size _ rfl⟩, rfl, q _ (I5.hok.fresh (Nat.le_refl _))⟩
  · cases r1
    obtain ⟨its, r, ht, hz⟩ := I5.tuple hx
    have hlen : its.toArray.size = xs.length := by rw [List.size_toArray]; exact r.length.symm
    cases pl
    cases pu
    cases ps with
    | int _ t =>
      show wpAny (model X.prog X.w) X.A (subscriptTail e (.Slice none none (some (.UnaryOp .USub (.Constant (.int 1) k p1) p2)) p3) (.ref a) (.ref s4.heap.objs.size)) (EP X pins σ Q) X.xe _
      refine tail_any (ops := [.ref a, .ref s4.heap.objs.size]) ht.typeIs PyProof.Rows.slot_tuple_getitem.lookup ?_ (by with_unfolding_all rfl)
      refine getItem_tuple_back ht (Heap.IsSliceOf.new ..) ?_ (by rw [hlen]; exact hz)
      exact ⟨.ref _, _, I5.laid (t' := s4.toks) (o := .tup xs.reverse) (fun b ob q => Heap.get?_push_of_some _ q) (Nat.le_refl _) ⟨by rw [List.length_reverse]; exact hz, _, r.reverse, IsTup.new _ _⟩, rfl, q _ (I5.hok.fresh (Nat.le_refl _))⟩
end U
end Part_UR

section Part_U1
set_option Elab.async false
set_option linter.all false
set_option maxRecDepth 100000
set_option maxHeartbeats 4000000
/-! U1: a small deterministic language of values, memory, expressions and statements, and its evaluator. No Python model in sight. -/
namespace U
open PySem (Operator CmpOp Str PyData)

/-- a text: its code points -/
abbrev Txt := List Nat
/-- a value: plain things, tuples and finished objects are told whole; what may change is told by its number in the memory -/
inductive MV where
  | non | bl (b : Bool) | int (i : Int) | str (x : Txt) | tup (xs : List MV) | obj (c : Nat) (fs : List MV) | ref (n : Nat)
  deriving Inhabited
/-- what stands in the memory -/
inductive MO where
  | lst (xs : List MV) | frz (xs : List MV) | dct (kvs : List (MV × MV)) | ins (c : Nat) (fs : List MV) | dead
  deriving Inhabited
abbrev Mem := List MO

mutual
def MV.eqb : MV → MV → Bool
  | .non, .non => true
  | .bl a, .bl b => a == b
  | .int a, .int b => a == b
  | .str a, .str b => a == b
  | .tup a, .tup b => MV.eqbs a b
  | .obj c a, .obj d b => c == d && MV.eqbs a b
  | .ref a, .ref b => a == b
  | _, _ => false
def MV.eqbs : List MV → List MV → Bool
  | [], [] => true
  | x :: xs, y :: ys => MV.eqb x y && MV.eqbs xs ys
  | _, _ => false
end
mutual
theorem MV.eqb_iff : ∀ (a b : MV), MV.eqb a b = true ↔ a = b
  | .non, b => by cases b <;> simp [MV.eqb]
  | .bl _, b => by cases b <;> simp [MV.eqb]
  | .int _, b => by cases b <;> simp [MV.eqb]
  | .str _, b => by cases b <;> simp [MV.eqb]
  | .tup xs, b => by cases b <;> simp [MV.eqb, MV.eqbs_iff xs]
  | .obj c xs, b => by cases b <;> simp [MV.eqb, MV.eqbs_iff xs]
  | .ref _, b => by cases b <;> simp [MV.eqb]
theorem MV.eqbs_iff : ∀ (a b : List MV), MV.eqbs a b = true ↔ a = b
  | [], b => by cases b <;> simp [MV.eqbs]
  | x :: xs, b => by cases b <;> simp [MV.eqbs, MV.eqb_iff x, MV.eqbs_iff xs]
end
instance : DecidableEq MV := fun a b => if h : MV.eqb a b = true then isTrue ((MV.eqb_iff a b).mp h) else isFalse fun e => h ((MV.eqb_iff a b).mpr e)
def eqKv : List (MV × MV) → List (MV × MV) → Bool
  | [], [] => true
  | x :: xs, y :: ys => decide (x.1 = y.1) && (decide (x.2 = y.2) && eqKv xs ys)
  | _, _ => false
theorem eqKv_iff : ∀ (a b : List (MV × MV)), eqKv a b = true ↔ a = b
  | [], b => by cases b <;> simp [eqKv]
  | x :: xs, b => by
    cases b with
    | nil => simp [eqKv]
    | cons y ys =>
      obtain ⟨x1, x2⟩ := x
      obtain ⟨y1, y2⟩ := y
      simp [eqKv, eqKv_iff xs, and_assoc]
def MO.eqb : MO → MO → Bool
  | .lst a, .lst b => MV.eqbs a b
  | .frz a, .frz b => MV.eqbs a b
  | .dct a, .dct b => eqKv a b
  | .ins c a, .ins d b => c == d && MV.eqbs a b
  | .dead, .dead => true
  | _, _ => false
theorem MO.eqb_iff (a b : MO) : MO.eqb a b = true ↔ a = b := by
  cases a <;> cases b <;> simp [MO.eqb, MV.eqbs_iff, eqKv_iff]
instance : DecidableEq MO := fun a b => if h : MO.eqb a b = true then isTrue ((MO.eqb_iff a b).mp h) else isFalse fun e => h ((MO.eqb_iff a b).mpr e)

/-! ### numbers of the memory below a bound -/
mutual
def MV.low (n : Nat) : MV → Bool
  | .tup xs => MV.lows n xs
  | .obj _ xs => MV.lows n xs
  | .ref k => decide (k < n)
  | _ => true
def MV.lows (n : Nat) : List MV → Bool
  | [] => true
  | x :: xs => MV.low n x && MV.lows n xs
end
def MO.low (n : Nat) : MO → Bool
  | .lst xs => MV.lows n xs
  | .frz xs => MV.lows n xs
  | .dct kvs => kvs.all fun p => p.1.low n && p.2.low n
  | .ins _ fs => MV.lows n fs
  | .dead => true
theorem MV.lows_iff {n : Nat} : ∀ {xs : List MV}, MV.lows n xs = true ↔ ∀ x ∈ xs, x.low n = true
  | [] => by simp [MV.lows]
  | x :: xs => by simp [MV.lows, MV.lows_iff (xs := xs)]

/-! ### what comes of an evaluation -/
inductive R (α : Type) where
  | ok (a : α) (m : Mem) | ex (c : Nat) (fs : List MV) (m : Mem) | fail
abbrev M (α : Type) := Mem → R α
def R.bind {α β : Type} (r : R α) (f : α → M β) : R β := match r with
  | .ok a m => f a m
  | .ex c fs m => .ex c fs m
  | .fail => .fail
def lift (o : Option (MV × Mem)) : R MV := match o with
  | some p => .ok p.1 p.2
  | none => .fail
abbrev CallF := Nat → List MV → M MV

/-! ### the tables -/
/-- kinds for isinstance: a class of one's own, or a built-in one -/
inductive Ty where
  | own (c : Nat) | int | bool | str | tup | lst | dct
  deriving DecidableEq
/-- what the evaluator asks of the program's classes and constants. fields: how many attributes an object of the class has in the end; fix: the place of an attribute, by its number; frozen: never changed once it is made;
   init: its __init__; meth: a method, by its number; sub: one class below (or the same as) another -/
structure Tab where
  ncls : Nat
  con : Nat → MV
  fields : Nat → Nat
  fix : Nat → Nat → Option Nat
  frozen : Nat → Bool
  init : Nat → Option Nat
  meth : Nat → Nat → Option Nat
  sub : Nat → Nat → Bool
  exf : Nat → Nat → Option Nat
  eqm : Nat → Option Nat

/-! ### the syntax -/
inductive BF where
  | len | abs | repr | str | tuple | list | sum | all | any | int
  deriving DecidableEq
inductive BM where
  | append | extend | join | pop | index | count
  deriving DecidableEq
mutual
inductive CE where
  | var (i : Nat) | int (i : Int) | str (x : Txt) | bl (b : Bool) | non | con (k : Nat)
  | bin (op : Operator) (a b : CE) | neg (a : CE) | not (a : CE)
  | cmp (op : CmpOp) (a b : CE) | chain (o p : CmpOp) (a b c : CE)
  | and (a b : CE) | or (a b : CE) | ife (c a b : CE)
  | call (f : Nat) (ix : List Nat) (es : List CE) | new (c : Nat) (ix : List Nat) (es : List CE) | meth (o : CE) (m : Nat) (ix : List Nat) (es : List CE)
  | fld (o : CE) (f : Nat) | idx (o i : CE) | rev (o : CE) | slc (o : CE) (lo hi : List CE)
  | lst (es : List CE) | tup (es : List CE)
  | lc (elt : CE) (i : Nat) (src : CI) (cond : List CE)
  | blt (b : BF) (es : List CE) | bm (o : CE) (m : BM) (es : List CE)
  | isi (e : CE) (ts : List Ty)
  | xfld (i : Nat) (f : Nat) | xisi (i : Nat) (ts : List Ty)
inductive CI where
  | of (e : CE) | rng1 (a : CE) | rng2 (a b : CE)
end
/-- what a value is stored to -/
inductive Tg where
  | one (i : Nat) | tup (is : List Nat)
inductive CS where
  | asg (i : Nat) (e : CE) | unp (is : List Nat) (e : CE) | seti (o i e : CE) | setf (o : CE) (f : Nat) (e : CE) | aug (i : Nat) (op : Operator) (e : CE) | augf (o : CE) (f : Nat) (op : Operator) (e : CE)
  | expr (e : CE) | ret (e : CE) | retn | pass | brk | cont
  | ifs (c : CE) (a b : List CS) | whl (c : CE) (b : List CS) | for_ (t : Tg) (src : CI) (b : List CS) | bad
  | raise (c : Nat) (es : List CE)
  | try_ (body : List CS) (hs : List (List Nat × Nat × List CS))
structure FD where
  np : Nat
  ns : Nat
  dfl : List MV
  body : List CS

/-! ### operators, by values -/
def line : Nat := 16777216
/-- a value's data, for == and repr; lists by their numbers, to the depth given -/
def MV.data (m : Mem) : Nat → MV → Option PyData
  | 0, _ => none
  | k + 1, v => match v with
    | .non => some .none
    | .bl b => some (.bool b)
    | .int i => some (.int i)
    | .str x => some (.str ⟨x.toArray⟩)
    | .tup xs => (xs.mapM (MV.data m k)).map .tuple
    | .obj _ _ => none
    | .ref n => match m[n]? with
      | some (.lst xs) => (xs.mapM (MV.data m k)).map .list
      | some (.frz xs) => (xs.mapM (MV.data m k)).map .list
      | _ => none
def dataFuel : Nat := 1000
/-- plain things that == tells apart by what they are -/
def plainEq : MV → MV → Bool
  | .non, .non => true | .non, .int _ => true | .int _, .non => true | .non, .bl _ => true | .bl _, .non => true | .non, .str _ => true | .str _, .non => true
  | .int _, .int _ => true | .bl _, .bl _ => true | .str _, .str _ => true
  | .int _, .str _ => true | .str _, .int _ => true | .bl _, .str _ => true | .str _, .bl _ => true
  | _, _ => false
def peq (m : Mem) (a b : MV) : Option Bool :=
  if plainEq a b then some (decide (a = b)) else
  match MV.data m dataFuel a, MV.data m dataFuel b with
  | some d, some e => if d.canLay0 && e.canLay0 then some (PyData.eqv d e) else none
  | _, _ => none
def mkTup (vs : List MV) (m : Mem) : Option (MV × Mem) := if vs.length ≤ line then some (.tup vs, m) else none
def mkLst (vs : List MV) (m : Mem) : Option (MV × Mem) := if vs.length ≤ line then some (.ref m.length, m ++ [.lst vs]) else none
def alloc (o : MO) (m : Mem) : Option (MV × Mem) := some (.ref m.length, m ++ [o])
def binop (op : Operator) (a b : MV) (m : Mem) : Option (MV × Mem) := match op, a, b with
  | .Add, .int i, .int j => some (.int (i + j), m)
  | .Add, .str x, .str y => if x.length + y.length ≤ line then some (.str (x ++ y), m) else none
  | .Add, .tup x, .tup y => if x.length + y.length ≤ line then some (.tup (x ++ y), m) else none
  | .Add, .ref i, .ref j => match m[i]?, m[j]? with
    | some (.lst x), some (.lst y) => if x.length + y.length ≤ line then alloc (.lst (x ++ y)) m else none
    | _, _ => none
  | .Sub, .int i, .int j => some (.int (i - j), m)
  | .Mult, .tup xs, .int j => if xs.isEmpty = false ∧ -1000 ≤ j ∧ j ≤ 1000 ∧ xs.length ≤ 1000 then some (.tup (List.replicate j.toNat xs).flatten, m) else none
  | .Mult, .int i, .int j => if i.natAbs < 2 ^ 60000 ∧ j.natAbs < 2 ^ 60000 then some (.int (i * j), m) else none
  | .FloorDiv, .int i, .int j => if 0 < j ∧ j < 2 ^ 300 then some (.int (i / j), m) else none
  | .Mod, .int i, .int j => if 0 < j then some (.int (i % j), m) else none
  | .Pow, .int i, .int j => if 0 ≤ j ∧ j ≤ 1000 ∧ i.natAbs < 2 ^ 64 then some (.int (i ^ j.toNat), m) else none
  | _, _, _ => none
def flat : MV → Bool
  | .non => true
  | .bl _ => true
  | .int _ => true
  | .str _ => true
  | _ => false
/-- is one text in another -/
def isIn (x y : Txt) : Bool := !(PySem.Builtin.Str.occurrences (⟨y.toArray⟩ : Str) ⟨x.toArray⟩ 0 (⟨y.toArray⟩ : Str).length 1).isEmpty
def flatEq : MV → MV → Bool
  | .bl a, .int j => (if a then 1 else 0) == j
  | .int i, .bl b => i == (if b then 1 else 0)
  | a, b => decide (a = b)
/-- x in [..], plain things alone -/
def inSeq (x : MV) (ys : List MV) : Option Bool := if flat x && ys.all flat then some (ys.any fun y => flatEq y x) else none
def memb (m : Mem) (a b : MV) : Option Bool := match b with
  | .str y => match a with
    | .str x => some (isIn x y)
    | _ => none
  | .tup ys => inSeq a ys
  | .ref n => match m[n]? with
    | some (.lst ys) => inSeq a ys
    | some (.frz ys) => inSeq a ys
    | _ => none
  | _ => none
def isSame (m : Mem) (a b : MV) : Option Bool := match b with
  | .non => some (decide (a = .non))
  | .bl c => match a with
    | .bl b => some (decide (b = c))
    | _ => none
  | .ref j => match a with
    | .ref i => match m[i]?, m[j]? with
      | some (.lst _), some (.lst _) => some (decide (i = j))
      | some (.ins _ _), some (.ins _ _) => some (decide (i = j))
      | _, _ => none
    | _ => none
  | _ => none
def okb (o : Option Bool) (m : Mem) : Option (MV × Mem) := match o with
  | some b => some (.bl b, m)
  | none => none
def cmpop (op : CmpOp) (a b : MV) (m : Mem) : Option (MV × Mem) := match op with
  | .Eq => okb (peq m a b) m
  | .NotEq => okb ((peq m a b).map (!·)) m
  | .Lt => match a, b with
    | .int i, .int j => some (.bl (decide (i < j)), m)
    | _, _ => none
  | .LtE => match a, b with
    | .int i, .int j => some (.bl (decide (i ≤ j)), m)
    | _, _ => none
  | .Gt => match a, b with
    | .int i, .int j => some (.bl (decide (j < i)), m)
    | _, _ => none
  | .GtE => match a, b with
    | .int i, .int j => some (.bl (decide (j ≤ i)), m)
    | _, _ => none
  | .In => okb (memb m a b) m
  | .NotIn => okb ((memb m a b).map (!·)) m
  | .Is => okb (isSame m a b) m
  | .IsNot => okb ((isSame m a b).map (!·)) m
/-- truth -/
def truth (m : Mem) : MV → Option Bool
  | .non => some false
  | .bl b => some b
  | .int i => some (i != 0)
  | .str x => if x.length ≤ line then some (!x.isEmpty) else none
  | .tup x => some (!x.isEmpty)
  | .ref n => match m[n]? with
    | some (.lst xs) => some (!xs.isEmpty)
    | some (.frz xs) => some (!xs.isEmpty)
    | some (.dct xs) => some (!xs.isEmpty)
    | _ => none
  | _ => none
def getAt (v : MV) (i : Int) (m : Mem) : Option (MV × Mem) := match v with
  | .str x => if x.length ≤ line then match L2.atI x i with
    | some c => some (.str [c], m)
    | none => none
    else none
  | .tup xs => match L2.atI xs i with
    | some y => some (y, m)
    | none => none
  | .ref n => match m[n]? with
    | some (.lst xs) => match L2.atI xs i with
      | some y => some (y, m)
      | none => none
    | some (.frz xs) => match L2.atI xs i with
      | some y => some (y, m)
      | none => none
    | _ => none
  | _ => none
def subscr (v i : MV) (m : Mem) : Option (MV × Mem) := match i with
  | .int k => getAt v k m
  | _ => none
def cut {α : Type} (xs : List α) (lo hi : Option Int) : List α := (xs.drop (HT.sIx xs.length 0 lo)).take (HT.sIx xs.length xs.length hi - HT.sIx xs.length 0 lo)
def slice (v : MV) (lo hi : Option Int) (m : Mem) : Option (MV × Mem) := match v with
  | .str x => if x.length ≤ line then some (.str (cut x lo hi), m) else none
  | .tup xs => some (.tup (cut xs lo hi), m)
  | .ref n => match m[n]? with
    | some (.lst xs) => alloc (.lst (cut xs lo hi)) m
    | some (.frz xs) => alloc (.lst (cut xs lo hi)) m
    | _ => none
  | _ => none
/-- x[::-1] -/
def revv (v : MV) (m : Mem) : Option (MV × Mem) := match v with
  | .tup xs => some (.tup xs.reverse, m)
  | .ref n => match m[n]? with
    | some (.lst xs) => alloc (.lst xs.reverse) m
    | some (.frz xs) => alloc (.lst xs.reverse) m
    | _ => none
  | _ => none
def txtOf (i : Int) : Txt := (Str.ofString (toString i)).cps.toList
def allStr : List MV → Option (List Txt)
  | [] => some []
  | .str b :: r => (allStr r).map (b :: ·)
  | _ => none
def joined (sep : Txt) : List Txt → Txt
  | [] => []
  | [x] => x
  | x :: r => x ++ sep ++ joined sep r
def allBl : List MV → Option (List Bool)
  | [] => some []
  | .bl b :: r => (allBl r).map (b :: ·)
  | _ => none
def allInt : List MV → Option (List Int)
  | [] => some []
  | .int b :: r => (allInt r).map (b :: ·)
  | _ => none
def items (m : Mem) : MV → Option (List MV)
  | .tup xs => some xs
  | .ref n => match m[n]? with
    | some (.lst xs) => some xs
    | some (.frz xs) => some xs
    | _ => none
  | _ => none
/-- built-in functions -/
def builtin (b : BF) (vs : List MV) (m : Mem) : Option (MV × Mem) := match b, vs with
  | .len, [.str x] => if x.length ≤ line then some (.int x.length, m) else none
  | .len, [.tup x] => some (.int x.length, m)
  | .len, [.ref n] => match m[n]? with
    | some (.lst xs) => some (.int xs.length, m)
    | some (.frz xs) => some (.int xs.length, m)
    | _ => none
  | .abs, [.int i] => some (.int (if i < 0 then -i else i), m)
  | .repr, [v] => match MV.data m dataFuel v with
    | some d => if d.showable = true ∧ d.hasDict = false ∧ d.shown.length ≤ line then some (.str d.shown.cps.toList, m) else none
    | none => none
  | .str, [.int i] => if i.natAbs.log2 < 1920 then some (.str (txtOf i), m) else none
  | .str, [.str x] => some (.str x, m)
  | .tuple, [.tup x] => some (.tup x, m)
  | .tuple, [.ref n] => match m[n]? with
    | some (.lst xs) => some (.tup xs, m)
    | some (.frz xs) => some (.tup xs, m)
    | _ => none
  | .list, [.tup x] => alloc (.lst x) m
  | .list, [.ref n] => match m[n]? with
    | some (.lst xs) => alloc (.lst xs) m
    | some (.frz xs) => alloc (.lst xs) m
    | _ => none
  | .sum, [.ref n] => match m[n]? with
    | some (.lst xs) => match allInt xs with
      | some is => some (.int is.sum, m)
      | none => none
    | _ => none
  | .all, [.ref n] => match m[n]? with
    | some (.lst xs) => match allBl xs with
      | some bs => some (.bl (bs.all id), m)
      | none => none
    | _ => none
  | .any, [.ref n] => match m[n]? with
    | some (.lst xs) => match allBl xs with
      | some bs => some (.bl (bs.any id), m)
      | none => none
    | _ => none
  | .int, [.int i] => some (.int i, m)
  | .int, [.bl b] => some (.int (if b then 1 else 0), m)
  | _, _ => none
/-- methods of built-in types -/
def method (b : BM) (o : MV) (vs : List MV) (m : Mem) : Option (MV × Mem) := match b, o, vs with
  | .append, .ref n, [v] => match m[n]? with
    | some (.lst xs) => if xs.length < line then some (.non, m.set n (.lst (xs ++ [v]))) else none
    | _ => none
  | .extend, .ref n, [.ref k] => match m[n]?, m[k]? with
    | some (.lst xs), some (.lst ys) => if xs.length + ys.length ≤ line then some (.non, m.set n (.lst (xs ++ ys))) else none
    | _, _ => none
  | .join, .str s, [v] => match items m v with
    | some xs => match allStr xs with
      | some ys => if (ys.map (·.length)).sum + ys.length * s.length ≤ line then some (.str (joined s ys), m) else none
      | none => none
    | none => none
  | _, _, _ => none
/-- is it of the type whose method is called -/
def recv (m : Mem) (b : BM) (x : MV) : Bool := match b, x with
  | .join, .str _ => true
  | .join, _ => false
  | _, .ref n => match m[n]? with
    | some (.lst _) => true
    | _ => false
  | _, _ => false
def onRecv {α : Type} (m : Mem) (b : BM) (x : MV) (k : R α) : R α := if recv m b x = true then k else .fail
def vty (T : Tab) (m : Mem) (v : MV) : Option (Option Ty) := match v with
  | .non => some none
  | .bl _ => some (some .bool)
  | .int _ => some (some .int)
  | .str _ => some (some .str)
  | .tup _ => some (some .tup)
  | .obj c _ => if c < T.ncls then some (some (.own c)) else none
  | .ref n => match m[n]? with
    | some (.lst _) => some (some .lst)
    | some (.frz _) => some (some .lst)
    | some (.dct _) => some (some .dct)
    | some (.ins c _) => if c < T.ncls then some (some (.own c)) else none
    | _ => none
def isTy (T : Tab) (a : Option Ty) (t : Ty) : Bool := match a with
  | none => false
  | some .bool => decide (t = .bool ∨ t = .int)
  | some (.own c) => match t with
    | .own d => T.sub c d
    | _ => false
  | some a => decide (a = t)
def tyIn (T : Tab) : Ty → Bool
  | .own d => decide (d < T.ncls)
  | _ => true
def tyIs (T : Tab) (m : Mem) (v : MV) (t : Ty) : Option Bool := match vty T m v with
  | some a => if tyIn T t then some (isTy T a t) else none
  | none => none
def tyAny (T : Tab) (m : Mem) (v : MV) : List Ty → Option Bool
  | [] => some false
  | t :: ts => match tyIs T m v t, tyAny T m v ts with
    | some a, some b => some (a || b)
    | _, _ => none

/-- by the truth of a value -/
def onTru {α : Type} (m : Mem) (x : MV) (k : Bool → R α) : R α := match truth m x with
  | some b => k b
  | none => .fail
def negv (x : MV) (m : Mem) : Option (MV × Mem) := match x with
  | .int i => some (.int (-i), m)
  | _ => none

/-! ### the frame -/
inductive Sl where
  | no | val (v : MV) | exn (c : Nat) (fs : List MV)
abbrev Env := List Sl
inductive RS where
  | nx (r : Env) (m : Mem) | bk (r : Env) (m : Mem) | ct (r : Env) (m : Mem) | rt (v : MV) (m : Mem) | ex (c : Nat) (fs : List MV) (r : Env) (m : Mem) | fail
def RS.seq (a : RS) (f : Env → Mem → RS) : RS := match a with
  | .nx r m => f r m
  | a => a
/-- an expression within a statement -/
def R.st (a : R MV) (r : Env) (f : MV → Mem → RS) : RS := match a with
  | .ok v m => f v m
  | .ex c fs m => .ex c fs r m
  | .fail => .fail
def onTruS (m : Mem) (x : MV) (k : Bool → RS) : RS := match truth m x with
  | some b => k b
  | none => .fail
/-- the value in a slot -/
def look (r : Env) (i : Nat) (m : Mem) : R MV := match r[i]? with
  | some (.val v) => .ok v m
  | _ => .fail
def rng (lo hi : Int) : List MV := (List.range (hi - lo).toNat).map fun (i : Nat) => .int (lo + i)
/-- what a loop walks: the items, and the list that must stand still while it is walked -/
structure Walked where
  items : List MV
  src : Option Nat
def Walked.still (w : Walked) (m : Mem) : Bool := match w.src with
  | none => true
  | some n => match m[n]? with
    | some (.lst xs) => MV.eqbs xs w.items
    | some (.frz xs) => MV.eqbs xs w.items
    | _ => false
def walkOf (v : MV) (m : Mem) : Option Walked := match v with
  | .str x => some ⟨x.map fun c => .str [c], none⟩
  | .tup xs => some ⟨xs, none⟩
  | .ref n => match m[n]? with
    | some (.lst xs) => some ⟨xs, some n⟩
    | some (.frz xs) => some ⟨xs, some n⟩
    | _ => none
  | _ => none
def liftW (o : Option Walked) (m : Mem) : R Walked := match o with
  | some w => .ok w m
  | none => .fail
def rng1 (x : MV) : Option Walked := match x with
  | .int n => if -(2 ^ 62) ≤ n ∧ n < 2 ^ 62 then some ⟨rng 0 n, none⟩ else none
  | _ => none
def rng2 (x y : MV) : Option Walked := match x, y with
  | .int i, .int j => if -(2 ^ 62) ≤ i ∧ i < 2 ^ 62 ∧ -(2 ^ 62) ≤ j ∧ j < 2 ^ 62 then some ⟨rng i j, none⟩ else none
  | _, _ => none
/-- a loop over what is walked -/
def forGo (w : Walked) (body : MV → Env → Mem → RS) : List MV → Env → Mem → RS
  | [], r, m => if w.still m then .nx r m else .fail
  | x :: xs, r, m => if w.still m then match body x r m with
      | .nx r' m' => forGo w body xs r' m'
      | .ct r' m' => forGo w body xs r' m'
      | .bk r' m' => .nx r' m'
      | a => a
    else .fail
/-- a comprehension, its list at n -/
def lcGo (w : Walked) (n : Nat) (test elt : MV → M MV) : List MV → Mem → R MV
  | [], m => if w.still m then .ok (.ref n) m else .fail
  | x :: xs, m => if w.still m then match test x m with
      | .ok t m' => onTru m' t fun b => if b = true then match elt x m' with
          | .ok v m'' => match m''[n]? with
            | some (.lst acc) => if acc.length < line then lcGo w n test elt xs (m''.set n (.lst (acc ++ [v]))) else .fail
            | _ => .fail
          | _ => .fail
        else lcGo w n test elt xs m'
      | _ => .fail
    else .fail
def whileGo (c : Env → Mem → R MV) (b : Env → Mem → RS) : Nat → Env → Mem → RS
  | 0, _, _ => .fail
  | n + 1, r, m => (c r m).st r fun v m1 => onTruS m1 v fun k => if k = true then match b r m1 with
      | .nx r' m' => whileGo c b n r' m'
      | .ct r' m' => whileGo c b n r' m'
      | .bk r' m' => .nx r' m'
      | a => a
    else .nx r m1
def okOld (n : Nat) : List MO → List MO → Bool
  | [], _ => true
  | _ :: _, [] => false
  | a :: as, b :: bs => (decide (a = b) || b.low n) && okOld n as bs
/-- an own __init__ has run on the object at n, the next one behind the memory m0: a finished object, or one that may change -/
def made (T : Tab) (c : Nat) (m0 m : Mem) : R MV := match m[m0.length]? with
  | some (.ins d fs) => if d = c then
      if T.frozen c then
        if fs.length = T.fields c then (if okOld m0.length m0 m ∧ m.length = m0.length + 1 ∧ MV.lows m0.length fs then .ok (.obj c fs) (m.take m0.length) else .ok (.obj c fs) (m.set m0.length .dead)) else .fail
      else .ok (.ref m0.length) m
    else .fail
  | _ => .fail
def newObj (T : Tab) (cl : CallF) (c : Nat) (vs : List MV) (m : Mem) : R MV := match T.init c with
  | some f => (cl f (.ref m.length :: vs) (m ++ [.ins c []])).bind fun v m2 => match v with
    | .non => made T c m m2
    | _ => .fail
  | none => match vs with
    | [] => made T c m (m ++ [.ins c []])
    | _ => .fail
def getF (T : Tab) (v : MV) (f : Nat) (m : Mem) : Option (MV × Mem) := match v with
  | .obj c fs => match T.fix c f with
    | some k => match fs[k]? with
      | some y => some (y, m)
      | none => none
    | none => none
  | .ref n => match m[n]? with
    | some (.ins c fs) => match T.fix c f with
      | some k => match fs[k]? with
        | some y => some (y, m)
        | none => none
      | none => none
    | _ => none
  | _ => none
/-- store an attribute: the next one of an object that is being made, or one that is there of an object that may change -/
def setF (T : Tab) (v : MV) (f : Nat) (y : MV) (m : Mem) : Option Mem := match v with
  | .ref n => match m[n]? with
    | some (.ins c fs) => match T.fix c f with
      | some k => if k = fs.length ∧ fs.length < T.fields c then some (m.set n (.ins c (fs ++ [y]))) else if k < fs.length ∧ T.frozen c = false then some (m.set n (.ins c (fs.set k y))) else none
      | none => none
    | _ => none
  | _ => none
def setI (v i y : MV) (m : Mem) : Option Mem := match v, i with
  | .ref n, .int j => match m[n]? with
    | some (.lst xs) => (L2.ixN xs.length j).map fun k => m.set n (.lst (xs.set k y))
    | _ => none
  | _, _ => none
def clsOf (m : Mem) : MV → Option Nat
  | .obj c _ => some c
  | .ref n => match m[n]? with
    | some (.ins c _) => some c
    | _ => none
  | _ => none
def onMeth {α : Type} (T : Tab) (m : Mem) (x : MV) (mm : Nat) (k : Nat → R α) : R α := match clsOf m x with
  | some c => match T.meth c mm with
    | some f => k f
    | none => .fail
  | none => .fail
/-- a part of a slice -/
def onPart {α : Type} (ls : List MV) (k : Option Int → R α) : R α := match ls with
  | [] => k none
  | [.int a] => k (some a)
  | _ => .fail
def setAll (r : Env) : List Nat → List MV → Option Env
  | [], [] => some r
  | i :: is, v :: vs => setAll (r.set i (.val v)) is vs
  | _, _ => none
def Tg.put (t : Tg) (v : MV) (r : Env) : Option Env := match t with
  | .one i => some (r.set i (.val v))
  | .tup is => match v with
    | .tup xs => setAll r is xs
    | _ => none
def augop (op : Operator) (a b : Int) : Option Int := match op with
  | .Add => some (a + b)
  | .Sub => some (a - b)
  | _ => none
def xTy (T : Tab) (c : Nat) : List Ty → Bool
  | [] => false
  | .own d :: ts => T.sub c d || xTy T c ts
  | _ :: ts => xTy T c ts

/-- the arguments as written, in the parameters' order: ix tells where each stands (none: they stand so) -/
def pick {α : Type} : List Nat → List α → List α
  | [], _ => []
  | k :: ks, l => match l[k]? with
    | some x => x :: pick ks l
    | none => pick ks l
def ord {α : Type} (ix : List Nat) (l : List α) : List α := match ix with
  | [] => l
  | k :: ks => pick (k :: ks) l

/-! ### the evaluator -/
section
variable (T : Tab) (W : Nat) (cl : CallF)
mutual
def evE : CE → Env → Mem → R MV
  | .var i, r, m => look r i m
  | .int i, _, m => .ok (.int i) m
  | .str x, _, m => .ok (.str x) m
  | .bl b, _, m => .ok (.bl b) m
  | .non, _, m => .ok .non m
  | .con k, _, m => .ok (T.con k) m
  | .bin op a b, r, m => (evE a r m).bind fun x m1 => (evE b r m1).bind fun y m2 => lift (binop op x y m2)
  | .neg a, r, m => (evE a r m).bind fun x m1 => lift (negv x m1)
  | .not a, r, m => (evE a r m).bind fun x m1 => onTru m1 x fun b => .ok (.bl (!b)) m1
  | .cmp op a b, r, m => (evE a r m).bind fun x m1 => (evE b r m1).bind fun y m2 => lift (cmpop op x y m2)
  | .chain o p a b c, r, m => (evE a r m).bind fun x m1 => (evE b r m1).bind fun y m2 => (lift (cmpop o x y m2)).bind fun z m3 => onTru m3 z fun b => if b = true then (evE c r m3).bind fun u m4 => lift (cmpop p y u m4) else .ok (.bl false) m3
  | .and a b, r, m => (evE a r m).bind fun x m1 => onTru m1 x fun k => if k = true then evE b r m1 else .ok x m1
  | .or a b, r, m => (evE a r m).bind fun x m1 => onTru m1 x fun k => if k = true then .ok x m1 else evE b r m1
  | .ife c a b, r, m => (evE c r m).bind fun x m1 => onTru m1 x fun k => if k = true then evE a r m1 else evE b r m1
  | .call f ix es, r, m => (evL es r m).bind fun vs m1 => cl f (ord ix vs) m1
  | .new c ix es, r, m => (evL es r m).bind fun vs m1 => newObj T cl c (ord ix vs) m1
  | .meth o mm ix es, r, m => (evE o r m).bind fun x m1 => onMeth T m1 x mm fun f => (evL es r m1).bind fun vs m2 => cl f (x :: ord ix vs) m2
  | .fld o f, r, m => (evE o r m).bind fun x m1 => lift (getF T x f m1)
  | .idx o i, r, m => (evE o r m).bind fun x m1 => (evE i r m1).bind fun y m2 => lift (subscr x y m2)
  | .slc o lo hi, r, m => (evE o r m).bind fun x m1 => (evL lo r m1).bind fun ls m2 => onPart ls fun a => (evL hi r m2).bind fun hs m3 => onPart hs fun b => lift (slice x a b m3)
  | .rev o, r, m => (evE o r m).bind fun x m1 => lift (revv x m1)
  | .lst es, r, m => (evL es r m).bind fun vs m1 => lift (mkLst vs m1)
  | .tup es, r, m => (evL es r m).bind fun vs m1 => lift (mkTup vs m1)
  | .lc elt i src cond, r, m => (evI src r m).bind fun w m1 => lcGo w m1.length (fun x m2 => match cond with
      | [] => .ok (.bl true) m2
      | [c] => evE c (r.set i (.val x)) m2
      | _ => .fail) (fun x m2 => evE elt (r.set i (.val x)) m2) w.items (m1 ++ [.lst []])
  | .blt b es, r, m => (evL es r m).bind fun vs m1 => lift (builtin b vs m1)
  | .bm o b es, r, m => (evE o r m).bind fun x m1 => onRecv m1 b x ((evL es r m1).bind fun vs m2 => lift (method b x vs m2))
  | .isi e ts, r, m => (evE e r m).bind fun x m1 => lift (okb (tyAny T m1 x ts) m1)
  | .xfld i f, r, m => match r[i]? with
    | some (.exn c fs) => match T.exf c f with
      | some k => match fs[k]? with
        | some y => .ok y m
        | none => .fail
      | none => .fail
    | _ => .fail
  | .xisi i ts, r, m => match r[i]? with
    | some (.exn c _) => .ok (.bl (xTy T c ts)) m
    | _ => .fail
def evL : List CE → Env → Mem → R (List MV)
  | [], _, m => .ok [] m
  | e :: es, r, m => (evE e r m).bind fun v m1 => (evL es r m1).bind fun vs m2 => .ok (v :: vs) m2
def evI : CI → Env → Mem → R Walked
  | .of e, r, m => (evE e r m).bind fun v m1 => liftW (walkOf v m1) m1
  | .rng1 a, r, m => (evE a r m).bind fun x m1 => liftW (rng1 x) m1
  | .rng2 a b, r, m => (evE a r m).bind fun x m1 => (evE b r m1).bind fun y m2 => liftW (rng2 x y) m2
end
mutual
def evS : CS → Env → Mem → RS
  | .asg i e, r, m => (evE T cl e r m).st r fun v m1 => .nx (r.set i (.val v)) m1
  | .unp is e, r, m => (evE T cl e r m).st r fun v m1 => match (Tg.tup is).put v r with
    | some r' => .nx r' m1
    | none => .fail
  | .seti o i e, r, m => (evE T cl e r m).st r fun y m1 => (evE T cl o r m1).st r fun x m2 => (evE T cl i r m2).st r fun j m3 => match setI x j y m3 with
    | some m4 => .nx r m4
    | none => .fail
  | .setf o f e, r, m => (evE T cl e r m).st r fun y m1 => (evE T cl o r m1).st r fun x m2 => match setF T x f y m2 with
    | some m3 => .nx r m3
    | none => .fail
  | .aug i op e, r, m => match r[i]? with
    | some (.val x) => (evE T cl e r m).st r fun y m1 => match x, y with
      | .int a, .int b => match augop op a b with
        | some z => .nx (r.set i (.val (.int z))) m1
        | none => .fail
      | _, _ => .fail
    | _ => .fail
  | .augf o f op e, r, m => (evE T cl o r m).st r fun x m1 => match getF T x f m1 with
    | some (.int a, m2) => (evE T cl e r m2).st r fun y m3 => match y with
      | .int b => match op with
        | .Add => match setF T x f (.int (a + b)) m3 with
          | some m4 => .nx r m4
          | none => .fail
        | .Sub => match setF T x f (.int (a - b)) m3 with
          | some m4 => .nx r m4
          | none => .fail
        | _ => .fail
      | _ => .fail
    | _ => .fail
  | .expr e, r, m => (evE T cl e r m).st r fun _ m1 => .nx r m1
  | .ret e, r, m => (evE T cl e r m).st r fun v m1 => .rt v m1
  | .retn, _, m => .rt .non m
  | .pass, r, m => .nx r m
  | .bad, _, _ => .fail
  | .brk, r, m => .bk r m
  | .cont, r, m => .ct r m
  | .ifs c a b, r, m => (evE T cl c r m).st r fun v m1 => onTruS m1 v fun k => if k = true then evB a r m1 else evB b r m1
  | .whl c b, r, m => whileGo (evE T cl c) (evB b) W r m
  | .for_ i src b, r, m => match evI T cl src r m with
    | .ok w m1 => forGo w (fun x r' m' => match i.put x r' with | some r2 => evB b r2 m' | none => .fail) w.items r m1
    | .ex c fs m1 => .ex c fs r m1
    | .fail => .fail
  | .raise c es, r, m => match evL T cl es r m with
    | .ok vs m1 => if vs.length = T.fields c then .ex c vs r m1 else if T.fields c = 0 then .ex c [] r m1 else .fail
    | .ex d fs m1 => .ex d fs r m1
    | .fail => .fail
  | .try_ b hs, r, m => match evB b r m with
    | .ex c fs r1 m1 => evH hs c fs r1 m1
    | a => a
def evH : List (List Nat × Nat × List CS) → Nat → List MV → Env → Mem → RS
  | [], c, fs, r, m => .ex c fs r m
  | (ds, i, b) :: hs, c, fs, r, m => if ds.any (T.sub c) then match evB b (r.set i (.exn c fs)) m with
      | .nx r' m' => .nx (r'.set i .no) m'
      | .bk r' m' => .bk (r'.set i .no) m'
      | .ct r' m' => .ct (r'.set i .no) m'
      | .rt v m' => .rt v m'
      | _ => .fail
    else evH hs c fs r m
def evB : List CS → Env → Mem → RS
  | [], r, m => .nx r m
  | s :: ss, r, m => match evS s r m with
    | .nx r' m' => evB ss r' m'
    | a => a
end
end

/-! ### calls: what a call leaves behind is cleared where nothing told hangs on it -/
def gcV (m0 : Mem) (v : MV) (m : Mem) : R MV :=
  if okOld m0.length m0 m then
    if v.low m0.length then .ok v (m.take m0.length)
    else match v with
      | .ref k => match m[k]? with
        | some o => if o.low m0.length then .ok (.ref m0.length) (m.take m0.length ++ [o]) else .ok v m
        | none => .fail
      | _ => .ok v m
  else .ok v m
def gcX (m0 : Mem) (c : Nat) (fs : List MV) (m : Mem) : R MV :=
  if okOld m0.length m0 m && MV.lows m0.length fs then .ex c fs (m.take m0.length) else .ex c fs m
def RS.out (m0 : Mem) : RS → R MV
  | .nx _ m => gcV m0 .non m
  | .rt v m => gcV m0 v m
  | .ex c fs _ m => gcX m0 c fs m
  | _ => .fail
def entry (fd : FD) (vs : List MV) : Env := vs.map .val ++ List.replicate (fd.ns - vs.length) .no
def pad (fd : FD) (vs : List MV) : List MV := vs ++ fd.dfl.drop (fd.dfl.length - (fd.np - vs.length))
def run (T : Tab) (W : Nat) (defs : Nat → Option FD) : Nat → CallF
  | 0, _, _, _ => .fail
  | n + 1, f, vs, m => match defs f with
    | some fd => if (pad fd vs).length = fd.np then (evB T W (run T W defs n) fd.body (entry fd (pad fd vs)) m).out m else .fail
    | none => .fail
end U
end Part_U1

section Part_U2
set_option Elab.async false
set_option linter.all false
set_option maxRecDepth 100000
set_option maxHeartbeats 4000000
/-! U2: how values and memory stand in the layer's heap; what an evaluation promises of it. -/
namespace U
open PySem PySem.Spec PyProof.Rows L2

structure Dat where
  K : PySem.W.Frag
  ca : Nat → Addr
  fn : Nat → List Str
  xf : Nat → Str
  T : Tab
  inj : ∀ c d, T.frozen c = true → ca c = ca d → c = d

mutual
inductive RV (D : Dat) (i : List Addr) (H : Hp) : V → MV → Prop
  | non : RV D i H .non .non
  | bl (b : Bool) : RV D i H (.bl b) (.bl b)
  | int (n : Int) : RV D i H (.int n) (.int n)
  | str (x : Txt) : RV D i H (.str ⟨x.toArray⟩) (.str x)
  | tup {a : Addr} {vs : List V} {xs : List MV} : SqT D.K H a vs → RVs D i H vs xs → RV D i H (.ref a) (.tup xs)
  | obj {a dx : Addr} {fs : List (Str × V)} {c : Nat} {xs : List MV} : H a = some (.ins (D.ca c) dx fs) → D.T.frozen c = true → fs.map (·.1) = D.fn c → RVs D i H (fs.map (·.2)) xs → RV D i H (.ref a) (.obj c xs)
  | ref {a : Addr} {n : Nat} : i[n]? = some a → RV D i H (.ref a) (.ref n)
inductive RVs (D : Dat) (i : List Addr) (H : Hp) : List V → List MV → Prop
  | nil : RVs D i H [] []
  | cons {v : V} {x : MV} {vs : List V} {xs : List MV} : RV D i H v x → RVs D i H vs xs → RVs D i H (v :: vs) (x :: xs)
end
section
variable {D : Dat} {i i' i'' : List Addr} {H H' H'' : Hp}
theorem RVs.length : ∀ {vs : List V} {xs : List MV}, RVs D i H vs xs → vs.length = xs.length
  | _, _, .nil => rfl
  | _, _, .cons _ t => by rw [List.length_cons, List.length_cons, RVs.length t]
theorem RVs.append : ∀ {vs ws : List V} {xs ys : List MV}, RVs D i H vs xs → RVs D i H ws ys → RVs D i H (vs ++ ws) (xs ++ ys)
  | _, _, _, _, .nil, h => h
  | _, _, _, _, .cons r t, h => .cons r (RVs.append t h)
theorem RVs.take : ∀ {vs : List V} {xs : List MV} (n : Nat), RVs D i H vs xs → RVs D i H (vs.take n) (xs.take n)
  | _, _, 0, _ => .nil
  | _, _, _ + 1, .nil => .nil
  | _, _, n + 1, .cons r t => .cons r (RVs.take n t)
theorem RVs.drop : ∀ {vs : List V} {xs : List MV} (n : Nat), RVs D i H vs xs → RVs D i H (vs.drop n) (xs.drop n)
  | _, _, 0, h => h
  | _, _, _ + 1, .nil => .nil
  | _, _, n + 1, .cons r t => RVs.drop n t
theorem RVs.get : ∀ {vs : List V} {xs : List MV} {n : Nat} {x : MV}, RVs D i H vs xs → xs[n]? = some x → ∃ v, vs[n]? = some v ∧ RV D i H v x
  | _, _, _, _, .nil, e => by simp at e
  | _, _, 0, _, .cons r _, e => by simp at e; subst e; exact ⟨_, rfl, r⟩
  | _, _, n + 1, x, .cons _ t, e => by
    obtain ⟨v, h1, h2⟩ := RVs.get (n := n) (x := x) t (by simpa using e)
    exact ⟨v, by simpa using h1, h2⟩
theorem RVs.reverse : ∀ {vs : List V} {xs : List MV}, RVs D i H vs xs → RVs D i H vs.reverse xs.reverse
  | _, _, .nil => .nil
  | _, _, .cons r t => by
    rw [List.reverse_cons, List.reverse_cons]
    exact (RVs.reverse t).append (.cons r .nil)
theorem RVs.rep {vs : List V} {xs : List MV} (r : RVs D i H vs xs) : ∀ n : Nat, RVs D i H (List.replicate n vs).flatten (List.replicate n xs).flatten
  | 0 => .nil
  | n + 1 => by
    rw [List.replicate_succ, List.replicate_succ, List.flatten_cons, List.flatten_cons]
    exact r.append (RVs.rep r n)
theorem RVs.set {v : V} {x : MV} (r : RV D i H v x) : ∀ {vs : List V} {xs : List MV} (n : Nat), RVs D i H vs xs → RVs D i H (vs.set n v) (xs.set n x)
  | _, _, _, .nil => .nil
  | _, _, 0, .cons _ t => .cons r t
  | _, _, n + 1, .cons q t => .cons q (RVs.set r n t)
theorem RVs.one {v : V} {x : MV} (r : RV D i H v x) : RVs D i H [v] [x] := .cons r .nil

/-- what never changes -/
def Sol (D : Dat) : HO → Prop
  | .tup _ => True
  | .frz _ _ => True
  | .xd _ => True
  | .ins C _ fs => ∃ c, C = D.ca c ∧ D.T.frozen c = true ∧ fs.map (·.1) = D.fn c
  | _ => False
/-- the heap has gone on: the numbers stay, what was told stays told -/
structure Ext (D : Dat) (i : List Addr) (H : Hp) (i' : List Addr) (H' : Hp) : Prop where
  pre : ∀ (n : Nat) (a : Addr), i[n]? = some a → i'[n]? = some a
  sol : ∀ (a : Addr) (o : HO), H a = some o → Sol D o → H' a = some o
theorem Ext.refl : Ext D i H i H := ⟨fun _ _ h => h, fun _ _ h _ => h⟩
theorem Ext.trans (a : Ext D i H i' H') (b : Ext D i' H' i'' H'') : Ext D i H i'' H'' := ⟨fun n x h => b.pre n x (a.pre n x h), fun x o h s => b.sol x o (a.sol x o h s) s⟩
theorem SqT.ext {K : PySem.W.Frag} {a : Addr} {xs : List V} (e : Ext D i H i' H') (h : SqT K H a xs) : SqT K H' a xs := by
  rcases h with (h | ⟨o, h⟩) | h
  · exact .inl (.inl (e.sol _ _ h trivial))
  · exact .inl (.inr ⟨o, e.sol _ _ h trivial⟩)
  · exact .inr h
mutual
theorem RV.ext (e : Ext D i H i' H') : ∀ {v : V} {x : MV}, RV D i H v x → RV D i' H' v x
  | _, _, .non => .non
  | _, _, .bl b => .bl b
  | _, _, .int n => .int n
  | _, _, .str x => .str x
  | _, _, .tup h r => .tup (SqT.ext e h) (RVs.ext e r)
  | _, _, .obj h f g r => .obj (e.sol _ _ h ⟨_, rfl, f, g⟩) f g (RVs.ext e r)
  | _, _, .ref h => .ref (e.pre _ _ h)
theorem RVs.ext (e : Ext D i H i' H') : ∀ {vs : List V} {xs : List MV}, RVs D i H vs xs → RVs D i' H' vs xs
  | _, _, .nil => .nil
  | _, _, .cons r t => .cons (RV.ext e r) (RVs.ext e t)
end
/-- a key -/
def RKey : Key → MV → Prop
  | .inl n, v => v = .int n
  | .inr s, v => v = .str s.cps.toList
inductive RKvs (D : Dat) (i : List Addr) (H : Hp) : List (Key × V) → List (MV × MV) → Prop
  | nil : RKvs D i H [] []
  | cons {k : Key} {v : V} {x y : MV} {ks : List (Key × V)} {kvs : List (MV × MV)} : RKey k x → RV D i H v y → RKvs D i H ks kvs → RKvs D i H ((k, v) :: ks) ((x, y) :: kvs)
theorem RKvs.ext (e : Ext D i H i' H') : ∀ {ks : List (Key × V)} {kvs : List (MV × MV)}, RKvs D i H ks kvs → RKvs D i' H' ks kvs
  | _, _, .nil => .nil
  | _, _, .cons k r t => .cons k (RV.ext e r) (RKvs.ext e t)
/-- a list that is never written -/
def SqF (K : PySem.W.Frag) (H : Hp) (a : Addr) (vs : List V) : Prop := (∃ o, H a = some (.frz o (.lst vs))) ∨ ∃ (o : Obj) (its : Array Value) (n : Nat), K.lookup a = some o ∧ o.cls = .type "list" ∧ o.dict = none ∧ o.data = .seq its n ∧ its.size ≤ sizeLine ∧ Vals vs its.toList
theorem SqF.sq {K : PySem.W.Frag} {H : Hp} {a : Addr} {vs : List V} (h : SqF K H a vs) : SqL K H a vs := by
  rcases h with ⟨o, h⟩ | h
  · exact .inl (.inr ⟨o, h⟩)
  · exact .inr h
theorem SqF.ext {K : PySem.W.Frag} {a : Addr} {vs : List V} (e : Ext D i H i' H') (h : SqF K H a vs) : SqF K H' a vs := by
  rcases h with ⟨o, h⟩ | h
  · exact .inl ⟨o, e.sol _ _ h trivial⟩
  · exact .inr h
/-- what stands at a number -/
def RO (D : Dat) (i : List Addr) (H : Hp) (a : Addr) : MO → Prop
  | .lst xs => ∃ vs, H a = some (.lst vs) ∧ RVs D i H vs xs
  | .frz xs => ∃ vs, SqF D.K H a vs ∧ RVs D i H vs xs
  | .dct kvs => ∃ ks, H a = some (.dK ks) ∧ RKvs D i H ks kvs
  | .ins c fs => ∃ dx hs, H a = some (.ins (D.ca c) dx hs) ∧ hs.map (·.1) = (D.fn c).take fs.length ∧ RVs D i H (hs.map (·.2)) fs ∧ fs.length ≤ (D.fn c).length
  | .dead => True
def live : MO → Bool
  | .lst _ => true
  | .dct _ => true
  | .ins _ _ => true
  | _ => false
structure Sim (D : Dat) (i : List Addr) (m : Mem) (H : Hp) : Prop where
  len : i.length = m.length
  at_ : ∀ (n : Nat) (a : Addr) (o : MO), i[n]? = some a → m[n]? = some o → RO D i H a o
  nd : ∀ (n k : Nat) (a : Addr) (o u : MO), i[n]? = some a → i[k]? = some a → m[n]? = some o → m[k]? = some u → live o = true → live u = true → n = k
theorem RO.live_at {a : Addr} {o : MO} (r : RO D i H a o) (l : live o = true) : ∃ u, H a = some u ∧ ∀ f v, u ≠ .frz f v := by
  cases o with
  | lst xs => obtain ⟨vs, h, _⟩ := r; exact ⟨_, h, fun _ _ z => nomatch z⟩
  | dct kvs => obtain ⟨vs, h, _⟩ := r; exact ⟨_, h, fun _ _ z => nomatch z⟩
  | ins c fs => obtain ⟨dx, hs, h, _⟩ := r; exact ⟨_, h, fun _ _ z => nomatch z⟩
  | _ => cases l
/-- an object that is not written stays described -/
theorem RO.ext {a : Addr} {o : MO} (e : Ext D i H i' H') (k : live o = true → ∀ u, H a = some u → H' a = some u) (r : RO D i H a o) : RO D i' H' a o := by
  cases o with
  | lst xs => obtain ⟨vs, h, q⟩ := r; exact ⟨vs, k rfl _ h, q.ext e⟩
  | frz xs => obtain ⟨vs, h, q⟩ := r; exact ⟨vs, h.ext e, q.ext e⟩
  | dct kvs => obtain ⟨vs, h, q⟩ := r; exact ⟨vs, k rfl _ h, q.ext e⟩
  | ins c fs => obtain ⟨dx, hs, h, q1, q2, q3⟩ := r; exact ⟨dx, hs, k rfl _ h, q1, q2.ext e, q3⟩
  | dead => trivial
end

/-! ### a new thing in the heap -/
section
variable {D : Dat} {i : List Addr} {m : Mem} {H : Hp} {p : Addr} {o : HO}
theorem Ext.fresh (h : H p = none) (i : List Addr) : Ext D i H i (upd H p o) := ⟨fun _ _ h => h, fun a u e _ => by rw [upd_ne (ne_of_none e h)]; exact e⟩
/-- the heap has gone on, the memory's things stand as they stood -/
theorem Sim.ext {H' : Hp} (S : Sim D i m H) (e : Ext D i H i H') (k : ∀ (a : Addr) (u : HO), H a = some u → H' a = some u) : Sim D i m H' :=
  ⟨S.len, fun n a u e1 e2 => (S.at_ n a u e1 e2).ext e (fun _ v z => k a v z), S.nd⟩
/-- a thing beside the memory: a tuple, say -/
theorem Sim.beside (S : Sim D i m H) (h : H p = none) : Sim D i m (upd H p o) := S.ext (Ext.fresh h i) fun a u e => by rw [upd_ne (ne_of_none e h)]; exact e
theorem getE_push {α : Type} {l : List α} {x : α} {n : Nat} {y : α} (h : (l ++ [x])[n]? = some y) : l[n]? = some y ∨ (n = l.length ∧ y = x) := by
  by_cases q : n < l.length
  · rw [List.getElem?_append_left q] at h
    exact .inl h
  · rw [List.getElem?_append_right (by omega)] at h
    have e : n - l.length = 0 := by
      have := (List.getElem?_eq_some_iff.mp h).1
      simp at this
      omega
    rw [e] at h
    exact .inr ⟨by omega, by simpa using h.symm⟩
theorem getE_old {α : Type} {l : List α} {x : α} {n : Nat} {y : α} (h : l[n]? = some y) : (l ++ [x])[n]? = some y := by
  rw [List.getElem?_append_left (List.getElem?_eq_some_iff.mp h).1]
  exact h
theorem getE_new {α : Type} {l : List α} {x : α} : (l ++ [x])[l.length]? = some x := by simp
/-- a new thing of the memory -/
theorem Sim.alloc {H' : Hp} {u : MO} (S : Sim D i m H) (h : H p = none) (e : Ext D i H (i ++ [p]) H') (k : ∀ (a : Addr) (u : HO), H a = some u → H' a = some u) (r : RO D (i ++ [p]) H' p u) : Sim D (i ++ [p]) (m ++ [u]) H' := by
  refine ⟨by rw [List.length_append, List.length_append, S.len]; rfl, fun n a v e1 e2 => ?_, fun n k a v w e1 e2 e3 e4 l1 l2 => ?_⟩
  · rcases getE_push e1 with e1 | ⟨e1, e1'⟩
    · rcases getE_push e2 with e2 | ⟨e2, _⟩
      · exact (S.at_ n a v e1 e2).ext e fun _ u z => k a u z
      · have h1 := (List.getElem?_eq_some_iff.mp e1).1
        have h2 := S.len
        omega
    · rcases getE_push e2 with e2 | ⟨_, e2⟩
      · have h1 := (List.getElem?_eq_some_iff.mp e2).1
        have h2 := S.len
        omega
      · subst e1' e2
        exact r
  · have old : ∀ (n : Nat) (a : Addr) (v : MO), i[n]? = some a → m[n]? = some v → live v = true → a ≠ p := fun n a v e1 e2 l q => by
      obtain ⟨u, z, _⟩ := (S.at_ n a v e1 e2).live_at l
      rw [q, h] at z; cases z
    rcases getE_push e1 with e1 | ⟨e1, e1'⟩ <;> rcases getE_push e2 with e2 | ⟨e2, e2'⟩ <;> rcases getE_push e3 with e3 | ⟨e3, e3'⟩ <;> rcases getE_push e4 with e4 | ⟨e4, e4'⟩
    all_goals first
      | exact S.nd n k a v w e1 e2 e3 e4 l1 l2
      | (exfalso; have h1 := S.len; (try have h2 := (List.getElem?_eq_some_iff.mp e1).1); (try have h3 := (List.getElem?_eq_some_iff.mp e2).1); (try have h4 := (List.getElem?_eq_some_iff.mp e3).1); (try have h5 := (List.getElem?_eq_some_iff.mp e4).1); omega)
      | exact absurd e2' (old n a v e1 e3 l1)
      | exact absurd e1' (old k a w e2 e4 l2)
      | (rw [e1, e2])
theorem Ext.alloc (h : H p = none) : Ext D i H (i ++ [p]) (upd H p o) := ⟨fun _ _ e => getE_old e, (Ext.fresh h i).sol⟩
theorem Sim.lst {vs : List V} {xs : List MV} (S : Sim D i m H) (h : H p = none) (r : RVs D i H vs xs) : Sim D (i ++ [p]) (m ++ [.lst xs]) (upd H p (.lst vs)) :=
  S.alloc h (Ext.alloc h) (fun a u e => by rw [upd_ne (ne_of_none e h)]; exact e) ⟨vs, upd_same, r.ext (Ext.alloc h)⟩
/-- a live thing is written -/
theorem Sim.write {n : Nat} {a : Addr} {u0 u : MO} {H' : Hp} (S : Sim D i m H) (e1 : i[n]? = some a) (e2 : m[n]? = some u0) (l : live u0 = true) (e : Ext D i H i H') (k : ∀ (b : Addr) (v : HO), b ≠ a → H b = some v → H' b = some v) (r : RO D i H' a u) :
    Sim D i (m.set n u) H' := by
  have hn : n < m.length := (List.getElem?_eq_some_iff.mp e2).1
  refine ⟨by rw [List.length_set]; exact S.len, fun j b v z1 z2 => ?_, fun j k' b v w z1 z2 z3 z4 l1 l2 => ?_⟩
  · by_cases q : j = n
    · subst q
      rw [List.getElem?_set_self hn] at z2
      cases z2
      rw [e1] at z1
      cases z1
      exact r
    · rw [List.getElem?_set_ne (Ne.symm q)] at z2
      refine (S.at_ j b v z1 z2).ext e fun lv w z => k b w (fun ba => q ?_) z
      subst ba
      exact S.nd j n b v u0 z1 e1 z2 e2 lv l
  · have back : ∀ (j : Nat) (b : Addr) (v : MO), i[j]? = some b → (m.set n u)[j]? = some v → live v = true → ∃ v', m[j]? = some v' ∧ (live v' = true) := fun j b v z1 z2 lv => by
      by_cases q : j = n
      · subst q; exact ⟨u0, e2, l⟩
      · rw [List.getElem?_set_ne (Ne.symm q)] at z2
        exact ⟨v, z2, lv⟩
    obtain ⟨v', y1, y2⟩ := back j b v z1 z3 l1
    obtain ⟨w', y3, y4⟩ := back k' b w z2 z4 l2
    exact S.nd j k' b v' w' z1 z2 y1 y3 y2 y4
theorem Ext.write {a : Addr} {u : HO} (e : H a = some u) (s : ¬ Sol D u) : Ext D i H i (upd H a o) := ⟨fun _ _ z => z, fun b v z sv => by
  by_cases q : b = a
  · subst q; rw [e] at z; cases z; exact absurd sv s
  · rw [upd_ne q]; exact z⟩
/-- what is forgotten -/
theorem Sim.take (S : Sim D i m H) (n : Nat) : Sim D (i.take n) (m.take n) H → Sim D (i.take n) (m.take n) H := fun z => z
end

/-! ### the frame -/
def RX (D : Dat) (i : List Addr) (H : Hp) (c : Nat) (fs : List MV) (cls : Value) (d : Option Addr) : Prop :=
  cls = .ref (D.ca c) ∧ ((fs = [] ∧ d = none) ∨ ∃ dd y v, fs = [v] ∧ d = some dd ∧ H dd = some (.xd [(D.xf c, y)]) ∧ RV D i H y v)
/-- an exception that is pinned in a suite -/
def XPin (X : Cx) (a : Addr) (cls : Value) (d : Option Addr) : Prop := ∃ oe vs, (a, oe) ∈ X.pn ∧ Zc cls d oe ∧ oe.data = .fields vs
def RS1 (X : Cx) (D : Dat) (i : List Addr) (H : Hp) : Sl → Option V → Prop
  | .no, _ => True
  | .val v, o => ∃ x, o = some x ∧ RV D i H x v
  | .exn c fs, o => X.calm = false ∧ ∃ a cls d, o = some (.ref a) ∧ RX D i H c fs cls d ∧ XPin X a cls d
def RE (X : Cx) (D : Dat) (i : List Addr) (H : Hp) (r : Env) (σ : L2.St) : Prop := r.length = σ.length ∧ ∀ (k : Nat) (s : Sl), r[k]? = some s → ∃ o, σ[k]? = some o ∧ RS1 X D i H s o
section
variable {X : Cx} {D : Dat} {i i' : List Addr} {H H' : Hp} {r : Env} {σ : L2.St}
theorem RX.ext {c : Nat} {fs : List MV} {cls : Value} {d : Option Addr} (e : Ext D i H i' H') (h : RX D i H c fs cls d) : RX D i' H' c fs cls d := by
  obtain ⟨h1, h2 | ⟨dd, y, v, h2, h3, h4, h5⟩⟩ := h
  · exact ⟨h1, .inl h2⟩
  · exact ⟨h1, .inr ⟨dd, y, v, h2, h3, e.sol _ _ h4 trivial, h5.ext e⟩⟩
theorem RS1.ext {s : Sl} {o : Option V} (e : Ext D i H i' H') (h : RS1 X D i H s o) : RS1 X D i' H' s o := by
  cases s with
  | no => trivial
  | val v => obtain ⟨x, h1, h2⟩ := h; exact ⟨x, h1, h2.ext e⟩
  | exn c fs => obtain ⟨h0, a, cls, d, h1, h2, h3⟩ := h; exact ⟨h0, a, cls, d, h1, h2.ext e, h3⟩
theorem RE.ext (e : Ext D i H i' H') (h : RE X D i H r σ) : RE X D i' H' r σ := ⟨h.1, fun k s z => let ⟨o, h1, h2⟩ := h.2 k s z; ⟨o, h1, h2.ext e⟩⟩
theorem RE.set {k : Nat} {s : Sl} {o : Option V} (h : RE X D i H r σ) (q : RS1 X D i H s o) : RE X D i H (r.set k s) (σ.set k o) := by
  refine ⟨by rw [List.length_set, List.length_set]; exact h.1, fun j u z => ?_⟩
  by_cases e : j = k
  · subst e
    by_cases hl : j < r.length
    · rw [List.getElem?_set_self hl] at z
      cases z
      exact ⟨o, List.getElem?_set_self (by rw [← h.1]; exact hl), q⟩
    · rw [List.getElem?_eq_none (by rw [List.length_set]; omega)] at z
      cases z
  · rw [List.getElem?_set_ne (Ne.symm e)] at z ⊢
    exact h.2 j u z
end

/-- from one calm context to another -/
theorem RE.calm {X' : Cx} (hc : X.calm = true) (h : RE X D i H r σ) : RE X' D i H r σ := ⟨h.1, fun k s z => let ⟨o, h1, h2⟩ := h.2 k s z; ⟨o, h1, by
  cases s with
  | no => trivial
  | val v => exact h2
  | exn c fs => exact absurd (hc.symm.trans h2.1) (by decide)⟩⟩

/-! ### the bounds of the memory's numbers -/
mutual
theorem RV.inRange : ∀ {v : V} {x : MV}, RV D i H v x → x.low i.length = true
  | _, _, .non => rfl
  | _, _, .bl _ => rfl
  | _, _, .int _ => rfl
  | _, _, .str _ => rfl
  | _, _, .tup _ r => RVs.inRange r
  | _, _, .obj _ _ _ r => RVs.inRange r
  | _, _, .ref h => decide_eq_true (List.getElem?_eq_some_iff.mp h).1
theorem RVs.inRange : ∀ {vs : List V} {xs : List MV}, RVs D i H vs xs → MV.lows i.length xs = true
  | _, _, .nil => rfl
  | _, _, .cons r t => Bool.and_eq_true_iff.mpr ⟨RV.inRange r, RVs.inRange t⟩
end
mutual
theorem RV.slim {n : Nat} (hp : ∀ (k : Nat) (a : Addr), k < n → i[k]? = some a → i'[k]? = some a) : ∀ {v : V} {x : MV}, RV D i H v x → x.low n = true → RV D i' H v x
  | _, _, .non, _ => .non
  | _, _, .bl b, _ => .bl b
  | _, _, .int n, _ => .int n
  | _, _, .str x, _ => .str x
  | _, _, .tup h r, l => .tup h (RVs.slim hp r l)
  | _, _, .obj h f g r, l => .obj h f g (RVs.slim hp r l)
  | _, _, .ref h, l => .ref (hp _ _ (of_decide_eq_true l) h)
theorem RVs.slim {n : Nat} (hp : ∀ (k : Nat) (a : Addr), k < n → i[k]? = some a → i'[k]? = some a) : ∀ {vs : List V} {xs : List MV}, RVs D i H vs xs → MV.lows n xs = true → RVs D i' H vs xs
  | _, _, .nil, _ => .nil
  | _, _, .cons r t, l => .cons (RV.slim hp r (Bool.and_eq_true_iff.mp l).1) (RVs.slim hp t (Bool.and_eq_true_iff.mp l).2)
end
theorem RKvs.inRange : ∀ {ks : List (Key × V)} {kvs : List (MV × MV)}, RKvs D i H ks kvs → (kvs.all fun p => p.1.low i.length && p.2.low i.length) = true
  | _, _, .nil => rfl
  | _, _, .cons (k := k) hk r t => by
    rw [List.all_cons, RKvs.inRange t, r.inRange]
    cases k with
    | inl n => cases hk; rfl
    | inr s => cases hk; rfl
theorem RKvs.slim {n : Nat} (hp : ∀ (k : Nat) (a : Addr), k < n → i[k]? = some a → i'[k]? = some a) : ∀ {ks : List (Key × V)} {kvs : List (MV × MV)}, RKvs D i H ks kvs → (kvs.all fun p => p.1.low n && p.2.low n) = true → RKvs D i' H ks kvs
  | _, _, .nil, _ => .nil
  | _, _, .cons hk r t, l => by
    rw [List.all_cons, Bool.and_eq_true, Bool.and_eq_true] at l
    exact .cons hk (r.slim hp l.1.2) (RKvs.slim hp t l.2)
theorem RO.inRange {a : Addr} {o : MO} (r : RO D i H a o) : o.low i.length = true := by
  cases o with
  | lst xs => obtain ⟨vs, _, q⟩ := r; exact q.inRange
  | frz xs => obtain ⟨vs, _, q⟩ := r; exact q.inRange
  | dct kvs => obtain ⟨vs, _, q⟩ := r; exact q.inRange
  | ins c fs => obtain ⟨dx, hs, _, _, q, _⟩ := r; exact q.inRange
  | dead => rfl
theorem RO.slim {n : Nat} {a : Addr} {o : MO} (hp : ∀ (k : Nat) (a : Addr), k < n → i[k]? = some a → i'[k]? = some a) (r : RO D i H a o) (l : o.low n = true) : RO D i' H a o := by
  cases o with
  | lst xs => obtain ⟨vs, h, q⟩ := r; exact ⟨vs, h, q.slim hp l⟩
  | frz xs => obtain ⟨vs, h, q⟩ := r; exact ⟨vs, h, q.slim hp l⟩
  | dct kvs => obtain ⟨vs, h, q⟩ := r; exact ⟨vs, h, q.slim hp l⟩
  | ins c fs => obtain ⟨dx, hs, h, q1, q2, q3⟩ := r; exact ⟨dx, hs, h, q1, q2.slim hp l, q3⟩
  | dead => trivial
theorem take_pre {α : Type} {l : List α} {n : Nat} : ∀ (k : Nat) (a : α), k < n → l[k]? = some a → (l.take n)[k]? = some a := fun k a h e => by
  rw [List.getElem?_take_of_lt h]
  exact e
/-- what stands below n, where nothing of it tells of more -/
theorem Sim.slim {m : Mem} {n : Nat} (S : Sim D i m H) (l : ∀ (k : Nat) (o : MO), k < n → m[k]? = some o → o.low n = true) : Sim D (i.take n) (m.take n) H := by
  refine ⟨by rw [List.length_take, List.length_take, S.len], fun k a o e1 e2 => ?_, fun k j a o u e1 e2 e3 e4 l1 l2 => ?_⟩
  · have hk : k < n := by
      have h1 := (List.getElem?_eq_some_iff.mp e1).1
      rw [List.length_take] at h1
      omega
    rw [List.getElem?_take_of_lt hk] at e1 e2
    exact (S.at_ k a o e1 e2).slim take_pre (l k o hk e2)
  · have hk : k < n := by
      have h1 := (List.getElem?_eq_some_iff.mp e1).1
      rw [List.length_take] at h1
      omega
    have hj : j < n := by
      have h1 := (List.getElem?_eq_some_iff.mp e2).1
      rw [List.length_take] at h1
      omega
    rw [List.getElem?_take_of_lt hk] at e1 e3
    rw [List.getElem?_take_of_lt hj] at e2 e4
    exact S.nd k j a o u e1 e2 e3 e4 l1 l2
theorem okOld_at {n : Nat} : ∀ {m0 m : List MO}, okOld n m0 m = true → ∀ (k : Nat) (o : MO), k < m0.length → m[k]? = some o → m0[k]? = some o ∨ o.low n = true
  | [], _, _, k, _, hk, _ => by simp at hk
  | a :: as, [], h, k, o, hk, e => by simp at e
  | a :: as, b :: bs, h, 0, o, hk, e => by
    have h' := Bool.and_eq_true_iff.mp h
    simp at e
    subst e
    rcases Bool.or_eq_true_iff.mp h'.1 with z | z
    · exact .inl (by simpa using of_decide_eq_true z)
    · exact .inr z
  | a :: as, b :: bs, h, k + 1, o, hk, e => by
    have h' := Bool.and_eq_true_iff.mp h
    rw [List.getElem?_cons_succ] at e ⊢
    exact okOld_at h'.2 k o (by simpa using hk) e
/-- all that stood and tells of nothing new -/
theorem okOld_low {H0 : Hp} {i0 : List Addr} {m0 m : Mem} (S0 : Sim D i0 m0 H0) (h : okOld m0.length m0 m = true) : ∀ (k : Nat) (o : MO), k < m0.length → m[k]? = some o → o.low m0.length = true := fun k o hk e => by
  rcases okOld_at h k o hk e with z | z
  · have hk' : k < i0.length := by rw [S0.len]; exact hk
    have r := (S0.at_ k _ o (List.getElem?_eq_getElem hk') z).inRange
    rw [S0.len] at r
    exact r
  · exact z

/-! ### what an evaluation promises -/
section
variable {α β : Type}
/-- rel: how the answer is told -/
def Pst (D : Dat) (W : WX) (σ : L2.St) (rel : List Addr → Hp → β → α → Prop) (Q : β → Hp → Prop) (i : List Addr) (H : Hp) : R α → Prop
  | .ok v m' => ∀ i' H' x, Ext D i H i' H' → Sim D i' m' H' → rel i' H' x v → Q x H'
  | .ex c fs m' => ∀ i' H' cls d, Ext D i H i' H' → Sim D i' m' H' → RX D i' H' c fs cls d → W cls d σ H'
  | .fail => False
theorem Pst.ext {D : Dat} {W : WX} {σ : L2.St} {rel : List Addr → Hp → β → α → Prop} {Q : β → Hp → Prop} {i i' : List Addr} {H H' : Hp} {a : R α} (h : Pst D W σ rel Q i H a) (e : Ext D i H i' H') : Pst D W σ rel Q i' H' a := by
  cases a with
  | ok v m => exact fun i2 H2 x e2 S q => h i2 H2 x (e.trans e2) S q
  | ex c fs m => exact fun i2 H2 cls d e2 S q => h i2 H2 cls d (e.trans e2) S q
  | fail => exact h
/-- the reading of an evaluation -/
def tE (X : Cx) (D : Dat) (W : WX) (c : Env → M MV) : TE := fun σ H Q => ∃ i r m, Sim D i m H ∧ RE X D i H r σ ∧ Pst D W σ (RV D) Q i H (c r m)
def tL (X : Cx) (D : Dat) (W : WX) (c : Env → M (List MV)) : TA := fun σ H Q => ∃ i r m, Sim D i m H ∧ RE X D i H r σ ∧ Pst D W σ (RVs D) Q i H (c r m)
end
theorem PE.imp {X : Cx} {e : Expr} {t t' : TE} (h : PE X e t) (hi : ∀ σ H Q, t' σ H Q → t σ H Q) : PE X e t' := ⟨fun pins s σ H Q I q => h.run pins s σ H Q I (hi σ H Q q)⟩
theorem PA.imp {X : Cx} {e : List Expr} {t t' : TA} (h : PA X e t) (hi : ∀ σ H Q, t' σ H Q → t σ H Q) : PA X e t' := ⟨fun pos pins s σ H Q I q => h.run pos pins s σ H Q I (hi σ H Q q)⟩
theorem PT.imp {X : Cx} {e : Expr} {t t' : TT} (h : PT X e t) (hi : ∀ σ H Q, t' σ H Q → t σ H Q) : PT X e t' := ⟨fun pins s σ H Q I q => h.run pins s σ H Q I (hi σ H Q q)⟩
/-- an expression of the text is the expression c -/
def SE (X : Cx) (D : Dat) (e : Expr) (c : Env → M MV) : Prop := ∀ W, Takes X W → PE X e (tE X D W c)
def SL (X : Cx) (D : Dat) (es : List Expr) (c : Env → M (List MV)) : Prop := ∀ W, Takes X W → PA X es (tL X D W c)
/-- as a test -/
def tT (X : Cx) (D : Dat) (W : WX) (c : Env → M MV) : TT := fun σ H Q => ∃ i r m, Sim D i m H ∧ RE X D i H r σ ∧ Pst D W σ (fun (_ : List Addr) (_ : Hp) (b : Bool) (v : Bool) => b = v) Q i H ((c r m).bind fun x m1 => onTru m1 x fun b => .ok b m1)
def ST (X : Cx) (D : Dat) (e : Expr) (c : Env → M MV) : Prop := ∀ W, Takes X W → PT X e (tT X D W c)
section
variable {X : Cx} {D : Dat} {W : WX} {σ : L2.St} {H : Hp} {α β : Type} {rel : List Addr → Hp → β → α → Prop} {Q : β → Hp → Prop}
/-- one answer is at hand -/
def K1 (X : Cx) (D : Dat) (W : WX) (rel : List Addr → Hp → β → α → Prop) (k : MV → Env → M α) (x : V) (σ : L2.St) (H : Hp) (Q : β → Hp → Prop) : Prop :=
  ∃ i r m v, Sim D i m H ∧ RE X D i H r σ ∧ RV D i H x v ∧ Pst D W σ rel Q i H (k v r m)
def K2 (X : Cx) (D : Dat) (W : WX) (rel : List Addr → Hp → β → α → Prop) (k : MV → MV → Env → M α) (x y : V) (σ : L2.St) (H : Hp) (Q : β → Hp → Prop) : Prop :=
  ∃ i r m v u, Sim D i m H ∧ RE X D i H r σ ∧ RV D i H x v ∧ RV D i H y u ∧ Pst D W σ rel Q i H (k v u r m)
def K3 (X : Cx) (D : Dat) (W : WX) (rel : List Addr → Hp → β → α → Prop) (k : MV → MV → MV → Env → M α) (x y z : V) (σ : L2.St) (H : Hp) (Q : β → Hp → Prop) : Prop :=
  ∃ i r m v u w, Sim D i m H ∧ RE X D i H r σ ∧ RV D i H x v ∧ RV D i H y u ∧ RV D i H z w ∧ Pst D W σ rel Q i H (k v u w r m)
theorem bind1 {c : Env → M MV} {k : MV → Env → M α} {i : List Addr} {r : Env} {m : Mem} (S : Sim D i m H) (E : RE X D i H r σ) (h : Pst D W σ rel Q i H ((c r m).bind fun x m1 => k x r m1)) :
    tE X D W c σ H fun x H1 => K1 X D W rel k x σ H1 Q := by
  refine ⟨i, r, m, S, E, ?_⟩
  cases e : c r m with
  | ok v m1 =>
    rw [e] at h
    exact fun i' H' x e1 S1 q => ⟨i', r, m1, v, S1, E.ext e1, q, h.ext e1⟩
  | ex c fs m1 =>
    rw [e] at h
    exact h
  | fail =>
    rw [e] at h
    exact h
theorem bind2 {c : Env → M MV} {k : MV → MV → Env → M α} {x : V} (h : K1 X D W rel (fun v r m => (c r m).bind fun u m1 => k v u r m1) x σ H Q) : tE X D W c σ H fun y H1 => K2 X D W rel k x y σ H1 Q := by
  obtain ⟨i, r, m, v, S, E, q, h⟩ := h
  dsimp only at h
  refine ⟨i, r, m, S, E, ?_⟩
  cases e : c r m with
  | ok u m1 =>
    rw [e] at h
    exact fun i' H' y e1 S1 q1 => ⟨i', r, m1, v, u, S1, E.ext e1, q.ext e1, q1, h.ext e1⟩
  | ex c fs m1 => rw [e] at h; exact h
  | fail => rw [e] at h; exact h
theorem bind3 {c : Env → M MV} {k : MV → MV → MV → Env → M α} {x y : V} (h : K2 X D W rel (fun v u r m => (c r m).bind fun w m1 => k v u w r m1) x y σ H Q) : tE X D W c σ H fun z H1 => K3 X D W rel k x y z σ H1 Q := by
  obtain ⟨i, r, m, v, u, S, E, q, q', h⟩ := h
  dsimp only at h
  refine ⟨i, r, m, S, E, ?_⟩
  cases e : c r m with
  | ok w m1 =>
    rw [e] at h
    exact fun i' H' z e1 S1 q1 => ⟨i', r, m1, v, u, w, S1, E.ext e1, q.ext e1, q'.ext e1, q1, h.ext e1⟩
  | ex c fs m1 => rw [e] at h; exact h
  | fail => rw [e] at h; exact h
theorem Pst.mono {W : WX} {Q Q' : β → Hp → Prop} {i : List Addr} {a : R α} (h : Pst D W σ rel Q i H a) (f : ∀ x H', Q x H' → Q' x H') : Pst D W σ rel Q' i H a := by
  cases a with
  | ok v m => exact fun i' H' x e S q => f _ _ (h i' H' x e S q)
  | ex c fs m => exact h
  | fail => exact h
theorem TE_mono {c : Env → M MV} {Q Q' : VK} (h : tE X D W c σ H Q) (f : ∀ x H', Q x H' → Q' x H') : tE X D W c σ H Q' := by
  obtain ⟨i, r, m, S, E, h⟩ := h
  exact ⟨i, r, m, S, E, h.mono f⟩
theorem TL_mono {c : Env → M (List MV)} {Q Q' : List V → Hp → Prop} (h : tL X D W c σ H Q) (f : ∀ x H', Q x H' → Q' x H') : tL X D W c σ H Q' := by
  obtain ⟨i, r, m, S, E, h⟩ := h
  exact ⟨i, r, m, S, E, h.mono f⟩
theorem TT_mono {c : Env → M MV} {Q Q' : Bool → Hp → Prop} (h : tT X D W c σ H Q) (f : ∀ x H', Q x H' → Q' x H') : tT X D W c σ H Q' := by
  obtain ⟨i, r, m, S, E, h⟩ := h
  exact ⟨i, r, m, S, E, h.mono f⟩
/-- a value's operation: what comes, told in the layer's heap -/
def PO2 (D : Dat) (i : List Addr) (H : Hp) (Q : VK) : Option (MV × Mem) → Prop
  | some p => ∀ i' H' x, Ext D i H i' H' → Sim D i' p.2 H' → RV D i' H' x p.1 → Q x H'
  | none => False
theorem Pst.lift {Q : VK} {i : List Addr} {o : Option (MV × Mem)} (h : Pst D W σ (RV D) Q i H (U.lift o)) : PO2 D i H Q o := by
  cases o with
  | none => exact h
  | some p => exact h
theorem Pst.of_lift {Q : VK} {i : List Addr} {o : Option (MV × Mem)} (h : PO2 D i H Q o) : Pst D W σ (RV D) Q i H (U.lift o) := by
  cases o with
  | none => exact h
  | some p => exact h
/-- an operation on two values, as the layer's operators want it -/
def rOp (D : Dat) (f : MV → MV → Mem → Option (MV × Mem)) : R2 := fun x y H Q => ∃ i m v u, Sim D i m H ∧ RV D i H x v ∧ RV D i H y u ∧ PO2 D i H Q (f v u m)
end
end U
end Part_U2

section Part_U3
set_option Elab.async false
set_option linter.all false
set_option maxRecDepth 100000
set_option maxHeartbeats 4000000
/-! U3: the operators, comparisons, truth, subscripts of values, over the layer's rules. -/
namespace U
open PySem PySem.Spec PyProof.Rows L2
section
variable {X : Cx} {D : Dat} {i : List Addr} {m : Mem} {H : Hp} {Q : VK}
theorem PO2.here {v : MV} {x : V} (h : PO2 D i H Q (some (v, m))) (S : Sim D i m H) (r : RV D i H x v) : Q x H := h i H x Ext.refl S r
theorem PO2.lst {vs : List V} {xs : List MV} (h : PO2 D i H Q (some (.ref m.length, m ++ [.lst xs]))) (S : Sim D i m H) (r : RVs D i H vs xs) : ∀ p, H p = none → Q (.ref p) (upd H p (.lst vs)) := fun p hp => by
  refine h (i ++ [p]) _ _ (Ext.alloc hp) (S.lst hp r) (.ref ?_)
  show (i ++ [p])[m.length]? = some p
  rw [← S.len]
  exact getE_new
theorem PO2.tup {vs : List V} {xs : List MV} (h : PO2 D i H Q (some (.tup xs, m))) (S : Sim D i m H) (r : RVs D i H vs xs) : ∀ p, H p = none → Q (.ref p) (upd H p (.tup vs)) := fun p hp =>
  h i _ _ (Ext.fresh hp i) (S.beside hp) (.tup (SqT.of upd_same) (r.ext (Ext.fresh hp i)))
theorem len_str (x : Txt) : (⟨x.toArray⟩ : Str).length = x.length := by show x.toArray.size = _; simp
theorem app_str (x y : Txt) : (⟨x.toArray⟩ : Str) ++ ⟨y.toArray⟩ = ⟨(x ++ y).toArray⟩ := by
  show (⟨x.toArray ++ y.toArray⟩ : Str) = _
  simp
theorem line_eq : line = sizeLine := by rw [sizeLine_eq]; rfl
theorem Sim.lst_at {n : Nat} {a : Addr} {xs : List MV} (S : Sim D i m H) (h1 : i[n]? = some a) (h2 : m[n]? = some (.lst xs)) : ∃ vs, H a = some (.lst vs) ∧ RVs D i H vs xs := S.at_ n a _ h1 h2
theorem Sim.frz_at {n : Nat} {a : Addr} {xs : List MV} (S : Sim D i m H) (h1 : i[n]? = some a) (h2 : m[n]? = some (.frz xs)) : ∃ vs, SqF D.K H a vs ∧ RVs D i H vs xs := S.at_ n a _ h1 h2
end

theorem or_bin {X : Cx} {D : Dat} (hK : X.K = D.K) (op : Operator) : OpR X (binaryOp op) (rOp D (binop op)) := by
  rintro pins s σ H x y v u Q I rx ry ⟨i, m, a, b, S, ra, rb, h⟩
  cases op with
  | Add =>
    cases ra with
    | int n =>
      cases rb with
      | int k => exact op_add pins s σ H _ _ v u Q I rx ry ⟨n, k, rfl, rfl, h.here S (.int _)⟩
      | _ => exact h.elim
    | str z =>
      cases rb with
      | str k =>
        unfold binop at h
        dsimp only at h
        split at h
        · rename_i hz
          refine op_add_str pins s σ H _ _ v u Q I rx ry ⟨_, _, rfl, rfl, ?_, ?_⟩
          · rw [len_str, len_str, ← line_eq]; exact hz
          · rw [app_str]; exact h.here S (.str _)
        · exact h.elim
      | _ => exact h.elim
    | @tup a vs xs ha ra =>
      cases rb with
      | @tup b ws ys hb rb =>
        unfold binop at h
        dsimp only at h
        split at h
        · rename_i hz
          refine op_catA pins s σ H _ _ v u Q I rx ry ⟨a, b, vs, ws, rfl, rfl, by rw [hK]; exact ha, by rw [hK]; exact hb, by rw [ra.length, rb.length, ← line_eq]; exact hz, fun e => ?_, fun _ e => ?_, fun _ _ => ?_⟩
          · subst e
            cases ra
            exact h.here S (.tup hb rb)
          · subst e
            cases rb
            rw [List.append_nil] at h
            exact h.here S (.tup ha ra)
          · exact h.tup S (ra.append rb)
        · exact h.elim
      | _ => exact h.elim
    | @ref a n ha =>
      cases rb with
      | @ref b k hb =>
        unfold binop at h
        dsimp only at h
        split at h
        · rename_i xs ys e1 e2
          split at h
          · rename_i hz
            obtain ⟨vs, h1, r1⟩ := S.lst_at ha e1
            obtain ⟨ws, h2, r2⟩ := S.lst_at hb e2
            exact op_cat pins s σ H _ _ v u Q I rx ry ⟨a, b, vs, ws, rfl, rfl, h1, h2, by rw [r1.length, r2.length, ← line_eq]; exact hz, h.lst S (r1.append r2)⟩
          · exact h.elim
        · exact h.elim
      | _ => exact h.elim
    | _ => cases rb <;> exact h.elim
  | Sub =>
    cases ra with
    | int n =>
      cases rb with
      | int k => exact op_sub pins s σ H _ _ v u Q I rx ry ⟨n, k, rfl, rfl, h.here S (.int _)⟩
      | _ => exact h.elim
    | _ => cases rb <;> exact h.elim
  | Mult =>
    cases ra with
    | int n =>
      cases rb with
      | int k =>
        unfold binop at h
        dsimp only at h
        split at h
        · rename_i hz
          exact op_mulW pins s σ H _ _ v u Q I rx ry ⟨n, k, rfl, rfl, wide_mul hz.1 hz.2 (by omega) (by omega) (by omega), h.here S (.int _)⟩
        · exact h.elim
      | _ => exact h.elim
    | @tup a vs xs ha ra =>
      cases rb with
      | int k =>
        unfold binop at h
        dsimp only at h
        split at h
        · rename_i hz
          have hne : vs ≠ [] := fun e => by
            subst e
            cases ra
            cases hz.1
          refine op_mulT pins s σ H _ _ v u Q I rx ry ⟨a, k, vs, rfl, rfl, by rw [hK]; exact ha, hne, hz.2.1, hz.2.2.1, by rw [ra.length]; exact hz.2.2.2, fun e => ?_, fun _ => ?_⟩
          · subst e
            have e2 : (List.replicate (1 : Int).toNat xs).flatten = xs := by
              show (xs :: List.replicate 0 xs).flatten = xs
              rw [List.flatten_cons, List.replicate_zero, List.flatten_nil, List.append_nil]
            rw [e2] at h
            exact h.here S (.tup ha ra)
          · exact h.tup S (ra.rep k.toNat)
        · exact h.elim
      | _ => exact h.elim
    | _ => cases rb <;> exact h.elim
  | FloorDiv =>
    cases ra with
    | int n =>
      cases rb with
      | int k =>
        unfold binop at h
        dsimp only at h
        split at h
        · rename_i hz
          refine op_fdivW pins s σ H _ _ v u Q I rx ry ⟨n, k, rfl, rfl, wide_div (b := 300) hz.1 ?_ (by omega) (by omega), h.here S (.int _)⟩
          have h2 := hz.2
          omega
        · exact h.elim
      | _ => exact h.elim
    | _ => cases rb <;> exact h.elim
  | Mod =>
    cases ra with
    | int n =>
      cases rb with
      | int k =>
        unfold binop at h
        dsimp only at h
        split at h
        · rename_i hz
          exact op_mod pins s σ H _ _ v u Q I rx ry ⟨n, k, rfl, rfl, hz, h.here S (.int _)⟩
        · exact h.elim
      | _ => exact h.elim
    | _ => cases rb <;> exact h.elim
  | Pow =>
    cases ra with
    | int n =>
      cases rb with
      | int k =>
        unfold binop at h
        dsimp only at h
        split at h
        · rename_i hz
          exact op_pow pins s σ H _ _ v u Q I rx ry ⟨n, k, rfl, rfl, ⟨hz.1, by omega, hz.2.2⟩, h.here S (.int _)⟩
        · exact h.elim
      | _ => exact h.elim
    | _ => cases rb <;> exact h.elim
  | _ => cases ra <;> cases rb <;> exact h.elim

/-! ### data -/
section
variable {D : Dat} {i : List Addr} {m : Mem} {H : Hp}
theorem dps_of {k : Nat} (ih : ∀ (v : MV) (d : PyData) (x : V), MV.data m k v = some d → RV D i H x v → Dp D.K H x d) : ∀ {xs : List MV} {ds : List PyData} {vs : List V}, xs.mapM (MV.data m k) = some ds → RVs D i H vs xs → DpAll D.K H vs ds
  | [], ds, vs, e, r => by
    simp at e
    subst e
    cases r
    exact .nil
  | x :: xs, ds, vs, e, r => by
    rw [List.mapM_cons] at e
    cases r with
    | cons r1 r2 =>
      cases e1 : MV.data m k x with
      | none => rw [e1] at e; cases e
      | some d =>
        rw [e1] at e
        cases e2 : xs.mapM (MV.data m k) with
        | none => rw [e2] at e; cases e
        | some es =>
          rw [e2] at e
          cases e
          exact .cons (ih _ _ _ e1 r1) (dps_of ih e2 r2)
theorem dp_of (S : Sim D i m H) : ∀ (k : Nat) (v : MV) (d : PyData) (x : V), MV.data m k v = some d → RV D i H x v → Dp D.K H x d
  | 0, v, d, x, e, _ => by cases e
  | k + 1, v, d, x, e, r => by
    unfold MV.data at e
    cases r with
    | non => cases e; exact .non
    | bl b => cases e; exact .bl b
    | int n => cases e; exact .int n
    | str z => cases e; exact .str _
    | @tup a vs xs h r =>
      dsimp only at e
      cases e1 : xs.mapM (MV.data m k) with
      | none => rw [e1] at e; cases e
      | some ds =>
        rw [e1] at e
        cases e
        exact .tup h (dps_of (dp_of S k) e1 r)
    | obj => cases e
    | @ref a n h =>
      dsimp only at e
      cases e0 : m[n]? with
      | none => rw [e0] at e; cases e
      | some o =>
        rw [e0] at e
        cases o with
        | lst xs =>
          dsimp only at e
          cases e1 : xs.mapM (MV.data m k) with
          | none => rw [e1] at e; cases e
          | some ds =>
            rw [e1] at e
            cases e
            obtain ⟨vs, h1, r1⟩ := S.lst_at h e0
            exact .lst (SqL.of h1) (dps_of (dp_of S k) e1 r1)
        | frz xs =>
          dsimp only at e
          cases e1 : xs.mapM (MV.data m k) with
          | none => rw [e1] at e; cases e
          | some ds =>
            rw [e1] at e
            cases e
            obtain ⟨vs, h1, r1⟩ := S.frz_at h e0
            exact .lst h1.sq (dps_of (dp_of S k) e1 r1)
        | _ => cases e
theorem depths_of {m : Mem} {k : Nat} (ih : ∀ (v : MV) (d : PyData), MV.data m k v = some d → d.depth ≤ k) : ∀ {xs : List MV} {ds : List PyData}, xs.mapM (MV.data m k) = some ds → PyData.depthAll ds ≤ k
  | [], ds, e => by
    simp at e
    subst e
    exact Nat.zero_le _
  | x :: xs, ds, e => by
    rw [List.mapM_cons] at e
    cases e1 : MV.data m k x with
    | none => rw [e1] at e; cases e
    | some d =>
      rw [e1] at e
      cases e2 : xs.mapM (MV.data m k) with
      | none => rw [e2] at e; cases e
      | some es =>
        rw [e2] at e
        cases e
        show max d.depth (PyData.depthAll es) ≤ k
        exact Nat.max_le.mpr ⟨ih _ _ e1, depths_of ih e2⟩
theorem depth_of {m : Mem} : ∀ (k : Nat) (v : MV) (d : PyData), MV.data m k v = some d → d.depth ≤ k
  | 0, v, d, e => by cases e
  | k + 1, v, d, e => by
    unfold MV.data at e
    have tk : ∀ {xs : List MV} {f : List PyData → PyData}, (∀ ds, (f ds).depth = PyData.depthAll ds + 1) → (xs.mapM (MV.data m k)).map f = some d → d.depth ≤ k + 1 := fun {xs f} hf e => by
      cases e1 : xs.mapM (MV.data m k) with
      | none => rw [e1] at e; cases e
      | some ds =>
        rw [e1] at e
        cases e
        rw [hf]
        exact Nat.succ_le_succ (depths_of (depth_of k) e1)
    cases v with
    | non => cases e; exact Nat.zero_le _
    | bl b => cases e; exact Nat.zero_le _
    | int n => cases e; exact Nat.zero_le _
    | str z => cases e; exact Nat.zero_le _
    | tup xs => exact tk (f := .tuple) (fun _ => by simp [PyData.depth]) e
    | obj => cases e
    | ref n =>
      dsimp only at e
      split at e
      · exact tk (f := .list) (fun _ => by simp [PyData.depth]) e
      · exact tk (f := .list) (fun _ => by simp [PyData.depth]) e
      · cases e
theorem data_room {m : Mem} {v : MV} {d d' : PyData} {n : Nat} (e : MV.data m dataFuel v = some d) (hu : n + 1100 < cLine) : n + min d.depth d'.depth < cLine := by
  have h1 : d.depth ≤ 1000 := depth_of _ _ _ e
  have h2 : min d.depth d'.depth ≤ d.depth := Nat.min_le_left _ _
  omega
theorem str_inj {x y : Txt} : decide (V.str (⟨x.toArray⟩ : Str) = V.str ⟨y.toArray⟩) = decide (x = y) := by
  rw [Bool.eq_iff_iff]
  simp
theorem scal_of {a b : MV} {x y : V} (ra : RV D i H x a) (rb : RV D i H y b) (e : plainEq a b = true) : scal x y = true ∧ decide (x = y) = decide (a = b) := by
  cases ra <;> cases rb <;> first
    | exact absurd e Bool.false_ne_true
    | (refine ⟨rfl, ?_⟩; rw [Bool.eq_iff_iff]; simp)
theorem flat_of {a : MV} {x : V} (ra : RV D i H x a) (e : flat a = true) : flatV x = true := by
  cases ra <;> first
    | exact absurd e Bool.false_ne_true
    | rfl
theorem flats_of : ∀ {xs : List MV} {vs : List V}, RVs D i H vs xs → xs.all flat = true → vs.all flatV = true
  | _, _, .nil, _ => rfl
  | _, _, .cons r t, e => by
    rw [List.all_cons, Bool.and_eq_true] at e
    rw [List.all_cons, flat_of r e.1, flats_of t e.2]
    rfl
theorem eqV_of {a b : MV} {x y : V} (ra : RV D i H x a) (rb : RV D i H y b) (e : flat a = true) (f : flat b = true) : eqV x y = flatEq a b := by
  cases ra <;> cases rb <;> first
    | exact absurd e Bool.false_ne_true
    | exact absurd f Bool.false_ne_true
    | rfl
    | (unfold eqV flatEq; rw [Bool.eq_iff_iff]; simp; done)
    | (unfold eqV flatEq; simp; done)
    | (unfold eqV flatEq; rw [Bool.eq_iff_iff]; done)
theorem inV_of {a : MV} {x : V} (ra : RV D i H x a) (e : flat a = true) : ∀ {xs : List MV} {vs : List V}, RVs D i H vs xs → xs.all flat = true → inV x vs = xs.any fun y => flatEq y a
  | _, _, .nil, _ => rfl
  | _, _, .cons r t, f => by
    rw [List.all_cons, Bool.and_eq_true] at f
    unfold inV
    rw [List.any_cons, List.any_cons, eqV_of r ra f.1 e]
    exact congrArg _ (inV_of ra e t f.2)
end
section
variable {X : Cx} {D : Dat} {pins : List (Addr × Obj)} {s : Shared} {σ : L2.St} {H : Hp} {x y : V} {v u : Value} {Q : VK} {i : List Addr} {m : Mem} {a b : MV}
theorem okb_some {o : Option Bool} {Q : VK} (h : PO2 D i H Q (okb o m)) : ∃ k, o = some k ∧ PO2 D i H Q (some (.bl k, m)) := by
  cases o with
  | none => exact h.elim
  | some k => exact ⟨k, rfl, h⟩
theorem mem_seq {xs : List MV} {vs : List V} {p : Addr} {k : Bool} (S : Sim D i m H) (ra : RV D i H x a) (hq : SqL D.K H p vs ∨ SqT D.K H p vs) (r : RVs D i H vs xs) (e : inSeq a xs = some k) : rIn D.K false x (.ref p) H (fun z H' => z = .bl k ∧ H' = H) ∧ rIn D.K true x (.ref p) H (fun z H' => z = .bl (!k) ∧ H' = H) := by
  unfold inSeq at e
  split at e
  · rename_i hf
    rw [Bool.and_eq_true] at hf
    cases e
    have e1 := inV_of ra hf.1 r hf.2
    exact ⟨⟨p, vs, rfl, hq, flat_of ra hf.1, flats_of r hf.2, by simp [e1], rfl⟩, ⟨p, vs, rfl, hq, flat_of ra hf.1, flats_of r hf.2, by simp [e1], rfl⟩⟩
  · cases e
end
theorem rIn.imp {K : PySem.W.Frag} {neg : Bool} {x y : V} {H : Hp} {Q Q' : VK} (h : rIn K neg x y H Q) (f : ∀ z, Q z H → Q' z H) : rIn K neg x y H Q' := by
  obtain ⟨p, xs, h1, h2, h3, h4, h5⟩ := h
  exact ⟨p, xs, h1, h2, h3, h4, f _ h5⟩
theorem or_cmp {X : Cx} {D : Dat} (hK : X.K = D.K) (hu : X.A.units + 1100 < cLine) (op : CmpOp) : OpR X (compareOp op) (rOp D (cmpop op)) := by
  rintro pins s σ H x y v u Q I rx ry ⟨i, m, a, b, S, ra, rb, h⟩
  cases op with
  | Eq =>
    obtain ⟨k, e, h⟩ := okb_some h
    unfold peq at e
    split at e
    · rename_i hp
      cases e
      obtain ⟨e1, e2⟩ := scal_of ra rb hp
      exact op_eq pins s σ H x y v u Q I rx ry ⟨e1, by rw [e2]; exact h.here S (.bl _)⟩
    · split at e
      · rename_i d d' h1 h2
        split at e
        · rename_i hs
          rw [Bool.and_eq_true] at hs
          cases e
          obtain ⟨as, r1⟩ := Dp.reads I d x v (by rw [hK]; exact dp_of S _ _ _ _ h1 ra) rx
          obtain ⟨bs, r2⟩ := Dp.reads I d' y u (by rw [hK]; exact dp_of S _ _ _ _ h2 rb) ry
          exact SeqAt.compareEq_reads r1 r2 hs.1 hs.2 (data_room h1 hu) ⟨.bl _, H, I, rfl, h.here S (.bl _)⟩
        · cases e
      · cases e
  | NotEq =>
    obtain ⟨k, e, h⟩ := okb_some h
    cases e0 : peq m a b with
    | none => rw [e0] at e; cases e
    | some k' =>
    rw [e0] at e
    cases e
    have e := e0
    unfold peq at e
    split at e
    · rename_i hp
      cases e
      obtain ⟨e1, e2⟩ := scal_of ra rb hp
      exact op_ne pins s σ H x y v u Q I rx ry ⟨e1, by rw [e2]; exact h.here S (.bl _)⟩
    · split at e
      · rename_i d d' h1 h2
        split at e
        · rename_i hs
          rw [Bool.and_eq_true] at hs
          cases e
          obtain ⟨as, r1⟩ := Dp.reads I d x v (by rw [hK]; exact dp_of S _ _ _ _ h1 ra) rx
          obtain ⟨bs, r2⟩ := Dp.reads I d' y u (by rw [hK]; exact dp_of S _ _ _ _ h2 rb) ry
          exact SeqAt.compareNe_reads r1 r2 hs.1 hs.2 (data_room h1 hu) ⟨.bl _, H, I, rfl, h.here S (.bl _)⟩
        · cases e
      · cases e
  | Lt =>
    cases ra <;> cases rb <;> first
      | exact op_lt pins s σ H _ _ v u Q I rx ry ⟨_, _, rfl, rfl, h.here S (.bl _)⟩
      | exact h.elim
  | LtE =>
    cases ra <;> cases rb <;> first
      | exact op_le pins s σ H _ _ v u Q I rx ry ⟨_, _, rfl, rfl, h.here S (.bl _)⟩
      | exact h.elim
  | Gt =>
    cases ra <;> cases rb <;> first
      | exact op_gt pins s σ H _ _ v u Q I rx ry ⟨_, _, rfl, rfl, h.here S (.bl _)⟩
      | exact h.elim
  | GtE =>
    cases ra <;> cases rb <;> first
      | exact op_ge pins s σ H _ _ v u Q I rx ry ⟨_, _, rfl, rfl, h.here S (.bl _)⟩
      | exact h.elim
  | In =>
    obtain ⟨k, e, h⟩ := okb_some h
    have seq : ∀ {p : Addr} {vs : List V} {xs : List MV}, y = .ref p → (SqL D.K H p vs ∨ SqT D.K H p vs) → RVs D i H vs xs → inSeq a xs = some k → wpAny (model X.prog X.w) X.A (compareOp .In v u) (EP X pins σ Q) X.xe s := fun {p vs xs} ey hq r e => by
      subst ey
      exact op_in_seq pins s σ H x _ v u Q I rx ry (by rw [hK]; exact rIn.imp (mem_seq S ra hq r e).1 fun z hz => by rw [hz.1]; exact h.here S (.bl _))
    cases rb with
    | str y =>
      cases ra with
      | str z =>
        cases e
        exact op_in_str pins s σ H _ _ v u Q I rx ry ⟨_, _, rfl, rfl, h.here S (.bl _)⟩
      | _ => cases e
    | tup h1 r1 => exact seq rfl (.inr h1) r1 e
    | @ref p n h0 =>
      unfold memb at e
      dsimp only at e
      split at e
      · rename_i xs e0
        obtain ⟨vs, h1, r1⟩ := S.lst_at h0 e0
        exact seq rfl (.inl (SqL.of h1)) r1 e
      · rename_i xs e0
        obtain ⟨vs, h1, r1⟩ := S.frz_at h0 e0
        exact seq rfl (.inl h1.sq) r1 e
      · cases e
    | _ => cases e
  | NotIn =>
    obtain ⟨k, e, h⟩ := okb_some h
    cases e0 : memb m a b with
    | none => rw [e0] at e; cases e
    | some k' =>
    rw [e0] at e
    cases e
    have e := e0
    have seq : ∀ {p : Addr} {vs : List V} {xs : List MV}, y = .ref p → (SqL D.K H p vs ∨ SqT D.K H p vs) → RVs D i H vs xs → inSeq a xs = some k' → wpAny (model X.prog X.w) X.A (compareOp .NotIn v u) (EP X pins σ Q) X.xe s := fun {p vs xs} ey hq r e => by
      subst ey
      exact op_notIn_seq pins s σ H x _ v u Q I rx ry (by rw [hK]; exact rIn.imp (mem_seq S ra hq r e).2 fun z hz => by rw [hz.1]; exact h.here S (.bl _))
    cases rb with
    | str y =>
      cases ra with
      | str z =>
        cases e
        exact op_notin_str pins s σ H _ _ v u Q I rx ry ⟨_, _, rfl, rfl, h.here S (.bl _)⟩
      | _ => cases e
    | tup h1 r1 => exact seq rfl (.inr h1) r1 e
    | @ref p n h0 =>
      unfold memb at e
      dsimp only at e
      split at e
      · rename_i xs e0
        obtain ⟨vs, h1, r1⟩ := S.lst_at h0 e0
        exact seq rfl (.inl (SqL.of h1)) r1 e
      · rename_i xs e0
        obtain ⟨vs, h1, r1⟩ := S.frz_at h0 e0
        exact seq rfl (.inl h1.sq) r1 e
      · cases e
    | _ => cases e
  | Is =>
    obtain ⟨k, e, h⟩ := okb_some h
    cases rb with
    | non =>
      cases e
      refine op_isN pins s σ H _ _ v u Q I rx ry ⟨rfl, ?_⟩
      have e2 : decide (x = V.non) = decide (a = MV.non) := by cases ra <;> rfl
      rw [e2]
      exact h.here S (.bl _)
    | bl c =>
      cases ra with
      | bl d =>
        cases e
        exact op_isBl pins s σ H _ _ v u Q I rx ry ⟨_, _, rfl, rfl, h.here S (.bl _)⟩
      | _ => cases e
    | @ref q j hj =>
      cases ra with
      | @ref p n hn =>
        unfold isSame at e
        dsimp only at e
        have fin : ∀ {o w : MO}, m[n]? = some o → m[j]? = some w → live o = true → live w = true → decide (p = q) = decide (n = j) := fun {o w} e1 e2 l1 l2 => by
          rw [Bool.eq_iff_iff]
          simp only [decide_eq_true_eq]
          refine ⟨fun z => ?_, fun z => ?_⟩
          · subst z
            exact S.nd n j p o w hn hj e1 e2 l1 l2
          · subst z
            rw [hn] at hj
            exact Option.some.inj hj
        split at e
        · rename_i o1 o2 e1 e2
          cases e
          obtain ⟨vs, h1, _⟩ := S.lst_at hn e1
          obtain ⟨ws, h2, _⟩ := S.lst_at hj e2
          exact op_is_ref pins s σ H _ _ v u Q I rx ry ⟨p, q, _, _, rfl, rfl, h1, rfl, h2, rfl, by rw [fin e1 e2 rfl rfl]; exact h.here S (.bl _)⟩
        · rename_i o1 o2 e1 e2
          cases e
          obtain ⟨_, _, h1, _⟩ := S.at_ _ _ _ hn e1
          obtain ⟨_, _, h2, _⟩ := S.at_ _ _ _ hj e2
          exact op_is_ref pins s σ H _ _ v u Q I rx ry ⟨p, q, _, _, rfl, rfl, h1, rfl, h2, rfl, by rw [fin e1 e2 rfl rfl]; exact h.here S (.bl _)⟩
        · cases e
      | _ => cases e
    | _ => cases e
  | IsNot =>
    obtain ⟨k, e, h⟩ := okb_some h
    cases e0 : isSame m a b with
    | none => rw [e0] at e; cases e
    | some k' =>
    rw [e0] at e
    cases e
    have e := e0
    cases rb with
    | non =>
      cases e
      refine op_notN pins s σ H _ _ v u Q I rx ry ⟨rfl, ?_⟩
      have e2 : decide (x = V.non) = decide (a = MV.non) := by cases ra <;> rfl
      rw [e2]
      exact h.here S (.bl _)
    | bl c =>
      cases ra with
      | bl d =>
        cases e
        exact op_notBl pins s σ H _ _ v u Q I rx ry ⟨_, _, rfl, rfl, h.here S (.bl _)⟩
      | _ => cases e
    | @ref q j hj =>
      cases ra with
      | @ref p n hn =>
        unfold isSame at e
        dsimp only at e
        have fin : ∀ {o w : MO}, m[n]? = some o → m[j]? = some w → live o = true → live w = true → decide (p = q) = decide (n = j) := fun {o w} e1 e2 l1 l2 => by
          rw [Bool.eq_iff_iff]
          simp only [decide_eq_true_eq]
          refine ⟨fun z => ?_, fun z => ?_⟩
          · subst z
            exact S.nd n j p o w hn hj e1 e2 l1 l2
          · subst z
            rw [hn] at hj
            exact Option.some.inj hj
        split at e
        · rename_i o1 o2 e1 e2
          cases e
          obtain ⟨vs, h1, _⟩ := S.lst_at hn e1
          obtain ⟨ws, h2, _⟩ := S.lst_at hj e2
          exact op_isnot_ref pins s σ H _ _ v u Q I rx ry ⟨p, q, _, _, rfl, rfl, h1, rfl, h2, rfl, by rw [fin e1 e2 rfl rfl]; exact h.here S (.bl _)⟩
        · rename_i o1 o2 e1 e2
          cases e
          obtain ⟨_, _, h1, _⟩ := S.at_ _ _ _ hn e1
          obtain ⟨_, _, h2, _⟩ := S.at_ _ _ _ hj e2
          exact op_isnot_ref pins s σ H _ _ v u Q I rx ry ⟨p, q, _, _, rfl, rfl, h1, rfl, h2, rfl, by rw [fin e1 e2 rfl rfl]; exact h.here S (.bl _)⟩
        · cases e
      | _ => cases e
    | _ => cases e
end U
end Part_U3

section Part_U4
set_option Elab.async false
set_option linter.all false
set_option maxRecDepth 100000
set_option maxHeartbeats 4000000
/-! U4: truth, subscripts, slices, built-in functions and methods of values, over the layer's rules. -/
namespace U
open PySem PySem.Spec PyProof.Rows L2
section
variable {D : Dat} {i : List Addr} {m : Mem} {H : Hp}
theorem RVs.isEmpty {vs : List V} {xs : List MV} (r : RVs D i H vs xs) : vs.isEmpty = xs.isEmpty := by cases r <;> rfl
theorem RKvs.isEmpty {vs : List (Key × V)} {xs : List (MV × MV)} (r : RKvs D i H vs xs) : vs.isEmpty = xs.isEmpty := by cases r <;> rfl
theorem truV {K : PySem.W.Frag} (hK : K = D.K) {a : MV} {x : V} {b : Bool} (S : Sim D i m H) (r : RV D i H x a) (e : truth m a = some b) : TruV K x H b := by
  subst hK
  cases r with
  | non => cases e; rfl
  | bl c => cases e; rfl
  | int n => cases e; rfl
  | str z =>
    unfold truth at e
    dsimp only at e
    split at e
    · rename_i hz
      cases e
      refine ⟨by rw [len_str, ← line_eq]; exact hz, ?_⟩
      rw [len_str]
      cases z with
      | nil => rfl
      | cons c z => simp [List.isEmpty]; omega
    · cases e
  | tup h q =>
    cases e
    exact .inr (.inl ⟨_, h, by rw [q.isEmpty]⟩)
  | obj => cases e
  | @ref p n h =>
    unfold truth at e
    dsimp only at e
    split at e
    · rename_i xs e0
      cases e
      obtain ⟨vs, h1, r1⟩ := S.lst_at h e0
      exact .inl ⟨vs, SqL.of h1, by rw [r1.isEmpty]⟩
    · rename_i xs e0
      cases e
      obtain ⟨vs, h1, r1⟩ := S.frz_at h e0
      exact .inl ⟨vs, h1.sq, by rw [r1.isEmpty]⟩
    · rename_i xs e0
      cases e
      obtain ⟨ks, h1, r1⟩ : ∃ ks, H p = some (.dK ks) ∧ RKvs D i H ks xs := S.at_ _ _ _ h e0
      exact .inr (.inr ⟨ks, h1, by rw [r1.isEmpty]⟩)
    · cases e
theorem RVs.atI {vs : List V} {xs : List MV} {n : Int} {y : MV} (r : RVs D i H vs xs) (e : L2.atI xs n = some y) : ∃ v, L2.atI vs n = some v ∧ RV D i H v y := by
  unfold L2.atI at e ⊢
  rw [r.length]
  cases e1 : L2.ixN xs.length n with
  | none => rw [e1] at e; cases e
  | some k =>
    rw [e1] at e
    obtain ⟨v, h1, h2⟩ := r.get (n := k) (x := y) e
    exact ⟨v, h1, h2⟩
theorem RVs.cutR {vs : List V} {xs : List MV} (lo hi : Option Int) (r : RVs D i H vs xs) : RVs D i H (cutV vs lo hi) (cut xs lo hi) := by
  show RVs D i H ((vs.drop (HT.sIx vs.length 0 lo)).take (HT.sIx vs.length vs.length hi - HT.sIx vs.length 0 lo)) ((xs.drop (HT.sIx xs.length 0 lo)).take (HT.sIx xs.length xs.length hi - HT.sIx xs.length 0 lo))
  rw [r.length]
  exact (r.drop _).take _
end

theorem or_ix {X : Cx} {D : Dat} (hK : X.K = D.K) : IxR X (rOp D subscr) := by
  rintro value slice pins s σ H x y v u Q I rx ry ⟨i, m, a, b, S, ra, rb, h⟩ hs
  cases rb with
  | int n =>
    cases ra with
    | str z =>
      unfold subscr getAt at h
      dsimp only at h
      split at h
      · rename_i hz
        split at h
        · rename_i c e
          exact ix_str value slice pins s σ H _ _ v u Q I rx ry ⟨_, n, c, rfl, rfl, by rw [len_str, ← line_eq]; exact hz, by simpa using e, h.here S (.str [c])⟩ hs
        · exact h.elim
      · exact h.elim
    | @tup p vs xs h1 r1 =>
      unfold subscr getAt at h
      dsimp only at h
      split at h
      · rename_i y e
        obtain ⟨w, e1, r2⟩ := r1.atI e
        exact ix_tup value slice pins s σ H _ _ v u Q I rx ry ⟨p, vs, n, w, rfl, rfl, by rw [hK]; exact h1, e1, h.here S r2⟩ hs
      · exact h.elim
    | @ref p k h0 =>
      unfold subscr getAt at h
      dsimp only at h
      split at h
      · rename_i xs e0
        split at h
        · rename_i y e
          obtain ⟨vs, h1, r1⟩ := S.lst_at h0 e0
          obtain ⟨w, e1, r2⟩ := r1.atI e
          exact ix_list value slice pins s σ H _ _ v u Q I rx ry ⟨p, vs, n, w, rfl, rfl, SqL.of h1, e1, h.here S r2⟩ hs
        · exact h.elim
      · rename_i xs e0
        split at h
        · rename_i y e
          obtain ⟨vs, h1, r1⟩ := S.frz_at h0 e0
          obtain ⟨w, e1, r2⟩ := r1.atI e
          exact ix_list value slice pins s σ H _ _ v u Q I rx ry ⟨p, vs, n, w, rfl, rfl, by rw [hK]; exact h1.sq, e1, h.here S r2⟩ hs
        · exact h.elim
      · exact h.elim
    | _ => exact h.elim
  | _ => exact h.elim
/-- a slice by values -/
def rSl (D : Dat) : V → Option Int → Option Int → Hp → VK → Prop := fun x lo hi H Q => ∃ i m a, Sim D i m H ∧ RV D i H x a ∧ PO2 D i H Q (slice a lo hi m)
theorem or_sl {X : Cx} {D : Dat} (hK : X.K = D.K) : SlR X (rSl D) := by
  rintro pins s σ H x v vl vu lo hi sl Q I rx hs pl pu ⟨i, m, a, S, ra, h⟩
  cases ra with
  | str z =>
    unfold slice at h
    dsimp only at h
    split at h
    · rename_i hz
      refine sl_str pins s σ H _ v vl vu lo hi sl Q I rx hs pl pu ⟨_, rfl, by rw [len_str, ← line_eq]; exact hz, ?_⟩
      have e : cutS ⟨z.toArray⟩ lo hi = ⟨(cut z lo hi).toArray⟩ := by
        unfold cutS cut
        rw [len_str]
      rw [e]
      exact h.here S (.str _)
    · exact h.elim
  | @tup p vs xs h1 r1 =>
    refine sl_tupA pins s σ H _ v vl vu lo hi sl Q I rx hs pl pu ⟨p, vs, rfl, by rw [hK]; exact h1, fun e => ?_, fun _ => ?_⟩
    · have e2 : cut xs lo hi = xs := by
        unfold cut
        rw [r1.length] at e
        rw [e.1, e.2]
        simp
      have h' : PO2 D i H Q (some (.tup (cut xs lo hi), m)) := h
      rw [e2] at h'
      exact h'.here S (.tup h1 r1)
    · exact PO2.tup (xs := cut xs lo hi) h S (r1.cutR lo hi)
  | @ref p k h0 =>
    unfold slice at h
    dsimp only at h
    split at h
    · rename_i xs e0
      obtain ⟨vs, h1, r1⟩ := S.lst_at h0 e0
      exact sl_list pins s σ H _ v vl vu lo hi sl Q I rx hs pl pu ⟨p, vs, rfl, SqL.of h1, PO2.lst h S (r1.cutR lo hi)⟩
    · rename_i xs e0
      obtain ⟨vs, h1, r1⟩ := S.frz_at h0 e0
      exact sl_list pins s σ H _ v vl vu lo hi sl Q I rx hs pl pu ⟨p, vs, rfl, by rw [hK]; exact h1.sq, PO2.lst h S (r1.cutR lo hi)⟩
    · exact h.elim
  | _ => exact h.elim

/-! ### built-in functions -/
def rBf (D : Dat) (b : BF) : List V → Hp → VK → Prop := fun xs H Q => ∃ i m vs, Sim D i m H ∧ RVs D i H xs vs ∧ PO2 D i H Q (builtin b vs m)
section
variable {D : Dat} {i : List Addr} {m : Mem} {H : Hp}
theorem ints_of : ∀ {xs : List MV} {vs : List V} {ns : List Int}, allInt xs = some ns → RVs D i H vs xs → vs = ns.map V.int
  | [], _, ns, e, .nil => by cases e; rfl
  | .int n :: xs, _, ns, e, .cons r t => by
    unfold allInt at e
    cases e1 : allInt xs with
    | none => rw [e1] at e; cases e
    | some ms =>
      rw [e1] at e
      cases e
      cases r
      rw [ints_of e1 t]
      rfl
  | .non :: xs, _, ns, e, _ => by cases e
  | .bl _ :: xs, _, ns, e, _ => by cases e
  | .str _ :: xs, _, ns, e, _ => by cases e
  | .tup _ :: xs, _, ns, e, _ => by cases e
  | .obj _ _ :: xs, _, ns, e, _ => by cases e
  | .ref _ :: xs, _, ns, e, _ => by cases e
theorem bls_of : ∀ {xs : List MV} {vs : List V} {ns : List Bool}, allBl xs = some ns → RVs D i H vs xs → vs = ns.map V.bl
  | [], _, ns, e, .nil => by cases e; rfl
  | .bl n :: xs, _, ns, e, .cons r t => by
    unfold allBl at e
    cases e1 : allBl xs with
    | none => rw [e1] at e; cases e
    | some ms =>
      rw [e1] at e
      cases e
      cases r
      rw [bls_of e1 t]
      rfl
  | .non :: xs, _, ns, e, _ => by cases e
  | .int _ :: xs, _, ns, e, _ => by cases e
  | .str _ :: xs, _, ns, e, _ => by cases e
  | .tup _ :: xs, _, ns, e, _ => by cases e
  | .obj _ _ :: xs, _, ns, e, _ => by cases e
  | .ref _ :: xs, _, ns, e, _ => by cases e
theorem strs_of : ∀ {xs : List MV} {vs : List V} {ns : List Txt}, allStr xs = some ns → RVs D i H vs xs → vs = (ns.map fun x => (⟨x.toArray⟩ : Str)).map V.str
  | [], _, ns, e, .nil => by cases e; rfl
  | .str n :: xs, _, ns, e, .cons r t => by
    unfold allStr at e
    cases e1 : allStr xs with
    | none => rw [e1] at e; cases e
    | some ms =>
      rw [e1] at e
      cases e
      cases r
      rw [strs_of e1 t]
      rfl
  | .non :: xs, _, ns, e, _ => by cases e
  | .int _ :: xs, _, ns, e, _ => by cases e
  | .bl _ :: xs, _, ns, e, _ => by cases e
  | .tup _ :: xs, _, ns, e, _ => by cases e
  | .obj _ _ :: xs, _, ns, e, _ => by cases e
  | .ref _ :: xs, _, ns, e, _ => by cases e
theorem txt_back (z : Str) : (⟨z.cps.toList.toArray⟩ : Str) = z := by simp
theorem RV.str' {z : Str} : RV D i H (.str z) (.str z.cps.toList) := by
  have h : RV D i H (.str ⟨z.cps.toList.toArray⟩) (.str z.cps.toList) := .str _
  rw [txt_back] at h
  exact h
end
theorem cr_len {X : Cx} {D : Dat} (hK : X.K = D.K) : CallR X (.builtin "len") (rBf D .len) := by
  rintro pins s σ H xs us Q I r ⟨i, m, vs, S, rs, h⟩
  cases rs with
  | nil => exact h.elim
  | @cons x v xs vs rx rt =>
  cases rt with
  | cons _ _ => cases rx <;> exact h.elim
  | nil =>
  cases rx with
  | str z =>
    unfold builtin at h
    dsimp only at h
    split at h
    · rename_i hz
      exact call_len pins s σ H _ us Q I r ⟨_, _, rfl, ⟨by rw [len_str, ← line_eq]; exact hz, rfl⟩, by rw [len_str]; exact h.here S (.int _)⟩
    · exact h.elim
  | @tup p vs xs h1 r1 =>
    refine call_len pins s σ H _ us Q I r ⟨_, _, rfl, .inr ⟨_, by rw [hK]; exact h1, rfl⟩, ?_⟩
    rw [r1.length]
    exact h.here S (.int _)
  | @ref p n h0 =>
    unfold builtin at h
    dsimp only at h
    split at h
    · rename_i xs e0
      obtain ⟨vs, h1, r1⟩ := S.lst_at h0 e0
      refine call_len pins s σ H _ us Q I r ⟨_, _, rfl, .inl ⟨_, SqL.of h1, rfl⟩, ?_⟩
      rw [r1.length]
      exact h.here S (.int _)
    · rename_i xs e0
      obtain ⟨vs, h1, r1⟩ := S.frz_at h0 e0
      refine call_len pins s σ H _ us Q I r ⟨_, _, rfl, .inl ⟨_, by rw [hK]; exact h1.sq, rfl⟩, ?_⟩
      rw [r1.length]
      exact h.here S (.int _)
    · exact h.elim
  | _ => exact h.elim
theorem cr_abs {X : Cx} {D : Dat} : CallR X (.builtin "abs") (rBf D .abs) := by
  rintro pins s σ H xs us Q I r ⟨i, m, vs, S, rs, h⟩
  cases rs with
  | nil => exact h.elim
  | @cons x v xs vs rx rt =>
  cases rt with
  | cons _ _ => cases rx <;> exact h.elim
  | nil =>
  cases rx with
  | int n => exact call_abs pins s σ H _ us Q I r ⟨n, rfl, h.here S (.int _)⟩
  | _ => exact h.elim
theorem cr_int {X : Cx} {D : Dat} : CallR X (.type "int") (rBf D .int) := by
  rintro pins s σ H xs us Q I r ⟨i, m, vs, S, rs, h⟩
  cases rs with
  | nil => exact h.elim
  | @cons x v xs vs rx rt =>
  cases rt with
  | cons _ _ => cases rx <;> exact h.elim
  | nil =>
  cases rx with
  | int n => exact call_int1 pins s σ H _ us Q I r (.inl ⟨n, rfl, h.here S (.int _)⟩)
  | bl b => exact call_int1 pins s σ H _ us Q I r (.inr ⟨b, rfl, h.here S (.int _)⟩)
  | _ => exact h.elim
theorem cr_str {X : Cx} {D : Dat} : CallR X (.type "str") (rBf D .str) := by
  rintro pins s σ H xs us Q I r ⟨i, m, vs, S, rs, h⟩
  cases rs with
  | nil => exact h.elim
  | @cons x v xs vs rx rt =>
  cases rt with
  | cons _ _ => cases rx <;> exact h.elim
  | nil =>
  cases rx with
  | int n =>
    unfold builtin at h
    dsimp only at h
    split at h
    · rename_i hz
      exact call_str_int pins s σ H _ us Q I r ⟨n, rfl, hz, h.here S RV.str'⟩
    · exact h.elim
  | str z => exact SkE.call_str_str pins s σ H _ us Q I r ⟨_, rfl, h.here S (.str _)⟩
  | _ => exact h.elim
theorem cr_tuple {X : Cx} {D : Dat} (hK : X.K = D.K) : CallR X (.type "tuple") (rBf D .tuple) := by
  rintro pins s σ H xs us Q I r ⟨i, m, vs, S, rs, h⟩
  cases rs with
  | nil => exact h.elim
  | @cons x v xs vs rx rt =>
  cases rt with
  | cons _ _ => cases rx <;> exact h.elim
  | nil =>
  cases rx with
  | @tup p vs xs h1 r1 => exact call_tuple_of pins s σ H _ us Q I r ⟨p, vs, rfl, .inr ⟨by rw [hK]; exact h1, h.here S (.tup h1 r1)⟩⟩
  | @ref p n h0 =>
    unfold builtin at h
    dsimp only at h
    split at h
    · rename_i xs e0
      obtain ⟨vs, h1, r1⟩ := S.lst_at h0 e0
      exact call_tuple_of pins s σ H _ us Q I r ⟨p, vs, rfl, .inl ⟨SqL.of h1, h.tup S r1⟩⟩
    · rename_i xs e0
      obtain ⟨vs, h1, r1⟩ := S.frz_at h0 e0
      exact call_tuple_of pins s σ H _ us Q I r ⟨p, vs, rfl, .inl ⟨by rw [hK]; exact h1.sq, h.tup S r1⟩⟩
    · exact h.elim
  | _ => exact h.elim
theorem cr_list {X : Cx} {D : Dat} (hK : X.K = D.K) : CallR X (.type "list") (rBf D .list) := by
  rintro pins s σ H xs us Q I r ⟨i, m, vs, S, rs, h⟩
  cases rs with
  | nil => exact h.elim
  | @cons x v xs vs rx rt =>
  cases rt with
  | cons _ _ => cases rx <;> exact h.elim
  | nil =>
  cases rx with
  | @tup p vs xs h1 r1 => exact call_list_of pins s σ H _ us Q I r ⟨p, vs, rfl, .inr (by rw [hK]; exact h1), PO2.lst h S r1⟩
  | @ref p n h0 =>
    unfold builtin at h
    dsimp only at h
    split at h
    · rename_i xs e0
      obtain ⟨vs, h1, r1⟩ := S.lst_at h0 e0
      exact call_list_of pins s σ H _ us Q I r ⟨p, vs, rfl, .inl (SqL.of h1), PO2.lst h S r1⟩
    · rename_i xs e0
      obtain ⟨vs, h1, r1⟩ := S.frz_at h0 e0
      exact call_list_of pins s σ H _ us Q I r ⟨p, vs, rfl, .inl (by rw [hK]; exact h1.sq), PO2.lst h S r1⟩
    · exact h.elim
  | _ => exact h.elim
theorem cr_sum_ {X : Cx} {D : Dat} (hc : X.calm = true) : CallR X (.builtin "sum") (rBf D .sum) := by
  rintro pins s σ H xs us Q I r ⟨i, m, vs, S, rs, h⟩
  cases rs with
  | nil => exact h.elim
  | @cons x v xs vs rx rt =>
  cases rt with
  | cons _ _ => cases rx <;> exact h.elim
  | nil =>
  cases rx with
  | @ref p n h0 =>
    unfold builtin at h
    dsimp only at h
    split at h
    · rename_i xs e0
      split at h
      · rename_i ns e
        obtain ⟨vs, h1, r1⟩ := S.lst_at h0 e0
        have ev := ints_of e r1
        subst ev
        exact cr_sum hc pins s σ H _ us Q I r ⟨p, ns, rfl, SqL.of h1, h.here S (.int _)⟩
      · exact h.elim
    · exact h.elim
  | _ => exact h.elim
theorem cr_all_ {X : Cx} {D : Dat} (hc : X.calm = true) : CallR X (.builtin "all") (rBf D .all) := by
  rintro pins s σ H xs us Q I r ⟨i, m, vs, S, rs, h⟩
  cases rs with
  | nil => exact h.elim
  | @cons x v xs vs rx rt =>
  cases rt with
  | cons _ _ => cases rx <;> exact h.elim
  | nil =>
  cases rx with
  | @ref p n h0 =>
    unfold builtin at h
    dsimp only at h
    split at h
    · rename_i xs e0
      split at h
      · rename_i ns e
        obtain ⟨vs, h1, r1⟩ := S.lst_at h0 e0
        have ev := bls_of e r1
        subst ev
        exact cr_all hc pins s σ H _ us Q I r ⟨p, ns, rfl, SqL.of h1, h.here S (.bl _)⟩
      · exact h.elim
    · exact h.elim
  | _ => exact h.elim
theorem cr_any_ {X : Cx} {D : Dat} (hc : X.calm = true) : CallR X (.builtin "any") (rBf D .any) := by
  rintro pins s σ H xs us Q I r ⟨i, m, vs, S, rs, h⟩
  cases rs with
  | nil => exact h.elim
  | @cons x v xs vs rx rt =>
  cases rt with
  | cons _ _ => cases rx <;> exact h.elim
  | nil =>
  cases rx with
  | @ref p n h0 =>
    unfold builtin at h
    dsimp only at h
    split at h
    · rename_i xs e0
      split at h
      · rename_i ns e
        obtain ⟨vs, h1, r1⟩ := S.lst_at h0 e0
        have ev := bls_of e r1
        subst ev
        exact cr_any hc pins s σ H _ us Q I r ⟨p, ns, rfl, SqL.of h1, h.here S (.bl _)⟩
      · exact h.elim
    · exact h.elim
  | _ => exact h.elim
/-- repr of data -/
theorem cr_repr {X : Cx} {D : Dat} (hK : X.K = D.K) (hg : X.A.guards = some []) (hu : X.A.units + 1100 < cLine) : CallR X (.builtin "repr") (rBf D .repr) := by
  rintro pins s σ H xs us Q I r ⟨i, m, vs, S, rs, h⟩
  cases rs with
  | nil => exact h.elim
  | @cons x v xs vs rx rt =>
  cases rt with
  | cons _ _ => exact h.elim
  | nil =>
  obtain ⟨u, rfl, ru⟩ := vals1 r
  unfold builtin at h
  dsimp only at h
  split at h
  · rename_i d e
    split at h
    · rename_i hz
      obtain ⟨h1, h2, h3⟩ := hz
      obtain ⟨as, q⟩ := Dp.reads I d x u (by rw [hK]; exact dp_of S _ _ _ _ e rx) ru
      have hd : d.depth ≤ 1000 := depth_of _ _ _ e
      have hz' : d.shown.length ≤ sizeLine := by rw [← line_eq]; exact h3
      cases q with
      | none => exact PySem.P.repr_of_none ⟨.str _, H, I.tok _, ⟨_, rfl⟩, h.here S RV.str'⟩
      | bool b => exact PySem.P.repr_of_bool ⟨.str _, H, I.tok _, ⟨_, rfl⟩, h.here S RV.str'⟩
      | int n t => exact PySem.P.repr_of_int (by have h1' := h1; simp [PyData.showable] at h1'; exact h1') ⟨.str _, H, I.tok _, ⟨_, rfl⟩, h.here S RV.str'⟩
      | str z t => exact PySem.P.repr_of_str ⟨.str _, H, I.tok _, ⟨_, rfl⟩, h.here S RV.str'⟩ hz'
      | list a1 a2 a3 a4 =>
        exact PySem.repr_of_reads' (.list a1 a2 a3 a4) h1 (fun z => by rw [h2] at z; cases z) hg (by omega) (fun _ _ e => e) (fun h' u tk k => ⟨.str _, H, I.kept k, ⟨_, rfl⟩, h.here S RV.str'⟩) hz'
      | tuple a1 a2 a3 a4 =>
        exact PySem.repr_of_reads' (.tuple a1 a2 a3 a4) h1 (fun z => by rw [h2] at z; cases z) hg (by omega) (fun _ _ e => e) (fun h' u tk k => ⟨.str _, H, I.kept k, ⟨_, rfl⟩, h.here S RV.str'⟩) hz'
      | dict a1 a2 a3 a4 a5 => exact absurd h2 (by simp [PyData.hasDict])
    · exact h.elim
  · exact h.elim

/-! ### methods of built-in types -/
def rBm (D : Dat) (b : BM) : V → List V → Hp → VK → Prop := fun x xs H Q => ∃ i m a vs, Sim D i m H ∧ RV D i H x a ∧ RVs D i H xs vs ∧ PO2 D i H Q (method b a vs m)
theorem join_str (a : Txt) : ∀ ys : List Txt, Str.join (⟨a.toArray⟩ : Str) (ys.map fun x => (⟨x.toArray⟩ : Str)) = ⟨(joined a ys).toArray⟩
  | [] => rfl
  | [_] => rfl
  | x :: y :: r => by
    show (⟨x.toArray⟩ : Str) ++ ⟨a.toArray⟩ ++ Str.join (⟨a.toArray⟩ : Str) ((y :: r).map fun x => (⟨x.toArray⟩ : Str)) = ⟨(x ++ a ++ joined a (y :: r)).toArray⟩
    rw [join_str a (y :: r), app_str, app_str]
theorem join_eq (a : Txt) (ys : List Txt) : PySem.Txt.join (⟨a.toArray⟩ : Str) (ys.map fun x => (⟨x.toArray⟩ : Str)) = ⟨(joined a ys).toArray⟩ := (TL.join_eq _ _).trans (join_str a ys)
theorem mr_append {X : Cx} {D : Dat} : MtR X "list.append" (rBm D .append) := by
  rintro pins s σ H x xs v us Q I rx rv ⟨i, m, a, vs, S, ra, rs, h⟩
  cases rs with
  | nil => cases ra <;> exact h.elim
  | @cons y w ys ws ry rt =>
  cases rt with
  | cons _ _ => cases ra <;> exact h.elim
  | nil =>
  cases ra with
  | @ref p n h0 =>
    unfold method at h
    dsimp only at h
    split at h
    · rename_i zs e0
      split at h
      · rename_i hz
        obtain ⟨vs, h1, r1⟩ := S.lst_at h0 e0
        refine mt_append pins s σ H _ _ v us Q I rx rv ⟨p, vs, y, rfl, rfl, h1, by rw [r1.length, ← line_eq]; exact hz, ?_⟩
        have ex : Ext D i H i (upd H p (.lst (vs ++ [y]))) := Ext.write h1 (fun z => z)
        exact h i _ _ ex (S.write h0 e0 rfl ex (fun b u hb e => by rw [upd_ne hb]; exact e) ⟨_, upd_same, (r1.append (RVs.one ry)).ext ex⟩) .non
      · exact h.elim
    · exact h.elim
  | _ => exact h.elim
theorem mr_extend {X : Cx} {D : Dat} : MtR X "list.extend" (rBm D .extend) := by
  rintro pins s σ H x xs v us Q I rx rv ⟨i, m, a, vs, S, ra, rs, h⟩
  cases rs with
  | nil => cases ra <;> exact h.elim
  | @cons y w ys ws ry rt =>
  cases rt with
  | cons _ _ => cases ra <;> cases ry <;> exact h.elim
  | nil =>
  cases ra with
  | @ref p n h0 =>
    cases ry with
    | @ref p2 n2 h02 =>
      unfold method at h
      dsimp only at h
      split at h
      · rename_i zs zs2 e0 e02
        split at h
        · rename_i hz
          obtain ⟨vs, h1, r1⟩ := S.lst_at h0 e0
          obtain ⟨vs2, h12, r12⟩ := S.lst_at h02 e02
          refine mt_extend pins s σ H _ _ v us Q I rx rv ⟨p, p2, vs, vs2, rfl, rfl, h1, h12, by rw [r1.length, r12.length, ← line_eq]; exact hz, ?_⟩
          have ex : Ext D i H i (upd H p (.lst (vs ++ vs2))) := Ext.write h1 (fun z => z)
          exact h i _ _ ex (S.write h0 e0 rfl ex (fun b u hb e => by rw [upd_ne hb]; exact e) ⟨_, upd_same, (r1.append r12).ext ex⟩) .non
        · exact h.elim
      · exact h.elim
    | _ => exact h.elim
  | _ => cases ry <;> exact h.elim
theorem mr_join {X : Cx} {D : Dat} (hK : X.K = D.K) : MtR X "str.join" (rBm D .join) := by
  rintro pins s σ H x xs v us Q I rx rv ⟨i, m, a, vs, S, ra, rs, h⟩
  cases rs with
  | nil => cases ra <;> exact h.elim
  | @cons y w ys ws ry rt =>
  cases rt with
  | cons _ _ => cases ra <;> exact h.elim
  | nil =>
  cases ra with
  | str z =>
    unfold method at h
    dsimp only at h
    have fin : ∀ {p : Addr} {vs : List V} {zs : List MV} {ys : List Txt}, y = .ref p → (SqL X.K H p vs ∨ SqT X.K H p vs) → RVs D i H vs zs → allStr zs = some ys → (ys.map (·.length)).sum + ys.length * z.length ≤ line → PO2 D i H Q (some (.str (joined z ys), m)) →
        wpAny (model X.prog X.w) X.A (call (.builtin "str.join") (v :: us)) (EP X pins σ Q) X.xe s := fun {p vs zs ys} ey hq r1 e hz h => by
      subst ey
      have ev := strs_of e r1
      subst ev
      refine mt_join pins s σ H _ _ v us Q I rx rv ⟨_, p, ys.map fun x => (⟨x.toArray⟩ : Str), rfl, rfl, hq, ?_, ?_⟩
      · have e2 : (ys.map fun x => (⟨x.toArray⟩ : Str)).map (·.length) = ys.map (·.length) := by
          rw [List.map_map]
          exact List.map_congr_left fun x _ => len_str x
        rw [e2, List.length_map, len_str]
        exact hz
      · rw [join_eq]
        exact h.here S (.str _)
    split at h
    · rename_i zs e
      split at h
      · rename_i ts e1
        split at h
        · rename_i hz
          cases ry with
          | @tup p vs2 xs2 h1 r1 =>
            cases e
            exact fin rfl (.inr (by rw [hK]; exact h1)) r1 e1 hz h
          | @ref p n h0 =>
            unfold items at e
            dsimp only at e
            split at e
            · rename_i zs e0
              cases e
              obtain ⟨vs, h1, r1⟩ := S.lst_at h0 e0
              exact fin rfl (.inl (SqL.of h1)) r1 e1 hz h
            · rename_i zs e0
              cases e
              obtain ⟨vs, h1, r1⟩ := S.frz_at h0 e0
              exact fin rfl (.inl (by rw [hK]; exact h1.sq)) r1 e1 hz h
            · cases e
          | _ => cases e
        · exact h.elim
      · exact h.elim
    · exact h.elim
  | _ => exact h.elim
end U
end Part_U4

section Part_U5
set_option Elab.async false
set_option linter.all false
set_option maxRecDepth 100000
set_option maxHeartbeats 4000000
/-! U5: rooms, what a def of the text promises, calls of defs, methods, classes, attributes. -/
namespace U
open PySem PySem.Spec PyProof.Rows L2

/-! ### room for n calls, one in another -/
structure RoomG (n : Nat) (A : Around) : Prop where
  hd : A.handled = none
  gd : A.guards = some []
  dp : A.depth + 2 * n + 8 < recursionLimit
  un : A.units + 4 * n + 1300 < cLine
/-- within a body whose calls are at level n -/
structure RoomB (n : Nat) (A : Around) : Prop where
  hd : A.handled = none
  gd : A.guards = some []
  dp : A.depth + 2 * n + 9 < recursionLimit
  un : A.units + 4 * n + 1301 < cLine
section
variable {n : Nat} {A : Around}
theorem RoomB.g (r : RoomB n A) : RoomG n A := ⟨r.hd, r.gd, by have := r.dp; omega, by have := r.un; omega⟩
theorem RoomB.un' (r : RoomB n A) : A.units + 1100 < cLine := by have := r.un; omega
theorem deeper_guards (env : PySem.Env) : (A.deeper env).guards = A.guards := by
  first | rfl | simp [Around.deeper]
theorem RoomG.deeper (r : RoomG (n + 1) A) (env : PySem.Env) : RoomB n (A.deeper env) :=
  ⟨r.hd, by rw [deeper_guards]; exact r.gd, by have := r.dp; show A.depth + 1 + 2 * n + 9 < _; omega, by have := r.un; show A.units + 3 + 4 * n + 1301 < _; omega⟩
theorem make_guards {C : Addr} {us : List Value} {kw : List (Str × Value)} : (A.under (.builtin "type.__call__" ⟨.ref C :: us, kw⟩)).guards = A.guards := by
  first | rfl | simp [Around.under, Code.isGuard, guardIds]
theorem make_handled {C : Addr} {us : List Value} {kw : List (Str × Value)} : (A.under (.builtin "type.__call__" ⟨.ref C :: us, kw⟩)).handled = A.handled := by
  first | rfl | simp [Around.under]
theorem RoomB.make (r : RoomB n A) (C : Addr) (us : List Value) (kw : List (Str × Value)) : RoomG n (A.under (.builtin "type.__call__" ⟨.ref C :: us, kw⟩)) :=
  ⟨by rw [make_handled]; exact r.hd, by rw [make_guards]; exact r.gd, by have := r.dp; rw [make_depth]; omega, by have := r.un; rw [make_units]; omega⟩
end

/-! ### a def's promise -/
structure FnG (P : Program) (w : World) (K : PySem.W.Frag) (mg : Str → Option Value) (base : Heap) (n : Nat) (f : Addr) (fd : FuncData) (ps : List Str) (sp : Sp) : Prop where
  len : ∀ vs H Q E, sp vs H Q E → vs.length = ps.length
  run : ∀ (A : Around) (outer : List PySem.Env) (s : Shared) (H : Hp) (args : Args) (us : List Value) (vs : List V) (Q : VK) (E : XK), RoomG n A → Env0 P w K mg base A outer s H → BindsTo s fd args (ps.zip us) → Vals vs us → sp vs H Q E →
    codeAny (model P w) A (.call (.ref f) args) (CR (L2.CX P w) outer P w H s Q E) s
/-- a def of the text keeps its promise, by its body -/
theorem fnG_of {P : Program} {w : World} {K : PySem.W.Frag} {mg : Str → Option Value} {base : Heap} {n : Nat} {x qual : Str} {params : Arguments} {body : List Stmt} {scope : Scope} {dvs : List V} {kws : List (Str × V)} {f : Addr} {fd : FuncData} {N ps : List Str} {sp : Sp}
    (F : FunD K x qual params body scope dvs kws f fd) (S : FnScope N ps scope) (len : ∀ vs H Q E, sp vs H Q E → vs.length = ps.length)
    (hbody : ∀ (cdv : Value) (A : Around) (outer : List PySem.Env) (s : Shared) (H : Hp) (vs : List V) (Q : VK) (E : XK), RoomB n (A.deeper (envOfC qual scope s.heap.objs.size f cdv)) → sp vs H Q E →
      ∃ t, PSs (cxOf (L2.CX P w) P w K mg base N qual scope f cdv A outer s H E) body t ∧ t { nx := fun _ H' => Q .non H', rt := Q } (start N vs) H) :
    FnG P w K mg base (n + 1) f fd ps sp := by
  obtain ⟨oc, od, dV, kV, doc, pm, an, cdv, ct, osl, rfl, lk, hcd, _, _⟩ := F.ex
  refine ⟨len, fun A outer s H args us vs Q E hr e0 hb r hsp => ?_⟩
  have KX : K.In s.heap := e0.mod.kin.keeps fun b o e => (e0.bs b o e).1
  have lim := Heap.NoLimit.keeps e0.mod.nolimit fun b o e => (e0.bs b o e).1
  have hd : A.depth < recursionLimit := by have h := hr.dp; omega
  refine codeAny_call_function hd (KX _ _ lk) rfl S.co S.gen rfl (PySem.W.codeRec_of KX hcd) (hb _ _ _ _ (wpAny_newFunctionEnv_cells S.kind (fun ⟨y, v⟩ hy => ?_) fun env he s1 z => ?_))
  · rcases S.par y (List.of_mem_zip hy).1 with q | q
    · exact Or.inl q
    · exact Or.inr ⟨q, PySem.W.cellsFrom_some _ _ _ (Or.inl q)⟩
  · subst he
    obtain ⟨t, ht, hq⟩ := hbody cdv A outer s H vs Q E (hr.deeper _) hsp
    have I := inv_start (CX := L2.CX P w) (cd := cdv) (f := f) (E := E) S hr.hd e0 (len _ _ _ _ hsp) r z
    refine ⟨lim.keeps z.toInCall.keep, codeAny_func (wpAny_mono (ht.run [] s1 (start N vs) H _ I hq) (fun fl s' hs => ?_) fun e s' hs => hs)⟩
    cases fl with
    | brk => exact (let ⟨_, _, _, q⟩ := hs; q : False).elim
    | cont => exact (let ⟨_, _, _, q⟩ := hs; q : False).elim
    | next =>
      obtain ⟨σ', H', J, q⟩ := hs
      exact ⟨.non, H', J.os, J.bare, J.base, J.hok, rfl, q⟩
    | ret u =>
      obtain ⟨v, σ', H', J, rv, q⟩ := hs
      exact ⟨v, H', J.os, J.bare, J.base, J.hok, rv, q⟩
/-- the promise that an evaluation makes for a def -/
def spOf (D : Dat) (np : Nat) (c : List MV → M MV) : Sp := fun vs H Q E => vs.length = np ∧ ∃ i m xs, Sim D i m H ∧ RVs D i H vs xs ∧ Pst D (fun cls d _ H => E cls d H) ([] : L2.St) (RV D) Q i H (c xs m)

/-! ### running a callee -/
section
variable {X : Cx} {D : Dat} {n : Nat} {f : Addr} {fd : FuncData} {ps : List Str} {sp : Sp} {pins : List (Addr × Obj)} {σ : L2.St} {H : Hp} {s : Shared} {Q : VK} {E : XK} {W : WX}
theorem run_of {args : Args} {us : List Value} {vs : List V} (F : FnG X.prog X.w X.K X.mg X.base n f fd ps sp) (hr : RoomG n X.A) (tk : Takes X W) (hW : ∀ cls d H, E cls d H → W cls d σ H) (I : Inv X pins σ H s) (hb : BindsTo s fd args (ps.zip us)) (r : Vals vs us) (h : sp vs H Q E) :
    codeAny (model X.prog X.w) X.A (.call (.ref f) args) (fun r s' => match r with
      | .ok (.ret u) => EP X pins σ Q u s'
      | .ok _ => False
      | .error e => X.xe e s') s := by
  refine codeAny_mono (F.run X.A X.stack s H args us vs Q E hr I.env0 hb r h) fun r s' hq => ?_
  cases r with
  | error e => exact tk e s' (XE.of_call I (fun cls d H' z => hW cls d H' z) hq)
  | ok fl =>
    cases fl with
    | ret u => exact I.after hq
    | _ => exact False.elim hq
theorem run_fnG {us ds : List Value} {vs dvs : List V} (F : FnG X.prog X.w X.K X.mg X.base n f fd ps sp) (hr : RoomG n X.A) (hb : Binds X.K fd ps ds) (hd : Vals dvs ds) (tk : Takes X W) (hW : ∀ cls d H, E cls d H → W cls d σ H)
    (I : Inv X pins σ H s) (r : Vals vs us) (h : sp (vs ++ dvs) H Q E) : wpAny (model X.prog X.w) X.A (call (.ref f) us) (EP X pins σ Q) X.xe s := by
  have r2 : Vals (vs ++ dvs) (us ++ ds) := Vals.append r hd
  have hl : (us ++ ds).length = ps.length := by
    have z := F.len _ _ _ _ h
    rw [r2.length] at z
    exact z
  refine wpAny_call (codeAny_mono (run_of F hr tk hW I (hb s us I.kIn hl) r2 h) fun r s' hq => ?_)
  rcases r with e | (v | _ | _ | _) <;> exact hq
end
end U
end Part_U5

section Part_U6
set_option Elab.async false
set_option linter.all false
set_option maxRecDepth 100000
set_option maxHeartbeats 4000000
/-! U6: each expression of the text, by the rules of the layer. -/
namespace U
open PySem PySem.Spec PyProof.Rows L2

section
variable {X : Cx} {D : Dat} {e ea eb ec : Expr} {ca cb cc : Env → M MV} {pos : Pos}
/-- an expression whose reading is weaker -/
theorem SE.of {c : Env → M MV} {t : WX → TE} (h : ∀ W, Takes X W → PE X e (t W)) (hi : ∀ W σ H Q, tE X D W c σ H Q → t W σ H Q) : SE X D e c := fun W tk => U.PE.imp (h W tk) (hi W)
theorem SE.congr {c c' : Env → M MV} (h : SE X D e c) (hc : ∀ r m, c' r m = c r m) : SE X D e c' := by
  have e1 : c' = c := funext fun r => funext fun m => hc r m
  rw [e1]
  exact h
theorem ST.congr {c c' : Env → M MV} (h : ST X D e c) (hc : ∀ r m, c' r m = c r m) : ST X D e c' := by
  have e1 : c' = c := funext fun r => funext fun m => hc r m
  rw [e1]
  exact h
theorem se_pure {v : V} {x : MV} (hp : PE X e (tC v)) (r : ∀ i H, RV D i H v x) : SE X D e (fun _ m => .ok x m) := SE.of (t := fun _ => tC v) (fun _ _ => hp) fun W σ H Q ⟨i, _, m, S, _, h⟩ => h i H v Ext.refl S (r i H)
theorem se_var {k : Nat} {x : Str} (hN : X.N[k]? = some x) (hv : Vis X.env.scope x) (hd : (x == ("__debug__" : Str)) = false) (hcd : (x == ("__classdict__" : Str)) = false) : SE X D (.Name x pos) (fun r m => look r k m) := by
  refine SE.of (t := fun _ => tVar k) (fun _ _ => pe_var hN hv hd hcd) fun W σ H Q ⟨i, r, m, S, E, h⟩ => ?_
  unfold look at h
  dsimp only at h
  cases e : r[k]? with
  | none => rw [e] at h; exact h.elim
  | some s =>
    rw [e] at h
    cases s with
    | no => exact h.elim
    | exn c fs => exact h.elim
    | val v =>
      obtain ⟨o, h1, x, h2, h3⟩ := E.2 k _ e
      subst h2
      exact ⟨x, h1, h i H x Ext.refl S h3⟩
theorem se_bin {op : Operator} (hK : X.K = D.K) (ha : SE X D ea ca) (hb : SE X D eb cb) : SE X D (.BinOp ea op eb pos) (fun r m => (ca r m).bind fun x m1 => (cb r m1).bind fun y m2 => lift (binop op x y m2)) := by
  refine SE.of (t := fun W => tOp (rOp D (binop op)) (tE X D W ca) (tE X D W cb)) (fun W tk => pe_op (or_bin hK op) (ha W tk) (hb W tk)) fun W σ H Q ⟨i, r, m, S, E, h⟩ => ?_
  refine TE_mono (bind1 (k := fun x r m1 => (cb r m1).bind fun y m2 => lift (binop op x y m2)) S E h) fun x H1 h1 => TE_mono (bind2 (k := fun x y r m2 => lift (binop op x y m2)) h1) fun y H2 h2 => ?_
  obtain ⟨i, r, m, v, u, S, E, q1, q2, h⟩ := h2
  exact ⟨i, m, v, u, S, q1, q2, Pst.lift h⟩

theorem se_cmp {op : CmpOp} (hK : X.K = D.K) (hu : X.A.units + 1100 < cLine) (hm : behindInMarks op eb = false) (ha : SE X D ea ca) (hb : SE X D eb cb) : SE X D (.Compare ea [op] [eb] pos) (fun r m => (ca r m).bind fun x m1 => (cb r m1).bind fun y m2 => lift (cmpop op x y m2)) := by
  refine SE.of (t := fun W => tOp (rOp D (cmpop op)) (tE X D W ca) (tE X D W cb)) (fun W tk => pe_cmpR (or_cmp hK hu op) (ha W tk) (hb W tk) hm) fun W σ H Q ⟨i, r, m, S, E, h⟩ => ?_
  refine TE_mono (bind1 (k := fun x r m1 => (cb r m1).bind fun y m2 => lift (cmpop op x y m2)) S E h) fun x H1 h1 => TE_mono (bind2 (k := fun x y r m2 => lift (cmpop op x y m2)) h1) fun y H2 h2 => ?_
  obtain ⟨i, r, m, v, u, S, E, q1, q2, h⟩ := h2
  exact ⟨i, m, v, u, S, q1, q2, Pst.lift h⟩
theorem cmpop_bl {op : CmpOp} {a b : MV} {m : Mem} {p : MV × Mem} (h : cmpop op a b m = some p) : ∃ k, p = (.bl k, m) := by
  have ok : ∀ {o : Option Bool}, okb o m = some p → ∃ k, p = (.bl k, m) := fun {o} h => by
    cases o with
    | none => cases h
    | some k => exact ⟨k, (Option.some.inj h).symm⟩
  cases op <;> first
    | exact ok h
    | (cases a <;> cases b <;> first
        | exact ⟨_, (Option.some.inj h).symm⟩
        | cases h)
theorem onTru_bl {α : Type} {m : Mem} {b : Bool} {k : Bool → R α} : onTru m (.bl b) k = k b := rfl
theorem bind_ok {α β : Type} (v : α) (m : Mem) (f : α → M β) : (R.ok v m).bind f = f v m := rfl
theorem bind_bind {α β γ : Type} (a : R α) (f : α → M β) (g : β → M γ) : (a.bind f).bind g = a.bind fun x m => (f x m).bind g := by cases a <;> rfl
theorem onTru_bind {α β : Type} {m : Mem} {x : MV} {k : Bool → R α} {g : α → M β} : (onTru m x k).bind g = onTru m x fun b => (k b).bind g := by
  unfold onTru
  cases truth m x <;> rfl
theorem st_cmp {op : CmpOp} (hK : X.K = D.K) (hu : X.A.units + 1100 < cLine) (hm : behindInMarks op eb = false) (ha : SE X D ea ca) (hb : SE X D eb cb) : ST X D (.Compare ea [op] [eb] pos) (fun r m => (ca r m).bind fun x m1 => (cb r m1).bind fun y m2 => lift (cmpop op x y m2)) := by
  refine fun W tk => U.PT.imp (pt_cmpR (or_cmp hK hu op) (ha W tk) (hb W tk) hm) fun σ H Q ⟨i, r, m, S, E, h⟩ => ?_
  simp only [bind_bind] at h
  refine TE_mono (bind1 (k := fun x r m1 => (cb r m1).bind fun y m2 => (lift (cmpop op x y m2)).bind fun x m1 => onTru m1 x fun b => R.ok b m1) S E h) fun x H1 h1 =>
    TE_mono (bind2 (k := fun x y r m2 => (lift (cmpop op x y m2)).bind fun x m1 => onTru m1 x fun b => R.ok b m1) h1) fun y H2 h2 => ?_
  obtain ⟨i, r, m, v, u, S, E, q1, q2, h⟩ := h2
  refine ⟨i, m, v, u, S, q1, q2, ?_⟩
  dsimp only at h
  cases e : cmpop op v u m with
  | none => rw [e] at h; exact h
  | some p =>
    obtain ⟨k, rfl⟩ := cmpop_bl e
    rw [e] at h
    intro i' H' x ex S' q
    cases q
    exact ⟨k, rfl, h i' H' k ex S' rfl⟩
/-- the truth of an answer, as the layer tells it -/
theorem tru1 {α β : Type} {W : WX} {rel : List Addr → Hp → β → α → Prop} {σ : L2.St} {H : Hp} {Q : β → Hp → Prop} {k : Bool → MV → Env → M α} {x : V} (hK : X.K = D.K)
    (h : K1 X D W rel (fun v r m => onTru m v fun b => k b v r m) x σ H Q) : ∃ b, TruV X.K x H b ∧ ∃ i r m v, Sim D i m H ∧ RE X D i H r σ ∧ RV D i H x v ∧ truth m v = some b ∧ Pst D W σ rel Q i H (k b v r m) := by
  obtain ⟨i, r, m, v, S, E, q, h⟩ := h
  unfold onTru at h
  dsimp only at h
  cases e : truth m v with
  | none => rw [e] at h; exact h.elim
  | some b =>
    rw [e] at h
    exact ⟨b, truV hK S q e, i, r, m, v, S, E, q, e, h⟩
theorem se_not (hK : X.K = D.K) (ha : SE X D ea ca) : SE X D (.UnaryOp .Not ea pos) (fun r m => (ca r m).bind fun x m1 => onTru m1 x fun b => .ok (.bl (!b)) m1) := by
  refine SE.of (t := fun W => tNotT X.K (tE X D W ca)) (fun W tk => pe_notT (ha W tk)) fun W σ H Q ⟨i, r, m, S, E, h⟩ => ?_
  refine TE_mono (bind1 (k := fun x r m1 => onTru m1 x fun b => R.ok (MV.bl (!b)) m1) S E h) fun x H1 h1 => ?_
  obtain ⟨b, t, i, r, m, v, S, E, q, _, h⟩ := tru1 (k := fun b x r m1 => R.ok (MV.bl (!b)) m1) hK h1
  exact ⟨b, t, h i H1 _ Ext.refl S (.bl _)⟩
theorem se_neg (ha : SE X D ea ca) : SE X D (.UnaryOp .USub ea pos) (fun r m => (ca r m).bind fun x m1 => lift (negv x m1)) := by
  refine SE.of (t := fun W => tUn (rU fun i => .int (-i)) (tE X D W ca)) (fun W tk => pe_un un_neg (ha W tk)) fun W σ H Q ⟨i, r, m, S, E, h⟩ => ?_
  refine TE_mono (bind1 (k := fun x r m1 => lift (negv x m1)) S E h) fun x H1 ⟨i, r, m, v, S, E, q, h⟩ => ?_
  cases q with
  | int n => exact ⟨n, rfl, h i H1 _ Ext.refl S (.int _)⟩
  | _ => exact h.elim
theorem se_or {rest : List Expr} (hK : X.K = D.K) (ha : SE X D ea ca) (hb : SE X D (.BoolOp .Or (eb :: rest) pos) cb) : SE X D (.BoolOp .Or (ea :: eb :: rest) pos) (fun r m => (ca r m).bind fun x m1 => onTru m1 x fun k => if k = true then .ok x m1 else cb r m1) := by
  refine SE.of (t := fun W => tOrT X.K (tE X D W ca) (tE X D W cb)) (fun W tk => pe_orT (ha W tk) (hb W tk)) fun W σ H Q ⟨i, r, m, S, E, h⟩ => ?_
  refine TE_mono (bind1 (k := fun x r m1 => onTru m1 x fun k => if k = true then .ok x m1 else cb r m1) S E h) fun x H1 h1 => ?_
  obtain ⟨b, t, i, r, m, v, S, E, q, _, h⟩ := tru1 (k := fun b x r m1 => if b = true then .ok x m1 else cb r m1) hK h1
  refine ⟨b, t, ?_⟩
  cases b with
  | true => exact h i H1 x Ext.refl S q
  | false => exact ⟨i, r, m, S, E, h⟩
theorem se_and {rest : List Expr} (hK : X.K = D.K) (ha : SE X D ea ca) (hb : SE X D (.BoolOp .And (eb :: rest) pos) cb) : SE X D (.BoolOp .And (ea :: eb :: rest) pos) (fun r m => (ca r m).bind fun x m1 => onTru m1 x fun k => if k = true then cb r m1 else .ok x m1) := by
  refine SE.of (t := fun W => tAndT X.K (tE X D W ca) (tE X D W cb)) (fun W tk => pe_andT (ha W tk) (hb W tk)) fun W σ H Q ⟨i, r, m, S, E, h⟩ => ?_
  refine TE_mono (bind1 (k := fun x r m1 => onTru m1 x fun k => if k = true then cb r m1 else .ok x m1) S E h) fun x H1 h1 => ?_
  obtain ⟨b, t, i, r, m, v, S, E, q, _, h⟩ := tru1 (k := fun b x r m1 => if b = true then cb r m1 else .ok x m1) hK h1
  refine ⟨b, t, ?_⟩
  cases b with
  | false => exact h i H1 x Ext.refl S q
  | true => exact ⟨i, r, m, S, E, h⟩
theorem se_one {op : BoolOp} (ha : SE X D ea ca) : SE X D (.BoolOp op [ea] pos) ca := fun W tk => pe_one (ha W tk)
/-- a test by its value's truth -/
theorem st_plain (hK : X.K = D.K) (ha : SE X D ea ca) (he : ∀ whole, isTrue ea X.env whole = (do let v ← whole; standAt ea.pos; holding [v] (truthy v))) : ST X D ea ca := by
  refine fun W tk => U.PT.imp (pt_truth (ha W tk) he) fun σ H Q ⟨i, r, m, S, E, h⟩ => ?_
  refine TE_mono (bind1 (k := fun x r m1 => onTru m1 x fun b => R.ok b m1) S E h) fun x H1 h1 => ?_
  obtain ⟨b, t, i, r, m, v, S, E, q, _, h⟩ := tru1 (k := fun b x r m1 => R.ok b m1) hK h1
  exact ⟨b, t, h i H1 b Ext.refl S rfl⟩
/-- what a test is followed by -/
theorem tT_bind {W : WX} {α β : Type} {rel : List Addr → Hp → β → α → Prop} {σ : L2.St} {H : Hp} {Q : β → Hp → Prop} {c : Env → M MV} {k : Bool → MV → Env → M α} {i : List Addr} {r : Env} {m : Mem} (S : Sim D i m H) (E : RE X D i H r σ)
    (h : Pst D W σ rel Q i H ((c r m).bind fun x m1 => onTru m1 x fun b => k b x r m1)) : tT X D W c σ H fun b H1 => ∃ i v m, Sim D i m H1 ∧ RE X D i H1 r σ ∧ truth m v = some b ∧ Pst D W σ rel Q i H1 (k b v r m) := by
  refine ⟨i, r, m, S, E, ?_⟩
  unfold onTru at h ⊢
  cases e : c r m with
  | ok v m1 =>
    rw [e, bind_ok] at h
    rw [bind_ok]
    cases e2 : truth m1 v with
    | none => rw [e2] at h; exact h.elim
    | some b =>
      rw [e2] at h
      intro i' H' b' ex S' eb
      subst eb
      exact ⟨i', v, m1, S', E.ext ex, e2, h.ext ex⟩
  | ex c fs m1 => rw [e] at h; exact h
  | fail => rw [e] at h; exact h
theorem se_ife (hc : ST X D ec cc) (ha : SE X D ea ca) (hb : SE X D eb cb) : SE X D (.IfExp ec ea eb pos) (fun r m => (cc r m).bind fun x m1 => onTru m1 x fun k => if k = true then ca r m1 else cb r m1) := by
  refine SE.of (t := fun W => tIf (tT X D W cc) (tE X D W ca) (tE X D W cb)) (fun W tk => pe_ifExp (hc W tk) (ha W tk) (hb W tk)) fun W σ H Q ⟨i, r, m, S, E, h⟩ => ?_
  refine TT_mono (tT_bind (k := fun b x r m1 => if b = true then ca r m1 else cb r m1) S E h) fun b H1 ⟨i, v, m, S, E, _, h⟩ => ?_
  cases b with
  | true => exact ⟨i, r, m, S, E, h⟩
  | false => exact ⟨i, r, m, S, E, h⟩
theorem st_not (ha : ST X D ea ca) : ST X D (.UnaryOp .Not ea pos) (fun r m => (ca r m).bind fun x m1 => onTru m1 x fun b => .ok (.bl (!b)) m1) := by
  refine fun W tk => U.PT.imp (pt_not (ha W tk)) fun σ H Q ⟨i, r, m, S, E, h⟩ => ?_
  simp only [bind_bind, onTru_bind, bind_ok, onTru_bl] at h
  exact TT_mono (tT_bind (k := fun b x r m1 => R.ok (!b) m1) S E h) fun b H1 ⟨i, v, m, S, E, _, h⟩ => h i H1 _ Ext.refl S rfl
/-- and, or as tests, whatever 'whole' is -/
def SW (X : Cx) (D : Dat) (e : Expr) (c : Env → M MV) : Prop := ∀ W, Takes X W → PW X e (tT X D W c)
theorem SW.st {c : Env → M MV} (h : SW X D e c) : ST X D e c := fun W tk => (h W tk).pt
theorem sw_and1 (ha : ST X D ea ca) : SW X D (.BoolOp .And [ea] pos) ca := fun W tk => pw_and1 (ha W tk)
theorem sw_or1 (ha : ST X D ea ca) : SW X D (.BoolOp .Or [ea] pos) ca := fun W tk => pw_or1 (ha W tk)
theorem PWimp {t t' : TT} (h : PW X e t) (hi : ∀ σ H Q, t' σ H Q → t σ H Q) : PW X e t' := ⟨fun wh pins s σ H Q I q => h.run wh pins s σ H Q I (hi σ H Q q)⟩
theorem sw_and {rest : List Expr} (ha : ST X D ea ca) (hb : SW X D (.BoolOp .And (eb :: rest) pos) cb) : SW X D (.BoolOp .And (ea :: eb :: rest) pos) (fun r m => (ca r m).bind fun x m1 => onTru m1 x fun k => if k = true then cb r m1 else .ok x m1) := by
  refine fun W tk => PWimp (pw_and (ha W tk) (hb W tk)) fun σ H Q ⟨i, r, m, S, E, h⟩ => ?_
  simp only [bind_bind, onTru_bind] at h
  refine TT_mono (tT_bind (k := fun b x r m1 => (if b = true then cb r m1 else .ok x m1).bind fun x m1 => onTru m1 x fun b => R.ok b m1) S E h) fun b H1 ⟨i, v, m, S, E, ev, h⟩ => ?_
  cases b with
  | true => exact ⟨i, r, m, S, E, h⟩
  | false =>
    rw [if_neg Bool.false_ne_true, bind_ok] at h
    unfold onTru at h
    rw [ev] at h
    exact h i H1 _ Ext.refl S rfl
theorem sw_or {rest : List Expr} (ha : ST X D ea ca) (hb : SW X D (.BoolOp .Or (eb :: rest) pos) cb) : SW X D (.BoolOp .Or (ea :: eb :: rest) pos) (fun r m => (ca r m).bind fun x m1 => onTru m1 x fun k => if k = true then .ok x m1 else cb r m1) := by
  refine fun W tk => PWimp (pw_or (ha W tk) (hb W tk)) fun σ H Q ⟨i, r, m, S, E, h⟩ => ?_
  simp only [bind_bind, onTru_bind] at h
  refine TT_mono (tT_bind (k := fun b x r m1 => (if b = true then .ok x m1 else cb r m1).bind fun x m1 => onTru m1 x fun b => R.ok b m1) S E h) fun b H1 ⟨i, v, m, S, E, ev, h⟩ => ?_
  cases b with
  | false => exact ⟨i, r, m, S, E, h⟩
  | true =>
    rw [if_pos rfl, bind_ok] at h
    unfold onTru at h
    rw [ev] at h
    exact h i H1 _ Ext.refl S rfl
theorem st_ife (hc : ST X D ec cc) (ha : ST X D ea ca) (hb : ST X D eb cb) : ST X D (.IfExp ec ea eb pos) (fun r m => (cc r m).bind fun x m1 => onTru m1 x fun k => if k = true then ca r m1 else cb r m1) := by
  refine fun W tk => ⟨fun pins s σ H Q I ⟨i, r, m, S, E, h⟩ => ?_⟩
  simp only [bind_bind, onTru_bind] at h
  refine isTrue_IfExp (thn ((hc W tk).run pins s σ H _ I (tT_bind (k := fun b x r m1 => (if b = true then ca r m1 else cb r m1).bind fun x m1 => onTru m1 x fun b => R.ok b m1) S E h)) fun b s1 ⟨H1, I1, i, v, m, S, E, _, h⟩ => ?_)
  cases b with
  | true => exact (ha W tk).run pins s1 σ H1 Q I1 ⟨i, r, m, S, E, h⟩
  | false => exact (hb W tk).run pins s1 σ H1 Q I1 ⟨i, r, m, S, E, h⟩
/-- a < b < c -/
theorem chain_reads {o p : CmpOp} {W : WX} {σ : L2.St} {H : Hp} {Q : VK} {i : List Addr} {r : Env} {m : Mem} (S : Sim D i m H) (E : RE X D i H r σ)
    (h : Pst D W σ (RV D) Q i H ((ca r m).bind fun x m1 => (cb r m1).bind fun y m2 => (lift (cmpop o x y m2)).bind fun z m3 => onTru m3 z fun b => if b = true then (cc r m3).bind fun u m4 => lift (cmpop p y u m4) else .ok (.bl false) m3)) :
    tChain (rOp D (cmpop o)) (rOp D (cmpop p)) (tE X D W ca) (tE X D W cb) (tE X D W cc) σ H Q := by
  refine TE_mono (bind1 (k := fun x r m1 => (cb r m1).bind fun y m2 => (lift (cmpop o x y m2)).bind fun z m3 => onTru m3 z fun b => if b = true then (cc r m3).bind fun u m4 => lift (cmpop p y u m4) else .ok (.bl false) m3) S E h) fun x H1 h1 =>
    TE_mono (bind2 (k := fun x y r m2 => (lift (cmpop o x y m2)).bind fun z m3 => onTru m3 z fun b => if b = true then (cc r m3).bind fun u m4 => lift (cmpop p y u m4) else .ok (.bl false) m3) h1) fun y H2 h2 => ?_
  obtain ⟨i, r, m, v, u, S, E, q1, q2, h⟩ := h2
  refine ⟨i, m, v, u, S, q1, q2, ?_⟩
  dsimp only at h
  cases e : cmpop o v u m with
  | none => rw [e] at h; exact h
  | some pr =>
    obtain ⟨k, rfl⟩ := cmpop_bl e
    rw [e] at h
    intro i' H' x ex S' q
    cases q
    refine ⟨k, rfl, ?_⟩
    have h' := h.ext ex
    cases k with
    | false => exact h' i' H' _ Ext.refl S' (.bl _)
    | true =>
      rw [if_pos rfl]
      exact TE_mono (bind2 (k := fun y z r m4 => lift (cmpop p y z m4)) ⟨i', r, m, u, S', E.ext ex, q2.ext ex, h'⟩) fun z H4 ⟨i, r, m, v, u, S, E, q1, q2, h⟩ => ⟨i, m, v, u, S, q1, q2, Pst.lift h⟩
theorem se_chain {o p : CmpOp} (hK : X.K = D.K) (hu : X.A.units + 1100 < cLine) (hm : lastMarks [o, p] [eb, ec] = false) (ha : SE X D ea ca) (hb : SE X D eb cb) (hc : SE X D ec cc) : SE X D (.Compare ea [o, p] [eb, ec] pos)
    (fun r m => (ca r m).bind fun x m1 => (cb r m1).bind fun y m2 => (lift (cmpop o x y m2)).bind fun z m3 => onTru m3 z fun b => if b = true then (cc r m3).bind fun u m4 => lift (cmpop p y u m4) else .ok (.bl false) m3) :=
  SE.of (t := fun W => tChain (rOp D (cmpop o)) (rOp D (cmpop p)) (tE X D W ca) (tE X D W cb) (tE X D W cc)) (fun W tk => pe_chain (or_cmp hK hu o) (or_cmp hK hu p) (ha W tk) (hb W tk) (hc W tk) hm) fun W σ H Q ⟨i, r, m, S, E, h⟩ => chain_reads S E h
end
end U
end Part_U6

section Part_U7
set_option Elab.async false
set_option linter.all false
set_option maxRecDepth 100000
set_option maxHeartbeats 4000000
/-! U7: argument lists, displays, calls, attributes, subscripts, built-ins: the text's by the layer's rules. -/
namespace U
open PySem PySem.Spec PyProof.Rows L2
section
variable {X : Cx} {D : Dat} {W : WX} {σ : L2.St} {H : Hp} {α β : Type} {rel : List Addr → Hp → β → α → Prop} {Q : β → Hp → Prop}
/-- a list of answers is at hand -/
def KL (X : Cx) (D : Dat) (W : WX) (rel : List Addr → Hp → β → α → Prop) (k : List MV → Env → M α) (n : Nat) (xs : List V) (σ : L2.St) (H : Hp) (Q : β → Hp → Prop) : Prop :=
  ∃ i r m vs, Sim D i m H ∧ RE X D i H r σ ∧ RVs D i H xs vs ∧ vs.length = n ∧ Pst D W σ rel Q i H (k vs r m)
theorem bindL {c : Env → M (List MV)} {k : List MV → Env → M α} {i : List Addr} {r : Env} {m : Mem} {n : Nat} (hl : ∀ r m vs m', c r m = .ok vs m' → vs.length = n) (S : Sim D i m H) (E : RE X D i H r σ) (h : Pst D W σ rel Q i H ((c r m).bind fun x m1 => k x r m1)) :
    tL X D W c σ H fun x H1 => KL X D W rel k n x σ H1 Q := by
  refine ⟨i, r, m, S, E, ?_⟩
  cases e : c r m with
  | ok v m1 =>
    rw [e] at h
    exact fun i' H' x e1 S1 q => ⟨i', r, m1, v, S1, E.ext e1, q, hl r m v m1 e, h.ext e1⟩
  | ex c fs m1 =>
    rw [e] at h
    exact h
  | fail =>
    rw [e] at h
    exact h
/-- .. behind a first answer -/
theorem bindL1 {c : Env → M (List MV)} {k : MV → List MV → Env → M α} {n : Nat} {x : V} (hl : ∀ r m vs m', c r m = .ok vs m' → vs.length = n) (h : K1 X D W rel (fun v r m => (c r m).bind fun u m1 => k v u r m1) x σ H Q) :
    tL X D W c σ H fun xs H1 => ∃ i r m v vs, Sim D i m H1 ∧ RE X D i H1 r σ ∧ RV D i H1 x v ∧ RVs D i H1 xs vs ∧ vs.length = n ∧ Pst D W σ rel Q i H1 (k v vs r m) := by
  obtain ⟨i, r, m, v, S, E, q, h⟩ := h
  dsimp only at h
  refine ⟨i, r, m, S, E, ?_⟩
  cases e : c r m with
  | ok u m1 =>
    rw [e] at h
    exact fun i' H' y e1 S1 q1 => ⟨i', r, m1, v, u, S1, E.ext e1, q.ext e1, q1, hl r m u m1 e, h.ext e1⟩
  | ex c fs m1 => rw [e] at h; exact h
  | fail => rw [e] at h; exact h
end
section
variable {X : Cx} {D : Dat} {e ea eb ec : Expr} {es : List Expr} {ca cb cc : Env → M MV} {cl : Env → M (List MV)} {pos : Pos}
theorem sl_nil : SL X D [] (fun _ m => .ok [] m) := fun W tk => U.PA.imp pa_nil fun σ H Q ⟨i, r, m, S, E, h⟩ => h i H [] Ext.refl S .nil
theorem sl_cons (ha : SE X D ea ca) (hl : SL X D es cl) (hs : starEach (ea :: es) X.env = (false, eval ea X.env) :: starEach es X.env) : SL X D (ea :: es) (fun r m => (ca r m).bind fun v m1 => (cl r m1).bind fun vs m2 => .ok (v :: vs) m2) := by
  refine fun W tk => U.PA.imp (pa_cons (ha W tk) (hl W tk) hs) fun σ H Q ⟨i, r, m, S, E, h⟩ => ?_
  refine TE_mono (bind1 (k := fun v r m1 => (cl r m1).bind fun vs m2 => .ok (v :: vs) m2) S E h) fun x H1 ⟨i, r, m, v, S, E, q, h⟩ => ?_
  dsimp only at h
  refine ⟨i, r, m, S, E, ?_⟩
  cases e : cl r m with
  | ok u m1 =>
    rw [e] at h
    exact fun i' H' y e1 S1 q1 => h i' H' (x :: y) e1 S1 (.cons (q.ext e1) q1)
  | ex c fs m1 => rw [e] at h; exact h
  | fail => rw [e] at h; exact h
theorem se_lst (hl : ∀ r m vs m', cl r m = .ok vs m' → vs.length = es.length) (ha : SL X D es cl) : SE X D (.List es pos) (fun r m => (cl r m).bind fun vs m1 => lift (mkLst vs m1)) := by
  refine SE.of (t := fun W => tLst (tL X D W cl)) (fun W tk => pe_lst (ha W tk)) fun W σ H Q ⟨i, r, m, S, E, h⟩ => ?_
  refine TL_mono (bindL (k := fun vs r m1 => lift (mkLst vs m1)) hl S E h) fun xs H1 ⟨i, r, m, vs, S, E, q, _, h⟩ => ?_
  have h' := Pst.lift h
  unfold mkLst at h'
  split at h'
  · rename_i hz
    exact ⟨by rw [q.length, ← line_eq]; exact hz, PO2.lst h' S q⟩
  · exact h'.elim
theorem se_tup {k : Nat} (hl : ∀ r m vs m', cl r m = .ok vs m' → vs.length = es.length) (ha : SL X D es cl) : SE X D (.Tuple es k pos) (fun r m => (cl r m).bind fun vs m1 => lift (mkTup vs m1)) := by
  refine SE.of (t := fun W => tTup (tL X D W cl)) (fun W tk => pe_tup (ha W tk)) fun W σ H Q ⟨i, r, m, S, E, h⟩ => ?_
  refine TL_mono (bindL (k := fun vs r m1 => lift (mkTup vs m1)) hl S E h) fun xs H1 ⟨i, r, m, vs, S, E, q, _, h⟩ => ?_
  have h' := Pst.lift h
  unfold mkTup at h'
  split at h'
  · rename_i hz
    exact ⟨by rw [q.length, ← line_eq]; exact hz, PO2.tup h' S q⟩
  · exact h'.elim
theorem se_idx (hK : X.K = D.K) (hp : PlainIx eb) (ha : SE X D ea ca) (hb : SE X D eb cb) : SE X D (.Subscript ea eb pos) (fun r m => (ca r m).bind fun x m1 => (cb r m1).bind fun y m2 => lift (subscr x y m2)) := by
  refine SE.of (t := fun W => tOp (rOp D subscr) (tE X D W ca) (tE X D W cb)) (fun W tk => pe_ix (or_ix hK) (ha W tk) (hb W tk) hp) fun W σ H Q ⟨i, r, m, S, E, h⟩ => ?_
  refine TE_mono (bind1 (k := fun x r m1 => (cb r m1).bind fun y m2 => lift (subscr x y m2)) S E h) fun x H1 h1 => TE_mono (bind2 (k := fun x y r m2 => lift (subscr x y m2)) h1) fun y H2 h2 => ?_
  obtain ⟨i, r, m, v, u, S, E, q1, q2, h⟩ := h2
  exact ⟨i, m, v, u, S, q1, q2, Pst.lift h⟩
/-- a part of a slice -/
inductive SO (X : Cx) (D : Dat) : Option Expr → (Env → M (List MV)) → Prop
  | non : SO X D none (fun _ m => .ok [] m)
  | som {e : Expr} {c : Env → M MV} (h : SE X D e c) : SO X D (some e) (fun r m => (c r m).bind fun v m1 => (R.ok [] m1).bind fun vs m2 => .ok (v :: vs) m2)
def tO (X : Cx) (D : Dat) (W : WX) {β α : Type} (rel : List Addr → Hp → β → α → Prop) (c : Env → M (List MV)) (k : Option Int → Env → M α) (Q : β → Hp → Prop) : L2.St → Hp → Prop := fun σ H => ∃ i r m, Sim D i m H ∧ RE X D i H r σ ∧ Pst D W σ rel Q i H ((c r m).bind fun ls m1 => onPart ls fun a => k a r m1)
/-- a part is read, then more -/
theorem part_step {β α : Type} {rel : List Addr → Hp → β → α → Prop} {o : Option Expr} {c : Env → M (List MV)} (h : SO X D o c) {W : WX} (tk : Takes X W) {pins : List (Addr × Obj)} {s : Shared} {σ : L2.St} {H : Hp} {Q : β → Hp → Prop} {k : Option Int → Env → M α} {P : List Addr → Hp → Prop}
    (hP : ∀ i H i' H', P i H → Ext D i H i' H' → P i' H') (I : Inv X pins σ H s) {i : List Addr} {r : Env} {m : Mem} (S : Sim D i m H) (E : RE X D i H r σ) (p : P i H) (hq : Pst D W σ rel Q i H ((c r m).bind fun ls m1 => onPart ls fun a => k a r m1)) :
    wpAny (model X.prog X.w) X.A (evalPart o X.env) (fun u s' => ∃ a H', Inv X pins σ H' s' ∧ IsPart u a ∧ ∃ i m, Sim D i m H' ∧ RE X D i H' r σ ∧ P i H' ∧ Pst D W σ rel Q i H' (k a r m)) X.xe s := by
  cases h with
  | non => exact po_none.run pins s σ H _ I ⟨i, m, S, E, p, hq⟩
  | @som e c h =>
    refine (po_some (h W tk)).run pins s σ H _ I ?_
    simp only [bind_bind, bind_ok] at hq
    refine ⟨i, r, m, S, E, ?_⟩
    cases e : c r m with
    | ok v m1 =>
      rw [e] at hq
      intro i' H' x ex S' q
      cases q with
      | int n => exact ⟨n, rfl, i', m1, S', E.ext ex, hP _ _ _ _ p ex, hq.ext ex⟩
      | _ => exact hq.elim
    | ex cc fs m1 => rw [e] at hq; exact hq
    | fail => rw [e] at hq; exact hq
theorem se_slc {lo hi : Option Expr} {p2 : Pos} {clo chi : Env → M (List MV)} (hK : X.K = D.K) (ha : SE X D ea ca) (hlo : SO X D lo clo) (hhi : SO X D hi chi) : SE X D (.Subscript ea (.Slice lo hi none p2) pos)
    (fun r m => (ca r m).bind fun x m1 => (clo r m1).bind fun ls m2 => onPart ls fun a => (chi r m2).bind fun hs m3 => onPart hs fun b => lift (slice x a b m3)) := by
  refine fun W tk => ⟨fun pins s σ H Q I ⟨i, r, m, S, E, h⟩ => ?_⟩
  refine Subscript_ (thn ((ha W tk).run pins s σ H _ I (bind1 (k := fun x r m1 => (clo r m1).bind fun ls m2 => onPart ls fun a => (chi r m2).bind fun hs m3 => onPart hs fun b => lift (slice x a b m3)) S E h)) fun v s1 ⟨x, H1, I1, r1, i, r, m, y, S, E, q, h⟩ => ?_)
  dsimp only at h
  refine wpAny_Slice (thn (part_step (P := fun i H => RV D i H x y) (k := fun a r m2 => (chi r m2).bind fun hs m3 => onPart hs fun b => lift (slice y a b m3)) hlo tk (fun _ _ _ _ q e => q.ext e) I1 S E q h) fun vl s2 ⟨l, H2, I2, pl, i, m, S, E, q, h⟩ => ?_)
  refine thn (part_step (P := fun i H => RV D i H x y) (k := fun b r m3 => lift (slice y l b m3)) hhi tk (fun _ _ _ _ q e => q.ext e) I2 S E q h) fun vu s3 ⟨u, H3, I3, pu, i, m, S, E, q, h⟩ => ?_
  rw [evalPart_none]
  refine wpAny_pure ?_
  have I4 : Inv X pins σ H3 { s3 with heap := s3.heap.push { cls := .type "slice", data := .fields #[vl, vu, .none] } } := Inv.kept (t' := s3.toks) I3 fun b ob z => Heap.get?_push_of_some _ z
  obtain ⟨T, id, hT, ht, hg⟩ := or_sl hK pins _ σ H3 x v vl vu l u s3.heap.objs.size Q I4 r1 (Heap.IsSliceOf.new ..) pl pu ⟨i, m, y, S, q, Pst.lift h⟩
  exact tail_any (value := ea) (slice := .Slice lo hi none p2) (ops := [Value.ref s3.heap.objs.size, v]) ht hT hg (by with_unfolding_all rfl)
end

section
variable {X : Cx} {D : Dat} {ea : Expr} {ca : Env → M MV} {pos : Pos}
theorem se_rev {k : Nat} {p1 p2 p3 : Pos} (hK : X.K = D.K) (ha : SE X D ea ca) : SE X D (.Subscript ea (.Slice none none (some (.UnaryOp .USub (.Constant (.int 1) k p1) p2)) p3) pos) (fun r m => (ca r m).bind fun x m1 => lift (revv x m1)) := by
  refine SE.of (t := fun W => tRevA X.K (tE X D W ca)) (fun W tk => pe_revA (ha W tk)) fun W σ H Q ⟨i, r, m, S, E, h⟩ => ?_
  refine TE_mono (bind1 (k := fun x r m1 => lift (revv x m1)) S E h) fun x H1 ⟨i, r, m, v, S, E, q, h⟩ => ?_
  have h' := Pst.lift h
  rw [hK]
  cases q with
  | @tup a vs xs h1 r1 => exact .inr ⟨a, vs, rfl, h1, PO2.tup (xs := xs.reverse) h' S r1.reverse⟩
  | @ref a n h0 =>
    unfold revv at h'
    dsimp only at h'
    split at h'
    · rename_i xs e0
      obtain ⟨vs, h1, r1⟩ := S.lst_at h0 e0
      exact .inl ⟨a, vs, rfl, SqL.of h1, PO2.lst h' S r1.reverse⟩
    · rename_i xs e0
      obtain ⟨vs, h1, r1⟩ := S.frz_at h0 e0
      exact .inl ⟨a, vs, rfl, h1.sq, PO2.lst h' S r1.reverse⟩
    · exact h'.elim
  | _ => exact h'.elim
end
/-! ### expressions that stand as arguments -/
def plainE : Expr → Bool
  | .Starred _ _ => false
  | .Slice _ _ _ _ => false
  | .Set _ _ _ => false
  | _ => true
theorem star_cons {e : Expr} {es : List Expr} {env : PySem.Env} (h : plainE e = true) : starEach (e :: es) env = (false, eval e env) :: starEach es env := by
  cases e <;> first
    | rfl
    | cases h
theorem star_none {pos : Pos} {env : PySem.Env} : ∀ {es : List Expr}, es.all plainE = true → (backTo pos (starEach es env)).any (·.1) = false
  | [], _ => rfl
  | e :: es, h => by
    rw [List.all_cons, Bool.and_eq_true] at h
    rw [star_cons h.1]
    exact star_none h.2
theorem star_all {pos : Pos} {env : PySem.Env} : ∀ {es : List Expr}, es.all plainE = true → (backTo pos (starEach es env)).all (fun x => !x.1) = true
  | [], _ => rfl
  | e :: es, h => by
    rw [List.all_cons, Bool.and_eq_true] at h
    rw [star_cons h.1]
    exact star_all h.2
theorem plain_ix {e : Expr} (h : plainE e = true) : PlainIx e := by
  intro o i
  cases e <;> first
    | rfl
    | cases h
theorem plain_marks {e : Expr} (op : CmpOp) (h : plainE e = true) : behindInMarks op e = false := by
  cases e <;> first
    | rfl
    | cases h
def plainBase : Expr → Bool
  | .Call (.Name id _) [] [] _ => id != ("super" : Str)
  | _ => true
theorem base_of {e : Expr} {f : Str} {env : PySem.Env} {whole : Sem Value} (h : plainBase e = true) : attributeBase e f env whole = whole := by
  cases e with
  | Call fn args kws p =>
    cases args with
    | nil =>
      cases kws with
      | nil =>
        cases fn with
        | Name id p => exact abase_call h
        | _ => rfl
      | cons k ks => cases fn <;> rfl
    | cons a as => cases fn <;> rfl
  | _ => rfl

section
variable {X : Cx} {D : Dat} {ea eb ec : Expr} {es : List Expr} {ca cb cc : Env → M MV} {cl : Env → M (List MV)} {pos p apos : Pos}
theorem se_blt {id : String} {b : BF} {x : Str} (hc : CallR X (.builtin id) (rBf D b)) (hg : Gl X x) (hm : X.mg x = none) (hv : bootBuiltins x = some (.builtin id)) (hn : x ≠ "__name__") (hdb : (x == ("__debug__" : Str)) = false) (hp : (ea :: es).all plainE = true)
    (hl : ∀ r m vs m', cl r m = .ok vs m' → vs.length = (ea :: es).length) (ha : SL X D (ea :: es) cl) : SE X D (.Call (.Name x p) (ea :: es) [] pos) (fun r m => (cl r m).bind fun vs m1 => lift (builtin b vs m1)) := by
  rw [List.all_cons, Bool.and_eq_true] at hp
  refine SE.of (t := fun W => tCB (rBf D b) (tL X D W cl)) (fun W tk => pe_callB hc hg hm hv (ha W tk) hn hdb (star_cons hp.1) (star_none hp.2)) fun W σ H Q ⟨i, r, m, S, E, h⟩ => ?_
  exact TL_mono (bindL (k := fun vs r m1 => lift (builtin b vs m1)) hl S E h) fun xs H1 ⟨i, r, m, vs, S, E, q, _, h⟩ => ⟨i, m, vs, S, q, Pst.lift h⟩
theorem se_bty {id : String} {b : BF} {x : Str} (hc : CallR X (.type id) (rBf D b)) (hg : Gl X x) (hm : X.mg x = none) (hv : bootBuiltins x = some (.type id)) (hn : x ≠ "__name__") (hdb : (x == ("__debug__" : Str)) = false) (hp : (ea :: es).all plainE = true)
    (hl : ∀ r m vs m', cl r m = .ok vs m' → vs.length = (ea :: es).length) (ha : SL X D (ea :: es) cl) : SE X D (.Call (.Name x p) (ea :: es) [] pos) (fun r m => (cl r m).bind fun vs m1 => lift (builtin b vs m1)) := by
  rw [List.all_cons, Bool.and_eq_true] at hp
  refine SE.of (t := fun W => tCB (rBf D b) (tL X D W cl)) (fun W tk => pe_callTy hc hg hm hv (ha W tk) hn hdb (star_cons hp.1) (star_none hp.2)) fun W σ H Q ⟨i, r, m, S, E, h⟩ => ?_
  exact TL_mono (bindL (k := fun vs r m1 => lift (builtin b vs m1)) hl S E h) fun xs H1 ⟨i, r, m, vs, S, E, q, _, h⟩ => ⟨i, m, vs, S, q, Pst.lift h⟩
/-- the type that a method of a built-in type wants -/
def bmTy : BM → String
  | .join => "str"
  | _ => "list"
theorem recv_ty {K : PySem.W.Frag} {b : BM} {i : List Addr} {H : Hp} {m : Mem} {x : V} {a : MV} (S : Sim D i m H) (r : RV D i H x a) (h : recv m b a = true) : tyV K (bmTy b) x H := by
  have ls : ∀ {n : Nat} {p : Addr}, i[n]? = some p → (match m[n]? with
      | some (.lst _) => true
      | _ => false) = true → tyV K "list" (.ref p) H := fun {n p} h0 e => by
    split at e
    · rename_i xs e0
      obtain ⟨vs, h1, _⟩ := S.lst_at h0 e0
      exact .inl ⟨rfl, vs, SqL.of h1⟩
    · cases e
  cases b with
  | join =>
    cases r with
    | str z => rfl
    | _ => cases h
  | _ =>
    cases r with
    | ref h0 => exact ls h0 h
    | _ => cases h
theorem se_bm {id : String} {b : BM} {name : Str} (hK : X.K = D.K) (pa : PlainAttrs (bmTy b)) (slot : Slot (bmTy b) name id) (hty : typeOf (.builtin id) = pure (.type "method_descriptor")) (hm : MtR X id (rBm D b)) (hb : plainBase ea = true) (hline : (apos.endLine == pos.line) = true) (hp : (eb :: es).all plainE = true) (hfew : (eb :: es).length < 20)
    (hl : ∀ r m vs m', cl r m = .ok vs m' → vs.length = (eb :: es).length) (ho : SE X D ea ca) (ha : SL X D (eb :: es) cl) : SE X D (.Call (.Attribute ea name apos) (eb :: es) [] pos) (fun r m => (ca r m).bind fun x m1 => onRecv m1 b x ((cl r m1).bind fun vs m2 => lift (method b x vs m2))) := by
  have hp' := hp
  rw [List.all_cons, Bool.and_eq_true] at hp'
  have hf : ((backTo pos (starEach (eb :: es) X.env)).all (fun x => !x.1) && (backToKw pos (keywordEach [] X.env)).all (fun x => x.1.isSome) && decide ((eb :: es).length + ([] : List Keyword).length + (if ([] : List Keyword).isEmpty then 0 else 1) < 30)) = true := by
    rw [star_all hp]
    show decide _ = true
    refine decide_eq_true ?_
    show (eb :: es).length + 0 + 0 < 30
    omega
  refine SE.of (t := fun W => tBM X.K (bmTy b) (rBm D b) (tE X D W ca) (tL X D W cl)) (fun W tk => pe_bm pa slot hty hm (ho W tk) (ha W tk) (base_of hb) hf hline (star_cons hp'.1) (star_none hp'.2)) fun W σ H Q ⟨i, r, m, S, E, h⟩ => ?_
  refine TE_mono (bind1 (k := fun x r m1 => onRecv m1 b x ((cl r m1).bind fun vs m2 => lift (method b x vs m2))) S E h) fun x H1 ⟨i, r, m, v, S, E, q, h⟩ => ?_
  unfold onRecv at h
  dsimp only at h
  split at h
  · rename_i hr
    refine ⟨recv_ty S q hr, TL_mono (bindL1 (k := fun x vs r m2 => lift (method b x vs m2)) hl ⟨i, r, m, v, S, E, q, h⟩) fun xs H2 ⟨i, r, m, v, vs, S, E, q, q2, _, h⟩ => ⟨i, m, v, vs, S, q, q2, Pst.lift h⟩⟩
  · exact h.elim
end

/-! ### attributes -/
theorem lookup_at : ∀ {hs : List (Str × V)} {k : Nat} {f : Str} {v : V}, (hs.map (·.1)).Nodup → (hs.map (·.1))[k]? = some f → (hs.map (·.2))[k]? = some v → hs.lookup f = some v
  | [], k, f, v, _, h, _ => by simp at h
  | (g, u) :: hs, 0, f, v, nd, h1, h2 => by
    simp at h1 h2
    subst h1 h2
    simp [List.lookup]
  | (g, u) :: hs, k + 1, f, v, nd, h1, h2 => by
    rw [List.map_cons, List.nodup_cons] at nd
    rw [List.map_cons, List.getElem?_cons_succ] at h1 h2
    have ne : (f == g) = false := by
      rw [beq_eq_false_iff_ne]
      rintro rfl
      exact nd.1 (List.mem_of_getElem? h1)
    rw [List.lookup, ne]
    exact lookup_at nd.2 h1 h2
theorem lookup_no : ∀ {hs : List (Str × V)} {f : Str}, f ∉ hs.map (·.1) → hs.lookup f = none
  | [], _, _ => rfl
  | (g, u) :: hs, f, h => by
    rw [List.map_cons, List.mem_cons, not_or] at h
    have ne : (f == g) = false := beq_eq_false_iff_ne.mpr h.1
    rw [List.lookup, ne]
    exact lookup_no h.2
/-- what the classes' attributes must be -/
structure AOk (G : Nat → Str) (D : Dat) : Prop where
  nod : ∀ c, (D.fn c).Nodup
  len : ∀ c, (D.fn c).length = D.T.fields c
  few : ∀ c, D.T.fields c < 900
  fix : ∀ c f k, D.T.fix c f = some k → (D.fn c)[k]? = some (G f) ∧ Cls D.K (D.ca c) ∧ NoAttr D.K (D.ca c) (G f)
section
variable {X : Cx} {D : Dat} {ea eb ec : Expr} {es : List Expr} {ca cb cc : Env → M MV} {cl : Env → M (List MV)} {pos p apos : Pos} {G : Nat → Str}
/-- an object's attribute, in the layer's heap -/
theorem getF_at {i : List Addr} {H : Hp} {m : Mem} {x : V} {a y : MV} {f : Nat} {m' : Mem} (A : AOk G D) (S : Sim D i m H) (r : RV D i H x a) (h : getF D.T a f m = some (y, m')) :
    m' = m ∧ ∃ p c dx hs v, x = .ref p ∧ H p = some (.ins (D.ca c) dx hs) ∧ Cls D.K (D.ca c) ∧ NoAttr D.K (D.ca c) (G f) ∧ hs.lookup (G f) = some v ∧ RV D i H v y := by
  have core : ∀ {p dx : Addr} {hs : List (Str × V)} {c : Nat} {fs : List MV}, H p = some (.ins (D.ca c) dx hs) → hs.map (·.1) = (D.fn c).take fs.length → RVs D i H (hs.map (·.2)) fs → (match D.T.fix c f with
      | some k => match fs[k]? with
        | some y => some (y, m)
        | none => none
      | none => none) = some (y, m') → m' = m ∧ ∃ c dx hs v, H p = some (.ins (D.ca c) dx hs) ∧ Cls D.K (D.ca c) ∧ NoAttr D.K (D.ca c) (G f) ∧ hs.lookup (G f) = some v ∧ RV D i H v y := fun {p dx hs c fs} hp hn rs e => by
    split at e
    · rename_i k ek
      split at e
      · rename_i y' ey
        cases e
        obtain ⟨a1, a2, a3⟩ := A.fix c f k ek
        obtain ⟨v, e1, r1⟩ := rs.get ey
        have hk : k < fs.length := (List.getElem?_eq_some_iff.mp ey).1
        refine ⟨rfl, c, dx, hs, v, hp, a2, a3, lookup_at ?_ ?_ e1, r1⟩
        · rw [hn]
          exact (A.nod c).sublist (List.take_sublist _ _)
        · rw [hn, List.getElem?_take_of_lt hk]
          exact a1
      · cases e
    · cases e
  cases r with
  | @obj p dx hs c fs hp hf hn rs =>
    have hl : (D.fn c).length ≤ fs.length := by
      have e1 := rs.length
      have e2 := congrArg List.length hn
      rw [List.length_map] at e1 e2
      omega
    obtain ⟨h1, c, dx, hs, v, h2⟩ := core hp (by rw [hn, List.take_of_length_le hl]) rs h
    exact ⟨h1, p, c, dx, hs, v, rfl, h2⟩
  | @ref p n h0 =>
    unfold getF at h
    dsimp only at h
    split at h
    · rename_i c fs e0
      obtain ⟨dx, hs, hp, hn, rs, _⟩ := S.at_ _ _ _ h0 e0
      obtain ⟨h1, c, dx, hs, v, h2⟩ := core hp hn rs h
      exact ⟨h1, p, c, dx, hs, v, rfl, h2⟩
    · cases h
  | _ => cases h
theorem se_fld {f : Nat} (hK : X.K = D.K) (A : AOk G D) (hb : plainBase ea = true) (ha : SE X D ea ca) : SE X D (.Attribute ea (G f) pos) (fun r m => (ca r m).bind fun x m1 => lift (getF D.T x f m1)) := by
  refine SE.of (t := fun W => tFld X.K (tE X D W ca) (G f)) (fun W tk => pe_fld (ha W tk) (base_of hb)) fun W σ H Q ⟨i, r, m, S, E, h⟩ => ?_
  refine TE_mono (bind1 (k := fun x r m1 => lift (getF D.T x f m1)) S E h) fun x H1 ⟨i, r, m, v, S, E, q, h⟩ => ?_
  have h' := Pst.lift h
  cases e : getF D.T v f m with
  | none => rw [e] at h'; exact h'.elim
  | some pr =>
    obtain ⟨y, m'⟩ := pr
    rw [e] at h'
    obtain ⟨rfl, p, c, dx, hs, u, h1, h2, h3, h4, h5, h6⟩ := getF_at A S q e
    exact ⟨p, _, dx, hs, u, h1, h2, by rw [hK]; exact h3, by rw [hK]; exact h4, h5, h'.here S h6⟩
end
end U
end Part_U7

section Part_U8
set_option Elab.async false
set_option linter.all false
set_option maxRecDepth 100000
set_option maxHeartbeats 4000000
/-! U8: calls of defs, methods and classes. -/
namespace U
open PySem PySem.Spec PyProof.Rows L2
theorem Vals.pick {vs : List V} {us : List Value} (r : Vals vs us) : ∀ ix : List Nat, Vals (U.pick ix vs) (U.pick ix us)
  | [] => .nil
  | k :: ks => by
    have ih := Vals.pick r ks
    have h : (∃ v u, vs[k]? = some v ∧ us[k]? = some u ∧ RelV v u) ∨ (vs[k]? = none ∧ us[k]? = none) := by
      clear ih
      induction r generalizing k with
      | nil => exact .inr ⟨by simp, by simp⟩
      | cons a t ih =>
        cases k with
        | zero => exact .inl ⟨_, _, rfl, rfl, a⟩
        | succ k => simpa using ih k
    rcases h with ⟨v, u, h1, h2, h3⟩ | ⟨h1, h2⟩
    · unfold U.pick
      rw [h1, h2]
      exact .cons h3 ih
    · unfold U.pick
      rw [h1, h2]
      exact ih
theorem Vals.ord {vs : List V} {us : List Value} (r : Vals vs us) : ∀ ix : List Nat, Vals (U.ord ix vs) (U.ord ix us)
  | [] => r
  | k :: ks => Vals.pick r (k :: ks)
theorem RVs.pick {D : Dat} {i : List Addr} {H : Hp} {vs : List V} {xs : List MV} (r : RVs D i H vs xs) : ∀ ix : List Nat, RVs D i H (U.pick ix vs) (U.pick ix xs)
  | [] => .nil
  | k :: ks => by
    have ih := RVs.pick r ks
    have hl := r.length
    cases e : xs[k]? with
    | none =>
      have e' : vs[k]? = none := by rw [List.getElem?_eq_none_iff] at e ⊢; omega
      unfold U.pick
      rw [e, e']
      exact ih
    | some x =>
      obtain ⟨v, e', q⟩ := r.get e
      unfold U.pick
      rw [e, e']
      exact .cons q ih
theorem RVs.ord {D : Dat} {i : List Addr} {H : Hp} {vs : List V} {xs : List MV} (r : RVs D i H vs xs) : ∀ ix : List Nat, RVs D i H (U.ord ix vs) (U.ord ix xs)
  | [] => r
  | k :: ks => RVs.pick r (k :: ks)
theorem pick_len {α β : Type} : ∀ {ix : List Nat} {l : List α} {l' : List β}, l.length = l'.length → (pick ix l).length = (pick ix l').length
  | [], _, _, _ => rfl
  | k :: ks, l, l', h => by
    have ih := pick_len (ix := ks) h
    unfold pick
    by_cases hk : k < l.length
    · rw [List.getElem?_eq_getElem hk, List.getElem?_eq_getElem (by omega : k < l'.length)]
      simp [ih]
    · rw [List.getElem?_eq_none (by omega), List.getElem?_eq_none (by omega)]
      exact ih
theorem ord_len {α β : Type} {ix : List Nat} {l : List α} {l' : List β} (h : l.length = l'.length) : (ord ix l).length = (ord ix l').length := by
  cases ix with
  | nil => exact h
  | cons k ks => exact pick_len h

/-- how a call of n arguments by place and the keywords ks binds: ix the order, ds the defaults behind -/
def KwB (K : PySem.W.Frag) (fd : FuncData) (ps : List Str) (n : Nat) (ks : List Str) (ix : List Nat) (ds : List Value) : Prop :=
  ∀ (s : Shared) (us ws : List Value), K.In s.heap → us.length = n → ws.length = ks.length → BindsTo s fd ⟨us, ks.zip ws⟩ (ps.zip (ord ix (us ++ ws) ++ ds))
/-- .. with what stands ahead (self) -/
def KwB1 (K : PySem.W.Frag) (fd : FuncData) (ps : List Str) (n : Nat) (ks : List Str) (ix : List Nat) (ds : List Value) : Prop :=
  ∀ (s : Shared) (u : Value) (us ws : List Value), K.In s.heap → us.length = n → ws.length = ks.length → BindsTo s fd ⟨u :: us, ks.zip ws⟩ (ps.zip (u :: (ord ix (us ++ ws) ++ ds)))
/-- values that hang on nothing -/
def Free (D : Dat) (vs : List V) (xs : List MV) : Prop := ∀ i H, RVs D i H vs xs
/-- the arguments of a call: by place, then by name -/
def SK (X : Cx) (D : Dat) (kws : List Keyword) (c : Env → M (List MV)) : Prop := ∀ W, Takes X W → PK X kws (tL X D W c)
section
variable {X : Cx} {D : Dat} {e ea eb ec : Expr} {es : List Expr} {ca cb cc : Env → M MV} {cl ck : Env → M (List MV)} {pos p apos kpos : Pos} {x : Str} {kws : List Keyword}
theorem sk_nil : SK X D [] (fun _ m => .ok [] m) := fun W tk => ⟨fun pos pins s σ H Q I ⟨i, r, m, S, E, h⟩ => pk_nil.run pos pins s σ H Q I (h i H [] Ext.refl S .nil)⟩
theorem sk_cons {nm : Option Str} (ha : SE X D ea ca) (hl : SK X D kws ck) : SK X D (⟨nm, ea, kpos⟩ :: kws) (fun r m => (ca r m).bind fun v m1 => (ck r m1).bind fun vs m2 => .ok (v :: vs) m2) := by
  refine fun W tk => ⟨fun pos pins s σ H Q I ⟨i, r, m, S, E, h⟩ => (pk_cons (ha W tk) (hl W tk)).run pos pins s σ H Q I ?_⟩
  refine TE_mono (bind1 (k := fun v r m1 => (ck r m1).bind fun vs m2 => .ok (v :: vs) m2) S E h) fun x H1 ⟨i, r, m, v, S, E, q, h⟩ => ?_
  dsimp only at h
  refine ⟨i, r, m, S, E, ?_⟩
  cases e : ck r m with
  | ok u m1 =>
    rw [e] at h
    exact fun i' H' y e1 S1 q1 => h i' H' (x :: y) e1 S1 (.cons (q.ext e1) q1)
  | ex c fs m1 => rw [e] at h; exact h
  | fail => rw [e] at h; exact h
/-- all arguments -/
def both (cl ck : Env → M (List MV)) : Env → M (List MV) := fun r m => (cl r m).bind fun us m1 => (ck r m1).bind fun ws m2 => .ok (us ++ ws) m2
/-- one run of all arguments, then what is done with them -/
theorem args_run {W : WX} {pins : List (Addr × Obj)} {s : Shared} {σ : L2.St} {H : Hp} {f : Value} {first : List Value} {Q : Value → Shared → Prop} {T : List V → Hp → Prop} (tk : Takes X W) (I : Inv X pins σ H s) (hk : PySem.W.keepIn X.K f = true)
    (hp : es.all plainE = true) (hn : (kws.all fun k => k.1.isSome) = true) (ha : SL X D es cl) (hkw : SK X D kws ck) (hl : ∀ r m vs m', cl r m = .ok vs m' → vs.length = es.length) (hlk : ∀ r m vs m', ck r m = .ok vs m' → vs.length = kws.length) (hz : es = [] → ∀ r m, cl r m = .ok [] m)
    (h : tL X D W (both cl ck) σ H T)
    (hcall : ∀ (s2 : Shared) (H2 : Hp) (us ws : List Value) (xs ys : List V), Inv X pins σ H2 s2 → Vals xs us → Vals ys ws → us.length = es.length → ws.length = kws.length → T (xs ++ ys) H2 → wpAny (model X.prog X.w) X.A (call f (first ++ us) ((kws.filterMap (·.1)).zip ws)) Q X.xe s2) :
    wpAny (model X.prog X.w) X.A (callWith pos f first (backTo pos (starEach es X.env)) (backToKw pos (keywordEach kws X.env))) Q X.xe s := by
  obtain ⟨i, r, m, S, E, h⟩ := h
  have nm : ∀ kws : List Keyword, (backToKw pos (keywordEach kws X.env)).filterMap (·.1) = kws.filterMap (·.1) := fun kws => by
    induction kws with
    | nil => rfl
    | cons k ks ih =>
      obtain ⟨nm, v, kp⟩ := k
      show (((nm, _) : Option Str × Sem Value) :: backToKw pos (keywordEach ks X.env)).filterMap (·.1) = _
      rw [List.filterMap_cons, List.filterMap_cons, ih]
  have hall : ∀ kws : List Keyword, (kws.all fun k => k.1.isSome) = true → (backToKw pos (keywordEach kws X.env)).all (·.1.isSome) = true := fun kws => by
    induction kws with
    | nil => intro _; rfl
    | cons k ks ih =>
      obtain ⟨nm, v, kp⟩ := k
      intro hh
      rw [List.all_cons, Bool.and_eq_true] at hh
      show (((nm, _) : Option Str × Sem Value) :: backToKw pos (keywordEach ks X.env)).all (·.1.isSome) = true
      rw [List.all_cons, ih hh.2, Bool.and_true]
      exact hh.1
  have hany : ∀ l : List (Option Str × Sem Value), l.all (·.1.isSome) = true → l.any (·.1.isNone) = false := fun l => by
    induction l with
    | nil => intro _; rfl
    | cons a l ih =>
      intro hh
      rw [List.all_cons, Bool.and_eq_true] at hh
      rw [List.any_cons, ih hh.2, Bool.or_false]
      cases e : a.1 with
      | none => rw [e] at hh; cases hh.1
      | some y => rfl
  have len2 : ∀ {xs : List V} {us : List Value} {vs : List MV} {i H}, Vals xs us → RVs D i H xs vs → us.length = vs.length := fun a b => a.length.symm.trans b.length
  -- the names, behind the values by place
  have kwr : ∀ (s1 : Shared) (H1 : Hp) (us : List Value) (xs : List V) (vs : List MV) (i : List Addr) (r : Env) (m : Mem), Inv X pins σ H1 s1 → Sim D i m H1 → RE X D i H1 r σ → RVs D i H1 xs vs → Vals xs us → us.length = es.length →
      Pst D W σ (RVs D) T i H1 ((ck r m).bind fun ws m2 => .ok (vs ++ ws) m2) →
      wpAny (model X.prog X.w) X.A (evalAll ((backToKw pos (keywordEach kws X.env)).map (·.2))) (fun ks s₂ => X.K.In s₂.heap ∧ wpAny (model X.prog X.w) X.A (call f (first ++ us) (((backToKw pos (keywordEach kws X.env)).filterMap (·.1)).zip ks)) Q X.xe s₂) X.xe s1 :=
    fun s1 H1 us xs vs i r m I1 S E q rx hu h => by
      refine thn ((hkw W tk).run pos pins s1 σ H1 (fun ys H2 => T (xs ++ ys) H2 ∧ ys.length = kws.length) I1 ⟨i, r, m, S, E, ?_⟩) fun ws s2 ⟨ys, H2, I2, ry, ht, hy⟩ => ⟨I2.kIn, ?_⟩
      · cases e : ck r m with
        | ok u m1 =>
          rw [e] at h
          exact fun i' H' y e1 S1 q1 => ⟨h i' H' (xs ++ y) e1 S1 ((q.ext e1).append q1), by rw [q1.length]; exact hlk r m u m1 e⟩
        | ex c fs m1 => rw [e] at h; exact h
        | fail => rw [e] at h; exact h
      · rw [nm]
        exact hcall s2 H2 us ws xs ys I2 rx ry hu (by rw [← ry.length]; exact hy) ht
  cases es with
  | nil =>
    have h0 : Pst D W σ (RVs D) T i H ((cl r m).bind fun us m1 => (ck r m1).bind fun ws m2 => .ok (us ++ ws) m2) := h
    rw [hz rfl] at h0
    exact PySem.W.callWith_KW0 (h₀ := X.base) I.ok.mod.kin hk (hall kws hn) (kwr s H [] [] [] i r m I S E .nil .nil rfl h0) (by rw [hany _ (hall kws hn)]; rfl)
  | cons e1 es =>
    rw [List.all_cons, Bool.and_eq_true] at hp
    refine PySem.W.callWith_KW (h₀ := X.base) I.ok.mod.kin hk (hall kws hn) (thn ((ha W tk).run pos pins s σ H (fun vs H1 => ∃ i r m us, Sim D i m H1 ∧ RE X D i H1 r σ ∧ RVs D i H1 vs us ∧ us.length = (e1 :: es).length ∧ Pst D W σ (RVs D) T i H1 ((ck r m).bind fun ws m2 => .ok (us ++ ws) m2)) I ⟨i, r, m, S, E, ?_⟩) fun us s1 ⟨xs, H1, I1, rx, i, r, m, vs, S, E, q, hv, h⟩ => ?_) ?_ (star_cons hp.1)
    · have h0 : Pst D W σ (RVs D) T i H ((cl r m).bind fun us m1 => (ck r m1).bind fun ws m2 => .ok (us ++ ws) m2) := h
      cases e : cl r m with
      | ok u m1 =>
        rw [e] at h0
        exact fun i' H' y e1 S1 q1 => ⟨i', r, m1, u, S1, E.ext e1, q1, hl r m u m1 e, h0.ext e1⟩
      | ex c fs m1 => rw [e] at h0; exact h0
      | fail => rw [e] at h0; exact h0
    · exact kwr s1 H1 us xs vs i r m I1 S E q rx (by rw [len2 rx q]; exact hv) h
    · rw [star_none (by rw [List.all_cons, Bool.and_eq_true]; exact hp), hany _ (hall kws hn)]
      rfl
end
/-- how a call binds: h values ahead (self), n arguments by place, the keywords ks; ix the order, defaults behind -/
structure BindF (X : Cx) (D : Dat) (cf : CallF) (f : Nat) (fd : FuncData) (ps : List Str) (h n : Nat) (ks : List Str) (ix : List Nat) : Prop where
  ex : ∃ (ds : List Value) (dvs : List V) (dx : List MV), Vals dvs ds ∧ Free D dvs dx ∧
    (∀ (s : Shared) (u0 us ws : List Value), X.K.In s.heap → u0.length = h → us.length = n → ws.length = ks.length → BindsTo s fd ⟨u0 ++ us, ks.zip ws⟩ (ps.zip (u0 ++ (ord ix (us ++ ws) ++ ds)))) ∧
    ∀ x0 xs : List MV, x0.length = h → xs.length = n + ks.length → (x0 ++ (ord ix xs ++ dx)).length = ps.length ∧ ∀ m, cf f (x0 ++ (ord ix xs ++ dx)) m = cf f (x0 ++ ord ix xs) m
section
variable {X : Cx} {D : Dat} {cf : CallF} {f n : Nat} {fd : FuncData} {ps ks : List Str} {h k : Nat} {ix : List Nat} {a : Addr} {W : WX} {σ : L2.St}
/-- a def runs -/
theorem run_cal {A : Around} {s : Shared} {H : Hp} {i : List Addr} {m : Mem} {Q : VK} {v0 vs ys : List V} {u0 us ws : List Value} {x0 xs : List MV} (F : FnG X.prog X.w X.K X.mg X.base n a fd ps (spOf D ps.length (cf f))) (B : BindF X D cf f fd ps h k ks ix) (hr : RoomG n A)
    (kI : X.K.In s.heap) (e0 : Env0 X.prog X.w X.K X.mg X.base A X.stack s H) (r0 : Vals v0 u0) (r1 : Vals vs us) (r2 : Vals ys ws) (l0 : u0.length = h) (l1 : us.length = k) (l2 : ws.length = ks.length) (S : Sim D i m H) (q0 : RVs D i H v0 x0) (q : RVs D i H (vs ++ ys) xs)
    (hp : Pst D W σ (RV D) Q i H (cf f (x0 ++ ord ix xs) m)) :
    codeAny (model X.prog X.w) A (.call (.ref a) ⟨u0 ++ us, ks.zip ws⟩) (CR (L2.CX X.prog X.w) X.stack X.prog X.w H s Q (fun cls d H' => W cls d σ H')) s := by
  obtain ⟨ds, dvs, dx, rd, fr, hb, hl⟩ := B.ex
  have lx0 : x0.length = h := by rw [← q0.length, r0.length, l0]
  have lx : xs.length = k + ks.length := by rw [← q.length, (r1.append r2).length, List.length_append, l1, l2]
  obtain ⟨h1, h2⟩ := hl x0 xs lx0 lx
  have hv : RVs D i H (v0 ++ (ord ix (vs ++ ys) ++ dvs)) (x0 ++ (ord ix xs ++ dx)) := q0.append ((RVs.ord q ix).append (fr i H))
  refine F.run A X.stack s H ⟨u0 ++ us, ks.zip ws⟩ (u0 ++ (ord ix (us ++ ws) ++ ds)) (v0 ++ (ord ix (vs ++ ys) ++ dvs)) Q _ hr e0 (hb s u0 us ws kI l0 l1 l2) (r0.append ((Vals.ord (r1.append r2) ix).append rd)) ⟨by rw [hv.length]; exact h1, i, m, _, S, hv, ?_⟩
  rw [h2 m]
  cases e : cf f (x0 ++ ord ix xs) m with
  | ok v m1 => rw [e] at hp; exact hp
  | ex c fs m1 => rw [e] at hp; exact hp
  | fail => rw [e] at hp; exact hp
/-- .. in its caller's context -/
theorem run_calX {pins : List (Addr × Obj)} {s : Shared} {H : Hp} {i : List Addr} {m : Mem} {Q : VK} {v0 vs ys : List V} {u0 us ws : List Value} {x0 xs : List MV} (F : FnG X.prog X.w X.K X.mg X.base n a fd ps (spOf D ps.length (cf f))) (B : BindF X D cf f fd ps h k ks ix) (hr : RoomG n X.A) (tk : Takes X W)
    (I : Inv X pins σ H s) (r0 : Vals v0 u0) (r1 : Vals vs us) (r2 : Vals ys ws) (l0 : u0.length = h) (l1 : us.length = k) (l2 : ws.length = ks.length) (S : Sim D i m H) (q0 : RVs D i H v0 x0) (q : RVs D i H (vs ++ ys) xs)
    (hp : Pst D W σ (RV D) Q i H (cf f (x0 ++ ord ix xs) m)) : wpAny (model X.prog X.w) X.A (call (.ref a) (u0 ++ us) (ks.zip ws)) (EP X pins σ Q) X.xe s := by
  refine wpAny_call (codeAny_mono (run_cal F B hr I.kIn I.env0 r0 r1 r2 l0 l1 l2 S q0 q hp) fun r s' hq => ?_)
  cases r with
  | error e => exact tk e s' (XE.of_call I (fun cls d H' z => z) hq)
  | ok fl =>
    cases fl with
    | ret u => exact I.after hq
    | next => exact False.elim hq
    | brk => exact False.elim hq
    | cont => exact False.elim hq
end
section
variable {X : Cx} {D : Dat} {ea : Expr} {es : List Expr} {ca : Env → M MV} {cl ck : Env → M (List MV)} {cf : CallF} {f n : Nat} {fd : FuncData} {ps : List Str} {ix : List Nat} {a : Addr} {pos p apos : Pos} {x : Str} {kws : List Keyword}
theorem two_names {kws : List Keyword} (h : (kws.all fun k => k.1.isSome) = true) : (kws.filterMap (·.1)).length = kws.length := by
  induction kws with
  | nil => rfl
  | cons k ks ih =>
    rw [List.all_cons, Bool.and_eq_true] at h
    rw [List.filterMap_cons]
    obtain ⟨e, he⟩ := Option.isSome_iff_exists.mp h.1
    rw [he]
    exact congrArg Nat.succ (ih h.2)
theorem both_len {j k : Nat} (hl : ∀ r m vs m', cl r m = .ok vs m' → vs.length = j) (hlk : ∀ r m vs m', ck r m = .ok vs m' → vs.length = k) : ∀ r m vs m', both cl ck r m = .ok vs m' → vs.length = j + k := fun r m vs m' e => by
  unfold both at e
  cases e1 : cl r m with
  | ok us m1 =>
    rw [e1] at e
    dsimp only [R.bind] at e
    cases e2 : ck r m1 with
    | ok ws m2 =>
      rw [e2] at e
      cases e
      rw [List.length_append, hl _ _ _ _ e1, hlk _ _ _ _ e2]
    | ex c fs m2 => rw [e2] at e; cases e
    | fail => rw [e2] at e; cases e
  | ex c fs m2 => rw [e1] at e; cases e
  | fail => rw [e1] at e; cases e
theorem se_call (F : FnG X.prog X.w X.K X.mg X.base n a fd ps (spOf D ps.length (cf f))) (B : BindF X D cf f fd ps 0 es.length (kws.filterMap (·.1)) ix) (hr : RoomG n X.A) (hg : Gl X x) (hm : X.mg x = some (.ref a)) (hk : PySem.W.keepIn X.K (.ref a) = true) (hdb : (x == ("__debug__" : Str)) = false)
    (hp : es.all plainE = true) (hn : (kws.all fun k => k.1.isSome) = true) (ha : SL X D es cl) (hkw : SK X D kws ck) (hl : ∀ r m vs m', cl r m = .ok vs m' → vs.length = es.length) (hlk : ∀ r m vs m', ck r m = .ok vs m' → vs.length = kws.length) (hz : es = [] → ∀ r m, cl r m = .ok [] m) :
    SE X D (.Call (.Name x p) es kws pos) (fun r m => (both cl ck r m).bind fun vs m1 => cf f (ord ix vs) m1) := by
  refine fun W tk => ⟨fun pins s σ H Q I ⟨i, r, m, S, E, h⟩ => ?_⟩
  refine wpAny_Call_Name_kw (ld_glob I hg hm ?_ hdb)
  have hbl := both_len hl hlk
  refine args_run (first := []) tk I hk hp hn ha hkw hl hlk hz (bindL (k := fun vs r m1 => cf f (ord ix vs) m1) (n := es.length + kws.length) hbl S E h) fun s2 H2 us ws xs ys I2 rx ry l1 l2 ⟨i, r, m, vs, S, E, q, hv, h⟩ => ?_
  exact run_calX (u0 := []) (v0 := []) (x0 := []) F B hr tk I2 .nil rx ry rfl l1 (by rw [two_names hn]; exact l2) S .nil q h
/-- the methods that a call may reach -/
structure MethF (X : Cx) (D : Dat) (n : Nat) (cf : CallF) (mm : Nat) (name : Str) (k : Nat) (ks : List Str) (ix : List Nat) : Prop where
  at_ : ∀ c f, D.T.meth c mm = some f → ∃ a fd ps, FnG X.prog X.w X.K X.mg X.base n a fd ps (spOf D ps.length (cf f)) ∧ BindF X D cf f fd ps 1 k ks ix ∧ Cls X.K (D.ca c) ∧ Meth X.K (D.ca c) name a ∧ name ∉ D.fn c
theorem se_meth {mm : Nat} {name : Str} (M : MethF X D n cf mm name es.length (kws.filterMap (·.1)) ix) (hr : RoomG n X.A) (hb : plainBase ea = true) (hline : (apos.endLine == pos.line) = true) (hfew : es.length + kws.length < 20)
    (hp : es.all plainE = true) (hn : (kws.all fun k => k.1.isSome) = true) (ho : SE X D ea ca) (ha : SL X D es cl) (hkw : SK X D kws ck) (hl : ∀ r m vs m', cl r m = .ok vs m' → vs.length = es.length) (hlk : ∀ r m vs m', ck r m = .ok vs m' → vs.length = kws.length) (hz : es = [] → ∀ r m, cl r m = .ok [] m) :
    SE X D (.Call (.Attribute ea name apos) es kws pos) (fun r m => (ca r m).bind fun x m1 => onMeth D.T m1 x mm fun f => (both cl ck r m1).bind fun vs m2 => cf f (x :: ord ix vs) m2) := by
  refine fun W tk => ⟨fun pins s σ H Q I ⟨i, r, m, S, E, h⟩ => ?_⟩
  rw [arm_eval_Call, base_of hb]
  refine wpAny_bind (thn ((ho W tk).run pins s σ H _ I (bind1 (k := fun x r m1 => onMeth D.T m1 x mm fun f => (both cl ck r m1).bind fun vs m2 => cf f (x :: ord ix vs) m2) S E h)) fun u s1 ⟨x, H1, I1, rx, i, r, m, v, S, E, q, h⟩ => wpAny_bind (wpAny_standAt ?_))
  have hall : ∀ kws : List Keyword, (kws.all fun k => k.1.isSome) = true → (backToKw pos (keywordEach kws X.env)).all (·.1.isSome) = true := fun kws => by
    induction kws with
    | nil => intro _; rfl
    | cons k ks ih =>
      obtain ⟨nm, v, kp⟩ := k
      intro hh
      rw [List.all_cons, Bool.and_eq_true] at hh
      show (((nm, _) : Option Str × Sem Value) :: backToKw pos (keywordEach ks X.env)).all (·.1.isSome) = true
      rw [List.all_cons, ih hh.2, Bool.and_true]
      exact hh.1
  have hf : methodCallForm (es.length + kws.length) (backTo pos (starEach es X.env)) (backToKw pos (keywordEach kws X.env)) = true := by
    unfold methodCallForm
    rw [star_all hp, hall kws hn]
    show decide _ = true
    refine decide_eq_true ?_
    split <;> omega
  rw [mcall_line hf hline]
  unfold onMeth at h
  dsimp only at h
  cases ec : clsOf m v with
  | none => rw [ec] at h; exact h.elim
  | some c =>
    rw [ec] at h
    dsimp only at h
    cases ef : D.T.meth c mm with
    | none => rw [ef] at h; exact h.elim
    | some f =>
      rw [ef] at h
      dsimp only at h
      obtain ⟨a, fd, ps, F, B, hC, hM, hno⟩ := M.at_ c f ef
      have ob : ∃ pa dx hs, x = .ref pa ∧ H1 pa = some (.ins (D.ca c) dx hs) ∧ hs.lookup name = none := by
        cases q with
        | @obj pa dx hs c' fs hp' hf' hn' rs =>
          cases ec
          exact ⟨pa, dx, hs, rfl, hp', lookup_no (by rw [hn']; exact hno)⟩
        | @ref pa k h0 =>
          unfold clsOf at ec
          dsimp only at ec
          split at ec
          · rename_i c' fs e0
            cases ec
            obtain ⟨dx, hs, hp', hn', _, _⟩ := S.at_ _ _ _ h0 e0
            exact ⟨pa, dx, hs, rfl, hp', lookup_no (by rw [hn']; exact fun z => hno (List.mem_of_mem_take z))⟩
          · cases ec
        | _ => cases ec
      obtain ⟨pa, dx, hs, rfl, hpa, hlo⟩ := ob
      obtain rfl : u = Value.ref pa := rx
      refine wpAny_bind (wpAny_holding (getmeth_ok I1 hpa hC hM hlo ?_))
      refine args_run (first := [.ref pa]) tk I1 hM.kp hp hn ha hkw hl hlk hz (T := fun xs H1 => ∃ i r m vs, Sim D i m H1 ∧ RE X D i H1 r σ ∧ RV D i H1 (.ref pa) v ∧ RVs D i H1 xs vs ∧ Pst D W σ (RV D) Q i H1 (cf f (v :: ord ix vs) m)) ?_ fun s2 H2 us ws xs ys I2 rx ry l1 l2 ⟨i, r, m, vs, S, E, q0, q, h⟩ => ?_
      · refine ⟨i, r, m, S, E, ?_⟩
        cases e : both cl ck r m with
        | ok us m1 =>
          rw [e] at h
          exact fun i' H' y e1 S1 q1 => ⟨i', r, m1, us, S1, E.ext e1, q.ext e1, q1, h.ext e1⟩
        | ex c fs m1 => rw [e] at h; exact h
        | fail => rw [e] at h; exact h
      · exact run_calX (u0 := [.ref pa]) (v0 := [.ref pa]) (x0 := [v]) F B hr tk I2 (.cons rfl .nil) rx ry rfl l1 (by rw [two_names hn]; exact l2) S (.one q0) q h
end
end U
end Part_U8

section Part_U9
set_option Elab.async false
set_option linter.all false
set_option maxRecDepth 100000
set_option maxHeartbeats 4000000
/-! U9: objects are made. -/
namespace U
open PySem PySem.Spec PyProof.Rows L2
theorem Sim.dead {D : Dat} {i : List Addr} {m : Mem} {H : Hp} (S : Sim D i m H) (n : Nat) : Sim D i (m.set n .dead) H := by
  refine ⟨by rw [List.length_set]; exact S.len, fun j a o e1 e2 => ?_, fun j k a o u e1 e2 e3 e4 l1 l2 => ?_⟩
  · by_cases q : j = n
    · subst q
      have hl : j < m.length := by
        have h := (List.getElem?_eq_some_iff.mp e2).1
        rw [List.length_set] at h
        exact h
      rw [List.getElem?_set_self hl] at e2
      cases e2
      trivial
    · rw [List.getElem?_set_ne (Ne.symm q)] at e2
      exact S.at_ j a o e1 e2
  · have old : ∀ (j : Nat) (o : MO), (m.set n .dead)[j]? = some o → live o = true → m[j]? = some o := fun j o e l => by
      by_cases q : j = n
      · subst q
        have hl : j < m.length := by
          have h := (List.getElem?_eq_some_iff.mp e).1
          rw [List.length_set] at h
          exact h
        rw [List.getElem?_set_self hl] at e
        cases e
        cases l
      · rw [List.getElem?_set_ne (Ne.symm q)] at e
        exact e
    exact S.nd j k a o u e1 e2 (old j o e3 l1) (old k u e4 l2) l1 l2
section
variable {D : Dat} {W : WX} {σ : L2.St} {H : Hp}
theorem getE_append_len {α : Type} {l : List α} {x : α} {n : Nat} (h : l.length = n) : (l ++ [x])[n]? = some x := by
  subst h
  exact getE_new
/-- an object's end: what made tells stands -/
theorem made_ok {i i2 : List Addr} {m m2 : Mem} {H2 : Hp} {c : Nat} {x : Addr} {Q : VK} (hfn : ∀ c, (D.fn c).length = D.T.fields c) (S : Sim D i m H) (S2 : Sim D i2 m2 H2) (e2 : Ext D i H i2 H2) (hx : i2[m.length]? = some x) (h : Pst D W σ (RV D) Q i H (made D.T c m m2)) : Q (.ref x) H2 := by
  unfold made at h
  split at h
  · rename_i d fs e0
    obtain ⟨dx, hs, h1, h2, h3, h4⟩ := S2.at_ _ _ _ hx e0
    split at h
    · rename_i hd
      subst hd
      split at h
      · rename_i hf
        split at h
        · rename_i hl
          have hn : hs.map (·.1) = D.fn d := by rw [h2, List.take_of_length_le (by rw [hfn, hl]; exact Nat.le_refl _)]
          split at h
          · rename_i hc
            refine h (i2.take m.length) H2 (.ref x) ⟨fun k a z => take_pre k a (by have := (List.getElem?_eq_some_iff.mp z).1; have := S.len; omega) (e2.pre k a z), e2.sol⟩ (S2.slim (okOld_low S hc.1)) (.obj h1 hf hn (h3.slim (n := m.length) take_pre hc.2.2))
          · exact h i2 H2 (.ref x) e2 (S2.dead _) (.obj h1 hf hn h3)
        · exact h.elim
      · exact h i2 H2 (.ref x) e2 S2 (.ref hx)
    · exact h.elim
  · exact h.elim
end
/-- what is asked of a class that is made by C(..) -/
structure NewF (X : Cx) (D : Dat) (n : Nat) (cf : CallF) (c k : Nat) (ks : List Str) (ix : List Nat) : Prop where
  fn : ∀ c, (D.fn c).length = D.T.fields c
  how : (∃ f a fd ps, D.T.init c = some f ∧ FnG X.prog X.w X.K X.mg X.base n a fd ps (spOf D ps.length (cf f)) ∧ BindF X D cf f fd ps 1 k ks ix ∧ Mk X.K (D.ca c) a)
section
variable {X : Cx} {D : Dat} {es : List Expr} {cl ck : Env → M (List MV)} {cf : CallF} {n c : Nat} {ix : List Nat} {a : Addr} {pos p apos : Pos} {x : Str} {kws : List Keyword}
theorem se_new (N : NewF X D n cf c es.length (kws.filterMap (·.1)) ix) (hr : RoomB n X.A) (hg : Gl X x) (hm : X.mg x = some (.ref (D.ca c))) (hdb : (x == ("__debug__" : Str)) = false)
    (hp : es.all plainE = true) (hn : (kws.all fun k => k.1.isSome) = true) (ha : SL X D es cl) (hkw : SK X D kws ck) (hl : ∀ r m vs m', cl r m = .ok vs m' → vs.length = es.length) (hlk : ∀ r m vs m', ck r m = .ok vs m' → vs.length = kws.length) (hz : es = [] → ∀ r m, cl r m = .ok [] m) :
    SE X D (.Call (.Name x p) es kws pos) (fun r m => (both cl ck r m).bind fun vs m1 => newObj D.T cf c (ord ix vs) m1) := by
  obtain ⟨f, a, fd, ps, hi, F, B, Mk⟩ := N.how
  refine fun W tk => ⟨fun pins s σ H Q I ⟨i, r, m, S, E, h⟩ => ?_⟩
  refine wpAny_Call_Name_kw (ld_glob I hg hm ?_ hdb)
  have hbl := both_len hl hlk
  refine args_run (first := []) tk I Mk.kp hp hn ha hkw hl hlk hz (bindL (k := fun vs r m1 => newObj D.T cf c (ord ix vs) m1) (n := es.length + kws.length) hbl S E h) fun s2 H2 us ws xs ys I2 rx ry l1 l2 ⟨i, r, m, vs, S, E, q, hv, h⟩ => ?_
  unfold newObj at h
  rw [hi] at h
  dsimp only at h
  have nx : H2 (s2.heap.objs.size + 1) = none := I2.hok.fresh (Nat.le_succ _)
  have nd : H2 s2.heap.objs.size = none := I2.hok.fresh (Nat.le_refl _)
  have ne : s2.heap.objs.size ≠ s2.heap.objs.size + 1 := Nat.ne_of_lt (Nat.lt_succ_self _)
  have I3 := Inv.made (C := D.ca c) I2
  generalize hxx : s2.heap.objs.size + 1 = xa at *
  generalize hdd : s2.heap.objs.size = da at *
  have e1 : Ext D i H2 (i ++ [xa]) (upd (upd H2 da (.own xa)) xa (.ins (D.ca c) da [])) := by
    refine ⟨fun _ _ z => getE_old z, fun b o z sv => ?_⟩
    rw [upd_ne (ne_of_none z nx), upd_ne (ne_of_none z nd)]
    exact z
  have S3 : Sim D (i ++ [xa]) (m ++ [.ins c []]) (upd (upd H2 da (.own xa)) xa (.ins (D.ca c) da [])) :=
    S.alloc (p := xa) nx e1 (fun b o z => by rw [upd_ne (ne_of_none z nx), upd_ne (ne_of_none z nd)]; exact z) ⟨da, [], upd_same, rfl, .nil, Nat.zero_le _⟩
  have hx : (i ++ [xa])[m.length]? = some xa := getE_append_len S.len
  have hp2 : Pst D W σ (RV D) (fun v H' => v = .non ∧ Q (.ref xa) H') (i ++ [xa]) (upd (upd H2 da (.own xa)) xa (.ins (D.ca c) da [])) (cf f (.ref m.length :: ord ix vs) (m ++ [.ins c []])) := by
    cases e : cf f (.ref m.length :: ord ix vs) (m ++ [.ins c []]) with
    | ok v m2 =>
      rw [e] at h
      dsimp only [R.bind] at h
      intro i2 H3 y e2 S2 ry
      cases v with
      | non =>
        refine ⟨by cases ry; rfl, made_ok N.fn S S2 (e1.trans e2) (e2.pre _ _ hx) h⟩
      | _ => exact h.elim
    | ex d fs m2 =>
      rw [e] at h
      exact fun i2 H3 cls d e2 S2 rx => h i2 H3 cls d (e1.trans e2) S2 rx
    | fail => rw [e] at h; exact h.elim
  subst hxx hdd
  refine wpAny_call (make_map (f := a) I2.kIn Mk.makes Mk.init (beq_iff_eq.mp Mk.fn) (codeAny_mono (run_cal (u0 := [.ref (s2.heap.objs.size + 1)]) (v0 := [.ref (s2.heap.objs.size + 1)]) (x0 := [.ref m.length]) F B (hr.make (D.ca c) us _) I3.kIn (I3.env0.make (D.ca c) us _)
    (.cons rfl .nil) rx ry rfl l1 (by rw [two_names hn]; exact l2) S3 (.one (.ref hx)) (q.ext e1) hp2) fun r s' hq => ?_))
  cases r with
  | error e => exact tk e s' (XE.of_call I3 (fun cls d H' z => z) hq)
  | ok fl =>
    cases fl with
    | ret u =>
      obtain ⟨v, H', I4, rv, ev, q3⟩ := I3.after hq
      subst ev
      exact ⟨rv, ⟨V.ref (s2.heap.objs.size + 1), H', I4, rfl, q3⟩⟩
    | next => exact False.elim hq
    | brk => exact False.elim hq
    | cont => exact False.elim hq
/-- a class without an __init__ of its own -/
structure Mk0 (K : PySem.W.Frag) (C : Addr) : Prop where
  makes : PySem.W.makesIn K C = true
  init : PySem.W.findIn K (.ref C) "__init__" = some (some (.builtin "object.__init__"))
  top : PySem.W.mroIn K C (.type "object") = some true
  kp : PySem.W.keepIn K (.ref C) = true
theorem se_new0 (hfn : ∀ c, (D.fn c).length = D.T.fields c) (M : Mk0 X.K (D.ca c)) (hi : D.T.init c = none) (hg : Gl X x) (hm : X.mg x = some (.ref (D.ca c))) (hdb : (x == ("__debug__" : Str)) = false) :
    SE X D (.Call (.Name x p) [] [] pos) (fun r m => newObj D.T cf c [] m) := by
  refine fun W tk => ⟨fun pins s σ H Q I ⟨i, r, m, S, E, h⟩ => ?_⟩
  refine wpAny_Call_Name_kw (ld_glob I hg hm ?_ hdb)
  unfold newObj at h
  rw [hi] at h
  dsimp only at h
  have nx : H (s.heap.objs.size + 1) = none := I.hok.fresh (Nat.le_succ _)
  have nd : H s.heap.objs.size = none := I.hok.fresh (Nat.le_refl _)
  have I3 := Inv.made (C := D.ca c) I
  have e1 : Ext D i H (i ++ [s.heap.objs.size + 1]) (upd (upd H s.heap.objs.size (.own (s.heap.objs.size + 1))) (s.heap.objs.size + 1) (.ins (D.ca c) s.heap.objs.size [])) := by
    refine ⟨fun _ _ z => getE_old z, fun b o z sv => ?_⟩
    rw [upd_ne (ne_of_none z nx), upd_ne (ne_of_none z nd)]
    exact z
  have S3 : Sim D (i ++ [s.heap.objs.size + 1]) (m ++ [.ins c []]) (upd (upd H s.heap.objs.size (.own (s.heap.objs.size + 1))) (s.heap.objs.size + 1) (.ins (D.ca c) s.heap.objs.size [])) :=
    S.alloc (p := s.heap.objs.size + 1) nx e1 (fun b o z => by rw [upd_ne (ne_of_none z nx), upd_ne (ne_of_none z nd)]; exact z) ⟨_, [], upd_same, rfl, .nil, Nat.zero_le _⟩
  have hq := made_ok hfn S S3 e1 (getE_append_len S.len) h
  refine PySem.W.callWith_K0 I.kIn M.kp (wpAny_call (make_map0 I.kIn M.makes M.init (fun self => PySem.W.Looks.of_pure (PySem.W.oi_bind _)) ?_))
  have hob : ((s.heap.push PySem.W.emptyDict).push (PySem.W.instObj (D.ca c) s.heap.objs.size)).get? (s.heap.objs.size + 1) = some (PySem.W.instObj (D.ca c) s.heap.objs.size) := by
    have := Heap.get?_push_size (s.heap.push PySem.W.emptyDict) (o := PySem.W.instObj (D.ca c) s.heap.objs.size) rfl
    rwa [Heap.size_push] at this
  have t1 : PySem.W.Looks (model X.prog X.w) ((s.heap.push PySem.W.emptyDict).push (PySem.W.instObj (D.ca c) s.heap.objs.size)) (typeOf (.ref (s.heap.objs.size + 1))) (.ref (D.ca c)) := (PySem.W.Looks.ld (part := none) hob).andThen .now
  have t2 : PySem.W.Looks (model X.prog X.w) ((s.heap.push PySem.W.emptyDict).push (PySem.W.instObj (D.ca c) s.heap.objs.size)) (isInstance (.ref (s.heap.objs.size + 1)) (.type "object")) true := t1.andThen (PySem.W.looks_mroIn I3.kIn M.top)
  refine codeAny_call_builtin PySem.W.oi_plain PySem.W.entry_oi (@PySem.W.check_slot (model X.prog X.w) _ _ _ "object.__init__" "object" "__init__" (.ref (s.heap.objs.size + 1)) [] [] _ PySem.W.oi_kind PySem.W.oi_split t2 (PySem.W.oi_args _) ?_)
  rw [PySem.W.oi_run]
  exact wpAny_pure ⟨rfl, ⟨V.ref (s.heap.objs.size + 1), _, I3, rfl, hq⟩⟩
end
end U
end Part_U9

section Part_U10
set_option Elab.async false
set_option linter.all false
set_option maxRecDepth 100000
set_option maxHeartbeats 4000000
/-! U10: isinstance, what is walked, comprehensions. -/
namespace U
open PySem PySem.Spec PyProof.Rows L2

/-! ### kinds -/
def tyName : Ty → String
  | .own _ => "" | .int => "int" | .bool => "bool" | .str => "str" | .tup => "tuple" | .lst => "list" | .dct => "dict"
def tyV (D : Dat) : Ty → Value
  | .own c => .ref (D.ca c)
  | t => .type (tyName t)
def vtV (D : Dat) : Option Ty → Value
  | none => .type "NoneType"
  | some t => tyV D t
def vtIn (T : Tab) : Option Ty → Bool
  | none => true
  | some a => tyIn T a
structure KitF (D : Dat) : Prop where
  kit : ∀ (a : Option Ty) (t : Ty), vtIn D.T a = true → tyIn D.T t = true → PySem.W.kitOne D.K (vtV D a) (tyV D t) = some (isTy D.T a t)
  ins : ∀ c, c < D.T.ncls → Cls D.K (D.ca c) ∧ PySem.W.findIn D.K (.ref (D.ca c)) "__class__" = some (some (.builtin "object.__class__")) ∧ PySem.W.mroIn D.K (D.ca c) (.type "object") = some true
  spec : PySem.W.specialIn D.K (.builtin "object.__class__") "__get__" = some (some (.builtin "getset_descriptor.__get__"))
  takes : PySem.W.takesIn D.K (.builtin "object.__class__") = some true
section
variable {D : Dat} {i : List Addr} {m : Mem} {H : Hp}
theorem sqt_ty {K : PySem.W.Frag} {a : Addr} {vs : List V} (h : SqT K H a vs) : TyX K H (.ref a) (.type "tuple") := by
  rcases h with (h | ⟨o, h⟩) | ⟨o, _, _, h, c, _⟩
  · exact .base (.tup h)
  · exact .fTuple h
  · exact .kTuple h c
theorem sqf_ty {K : PySem.W.Frag} {a : Addr} {vs : List V} (h : SqF K H a vs) : TyX K H (.ref a) (.type "list") := by
  rcases h with ⟨o, h⟩ | ⟨o, _, _, h, c, _⟩
  · exact .base (.frz h)
  · exact .kList h c
theorem vty_ok (F : KitF D) {x : V} {v : MV} {a : Option Ty} (S : Sim D i m H) (q : RV D i H x v) (h : vty D.T m v = some a) : TyX D.K H x (vtV D a) ∧ vtIn D.T a = true := by
  have own : ∀ {p dx : Addr} {hs : List (Str × V)} {c : Nat}, H p = some (.ins (D.ca c) dx hs) → (if c < D.T.ncls then some (some (Ty.own c)) else none) = some a → TyX D.K H (.ref p) (vtV D a) ∧ vtIn D.T a = true := fun {p dx hs c} hp e => by
    split at e
    · rename_i hc
      cases e
      obtain ⟨h1, h2, h3⟩ := F.ins c hc
      exact ⟨.base (.ins hp h1 h2 F.spec F.takes h3), decide_eq_true hc⟩
    · cases e
  cases q with
  | non => cases h; exact ⟨.base .non, rfl⟩
  | bl b => cases h; exact ⟨.base (.bl b), rfl⟩
  | int n => cases h; exact ⟨.base (.int n), rfl⟩
  | str z => cases h; exact ⟨.base (.str _), rfl⟩
  | tup hq _ => cases h; exact ⟨sqt_ty hq, rfl⟩
  | obj hp _ _ _ => exact own hp h
  | @ref p n h0 =>
    unfold vty at h
    dsimp only at h
    split at h
    · rename_i xs e0
      cases h
      obtain ⟨vs, h1, _⟩ := S.at_ _ _ _ h0 e0
      exact ⟨.base (.lst h1), rfl⟩
    · rename_i xs e0
      cases h
      obtain ⟨vs, h1, _⟩ := S.at_ _ _ _ h0 e0
      exact ⟨sqf_ty h1, rfl⟩
    · rename_i xs e0
      cases h
      obtain ⟨vs, h1, _⟩ := S.at_ _ _ _ h0 e0
      exact ⟨.base (.dK h1), rfl⟩
    · rename_i c fs e0
      obtain ⟨dx, hs, h1, _⟩ := S.at_ _ _ _ h0 e0
      exact own h1 h
    · cases h
theorem tyAny_kit (F : KitF D) {v : MV} {a : Option Ty} (h : vty D.T m v = some a) (ha : vtIn D.T a = true) : ∀ {ts : List Ty} {b : Bool}, tyAny D.T m v ts = some b → PySem.W.kitAny D.K (vtV D a) (ts.map (tyV D)) = some b
  | [], b, e => by cases e; exact kitAny_nil
  | t :: ts, b, e => by
    unfold tyAny tyIs at e
    rw [h] at e
    dsimp only at e
    by_cases ht : tyIn D.T t = true
    · rw [if_pos ht] at e
      cases e2 : tyAny D.T m v ts with
      | none => rw [e2] at e; cases e
      | some b2 =>
        rw [e2] at e
        cases e
        have k1 := F.kit a t ha ht
        refine kitAny_cons k1 (fun z => ?_) fun z => by rw [z]; rfl
        rw [z, Bool.false_or]
        exact tyAny_kit F h ha e2
    · rw [if_neg ht] at e
      cases e
/-- a class, named in the text -/
def TyE (X : Cx) (D : Dat) (e : Expr) (t : Ty) : Prop := ∃ v, PE X e (tC v) ∧ ClsV v (tyV D t)
/-- classes, one behind another -/
inductive TyEs (X : Cx) (D : Dat) : List Expr → List Ty → Prop
  | nil : TyEs X D [] []
  | cons {e : Expr} {t : Ty} {es : List Expr} {ts : List Ty} : TyE X D e t → (∀ env, starEach (e :: es) env = (false, eval e env) :: starEach es env) → TyEs X D es ts → TyEs X D (e :: es) (t :: ts)
end
section
variable {X : Cx} {D : Dat} {ea ec : Expr} {ca : Env → M MV} {pos p : Pos}
/-- constants only -/
theorem tys_run {es : List Expr} {ts : List Ty} (h : TyEs X D es ts) : ∃ vs : List V, Paired ClsV vs (ts.map (tyV D)) ∧ vs.length = ts.length ∧ PA X es (fun σ H Q => Q vs H) := by
  induction h with
  | nil => exact ⟨[], .nil, rfl, U.PA.imp pa_nil fun σ H Q q => q⟩
  | cons h hs _ ih =>
    obtain ⟨v, hv, kv⟩ := h
    obtain ⟨vs, h1, hl, h2⟩ := ih
    exact ⟨v :: vs, .cons kv h1, congrArg Nat.succ hl, U.PA.imp (pa_cons hv h2 (hs _)) fun σ H Q q => q⟩
theorem se_isi1 {t : Ty} (F : KitF D) (hK : X.K = D.K) (hg : Gl X "isinstance") (hm : X.mg "isinstance" = none) (hp : plainE ea = true) (hpc : plainE ec = true) (hc : TyE X D ec t) (ha : SE X D ea ca) :
    SE X D (.Call (.Name "isinstance" p) [ea, ec] [] pos) (fun r m => (ca r m).bind fun x m1 => lift (okb (tyAny D.T m1 x [t]) m1)) := by
  obtain ⟨v, hv, kv⟩ := hc
  have hb : bootBuiltins "isinstance" = some (.builtin "isinstance") := by decide +kernel
  refine SE.of (t := fun W => tCB (rIsi X.K) (tCons (tE X D W ca) (tCons (tC v) tNil))) (fun W tk => pe_callB call_isi hg hm hb (pa_cons (ha W tk) (pa_cons hv pa_nil (star_cons hpc)) (star_cons hp)) (by decide) (by decide) (star_cons hp) (star_none (by rw [List.all_cons, hpc]; rfl))) fun W σ H Q ⟨i, r, m, S, E, h⟩ => ?_
  refine TE_mono (bind1 (k := fun x r m1 => lift (okb (tyAny D.T m1 x [t]) m1)) S E h) fun x H1 ⟨i, r, m, u, S, E, q, h⟩ => ?_
  have h' := Pst.lift h
  cases e : tyAny D.T m u [t] with
  | none => rw [e] at h'; exact h'.elim
  | some b =>
    rw [e] at h'
    unfold tyAny tyIs at e
    cases e1 : vty D.T m u with
    | none => rw [e1] at e; cases e
    | some a =>
      rw [e1] at e
      dsimp only at e
      by_cases ht : tyIn D.T t = true
      · rw [if_pos ht] at e
        cases e
        obtain ⟨h1, h2⟩ := vty_ok F S q e1
        show rIsi X.K [x, v] H1 Q
        rw [hK]
        exact ⟨x, v, _, _, _, rfl, kv, h1, F.kit a t h2 ht, by
          have := h' i H1 _ Ext.refl S (.bl (isTy D.T a t || false))
          simpa using this⟩
      · rw [if_neg ht] at e; cases e
theorem se_isiT {ts : List Ty} {es : List Expr} {k : Nat} {pt : Pos} (F : KitF D) (hK : X.K = D.K) (hg : Gl X "isinstance") (hm : X.mg "isinstance" = none) (hp : plainE ea = true) (hc : TyEs X D es ts) (hz : ts.length ≤ 1000) (hne : ts ≠ []) (ha : SE X D ea ca) :
    SE X D (.Call (.Name "isinstance" p) [ea, .Tuple es k pt] [] pos) (fun r m => (ca r m).bind fun x m1 => lift (okb (tyAny D.T m1 x ts) m1)) := by
  obtain ⟨vs, kv, hl, hv⟩ := tys_run hc
  have hb : bootBuiltins "isinstance" = some (.builtin "isinstance") := by decide +kernel
  have hpc : plainE (.Tuple es k pt) = true := rfl
  refine SE.of (t := fun W => tCB (rIsiT X.K) (tCons (tE X D W ca) (tCons (tTup (fun σ H Q => Q vs H)) tNil))) (fun W tk => pe_callB call_isiT hg hm hb (pa_cons (ha W tk) (pa_cons (pe_tup hv) pa_nil (star_cons hpc)) (star_cons hp)) (by decide) (by decide) (star_cons hp) (star_none (by rw [List.all_cons, hpc]; rfl))) fun W σ H Q ⟨i, r, m, S, E, h⟩ => ?_
  refine TE_mono (bind1 (k := fun x r m1 => lift (okb (tyAny D.T m1 x ts) m1)) S E h) fun x H1 ⟨i, r, m, u, S, E, q, h⟩ => ?_
  refine ⟨by rw [hl, sizeLine_eq]; omega, fun tp ht => ?_⟩
  have h' := Pst.lift h
  cases e : tyAny D.T m u ts with
  | none => rw [e] at h'; exact h'.elim
  | some b =>
    rw [e] at h'
    cases e1 : vty D.T m u with
    | none =>
      cases ts with
      | nil => exact absurd rfl hne
      | cons t ts => unfold tyAny tyIs at e; rw [e1] at e; cases e
    | some a =>
      obtain ⟨h1, h2⟩ := vty_ok F (S.beside (o := .tup vs) ht) (q.ext (Ext.fresh (o := .tup vs) ht i)) e1
      show rIsiT X.K [x, .ref tp] (upd H1 tp (.tup vs)) Q
      rw [hK]
      exact ⟨x, tp, vs, _, _, b, rfl, upd_same, kv, h1, tyAny_kit F e1 h2 e, h' i _ _ (Ext.fresh ht i) (S.beside ht) (.bl b)⟩
end
end U
end Part_U10

section Part_U11
set_option Elab.async false
set_option linter.all false
set_option maxRecDepth 100000
set_option maxHeartbeats 4000000
/-! U11: what is walked, comprehensions. -/
namespace U
open PySem PySem.Spec PyProof.Rows L2
/-- an iterator that walks w -/
def Wk (D : Dat) (J : It) (w : Walked) (i : List Addr) (H : Hp) : Prop := ∀ i' H' m', Ext D i H i' H' → Sim D i' m' H' → w.still m' = true →
  (∀ j y, w.items[j]? = some y → J.go j H' ∧ ∀ x H'', J.yld j H' x H'' → H'' = H' ∧ RV D i' H' x y) ∧ ∀ j, w.items.length ≤ j → J.stop j H'
theorem Wk.ext {D : Dat} {J : It} {w : Walked} {i i' : List Addr} {H H' : Hp} (h : Wk D J w i H) (e : Ext D i H i' H') : Wk D J w i' H' := fun i2 H2 m2 e2 => h i2 H2 m2 (e.trans e2)
def tI (X : Cx) (D : Dat) (W : WX) (c : Env → M Walked) : TI := fun σ H R => ∃ i r m, Sim D i m H ∧ RE X D i H r σ ∧ Pst D W σ (fun i H J w => Wk D J w i H) R i H (c r m)
def SI (X : Cx) (D : Dat) (tg it : Expr) (c : Env → M Walked) : Prop := ∀ W, Takes X W → PI X tg it (tI X D W c)
section
variable {X : Cx} {tg e : Expr}
def iAny (K : PySem.W.Frag) (te : TE) : TI := fun σ H R => te σ H fun v H1 => (∃ a xs, v = .ref a ∧ SqL K H1 a xs ∧ R (Itl K a) H1) ∨ (∃ a xs, v = .ref a ∧ SqT K H1 a xs ∧ R (Itt K a) H1) ∨ ∃ x, v = .str x ∧ R (Its x) H1
theorem pi_any {te : TE} (he : PE X e te) : PI X tg e (iAny X.K te) := by
  refine ⟨fun pins s σ H R I h => ?_⟩
  refine thn (he.run pins s σ H _ I h) fun v s1 ⟨x, H1, I1, r1, q1⟩ => ?_
  rcases q1 with ⟨a, xs, rfl, hq, q⟩ | ⟨a, xs, rfl, hq, q⟩ | ⟨y, rfl, q⟩
  · cases (show v = Value.ref a from r1)
    obtain ⟨its, rv, p, hz⟩ := I1.list hq
    exact wpAny_pyIter_list p.isList (pi_one (tk := s1.toks) I1 _ (turn_list a _) ⟨_, Heap.get?_push_size _ rfl, rfl, rfl⟩ q)
  · cases (show v = Value.ref a from r1)
    obtain ⟨its, rv, p, hz⟩ := I1.tuple hq
    exact wpAny_pyIter_tuple (show s1.heap.IsTuple a its.toArray from p) (pi_one (tk := s1.toks) I1 _ (turn_tuple a _) ⟨_, Heap.get?_push_size _ rfl, rfl, rfl⟩ q)
  · obtain ⟨t, rfl⟩ := (show ∃ t, v = Value.str y t from r1)
    cases ha : y.cps.all (· < 128)
    · exact wpAny_pyIter_wide ha (pi_one (tk := s1.toks) I1 _ (turn_str _ y t "str_iterator" (.inr rfl)) ⟨_, Heap.get?_push_size _ rfl, rfl, rfl⟩ q)
    · exact wpAny_pyIter_ascii ha (pi_one (tk := s1.toks) I1 _ (turn_str _ y t "str_ascii_iterator" (.inl rfl)) ⟨_, Heap.get?_push_size _ rfl, rfl, rfl⟩ q)
end
section
variable {D : Dat} {i : List Addr} {m : Mem} {H : Hp}
theorem sqt_inj {K : PySem.W.Frag} {a : Addr} {vs ws : List V} (S : SqT K H a vs) : SqT K H a vs := S
theorem wk_tup {K : PySem.W.Frag} {a : Addr} {vs : List V} {xs : List MV} (q : SqT K H a vs) (r : RVs D i H vs xs) : Wk D (Itt K a) ⟨xs, none⟩ i H := fun i' H' m' e S _ => by
  have q' := SqT.ext e q
  have r' := r.ext e
  refine ⟨fun j y hy => ?_, fun j hj => ⟨vs, q', by rw [r'.length]; exact hj⟩⟩
  obtain ⟨v, e1, e2⟩ := r'.get hy
  refine ⟨⟨vs, v, q', e1⟩, fun x H'' ⟨h1, h2⟩ => ⟨h1, ?_⟩⟩
  have e3 := h2 vs q'
  rw [e1] at e3
  cases e3
  exact e2
theorem wk_list {K : PySem.W.Frag} {a : Addr} {xs : List MV} {n : Nat} (h0 : i[n]? = some a) (h : ∀ i' H' m', Ext D i H i' H' → Sim D i' m' H' → Walked.still ⟨xs, some n⟩ m' = true → ∃ vs, SqL K H' a vs ∧ RVs D i' H' vs xs) : Wk D (Itl K a) ⟨xs, some n⟩ i H := fun i' H' m' e S st => by
  obtain ⟨vs, q', r'⟩ := h i' H' m' e S st
  refine ⟨fun j y hy => ?_, fun j hj => ⟨vs, q', by rw [r'.length]; exact hj⟩⟩
  obtain ⟨v, e1, e2⟩ := r'.get hy
  refine ⟨⟨vs, v, q', e1⟩, fun x H'' ⟨h1, h2⟩ => ⟨h1, ?_⟩⟩
  have e3 := h2 vs q'
  rw [e1] at e3
  cases e3
  exact e2
theorem wk_str (x : Txt) : Wk D (Its ⟨x.toArray⟩) ⟨x.map fun c => .str [c], none⟩ i H := fun i' H' m' e S _ => by
  refine ⟨fun j y hy => ?_, fun j hj => ?_⟩
  · rw [List.getElem?_map] at hy
    cases ec : x[j]? with
    | none => rw [ec] at hy; cases hy
    | some c =>
      rw [ec] at hy
      cases hy
      have hj := (List.getElem?_eq_some_iff.mp ec).1
      refine ⟨show j < x.toArray.size by simpa using hj, fun v H'' ⟨h1, c', h2, h3⟩ => ⟨h1, ?_⟩⟩
      have h2' : x.toArray[j]? = some c' := h2
      rw [List.getElem?_toArray, ec] at h2'
      cases h2'
      subst h3
      exact .str [c]
  · show x.toArray.size ≤ j
    simpa using hj
theorem wk_rng (lo hi : Int) : Wk D (Itr lo (hi - lo).toNat) ⟨rng lo hi, none⟩ i H := fun i' H' m' e S _ => by
  refine ⟨fun j y hy => ?_, fun j hj => ?_⟩
  · have hy' : (rng lo hi)[j]? = some y := hy
    unfold rng at hy'
    rw [List.getElem?_map] at hy'
    cases ec : (List.range (hi - lo).toNat)[j]? with
    | none => rw [ec] at hy'; cases hy'
    | some c =>
      rw [ec] at hy'
      cases hy'
      obtain ⟨hj, hc⟩ := List.getElem?_eq_some_iff.mp ec
      rw [List.length_range] at hj
      rw [List.getElem_range] at hc
      subst hc
      exact ⟨hj, fun v H'' ⟨h1, h2⟩ => ⟨h1, by subst h2; exact .int _⟩⟩
  · show (hi - lo).toNat ≤ j
    have hj' : (rng lo hi).length ≤ j := hj
    unfold rng at hj'
    rwa [List.length_map, List.length_range] at hj'
/-- what a value gives to be walked -/
theorem walk_val {x : V} {v : MV} {w : Walked} (S : Sim D i m H) (q : RV D i H x v) (h : walkOf v m = some w) : (∃ a xs, x = .ref a ∧ SqL D.K H a xs ∧ Wk D (Itl D.K a) w i H) ∨ (∃ a xs, x = .ref a ∧ SqT D.K H a xs ∧ Wk D (Itt D.K a) w i H) ∨ ∃ y, x = .str y ∧ Wk D (Its y) w i H := by
  cases q with
  | str z => cases h; exact .inr (.inr ⟨_, rfl, wk_str z⟩)
  | tup hq r => cases h; exact .inr (.inl ⟨_, _, rfl, hq, wk_tup hq r⟩)
  | @ref a n h0 =>
    have still_at : ∀ {xs : List MV} {i' : List Addr} {H' : Hp} {m' : Mem}, Ext D i H i' H' → Sim D i' m' H' → Walked.still ⟨xs, some n⟩ m' = true → ∃ vs, SqL D.K H' a vs ∧ RVs D i' H' vs xs := fun {xs i' H' m'} e S' st => by
      unfold Walked.still at st
      dsimp only at st
      split at st
      · rename_i ys e0
        cases (MV.eqbs_iff ys xs).mp st
        obtain ⟨vs, h1, h2⟩ := S'.at_ n a _ (e.pre _ _ h0) e0
        exact ⟨vs, SqL.of h1, h2⟩
      · rename_i ys e0
        cases (MV.eqbs_iff ys xs).mp st
        obtain ⟨vs, h1, h2⟩ := S'.at_ n a _ (e.pre _ _ h0) e0
        exact ⟨vs, h1.sq, h2⟩
      · cases st
    unfold walkOf at h
    dsimp only at h
    split at h
    · rename_i xs e0
      cases h
      obtain ⟨vs, h1, _⟩ := S.at_ _ _ _ h0 e0
      exact .inl ⟨a, vs, rfl, SqL.of h1, wk_list h0 fun i' H' m' e S' st => still_at e S' st⟩
    · rename_i xs e0
      cases h
      obtain ⟨vs, h1, _⟩ := S.at_ _ _ _ h0 e0
      exact .inl ⟨a, vs, rfl, h1.sq, wk_list h0 fun i' H' m' e S' st => still_at e S' st⟩
    · cases h
  | _ => cases h
end
section
variable {X : Cx} {D : Dat} {tg ea eb : Expr} {ca cb : Env → M MV} {p pos : Pos}
theorem PI.imp {t t' : TI} (h : PI X tg ea t) (hi : ∀ σ H R, t' σ H R → t σ H R) : PI X tg ea t' := ⟨fun pins s σ H R I q => h.run pins s σ H R I (hi σ H R q)⟩
theorem Pst.liftW {W : WX} {σ : L2.St} {R : It → Hp → Prop} {i : List Addr} {H : Hp} {m : Mem} {o : Option Walked} (S : Sim D i m H) (h : Pst D W σ (fun i H J w => Wk D J w i H) R i H (U.liftW o m)) : ∃ w, o = some w ∧ ∀ J, Wk D J w i H → R J H := by
  cases o with
  | none => exact h.elim
  | some w => exact ⟨w, rfl, fun J hJ => h i H J Ext.refl S hJ⟩
theorem si_of (hK : X.K = D.K) (ha : SE X D ea ca) : SI X D tg ea (fun r m => (ca r m).bind fun v m1 => liftW (walkOf v m1) m1) := fun W tk => by
  refine U.PI.imp (pi_any (ha W tk)) fun σ H R ⟨i, r, m, S, E, h⟩ => ?_
  refine TE_mono (bind1 (k := fun v r m1 => liftW (walkOf v m1) m1) S E h) fun x H1 ⟨i, r, m, v, S, E, q, h⟩ => ?_
  obtain ⟨w, e, h⟩ := Pst.liftW S h
  rw [hK]
  rcases walk_val S q e with ⟨a, xs, rfl, hq, hw⟩ | ⟨a, xs, rfl, hq, hw⟩ | ⟨y, rfl, hw⟩
  · exact .inl ⟨a, xs, rfl, hq, h _ hw⟩
  · exact .inr (.inl ⟨a, xs, rfl, hq, h _ hw⟩)
  · exact .inr (.inr ⟨y, rfl, h _ hw⟩)
theorem si_rng1 (hg : Gl X "range") (hm : X.mg "range" = none) (hp : plainE ea = true) (ha : SE X D ea ca) : SI X D tg (.Call (.Name "range" p) [ea] [] pos) (fun r m => (ca r m).bind fun x m1 => liftW (rng1 x) m1) := fun W tk => by
  refine U.PI.imp (pi_range1 hg hm (pa_cons (ha W tk) pa_nil (star_cons hp)) (star_cons hp)) fun σ H R ⟨i, r, m, S, E, h⟩ => ?_
  refine TE_mono (bind1 (k := fun x r m1 => liftW (rng1 x) m1) S E h) fun x H1 ⟨i, r, m, v, S, E, q, h⟩ => ?_
  obtain ⟨w, e, h⟩ := Pst.liftW S h
  unfold rng1 at e
  split at e
  · rename_i n
    split at e
    · rename_i hb
      cases e
      cases q
      refine ⟨n, rfl, hb.1, hb.2, ?_⟩
      have z := h _ (wk_rng (D := D) 0 n)
      rwa [Int.sub_zero] at z
    · cases e
  · cases e
theorem si_rng2 (hg : Gl X "range") (hm : X.mg "range" = none) (hp : plainE ea = true) (hpb : plainE eb = true) (ha : SE X D ea ca) (hb : SE X D eb cb) : SI X D tg (.Call (.Name "range" p) [ea, eb] [] pos) (fun r m => (ca r m).bind fun x m1 => (cb r m1).bind fun y m2 => liftW (rng2 x y) m2) := fun W tk => by
  refine U.PI.imp (pi_range2 hg hm (pa_cons (ha W tk) (pa_cons (hb W tk) pa_nil (star_cons hpb)) (star_cons hp)) (by rw [star_cons hp, star_cons hpb]; rfl) (star_cons hpb)) fun σ H R ⟨i, r, m, S, E, h⟩ => ?_
  refine TE_mono (bind1 (k := fun x r m1 => (cb r m1).bind fun y m2 => liftW (rng2 x y) m2) S E h) fun x H1 h1 => TE_mono (bind2 (k := fun x y r m2 => liftW (rng2 x y) m2) h1) fun y H2 ⟨i, r, m, v, u, S, E, q1, q2, h⟩ => ?_
  obtain ⟨w, e, h⟩ := Pst.liftW S h
  unfold rng2 at e
  split at e
  · rename_i n k
    split at e
    · rename_i hb
      cases e
      cases q1
      cases q2
      exact ⟨n, k, rfl, hb, h _ (wk_rng n k)⟩
    · cases e
  · cases e
end
end U
end Part_U11

section Part_U12
set_option Elab.async false
set_option linter.all false
set_option maxRecDepth 100000
set_option maxHeartbeats 4000000
/-! U12: comprehensions. -/
namespace U
open PySem PySem.Spec PyProof.Rows L2
/-- a block of one's own: the context within -/
abbrev blkX (X : Cx) (s : Shared) (H : Hp) (scope : Scope) (cl : List (Str × Addr)) (C : Addr) (fp : List Addr) : Cx := X.blk s H scope (compEnvC scope cl C X.env) fp
def noW : WX := fun _ _ _ _ => False
theorem takes_blk {X : Cx} {s : Shared} {H : Hp} {scope : Scope} {cl : List (Str × Addr)} {C : Addr} {fp : List Addr} : Takes (blkX X s H scope cl C fp) noW := fun u s' ⟨a, B, sI, pins, σ, H, cls, d, e, I, nb, up, sky, na, os, ag, w⟩ => w
/-- a block's tests -/
def STs (X : Cx) (D : Dat) (ifs : List Expr) (c : Env → M MV) : Prop := PTs X ifs (tT X D noW c)
theorem sts_nil {X : Cx} {D : Dat} : STs X D [] (fun _ m => .ok (.bl true) m) := ⟨fun pins s σ H Q I ⟨i, r, m, S, E, h⟩ => pts_nil.run pins s σ H Q I (h i H true Ext.refl S rfl)⟩
theorem sts_one {X : Cx} {D : Dat} {e : Expr} {c : Env → M MV} (tk : Takes X noW) (h : ST X D e c) : STs X D [e] c := ⟨fun pins s σ H Q I q => (pts_one (h noW tk)).run pins s σ H Q I q⟩
section
variable {X : Cx} {D : Dat} {elt iter : Expr} {ifs : List Expr} {k : Nat} {x : Str} {tp pos : Pos} {scope : Scope} {ci : Env → M Walked} {ct ce : Env → M MV} {W : WX}
/-- the computation -/
def lcC (k : Nat) (ci : Env → M Walked) (ct ce : Env → M MV) : Env → M MV := fun r m => (ci r m).bind fun w m1 => lcGo w m1.length (fun x m2 => ct (r.set k (.val x)) m2) (fun x m2 => ce (r.set k (.val x)) m2) w.items (m1 ++ [.lst []])
/-- .. as the layer reads it -/
theorem lc_read (hc : X.calm = true) {σ : L2.St} {H : Hp} {Q : VK} {s0 : Shared} {H0 : Hp} {cl0 : List (Str × Addr)} {C0 : Addr} {fp0 : List Addr} (h : tE X D W (lcC k ci ct ce) σ H Q) :
    tLc (tI X D W ci) (gName k) (tT (blkX X s0 H0 scope cl0 C0 fp0) D noW ct) (tE (blkX X s0 H0 scope cl0 C0 fp0) D noW ce) [k] σ H Q := by
  obtain ⟨i, r, m, S, E, h⟩ := h
  refine ⟨i, r, m, S, E, ?_⟩
  unfold lcC at h
  cases e : ci r m with
  | fail => rw [e] at h; exact h.elim
  | ex c fs m1 => rw [e] at h; exact h
  | ok w m1 =>
    rw [e] at h
    dsimp only [R.bind] at h
    intro i1 H1 J e1 S1 wk Dd hD
    have hl : (i1 ++ [Dd])[m1.length]? = some Dd := getE_append_len S1.len
    -- one turn's state
    refine ⟨fun j mm H2 => ∃ i m, Sim D i m H2 ∧ Ext D i1 H1 i H2 ∧ i[m1.length]? = some Dd ∧ mm = (w.items.drop j).length ∧ Pst D W σ (RV D) Q i H2 (lcGo w m1.length (fun x m2 => ct (r.set k (.val x)) m2) (fun x m2 => ce (r.set k (.val x)) m2) (w.items.drop j) m),
      ⟨_, i1 ++ [Dd], m1 ++ [.lst []], S1.lst hD .nil, Ext.alloc hD, hl, rfl, h.ext (e1.trans (Ext.alloc hD))⟩, fun j mm H2 ⟨i, m, S, e2, hn, hm, h⟩ => ?_⟩
    cases ed : w.items.drop j with
    | nil =>
      rw [ed] at h
      unfold lcGo at h
      split at h
      · rename_i st
        refine .inl ⟨(wk i H2 m e2 S st).2 j ?_, h i H2 (.ref Dd) Ext.refl S (.ref hn)⟩
        rw [List.drop_eq_nil_iff] at ed
        exact ed
      · exact h.elim
    | cons y ys =>
      rw [ed] at h
      unfold lcGo at h
      split at h
      · rename_i st
        have hy : w.items[j]? = some y := by
          have := List.getElem?_drop (xs := w.items) (i := j) (j := 0)
          rw [ed] at this
          simpa using this.symm
        have ed2 : w.items.drop (j + 1) = ys := by
          have : w.items.drop (j + 1) = (w.items.drop j).drop 1 := by rw [List.drop_drop]
          rw [this, ed]
          rfl
        obtain ⟨go, yl⟩ := (wk i H2 m e2 S st).1 j y hy
        refine .inr ⟨go, fun H' => ∃ i m, Sim D i m H' ∧ Ext D i1 H1 i H' ∧ i[m1.length]? = some Dd ∧ Pst D W σ (RV D) Q i H' (lcGo w m1.length (fun x m2 => ct (r.set k (.val x)) m2) (fun x m2 => ce (r.set k (.val x)) m2) (w.items.drop (j + 1)) m),
          fun H' ⟨i, m, a1, a2, a3, a4⟩ => ⟨_, by rw [hm, ed, ed2]; exact Nat.lt_succ_self _, i, m, a1, a2, a3, rfl, a4⟩, fun u H3 hyl => ?_⟩
        obtain ⟨rfl, qy⟩ := yl u H3 hyl
        have Eb : RE (blkX X s0 H0 scope cl0 C0 fp0) D i H3 (r.set k (.val y)) (((wipe σ [k])).set k (some u)) := by
          have E2 : RE X D i H3 (r.set k (.val y)) (((wipe σ [k])).set k (some u)) := by
            have z := ((E.ext e1).ext e2).set (k := k) (s := .val y) (o := some u) ⟨u, rfl, qy⟩
            have e : (wipe σ [k]).set k (some u) = σ.set k (some u) := by
              unfold wipe wipe
              rw [List.set_set]
            rw [e]
            exact z
          exact E2.calm hc
        refine ⟨by
          show ((σ.set k none).set k (some u)).set k none = σ.set k none
          rw [List.set_set, List.set_set], i, _, m, S, Eb, ?_⟩
        cases e3 : ct (r.set k (.val y)) m with
        | fail => rw [e3] at h; exact h.elim
        | ex c fs m2 => rw [e3] at h; exact h.elim
        | ok t m2 =>
          rw [e3] at h
          dsimp only [R.bind] at h ⊢
          unfold onTru at h ⊢
          cases e4 : truth m2 t with
          | none => rw [e4] at h; exact h.elim
          | some b =>
            rw [e4] at h
            dsimp only at h ⊢
            intro i4 H4 b' e5 S4 hb
            cases hb
            cases b with
            | false =>
              rw [if_neg (by decide)] at h ⊢
              refine ⟨i4, m2, S4, e2.trans e5, e5.pre _ _ hn, ?_⟩
              rw [ed2]
              exact h.ext e5
            | true =>
              rw [if_pos rfl] at h ⊢
              refine ⟨i4, _, m2, S4, Eb.ext e5, ?_⟩
              cases e6 : ce (r.set k (.val y)) m2 with
              | fail => rw [e6] at h; exact h.elim
              | ex c fs m3 => rw [e6] at h; exact h.elim
              | ok v m3 =>
                rw [e6] at h
                dsimp only at h
                intro i5 H5 z e7 S5 qz
                split at h
                · rename_i acc e8
                  split at h
                  · rename_i hz
                    have hn5 : i5[m1.length]? = some Dd := e7.pre _ _ (e5.pre _ _ hn)
                    obtain ⟨vs, h1, h2⟩ := S5.at_ _ _ _ hn5 e8
                    have ew : Ext D i5 H5 i5 (upd H5 Dd (.lst (vs ++ [z]))) := Ext.write h1 (fun s => s)
                    refine ⟨vs, h1, ?_, i5, m3.set m1.length (.lst (acc ++ [v])), S5.write hn5 e8 rfl ew (fun b o hb q => by rw [upd_ne hb]; exact q) ⟨_, upd_same, (h2.append (.one qz)).ext ew⟩, ((e2.trans e5).trans e7).trans ew, hn5, ?_⟩
                    · rw [h2.length, sizeLine_eq]
                      exact hz
                    · rw [ed2]
                      exact h.ext ((e5.trans e7).trans ew)
                  · exact h.elim
                · exact h.elim
      · exact h.elim
theorem se_lc (hc : X.calm = true) (hN : X.N.Nodup) (hi : SI X D (.Name x tp) iter ci) (ok : BlkOk X.N X.env.scope scope [(x, k)]) (hk : X.N[k]? = some x) (hx : Loc (relS scope X.env.scope) x) (hf : (scope.names.lookup x == some .cell) = true ∨ (relS scope X.env.scope).names.lookup x = some .local)
    (ht : ∀ s H C cl fp, STs (blkX X s H scope cl C fp) D ifs ct) (he : ∀ s H C cl fp, SE (blkX X s H scope cl C fp) D elt ce) (hs : ∀ x, foldedSetIterable iter X.env x = pure x) :
    SE X D (.ListComp elt [⟨.Name x tp, iter, ifs, 0⟩] scope pos) (lcC k ci ct ce) :=
  SE.of (t := fun W => tLc (tI X D W ci) (gName k) (tT (blkX X X.s_0 X.H_0 scope [] 0 []) D noW ct) (tE (blkX X X.s_0 X.H_0 scope [] 0 []) D noW ce) [k])
    (fun W tk => pe_lc (own := [(x, k)]) hc hN (hi W tk) ok (fun s H C cl fp => pg_name hN hk hx hf) (fun s H C cl fp => ht s H C cl fp) (fun s H C cl fp => he s H C cl fp noW takes_blk) hs) fun W σ H Q h => lc_read hc h
end
end U
end Part_U12

section Part_U13
set_option Elab.async false
set_option linter.all false
set_option maxRecDepth 100000
set_option maxHeartbeats 4000000
/-! U13: statements. -/
namespace U
open PySem PySem.Spec PyProof.Rows L2
section
/-- what a statement promises -/
def PsS (X : Cx) (D : Dat) (W : WX) (En : Ends) (i : List Addr) (H : Hp) : RS → Prop
  | .nx r m => ∀ i' H' σ', Ext D i H i' H' → Sim D i' m H' → RE X D i' H' r σ' → En.nx σ' H'
  | .bk r m => ∀ i' H' σ', Ext D i H i' H' → Sim D i' m H' → RE X D i' H' r σ' → En.bk σ' H'
  | .ct r m => ∀ i' H' σ', Ext D i H i' H' → Sim D i' m H' → RE X D i' H' r σ' → En.ct σ' H'
  | .rt v m => ∀ i' H' x, Ext D i H i' H' → Sim D i' m H' → RV D i' H' x v → En.rt x H'
  | .ex c fs r m => ∀ i' H' σ' cls d, Ext D i H i' H' → Sim D i' m H' → RE X D i' H' r σ' → RX D i' H' c fs cls d → W cls d σ' H'
  | .fail => False
theorem PsS.ext {X : Cx} {D : Dat} {W : WX} {En : Ends} {i i' : List Addr} {H H' : Hp} {a : RS} (h : PsS X D W En i H a) (e : Ext D i H i' H') : PsS X D W En i' H' a := by
  cases a with
  | nx r m => exact fun i2 H2 σ2 e2 S E => h i2 H2 σ2 (e.trans e2) S E
  | bk r m => exact fun i2 H2 σ2 e2 S E => h i2 H2 σ2 (e.trans e2) S E
  | ct r m => exact fun i2 H2 σ2 e2 S E => h i2 H2 σ2 (e.trans e2) S E
  | rt v m => exact fun i2 H2 x e2 S q => h i2 H2 x (e.trans e2) S q
  | ex c fs r m => exact fun i2 H2 σ2 cls d e2 S E q => h i2 H2 σ2 cls d (e.trans e2) S E q
  | fail => exact h
def tS (X : Cx) (D : Dat) (W : WX) (c : Env → Mem → RS) : TS := fun En σ H => ∃ i r m, Sim D i m H ∧ RE X D i H r σ ∧ PsS X D W En i H (c r m)
def SS (X : Cx) (D : Dat) (st : Stmt) (c : Env → Mem → RS) : Prop := ∀ W, Takes X W → PS X st (tS X D W c)
def SSs (X : Cx) (D : Dat) (sts : List Stmt) (c : Env → Mem → RS) : Prop := ∀ W, Takes X W → PSs X sts (tS X D W c)
theorem PS.imp {X : Cx} {st : Stmt} {t t' : TS} (h : PS X st t) (hi : ∀ En σ H, t' En σ H → t En σ H) : PS X st t' := ⟨fun pins s σ H En I q => h.run pins s σ H En I (hi En σ H q)⟩
theorem PSs.imp {X : Cx} {st : List Stmt} {t t' : TS} (h : PSs X st t) (hi : ∀ En σ H, t' En σ H → t En σ H) : PSs X st t' := ⟨fun pins s σ H En I q => h.run pins s σ H En I (hi En σ H q)⟩
theorem SS.of {X : Cx} {D : Dat} {st : Stmt} {c : Env → Mem → RS} {t : WX → TS} (h : ∀ W, Takes X W → PS X st (t W)) (hi : ∀ W En σ H, tS X D W c En σ H → t W En σ H) : SS X D st c := fun W tk => U.PS.imp (h W tk) (hi W)
end
section
variable {X : Cx} {D : Dat} {W : WX} {σ : L2.St} {H : Hp} {En : Ends}
def KS (X : Cx) (D : Dat) (W : WX) (En : Ends) (k : MV → Env → Mem → RS) (x : V) (σ : L2.St) (H : Hp) : Prop := ∃ i r m v, Sim D i m H ∧ RE X D i H r σ ∧ RV D i H x v ∧ PsS X D W En i H (k v r m)
def KS2 (X : Cx) (D : Dat) (W : WX) (En : Ends) (k : MV → MV → Env → Mem → RS) (x y : V) (σ : L2.St) (H : Hp) : Prop := ∃ i r m v u, Sim D i m H ∧ RE X D i H r σ ∧ RV D i H x v ∧ RV D i H y u ∧ PsS X D W En i H (k v u r m)
theorem stb1 {c : Env → M MV} {k : MV → Env → Mem → RS} {i : List Addr} {r : Env} {m : Mem} (S : Sim D i m H) (E : RE X D i H r σ) (h : PsS X D W En i H ((c r m).st r fun v m1 => k v r m1)) : tE X D W c σ H fun x H1 => KS X D W En k x σ H1 := by
  refine ⟨i, r, m, S, E, ?_⟩
  cases e : c r m with
  | ok v m1 =>
    rw [e] at h
    exact fun i' H' x e1 S1 q => ⟨i', r, m1, v, S1, E.ext e1, q, h.ext e1⟩
  | ex c fs m1 =>
    rw [e] at h
    exact fun i' H' cls d e1 S1 q => h i' H' σ cls d e1 S1 (E.ext e1) q
  | fail => rw [e] at h; exact h
theorem stb2 {c : Env → M MV} {k : MV → MV → Env → Mem → RS} {x : V} (h : KS X D W En (fun v r m => (c r m).st r fun u m1 => k v u r m1) x σ H) : tE X D W c σ H fun y H1 => KS2 X D W En k x y σ H1 := by
  obtain ⟨i, r, m, v, S, E, q, h⟩ := h
  dsimp only at h
  refine ⟨i, r, m, S, E, ?_⟩
  cases e : c r m with
  | ok u m1 =>
    rw [e] at h
    exact fun i' H' y e1 S1 q1 => ⟨i', r, m1, v, u, S1, E.ext e1, q.ext e1, q1, h.ext e1⟩
  | ex c fs m1 =>
    rw [e] at h
    exact fun i' H' cls d e1 S1 q => h i' H' σ cls d e1 S1 (E.ext e1) q
  | fail => rw [e] at h; exact h
end
/-- no comprehension at the top -/
def noLc : Expr → Bool
  | .ListComp _ _ _ _ => false
  | .SetComp _ _ _ _ => false
  | .DictComp _ _ _ _ _ => false
  | _ => true
theorem sw_no {e : Expr} {t : Option Expr} {l : Nat} {env : PySem.Env} (h : noLc e = true) : swapsWith e t l env = pure false := by
  cases e <;> first | rfl | cases h
section
variable {X : Cx} {D : Dat} {ea eb ec : Expr} {ca cb cc : Env → M MV} {pos pos' : Pos} {st : Stmt} {rest sa sb : List Stmt} {c c1 c2 : Env → Mem → RS} {k : Nat} {x : Str}
theorem sss_nil : SSs X D [] (fun r m => .nx r m) := fun W tk => U.PSs.imp pss_nil fun En σ H ⟨i, r, m, S, E, h⟩ => h i H σ Ext.refl S E
theorem sss_cons (h1 : SS X D st c1) (h2 : SSs X D rest c2) : SSs X D (st :: rest) (fun r m => match c1 r m with
      | .nx r' m' => c2 r' m'
      | a => a) := fun W tk => U.PSs.imp (pss_cons (h1 W tk) (h2 W tk)) fun En σ H ⟨i, r, m, S, E, h⟩ => by
  refine ⟨i, r, m, S, E, ?_⟩
  dsimp only at h
  cases e : c1 r m with
  | nx r' m' =>
    rw [e] at h
    exact fun i' H' σ' e1 S1 E1 => ⟨i', r', m', S1, E1, h.ext e1⟩
  | bk r' m' => rw [e] at h; exact h
  | ct r' m' => rw [e] at h; exact h
  | rt v m' => rw [e] at h; exact h
  | ex c fs r' m' => rw [e] at h; exact h
  | fail => rw [e] at h; exact h
theorem ss_pass : SS X D (.Pass pos) (fun r m => .nx r m) := fun W tk => U.PS.imp ps_pass fun En σ H ⟨i, r, m, S, E, h⟩ => h i H σ Ext.refl S E
theorem ss_brk : SS X D (.Break pos) (fun r m => .bk r m) := fun W tk => U.PS.imp ps_break fun En σ H ⟨i, r, m, S, E, h⟩ => h i H σ Ext.refl S E
theorem ss_cont : SS X D (.Continue pos) (fun r m => .ct r m) := fun W tk => U.PS.imp ps_continue fun En σ H ⟨i, r, m, S, E, h⟩ => h i H σ Ext.refl S E
theorem ss_doc {y : Str} {j pos2} : SS X D (.Expr (.Constant (.str y) j pos) pos2) (fun r m => .nx r m) := fun W tk => U.PS.imp ps_doc fun En σ H ⟨i, r, m, S, E, h⟩ => h i H σ Ext.refl S E
theorem ss_expr (hn : noLc ea = true) (ha : SE X D ea ca) : SS X D (.Expr ea pos) (fun r m => (ca r m).st r fun _ m1 => .nx r m1) := by
  refine SS.of (t := fun W => tDrop (tE X D W ca)) (fun W tk => ps_expr (ha W tk) (sw_no hn)) fun W En σ H ⟨i, r, m, S, E, h⟩ => ?_
  exact TE_mono (stb1 (k := fun _ r m1 => .nx r m1) S E h) fun x H1 ⟨i, r, m, v, S, E, q, h⟩ => h i H1 σ Ext.refl S E
theorem ss_ret (ha : SE X D ea ca) : SS X D (.Return (some ea) pos) (fun r m => (ca r m).st r fun v m1 => .rt v m1) := by
  refine SS.of (t := fun W => tRet (tE X D W ca)) (fun W tk => ps_ret (ha W tk)) fun W En σ H ⟨i, r, m, S, E, h⟩ => ?_
  exact TE_mono (stb1 (k := fun v r m1 => .rt v m1) S E h) fun x H1 ⟨i, r, m, v, S, E, q, h⟩ => h i H1 x Ext.refl S q
theorem ss_retN : SS X D (.Return none pos) (fun _ m => .rt .non m) := fun W tk => U.PS.imp ps_retN fun En σ H ⟨i, r, m, S, E, h⟩ => h i H .non Ext.refl S .non
theorem ss_set (hN : X.N.Nodup) (hi : X.N[k]? = some x) (hx : Loc X.env.scope x) (hf : X.fn x = true ∨ X.env.scope.names.lookup x = some .local) (hs : swapsWith ea (some (.Name x pos')) pos.line X.env = pure false) (ha : SE X D ea ca) :
    SS X D (.Assign [.Name x pos'] ea pos) (fun r m => (ca r m).st r fun v m1 => .nx (r.set k (.val v)) m1) := by
  refine SS.of (t := fun W => tAsg (tE X D W ca) (gName k)) (fun W tk => ps_set hN hi hx (ha W tk) hs hf) fun W En σ H ⟨i, r, m, S, E, h⟩ => ?_
  exact TE_mono (stb1 (k := fun v r m1 => .nx (r.set k (.val v)) m1) S E h) fun y H1 ⟨i, r, m, v, S, E, q, h⟩ => h i H1 _ Ext.refl S (E.set ⟨y, rfl, q⟩)
theorem ss_setLc {y : Str} {j : Nat} {py tp lpos : Pos} {elt iter : Expr} {ifs : List Expr} {scope : Scope} {ci : Env → M Walked} {ct ce : Env → M MV} (hy : X.N[j]? = some y) (hyl : X.env.scope.names.lookup y = some .local) (hsw : swapsWith (.ListComp elt [⟨.Name x tp, iter, ifs, 0⟩] scope lpos) (some (.Name y py)) pos.line X.env = pure true)
    (hc : X.calm = true) (hN : X.N.Nodup) (hi : SI X D (.Name x tp) iter ci) (ok : BlkOk X.N X.env.scope scope [(x, k)]) (hk : X.N[k]? = some x) (hx : Loc (relS scope X.env.scope) x) (hf : (scope.names.lookup x == some .cell) = true ∨ (relS scope X.env.scope).names.lookup x = some .local)
    (ht : ∀ s H C cl fp, STs (blkX X s H scope cl C fp) D ifs ct) (he : ∀ s H C cl fp, SE (blkX X s H scope cl C fp) D elt ce) (hs : ∀ x, foldedSetIterable iter X.env x = pure x) :
    SS X D (.Assign [.Name y py] (.ListComp elt [⟨.Name x tp, iter, ifs, 0⟩] scope lpos) pos) (fun r m => (lcC k ci ct ce r m).st r fun v m1 => .nx (r.set j (.val v)) m1) := by
  refine SS.of (t := fun W => tAsg (tLc (tI X D W ci) (gName k) (tT (blkX X X.s_0 X.H_0 scope [] 0 []) D noW ct) (tE (blkX X X.s_0 X.H_0 scope [] 0 []) D noW ce) [k]) (gName j))
    (fun W tk => ps_setLc (own := [(x, k)]) hc hN hy hyl hsw (hi W tk) ok (fun s H C cl fp => pg_name hN hk hx hf) (fun s H C cl fp => ht s H C cl fp) (fun s H C cl fp => he s H C cl fp noW takes_blk) hs) fun W En σ H ⟨i, r, m, S, E, h⟩ => ?_
  refine lc_read (Q := fun x H1 => gName j x σ H1 En.nx) hc (TE_mono (stb1 (k := fun v r m1 => .nx (r.set j (.val v)) m1) S E h) fun y H1 ⟨i, r, m, v, S, E, q, h⟩ => h i H1 _ Ext.refl S (E.set ⟨y, rfl, q⟩))
/-- a test ahead of two ways -/
theorem stT {W : WX} {σ : L2.St} {H : Hp} {En : Ends} {c : Env → M MV} {k : Bool → Env → Mem → RS} {i : List Addr} {r : Env} {m : Mem} (S : Sim D i m H) (E : RE X D i H r σ) (h : PsS X D W En i H ((c r m).st r fun v m1 => onTruS m1 v fun b => k b r m1)) :
    tT X D W c σ H fun b H1 => ∃ i r m, Sim D i m H1 ∧ RE X D i H1 r σ ∧ PsS X D W En i H1 (k b r m) := by
  refine ⟨i, r, m, S, E, ?_⟩
  cases e : c r m with
  | ok v m1 =>
    rw [e] at h
    dsimp only [R.bind, R.st] at h ⊢
    unfold onTru
    unfold onTruS at h
    cases e2 : truth m1 v with
    | none => rw [e2] at h; exact h.elim
    | some b =>
      rw [e2] at h
      exact fun i' H' b' e1 S1 hb => by
        cases hb
        exact ⟨i', r, m1, S1, E.ext e1, h.ext e1⟩
  | ex c fs m1 =>
    rw [e] at h
    exact fun i' H' cls d e1 S1 q => h i' H' σ cls d e1 S1 (E.ext e1) q
  | fail => rw [e] at h; exact h
theorem ss_if (hc : ST X D ec cc) (ha : SSs X D sa c1) (hb : SSs X D sb c2) : SS X D (.If ec sa sb pos) (fun r m => (cc r m).st r fun v m1 => onTruS m1 v fun b => if b = true then c1 r m1 else c2 r m1) := by
  refine SS.of (t := fun W => tIfS (tT X D W cc) (tS X D W c1) (tS X D W c2)) (fun W tk => ps_if (hc W tk) (ha W tk) (hb W tk)) fun W En σ H ⟨i, r, m, S, E, h⟩ => ?_
  refine TT_mono (stT (k := fun b r m1 => if b = true then c1 r m1 else c2 r m1) S E h) fun b H1 ⟨i, r, m, S, E, h⟩ => ?_
  cases b with
  | true => exact ⟨i, r, m, S, E, h⟩
  | false => exact ⟨i, r, m, S, E, h⟩
theorem ss_whl {n : Nat} (hp : PassesOwn (model X.prog X.w) X.A X.env X.xe) (hc : ST X D ec cc) (hb : SSs X D sa c1) : SS X D (.While ec sa [] pos) (fun r m => whileGo cc c1 n r m) := by
  refine SS.of (t := fun W => tWhile (tT X D W cc) (tS X D W c1)) (fun W tk => ps_while hp (hc W tk) (hb W tk)) fun W En σ H ⟨i, r, m, S, E, h⟩ => ?_
  refine ⟨fun mm σ H => ∃ i r m, Sim D i m H ∧ RE X D i H r σ ∧ PsS X D W En i H (whileGo cc c1 mm r m), ⟨n, i, r, m, S, E, h⟩, fun mm σ H ⟨i, r, m, S, E, h⟩ => ?_⟩
  cases mm with
  | zero => exact h.elim
  | succ mm =>
    unfold whileGo at h
    refine TT_mono (stT (k := fun b r m1 => if b = true then (match c1 r m1 with
      | .nx r' m' => whileGo cc c1 mm r' m'
      | .ct r' m' => whileGo cc c1 mm r' m'
      | .bk r' m' => .nx r' m'
      | a => a) else .nx r m1) S E h) fun b H1 ⟨i, r, m, S, E, h⟩ => ?_
    cases b with
    | false => exact h i H1 σ Ext.refl S E
    | true =>
      rw [if_pos rfl] at h ⊢
      refine ⟨fun σ' H' => ∃ i r m, Sim D i m H' ∧ RE X D i H' r σ' ∧ PsS X D W En i H' (whileGo cc c1 mm r m), fun σ' H' z => ⟨mm, Nat.lt_succ_self _, z⟩, i, r, m, S, E, ?_⟩
      cases e : c1 r m with
      | nx r' m' => rw [e] at h; exact fun i' H' σ' e1 S1 E1 => ⟨i', r', m', S1, E1, h.ext e1⟩
      | ct r' m' => rw [e] at h; exact fun i' H' σ' e1 S1 E1 => ⟨i', r', m', S1, E1, h.ext e1⟩
      | bk r' m' => rw [e] at h; exact h
      | rt v m' => rw [e] at h; exact h
      | ex c fs r' m' => rw [e] at h; exact h
      | fail => rw [e] at h; exact h
/-- a target: how the frame changes by a value -/
def SG (X : Cx) (D : Dat) (tg : Expr) (g : MV → Env → Option Env) : Prop := ∃ t : TG, PG X tg t ∧ ∀ i H v x r r' σ m (Q : L2.St → Hp → Prop), Sim D i m H → RE X D i H r σ → RV D i H x v → g v r = some r' → (∀ σ', RE X D i H r' σ' → Q σ' H) → t x σ H Q
theorem sg_name (hN : X.N.Nodup) (hi : X.N[k]? = some x) (hx : Loc X.env.scope x) (hf : X.fn x = true ∨ X.env.scope.names.lookup x = some .local) : SG X D (.Name x pos) (fun v r => some (r.set k (.val v))) :=
  ⟨gName k, pg_name hN hi hx hf, fun i H v x r r' σ m Q S E q e h => by cases e; exact h _ (E.set ⟨x, rfl, q⟩)⟩
theorem ss_for {tg iter : Expr} {g : MV → Env → Option Env} {ci : Env → M Walked} (hp : PassesOwn (model X.prog X.w) X.A X.env X.xe) (hc : X.calm = true) (hi : SI X D tg iter ci) (hg : SG X D tg g) (hb : SSs X D sa c1) (hs : ∀ x, foldedSetIterable iter X.env x = pure x) :
    SS X D (.For tg iter sa [] pos) (fun r m => match ci r m with
      | .ok w m1 => forGo w (fun x r' m' => match g x r' with | some r2 => c1 r2 m' | none => .fail) w.items r m1
      | .ex c fs m1 => .ex c fs r m1
      | .fail => .fail) := by
  obtain ⟨t, hg, hgt⟩ := hg
  refine SS.of (t := fun W => tFor (tI X D W ci) t (tS X D W c1)) (fun W tk => ps_for hp hc (hi W tk) hg (hb W tk) hs) fun W En σ H ⟨i, r, m, S, E, h⟩ => ?_
  refine ⟨i, r, m, S, E, ?_⟩
  dsimp only at h
  cases e : ci r m with
  | fail => rw [e] at h; exact h
  | ex c fs m1 => rw [e] at h; exact fun i' H' cls d e1 S1 q => h i' H' σ cls d e1 S1 (E.ext e1) q
  | ok w m1 =>
    rw [e] at h
    dsimp only at h
    intro i1 H1 J e1 S1 wk
    refine ⟨fun j mm σ H2 => ∃ i r m, Sim D i m H2 ∧ Ext D i1 H1 i H2 ∧ RE X D i H2 r σ ∧ mm = (w.items.drop j).length ∧ PsS X D W En i H2 (forGo w (fun x r' m' => match g x r' with | some r2 => c1 r2 m' | none => .fail) (w.items.drop j) r m),
      ⟨_, i1, r, m1, S1, Ext.refl, E.ext e1, rfl, h.ext e1⟩, fun j mm σ2 H2 ⟨i, r, m, S, e2, E, hm, h⟩ => ?_⟩
    cases ed : w.items.drop j with
    | nil =>
      rw [ed] at h
      unfold forGo at h
      split at h
      · rename_i st
        refine .inl ⟨(wk i H2 m e2 S st).2 j ?_, h i H2 σ2 Ext.refl S E⟩
        rw [List.drop_eq_nil_iff] at ed
        exact ed
      · exact h.elim
    | cons y ys =>
      rw [ed] at h
      unfold forGo at h
      split at h
      · rename_i st
        have hy : w.items[j]? = some y := by
          have := List.getElem?_drop (xs := w.items) (i := j) (j := 0)
          rw [ed] at this
          simpa using this.symm
        have ed2 : w.items.drop (j + 1) = ys := by
          have : w.items.drop (j + 1) = (w.items.drop j).drop 1 := by rw [List.drop_drop]
          rw [this, ed]
          rfl
        obtain ⟨go, yl⟩ := (wk i H2 m e2 S st).1 j y hy
        refine .inr ⟨go, fun σ' H' => ∃ i r m, Sim D i m H' ∧ Ext D i1 H1 i H' ∧ RE X D i H' r σ' ∧ PsS X D W En i H' (forGo w (fun x r' m' => match g x r' with | some r2 => c1 r2 m' | none => .fail) (w.items.drop (j + 1)) r m),
          fun σ' H' ⟨i, r, m, a1, a2, a3, a4⟩ => ⟨_, by rw [hm, ed, ed2]; exact Nat.lt_succ_self _, i, r, m, a1, a2, a3, rfl, a4⟩, fun u H3 hyl => ?_⟩
        obtain ⟨rfl, qy⟩ := yl u H3 hyl
        cases eg : g y r with
        | none => rw [eg] at h; exact h.elim
        | some r2 =>
          rw [eg] at h
          dsimp only at h
          refine hgt i H3 y u r r2 σ2 m _ S E qy eg fun σ3 E3 => ⟨i, r2, m, S, E3, ?_⟩
          cases e4 : c1 r2 m with
          | nx r' m' => rw [e4] at h; exact fun i' H' σ' e5 S5 E5 => ⟨i', r', m', S5, e2.trans e5, E5, by rw [ed2]; exact h.ext e5⟩
          | ct r' m' => rw [e4] at h; exact fun i' H' σ' e5 S5 E5 => ⟨i', r', m', S5, e2.trans e5, E5, by rw [ed2]; exact h.ext e5⟩
          | bk r' m' => rw [e4] at h; exact h
          | rt v m' => rw [e4] at h; exact h
          | ex c fs r' m' => rw [e4] at h; exact h
          | fail => rw [e4] at h; exact h
      · exact h.elim
end
end U
end Part_U13

section Part_U14
set_option Elab.async false
set_option linter.all false
set_option maxRecDepth 100000
set_option maxHeartbeats 4000000
/-! U14: stores. -/
namespace U
open PySem PySem.Spec PyProof.Rows L2
theorem putF_new {f : Str} {v : V} : ∀ {hs : List (Str × V)}, f ∉ hs.map (·.1) → putF f v hs = hs ++ [(f, v)]
  | [], _ => rfl
  | (g, u) :: hs, h => by
    rw [List.map_cons, List.mem_cons, not_or] at h
    show (if g = f then (g, v) :: hs else (g, u) :: putF f v hs) = _
    rw [if_neg (fun e => h.1 e.symm), putF_new h.2]
    rfl
theorem putF_at {f : Str} {v : V} : ∀ {hs : List (Str × V)} {k : Nat}, (hs.map (·.1)).Nodup → (hs.map (·.1))[k]? = some f → (putF f v hs).map (·.1) = hs.map (·.1) ∧ (putF f v hs).map (·.2) = (hs.map (·.2)).set k v
  | [], k, _, h => by simp at h
  | (g, u) :: hs, 0, nd, h => by
    simp at h
    subst h
    show (if g = g then (g, v) :: hs else _).map _ = _ ∧ _
    constructor
    · rw [if_pos rfl]; rfl
    · show (if g = g then (g, v) :: hs else _).map _ = _
      rw [if_pos rfl]; rfl
  | (g, u) :: hs, k + 1, nd, h => by
    rw [List.map_cons, List.nodup_cons] at nd
    rw [List.map_cons, List.getElem?_cons_succ] at h
    have ne : ¬ g = f := by
      rintro rfl
      exact nd.1 (List.mem_of_getElem? h)
    obtain ⟨h1, h2⟩ := putF_at (v := v) nd.2 h
    have e : putF f v ((g, u) :: hs) = (g, u) :: putF f v hs := by
      show (if g = f then (g, v) :: hs else (g, u) :: putF f v hs) = _
      rw [if_neg ne]
    rw [e]
    exact ⟨by rw [List.map_cons, h1]; rfl, by rw [List.map_cons, h2]; rfl⟩
section
variable {X : Cx} {D : Dat} {ea eb ec : Expr} {ca cb cc : Env → M MV} {pos pos' : Pos} {k : Nat} {x : Str} {G : Nat → Str}
theorem setF_at {i : List Addr} {H : Hp} {m : Mem} {x y : V} {a b : MV} {f : Nat} {m' : Mem} (A : AOk G D) (S : Sim D i m H) (r : RV D i H x a) (rb : RV D i H y b) (h : setF D.T a f b m = some m') :
    ∃ p c dx hs, x = .ref p ∧ H p = some (.ins (D.ca c) dx hs) ∧ Cls D.K (D.ca c) ∧ NoAttr D.K (D.ca c) (G f) ∧ hs.length < 1000 ∧ Ext D i H i (upd H p (.ins (D.ca c) dx (putF (G f) y hs))) ∧ Sim D i m' (upd H p (.ins (D.ca c) dx (putF (G f) y hs))) := by
  cases r with
  | @ref p n h0 =>
    unfold setF at h
    dsimp only at h
    split at h
    · rename_i c fs e0
      split at h
      · rename_i k ek
        obtain ⟨dx, hs, hp, hn, rs, hle⟩ := S.at_ _ _ _ h0 e0
        obtain ⟨a1, a2, a3⟩ := A.fix c f k ek
        have hl : hs.length = fs.length := by
          have := rs.length
          rwa [List.length_map] at this
        have hlt : hs.length < 1000 := by
          have h1 := A.len c
          have h2 := A.few c
          omega
        refine ⟨p, c, dx, hs, rfl, hp, a2, a3, hlt, ?_⟩
        have nd : (hs.map (·.1)).Nodup := by rw [hn]; exact (A.nod c).sublist (List.take_sublist _ _)
        split at h
        · rename_i hk
          obtain ⟨hk, hlt2⟩ := hk
          cases h
          have nos : ¬ Sol D (.ins (D.ca c) dx hs) := fun ⟨c', e1, e2, e3⟩ => by
            have e4 := D.inj c' c e2 e1.symm
            subst e4
            have := congrArg List.length e3
            rw [List.length_map, A.len] at this
            omega
          have ew : Ext D i H i (upd H p (.ins (D.ca c) dx (putF (G f) y hs))) := Ext.write hp nos
          have hno : G f ∉ hs.map (·.1) := by
            rw [hn]
            intro hm
            obtain ⟨j, hj⟩ := List.getElem?_of_mem hm
            have hj2 := (List.getElem?_eq_some_iff.mp hj).1
            rw [List.length_take] at hj2
            rw [List.getElem?_take_of_lt (by omega)] at hj
            have := nodup_ix (A.nod c) hj a1
            omega
          refine ⟨ew, S.write h0 e0 rfl ew (fun b o hb q => by rw [upd_ne hb]; exact q) ⟨dx, putF (G f) y hs, upd_same, ?_, ?_, ?_⟩⟩
          · rw [putF_new hno, List.map_append, hn, List.length_append]
            show _ ++ [G f] = (D.fn c).take (fs.length + 1)
            rw [List.take_succ]
            have : (D.fn c)[fs.length]? = some (G f) := by rw [← hk]; exact a1
            rw [this]
            rfl
          · rw [show (putF (G f) y hs).map (·.2) = hs.map (·.2) ++ [y] from by rw [putF_new hno, List.map_append]; rfl]
            exact (rs.append (.one rb)).ext ew
          · rw [List.length_append, A.len]
            exact hlt2
        · split at h
          · rename_i hk
            cases h
            have nos : ¬ Sol D (.ins (D.ca c) dx hs) := fun ⟨c', e1, e2, e3⟩ => by
              have e4 := D.inj c' c e2 e1.symm
              subst e4
              rw [hk.2] at e2
              cases e2
            have ew : Ext D i H i (upd H p (.ins (D.ca c) dx (putF (G f) y hs))) := Ext.write hp nos
            obtain ⟨p1, p2⟩ := putF_at (v := y) (k := k) nd (by rw [hn, List.getElem?_take_of_lt hk.1]; exact a1)
            refine ⟨ew, S.write h0 e0 rfl ew (fun b o hb q => by rw [upd_ne hb]; exact q) ⟨dx, putF (G f) y hs, upd_same, ?_, ?_, ?_⟩⟩
            · rw [p1, hn, List.length_set]
            · rw [p2]
              exact ((rs.set rb k)).ext ew
            · rw [List.length_set]
              exact hle
          · cases h
      · cases h
    · cases h
  | _ => cases h
theorem ss_fld {f : Nat} (hK : X.K = D.K) (A : AOk G D) (hn : noLc ea = true) (ha : SE X D ea ca) (hb : SE X D eb cb) : SS X D (.Assign [.Attribute eb (G f) pos'] ea pos) (fun r m => (ca r m).st r fun y m1 => (cb r m1).st r fun x m2 => match setF D.T x f y m2 with
      | some m3 => .nx r m3
      | none => .fail) := by
  refine SS.of (t := fun W => sFld X.K (tE X D W cb) (tE X D W ca) (G f)) (fun W tk => ps_fld (hb W tk) (ha W tk) (sw_no hn)) fun W En σ H ⟨i, r, m, S, E, h⟩ => ?_
  refine TE_mono (stb1 (k := fun y r m1 => (cb r m1).st r fun x m2 => match setF D.T x f y m2 with
      | some m3 => .nx r m3
      | none => .fail) S E h) fun y H1 h1 => TE_mono (stb2 (k := fun y x r m2 => match setF D.T x f y m2 with
      | some m3 => .nx r m3
      | none => .fail) h1) fun x H2 ⟨i, r, m, v, u, S, E, q1, q2, h⟩ => ?_
  dsimp only at h
  cases e : setF D.T u f v m with
  | none => rw [e] at h; exact h.elim
  | some m3 =>
    rw [e] at h
    obtain ⟨p, c, dx, hs, e1, e2, e3, e4, e5, e6, e7⟩ := setF_at A S q2 q1 e
    rw [hK]
    exact ⟨p, _, dx, hs, e1, e2, e3, e4, e5, h i _ σ e6 e7 (E.ext e6)⟩
theorem sws_no {t e : Expr} {l : Nat} {env : PySem.Env} (h : noLc e = true) : swapsWithSole [t] e l env = pure false := by
  rw [show swapsWithSole [t] e l env = swapsWith e (some t) l env from by first | rfl | simp only [swapsWithSole]]
  exact sw_no h
/-- o[i] = e, a list -/
theorem setI_at {i : List Addr} {H : Hp} {m : Mem} {x j y : V} {a b c : MV} {m' : Mem} (S : Sim D i m H) (r : RV D i H x a) (rj : RV D i H j b) (ry : RV D i H y c) (h : setI a b c m = some m') {Q : Hp → Prop} (hQ : ∀ H', Ext D i H i H' → Sim D i m' H' → Q H') : rSetL x j y H Q := by
  unfold setI at h
  split at h
  · rename_i n kk
    cases r with
    | @ref p _ h0 =>
      cases rj
      split at h
      · rename_i xs e0
        obtain ⟨vs, hp, rs⟩ := S.at_ _ _ _ h0 e0
        cases e : ixN xs.length kk with
        | none => rw [e] at h; cases h
        | some q =>
          rw [e] at h
          cases h
          have ew : Ext D i H i (upd H p (.lst (vs.set q y))) := Ext.write hp (fun s => s)
          exact ⟨p, vs, kk, q, rfl, rfl, hp, by rw [rs.length]; exact e, hQ _ ew (S.write h0 e0 rfl ew (fun b o hb q => by rw [upd_ne hb]; exact q) ⟨_, upd_same, (rs.set ry q).ext ew⟩)⟩
      · cases h
  · cases h
theorem ss_seti (hix : plainE ec = true) (hn : noLc ea = true) (ha : SE X D ea ca) (hb : SE X D eb cb) (hc : SE X D ec cc) (hasg : ∀ v, assign (.Subscript eb ec pos') X.env v = (do
      let ov ← holding [v] (eval eb X.env)
      let iv ← holding [v, ov] (eval ec X.env)
      standAt pos'
      holding [v, ov, iv] (setItem ov iv v)
      release [v, ov, iv] [])) : SS X D (.Assign [.Subscript eb ec pos'] ea pos) (fun r m => (ca r m).st r fun y m1 => (cb r m1).st r fun x m2 => (cc r m2).st r fun j m3 => match setI x j y m3 with
      | some m4 => .nx r m4
      | none => .fail) := by
  refine SS.of (t := fun W => tAsg (tE X D W ca) (gSub (tE X D W cb) (tE X D W cc) rSetL)) (fun W tk => ps_asg (ha W tk) (pg_sub (hb W tk) (hc W tk) set_list hasg) (sws_no hn)) fun W En σ H ⟨i, r, m, S, E, h⟩ => ?_
  refine TE_mono (stb1 (k := fun y r m1 => (cb r m1).st r fun x m2 => (cc r m2).st r fun j m3 => match setI x j y m3 with
      | some m4 => .nx r m4
      | none => .fail) S E h) fun y H1 h1 => TE_mono (stb2 (k := fun y x r m2 => (cc r m2).st r fun j m3 => match setI x j y m3 with
      | some m4 => .nx r m4
      | none => .fail) h1) fun x H2 ⟨i, r, m, v, u, S, E, q1, q2, h⟩ => ?_
  dsimp only at h
  refine ⟨i, r, m, S, E, ?_⟩
  cases e : cc r m with
  | fail => rw [e] at h; exact h
  | ex c fs m1 => rw [e] at h; exact fun i' H' cls d e1 S1 q => h i' H' σ cls d e1 S1 (E.ext e1) q
  | ok w m1 =>
    rw [e] at h
    dsimp only [R.st] at h
    intro i' H' j e1 S1 q3
    cases e2 : setI u w v m1 with
    | none => rw [e2] at h; exact h.elim
    | some m4 =>
      rw [e2] at h
      exact setI_at S1 (q2.ext e1) q3 (q1.ext e1) e2 fun H2 e3 S2 => h i' H2 σ (e1.trans e3) S2 ((E.ext e1).ext e3)
/-- name += or -= a number -/
theorem ss_aug {op : Operator} {g : Int → Int → Int} (hop : OpR X (inplaceOp op) (rI0 fun i j => .int (g i j))) (hN : X.N.Nodup) (hi : X.N[k]? = some x) (hx : Loc X.env.scope x) (hf : X.fn x = true ∨ X.env.scope.names.lookup x = some .local) (ha : SE X D ea ca) :
    SS X D (.AugAssign (.Name x pos') op ea pos) (fun r m => match r[k]? with
      | some (.val v) => (ca r m).st r fun y m1 => match v, y with
        | .int a, .int b => .nx (r.set k (.val (.int (g a b)))) m1
        | _, _ => .fail
      | _ => .fail) := by
  refine SS.of (t := fun W => tAug k (tE X D W ca) (rI0 fun i j => .int (g i j))) (fun W tk => ps_aug hN hi hx (ha W tk) hop hf) fun W En σ H ⟨i, r, m, S, E, h⟩ => ?_
  dsimp only at h
  cases e : r[k]? with
  | none => rw [e] at h; exact h.elim
  | some s =>
    rw [e] at h
    cases s with
    | no => exact h.elim
    | exn c fs => exact h.elim
    | val v =>
      dsimp only at h
      obtain ⟨o, h1, u, h2, h3⟩ := E.2 k _ e
      subst h2
      refine ⟨u, h1, ?_⟩
      refine ⟨i, r, m, S, E, ?_⟩
      cases e1 : ca r m with
      | fail => rw [e1] at h; exact h
      | ex c fs m1 => rw [e1] at h; exact fun i' H' cls d e1 S1 q => h i' H' σ cls d e1 S1 (E.ext e1) q
      | ok w m1 =>
        rw [e1] at h
        dsimp only [R.st] at h
        intro i' H' y e2 S1 q3
        have q1 := h3.ext e2
        split at h
        · rename_i a b
          cases q1
          cases q3
          exact ⟨a, b, rfl, rfl, h i' H' _ e2 S1 ((E.ext e2).set ⟨_, rfl, .int _⟩)⟩
        · exact h.elim
end
end U
end Part_U14

section Part_U15
set_option Elab.async false
set_option linter.all false
set_option maxRecDepth 100000
set_option maxHeartbeats 4000000
/-! U15: several names at once. -/
namespace U
open PySem PySem.Spec PyProof.Rows L2
def setσ (σ : L2.St) : List Nat → List V → L2.St
  | k :: ks, v :: vs => setσ (σ.set k (some v)) ks vs
  | _, _ => σ
def gNames (ks : List Nat) : TGs := fun vs σ H Q => vs.length = ks.length ∧ Q (setσ σ ks vs) H
/-- targets that are names of the frame -/
inductive NameL (X : Cx) : List Expr → List Nat → Prop
  | nil : NameL X [] []
  | cons {k : Nat} {x : Str} {p : Pos} {es : List Expr} {ks : List Nat} : X.N[k]? = some x → Loc X.env.scope x → (X.fn x = true ∨ X.env.scope.names.lookup x = some .local) → NameL X es ks → NameL X (.Name x p :: es) (k :: ks)
section
variable {X : Cx} {D : Dat}
theorem NameL.len {es : List Expr} {ks : List Nat} (h : NameL X es ks) : (assignEach es X.env).length = ks.length := by
  induction h with
  | nil => rfl
  | cons _ _ _ _ ih => exact congrArg Nat.succ ih
theorem NameL.nost {es : List Expr} {ks : List Nat} (h : NameL X es ks) : (assignEach es X.env).findIdx? (·.1) = none := by
  induction h with
  | nil => rfl
  | @cons k x p es ks _ _ _ _ ih =>
    show List.findIdx? (·.1) ((false, assign (.Name x p) X.env) :: assignEach es X.env) = none
    rw [List.findIdx?_cons]
    simp [ih]
theorem NameL.pgs (hN : X.N.Nodup) {es : List Expr} {ks : List Nat} (h : NameL X es ks) : PGs X es (gNames ks) := by
  induction h with
  | nil => exact ⟨fun pins s σ H vs us Q I r ⟨hl, q⟩ => pgs_nil.run pins s σ H vs us Q I r ⟨List.length_eq_zero_iff.mp hl, by
      rw [List.length_eq_zero_iff.mp hl] at q; exact q⟩⟩
  | @cons k x p es ks h1 h2 h3 _ ih =>
    refine ⟨fun pins s σ H vs us Q I r ⟨hl, q⟩ => (pgs_cons (pg_name hN h1 h2 h3) ih).run pins s σ H vs us Q I r ?_⟩
    cases vs with
    | nil => simp at hl
    | cons v vs => exact ⟨v, vs, rfl, by simpa using hl, q⟩
theorem RE.setAll {i : List Addr} {H : Hp} : ∀ {ks : List Nat} {r r' : Env} {σ : L2.St} {vs : List V} {xs : List MV}, RE X D i H r σ → RVs D i H vs xs → U.setAll r ks xs = some r' → vs.length = ks.length ∧ RE X D i H r' (setσ σ ks vs)
  | [], r, r', σ, _, _, E, .nil, h => by cases h; exact ⟨rfl, E⟩
  | k :: ks, r, r', σ, _, _, E, .cons (v := v) q t, h => by
    have h' : U.setAll (r.set k (.val _)) ks _ = some r' := h
    obtain ⟨h1, h2⟩ := RE.setAll (E.set (k := k) (s := .val _) (o := some v) ⟨v, rfl, q⟩) t h'
    exact ⟨congrArg Nat.succ h1, h2⟩
def gTupE (ks : List Nat) (v : MV) (r : Env) : Option Env := match v with
  | .tup xs => setAll r ks xs
  | _ => none
theorem sg_tup {es : List Expr} {ks : List Nat} {kk : Nat} {p : Pos} (hK : X.K = D.K) (hc : X.calm = true) (hN : X.N.Nodup) (h : NameL X es ks) : SG X D (.Tuple es kk p) (gTupE ks) := by
  refine ⟨gTup X.K ks.length (gNames ks), pg_tup hc (h.pgs hN) h.len h.nost, fun i H v x r r' σ m Q S E q e hq => ?_⟩
  unfold gTupE at e
  cases q with
  | @tup a vs xs h1 h2 =>
    obtain ⟨h3, h4⟩ := E.setAll h2 e
    rw [hK]
    exact ⟨a, vs, rfl, h1, h3, h3, hq _ h4⟩
  | _ => cases e
/-- target = value, any target -/
theorem ss_asg {tg ea : Expr} {ca : Env → M MV} {g : MV → Env → Option Env} {pos : Pos} (hg : SG X D tg g) (hn : noLc ea = true) (hw : swappedStores [tg] ea X.env = pure none) (h1 : (assignEach [tg] X.env).map (·.2) = [assign tg X.env]) (ha : SE X D ea ca) :
    SS X D (.Assign [tg] ea pos) (fun r m => (ca r m).st r fun v m1 => match g v r with
      | some r' => .nx r' m1
      | none => .fail) := by
  obtain ⟨t, hg, hgt⟩ := hg
  refine SS.of (t := fun W => tAsg (tE X D W ca) t) (fun W tk => ps_asg (ha W tk) hg (sws_no hn) hw h1) fun W En σ H ⟨i, r, m, S, E, h⟩ => ?_
  refine TE_mono (stb1 (k := fun v r m1 => match g v r with
      | some r' => .nx r' m1
      | none => .fail) S E h) fun y H1 ⟨i, r, m, v, S, E, q, h⟩ => ?_
  dsimp only at h
  cases e : g v r with
  | none => rw [e] at h; exact h.elim
  | some r' =>
    rw [e] at h
    exact hgt i H1 v y r r' σ m _ S E q e fun σ' E' => h i H1 σ' Ext.refl S E'
/-- the compiler's way with (a, b) = (x, y) -/
def swRes (sc : Scope) (ts vs : List Expr) : Option (Option (List Str)) :=
  if !(ts.length == 2 || ts.length == 3) || vs.length != ts.length then some none else
  if vs.any fun | .Starred .. => true | _ => false then some none else
  let line := (ts.head?.map (·.pos.line)).getD 0
  let names := ts.filterMap fun
    | .Name id pos => if sc.names.lookup id == some .local && pos.line == line then some id else none
    | _ => none
  if names.length != ts.length || names.eraseDups.length != names.length then some none else
  if vs.all (foldedForSure 8) then some none else
  if vs.all (constantsAlone 8) then none else some (some names)
theorem swRes_ok {ts vs : List Expr} {k k2 : Nat} {p p2 : Pos} {o : Option (List Str)} (hk : X.env.scope.kind = .function) (h : swRes X.env.scope ts vs = some o) : swappedStores [.Tuple ts k p] (.Tuple vs k2 p2) X.env = pure o := by
  have hb : X.env.blockKind = .function := by unfold Env.blockKind; rw [hk]; rfl
  have hb2 : (X.env.blockKind != .function) = false := by rw [hb]; rfl
  unfold swappedStores
  dsimp only
  rw [hb2, Bool.or_false]
  unfold swRes at h
  unfold Env.kindOf
  by_cases c1 : (!(ts.length == 2 || ts.length == 3) || vs.length != ts.length) = true
  · rw [if_pos c1] at h ⊢
    cases h
    rfl
  · rw [if_neg c1] at h ⊢
    by_cases c2 : (vs.any fun | .Starred .. => true | _ => false) = true
    · rw [if_pos c2] at h
      erw [if_pos c2]
      cases h
      rfl
    · rw [if_neg c2] at h
      erw [if_neg c2]
      dsimp only at h ⊢
      split at h
      · rename_i c3
        erw [if_pos c3]
        cases h
        rfl
      · rename_i c3
        erw [if_neg c3]
        split at h
        · rename_i c4
          erw [if_pos c4]
          cases h
          rfl
        · rename_i c4
          erw [if_neg c4]
          split at h
          · cases h
          · rename_i c5
            erw [if_neg c5]
            cases h
            rfl
theorem ss_par {ea eb : Expr} {cl : Env → M (List MV)} {x y : Str} {j k : Nat} {px py pt pt2 pos : Pos} {kt k2 : Nat} (hc : X.calm = true) (hN : X.N.Nodup) (hj : X.N[j]? = some x) (hk : X.N[k]? = some y) (hjk : j ≠ k) (hx : X.env.scope.names.lookup x = some .local) (hy : X.env.scope.names.lookup y = some .local)
    (hw : swappedStores [.Tuple [.Name x px, .Name y py] kt pt] (.Tuple [ea, eb] k2 pt2) X.env = pure (some [x, y])) (ha : SL X D [ea, eb] cl) :
    SS X D (.Assign [.Tuple [.Name x px, .Name y py] kt pt] (.Tuple [ea, eb] k2 pt2) pos) (fun r m => ((cl r m).bind fun vs m1 => lift (mkTup vs m1)).st r fun v m1 => match gTupE [j, k] v r with
      | some r' => .nx r' m1
      | none => .fail) := by
  refine SS.of (t := fun W => tPar j k (tL X D W cl)) (fun W tk => ps_par hc hN hj hk hjk hx hy (ha W tk) hw) fun W En σ H ⟨i, r, m, S, E, h⟩ => ?_
  refine ⟨i, r, m, S, E, ?_⟩
  dsimp only at h
  cases e : cl r m with
  | fail => rw [e] at h; exact h
  | ex c fs m1 => rw [e] at h; exact fun i' H' cls d e1 S1 q => h i' H' σ cls d e1 S1 (E.ext e1) q
  | ok us m1 =>
    rw [e] at h
    dsimp only [R.bind, R.st] at h
    intro i' H' vs e1 S1 q
    cases e3 : mkTup us m1 with
    | none => rw [e3] at h; exact h.elim
    | some pr =>
      rw [e3] at h
      unfold mkTup at e3
      split at e3
      · cases e3
        dsimp only [U.lift] at h
        cases e2 : setAll r [j, k] us with
        | none =>
          rw [show gTupE [j, k] (.tup us) r = none from e2] at h
          exact h.elim
        | some r' =>
          rw [show gTupE [j, k] (.tup us) r = some r' from e2] at h
          obtain ⟨h1, h2⟩ := (E.ext e1).setAll q e2
          match vs, h1 with
          | [v, w], _ => exact ⟨v, w, rfl, h i' H' _ e1 S1 h2⟩
      · cases e3
end
end U
end Part_U15

section Part_U16
set_option Elab.async false
set_option linter.all false
set_option maxRecDepth 100000
set_option maxHeartbeats 4000000
/-! U16: from the text to the layer's expressions. -/
namespace U
open PySem PySem.Spec PyProof.Rows L2

/-! ### tests of chains -/
section
variable {X : Cx} {D : Dat} {ea eb ec : Expr} {ca cb cc : Env → M MV} {pos : Pos}
theorem bl_reads {W : WX} {σ : L2.St} {H : Hp} {Q : Bool → Hp → Prop} {i : List Addr} {a : R MV} (hb : ∀ v m', a = .ok v m' → ∃ k, v = .bl k) (h : Pst D W σ (fun (_ : List Addr) (_ : Hp) (b : Bool) (v : Bool) => b = v) Q i H (a.bind fun x m1 => onTru m1 x fun b => .ok b m1)) :
    Pst D W σ (RV D) (fun z H' => ∃ k, z = .bl k ∧ Q k H') i H a := by
  cases a with
  | ok v m1 =>
    obtain ⟨k, rfl⟩ := hb v m1 rfl
    exact fun i' H' x e S q => by
      cases q
      exact ⟨k, rfl, h i' H' k e S rfl⟩
  | ex c fs m1 => exact h
  | fail => exact h
theorem st_chain {o p : CmpOp} (hK : X.K = D.K) (hu : X.A.units + 1100 < cLine) (hm : lastMarks [o, p] [eb, ec] = false) (ha : SE X D ea ca) (hb : SE X D eb cb) (hc : SE X D ec cc) : ST X D (.Compare ea [o, p] [eb, ec] pos)
    (fun r m => (ca r m).bind fun x m1 => (cb r m1).bind fun y m2 => (lift (cmpop o x y m2)).bind fun z m3 => onTru m3 z fun b => if b = true then (cc r m3).bind fun u m4 => lift (cmpop p y u m4) else .ok (.bl false) m3) := by
  intro W tk
  refine U.PT.imp (pt_chain (or_cmp hK hu o) (or_cmp hK hu p) (ha W tk) (hb W tk) (hc W tk) hm) fun σ H Q ⟨i, r, m, S, E, h⟩ => chain_reads S E (bl_reads ?_ h)
  intro v m' e
  cases e1 : ca r m with
  | fail => rw [e1] at e; cases e
  | ex c fs m1 => rw [e1] at e; cases e
  | ok x m1 =>
    rw [e1] at e
    dsimp only [R.bind] at e
    cases e2 : cb r m1 with
    | fail => rw [e2] at e; cases e
    | ex c fs m1 => rw [e2] at e; cases e
    | ok y m2 =>
      rw [e2] at e
      dsimp only [R.bind] at e
      cases e3 : cmpop o x y m2 with
      | none => rw [e3] at e; cases e
      | some pr =>
        obtain ⟨k, rfl⟩ := cmpop_bl e3
        rw [e3] at e
        dsimp only [U.lift, R.bind] at e
        rw [onTru_bl] at e
        cases k with
        | false => cases e; exact ⟨false, rfl⟩
        | true =>
          rw [if_pos rfl] at e
          cases e4 : cc r m2 with
          | fail => rw [e4] at e; cases e
          | ex c fs m1 => rw [e4] at e; cases e
          | ok u m4 =>
            rw [e4] at e
            dsimp only [R.bind] at e
            cases e5 : cmpop p y u m4 with
            | none => rw [e5] at e; cases e
            | some pr =>
              obtain ⟨k2, rfl⟩ := cmpop_bl e5
              rw [e5] at e
              cases e
              exact ⟨k2, rfl⟩
end

/-! ### names -/
def ixOf : List Str → Str → Option Nat
  | [], _ => none
  | y :: ys, x => if y = x then some 0 else (ixOf ys x).map (· + 1)
theorem ixOf_at : ∀ {l : List Str} {x : Str} {k : Nat}, ixOf l x = some k → l[k]? = some x
  | [], _, _, h => by cases h
  | y :: ys, x, k, h => by
    unfold ixOf at h
    split at h
    · rename_i e
      cases h
      rw [e]
      rfl
    · cases e : ixOf ys x with
      | none => rw [e] at h; cases h
      | some j =>
        rw [e] at h
        cases h
        show (y :: ys)[j + 1]? = some x
        rw [List.getElem?_cons_succ]
        exact ixOf_at e
def visB (sc : Scope) (x : Str) : Bool := decide (sc.names.lookup x = some .local) || (decide (sc.names.lookup x = some .cell) || decide (sc.names.lookup x = some .free))
theorem visB_ok {sc : Scope} {x : Str} (h : visB sc x = true) : Vis sc x := by
  simpa [visB, Vis] using h
def locB (sc : Scope) (x : Str) : Bool := decide (sc.names.lookup x = some .local) || decide (sc.names.lookup x = some .cell)
theorem locB_ok {sc : Scope} {x : Str} (h : locB sc x = true) : L2.Loc sc x := by
  simpa [locB, L2.Loc] using h
def glB (sc : Scope) (x : Str) : Bool := decide (sc.names.lookup x = some .globalImplicit) && !(x == ("__debug__" : Str))
def okN (x : Str) : Bool := !(x == ("__debug__" : Str)) && !(x == ("__classdict__" : Str))
def blkB (N : List Str) (sc scope : Scope) (x : Str) (k : Nat) : Bool :=
  decide (scope.kind = .function) && (scope.names.all (fun y => decide (scope.names.lookup y.1 = some y.2)) && (decide (N[k]? = some x) && (scope.names.all (fun y => decide (y.2 ≠ .free) || (decide (sc.names.lookup y.1 = some .cell) || decide (sc.names.lookup y.1 = some .free))) &&
    scope.names.all fun y => !(decide (y.2 = .local) || decide (y.2 = .cell)) || (decide (y.1 = x) || !N.any fun z => decide (z = y.1)))))
theorem blkB_ok {N : List Str} {sc scope : Scope} {x : Str} {k : Nat} (h : blkB N sc scope x k = true) : BlkOk N sc scope [(x, k)] := by
  unfold blkB at h
  simp only [Bool.and_eq_true, decide_eq_true_eq, List.all_eq_true, Bool.or_eq_true] at h
  obtain ⟨h1, h2, h3, h4, h5⟩ := h
  refine ⟨h1, h2, fun p hp => ?_, fun y hy e => ?_, fun y hy e => ?_⟩
  · simp only [List.mem_singleton] at hp
    subst hp
    exact h3
  · rcases h4 y hy with z | z
    · exact absurd e z
    · exact z
  · rcases h5 y hy with z | z | z
    · exfalso
      rcases e with e | e
      · simp [e] at z
      · simp [e] at z
    · exact .inl (by simp [z])
    · refine .inr fun hm => ?_
      have : (N.any fun z => decide (z = y.1)) = true := List.any_eq_true.mpr ⟨y.1, hm, by simp⟩
      rw [this] at z
      cases z

/-! ### the program's names -/
structure Prg where
  fns : List Str
  cls : List Str
  con : List Str
  fld : List Str
  mth : List Str
  sh : List (Nat × Nat × List Str × List Nat)
  shN : List (Nat × Nat × List Str × List Nat)
  shM : List (Nat × Nat × List Str × List Nat)
  new0 : List Nat
def Prg.fldN (P : Prg) (k : Nat) : Str := (P.fld[k]?).getD Str.empty
def shOf (l : List (Nat × Nat × List Str × List Nat)) (f n : Nat) (ks : List Str) : Option (List Nat) := (l.find? fun q => decide (q.1 = f) && (decide (q.2.1 = n) && decide (q.2.2.1 = ks))).map (·.2.2.2)
theorem shOf_mem {l : List (Nat × Nat × List Str × List Nat)} {f n : Nat} {ks : List Str} {ix : List Nat} (h : shOf l f n ks = some ix) : (f, n, ks, ix) ∈ l := by
  unfold shOf at h
  cases e : l.find? (fun q => decide (q.1 = f) && (decide (q.2.1 = n) && decide (q.2.2.1 = ks))) with
  | none => rw [e] at h; cases h
  | some q =>
    rw [e] at h
    have h1 := List.find?_some e
    have h2 := List.mem_of_find?_eq_some e
    simp only [Bool.and_eq_true, decide_eq_true_eq] at h1
    obtain ⟨a, b, c, d⟩ := q
    obtain ⟨h3, h4, h5⟩ := h1
    dsimp only at h3 h4 h5
    subst h3 h4 h5
    cases h
    exact h2
/-- the built-in names that are read -/
def bltN : List Str := ["isinstance", "len", "abs", "repr", "sum", "all", "any", "str", "tuple", "list", "int", "range", "bool", "dict"]
structure POk (P : Prg) (X : Cx) (D : Dat) (n : Nat) (cf : CallF) : Prop where
  hK : X.K = D.K
  A : AOk P.fldN D
  kit : KitF D
  fn : ∀ f x, P.fns[f]? = some x → ∃ a fd ps, X.mg x = some (.ref a) ∧ PySem.W.keepIn X.K (.ref a) = true ∧ FnG X.prog X.w X.K X.mg X.base n a fd ps (spOf D ps.length (cf f)) ∧ ∀ k ks ix, (f, k, ks, ix) ∈ P.sh → BindF X D cf f fd ps 0 k ks ix
  cl : ∀ c x, P.cls[c]? = some x → X.mg x = some (.ref (D.ca c))
  nw : ∀ c x k ks ix, P.cls[c]? = some x → (c, k, ks, ix) ∈ P.shN → NewF X D n cf c k ks ix
  nw0 : ∀ c x, P.cls[c]? = some x → c ∈ P.new0 → Mk0 X.K (D.ca c) ∧ D.T.init c = none
  mt : ∀ mm x k ks ix, P.mth[mm]? = some x → (mm, k, ks, ix) ∈ P.shM → MethF X D n cf mm x k ks ix
  cn : ∀ k x, P.con[k]? = some x → ∃ v u, X.mg x = some u ∧ RelV v u ∧ ∀ i H, RV D i H v (D.T.con k)
  bl : ∀ x, x ∈ bltN → X.mg x = none
section
variable {X X' : Cx} {D : Dat} {n : Nat} {cf : CallF}
theorem BindF.move {f : Nat} {fd : FuncData} {ps : List Str} {h k : Nat} {ks : List Str} {ix : List Nat} (hK : X'.K = X.K) (B : BindF X D cf f fd ps h k ks ix) : BindF X' D cf f fd ps h k ks ix := ⟨by rw [hK]; exact B.ex⟩
/-- another context of the same program -/
structure Same (X X' : Cx) : Prop where
  p : X'.prog = X.prog
  w : X'.w = X.w
  K : X'.K = X.K
  m : X'.mg = X.mg
  b : X'.base = X.base
theorem POk.move {P : Prg} (s : Same X X') (h : POk P X D n cf) : POk P X' D n cf where
  hK := s.K.trans h.hK
  A := h.A
  kit := h.kit
  fn := fun f x e => by
    obtain ⟨a, fd, ps, h1, h2, h3, h4⟩ := h.fn f x e
    refine ⟨a, fd, ps, by rw [s.m]; exact h1, by rw [s.K]; exact h2, by rw [s.p, s.w, s.K, s.m, s.b]; exact h3, fun k ks ix hm => (h4 k ks ix hm).move s.K⟩
  cl := fun c x e => by rw [s.m]; exact h.cl c x e
  nw := fun c x k ks ix e hm => by
    obtain ⟨h1, f, a, fd, ps, h2, h3, h4, h5⟩ := h.nw c x k ks ix e hm
    exact ⟨h1, f, a, fd, ps, h2, by rw [s.p, s.w, s.K, s.m, s.b]; exact h3, h4.move s.K, by rw [s.K]; exact h5⟩
  nw0 := fun c x e hm => by rw [s.K]; exact h.nw0 c x e hm
  mt := fun mm x k ks ix e hm => ⟨fun c f ef => by
    obtain ⟨a, fd, ps, h1, h2, h3, h4, h5⟩ := (h.mt mm x k ks ix e hm).at_ c f ef
    exact ⟨a, fd, ps, by rw [s.p, s.w, s.K, s.m, s.b]; exact h1, h2.move s.K, by rw [s.K]; exact h3, by rw [s.K]; exact h4, h5⟩⟩
  cn := fun k x e => by rw [s.m]; exact h.cn k x e
  bl := fun x e => by rw [s.m]; exact h.bl x e
end
/-- a context that is not within an except suite -/
structure EC (P : Prg) (X : Cx) (D : Dat) (n : Nat) (cf : CallF) (N : List Str) (sc : Scope) : Prop where
  hP : POk P X D n cf
  hN : X.N = N
  nd : N.Nodup
  hs : X.env.scope = sc
  calm : X.calm = true
  room : RoomB n X.A
section
variable {P : Prg} {X : Cx} {D : Dat} {n : Nat} {cf : CallF} {N : List Str} {sc : Scope}
theorem EC.gl (h : EC P X D n cf N sc) {x : Str} (hx : glB sc x = true) : Gl X x ∧ (x == ("__debug__" : Str)) = false := by
  unfold glB at hx
  rw [Bool.and_eq_true, decide_eq_true_eq] at hx
  refine ⟨?_, by simpa using hx.2⟩
  show X.env.scope.names.lookup x = _
  rw [h.hs]
  exact hx.1
theorem EC.blk (h : EC P X D n cf N sc) (s : Shared) (H : Hp) (scope : Scope) (cl : List (Str × Addr)) (C : Addr) (fp : List Addr) : EC P (blkX X s H scope cl C fp) D n cf N (relS scope sc) :=
  ⟨POk.move (X := X) ⟨rfl, rfl, rfl, rfl, rfl⟩ h.hP, h.hN, h.nd, by rw [← h.hs]; rfl, h.calm, h.room⟩

/-! ### expressions -/
def exprs (f : Expr → Option CE) : List Expr → Option (List CE)
  | [] => some []
  | e :: es => if plainE e then match f e, exprs f es with
      | some c, some cs => some (c :: cs)
      | _, _ => none
    else none
def kwds (f : Expr → Option CE) : List Keyword → Option (List CE)
  | [] => some []
  | k :: ks => if k.arg.isSome then match f k.value, kwds f ks with
      | some c, some cs => some (c :: cs)
      | _, _ => none
    else none
variable {T : Tab} {f : Expr → Option CE}
theorem evL_len : ∀ {cs : List CE} {r : Env} {m : Mem} {vs : List MV} {m' : Mem}, evL T cf cs r m = .ok vs m' → vs.length = cs.length
  | [], r, m, vs, m', h => by
    unfold evL at h
    cases h
    rfl
  | c :: cs, r, m, vs, m', h => by
    unfold evL at h
    cases e : evE T cf c r m with
    | fail => rw [e] at h; cases h
    | ex d fs m1 => rw [e] at h; cases h
    | ok v m1 =>
      rw [e] at h
      dsimp only [R.bind] at h
      cases e2 : evL T cf cs r m1 with
      | fail => rw [e2] at h; cases h
      | ex d fs m1 => rw [e2] at h; cases h
      | ok us m2 =>
        rw [e2] at h
        cases h
        exact congrArg Nat.succ (evL_len e2)
theorem evL_nil {r : Env} {m : Mem} : evL T cf [] r m = .ok [] m := by rw [evL]
theorem evL_cons {c : CE} {cs : List CE} {r : Env} {m : Mem} : evL T cf (c :: cs) r m = (evE T cf c r m).bind fun v m1 => (evL T cf cs r m1).bind fun vs m2 => .ok (v :: vs) m2 := by rw [evL]
theorem evL_append : ∀ {as bs : List CE} {r : Env} {m : Mem}, evL T cf (as ++ bs) r m = both (evL T cf as) (evL T cf bs) r m
  | [], bs, r, m => by
    show evL T cf bs r m = (evL T cf [] r m).bind fun us m1 => (evL T cf bs r m1).bind fun ws m2 => .ok (us ++ ws) m2
    rw [evL_nil, bind_ok]
    cases evL T cf bs r m <;> rfl
  | a :: as, bs, r, m => by
    show evL T cf (a :: (as ++ bs)) r m = (evL T cf (a :: as) r m).bind fun us m1 => (evL T cf bs r m1).bind fun ws m2 => .ok (us ++ ws) m2
    rw [evL_cons, evL_cons]
    cases e : evE T cf a r m with
    | fail => rfl
    | ex d fs m1 => rfl
    | ok v m1 =>
      simp only [bind_ok]
      rw [evL_append]
      unfold both
      cases e2 : evL T cf as r m1 with
      | fail => rfl
      | ex d fs m1 => rfl
      | ok us m2 =>
        simp only [bind_ok]
        cases e3 : evL T cf bs r m2 <;> rfl
theorem exprs_ok (hf : ∀ e c, f e = some c → SE X D e (evE D.T cf c)) : ∀ {es : List Expr} {cs : List CE}, exprs f es = some cs → es.all plainE = true ∧ SL X D es (evL D.T cf cs) ∧ cs.length = es.length
  | [], cs, h => by
    cases h
    exact ⟨rfl, by simpa only [evL] using sl_nil, rfl⟩
  | e :: es, cs, h => by
    unfold exprs at h
    split at h
    · rename_i hp
      split at h
      · rename_i c cs' h1 h2
        cases h
        obtain ⟨a1, a2, a3⟩ := exprs_ok hf h2
        refine ⟨by rw [List.all_cons, hp, a1]; rfl, ?_, congrArg Nat.succ a3⟩
        have z := sl_cons (hf e c h1) a2 (star_cons hp)
        simpa only [evL] using z
      · cases h
    · cases h
theorem kwds_ok (hf : ∀ e c, f e = some c → SE X D e (evE D.T cf c)) : ∀ {ks : List Keyword} {cs : List CE}, kwds f ks = some cs → (ks.all fun k => k.arg.isSome) = true ∧ SK X D ks (evL D.T cf cs) ∧ cs.length = ks.length
  | [], cs, h => by
    cases h
    exact ⟨rfl, by simpa only [evL] using sk_nil, rfl⟩
  | ⟨nm, e, kp⟩ :: ks, cs, h => by
    unfold kwds at h
    split at h
    · rename_i hp
      split at h
      · rename_i c cs' h1 h2
        cases h
        obtain ⟨a1, a2, a3⟩ := kwds_ok hf h2
        refine ⟨by rw [List.all_cons, a1, Bool.and_true]; exact hp, ?_, congrArg Nat.succ a3⟩
        have z := sk_cons (nm := nm) (kpos := kp) (hf e c h1) a2
        simpa only [evL] using z
      · cases h
    · cases h
def boolC (f : Expr → Option CE) (op : BoolOp) : List Expr → Option CE
  | [] => none
  | [a] => f a
  | a :: b :: rest => match f a, boolC f op (b :: rest) with
    | some c, some d => some (match op with
      | .And => .and c d
      | .Or => .or c d)
    | _, _ => none
theorem boolC_ok {pos : Pos} {op : BoolOp} (hK : X.K = D.K) (hf : ∀ e c, f e = some c → SE X D e (evE D.T cf c) ∧ ST X D e (evE D.T cf c)) : ∀ {es : List Expr} {c : CE}, boolC f op es = some c → SE X D (.BoolOp op es pos) (evE D.T cf c) ∧ SW X D (.BoolOp op es pos) (evE D.T cf c)
  | [], c, h => by cases h
  | [a], c, h => by
    obtain ⟨h1, h2⟩ := hf a c h
    refine ⟨se_one h1, ?_⟩
    cases op with
    | And => exact sw_and1 h2
    | Or => exact sw_or1 h2
  | a :: b :: rest, c, h => by
    unfold boolC at h
    split at h
    · rename_i c1 d1 h1 h2
      cases h
      obtain ⟨a1, a2⟩ := hf a c1 h1
      obtain ⟨b1, b2⟩ := boolC_ok hK hf h2
      cases op with
      | And => exact ⟨by simpa only [evE] using se_and hK a1 b1, by simpa only [evE] using sw_and a2 b2⟩
      | Or => exact ⟨by simpa only [evE] using se_or hK a1 b1, by simpa only [evE] using sw_or a2 b2⟩
    · cases h
end
end U
end Part_U16

section Part_U17
set_option Elab.async false
set_option linter.all false
set_option maxRecDepth 100000
set_option maxHeartbeats 4000000
/-! U17: the text's expressions, compiled. -/
namespace U
open PySem PySem.Spec PyProof.Rows L2

def bfn (x : Str) : Option BF :=
  if x = "len" then some .len else if x = "abs" then some .abs else if x = "repr" then some .repr else if x = "sum" then some .sum else if x = "all" then some .all else if x = "any" then some .any else none
def bty (x : Str) : Option BF :=
  if x = "str" then some .str else if x = "tuple" then some .tuple else if x = "list" then some .list else if x = "int" then some .int else none
def bmn (x : Str) : Option BM :=
  if x = "append" then some .append else if x = "extend" then some .extend else if x = "join" then some .join else none
def tyn (x : Str) : Option Ty :=
  if x = "int" then some .int else if x = "bool" then some .bool else if x = "str" then some .str else if x = "tuple" then some .tup else if x = "list" then some .lst else if x = "dict" then some .dct else none
section
variable {P : Prg} {X : Cx} {D : Dat} {n : Nat} {cf : CallF} {N : List Str} {sc : Scope} {f : Expr → Option CE}
theorem bfn_ok (E : EC P X D n cf N sc) {x : Str} {b : BF} (h : bfn x = some b) : ∃ id, CallR X (.builtin id) (rBf D b) ∧ bootBuiltins x = some (.builtin id) ∧ x ≠ "__name__" ∧ X.mg x = none := by
  have hK := E.hP.hK
  unfold bfn at h
  split at h
  · rename_i e; subst e; cases h; exact ⟨"len", cr_len hK, by decide +kernel, by decide, E.hP.bl _ (by decide)⟩
  split at h
  · rename_i e; subst e; cases h; exact ⟨"abs", cr_abs, by decide +kernel, by decide, E.hP.bl _ (by decide)⟩
  split at h
  · rename_i e; subst e; cases h; exact ⟨"repr", cr_repr hK E.room.gd E.room.un', by decide +kernel, by decide, E.hP.bl _ (by decide)⟩
  split at h
  · rename_i e; subst e; cases h; exact ⟨"sum", cr_sum_ E.calm, by decide +kernel, by decide, E.hP.bl _ (by decide)⟩
  split at h
  · rename_i e; subst e; cases h; exact ⟨"all", cr_all_ E.calm, by decide +kernel, by decide, E.hP.bl _ (by decide)⟩
  split at h
  · rename_i e; subst e; cases h; exact ⟨"any", cr_any_ E.calm, by decide +kernel, by decide, E.hP.bl _ (by decide)⟩
  · cases h
theorem bty_ok (E : EC P X D n cf N sc) {x : Str} {b : BF} (h : bty x = some b) : ∃ id, CallR X (.type id) (rBf D b) ∧ bootBuiltins x = some (.type id) ∧ x ≠ "__name__" ∧ X.mg x = none := by
  have hK := E.hP.hK
  unfold bty at h
  split at h
  · rename_i e; subst e; cases h; exact ⟨"str", cr_str, by decide +kernel, by decide, E.hP.bl _ (by decide)⟩
  split at h
  · rename_i e; subst e; cases h; exact ⟨"tuple", cr_tuple hK, by decide +kernel, by decide, E.hP.bl _ (by decide)⟩
  split at h
  · rename_i e; subst e; cases h; exact ⟨"list", cr_list hK, by decide +kernel, by decide, E.hP.bl _ (by decide)⟩
  split at h
  · rename_i e; subst e; cases h; exact ⟨"int", cr_int, by decide +kernel, by decide, E.hP.bl _ (by decide)⟩
  · cases h
theorem bmn_ok (hK : X.K = D.K) {x : Str} {b : BM} (h : bmn x = some b) : ∃ id, PlainAttrs (bmTy b) ∧ Slot (bmTy b) x id ∧ typeOf (.builtin id) = pure (.type "method_descriptor") ∧ MtR X id (rBm D b) := by
  unfold bmn at h
  split at h
  · rename_i e; subst e; cases h; exact ⟨_, PySem.F.plainAttrs_list, PySem.F.slot_list_append, PySem.F.type_list_append, mr_append⟩
  split at h
  · rename_i e; subst e; cases h; exact ⟨_, PySem.F.plainAttrs_list, PySem.F.slot_list_extend, PySem.F.type_list_extend, mr_extend⟩
  split at h
  · rename_i e; subst e; cases h; exact ⟨_, PySem.F.plainAttrs_str, PySem.F.slot_str_join, PySem.F.type_str_join, mr_join hK⟩
  · cases h

/-! ### classes that are named -/
def tyOf (P : Prg) (sc : Scope) : Expr → Option Ty
  | .Name x _ => if glB sc x then match ixOf P.cls x with
      | some c => some (.own c)
      | none => tyn x
    else none
  | _ => none
def tysOf (P : Prg) (sc : Scope) : List Expr → Option (List Ty)
  | [] => some []
  | e :: es => match tyOf P sc e, tysOf P sc es with
    | some t, some ts => some (t :: ts)
    | _, _ => none
theorem tyOf_ok (E : EC P X D n cf N sc) {e : Expr} {t : Ty} (h : tyOf P sc e = some t) : TyE X D e t ∧ plainE e = true := by
  unfold tyOf at h
  split at h
  · rename_i x p
    split at h
    · rename_i hg
      obtain ⟨g1, g2⟩ := E.gl hg
      refine ⟨?_, rfl⟩
      split at h
      · rename_i c hc
        cases h
        exact ⟨.ref (D.ca c), pe_glob g1 (E.hP.cl c x (ixOf_at hc)) rfl g2, .own _⟩
      · have blt : ∀ {name : String}, bootBuiltins x = some (.type name) → x ≠ "__name__" → x ∈ bltN → PE X (.Name x p) (tC (.ty name)) := fun {name} h1 h2 h3 => pe_bltn g1 (E.hP.bl _ h3) h1 rfl h2 g2
        unfold tyn at h
        split at h
        · rename_i e; subst e; cases h; exact ⟨_, blt (name := "int") (by decide +kernel) (by decide) (by decide), .ty _⟩
        split at h
        · rename_i e; subst e; cases h; exact ⟨_, blt (name := "bool") (by decide +kernel) (by decide) (by decide), .ty _⟩
        split at h
        · rename_i e; subst e; cases h; exact ⟨_, blt (name := "str") (by decide +kernel) (by decide) (by decide), .ty _⟩
        split at h
        · rename_i e; subst e; cases h; exact ⟨_, blt (name := "tuple") (by decide +kernel) (by decide) (by decide), .ty _⟩
        split at h
        · rename_i e; subst e; cases h; exact ⟨_, blt (name := "list") (by decide +kernel) (by decide) (by decide), .ty _⟩
        split at h
        · rename_i e; subst e; cases h; exact ⟨_, blt (name := "dict") (by decide +kernel) (by decide) (by decide), .ty _⟩
        · cases h
    · cases h
  · cases h
theorem tysOf_ok (E : EC P X D n cf N sc) : ∀ {es : List Expr} {ts : List Ty}, tysOf P sc es = some ts → TyEs X D es ts
  | [], ts, h => by cases h; exact .nil
  | e :: es, ts, h => by
    unfold tysOf at h
    split at h
    · rename_i t ts' h1 h2
      cases h
      obtain ⟨a1, a2⟩ := tyOf_ok E h1
      exact .cons a1 (fun env => star_cons a2) (tysOf_ok E h2)
    · cases h

/-! ### calls -/
def isiC (P : Prg) (sc : Scope) (f : Expr → Option CE) : List Expr → Option CE
  | [a, .Tuple es _ _] => match f a, tysOf P sc es with
    | some c, some ts => if plainE a && (decide (ts ≠ []) && decide (ts.length ≤ 1000)) then some (.isi c ts) else none
    | _, _ => none
  | [a, b] => match f a, tyOf P sc b with
    | some c, some t => if plainE a then some (.isi c [t]) else none
    | _, _ => none
  | _ => none
theorem st_of (hK : X.K = D.K) {e : Expr} {c : Env → M MV} (h : SE X D e c) (he : ∀ whole, isTrue e X.env whole = (do let v ← whole; standAt e.pos; holding [v] (truthy v))) : SE X D e c ∧ ST X D e c := ⟨h, st_plain hK h he⟩
theorem isiC_ok (E : EC P X D n cf N sc) (hg : glB sc "isinstance" = true) (hf : ∀ e c, f e = some c → SE X D e (evE D.T cf c)) {as : List Expr} {c : CE} {p pos : Pos} (h : isiC P sc f as = some c) : SE X D (.Call (.Name "isinstance" p) as [] pos) (evE D.T cf c) := by
  obtain ⟨g1, _⟩ := E.gl hg
  have hm := E.hP.bl "isinstance" (by decide)
  unfold isiC at h
  split at h
  · rename_i a es k pt
    split at h
    · rename_i c1 ts h1 h2
      split at h
      · rename_i hc
        cases h
        simp only [Bool.and_eq_true, decide_eq_true_eq] at hc
        have z := se_isiT (p := p) (pos := pos) (k := k) (pt := pt) E.hP.kit E.hP.hK g1 hm hc.1 (tysOf_ok E h2) hc.2.2 hc.2.1 (hf _ _ h1)
        simpa only [evE] using z
      · cases h
    · cases h
  · rename_i a b hne
    split at h
    · rename_i c1 t h1 h2
      split at h
      · rename_i hc
        cases h
        obtain ⟨t1, t2⟩ := tyOf_ok E h2
        have z := se_isi1 (p := p) (pos := pos) E.hP.kit E.hP.hK g1 hm hc t2 t1 (hf _ _ h1)
        simpa only [evE] using z
      · cases h
    · cases h
  · cases h
def nameC (P : Prg) (sc : Scope) (f : Expr → Option CE) (x : Str) (as : List Expr) (kws : List Keyword) : Option CE :=
  if glB sc x then match ixOf P.fns x with
    | some g => match exprs f as, kwds f kws, shOf P.sh g as.length (kws.filterMap (·.arg)) with
      | some cs, some ds, some ix => some (.call g ix (cs ++ ds))
      | _, _, _ => none
    | none => match ixOf P.cls x with
      | some c => if as.isEmpty && (kws.isEmpty && P.new0.contains c) then some (.new c [] []) else
        match exprs f as, kwds f kws, shOf P.shN c as.length (kws.filterMap (·.arg)) with
        | some cs, some ds, some ix => some (.new c ix (cs ++ ds))
        | _, _, _ => none
      | none => match kws with
        | [] => if x = "isinstance" then isiC P sc f as else match exprs f as with
          | some (c :: cs) => match bfn x with
            | some b => some (.blt b (c :: cs))
            | none => match bty x with
              | some b => some (.blt b (c :: cs))
              | none => none
          | _ => none
        | _ => none
  else none
theorem nameC_ok (E : EC P X D n cf N sc) (hf : ∀ e c, f e = some c → SE X D e (evE D.T cf c)) {x : Str} {as : List Expr} {kws : List Keyword} {c : CE} {p pos : Pos} (h : nameC P sc f x as kws = some c) : SE X D (.Call (.Name x p) as kws pos) (evE D.T cf c) := by
  unfold nameC at h
  split at h
  · rename_i hg
    obtain ⟨g1, g2⟩ := E.gl hg
    split at h
    · rename_i g eg
      split at h
      · rename_i cs ds ix h1 h2 h3
        cases h
        obtain ⟨a1, a2, a3⟩ := exprs_ok hf h1
        obtain ⟨b1, b2, b3⟩ := kwds_ok hf h2
        obtain ⟨a, fd, ps, f1, f2, f3, f4⟩ := E.hP.fn g x (ixOf_at eg)
        have z := se_call (p := p) (pos := pos) f3 (f4 _ _ _ (shOf_mem h3)) E.room.g g1 f1 f2 g2 a1 b1 a2 b2 (fun r m vs m' e => (evL_len e).trans a3) (fun r m vs m' e => (evL_len e).trans b3) (fun e r m => by
          subst e
          cases h1
          exact evL_nil)
        exact z.congr fun r m => by rw [evE, evL_append]
      · cases h
    · split at h
      · rename_i c eg
        split at h
        · rename_i he
          cases h
          simp only [Bool.and_eq_true, List.isEmpty_iff, List.contains_iff_mem] at he
          obtain ⟨e1, e2, e3⟩ := he
          subst e1 e2
          obtain ⟨m1, m2⟩ := E.hP.nw0 c x (ixOf_at eg) e3
          have z := se_new0 (p := p) (pos := pos) (cf := cf) (fun c => E.hP.A.len c) m1 m2 g1 (E.hP.cl c x (ixOf_at eg)) g2
          exact z.congr fun r m => by rw [evE, evL_nil, bind_ok]; rfl
        · split at h
          · rename_i cs ds ix h1 h2 h3
            cases h
            obtain ⟨a1, a2, a3⟩ := exprs_ok hf h1
            obtain ⟨b1, b2, b3⟩ := kwds_ok hf h2
            have z := se_new (p := p) (pos := pos) (E.hP.nw c x _ _ _ (ixOf_at eg) (shOf_mem h3)) E.room g1 (E.hP.cl c x (ixOf_at eg)) g2 a1 b1 a2 b2 (fun r m vs m' e => (evL_len e).trans a3) (fun r m vs m' e => (evL_len e).trans b3) (fun e r m => by
              subst e
              cases h1
              exact evL_nil)
            exact z.congr fun r m => by rw [evE, evL_append]
          · cases h
      · split at h
        · split at h
          · rename_i ex
            subst ex
            exact isiC_ok E hg hf h
          · split at h
            · rename_i c cs h1
              obtain ⟨a1, a2, a3⟩ := exprs_ok hf h1
              obtain ⟨e, es, rfl⟩ : ∃ e es, as = e :: es := by
                cases as with
                | nil => cases h1
                | cons e es => exact ⟨e, es, rfl⟩
              split at h
              · rename_i b hb
                cases h
                obtain ⟨id, c1, c2, c3, c4⟩ := bfn_ok E hb
                have z := se_blt (p := p) (pos := pos) c1 g1 c4 c2 c3 g2 a1 (fun r m vs m' e => (evL_len e).trans a3) a2
                exact z.congr fun r m => by rw [evE]
              · split at h
                · rename_i b hb
                  cases h
                  obtain ⟨id, c1, c2, c3, c4⟩ := bty_ok E hb
                  have z := se_bty (p := p) (pos := pos) c1 g1 c4 c2 c3 g2 a1 (fun r m vs m' e => (evL_len e).trans a3) a2
                  exact z.congr fun r m => by rw [evE]
                · cases h
            · cases h
        · cases h
  · cases h
def methC (P : Prg) (f : Expr → Option CE) (o : Expr) (name : Str) (apos : Pos) (as : List Expr) (kws : List Keyword) (pos : Pos) : Option CE :=
  if plainBase o && (apos.endLine == pos.line && decide (as.length + kws.length < 20)) then match f o with
    | none => none
    | some oc => match bmn name with
      | some b => match kws, exprs f as with
        | [], some (c :: cs) => some (.bm oc b (c :: cs))
        | _, _ => none
      | none => match ixOf P.mth name with
        | some mm => match exprs f as, kwds f kws, shOf P.shM mm as.length (kws.filterMap (·.arg)) with
          | some cs, some ds, some ix => some (.meth oc mm ix (cs ++ ds))
          | _, _, _ => none
        | none => none
  else none
theorem methC_ok (E : EC P X D n cf N sc) (hf : ∀ e c, f e = some c → SE X D e (evE D.T cf c)) {o : Expr} {name : Str} {as : List Expr} {kws : List Keyword} {c : CE} {apos pos : Pos} (h : methC P f o name apos as kws pos = some c) : SE X D (.Call (.Attribute o name apos) as kws pos) (evE D.T cf c) := by
  unfold methC at h
  split at h
  · rename_i hc
    simp only [Bool.and_eq_true, decide_eq_true_eq] at hc
    obtain ⟨hb, hl, hw⟩ := hc
    split at h
    · cases h
    · rename_i oc ho
      split at h
      · rename_i b hbm
        split at h
        · rename_i c cs h1
          cases h
          obtain ⟨a1, a2, a3⟩ := exprs_ok hf h1
          obtain ⟨e, es, rfl⟩ : ∃ e es, as = e :: es := by
            cases as with
            | nil => cases h1
            | cons e es => exact ⟨e, es, rfl⟩
          obtain ⟨id, d1, d2, d3, d4⟩ := bmn_ok E.hP.hK hbm
          have z := se_bm E.hP.hK d1 d2 d3 d4 hb hl a1 (by simpa using hw) (fun r m vs m' e => (evL_len e).trans a3) (hf _ _ ho) a2
          exact z.congr fun r m => by rw [evE]
        · cases h
      · split at h
        · rename_i mm hmm
          split at h
          · rename_i cs ds ix h1 h2 h3
            cases h
            obtain ⟨a1, a2, a3⟩ := exprs_ok hf h1
            obtain ⟨b1, b2, b3⟩ := kwds_ok hf h2
            have z := se_meth (E.hP.mt mm name _ _ _ (ixOf_at hmm) (shOf_mem h3)) E.room.g hb hl hw a1 b1 (hf _ _ ho) a2 b2 (fun r m vs m' e => (evL_len e).trans a3) (fun r m vs m' e => (evL_len e).trans b3) (fun e r m => by
              subst e
              cases h1
              exact evL_nil)
            exact z.congr fun r m => by
              rw [evE]
              simp only [evL_append]
          · cases h
        · cases h
  · cases h
end
end U
end Part_U17

section Part_U18
set_option Elab.async false
set_option linter.all false
set_option maxRecDepth 100000
set_option maxHeartbeats 4000000
/-! U18: all expressions, compiled. -/
namespace U
open PySem PySem.Spec PyProof.Rows L2
def optC (f : Expr → Option CE) : Option Expr → Option (List CE)
  | none => some []
  | some e => match f e with
    | some c => some [c]
    | none => none
def srcC (sc : Scope) (f : Expr → Option CE) : Expr → Option CI
  | .Call (.Name x p) as [] pos => if x = "range" then
      if glB sc x then match as with
        | [a] => if plainE a then (f a).map .rng1 else none
        | [a, b] => if plainE a && plainE b then match f a, f b with
          | some c, some d => some (.rng2 c d)
          | _, _ => none
          else none
        | _ => none
      else none
    else (f (.Call (.Name x p) as [] pos)).map .of
  | e => if plainE e then (f e).map .of else none
def lcX (N : List Str) (sc : Scope) (f : Scope → Expr → Option CE) (elt : Expr) (gs : List Comprehension) (scope : Scope) : Option CE := match gs with
  | [⟨.Name x _, iter, ifs, 0⟩] => match ixOf N x with
    | some k => if blkB N sc scope x k && (locB (relS scope sc) x && ((scope.names.lookup x == some .cell) || decide ((relS scope sc).names.lookup x = some .local)) && plainE iter) then
        match srcC sc (f sc) iter, f (relS scope sc) elt with
        | some src, some c => match ifs with
          | [] => some (.lc c k src [])
          | [i] => match f (relS scope sc) i with
            | some d => some (.lc c k src [d])
            | none => none
          | _ => none
        | _, _ => none
      else none
    | none => none
  | _ => none
def compE (P : Prg) (N : List Str) : Nat → Scope → Expr → Option CE
  | 0, _, _ => none
  | n + 1, sc, e => match e with
    | .Constant (.int i) _ _ => some (.int i)
    | .Constant (.bool b) _ _ => some (.bl b)
    | .Constant .none _ _ => some .non
    | .Constant (.str s) _ _ => some (.str s.cps.toList)
    | .Name x _ => match ixOf N x with
      | some k => if visB sc x && okN x then some (.var k) else none
      | none => if glB sc x then (ixOf P.con x).map .con else none
    | .BinOp a op b _ => match compE P N n sc a, compE P N n sc b with
      | some c, some d => some (.bin op c d)
      | _, _ => none
    | .UnaryOp .Not a _ => (compE P N n sc a).map .not
    | .UnaryOp .USub a _ => (compE P N n sc a).map .neg
    | .Compare a [op] [b] _ => if behindInMarks op b then none else match compE P N n sc a, compE P N n sc b with
      | some c, some d => some (.cmp op c d)
      | _, _ => none
    | .Compare a [o, p] [b, c] _ => if lastMarks [o, p] [b, c] then none else match compE P N n sc a, compE P N n sc b, compE P N n sc c with
      | some x, some y, some z => some (.chain o p x y z)
      | _, _, _ => none
    | .BoolOp op es _ => boolC (compE P N n sc) op es
    | .IfExp t a b _ => match compE P N n sc t, compE P N n sc a, compE P N n sc b with
      | some x, some y, some z => some (.ife x y z)
      | _, _, _ => none
    | .Call (.Name x _) as kws _ => nameC P sc (compE P N n sc) x as kws
    | .Call (.Attribute o name apos) as kws pos => methC P (compE P N n sc) o name apos as kws pos
    | .Attribute o name _ => if plainBase o then match compE P N n sc o, ixOf P.fld name with
      | some c, some k => some (.fld c k)
      | _, _ => none
      else none
    | .Subscript o (.Slice lo hi none _) _ => match compE P N n sc o, optC (compE P N n sc) lo, optC (compE P N n sc) hi with
      | some c, some l, some h => some (.slc c l h)
      | _, _, _ => none
    | .Subscript o (.Slice none none (some (.UnaryOp .USub (.Constant (.int 1) _ _) _)) _) _ => (compE P N n sc o).map .rev
    | .Subscript o i _ => if plainE i then match compE P N n sc o, compE P N n sc i with
      | some c, some d => some (.idx c d)
      | _, _ => none
      else none
    | .List es _ => (exprs (compE P N n sc) es).map .lst
    | .Tuple es _ _ => (exprs (compE P N n sc) es).map .tup
    | .ListComp elt gs scope _ => lcX N sc (compE P N n) elt gs scope
    | _ => none
section
variable {P : Prg} {X : Cx} {D : Dat} {n : Nat} {cf : CallF} {N : List Str} {sc : Scope}
theorem optC_ok {f : Expr → Option CE} (hf : ∀ e c, f e = some c → SE X D e (evE D.T cf c)) {o : Option Expr} {cs : List CE} (h : optC f o = some cs) : SO X D o (evL D.T cf cs) := by
  cases o with
  | none =>
    cases h
    have e : evL D.T cf [] = fun _ m => R.ok [] m := funext fun r => funext fun m => evL_nil
    rw [e]
    exact .non
  | some e =>
    unfold optC at h
    dsimp only at h
    split at h
    · rename_i c hc
      cases h
      have e2 : evL D.T cf [c] = fun r m => (evE D.T cf c r m).bind fun v m1 => (R.ok [] m1).bind fun vs m2 => .ok (v :: vs) m2 := funext fun r => funext fun m => by
        rw [evL_cons]
        simp only [evL_nil]
      rw [e2]
      exact .som (hf _ _ hc)
    · cases h
theorem SI.congr {tg it : Expr} {c c' : Env → M Walked} (h : SI X D tg it c) (hc : ∀ r m, c' r m = c r m) : SI X D tg it c' := by
  have e1 : c' = c := funext fun r => funext fun m => hc r m
  rw [e1]
  exact h
theorem srcC_ok {f : Expr → Option CE} (E : EC P X D n cf N sc) (hf : ∀ e c, f e = some c → SE X D e (evE D.T cf c)) {tg it : Expr} {ci : CI} (h : srcC sc f it = some ci) : SI X D tg it (evI D.T cf ci) := by
  have of_ : ∀ {e : Expr} {ci : CI}, (f e).map CI.of = some ci → SI X D tg e (evI D.T cf ci) := fun {e ci} h => by
    cases e1 : f e with
    | none => rw [e1] at h; cases h
    | some c =>
      rw [e1] at h
      cases h
      exact (si_of E.hP.hK (hf _ _ e1)).congr fun r m => by rw [evI]
  unfold srcC at h
  split at h
  · rename_i x p as pos
    split at h
    · rename_i ex
      subst ex
      split at h
      · rename_i hg
        obtain ⟨g1, _⟩ := E.gl hg
        have hm := E.hP.bl "range" (by decide)
        split at h
        · rename_i a
          split at h
          · rename_i hp
            cases e1 : f a with
            | none => rw [e1] at h; cases h
            | some c =>
              rw [e1] at h
              cases h
              exact (si_rng1 g1 hm hp (hf _ _ e1)).congr fun r m => by rw [evI]
          · cases h
        · rename_i a b
          split at h
          · rename_i hp
            rw [Bool.and_eq_true] at hp
            split at h
            · rename_i c d e1 e2
              cases h
              exact (si_rng2 g1 hm hp.1 hp.2 (hf _ _ e1) (hf _ _ e2)).congr fun r m => by rw [evI]
            · cases h
          · cases h
        · cases h
      · cases h
    · exact of_ h
  · split at h
    · exact of_ h
    · cases h
theorem folded_no {e : Expr} (h : plainE e = true) (env : PySem.Env) : ∀ x, foldedSetIterable e env x = pure x := by
  intro x
  cases e <;> first
    | rfl
    | cases h
/-- what a compiled comprehension is -/
structure LcP (X : Cx) (D : Dat) (cf : CallF) (elt : Expr) (gs : List Comprehension) (scope : Scope) (c : CE) : Prop where
  ex : ∃ (x : Str) (tp : Pos) (iter : Expr) (ifs : List Expr) (k : Nat) (ci : Env → M Walked) (ct ce : Env → M MV), gs = [⟨.Name x tp, iter, ifs, 0⟩] ∧ SI X D (.Name x tp) iter ci ∧ BlkOk X.N X.env.scope scope [(x, k)] ∧ X.N[k]? = some x ∧ L2.Loc (relS scope X.env.scope) x ∧
    ((scope.names.lookup x == some .cell) = true ∨ (relS scope X.env.scope).names.lookup x = some .local) ∧ (∀ s H C cl fp, STs (blkX X s H scope cl C fp) D ifs ct) ∧ (∀ s H C cl fp, SE (blkX X s H scope cl C fp) D elt ce) ∧ (∀ x, foldedSetIterable iter X.env x = pure x) ∧ ∀ r m, evE D.T cf c r m = lcC k ci ct ce r m
theorem lcX_ok {f : Scope → Expr → Option CE} (E : EC P X D n cf N sc) (hf : ∀ sc e c X, EC P X D n cf N sc → f sc e = some c → SE X D e (evE D.T cf c) ∧ ST X D e (evE D.T cf c)) {elt : Expr} {gs : List Comprehension} {scope : Scope} {c : CE} (h : lcX N sc f elt gs scope = some c) :
    LcP X D cf elt gs scope c := by
  unfold lcX at h
  split at h
  · rename_i x tp iter ifs
    split at h
    · rename_i k ek
      split at h
      · rename_i hc
        simp only [Bool.and_eq_true, Bool.or_eq_true, decide_eq_true_eq] at hc
        obtain ⟨h1, ⟨h2, h3⟩, h4⟩ := hc
        have ok : BlkOk X.N X.env.scope scope [(x, k)] := by rw [E.hN, E.hs]; exact blkB_ok h1
        have hk : X.N[k]? = some x := by rw [E.hN]; exact ixOf_at ek
        have hx : L2.Loc (relS scope X.env.scope) x := by rw [E.hs]; exact locB_ok h2
        have hfn : (scope.names.lookup x == some .cell) = true ∨ (relS scope X.env.scope).names.lookup x = some .local := by rw [E.hs]; exact h3
        have hB := fun s H C cl fp => E.blk s H scope cl C fp
        split at h
        · rename_i src c1 e1 e2
          have hi : SI X D (.Name x tp) iter (evI D.T cf src) := srcC_ok E (fun e c z => (hf sc e c X E z).1) e1
          have he : ∀ s H C cl fp, SE (blkX X s H scope cl C fp) D elt (evE D.T cf c1) := fun s H C cl fp => (hf _ _ _ _ (hB s H C cl fp) e2).1
          split at h
          · cases h
            exact ⟨x, tp, iter, _, k, _, _, _, rfl, hi, ok, hk, hx, hfn, fun s H C cl fp => sts_nil, he, folded_no h4 _, fun r m => by rw [evE]; rfl⟩
          · rename_i i
            split at h
            · rename_i d e3
              cases h
              exact ⟨x, tp, iter, _, k, _, _, _, rfl, hi, ok, hk, hx, hfn, fun s H C cl fp => sts_one takes_blk (hf _ _ _ _ (hB s H C cl fp) e3).2, he, folded_no h4 _, fun r m => by rw [evE]; rfl⟩
            · cases h
          · cases h
        · cases h
      · cases h
    · cases h
  · cases h
theorem lcP_se (E : EC P X D n cf N sc) {elt : Expr} {gs : List Comprehension} {scope : Scope} {pos : Pos} {c : CE} (h : LcP X D cf elt gs scope c) : SE X D (.ListComp elt gs scope pos) (evE D.T cf c) := by
  obtain ⟨x, tp, iter, ifs, k, ci, ct, ce, rfl, hi, ok, hk, hx, hfn, ht, he, hs, hc⟩ := h.ex
  exact (se_lc E.calm (by rw [E.hN]; exact E.nd) hi ok hk hx hfn ht he hs).congr hc
theorem se_int {i : Int} {j : Nat} {pos : Pos} : SE X D (.Constant (.int i) j pos) (evE D.T cf (.int i)) := (se_pure pe_int fun _ _ => .int i).congr fun r m => by rw [evE]
theorem compE_ok : ∀ (k : Nat) (sc : Scope) (e : Expr) (c : CE) (X : Cx), EC P X D n cf N sc → compE P N k sc e = some c → SE X D e (evE D.T cf c) ∧ ST X D e (evE D.T cf c)
  | 0, sc, e, c, X, E, h => by cases h
  | k + 1, sc, e, c, X, E, h => by
    have hK := E.hP.hK
    have hu := E.room.un'
    have ih := compE_ok k
    have hf : ∀ e c, compE P N k sc e = some c → SE X D e (evE D.T cf c) := fun e c z => (ih sc e c X E z).1
    unfold compE at h
    split at h
    · cases h
      exact st_of hK ((se_pure pe_int fun _ _ => .int _).congr fun r m => by rw [evE]) fun _ => rfl
    · cases h
      exact st_of hK ((se_pure pe_bl fun _ _ => .bl _).congr fun r m => by rw [evE]) fun _ => rfl
    · cases h
      exact st_of hK ((se_pure pe_non fun _ _ => .non).congr fun r m => by rw [evE]) fun _ => rfl
    · cases h
      exact st_of hK ((se_pure pe_str fun _ _ => .str _).congr fun r m => by rw [evE]) fun _ => rfl
    · rename_i x p
      split at h
      · rename_i j ej
        split at h
        · rename_i hc
          cases h
          rw [Bool.and_eq_true] at hc
          have h2 := hc.2
          unfold okN at h2
          simp only [Bool.and_eq_true, Bool.not_eq_true'] at h2
          have z := se_var (D := D) (pos := p) (show X.N[j]? = some x by rw [E.hN]; exact ixOf_at ej) (by rw [E.hs]; exact visB_ok hc.1) h2.1 h2.2
          exact st_of hK (z.congr fun r m => by rw [evE]) fun _ => rfl
        · cases h
      · split at h
        · rename_i hg
          cases ej : ixOf P.con x with
          | none => rw [ej] at h; cases h
          | some j =>
            rw [ej] at h
            cases h
            obtain ⟨g1, g2⟩ := E.gl hg
            obtain ⟨v, u, h1, h2, h3⟩ := E.hP.cn j x (ixOf_at ej)
            exact st_of hK ((se_pure (pe_glob g1 h1 h2 g2) h3).congr fun r m => by rw [evE]) fun _ => rfl
        · cases h
    · split at h
      · rename_i c1 d1 h1 h2
        cases h
        exact st_of hK ((se_bin hK (hf _ _ h1) (hf _ _ h2)).congr fun r m => by rw [evE]) fun _ => rfl
      · cases h
    · rename_i a p
      cases e1 : compE P N k sc a with
      | none => rw [e1] at h; cases h
      | some c1 =>
        rw [e1] at h
        cases h
        obtain ⟨a1, a2⟩ := ih sc a c1 X E e1
        exact ⟨(se_not hK a1).congr fun r m => by rw [evE], (st_not a2).congr fun r m => by rw [evE]⟩
    · rename_i a p
      cases e1 : compE P N k sc a with
      | none => rw [e1] at h; cases h
      | some c1 =>
        rw [e1] at h
        cases h
        exact st_of hK ((se_neg (hf _ _ e1)).congr fun r m => by rw [evE]) fun _ => rfl
    · split at h
      · cases h
      · rename_i hm
        split at h
        · rename_i c1 d1 h1 h2
          cases h
          have hm' := Bool.eq_false_iff.mpr hm
          exact ⟨(se_cmp hK hu hm' (hf _ _ h1) (hf _ _ h2)).congr fun r m => by rw [evE], (st_cmp hK hu hm' (hf _ _ h1) (hf _ _ h2)).congr fun r m => by rw [evE]⟩
        · cases h
    · split at h
      · cases h
      · rename_i hm
        split at h
        · rename_i x y z h1 h2 h3
          cases h
          have hm' := Bool.eq_false_iff.mpr hm
          exact ⟨(se_chain hK hu hm' (hf _ _ h1) (hf _ _ h2) (hf _ _ h3)).congr fun r m => by rw [evE], (st_chain hK hu hm' (hf _ _ h1) (hf _ _ h2) (hf _ _ h3)).congr fun r m => by rw [evE]⟩
        · cases h
    · obtain ⟨a1, a2⟩ := boolC_ok hK (fun e c z => ih sc e c X E z) h
      exact ⟨a1, a2.st⟩
    · split at h
      · rename_i x y z h1 h2 h3
        cases h
        obtain ⟨a1, a2⟩ := ih sc _ _ X E h1
        obtain ⟨b1, b2⟩ := ih sc _ _ X E h2
        obtain ⟨c1, c2⟩ := ih sc _ _ X E h3
        exact ⟨(se_ife a2 b1 c1).congr fun r m => by rw [evE], (st_ife a2 b2 c2).congr fun r m => by rw [evE]⟩
      · cases h
    · exact st_of hK (nameC_ok E hf h) fun _ => rfl
    · exact st_of hK (methC_ok E hf h) fun _ => rfl
    · rename_i o name p
      split at h
      · rename_i hb
        split at h
        · rename_i c1 j h1 h2
          cases h
          have e1 : P.fldN j = name := by
            unfold Prg.fldN
            rw [ixOf_at h2]
            rfl
          have z := se_fld (pos := p) (f := j) hK E.hP.A hb (hf _ _ h1)
          rw [e1] at z
          exact st_of hK (z.congr fun r m => by rw [evE]) fun _ => rfl
        · cases h
      · cases h
    · split at h
      · rename_i c1 l1 l2 h1 h2 h3
        cases h
        exact st_of hK ((se_slc hK (hf _ _ h1) (optC_ok hf h2) (optC_ok hf h3)).congr fun r m => by rw [evE]) fun _ => rfl
      · cases h
    · rename_i o k2 p1 p2 p3 p4
      cases e1 : compE P N k sc o with
      | none => rw [e1] at h; cases h
      | some c1 =>
        rw [e1] at h
        cases h
        exact st_of hK ((se_rev hK (hf _ _ e1)).congr fun r m => by rw [evE]) fun _ => rfl
    · split at h
      · rename_i hp
        split at h
        · rename_i c1 d1 h1 h2
          cases h
          exact st_of hK ((se_idx hK (plain_ix hp) (hf _ _ h1) (hf _ _ h2)).congr fun r m => by rw [evE]) fun _ => rfl
        · cases h
      · cases h
    · rename_i es p
      cases e1 : exprs (compE P N k sc) es with
      | none => rw [e1] at h; cases h
      | some cs =>
        rw [e1] at h
        cases h
        obtain ⟨a1, a2, a3⟩ := exprs_ok hf e1
        exact st_of hK ((se_lst (fun r m vs m' e => (evL_len e).trans a3) a2).congr fun r m => by rw [evE]) fun _ => rfl
    · rename_i es j p
      cases e1 : exprs (compE P N k sc) es with
      | none => rw [e1] at h; cases h
      | some cs =>
        rw [e1] at h
        cases h
        obtain ⟨a1, a2, a3⟩ := exprs_ok hf e1
        exact st_of hK ((se_tup (fun r m vs m' e => (evL_len e).trans a3) a2).congr fun r m => by rw [evE]) fun _ => rfl
    · exact st_of hK (lcP_se E (lcX_ok E (fun sc e c X E' z => ih sc e c X E' z) h)) fun _ => rfl
    · cases h
end
end U
end Part_U18

section Part_U19
set_option Elab.async false
set_option linter.all false
set_option maxRecDepth 100000
set_option maxHeartbeats 4000000
/-! U19: statements, compiled. -/
namespace U
open PySem PySem.Spec PyProof.Rows L2
def namesC (N : List Str) (sc : Scope) : List Expr → Option (List Nat)
  | [] => some []
  | .Name x _ :: es => match ixOf N x, namesC N sc es with
    | some k, some ks => if locB sc x then some (k :: ks) else none
    | _, _ => none
  | _ => none
def tgC (N : List Str) (sc : Scope) : Expr → Option Tg
  | .Name x _ => match ixOf N x with
    | some k => if locB sc x then some (.one k) else none
    | none => none
  | .Tuple es _ _ => (namesC N sc es).map .tup
  | _ => none
/-- does a comprehension hand its list straight to the name -/
def swB (sc scope : Scope) (y : Str) (py lpos : Pos) : Bool := decide (sc.names.lookup y = some .local) && (py.line == lpos.line) && !(scope.names.any fun (n, k) => n == y && (k == .local || k == .cell))
/-- (a, b) = (x, y) -/
def parC (N : List Str) (sc : Scope) (f : Expr → Option CE) (ts vs : List Expr) : Option CS := match ts, vs with
  | [.Name x _, .Name y _], [a, b] => match swRes sc ts vs with
    | some none => match ixOf N x, ixOf N y, exprs f vs with
      | some j, some k, some cs => if locB sc x && locB sc y then some (.unp [j, k] (.tup cs)) else none
      | _, _, _ => none
    | some (some ws) => match ixOf N x, ixOf N y, exprs f vs with
      | some j, some k, some cs => if decide (ws = [x, y]) && (decide (j ≠ k) && (decide (sc.names.lookup x = some .local) && decide (sc.names.lookup y = some .local))) then some (.unp [j, k] (.tup cs)) else none
      | _, _, _ => none
    | none => none
  | _, _ => none
def isLc : Expr → Bool
  | .ListComp _ _ _ _ => true
  | _ => false
def asgC (P : Prg) (N : List Str) (sc : Scope) (f : Scope → Expr → Option CE) (tg e : Expr) : Option CS := match tg with
  | .Name x py => match ixOf N x, f sc e with
    | some k, some c => if locB sc x && (noLc e || isLc e) then some (.asg k c) else none
    | _, _ => none
  | .Tuple ts _ _ => match e with
    | .Tuple vs _ _ => parC N sc (f sc) ts vs
    | _ => if noLc e then match namesC N sc ts, f sc e with
      | some ks, some c => some (.unp ks c)
      | _, _ => none
      else none
  | .Attribute o name _ => if noLc e then match f sc e, f sc o, ixOf P.fld name with
    | some c, some d, some k => some (.setf d k c)
    | _, _, _ => none
    else none
  | .Subscript o i _ => if plainE i && noLc e then match f sc e, f sc o, f sc i with
    | some c, some d, some j => some (.seti d j c)
    | _, _, _ => none
    else none
  | _ => none
def blkC (g : Stmt → Option CS) (ss : List Stmt) : List CS := ss.map fun s => (g s).getD .bad
def compS (P : Prg) (N : List Str) (f : Scope → Expr → Option CE) (sc : Scope) : Nat → Stmt → Option CS
  | 0, _ => none
  | n + 1, s => match s with
    | .Expr (.Constant (.str _) _ _) _ => some .pass
    | .Expr e _ => if noLc e then (f sc e).map .expr else none
    | .Return none _ => some .retn
    | .Return (some e) _ => (f sc e).map .ret
    | .Pass _ => some .pass
    | .Break _ => some .brk
    | .Continue _ => some .cont
    | .Assign [tg] e _ => asgC P N sc f tg e
    | .AugAssign (.Name x _) op e _ => match ixOf N x, f sc e with
      | some k, some c => if locB sc x && (op == .Add || op == .Sub) then some (.aug k op c) else none
      | _, _ => none
    | .If c a b _ => (f sc c).map fun cc => .ifs cc (blkC (compS P N f sc n) a) (blkC (compS P N f sc n) b)
    | .While c a [] _ => (f sc c).map fun cc => .whl cc (blkC (compS P N f sc n) a)
    | .For tg it a [] _ => if plainE it then match tgC N sc tg, srcC sc (f sc) it with
      | some t, some src => some (.for_ t src (blkC (compS P N f sc n) a))
      | _, _ => none
      else none
    | _ => none
/-- a def's context -/
structure SC (P : Prg) (X : Cx) (D : Dat) (n : Nat) (cf : CallF) (N : List Str) (sc : Scope) : Prop extends EC P X D n cf N sc where
  fn : ∀ x, X.fn x = true
  own : PassesOwn (model X.prog X.w) X.A X.env X.xe
  kind : X.env.scope.kind = .function
section
variable {P : Prg} {X : Cx} {D : Dat} {n : Nat} {cf : CallF} {N : List Str} {sc : Scope} {W : Nat}
theorem SS.congr {st : Stmt} {c c' : Env → Mem → RS} (h : SS X D st c) (hc : ∀ r m, c' r m = c r m) : SS X D st c' := by
  have e1 : c' = c := funext fun r => funext fun m => hc r m
  rw [e1]
  exact h
theorem SSs.congr {st : List Stmt} {c c' : Env → Mem → RS} (h : SSs X D st c) (hc : ∀ r m, c' r m = c r m) : SSs X D st c' := by
  have e1 : c' = c := funext fun r => funext fun m => hc r m
  rw [e1]
  exact h
theorem evB_nil {T : Tab} {r : Env} {m : Mem} : evB T W cf [] r m = .nx r m := by rw [evB]
theorem evB_cons {T : Tab} {s : CS} {ss : List CS} {r : Env} {m : Mem} : evB T W cf (s :: ss) r m = match evS T W cf s r m with
    | .nx r' m' => evB T W cf ss r' m'
    | a => a := by
  rw [evB]
  all_goals (cases evS T W cf s r m <;> rfl)
theorem ss_bad {st : Stmt} : SS X D st (fun _ _ => .fail) := fun W tk => U.PS.imp ps_never fun En σ H ⟨i, r, m, S, E, h⟩ => h
theorem blkC_ok {g : Stmt → Option CS} (hg : ∀ s c, g s = some c → SS X D s (evS D.T W cf c)) : ∀ ss : List Stmt, SSs X D ss (evB D.T W cf (blkC g ss))
  | [] => sss_nil.congr fun r m => evB_nil
  | s :: ss => by
    have ih := blkC_ok hg ss
    have h1 : SS X D s (evS D.T W cf ((g s).getD .bad)) := by
      cases e : g s with
      | none => exact ss_bad.congr fun r m => by show evS D.T W cf .bad r m = _; rw [evS]
      | some c => exact hg s c e
    exact (sss_cons h1 ih).congr fun r m => by
      show evB D.T W cf ((g s).getD .bad :: blkC g ss) r m = _
      rw [evB_cons]
      all_goals rfl
theorem namesC_ok (E : SC P X D n cf N sc) : ∀ {es : List Expr} {ks : List Nat}, namesC N sc es = some ks → NameL X es ks
  | [], ks, h => by cases h; exact .nil
  | e :: es, ks, h => by
    cases e with
    | Name x p =>
      unfold namesC at h
      split at h
      · rename_i k ks' h1 h2
        split at h
        · rename_i hl
          cases h
          exact .cons (by rw [E.hN]; exact ixOf_at h1) (by rw [E.hs]; exact locB_ok hl) (.inl (E.fn x)) (namesC_ok E h2)
        · cases h
      · cases h
    | _ => cases h
theorem tgC_ok (E : SC P X D n cf N sc) {tg : Expr} {t : Tg} (h : tgC N sc tg = some t) : SG X D tg t.put := by
  unfold tgC at h
  split at h
  · rename_i x p
    split at h
    · rename_i k ek
      split at h
      · rename_i hl
        cases h
        exact sg_name (by rw [E.hN]; exact E.nd) (by rw [E.hN]; exact ixOf_at ek) (by rw [E.hs]; exact locB_ok hl) (.inl (E.fn x))
      · cases h
    · cases h
  · rename_i es k p
    cases e : namesC N sc es with
    | none => rw [e] at h; cases h
    | some ks =>
      rw [e] at h
      cases h
      exact sg_tup E.hP.hK E.calm (by rw [E.hN]; exact E.nd) (namesC_ok E e)
  · cases h
theorem swB_ok (E : SC P X D n cf N sc) {elt : Expr} {gs : List Comprehension} {scope : Scope} {y : Str} {py lpos : Pos} {l : Nat} : swapsWith (.ListComp elt gs scope lpos) (some (.Name y py)) l X.env = pure (swB sc scope y py lpos) := by
  have hb : X.env.blockKind = .function := by unfold Env.blockKind; rw [E.kind]; rfl
  unfold swapsWith
  dsimp only
  rw [hb]
  unfold Env.kindOf swB
  rw [E.hs]
  have e1 : (List.lookup y sc.names == some NameKind.local) = decide (List.lookup y sc.names = some .local) := by
    rw [Bool.eq_iff_iff]
    simp
  first
    | (rw [e1]; rfl)
    | simp [e1, Expr.pos]
theorem parC_ok (E : SC P X D n cf N sc) {f : Expr → Option CE} (hf : ∀ e c, f e = some c → SE X D e (evE D.T cf c)) {ts vs : List Expr} {kt k2 : Nat} {pt pt2 pos : Pos} {s : CS} (h : parC N sc f ts vs = some s) : SS X D (.Assign [.Tuple ts kt pt] (.Tuple vs k2 pt2) pos) (evS D.T W cf s) := by
  unfold parC at h
  have hN : X.N.Nodup := by rw [E.hN]; exact E.nd
  split at h
  · rename_i x px y py a b
    split at h
    · rename_i hsw
      split at h
      · rename_i j k cs e1 e2 e3
        split at h
        · rename_i hl
          cases h
          rw [Bool.and_eq_true] at hl
          obtain ⟨a1, a2, a3⟩ := exprs_ok hf e3
          have nl : NameL X [.Name x px, .Name y py] [j, k] := .cons (by rw [E.hN]; exact ixOf_at e1) (by rw [E.hs]; exact locB_ok hl.1) (.inl (E.fn x)) (.cons (by rw [E.hN]; exact ixOf_at e2) (by rw [E.hs]; exact locB_ok hl.2) (.inl (E.fn y)) .nil)
          have z := ss_asg (pos := pos) (ea := .Tuple [a, b] k2 pt2) (sg_tup (kk := kt) (p := pt) E.hP.hK E.calm hN nl) rfl (swRes_ok E.kind (by rw [E.hs]; exact hsw)) rfl ((se_tup (fun r m vs m' e => (evL_len e).trans a3) a2).congr (c' := evE D.T cf (.tup cs)) fun r m => by rw [evE])
          exact z.congr fun r m => by rw [evS]; try rfl
        · cases h
      · cases h
    · rename_i ws hsw
      split at h
      · rename_i j k cs e1 e2 e3
        split at h
        · rename_i hl
          cases h
          simp only [Bool.and_eq_true, decide_eq_true_eq] at hl
          obtain ⟨hw, hjk, hx, hy⟩ := hl
          subst hw
          obtain ⟨a1, a2, a3⟩ := exprs_ok hf e3
          have z := ss_par (pos := pos) (px := px) (py := py) (kt := kt) (pt := pt) (k2 := k2) (pt2 := pt2) E.calm hN (by rw [E.hN]; exact ixOf_at e1) (by rw [E.hN]; exact ixOf_at e2) hjk (by rw [E.hs]; exact hx) (by rw [E.hs]; exact hy) (swRes_ok E.kind (by rw [E.hs]; exact hsw)) a2
          exact z.congr fun r m => by rw [evS, evE]; rfl
        · cases h
      · cases h
    · cases h
  · cases h
theorem asgC_ok (E : SC P X D n cf N sc) {f : Scope → Expr → Option CE} (hf : ∀ e c, f sc e = some c → SE X D e (evE D.T cf c)) (hlc : ∀ elt gs scope lpos c, f sc (.ListComp elt gs scope lpos) = some c → LcP X D cf elt gs scope c) {tg e : Expr} {pos : Pos} {s : CS} (h : asgC P N sc f tg e = some s) : SS X D (.Assign [tg] e pos) (evS D.T W cf s) := by
  unfold asgC at h
  have hN : X.N.Nodup := by rw [E.hN]; exact E.nd
  split at h
  · rename_i x py
    split at h
    · rename_i k c e1 e2
      split at h
      · rename_i hl
        cases h
        rw [Bool.and_eq_true] at hl
        have hi : X.N[k]? = some x := by rw [E.hN]; exact ixOf_at e1
        have hx : L2.Loc X.env.scope x := by rw [E.hs]; exact locB_ok hl.1
        have plain : swapsWith e (some (.Name x py)) pos.line X.env = pure false → SS X D (.Assign [.Name x py] e pos) (evS D.T W cf (.asg k c)) := fun hs => (ss_set (pos := pos) hN hi hx (.inl (E.fn x)) hs (hf _ _ e2)).congr fun r m => by rw [evS]
        cases hb : noLc e with
        | true => exact plain (sw_no hb)
        | false =>
          rw [hb, Bool.false_or] at hl
          obtain ⟨elt, gs, scope, lpos, rfl⟩ : ∃ elt gs scope lpos, e = .ListComp elt gs scope lpos := by
            cases e with
            | ListComp elt gs scope lpos => exact ⟨_, _, _, _, rfl⟩
            | _ => cases hl.2
          cases hsw : swB sc scope x py lpos with
          | false => exact plain (by rw [swB_ok E, hsw])
          | true =>
            obtain ⟨y, tp, iter, ifs, j, ci, ct, ce, rfl, hi2, ok, hk, hx2, hfn, ht, he, hs, hc⟩ := (hlc _ _ _ _ _ e2).ex
            have hlo : X.env.scope.names.lookup x = some .local := by
              rw [E.hs]
              unfold swB at hsw
              simp only [Bool.and_eq_true, decide_eq_true_eq] at hsw
              exact hsw.1.1
            have z := ss_setLc (pos := pos) hi hlo (by rw [swB_ok E, hsw]) E.calm hN hi2 ok hk hx2 hfn ht he hs
            exact z.congr fun r m => by rw [evS, hc]
      · cases h
    · cases h
  · rename_i ts kt pt
    split at h
    · exact parC_ok E hf h
    · rename_i hne
      split at h
      · rename_i hn
        split at h
        · rename_i ks c e1 e2
          cases h
          have hw : swappedStores [.Tuple ts kt pt] e X.env = pure none := by
            cases e <;> first
              | rfl
              | exact absurd rfl (hne _ _ _)
          have z := ss_asg (pos := pos) (sg_tup (kk := kt) (p := pt) E.hP.hK E.calm hN (namesC_ok E e1)) hn hw rfl (hf _ _ e2)
          exact z.congr fun r m => by rw [evS]; try rfl
        · cases h
      · cases h
  · rename_i o name p
    split at h
    · rename_i hn
      split at h
      · rename_i c d k e1 e2 e3
        cases h
        have en : P.fldN k = name := by
          unfold Prg.fldN
          rw [ixOf_at e3]
          rfl
        have z := ss_fld (pos := pos) (pos' := p) (f := k) E.hP.hK E.hP.A hn (hf _ _ e1) (hf _ _ e2)
        rw [en] at z
        exact z.congr fun r m => by rw [evS]; try rfl
      · cases h
    · cases h
  · rename_i o i p
    split at h
    · rename_i hp
      rw [Bool.and_eq_true] at hp
      split at h
      · rename_i c d j e1 e2 e3
        cases h
        have ha : ∀ v, assign (.Subscript o i p) X.env v = (do
            let ov ← holding [v] (eval o X.env)
            let iv ← holding [v, ov] (eval i X.env)
            standAt p
            holding [v, ov, iv] (setItem ov iv v)
            release [v, ov, iv] []) := by
          intro v
          have hp1 := hp.1
          cases i <;> first
            | rfl
            | cases hp1
        have z := ss_seti (pos := pos) (pos' := p) hp.1 hp.2 (hf _ _ e1) (hf _ _ e2) (hf _ _ e3) ha
        exact z.congr fun r m => by rw [evS]; try rfl
      · cases h
    · cases h
  · cases h
theorem compS_ok (E : SC P X D n cf N sc) {f : Scope → Expr → Option CE} (hf : ∀ e c, f sc e = some c → SE X D e (evE D.T cf c) ∧ ST X D e (evE D.T cf c)) (hlc : ∀ elt gs scope lpos c, f sc (.ListComp elt gs scope lpos) = some c → LcP X D cf elt gs scope c) :
    ∀ (k : Nat) (st : Stmt) (s : CS), compS P N f sc k st = some s → SS X D st (evS D.T W cf s)
  | 0, st, s, h => by cases h
  | k + 1, st, s, h => by
    have ih := compS_ok E hf hlc k
    have hN : X.N.Nodup := by rw [E.hN]; exact E.nd
    unfold compS at h
    split at h
    · cases h
      exact ss_doc.congr fun r m => by rw [evS]
    · rename_i e p _
      split at h
      · rename_i hn
        cases e1 : f sc e with
        | none => rw [e1] at h; cases h
        | some c =>
          rw [e1] at h
          cases h
          exact (ss_expr hn (hf _ _ e1).1).congr fun r m => by rw [evS]
      · cases h
    · cases h
      exact ss_retN.congr fun r m => by rw [evS]
    · rename_i e p
      cases e1 : f sc e with
      | none => rw [e1] at h; cases h
      | some c =>
        rw [e1] at h
        cases h
        exact (ss_ret (hf _ _ e1).1).congr fun r m => by rw [evS]
    · cases h
      exact ss_pass.congr fun r m => by rw [evS]
    · cases h
      exact ss_brk.congr fun r m => by rw [evS]
    · cases h
      exact ss_cont.congr fun r m => by rw [evS]
    · exact asgC_ok E (fun e c z => (hf e c z).1) hlc h
    · rename_i x p op e p2
      split at h
      · rename_i j c e1 e2
        split at h
        · rename_i hc
          cases h
          rw [Bool.and_eq_true] at hc
          have hi : X.N[j]? = some x := by rw [E.hN]; exact ixOf_at e1
          have hx : L2.Loc X.env.scope x := by rw [E.hs]; exact locB_ok hc.1
          have h2 := hc.2
          cases op with
          | Add => exact (ss_aug (pos := p2) (pos' := p) (op := .Add) iop_add hN hi hx (.inl (E.fn x)) (hf _ _ e2).1).congr fun r m => by rw [evS]; try rfl
          | Sub => exact (ss_aug (pos := p2) (pos' := p) (op := .Sub) iop_sub hN hi hx (.inl (E.fn x)) (hf _ _ e2).1).congr fun r m => by rw [evS]; try rfl
          | _ => cases h2
        · cases h
      · cases h
    · rename_i c a b p
      cases e1 : f sc c with
      | none => rw [e1] at h; cases h
      | some cc =>
        rw [e1] at h
        cases h
        exact (ss_if (hf _ _ e1).2 (blkC_ok (fun s c z => ih s c z) a) (blkC_ok (fun s c z => ih s c z) b)).congr fun r m => by rw [evS]
    · rename_i c a p
      cases e1 : f sc c with
      | none => rw [e1] at h; cases h
      | some cc =>
        rw [e1] at h
        cases h
        exact (ss_whl (n := W) E.own (hf _ _ e1).2 (blkC_ok (fun s c z => ih s c z) a)).congr fun r m => by rw [evS]
    · rename_i tg it a p
      split at h
      · rename_i hp
        split at h
        · rename_i t src e1 e2
          cases h
          exact (ss_for E.own E.calm (srcC_ok E.toEC (fun e c z => (hf e c z).1) e2) (tgC_ok E e1) (blkC_ok (fun s c z => ih s c z) a) (folded_no hp _)).congr fun r m => by rw [evS]; try rfl
        · cases h
      · cases h
    · cases h
end
end U
end Part_U19

section Part_U20
set_option Elab.async false
set_option linter.all false
set_option maxRecDepth 100000
set_option maxHeartbeats 4000000
/-! U20: defs, level by level. -/
namespace U
open PySem PySem.Spec PyProof.Rows L2
section
variable {D : Dat} {i : List Addr} {H : Hp} {m : Mem} {E : XK} {Q : VK} {X : Cx}
theorem RVs.low_of {i' : List Addr} {H' : Hp} {n : Nat} {x : V} {v : MV} (hn : n ≤ i'.length) (q : RV D i' H' x v) (l : v.low n = true) : RV D (i'.take n) H' x v := q.slim take_pre l
theorem Ext.cut {i' : List Addr} {H' : Hp} (S : Sim D i m H) (e : Ext D i H i' H') : Ext D i H (i'.take m.length) H' :=
  ⟨fun k a z => take_pre k a (by have := (List.getElem?_eq_some_iff.mp z).1; have := S.len; omega) (e.pre k a z), e.sol⟩
theorem gcV_ok {i' : List Addr} {H' : Hp} {m' : Mem} {x : V} {v : MV} (S : Sim D i m H) (h : Pst D (fun cls d _ H => E cls d H) ([] : L2.St) (RV D) Q i H (gcV m v m')) (e : Ext D i H i' H') (S' : Sim D i' m' H') (q : RV D i' H' x v) : Q x H' := by
  unfold gcV at h
  split at h
  · rename_i hok
    have lo := okOld_low S hok
    split at h
    · rename_i hl
      exact h (i'.take m.length) H' x (e.cut S) (S'.slim lo) (q.slim take_pre hl)
    · rename_i hl
      split at h
      · rename_i k
        split at h
        · rename_i o eo
          split at h
          · rename_i hol
            cases q with
            | @ref a _ h0 =>
              have hk : ¬ k < m.length := fun z => hl (decide_eq_true z)
              have hlen : (i'.take m.length).length = m.length := by
                rw [List.length_take]
                have h1 := S'.len
                have h2 := (List.getElem?_eq_some_iff.mp eo).1
                omega
              have tl : (m'.take m.length).length = m.length := by
                rw [List.length_take]
                have h2 := (List.getElem?_eq_some_iff.mp eo).1
                omega
              have St := S'.slim lo
              have e2 : Ext D (i'.take m.length) H' (i'.take m.length ++ [a]) H' := ⟨fun _ _ z => getE_old z, fun _ _ z _ => z⟩
              refine h (i'.take m.length ++ [a]) H' (.ref a) ((e.cut S).trans e2) ⟨?_, fun j b u z1 z2 => ?_, fun j j2 b u u2 z1 z2 z3 z4 l1 l2 => ?_⟩ (.ref (getE_append_len hlen))
              · rw [List.length_append, List.length_append, hlen, tl]
                rfl
              · rcases getE_push z1 with z1 | ⟨z1, z1'⟩
                · rcases getE_push z2 with z2 | ⟨z2, _⟩
                  · exact (St.at_ j b u z1 z2).ext e2 fun _ _ z => z
                  · have := (List.getElem?_eq_some_iff.mp z1).1
                    omega
                · rcases getE_push z2 with z2 | ⟨_, z2⟩
                  · have := (List.getElem?_eq_some_iff.mp z2).1
                    omega
                  · rw [z1', z2]
                    exact ((S'.at_ k a _ h0 eo).slim take_pre hol).ext e2 fun _ _ z => z
              · have old : ∀ {j : Nat} {b : Addr}, (i'.take m.length)[j]? = some b → j < m.length ∧ i'[j]? = some b := fun {j b} z => by
                  have hj := (List.getElem?_eq_some_iff.mp z).1
                  rw [hlen] at hj
                  rw [List.getElem?_take_of_lt hj] at z
                  exact ⟨hj, z⟩
                have oldm : ∀ {j : Nat} {u : MO}, (m'.take m.length)[j]? = some u → m'[j]? = some u := fun {j u} z => by
                  have hj := (List.getElem?_eq_some_iff.mp z).1
                  rw [tl] at hj
                  rwa [List.getElem?_take_of_lt hj] at z
                rcases getE_push z1 with z1 | ⟨z1, z1'⟩ <;> rcases getE_push z2 with z2 | ⟨z2, z2'⟩
                · rcases getE_push z3 with z3 | ⟨z3, _⟩
                  · rcases getE_push z4 with z4 | ⟨z4, _⟩
                    · exact St.nd j j2 b u u2 z1 z2 z3 z4 l1 l2
                    · have := (old z2).1
                      omega
                  · have := (old z1).1
                    omega
                · rcases getE_push z3 with z3 | ⟨z3, _⟩
                  · rcases getE_push z4 with z4 | ⟨_, z4⟩
                    · have := (List.getElem?_eq_some_iff.mp z4).1
                      omega
                    · have := S'.nd j k b u o (old z1).2 (by rw [z2']; exact h0) (oldm z3) eo l1 (by rw [← z4]; exact l2)
                      have := (old z1).1
                      omega
                  · have := (old z1).1
                    omega
                · rcases getE_push z4 with z4 | ⟨z4, _⟩
                  · rcases getE_push z3 with z3 | ⟨_, z3⟩
                    · have := (List.getElem?_eq_some_iff.mp z3).1
                      omega
                    · have := S'.nd k j2 b o u2 (by rw [z1']; exact h0) (old z2).2 eo (oldm z4) (by rw [← z3]; exact l1) l2
                      have := (old z2).1
                      omega
                  · have := (old z2).1
                    omega
                · omega
          · exact h i' H' x e S' q
        · exact h.elim
      · exact h i' H' x e S' q
  · exact h i' H' x e S' q
theorem gcX_ok {i' : List Addr} {H' : Hp} {m' : Mem} {c : Nat} {fs : List MV} {cls : Value} {d : Option Addr} (S : Sim D i m H) (h : Pst D (fun cls d _ H => E cls d H) ([] : L2.St) (RV D) Q i H (gcX m c fs m')) (e : Ext D i H i' H') (S' : Sim D i' m' H') (q : RX D i' H' c fs cls d) : E cls d H' := by
  unfold gcX at h
  split at h
  · rename_i hok
    rw [Bool.and_eq_true] at hok
    refine h (i'.take m.length) H' cls d (e.cut S) (S'.slim (okOld_low S hok.1)) ?_
    obtain ⟨h1, h2 | ⟨dd, y, v, h2, h3, h4, h5⟩⟩ := q
    · exact ⟨h1, .inl h2⟩
    · subst h2
      have hl := hok.2
      exact ⟨h1, .inr ⟨dd, y, v, rfl, h3, h4, h5.slim take_pre (by
        unfold MV.lows at hl
        exact (Bool.and_eq_true_iff.mp hl).1)⟩⟩
  · exact h i' H' cls d e S' q
theorem out_ok {a : RS} (S : Sim D i m H) (h : Pst D (fun cls d _ H => E cls d H) ([] : L2.St) (RV D) Q i H (a.out m)) : PsS X D (fun cls d _ H => E cls d H) { nx := fun _ H' => Q .non H', rt := Q } i H a := by
  cases a with
  | nx r m' => exact fun i' H' σ' e S' _ => gcV_ok S h e S' .non
  | rt v m' => exact fun i' H' x e S' q => gcV_ok S h e S' q
  | ex c fs r m' => exact fun i' H' σ' cls d e S' _ q => gcX_ok S h e S' q
  | bk r m' => exact h.elim
  | ct r m' => exact h.elim
  | fail => exact h.elim
end

/-! ### the program's defs -/
structure Lay where
  ad : Nat → Addr
  fdt : Nat → FuncData
  psn : Nat → List Str
/-- how a call binds, told without what it computes -/
def Bnd (K : PySem.W.Frag) (D : Dat) (fd : FD) (fdt : FuncData) (ps : List Str) (h k : Nat) (ks : List Str) (ix : List Nat) : Prop :=
  ∃ (ds : List Value) (dvs : List V) (dx : List MV), Vals dvs ds ∧ Free D dvs dx ∧
    (∀ (s : Shared) (u0 us ws : List Value), K.In s.heap → u0.length = h → us.length = k → ws.length = ks.length → BindsTo s fdt ⟨u0 ++ us, ks.zip ws⟩ (ps.zip (u0 ++ (ord ix (us ++ ws) ++ ds)))) ∧
    ∀ x0 xs : List MV, x0.length = h → xs.length = k + ks.length → pad fd (x0 ++ ord ix xs) = x0 ++ (ord ix xs ++ dx) ∧ (x0 ++ (ord ix xs ++ dx)).length = fd.np
/-- the depth to which the text is compiled -/
def cF : Nat := 60
structure Stat (P : Prg) (L : Lay) (defs : Nat → Option FD) (Pg : Program) (w : World) (K : PySem.W.Frag) (mg : Str → Option Value) (base : Heap) (D : Dat) : Prop where
  hK : K = D.K
  A : AOk P.fldN D
  kit : KitF D
  df : ∀ f fd, defs f = some fd → ∃ (x qual : Str) (params : Arguments) (body : List Stmt) (scope : Scope) (dvs : List V) (kws : List (Str × V)) (N : List Str), FunD K x qual params body scope dvs kws (L.ad f) (L.fdt f) ∧ FnScope N (L.psn f) scope ∧ (L.psn f).length = fd.np ∧ N.length = fd.ns ∧
    blkC (compS P N (compE P N cF) scope cF) body = fd.body
  fnm : ∀ f x, P.fns[f]? = some x → ∃ fd, defs f = some fd ∧ mg x = some (.ref (L.ad f)) ∧ PySem.W.keepIn K (.ref (L.ad f)) = true ∧ ∀ k ks ix, (f, k, ks, ix) ∈ P.sh → Bnd K D fd (L.fdt f) (L.psn f) 0 k ks ix
  cl : ∀ c x, P.cls[c]? = some x → mg x = some (.ref (D.ca c))
  nwf : ∀ c x k ks ix, P.cls[c]? = some x → (c, k, ks, ix) ∈ P.shN → ∃ f fd, D.T.init c = some f ∧ defs f = some fd ∧ Bnd K D fd (L.fdt f) (L.psn f) 1 k ks ix ∧ Mk K (D.ca c) (L.ad f)
  nw0 : ∀ c x, P.cls[c]? = some x → c ∈ P.new0 → Mk0 K (D.ca c) ∧ D.T.init c = none
  mtf : ∀ mm x k ks ix, P.mth[mm]? = some x → (mm, k, ks, ix) ∈ P.shM → ∀ c f, D.T.meth c mm = some f → ∃ fd, defs f = some fd ∧ Bnd K D fd (L.fdt f) (L.psn f) 1 k ks ix ∧ Cls K (D.ca c) ∧ Meth K (D.ca c) x (L.ad f) ∧ x ∉ D.fn c
  cn : ∀ k x, P.con[k]? = some x → ∃ v u, mg x = some u ∧ RelV v u ∧ ∀ i H, RV D i H v (D.T.con k)
  bl : ∀ x, x ∈ bltN → mg x = none
section
variable {P : Prg} {L : Lay} {defs : Nat → Option FD} {Pg : Program} {w : World} {K : PySem.W.Frag} {mg : Str → Option Value} {base : Heap} {D : Dat} {W : Nat}
theorem pad_full {fd : FD} {vs : List MV} (h : vs.length = fd.np) : pad fd vs = vs := by
  unfold pad
  rw [h, Nat.sub_self, Nat.sub_zero, List.drop_length, List.append_nil]
theorem run_pad {n f : Nat} {fd : FD} {vs ws : List MV} {m : Mem} (hd : defs f = some fd) (h1 : pad fd vs = ws) (h2 : ws.length = fd.np) : run D.T W defs n f ws m = run D.T W defs n f vs m := by
  cases n with
  | zero => rfl
  | succ n =>
    unfold run
    rw [hd]
    dsimp only
    rw [pad_full h2, h1]
theorem Bnd.bindF {X : Cx} (hXK : X.K = K) {n f : Nat} {fd : FD} {h k : Nat} {ks : List Str} {ix : List Nat} {fdt : FuncData} {ps : List Str} (hd : defs f = some fd) (hnp : ps.length = fd.np) (B : Bnd K D fd fdt ps h k ks ix) : BindF X D (run D.T W defs n) f fdt ps h k ks ix := by
  obtain ⟨ds, dvs, dx, h1, h2, h3, h4⟩ := B
  refine ⟨ds, dvs, dx, h1, h2, by rw [hXK]; exact h3, fun x0 xs l0 l1 => ?_⟩
  obtain ⟨a1, a2⟩ := h4 x0 xs l0 l1
  exact ⟨by rw [hnp]; exact a2, fun m => run_pad hd a1 a2⟩
theorem pok_of (S : Stat P L defs Pg w K mg base D) {X : Cx} (h1 : X.prog = Pg) (h2 : X.w = w) (h3 : X.K = K) (h4 : X.mg = mg) (h5 : X.base = base) {n : Nat} (F : ∀ f fd, defs f = some fd → FnG Pg w K mg base n (L.ad f) (L.fdt f) (L.psn f) (spOf D (L.psn f).length (run D.T W defs n f))) : POk P X D n (run D.T W defs n) where
  hK := h3.trans S.hK
  A := S.A
  kit := S.kit
  fn := fun f x e => by
    obtain ⟨fd, hd, a1, a2, a3⟩ := S.fnm f x e
    obtain ⟨_, _, _, _, _, _, _, _, _, _, hnp, _⟩ := S.df f fd hd
    refine ⟨L.ad f, L.fdt f, L.psn f, by rw [h4]; exact a1, by rw [h3]; exact a2, by rw [h1, h2, h3, h4, h5]; exact F f fd hd, fun k ks ix hm => (a3 k ks ix hm).bindF h3 hd hnp⟩
  cl := fun c x e => by rw [h4]; exact S.cl c x e
  nw := fun c x k ks ix e hm => by
    obtain ⟨f, fd, a1, a2, a3, a4⟩ := S.nwf c x k ks ix e hm
    obtain ⟨_, _, _, _, _, _, _, _, _, _, hnp, _⟩ := S.df f fd a2
    exact ⟨fun c => S.A.len c, f, L.ad f, L.fdt f, L.psn f, a1, by rw [h1, h2, h3, h4, h5]; exact F f fd a2, a3.bindF h3 a2 hnp, by rw [h3]; exact a4⟩
  nw0 := fun c x e hm => by rw [h3]; exact S.nw0 c x e hm
  mt := fun mm x k ks ix e hm => ⟨fun c f ef => by
    obtain ⟨fd, a1, a2, a3, a4, a5⟩ := S.mtf mm x k ks ix e hm c f ef
    obtain ⟨_, _, _, _, _, _, _, _, _, _, hnp, _⟩ := S.df f fd a1
    exact ⟨L.ad f, L.fdt f, L.psn f, by rw [h1, h2, h3, h4, h5]; exact F f fd a1, a2.bindF h3 a1 hnp, by rw [h3]; exact a3, by rw [h3]; exact a4, a5⟩⟩
  cn := fun k x e => by rw [h4]; exact S.cn k x e
  bl := fun x e => by rw [h4]; exact S.bl x e
theorem compE_lc {N : List Str} {k : Nat} {sc scope : Scope} {elt : Expr} {gs : List Comprehension} {pos : Pos} {c : CE} {n : Nat} {cf : CallF} {X : Cx} (E : EC P X D n cf N sc) (h : compE P N (k + 1) sc (.ListComp elt gs scope pos) = some c) : LcP X D cf elt gs scope c := by
  unfold compE at h
  exact lcX_ok E (fun sc e c X E' z => compE_ok k sc e c X E' z) h
theorem re_entry {X : Cx} {i : List Addr} {H : Hp} {fd : FD} {N : List Str} {vs : List V} {xs : List MV} (q : RVs D i H vs xs) (hl : vs.length ≤ N.length) (hN : N.length = fd.ns) : RE X D i H (entry fd xs) (L2.start N vs) := by
  have hvx := q.length
  unfold entry L2.start
  refine ⟨by simp; omega, fun k s h => ?_⟩
  by_cases hk : k < xs.length
  · rw [List.getElem?_append_left (by simpa using hk), List.getElem?_map] at h
    cases e : xs[k]? with
    | none => rw [e] at h; cases h
    | some x =>
      rw [e] at h
      cases h
      obtain ⟨v, e1, e2⟩ := q.get e
      refine ⟨some v, ?_, v, rfl, e2⟩
      rw [List.getElem?_append_left (by simp; omega), List.getElem?_map, e1]
      rfl
  · rw [List.getElem?_append_right (by simpa using hk)] at h
    have hs : s = .no := by
      have := List.mem_of_getElem? h
      rw [List.mem_replicate] at this
      exact this.2
    subst hs
    have hlt := (List.getElem?_eq_some_iff.mp h).1
    rw [List.length_replicate, List.length_map] at hlt
    refine ⟨none, ?_, trivial⟩
    rw [List.getElem?_append_right (by simp; omega), List.getElem?_replicate, if_pos (by simp; omega)]
theorem lvl (S : Stat P L defs Pg w K mg base D) : ∀ (n f : Nat) (fd : FD), defs f = some fd → FnG Pg w K mg base n (L.ad f) (L.fdt f) (L.psn f) (spOf D (L.psn f).length (run D.T W defs n f))
  | 0, f, fd, hd => ⟨fun vs H Q E h => h.1, fun A outer s H args us vs Q E hr e0 hb r h => by
    obtain ⟨_, i, m, xs, _, _, h⟩ := h
    exact h.elim⟩
  | n + 1, f, fd, hd => by
    obtain ⟨x, qual, params, body, scope, dvs, kws, N, F, Sc, hnp, hns, hb⟩ := S.df f fd hd
    refine fnG_of F Sc (fun vs H Q E h => h.1) fun cdv A outer s H vs Q E hr hsp => ?_
    obtain ⟨hl, i, m, xs, Sm, q, h⟩ := hsp
    have hx : xs.length = fd.np := by rw [← q.length, hl, hnp]
    unfold run at h
    rw [hd] at h
    dsimp only at h
    rw [pad_full hx, if_pos hx] at h
    have ps : POk P (cxOf (L2.CX Pg w) Pg w K mg base N qual scope (L.ad f) cdv A outer s H E) D n (run D.T W defs n) := pok_of S rfl rfl rfl rfl rfl fun f fd hd => lvl S n f fd hd
    have ec : SC P (cxOf (L2.CX Pg w) Pg w K mg base N qual scope (L.ad f) cdv A outer s H E) D n (run D.T W defs n) N scope := ⟨⟨ps, rfl, Sc.nd, rfl, rfl, hr⟩, fun _ => rfl, passes_of rfl, Sc.kind⟩
    have tk : Takes (cxOf (L2.CX Pg w) Pg w K mg base N qual scope (L.ad f) cdv A outer s H E) (fun cls d _ H => E cls d H) := takes_of rfl rfl rfl rfl
    have hpl : vs.length ≤ N.length := by
      have := congrArg List.length Sc.pre
      rw [List.length_take] at this
      omega
    refine ⟨_, blkC_ok (W := W) (fun s c z => compS_ok ec (fun e c z => compE_ok cF _ e c _ ec.toEC z) (fun elt gs scope lpos c z => compE_lc (k := 59) ec.toEC z) cF s c z) body _ tk, i, entry fd xs, m, Sm, re_entry q hpl hns, ?_⟩
    rw [hb]
    exact out_ok Sm h
end
end U
end Part_U20

section Part_U21
set_option Elab.async false
set_option linter.all false
set_option maxRecDepth 100000
set_option maxHeartbeats 4000000
/-! U21: what the head tells, told as data; all that the layer asks of a program. -/
namespace U
open PySem PySem.Spec PyProof.Rows L2
/-- a constant -/
inductive Cn where
  | int (i : Int) | str (x : Txt)
def Cn.v : Cn → MV
  | .int i => .int i
  | .str x => .str x
/-- a program, as data: its names, its defs (by number; those of the module first), their names of slots, how many parameters; of each class: attributes, frozen, __init__, methods, above -/
structure Dta where
  P : Prg
  dd : List He.DefD
  NN : List (List Str)
  np : List Nat
  flds : List (List Str)
  con : List Cn
  frozen : List Bool
  init : List (Option Nat)
  meth : List (List (Option Nat))
  sub : List (List Bool)
  kw : List (Nat × Nat × Nat × List Str × List Nat)
section
variable (A : Dta)
def Dta.T : Tab where
  ncls := A.P.cls.length
  con := fun k => ((A.con[k]?).map Cn.v).getD .non
  fields := fun c => ((A.flds[c]?).getD []).length
  fix := fun c f => ixOf ((A.flds[c]?).getD []) (A.P.fldN f)
  frozen := fun c => (A.frozen[c]?).getD false
  init := fun c => (A.init[c]?).getD none
  meth := fun c mm => (((A.meth[c]?).getD [])[mm]?).getD none
  sub := fun c d => (((A.sub[c]?).getD [])[d]?).getD false
  exf := fun _ _ => none
  eqm := fun _ => none
def Dta.N (f : Nat) : List Str := (A.NN[f]?).getD []
def Dta.ps (f : Nat) : List Str := (A.N f).take ((A.np[f]?).getD 0)
def Dta.fd (d : He.DefD) (f : Nat) : FD := ⟨(A.ps f).length, (A.N f).length, [], blkC (compS A.P (A.N f) (compE A.P (A.N f) cF) d.scope cF) d.body⟩
def Dta.defs (f : Nat) : Option FD := (A.dd[f]?).map fun d => A.fd d f
def clsN (c : Nat) : Str := (A.P.cls[c]?).getD Str.empty
def caK (K : PySem.W.Frag) (c : Nat) : Addr := match A.P.cls[c]? with
  | some x => He.ga K x
  | none => 0
/-! ### checks that ask nothing of the heap -/
def scopeB (N ps : List Str) (sc : Scope) : Bool := decide (sc.kind = .function) && (!sc.isCoroutine && (!sc.isGenerator && (decide N.Nodup && (decide (N.take ps.length = ps) && (ps.all (fun x => decide (sc.names.lookup x = some .local) || decide (sc.names.lookup x = some .cell)) && sc.names.all fun y => decide (y.2 ≠ .free))))))
theorem scopeB_ok {N ps : List Str} {sc : Scope} (h : scopeB N ps sc = true) : FnScope N ps sc := by
  unfold scopeB at h
  simp only [Bool.and_eq_true, decide_eq_true_eq, Bool.not_eq_true', List.all_eq_true, Bool.or_eq_true] at h
  obtain ⟨h1, h2, h3, h4, h5, h6, h7⟩ := h
  exact ⟨h1, h2, h3, h4, h5, fun x hx => h6 x hx, fun y hy => h7 y hy⟩
/-- a call's shape (h values ahead) can be bound -/
def Dta.shB (f h k : Nat) (ks : List Str) (ix : List Nat) : Bool := (ks.isEmpty && (ix.isEmpty && decide (k + h = (A.ps f).length))) || (A.kw.any (fun q => decide (q = (f, h, k, ks, ix))) && decide ((ord ix (List.range (k + ks.length))).length + h = (A.ps f).length))
def Dta.defB : Bool := A.dd.zipIdx.all fun q => scopeB (A.N q.2) (A.ps q.2) q.1.scope && (q.1.dfl.isEmpty && q.1.kwd.isEmpty)
def Dta.fldB : Bool := A.flds.all (fun l => decide l.Nodup && decide (l.length < 900)) && (decide (A.flds.length ≤ A.P.cls.length) && (decide (A.frozen.length ≤ A.P.cls.length) && decide (A.P.con.length ≤ A.con.length)))
def Dta.fnB : Bool := A.P.fns.zipIdx.all fun q => match A.dd[q.2]? with
  | some d => decide (d.at_ = (q.1, none))
  | none => false
def Dta.callB : Bool := A.P.sh.all (fun q => A.shB q.1 0 q.2.1 q.2.2.1 q.2.2.2) && (A.P.shN.all (fun q => match (A.init[q.1]?).getD none with
    | some f => (A.dd[f]?).isSome && A.shB f 1 q.2.1 q.2.2.1 q.2.2.2
    | none => false) &&
  (A.P.new0.all (fun c => decide ((A.init[c]?).getD none = none)) &&
  (A.P.shM.all (fun q => (List.range A.meth.length).all fun c => match (((A.meth[c]?).getD [])[q.1]?).getD none with
    | some f => (A.dd[f]?).isSome && A.shB f 1 q.2.1 q.2.2.1 q.2.2.2
    | none => true) && decide (A.meth.length ≤ A.P.cls.length))))
/-! ### checks of the heap -/
def allTy : List Ty := [.int, .bool, .str, .tup, .lst, .dct] ++ (List.range A.P.cls.length).map .own
def dtyV (K : PySem.W.Frag) : Ty → Value
  | .own c => .ref (caK A K c)
  | t => .type (tyName t)
def dvtV (K : PySem.W.Frag) : Option Ty → Value
  | none => .type "NoneType"
  | some t => dtyV A K t
def conFa (o : Option Cn) (x : Str) : He.Fa := match o with
  | some (.int i) => .int x i
  | some (.str z) => .str x ⟨z.toArray⟩
  | none => .free x
/-- the facts of the head -/
def Dta.fa : List He.Fa := bltN.map .free ++ (A.P.fns.map .glo ++ (A.P.cls.map .glo ++ (A.P.cls.map .cls ++
  ((A.P.con.zipIdx.map fun q => conFa A.con[q.2]? q.1) ++
  (A.flds.zipIdx.flatMap fun q => q.1.map fun f => .noat (clsN A q.2) f)))))
def eqA (a b : Addr) : Bool := decide (a = b)
def Dta.ex (K : PySem.W.Frag) : Bool :=
  (((none :: (allTy A).map some).all fun a => (allTy A).all fun t => decide (PySem.W.kitOne K (dvtV A K a) (dtyV A K t) = some (isTy A.T a t))) &&
  (((List.range A.P.cls.length).all fun c => He.eqO (PySem.W.findIn K (.ref (caK A K c)) "__class__") (some (some (.builtin "object.__class__"))) && decide (PySem.W.mroIn K (caK A K c) (.type "object") = some true)) &&
  (He.eqO (PySem.W.specialIn K (.builtin "object.__class__") "__get__") (some (some (.builtin "getset_descriptor.__get__"))) &&
  (decide (PySem.W.takesIn K (.builtin "object.__class__") = some true) &&
  (decide (((List.range A.P.cls.length).map (caK A K)).Nodup) && (!((List.range A.P.cls.length).map (caK A K)).contains 0 &&
  (A.P.shN.all (fun q => match A.P.cls[q.1]?, (A.init[q.1]?).getD none with
    | some x, some f => (He.Fa.mkr x).ok K && (match A.dd[f]? with
      | some d => eqA (He.ma K (He.ga K x) "__init__") (He.fAd K d.at_)
      | none => false)
    | _, _ => true) &&
  (A.P.new0.all (fun c => PySem.W.makesIn K (caK A K c) && (He.eqO (PySem.W.findIn K (.ref (caK A K c)) "__init__") (some (some (.builtin "object.__init__"))) && (decide (PySem.W.mroIn K (caK A K c) (.type "object") = some true) && PySem.W.keepIn K (.ref (caK A K c))))) &&
  A.P.shM.all (fun q => match A.P.mth[q.1]? with
    | some m => (List.range A.meth.length).all fun c => match (((A.meth[c]?).getD [])[q.1]?).getD none with
      | some f => (He.Fa.meth (clsN A c) m).ok K && ((match A.dd[f]? with
        | some d => eqA (He.ma K (He.ga K (clsN A c)) m) (He.fAd K d.at_)
        | none => false) && !((A.flds[c]?).getD []).contains m)
      | none => true
    | none => true)))))))))
end
end U
end Part_U21

section Part_U22
set_option Elab.async false
set_option linter.all false
set_option maxRecDepth 100000
set_option maxHeartbeats 4000000
/-! U22: the data are the program. -/
namespace U
open PySem PySem.Spec PyProof.Rows L2
theorem zipIdx_mem {α : Type} {l : List α} {k : Nat} {x : α} (h : l[k]? = some x) : (x, k) ∈ l.zipIdx := by
  rw [List.mem_zipIdx_iff_getElem?]
  exact h
theorem all_of {α : Type} {l : List α} {p : α → Bool} (h : l.all p = true) {x : α} (hx : x ∈ l) : p x = true := List.all_eq_true.mp h x hx
section
variable {A : Dta} {K : PySem.W.Frag}
/-- how the program's objects are told -/
structure Bk (A : Dta) (K : PySem.W.Frag) : Prop where
  defB : A.defB = true
  fldB : A.fldB = true
  fnB : A.fnB = true
  callB : A.callB = true
theorem ca_at {c : Nat} {x : Str} (h : A.P.cls[c]? = some x) : caK A K c = He.ga K x := by
  unfold caK
  rw [h]
def datOf (A : Dta) (K : PySem.W.Frag) (hj : ∀ c d, A.T.frozen c = true → caK A K c = caK A K d → c = d) : Dat := ⟨K, caK A K, fun c => (A.flds[c]?).getD [], fun _ => Str.empty, A.T, hj⟩
theorem allTy_mem {t : Ty} (h : tyIn A.T t = true) : t ∈ allTy A := by
  unfold allTy
  cases t with
  | own c =>
    refine List.mem_append_right _ (List.mem_map.mpr ⟨c, List.mem_range.mpr ?_, rfl⟩)
    exact of_decide_eq_true h
  | _ => exact List.mem_append_left _ (by decide)
theorem inj_of (hl : A.frozen.length ≤ A.P.cls.length) (hn : ((List.range A.P.cls.length).map (caK A K)).Nodup) (h0 : ((List.range A.P.cls.length).map (caK A K)).contains 0 = false) : ∀ c d, A.T.frozen c = true → caK A K c = caK A K d → c = d := fun c d hf e => by
  have hc : c < A.P.cls.length := by
    by_cases z : c < A.frozen.length
    · omega
    · have e2 : A.frozen[c]? = none := List.getElem?_eq_none (by omega)
      have hf' : (A.frozen[c]?).getD false = true := hf
      rw [e2] at hf'
      cases hf'
  have mem0 : ∀ j, j < A.P.cls.length → caK A K j ≠ 0 := fun j hj z => by
    have : (List.map (caK A K) (List.range A.P.cls.length)).contains 0 = true := List.contains_iff_mem.mpr (List.mem_map.mpr ⟨j, List.mem_range.mpr hj, z⟩)
    rw [h0] at this
    cases this
  have hd : d < A.P.cls.length := by
    by_cases z : d < A.P.cls.length
    · exact z
    · exfalso
      have e2 : A.P.cls[d]? = none := List.getElem?_eq_none (by omega)
      have e3 : caK A K d = 0 := by
        unfold caK
        rw [e2]
      exact mem0 c hc (e.trans e3)
  have g : ∀ j, j < A.P.cls.length → ((List.range A.P.cls.length).map (caK A K))[j]? = some (caK A K j) := fun j hj => by
    rw [List.getElem?_map, List.getElem?_range hj]
    rfl
  have h1 := g c hc
  have h2 := g d hd
  rw [← e] at h2
  exact (List.getElem?_inj (by simpa using hc) hn).mp (h1.trans h2.symm)
theorem bnd_of {D : Dat} {f h k : Nat} {ks : List Str} {ix : List Nat} {d : He.DefD} {kws : List (Str × V)} {a : Addr} {fdt : FuncData} (F : FunD K d.name d.qual d.params d.body d.scope [] kws a fdt) (hs : A.shB f h k ks ix = true)
    (b1 : ∀ (kV doc pm : Value) (an : Option Addr) (cdv ct : Value) (us : List Value), us.length = (A.ps f).length → bindArgs (PySem.W.fnOf d.name d.qual d.params d.body d.scope .none kV doc pm an cdv ct) ⟨us, []⟩ = pure ((A.ps f).zip us))
    (b2 : (f, h, k, ks, ix) ∈ A.kw → ∀ (kV doc pm : Value) (an : Option Addr) (cdv ct : Value) (u0 us ws : List Value), u0.length = h → us.length = k → ws.length = ks.length →
      bindArgs (PySem.W.fnOf d.name d.qual d.params d.body d.scope .none kV doc pm an cdv ct) ⟨u0 ++ us, ks.zip ws⟩ = pure ((A.ps f).zip (u0 ++ ord ix (us ++ ws)))) : Bnd K D (A.fd d f) fdt (A.ps f) h k ks ix := by
  obtain ⟨oc, od, dV, kV, doc, pm, an, cdv, ct, osl, rfl, lk, hcd, hD, hK⟩ := F.ex
  rcases hD with ⟨_, rfl⟩ | ⟨e, _⟩
  · unfold Dta.shB at hs
    simp only [Bool.or_eq_true, Bool.and_eq_true, List.isEmpty_iff, decide_eq_true_eq, List.any_eq_true] at hs
    refine ⟨[], [], [], .nil, fun _ _ => .nil, fun s u0 us ws _ l0 l1 l2 => .of_eq ?_, fun x0 xs l0 l1 => ?_⟩
    · rw [List.append_nil]
      rcases hs with ⟨e1, e2, e3⟩ | ⟨⟨q, hq, e⟩, _⟩
      · subst e1 e2
        have hw : ws = [] := List.length_eq_zero_iff.mp l2
        subst hw
        rw [List.append_nil]
        exact b1 kV doc pm an cdv ct (u0 ++ us) (by rw [List.length_append]; omega)
      · subst e
        exact b2 hq kV doc pm an cdv ct u0 us ws l0 l1 l2
    · rw [List.append_nil]
      have hlen : (x0 ++ ord ix xs).length = (A.ps f).length := by
        rw [List.length_append, l0]
        rcases hs with ⟨e1, e2, e3⟩ | ⟨_, e⟩
        · subst e1 e2
          show h + xs.length = _
          rw [l1]
          simp only [List.length_nil]
          omega
        · rw [ord_len (ix := ix) (l := xs) (l' := List.range (k + ks.length)) (by rw [List.length_range]; exact l1)]
          omega
      exact ⟨pad_full hlen, hlen⟩
  · exact absurd rfl e
/-- what TURN's row lets be said of the head -/
theorem stat_of {h : Heap} {mg : Str → Option Value} {w : World} {Pg : Program} {base : Heap} (B : Bk A K) (X : K.In h) (G : h.Ns mainGlobals mg) (c : He.SaysX A.fa A.dd [] [] A.ex w h K)
    (b1 : ∀ f d, A.dd[f]? = some d → ∀ (kV doc pm : Value) (an : Option Addr) (cdv ct : Value) (us : List Value), us.length = (A.ps f).length → bindArgs (PySem.W.fnOf d.name d.qual d.params d.body d.scope .none kV doc pm an cdv ct) ⟨us, []⟩ = pure ((A.ps f).zip us))
    (b2 : ∀ f d, A.dd[f]? = some d → ∀ h k ks ix, (f, h, k, ks, ix) ∈ A.kw → ∀ (kV doc pm : Value) (an : Option Addr) (cdv ct : Value) (u0 us ws : List Value), u0.length = h → us.length = k → ws.length = ks.length →
      bindArgs (PySem.W.fnOf d.name d.qual d.params d.body d.scope .none kV doc pm an cdv ct) ⟨u0 ++ us, ks.zip ws⟩ = pure ((A.ps f).zip (u0 ++ ord ix (us ++ ws)))) :
    ∃ (D : Dat) (L : Lay), D.K = K ∧ D.T = A.T ∧ Stat A.P L A.defs Pg w K mg base D ∧ ∀ f d, A.dd[f]? = some d → L.ad f = He.fAd K d.at_ ∧ L.psn f = A.ps f ∧ ∃ kws, FunD K d.name d.qual d.params d.body d.scope [] kws (L.ad f) (L.fdt f) := by
  have cd := c.t.d
  have ex := c.more
  unfold Dta.ex at ex
  simp only [Bool.and_eq_true, decide_eq_true_eq, Bool.not_eq_true'] at ex
  obtain ⟨k1, k2, k3, k4, k5, k6, k7, k8, k9⟩ := ex
  have fl := B.fldB
  unfold Dta.fldB at fl
  simp only [Bool.and_eq_true, decide_eq_true_eq] at fl
  obtain ⟨f1, f2, f3, f4⟩ := fl
  have hj := inj_of f3 k5 k6
  have cb := B.callB
  unfold Dta.callB at cb
  simp only [Bool.and_eq_true, decide_eq_true_eq] at cb
  obtain ⟨c1, c2, c3, c4, c5⟩ := cb
  -- facts by name
  have fact : ∀ g : He.Fa, g ∈ A.fa → g.ok K = true := fun g hg => cd.facts hg
  have fFree : ∀ x, x ∈ bltN → mg x = none := fun x hx => He.free_ok X G (fact (.free x) (by unfold Dta.fa; exact List.mem_append_left _ (List.mem_map.mpr ⟨x, hx, rfl⟩)))
  have fGlo : ∀ x, x ∈ A.P.fns → mg x = some (.ref (He.ga K x)) := fun x hx => He.glo_ok X G (fact (.glo x) (by
    unfold Dta.fa
    exact List.mem_append_right _ (List.mem_append_left _ (List.mem_map.mpr ⟨x, hx, rfl⟩))))
  have fCls : ∀ x, x ∈ A.P.cls → mg x = some (.ref (He.ga K x)) ∧ Cls K (He.ga K x) := fun x hx => ⟨He.glo_ok X G (fact (.glo x) (by
    unfold Dta.fa
    exact List.mem_append_right _ (List.mem_append_right _ (List.mem_append_left _ (List.mem_map.mpr ⟨x, hx, rfl⟩))))), He.cls_ok (fact (.cls x) (by
    unfold Dta.fa
    exact List.mem_append_right _ (List.mem_append_right _ (List.mem_append_right _ (List.mem_append_left _ (List.mem_map.mpr ⟨x, hx, rfl⟩))))))⟩
  have fCon : ∀ (k : Nat) (x : Str), A.P.con[k]? = some x → (conFa A.con[k]? x).ok K = true := fun k x hk => fact _ (by
    unfold Dta.fa
    exact List.mem_append_right _ (List.mem_append_right _ (List.mem_append_right _ (List.mem_append_right _ (List.mem_append_left _ (List.mem_map.mpr ⟨(x, k), zipIdx_mem hk, rfl⟩))))))
  have fNo : ∀ (c : Nat) (l : List Str) (f : Str), A.flds[c]? = some l → f ∈ l → NoAttr K (He.ga K (clsN A c)) f := fun c l f hc hf => He.noat_ok (fact (.noat (clsN A c) f) (by
    unfold Dta.fa
    exact List.mem_append_right _ (List.mem_append_right _ (List.mem_append_right _ (List.mem_append_right _ (List.mem_append_right _ (List.mem_flatMap.mpr ⟨(l, c), zipIdx_mem hc, List.mem_map.mpr ⟨f, hf, rfl⟩⟩)))))))
  have clsLt : ∀ {c : Nat}, c < A.P.cls.length → ∃ x, A.P.cls[c]? = some x ∧ x ∈ A.P.cls ∧ caK A K c = He.ga K x ∧ clsN A c = x := fun {c} hc => by
    have e := List.getElem?_eq_getElem hc
    exact ⟨A.P.cls[c], e, List.getElem_mem hc, ca_at e, by unfold clsN; rw [e]; rfl⟩
  -- the function objects
  have H : ∀ f : Nat, ∃ fdt : FuncData, ∀ d : He.DefD, A.dd[f]? = some d → ∃ kws, FunD K d.name d.qual d.params d.body d.scope [] kws (He.fAd K d.at_) fdt := fun f => by
    cases e : A.dd[f]? with
    | none => exact ⟨PySem.W.fnOf Str.empty Str.empty ⟨[], [], none, [], [], none, []⟩ [] ⟨.function, [], false, false, []⟩ .none .none .none .none none .none .none, fun d z => by cases z⟩
    | some d =>
      obtain ⟨fdt, F⟩ := cd.defs (List.mem_of_getElem? e)
      have hd := all_of B.defB (zipIdx_mem e)
      simp only [Bool.and_eq_true, List.isEmpty_iff] at hd
      have e1 : d.dvs K = [] := by
        unfold He.DefD.dvs
        rw [hd.2.1]
        rfl
      rw [e1] at F
      exact ⟨fdt, fun d' z => by cases z; exact ⟨_, F⟩⟩
  let fdt : Nat → FuncData := fun f => Classical.choose (H f)
  have fF : ∀ (f : Nat) (d : He.DefD), A.dd[f]? = some d → ∃ kws, FunD K d.name d.qual d.params d.body d.scope [] kws (He.fAd K d.at_) (fdt f) := fun f => Classical.choose_spec (H f)
  let ad : Nat → Addr := fun f => match A.dd[f]? with
    | some d => He.fAd K d.at_
    | none => 0
  have adE : ∀ (f : Nat) (d : He.DefD), A.dd[f]? = some d → ad f = He.fAd K d.at_ := fun f d e => by
    show (match A.dd[f]? with | some d => He.fAd K d.at_ | none => 0) = _
    rw [e]
  have defE : ∀ (f : Nat) (d : He.DefD), A.dd[f]? = some d → A.defs f = some (A.fd d f) := fun f d e => by
    unfold Dta.defs
    rw [e]
    rfl
  have bnd : ∀ {D : Dat} {f h k : Nat} {ks : List Str} {ix : List Nat} {d : He.DefD}, A.dd[f]? = some d → A.shB f h k ks ix = true → Bnd K D (A.fd d f) (fdt f) (A.ps f) h k ks ix := fun {D f h k ks ix d} e hs => by
    obtain ⟨kws, F⟩ := fF f d e
    exact bnd_of F hs (b1 f d e) (b2 f d e h k ks ix)
  refine ⟨datOf A K hj, ⟨ad, fdt, A.ps⟩, rfl, rfl, ?_, fun f d e => ⟨adE f d e, rfl, by rw [show (Lay.mk ad fdt A.ps).ad f = _ from adE f d e]; exact fF f d e⟩⟩
  refine { hK := rfl, A := ?_, kit := ?_, df := ?_, fnm := ?_, cl := ?_, nwf := ?_, nw0 := ?_, mtf := ?_, cn := ?_, bl := fFree }
  · refine ⟨fun c => ?_, fun c => rfl, fun c => ?_, fun c f k e => ?_⟩
    · show ((A.flds[c]?).getD []).Nodup
      cases e : A.flds[c]? with
      | none => exact List.nodup_nil
      | some l =>
        have := all_of f1 (List.mem_of_getElem? e)
        simp only [Bool.and_eq_true, decide_eq_true_eq] at this
        exact this.1
    · show ((A.flds[c]?).getD []).length < 900
      cases e : A.flds[c]? with
      | none => exact Nat.zero_lt_succ _
      | some l =>
        have := all_of f1 (List.mem_of_getElem? e)
        simp only [Bool.and_eq_true, decide_eq_true_eq] at this
        exact this.2
    · have e' : ixOf ((A.flds[c]?).getD []) (A.P.fldN f) = some k := e
      have h1 := ixOf_at e'
      cases el : A.flds[c]? with
      | none =>
        rw [el] at h1
        simp at h1
      | some l =>
        have hc : c < A.P.cls.length := by
          have := (List.getElem?_eq_some_iff.mp el).1
          omega
        obtain ⟨x, x1, x2, x3, x4⟩ := clsLt hc
        refine ⟨h1, ?_, ?_⟩
        · show Cls K (caK A K c)
          rw [x3]
          exact (fCls x x2).2
        · show NoAttr K (caK A K c) _
          rw [x3, ← x4]
          rw [el] at h1
          exact fNo c l _ el (List.mem_of_getElem? h1)
  · refine ⟨fun a t ha ht => ?_, fun c hc => ?_, He.eqO_ok k3, k4⟩
    · have hm : a ∈ none :: (allTy A).map some := by
        cases a with
        | none => exact List.mem_cons_self ..
        | some a => exact List.mem_cons_of_mem _ (List.mem_map.mpr ⟨a, allTy_mem ha, rfl⟩)
      have z := of_decide_eq_true (all_of (all_of k1 hm) (allTy_mem ht))
      have e1 : dvtV A K a = vtV (datOf A K hj) a := by
        cases a with
        | none => rfl
        | some a => cases a <;> rfl
      have e2 : dtyV A K t = tyV (datOf A K hj) t := by cases t <;> rfl
      rw [e1, e2] at z
      exact z
    · have hc' : c < A.P.cls.length := hc
      obtain ⟨x, x1, x2, x3, x4⟩ := clsLt hc'
      have z := all_of k2 (List.mem_range.mpr hc')
      simp only [Bool.and_eq_true, decide_eq_true_eq] at z
      refine ⟨?_, He.eqO_ok z.1, z.2⟩
      show Cls K (caK A K c)
      rw [x3]
      exact (fCls x x2).2
  · intro f fd e
    unfold Dta.defs at e
    cases ed : A.dd[f]? with
    | none => rw [ed] at e; cases e
    | some d =>
      rw [ed] at e
      cases e
      obtain ⟨kws, F⟩ := fF f d ed
      have hd := all_of B.defB (zipIdx_mem ed)
      simp only [Bool.and_eq_true] at hd
      exact ⟨d.name, d.qual, d.params, d.body, d.scope, [], kws, A.N f, by rw [show (Lay.mk ad fdt A.ps).ad f = _ from adE f d ed]; exact F, scopeB_ok hd.1, rfl, rfl, rfl⟩
  · intro f x e
    have hb := all_of B.fnB (zipIdx_mem e)
    dsimp only at hb
    cases ed : A.dd[f]? with
    | none => rw [ed] at hb; cases hb
    | some d =>
      rw [ed] at hb
      have ha : d.at_ = (x, none) := of_decide_eq_true hb
      obtain ⟨kws, F⟩ := fF f d ed
      have e2 : ad f = He.ga K x := by
        rw [adE f d ed, ha]
        rfl
      refine ⟨A.fd d f, defE f d ed, ?_, ?_, fun k ks ix hm => bnd ed (all_of c1 hm)⟩
      · show mg x = some (.ref (ad f))
        rw [e2]
        exact fGlo x (List.mem_of_getElem? e)
      · show PySem.W.keepIn K (.ref (ad f)) = true
        rw [adE f d ed]
        exact F.kp
  · intro c x e
    show mg x = some (.ref (caK A K c))
    rw [ca_at e]
    exact (fCls x (List.mem_of_getElem? e)).1
  · intro c x k ks ix e hm
    have z1 := all_of c2 hm
    have z2 := all_of k7 hm
    dsimp only at z1 z2
    rw [e] at z2
    cases ei : (A.init[c]?).getD none with
    | none => rw [ei] at z1; cases z1
    | some f =>
      rw [ei] at z1 z2
      simp only [Bool.and_eq_true] at z1 z2
      obtain ⟨d, ed⟩ := Option.isSome_iff_exists.mp z1.1
      rw [ed] at z2
      have ea : He.ma K (He.ga K x) "__init__" = He.fAd K d.at_ := of_decide_eq_true z2.2
      refine ⟨f, A.fd d f, ei, defE f d ed, bnd ed z1.2, ?_⟩
      show Mk K (caK A K c) (ad f)
      rw [ca_at e, adE f d ed, ← ea]
      exact He.mkr_ok z2.1
  · intro c x e hm
    have z1 := of_decide_eq_true (all_of c3 hm)
    have z2 := all_of k8 hm
    simp only [Bool.and_eq_true, decide_eq_true_eq] at z2
    exact ⟨⟨z2.1, He.eqO_ok z2.2.1, z2.2.2.1, z2.2.2.2⟩, z1⟩
  · intro mm x k ks ix e hm c f ef
    have ef' : (((A.meth[c]?).getD [])[mm]?).getD none = some f := ef
    have hc : c < A.meth.length := by
      by_cases z : c < A.meth.length
      · exact z
      · have e0 : A.meth[c]? = none := List.getElem?_eq_none (by omega)
        rw [e0] at ef'
        simp at ef'
    have z1 := all_of (all_of c4 hm) (List.mem_range.mpr hc)
    have z2 := all_of k9 hm
    dsimp only at z1 z2
    rw [e] at z2
    have z3 := all_of z2 (List.mem_range.mpr hc)
    rw [ef'] at z1 z3
    simp only [Bool.and_eq_true, Bool.not_eq_true'] at z1 z3
    obtain ⟨d, ed⟩ := Option.isSome_iff_exists.mp z1.1
    rw [ed] at z3
    have ea : He.ma K (He.ga K (clsN A c)) x = He.fAd K d.at_ := of_decide_eq_true z3.2.1
    obtain ⟨y, y1, y2, y3, y4⟩ := clsLt (Nat.lt_of_lt_of_le hc c5)
    refine ⟨A.fd d f, defE f d ed, bnd ed z1.2, ?_, ?_, ?_⟩
    · show Cls K (caK A K c)
      rw [y3]
      exact (fCls y y2).2
    · show Meth K (caK A K c) x (ad f)
      rw [y3, adE f d ed, ← ea, y4]
      rw [y4] at z3
      exact He.meth_ok z3.1
    · show x ∉ (A.flds[c]?).getD []
      intro hx
      have := List.contains_iff_mem.mpr hx
      rw [z3.2.2] at this
      cases this
  · intro k x e
    have z := fCon k x e
    show ∃ v u, mg x = some u ∧ RelV v u ∧ ∀ i H, RV (datOf A K hj) i H v (((A.con[k]?).map Cn.v).getD .non)
    cases ec : A.con[k]? with
    | none =>
      have h1 := (List.getElem?_eq_some_iff.mp e).1
      rw [List.getElem?_eq_none_iff] at ec
      omega
    | some cn =>
      rw [ec] at z
      cases cn with
      | int i =>
        obtain ⟨t, ht⟩ := He.int_ok X G z
        exact ⟨.int i, _, ht, ⟨t, rfl⟩, fun _ _ => .int i⟩
      | str s =>
        obtain ⟨t, ht⟩ := He.str_ok X G z
        exact ⟨.str ⟨s.toArray⟩, _, ht, ⟨t, rfl⟩, fun _ _ => .str s⟩
end
end U
end Part_U22

section Part_U23
set_option Elab.async false
set_option linter.all false
set_option maxRecDepth 100000
set_option maxHeartbeats 4000000
/-! U23: the end. -/
namespace U
open PySem PySem.Spec PyProof.Rows L2
theorem ints_rel {D : Dat} {i : List Addr} {H : Hp} : ∀ zs : List Int, RVs D i H (zs.map V.int) (zs.map MV.int)
  | [] => .nil
  | z :: zs => .cons (.int z) (ints_rel zs)
/-- what the law's def is asked: the script is a list that stays as it is -/
def Asked (c : List MV → M MV) (zs : List Int) : Prop := ∃ m', c [.ref 0] [.frz (zs.map MV.int)] = .ok (.bl true) m'
section
variable {Pg : Program} {w : World} {K : PySem.W.Frag} {mg mb : Str → Option Value} {n : Nat} {fa a : Addr} {fdt : FuncData} {D : Dat} {c : List MV → M MV} {nm : Str} {st : Shared} {us : List Value} {zs : List Int}
theorem asked_sp {H : Hp} (hS : SqF D.K H a (zs.map V.int)) (hc : Asked c zs) : spOf D 1 c [.ref a] H (fun v _ => v = .bl true) (fun _ _ _ => False) := by
  obtain ⟨m', e⟩ := hc
  refine ⟨rfl, [a], [.frz (zs.map MV.int)], [.ref 0], ⟨rfl, fun k b o e1 e2 => ?_, fun k j b o u e1 e2 e3 e4 l1 l2 => ?_⟩, .cons (.ref rfl) .nil, ?_⟩
  · cases k with
    | zero =>
      cases e1
      cases e2
      exact ⟨_, hS, ints_rel zs⟩
    | succ k => cases e1
  · cases k with
    | zero =>
      cases e3
      cases l1
    | succ k => cases e1
  · rw [e]
    intro i' H' x _ _ q
    cases q
    rfl
/-- one call of the law, from an abstract heap that knows the script at most -/
theorem end_core {H : Hp} (KX : K.In st.heap) (hns : st.heap.Ns mainGlobals mg) (hb : st.heap.Ns builtinsNs mb) (hbb : ∀ y : Str, y ≠ "__name__" → mb y = bootBuiltins y) (hlim : st.heap.NoLimit) (hg : st.gens = #[])
    (ha : st.heap.get? a = some { cls := .type "list", data := .seq us.toArray }) (hr : RoomG n callerA) (F : ∀ base : Heap, FnG Pg w K mg base n fa fdt [nm] (spOf D 1 c)) (hbind : ∀ (s : Shared) (u : Value), BindsTo s fdt ⟨[u], []⟩ [(nm, u)]) (hc : Asked c zs)
    (hS : SqF D.K H a (zs.map V.int)) (hok : HOk Pg w H st.heap) (only : ∀ b, H b = none ∨ (b = a ∧ ∃ o xs, H b = some (.frz o (.lst xs)))) (hK : H a ≠ none → K.lookup a = none) :
    codeAny (model Pg w) callerA (.call (.ref fa) ⟨[.ref a], []⟩) (fun r s' => r = .ok (.ret (.bool true)) ∧ OldK st.heap s'.heap ∧ s'.os = st.os ∧ AllBare s'.gens) st := by
  -- a dict is never the script
  have free : ∀ {b : Addr} {o : Obj} {es : Array DictEntry} {ep : Nat}, st.heap.get? b = some o → o.data = .dict es ep → H b = none := by
    intro b o es ep e d
    rcases only b with z | ⟨rfl, _⟩
    · exact z
    · rw [ha] at e
      cases e
      cases (show Data.seq us.toArray _ = Data.dict es ep from d)
  have ground : ∀ {b : Addr} {f : Str → Option Value}, st.heap.Ns b f → (hidT st.heap H).Ns b f := by
    rintro b f ⟨o, es, ep, e, d, rest⟩
    exact ⟨o, es, ep, hidT_get e (free e d), d, rest⟩
  have KB : K.In (hidT st.heap H) := by
    intro b o e
    refine hidT_get (KX b o e) ?_
    rcases only b with z | ⟨rfl, o', xs, z⟩
    · exact z
    · rw [hK (by rw [z]; exact fun q => nomatch q)] at e
      cases e
  have lim : (hidT st.heap H).NoLimit := by
    obtain ⟨f, l1, l2⟩ := hlim
    exact ⟨f, ground l1, l2⟩
  have md : Mod K mg (hidT st.heap H) := ⟨KB, ground hns, ⟨mb, ground hb, hbb⟩, lim⟩
  have env : Env0 Pg w K mg (hidT st.heap H) callerA [] st H :=
    { frames := rfl, mod := md, bs := fun b o e => of_hidT e, bsz := Nat.le_of_eq (hidT_size _ _), funs := trivial, frf := fun b hb => (List.not_mem_nil hb).elim, hok := hok, bare := .of_eq hg }
  have go := (F (hidT st.heap H)).run callerA [] st H ⟨[.ref a], []⟩ [.ref a] [.ref a] _ _ hr env (hbind st (.ref a)) (.cons rfl .nil) (asked_sp hS hc)
  refine codeAny_mono go ?_
  intro r s' out
  match r, out with
  | .ok (.ret u), out =>
    obtain ⟨v, H', e1, e2, un, hok', rv, q⟩ := out
    have q' : v = .bl true := q
    subst q'
    cases (show u = Value.bool true from rv)
    refine ⟨rfl, OldK.of_keep fun b o e => ?_, e1, e2⟩
    rcases only b with z | ⟨rfl, ob, xs, z⟩
    · exact un.keep b o e z (List.not_mem_nil) (List.not_mem_nil)
    · have z1 := (hok b _ z).1
      have z2 := (hok' b _ (un.frzs b ob _ z)).1
      rw [e] at z1
      cases z1
      exact z2
  | .error e, out =>
    obtain ⟨_, _, _, _, _, _, _, _, _, _, _, _, no⟩ := out
    exact no.elim
theorem end_at (hKD : D.K = K) (KX : K.In st.heap) (hns : st.heap.Ns mainGlobals mg) (hb : st.heap.Ns builtinsNs mb) (hbb : ∀ y : Str, y ≠ "__name__" → mb y = bootBuiltins y) (hlim : st.heap.NoLimit) (hg : st.gens = #[])
    (ha : st.heap.get? a = some { cls := .type "list", data := .seq us.toArray }) (hi : IntsAre us zs) (hl : zs.length ≤ sizeLine) (hr : RoomG n callerA) (F : ∀ base : Heap, FnG Pg w K mg base n fa fdt [nm] (spOf D 1 c)) (hbind : ∀ (s : Shared) (u : Value), BindsTo s fdt ⟨[u], []⟩ [(nm, u)]) (hc : Asked c zs) :
    codeAny (model Pg w) callerA (.call (.ref fa) ⟨[.ref a], []⟩) (fun r s' => r = .ok (.ret (.bool true)) ∧ OldK st.heap s'.heap ∧ s'.os = st.os ∧ AllBare s'.gens) st := by
  have rel := vals_ints hi
  subst hKD
  by_cases hk : ∃ o, D.K.lookup a = some o
  · -- one of the module's own lists
    obtain ⟨o, hk⟩ := hk
    have e := KX a o hk
    rw [ha] at e
    cases e
    refine end_core (H := fun _ => none) KX hns hb hbb hlim hg ha hr F hbind hc (.inr ⟨_, us.toArray, _, hk, rfl, rfl, rfl, ?_, by simpa using rel⟩) (fun b u z => nomatch (show (none : Option HO) = some u from z)) (fun b => .inl rfl) fun z => absurd rfl z
    rw [List.size_toArray, hi.length]
    exact hl
  · have hn : D.K.lookup a = none := by
      cases e : D.K.lookup a with
      | none => rfl
      | some o => exact absurd ⟨o, e⟩ hk
    have at_ : (fun b => if b = a then some (HO.frz { cls := .type "list", data := .seq us.toArray } (.lst (zs.map V.int))) else none) a = some (HO.frz { cls := .type "list", data := .seq us.toArray } (.lst (zs.map V.int))) := if_pos rfl
    refine end_core (H := fun b => if b = a then some (.frz { cls := .type "list", data := .seq us.toArray } (.lst (zs.map V.int))) else none) KX hns hb hbb hlim hg ha hr F hbind hc (.inl ⟨_, at_⟩) (fun b u z => ?_) (fun b => ?_) fun _ => hn
    · by_cases q : b = a
      · subst q
        have z' := at_.symm.trans z
        cases z'
        exact ⟨ha, by rw [List.length_map]; exact hl, us, _, rel, ha⟩
      · cases (show (none : Option HO) = some u from (if_neg q).symm.trans z)
    · by_cases q : b = a
      · exact .inr ⟨q, _, _, if_pos q⟩
      · exact .inl (if_neg q)
end
/-- a law's end, by the data of its program -/
theorem end_walk {l : PySem.W.OpenLaw} {k N : Nat} {q : Program} {loose : List Str} {XP : (Str → Option Value) → Heap → Prop} {d : DefRec} {A : Dta} {W f : Nat} {df : He.DefD} (hn : l.most = some k) (hk : k ≤ sizeLine) (hdf : d.params.defaults = []) (hr : RoomG N callerA)
    (hB : A.defB = true) (hF : A.fldB = true) (hfn : A.fnB = true) (hC : A.callB = true) (hat : A.dd[f]? = some df) (hfx : A.P.fns[f]? = some d.name) (hps : (A.ps f).length = 1)
    (b1 : ∀ f d, A.dd[f]? = some d → ∀ (kV doc pm : Value) (an : Option Addr) (cdv ct : Value) (us : List Value), us.length = (A.ps f).length → bindArgs (PySem.W.fnOf d.name d.qual d.params d.body d.scope .none kV doc pm an cdv ct) ⟨us, []⟩ = pure ((A.ps f).zip us))
    (b2 : ∀ f d, A.dd[f]? = some d → ∀ h k ks ix, (f, h, k, ks, ix) ∈ A.kw → ∀ (kV doc pm : Value) (an : Option Addr) (cdv ct : Value) (u0 us ws : List Value), u0.length = h → us.length = k → ws.length = ks.length →
      bindArgs (PySem.W.fnOf d.name d.qual d.params d.body d.scope .none kV doc pm an cdv ct) ⟨u0 ++ us, ks.zip ws⟩ = pure ((A.ps f).zip (u0 ++ ord ix (us ++ ws))))
    (hlaw : ∀ zs : List Int, zs.length ≤ k → Asked (run A.T W A.defs N f) zs) :
    PySem.W.WalkO q loose XP (fun w h => ∃ K : PySem.W.Frag, K.In h ∧ He.SaysX A.fa A.dd [] [] A.ex w h K) l.row.toRowW d [] (fun f vs => PySem.call f vs) := by
  refine Att.attach_call hn hdf ?_
  intro w s0 st mg mb fa o pm cd doc a us zs G Y ho hd hcd hmg hobj hints hlen hg
  obtain ⟨K, KX, c⟩ := Y
  obtain ⟨D, L, eK, eT, S, hL⟩ := stat_of (Pg := l.prog) (base := st.heap) ⟨hB, hF, hfn, hC⟩ KX G.T.g c b1 b2
  obtain ⟨l1, l2, kws, FD⟩ := hL f df hat
  obtain ⟨nm, hnm1⟩ : ∃ nm, A.ps f = [nm] := List.length_eq_one_iff.mp hps
  have hdefs : A.defs f = some (A.fd df f) := by
    unfold Dta.defs
    rw [hat]
    rfl
  obtain ⟨fdx, hd1, hd2, hd3, hd4⟩ := S.fnm f d.name hfx
  have efa : fa = L.ad f := by
    rw [hmg] at hd2
    cases hd2
    rfl
  have any : ∀ base : Heap, Stat A.P L A.defs l.prog w K mg base D := fun base => ⟨S.hK, S.A, S.kit, S.df, S.fnm, S.cl, S.nwf, S.nw0, S.mtf, S.cn, S.bl⟩
  have F : ∀ base : Heap, FnG l.prog w K mg base N fa (L.fdt f) [nm] (spOf D 1 (run A.T W A.defs N f)) := fun base => by
    have z := lvl (W := W) (any base) N f _ hdefs
    rw [l2, hnm1, eT] at z
    rw [efa]
    exact z
  have hbind : ∀ (s : Shared) (u : Value), BindsTo s (L.fdt f) ⟨[u], []⟩ [(nm, u)] := fun s u => by
    have z := FD.bindsA (ps := A.ps f) (b1 f df hat) s [u] (by rw [hps]; rfl)
    rw [hnm1] at z
    exact z
  exact end_at eK KX G.T.g G.T.b G.T.builtins G.T.nolimit hg hobj hints (Nat.le_trans hlen hk) hr F hbind (hlaw zs hlen)
end U
end Part_U23

section Part_K26H
set_option Elab.async false
set_option linter.all false
set_option maxRecDepth 100000
set_option maxHeartbeats 0
namespace LW
open PySem PySem.Spec PyProof.Rows L2 U
def top (i : Nat) : Stmt := PySem.Challenge.pw_usetally_k26_kinds.main.body.getD i (.Pass ⟨0, 0, 0, 0⟩)
def inCls (s : Stmt) (j : Nat) : Stmt := match s with
  | .ClassDef _ _ _ b _ _ _ _ _ _ _ => b.getD j (.Pass ⟨0, 0, 0, 0⟩)
  | _ => s
def mth (i j : Nat) : Stmt := inCls (top i) j
def d0 : He.DefD := ⟨("is_number", none), "is_number", "is_number", defArgs (top 2), defBody (top 2), defScope (top 2), [], []⟩
def d1 : He.DefD := ⟨("is_kind", none), "is_kind", "is_kind", defArgs (top 3), defBody (top 3), defScope (top 3), [], []⟩
def d2 : He.DefD := ⟨("are_kinds", none), "are_kinds", "are_kinds", defArgs (top 4), defBody (top 4), defScope (top 4), [], []⟩
def d3 : He.DefD := ⟨("is_name", none), "is_name", "is_name", defArgs (top 11), defBody (top 11), defScope (top 11), [], []⟩
def d4 : He.DefD := ⟨("is_whole", none), "is_whole", "is_whole", defArgs (top 12), defBody (top 12), defScope (top 12), [], []⟩
def d5 : He.DefD := ⟨("need_name", none), "need_name", "need_name", defArgs (top 13), defBody (top 13), defScope (top 13), [], []⟩
def d6 : He.DefD := ⟨("_law_state", none), "_law_state", "_law_state", defArgs (top 18), defBody (top 18), defScope (top 18), [], []⟩
def d7 : He.DefD := ⟨("_law_draw", none), "_law_draw", "_law_draw", defArgs (top 19), defBody (top 19), defScope (top 19), [], []⟩
def d8 : He.DefD := ⟨("_law_number", none), "_law_number", "_law_number", defArgs (top 20), defBody (top 20), defScope (top 20), [], []⟩
def d9 : He.DefD := ⟨("_law_kind", none), "_law_kind", "_law_kind", defArgs (top 21), defBody (top 21), defScope (top 21), [], []⟩
def d10 : He.DefD := ⟨("_law_great", none), "_law_great", "_law_great", defArgs (top 22), defBody (top 22), defScope (top 22), [], []⟩
def d11 : He.DefD := ⟨("_law_is_kind", none), "_law_is_kind", "_law_is_kind", defArgs (top 23), defBody (top 23), defScope (top 23), [], []⟩
def d12 : He.DefD := ⟨("_law_spoilt", none), "_law_spoilt", "_law_spoilt", defArgs (top 24), defBody (top 24), defScope (top 24), [], []⟩
def d13 : He.DefD := ⟨("_law_right", none), "_law_right", "_law_right", defArgs (top 25), defBody (top 25), defScope (top 25), [], []⟩
def d14 : He.DefD := ⟨("law", none), "law", "law", defArgs (top 26), defBody (top 26), defScope (top 26), [], []⟩
def d15 : He.DefD := ⟨("Name", (some "__init__")), "__init__", "Name.__init__", defArgs (mth 15 0), defBody (mth 15 0), defScope (mth 15 0), [], []⟩
def d16 : He.DefD := ⟨("Number", (some "__init__")), "__init__", "Number.__init__", defArgs (mth 16 0), defBody (mth 16 0), defScope (mth 16 0), [], []⟩
def d17 : He.DefD := ⟨("Term", (some "parts")), "parts", "Term.parts", defArgs (mth 14 0), defBody (mth 14 0), defScope (mth 14 0), [], []⟩
def d18 : He.DefD := ⟨("Term", (some "told")), "told", "Term.told", defArgs (mth 14 3), defBody (mth 14 3), defScope (mth 14 3), [], []⟩
def d19 : He.DefD := ⟨("Term", (some "text")), "text", "Term.text", defArgs (mth 14 4), defBody (mth 14 4), defScope (mth 14 4), [], []⟩
def d20 : He.DefD := ⟨("Term", (some "depth")), "depth", "Term.depth", defArgs (mth 14 9), defBody (mth 14 9), defScope (mth 14 9), [], []⟩
def d21 : He.DefD := ⟨("Name", (some "told")), "told", "Name.told", defArgs (mth 15 1), defBody (mth 15 1), defScope (mth 15 1), [], []⟩
def d22 : He.DefD := ⟨("Name", (some "text")), "text", "Name.text", defArgs (mth 15 2), defBody (mth 15 2), defScope (mth 15 2), [], []⟩
def d23 : He.DefD := ⟨("Number", (some "told")), "told", "Number.told", defArgs (mth 16 1), defBody (mth 16 1), defScope (mth 16 1), [], []⟩
def d24 : He.DefD := ⟨("Number", (some "text")), "text", "Number.text", defArgs (mth 16 2), defBody (mth 16 2), defScope (mth 16 2), [], []⟩
def dat : Dta where
  P := ⟨["is_number", "is_kind", "are_kinds", "is_name", "is_whole", "need_name", "_law_state", "_law_draw", "_law_number", "_law_kind", "_law_great", "_law_is_kind", "_law_spoilt", "_law_right", "law"], ["Term", "Name", "Number"], ["LETTERS", "MOST_LETTERS"], ["name", "number"], ["parts", "told", "text", "depth"],
    [(0, 1, [], []), (7, 2, [], []), (11, 1, [], []), (6, 1, [], []), (2, 1, [], []), (1, 1, [], []), (3, 1, [], []), (5, 1, [], []), (8, 1, [], []), (9, 2, [], []), (4, 1, [], []), (13, 1, [], []), (1, 0, ["thing"], [0]), (10, 2, [], []), (12, 2, [], [])],
    [(1, 1, [], []), (2, 1, [], [])],
    [(2, 0, [], []), (1, 0, [], []), (3, 0, [], []), (0, 0, [], [])], []⟩
  dd := [d0, d1, d2, d3, d4, d5, d6, d7, d8, d9, d10, d11, d12, d13, d14, d15, d16, d17, d18, d19, d20, d21, d22, d23, d24]
  NN := [["thing"],
    ["thing"],
    ["things", "thing"],
    ["thing", "sign"],
    ["thing"],
    ["thing"],
    ["_law_script", "_law_cells", "_law_cell"],
    ["_law_state_here", "_law_many", "_law_cells", "_law_at", "_law_cell"],
    ["_law_state_here", "_law_way"],
    ["_law_state_here", "_law_deep", "_law_way", "_law_many", "_law_k"],
    ["_law_state_here", "_law_last", "_law_way", "_law_many", "_law_matter", "_law_turn", "_law_some"],
    ["_law_matter", "_law_part"],
    ["_law_state_here", "_law_matter", "_law_way", "_law_at", "_law_some", "_law_words"],
    ["_law_matter", "_law_due", "_law_turn", "_law_found"],
    ["_law_script", "_law_state_here", "_law_matter", "_law_turn", "_law_kind_here"],
    ["self", "name"],
    ["self", "number"],
    ["self"],
    ["self"],
    ["self"],
    ["self", "part"],
    ["self"],
    ["self"],
    ["self"],
    ["self"]]
  np := [1, 1, 1, 1, 1, 1, 1, 2, 1, 2, 2, 1, 2, 1, 1, 2, 2, 1, 1, 1, 1, 1, 1, 1, 1]
  flds := [[], ["name"], ["number"]]
  con := [.str [97, 98, 99, 100, 101, 102, 103, 104, 105, 106, 107, 108, 109, 110, 111, 112, 113, 114, 115, 116, 117, 118, 119, 120, 121, 122], .int 8]
  frozen := [true, true, true]
  init := [none, some 15, some 16]
  meth := [[some 17, some 18, some 19, some 20], [some 17, some 21, some 22, some 20], [some 17, some 23, some 24, some 20]]
  sub := [[true, false, false], [true, true, false], [true, false, true]]
  kw := [(1, 0, 0, ["thing"], [0])]
theorem bind1 : ∀ (f : Nat) (d : He.DefD), dat.dd[f]? = some d → ∀ (kV doc pm : Value) (an : Option Addr) (cdv ct : Value) (us : List Value), us.length = (dat.ps f).length → bindArgs (PySem.W.fnOf d.name d.qual d.params d.body d.scope .none kV doc pm an cdv ct) ⟨us, []⟩ = pure ((dat.ps f).zip us)
  | 0, d, h, _, _, _, _, _, _, us, hl => by
    cases h
    match us, hl with
    | [_], _ => rfl
  | 1, d, h, _, _, _, _, _, _, us, hl => by
    cases h
    match us, hl with
    | [_], _ => rfl
  | 2, d, h, _, _, _, _, _, _, us, hl => by
    cases h
    match us, hl with
    | [_], _ => rfl
  | 3, d, h, _, _, _, _, _, _, us, hl => by
    cases h
    match us, hl with
    | [_], _ => rfl
  | 4, d, h, _, _, _, _, _, _, us, hl => by
    cases h
    match us, hl with
    | [_], _ => rfl
  | 5, d, h, _, _, _, _, _, _, us, hl => by
    cases h
    match us, hl with
    | [_], _ => rfl
  | 6, d, h, _, _, _, _, _, _, us, hl => by
    cases h
    match us, hl with
    | [_], _ => rfl
  | 7, d, h, _, _, _, _, _, _, us, hl => by
    cases h
    match us, hl with
    | [_, _], _ => rfl
  | 8, d, h, _, _, _, _, _, _, us, hl => by
    cases h
    match us, hl with
    | [_], _ => rfl
  | 9, d, h, _, _, _, _, _, _, us, hl => by
    cases h
    match us, hl with
    | [_, _], _ => rfl
  | 10, d, h, _, _, _, _, _, _, us, hl => by
    cases h
    match us, hl with
    | [_, _], _ => rfl
  | 11, d, h, _, _, _, _, _, _, us, hl => by
    cases h
    match us, hl with
    | [_], _ => rfl
  | 12, d, h, _, _, _, _, _, _, us, hl => by
    cases h
    match us, hl with
    | [_, _], _ => rfl
  | 13, d, h, _, _, _, _, _, _, us, hl => by
    cases h
    match us, hl with
    | [_], _ => rfl
  | 14, d, h, _, _, _, _, _, _, us, hl => by
    cases h
    match us, hl with
    | [_], _ => rfl
  | 15, d, h, _, _, _, _, _, _, us, hl => by
    cases h
    match us, hl with
    | [_, _], _ => rfl
  | 16, d, h, _, _, _, _, _, _, us, hl => by
    cases h
    match us, hl with
    | [_, _], _ => rfl
  | 17, d, h, _, _, _, _, _, _, us, hl => by
    cases h
    match us, hl with
    | [_], _ => rfl
  | 18, d, h, _, _, _, _, _, _, us, hl => by
    cases h
    match us, hl with
    | [_], _ => rfl
  | 19, d, h, _, _, _, _, _, _, us, hl => by
    cases h
    match us, hl with
    | [_], _ => rfl
  | 20, d, h, _, _, _, _, _, _, us, hl => by
    cases h
    match us, hl with
    | [_], _ => rfl
  | 21, d, h, _, _, _, _, _, _, us, hl => by
    cases h
    match us, hl with
    | [_], _ => rfl
  | 22, d, h, _, _, _, _, _, _, us, hl => by
    cases h
    match us, hl with
    | [_], _ => rfl
  | 23, d, h, _, _, _, _, _, _, us, hl => by
    cases h
    match us, hl with
    | [_], _ => rfl
  | 24, d, h, _, _, _, _, _, _, us, hl => by
    cases h
    match us, hl with
    | [_], _ => rfl
  | _ + 25, d, h, _, _, _, _, _, _, us, hl => by cases h
theorem bind2 : ∀ (f : Nat) (d : He.DefD), dat.dd[f]? = some d → ∀ (h k : Nat) (ks : List Str) (ix : List Nat), (f, h, k, ks, ix) ∈ dat.kw → ∀ (kV doc pm : Value) (an : Option Addr) (cdv ct : Value) (u0 us ws : List Value), u0.length = h → us.length = k → ws.length = ks.length →
      bindArgs (PySem.W.fnOf d.name d.qual d.params d.body d.scope .none kV doc pm an cdv ct) ⟨u0 ++ us, ks.zip ws⟩ = pure ((dat.ps f).zip (u0 ++ ord ix (us ++ ws))) := by
  intro f d hd h k ks ix hm kV doc pm an cdv ct u0 us ws l0 l1 l2
  have hm2 : (f, h, k, ks, ix) ∈ ([(1, 0, 0, ["thing"], [0])] : List (Nat × Nat × Nat × List Str × List Nat)) := hm
  simp only [List.mem_cons, Prod.mk.injEq, List.not_mem_nil, or_false] at hm2
  rcases hm2 with ⟨rfl, rfl, rfl, rfl, rfl⟩
  · cases hd
    match u0, us, ws, l0, l1, l2 with
    | [], [], [_], _, _, _ => rfl
theorem okD : dat.defB = true := by decide +kernel
theorem okF : dat.fldB = true := by decide +kernel
theorem okN : dat.fnB = true := by decide +kernel
theorem okC : dat.callB = true := by decide +kernel
abbrev rowO : PySem.W.OpenRow := PySem.W.OpenLaw.row PySem.Challenge.rw_usetally_k26_kinds
abbrev hk : PySem.W.Hook := He.hookX 6 dat.fa dat.dd [] [] dat.ex
def ob (s : PySem.W.SharedT) : He.AlX := He.obsX 6 dat.fa dat.dd [] [] dat.ex (HandSHeadRun.getT s)
theorem ob_eq (s : PySem.W.SharedT) : ob s = hk.obs s.abs := He.obsX_eq (HandSHeadRun.getT_eq s)
def loose0 : List Str := ["_wall", "is_number", "is_kind", "are_kinds", "TallyError", "BadTerm", "LETTERS", "MOST_LETTERS", "is_name", "is_whole", "need_name", "Term", "Name", "Number", "_law_state", "_law_draw", "_law_number", "_law_kind", "_law_great", "_law_is_kind", "_law_spoilt", "_law_right"]
abbrev loose : List Str := loose0
theorem head (w : World) : HandSHeadRun.RunEq rowO (PySem.W.view rowO.prog [26]) hk ob 20000 loose w := by
  intro os
  kernel_rfl
end LW
end Part_K26H

section Part_K26B
set_option Elab.async false
set_option linter.all false
set_option maxRecDepth 100000
set_option maxHeartbeats 0
namespace LW
open PySem PySem.Spec PyProof.Rows L2 U
/-- is_number: thing -/
def body0 : List CS := [.ret (.and (.isi (.var 0) [.int]) (.not (.isi (.var 0) [.bool])))]
theorem def0 : dat.defs 0 = some ⟨1, 1, [], body0⟩ := by kernel_rfl
/-- is_kind: thing -/
def body1 : List CS := [.ifs (.call 0 [] [(.var 0)]) [.ret (.bl true)] [], .ifs (.isi (.var 0) [.str]) [.ret (.cmp .Eq (.var 0) (.str [109, 97, 107, 101, 114]))] [], .ifs (.or (.not (.isi (.var 0) [.tup])) (.cmp .NotEq (.blt .len [(.var 0)]) (.int 3))) [.ret (.bl false)] [], .ifs (.or (.not (.isi (.idx (.var 0) (.int 0)) [.str])) (.cmp .NotEq (.idx (.var 0) (.int 0)) (.str [116, 97, 107, 101, 115]))) [.ret (.bl false)] [], .ret (.and (.isi (.idx (.var 0) (.int 1)) [.tup]) (.and (.call 2 [] [(.idx (.var 0) (.int 1))]) (.call 1 [] [(.idx (.var 0) (.int 2))])))]
theorem def1 : dat.defs 1 = some ⟨1, 1, [], body1⟩ := by kernel_rfl
/-- are_kinds: things, thing -/
def body2 : List CS := [.for_ (.one 1) (.of (.var 0)) [.ifs (.not (.call 1 [] [(.var 1)])) [.ret (.bl false)] []], .ret (.bl true)]
theorem def2 : dat.defs 2 = some ⟨1, 2, [], body2⟩ := by kernel_rfl
/-- is_name: thing, sign -/
def body3 : List CS := [.ifs (.or (.not (.isi (.var 0) [.str])) (.not (.chain .LtE .LtE (.int 1) (.blt .len [(.var 0)]) (.con 1)))) [.ret (.bl false)] [], .ret (.blt .all [(.lc (.cmp .In (.var 1) (.con 0)) 1 (.of (.var 0)) [])])]
theorem def3 : dat.defs 3 = some ⟨1, 2, [], body3⟩ := by kernel_rfl
/-- is_whole: thing -/
def body4 : List CS := [.ret (.and (.isi (.var 0) [.int]) (.not (.isi (.var 0) [.bool])))]
theorem def4 : dat.defs 4 = some ⟨1, 1, [], body4⟩ := by kernel_rfl
/-- need_name: thing -/
def body5 : List CS := [.ifs (.not (.call 3 [] [(.var 0)])) [.bad] []]
theorem def5 : dat.defs 5 = some ⟨1, 1, [], body5⟩ := by kernel_rfl
/-- _law_state: _law_script, _law_cells, _law_cell -/
def body6 : List CS := [.asg 1 (.lc (.blt .abs [(.var 2)]) 2 (.of (.slc (.var 0) [] [(.int 63)])) []), .ifs (.cmp .Eq (.blt .len [(.var 1)]) (.int 0)) [.asg 1 (.lst [(.int 5)])] [], .ret (.lst [(.var 1), (.int 0), (.int 1)])]
theorem def6 : dat.defs 6 = some ⟨1, 3, [], body6⟩ := by kernel_rfl
/-- _law_draw: _law_state_here, _law_many, _law_cells, _law_at, _law_cell -/
def body7 : List CS := [.asg 2 (.idx (.var 0) (.int 0)), .asg 3 (.bin .Mod (.idx (.var 0) (.int 1)) (.blt .len [(.var 2)])), .asg 4 (.idx (.var 2) (.var 3)), .ifs (.cmp .GtE (.var 4) (.int 1000000000000000000)) [.seti (.var 2) (.var 3) (.bin .FloorDiv (.var 4) (.var 1)), .ret (.bin .Mod (.var 4) (.var 1))] [], .seti (.var 0) (.int 1) (.bin .Add (.idx (.var 0) (.int 1)) (.int 1)), .seti (.var 0) (.int 2) (.bin .Mod (.bin .Add (.bin .Add (.bin .Mult (.idx (.var 0) (.int 2)) (.int 48271)) (.var 4)) (.int 12345)) (.int 2147483647)), .ret (.bin .Mod (.bin .FloorDiv (.bin .Mod (.bin .Mult (.idx (.var 0) (.int 2)) (.idx (.var 0) (.int 2))) (.int 2147483629)) (.int 16)) (.var 1))]
theorem def7 : dat.defs 7 = some ⟨2, 5, [], body7⟩ := by kernel_rfl
/-- _law_number: _law_state_here, _law_way -/
def body8 : List CS := [.asg 1 (.call 7 [] [(.var 0), (.int 5)]), .ifs (.cmp .Eq (.var 1) (.int 0)) [.ret (.int 0)] [], .ifs (.cmp .Eq (.var 1) (.int 1)) [.ret (.bin .Sub (.call 7 [] [(.var 0), (.bin .Pow (.int 10) (.int 40))]) (.bin .Pow (.int 10) (.int 39)))] [], .ret (.bin .Sub (.call 7 [] [(.var 0), (.int 9)]) (.int 3))]
theorem def8 : dat.defs 8 = some ⟨1, 2, [], body8⟩ := by kernel_rfl
/-- _law_kind: _law_state_here, _law_deep, _law_way, _law_many, _law_k -/
def body9 : List CS := [.asg 2 (.call 7 [] [(.var 0), (.int 5)]), .ifs (.cmp .Eq (.var 2) (.int 0)) [.ret (.str [109, 97, 107, 101, 114])] [], .ifs (.or (.cmp .Lt (.var 2) (.int 3)) (.cmp .Eq (.var 1) (.int 0))) [.ret (.call 8 [] [(.var 0)])] [], .asg 3 (.call 7 [] [(.var 0), (.int 4)]), .ret (.tup [(.str [116, 97, 107, 101, 115]), (.blt .tuple [(.lc (.call 9 [] [(.var 0), (.bin .Sub (.var 1) (.int 1))]) 4 (.rng1 (.var 3)) [])]), (.call 9 [] [(.var 0), (.bin .Sub (.var 1) (.int 1))])])]
theorem def9 : dat.defs 9 = some ⟨2, 5, [], body9⟩ := by kernel_rfl
/-- _law_great: _law_state_here, _law_last, _law_way, _law_many, _law_matter, _law_turn, _law_some -/
def body10 : List CS := [.asg 2 (.call 7 [] [(.var 0), (.int 3)]), .ifs (.cmp .Eq (.var 2) (.int 2)) [.asg 3 (.call 7 [] [(.var 0), (.int 900)]), .ret (.tup [(.str [116, 97, 107, 101, 115]), (.bin .Add (.bin .Mult (.tup [(.tup [(.str [116, 97, 107, 101, 115]), (.tup []), (.call 8 [] [(.var 0)])])]) (.var 3)) (.tup [(.var 1)])), (.call 8 [] [(.var 0)])])] [], .asg 4 (.var 1), .for_ (.one 5) (.rng1 (.call 7 [] [(.var 0), (.int 49)])) [.asg 6 (.call 8 [] [(.var 0)]), .ifs (.cmp .Eq (.call 7 [] [(.var 0), (.int 2)]) (.int 0)) [.asg 4 (.tup [(.str [116, 97, 107, 101, 115]), (.tup [(.var 6), (.var 4), (.var 6)]), (.str [109, 97, 107, 101, 114])])] [.asg 4 (.tup [(.str [116, 97, 107, 101, 115]), (.tup [(.str [109, 97, 107, 101, 114])]), (.var 4)])]], .ret (.var 4)]
theorem def10 : dat.defs 10 = some ⟨2, 7, [], body10⟩ := by kernel_rfl
/-- _law_is_kind: _law_matter, _law_part -/
def body11 : List CS := [.ifs (.or (.isi (.var 0) [.bool]) (.or (.isi (.var 0) [.lst]) (.cmp .Is (.var 0) .non))) [.ret (.bl false)] [], .ifs (.isi (.var 0) [.int]) [.ret (.bl true)] [], .ifs (.isi (.var 0) [.str]) [.ret (.cmp .Eq (.var 0) (.str [109, 97, 107, 101, 114]))] [], .ifs (.or (.cmp .NotEq (.blt .len [(.var 0)]) (.int 3)) (.or (.not (.isi (.idx (.var 0) (.int 0)) [.str])) (.or (.cmp .NotEq (.idx (.var 0) (.int 0)) (.str [116, 97, 107, 101, 115])) (.not (.isi (.idx (.var 0) (.int 1)) [.tup]))))) [.ret (.bl false)] [], .ret (.cmp .NotIn (.bl false) (.lc (.call 11 [] [(.var 1)]) 1 (.of (.bin .Add (.idx (.var 0) (.int 1)) (.tup [(.idx (.var 0) (.int 2))]))) []))]
theorem def11 : dat.defs 11 = some ⟨1, 2, [], body11⟩ := by kernel_rfl
/-- _law_spoilt: _law_state_here, _law_matter, _law_way, _law_at, _law_some, _law_words -/
def body12 : List CS := [.asg 2 (.call 7 [] [(.var 0), (.int 8)]), .ifs (.and (.isi (.var 1) [.tup]) (.and (.cmp .Gt (.blt .len [(.var 1)]) (.int 0)) (.cmp .Gt (.var 2) (.int 1)))) [.asg 3 (.call 7 [] [(.var 0), (.blt .len [(.var 1)])]), .ret (.bin .Add (.bin .Add (.slc (.var 1) [] [(.var 3)]) (.tup [(.call 12 [] [(.var 0), (.idx (.var 1) (.var 3))])])) (.slc (.var 1) [(.bin .Add (.var 3) (.int 1))] []))] [], .ifs (.isi (.var 1) [.tup]) [.asg 3 (.call 7 [] [(.var 0), (.bin .Add (.blt .len [(.var 1)]) (.int 1))]), .asg 4 (.lst [(.bin .Add (.slc (.var 1) [] [(.var 3)]) (.slc (.var 1) [(.bin .Add (.var 3) (.int 1))] [])), (.blt .list [(.var 1)]), (.bin .Add (.var 1) (.tup [(.int 3)]))]), .expr (.bm (.var 4) .append [(.bin .Add (.slc (.var 1) [] [(.bin .Add (.var 3) (.int 1))]) (.slc (.var 1) [(.var 3)] []))]), .expr (.bm (.var 4) .append [(.bin .Add (.bin .Add (.slc (.var 1) [] [(.var 3)]) (.rev (.slc (.var 1) [(.var 3)] [(.bin .Add (.var 3) (.int 2))]))) (.slc (.var 1) [(.bin .Add (.var 3) (.int 2))] []))]), .ret (.idx (.var 4) (.call 7 [] [(.var 0), (.int 5)]))] [], .ifs (.isi (.var 1) [.str]) [.asg 5 (.lst [(.str [108, 111, 111, 107]), (.str [110, 117, 109, 98, 101, 114]), (.str [109, 97, 107, 101, 114]), (.str [116, 97, 107, 101, 115]), (.str [103, 105, 118, 101, 115]), (.str [115, 117, 109]), (.str [99, 104, 111, 105, 99, 101]), (.str [116, 117, 114, 110]), (.str [116, 97, 107, 101]), (.str []), (.str [109, 97, 107]), (.str [108, 111, 111, 107, 107])]), .ret (.idx (.bin .Add (.var 5) (.lst [(.int 0), .non, (.tup [(.str [109, 97, 107, 101, 114])])])) (.call 7 [] [(.var 0), (.int 15)]))] [], .asg 4 (.lst [(.bin .Add (.var 1) (.int 1)), (.bin .Sub (.var 1) (.int 1)), (.neg (.var 1)), (.int 0)]), .ret (.idx (.bin .Add (.var 4) (.lst [(.cmp .Gt (.var 1) (.int 0)), .non, (.tup [(.var 1)]), (.str [109, 97, 107, 101, 114])])) (.var 2))]
theorem def12 : dat.defs 12 = some ⟨2, 6, [], body12⟩ := by kernel_rfl
/-- _law_right: _law_matter, _law_due, _law_turn, _law_found -/
def body13 : List CS := [.asg 1 (.call 11 [] [(.var 0)]), .for_ (.one 2) (.rng1 (.int 2)) [.asg 3 (.call 1 [] [(.var 0)]), .ifs (.or (.not (.isi (.var 3) [.bool])) (.cmp .NotEq (.var 3) (.var 1))) [.ret (.bl false)] []], .ret (.bl true)]
theorem def13 : dat.defs 13 = some ⟨1, 4, [], body13⟩ := by kernel_rfl
/-- law: _law_script, _law_state_here, _law_matter, _law_turn, _law_kind_here -/
def body14 : List CS := [.asg 1 (.call 6 [] [(.var 0)]), .for_ (.one 2) (.of (.lst [(.new 1 [] [(.str [97])]), (.tup [(.str [116, 97, 107, 101, 115]), (.tup [(.new 1 [] [(.str [109, 97, 107, 101, 114])])]), (.int 3)]), (.tup [(.str [116, 97, 107, 101, 115]), (.tup []), (.new 2 [] [(.int 3)])]), (.tup [(.new 1 [] [(.str [116, 97, 107, 101, 115])]), (.tup []), (.int 3)])])) [.ifs (.cmp .IsNot (.call 1 [] [(.var 2)]) (.bl false)) [.ret (.bl false)] []], .for_ (.one 2) (.of (.lst [(.int 3), (.str [109, 97, 107, 101, 114]), (.bl true), .non, (.lst []), (.str [109, 97, 107, 101, 114, 115]), (.tup [(.str [116, 97, 107, 101, 115]), (.lst []), (.int 3)]), (.tup [(.str [116, 97, 107, 101, 115]), (.tup []), (.bl false)])])) [.ifs (.not (.call 13 [] [(.call 10 [] [(.var 1), (.var 2)])])) [.ret (.bl false)] []], .for_ (.one 3) (.rng1 (.int 10)) [.asg 4 (.call 9 [] [(.var 1), (.int 3)]), .ifs (.cmp .IsNot (.call 1 [0] [(.var 4)]) (.bl true)) [.ret (.bl false)] [], .ifs (.or (.not (.call 13 [] [(.var 4)])) (.or (.not (.call 13 [] [(.call 12 [] [(.var 1), (.var 4)])])) (.not (.call 13 [] [(.lst [(.var 4)])])))) [.ret (.bl false)] []], .ret (.bl true)]
theorem def14 : dat.defs 14 = some ⟨1, 5, [], body14⟩ := by kernel_rfl
/-- Name.__init__: self, name -/
def body15 : List CS := [.expr (.call 5 [] [(.var 1)]), .setf (.var 0) 0 (.var 1)]
theorem def15 : dat.defs 15 = some ⟨2, 2, [], body15⟩ := by kernel_rfl
/-- Number.__init__: self, number -/
def body16 : List CS := [.ifs (.not (.call 4 [] [(.var 1)])) [.bad] [], .setf (.var 0) 1 (.var 1)]
theorem def16 : dat.defs 16 = some ⟨2, 2, [], body16⟩ := by kernel_rfl
/-- Term.parts: self -/
def body17 : List CS := [.ret (.lst [])]
theorem def17 : dat.defs 17 = some ⟨1, 1, [], body17⟩ := by kernel_rfl
/-- Term.told: self -/
def body18 : List CS := [.ret (.tup [(.str [111, 112, 101, 110])])]
theorem def18 : dat.defs 18 = some ⟨1, 1, [], body18⟩ := by kernel_rfl
/-- Term.text: self -/
def body19 : List CS := [.ret (.str [95])]
theorem def19 : dat.defs 19 = some ⟨1, 1, [], body19⟩ := by kernel_rfl
/-- Term.depth: self, part -/
def body20 : List CS := [.bad]
theorem def20 : dat.defs 20 = some ⟨1, 2, [], body20⟩ := by kernel_rfl
/-- Name.told: self -/
def body21 : List CS := [.ret (.tup [(.str [110, 97, 109, 101]), (.fld (.var 0) 0)])]
theorem def21 : dat.defs 21 = some ⟨1, 1, [], body21⟩ := by kernel_rfl
/-- Name.text: self -/
def body22 : List CS := [.ret (.fld (.var 0) 0)]
theorem def22 : dat.defs 22 = some ⟨1, 1, [], body22⟩ := by kernel_rfl
/-- Number.told: self -/
def body23 : List CS := [.ret (.tup [(.str [110, 117, 109, 98, 101, 114]), (.fld (.var 0) 1)])]
theorem def23 : dat.defs 23 = some ⟨1, 1, [], body23⟩ := by kernel_rfl
/-- Number.text: self -/
def body24 : List CS := [.ret (.blt .str [(.fld (.var 0) 1)])]
theorem def24 : dat.defs 24 = some ⟨1, 1, [], body24⟩ := by kernel_rfl
end LW
end Part_K26B

section Part_V1
set_option Elab.async false
set_option linter.all false
set_option maxRecDepth 100000
set_option maxHeartbeats 4000000
namespace LW
open U
open PySem (Operator CmpOp)
/-! ### one step each -/
section
variable {T : Tab} {W : Nat} {cl : CallF} {r r' : Env} {m m1 m2 m3 m4 : Mem} {a b c e : CE} {es : List CE} {x y z u v : MV} {vs : List MV} {i k : Nat}
theorem e_var (h : r[i]? = some (.val v)) : evE T cl (.var i) r m = .ok v m := by rw [evE]; unfold look; rw [h]
theorem e_int {n : Int} : evE T cl (.int n) r m = .ok (.int n) m := by rw [evE]
theorem e_str {t : Txt} : evE T cl (.str t) r m = .ok (.str t) m := by rw [evE]
theorem e_bl {t : Bool} : evE T cl (.bl t) r m = .ok (.bl t) m := by rw [evE]
theorem e_non : evE T cl .non r m = .ok .non m := by rw [evE]
theorem e_bin {op : Operator} (ha : evE T cl a r m = .ok x m1) (hb : evE T cl b r m1 = .ok y m2) (h : binop op x y m2 = some (z, m3)) : evE T cl (.bin op a b) r m = .ok z m3 := by
  rw [evE, ha, bind_ok, hb, bind_ok, h]; rfl
theorem e_cmp {op : CmpOp} (ha : evE T cl a r m = .ok x m1) (hb : evE T cl b r m1 = .ok y m2) (h : cmpop op x y m2 = some (z, m3)) : evE T cl (.cmp op a b) r m = .ok z m3 := by
  rw [evE, ha, bind_ok, hb, bind_ok, h]; rfl
theorem e_idx (ha : evE T cl a r m = .ok x m1) (hb : evE T cl b r m1 = .ok y m2) (h : subscr x y m2 = some (z, m3)) : evE T cl (.idx a b) r m = .ok z m3 := by
  rw [evE, ha, bind_ok, hb, bind_ok, h]; rfl
theorem e_neg (ha : evE T cl a r m = .ok x m1) (h : negv x m1 = some (z, m2)) : evE T cl (.neg a) r m = .ok z m2 := by
  rw [evE, ha, bind_ok, h]; rfl
theorem e_not {t : Bool} (ha : evE T cl a r m = .ok x m1) (h : truth m1 x = some t) : evE T cl (.not a) r m = .ok (.bl (!t)) m1 := by
  rw [evE, ha, bind_ok]; unfold onTru; rw [h]
theorem e_and_t (ha : evE T cl a r m = .ok x m1) (h : truth m1 x = some true) : evE T cl (.and a b) r m = evE T cl b r m1 := by
  rw [evE, ha, bind_ok]; unfold onTru; rw [h]; rfl
theorem e_and_f (ha : evE T cl a r m = .ok x m1) (h : truth m1 x = some false) : evE T cl (.and a b) r m = .ok x m1 := by
  rw [evE, ha, bind_ok]; unfold onTru; rw [h]; rfl
theorem e_or_t (ha : evE T cl a r m = .ok x m1) (h : truth m1 x = some true) : evE T cl (.or a b) r m = .ok x m1 := by
  rw [evE, ha, bind_ok]; unfold onTru; rw [h]; rfl
theorem e_or_f (ha : evE T cl a r m = .ok x m1) (h : truth m1 x = some false) : evE T cl (.or a b) r m = evE T cl b r m1 := by
  rw [evE, ha, bind_ok]; unfold onTru; rw [h]; rfl
theorem e_isi {ts : List Ty} {t : Bool} (ha : evE T cl a r m = .ok x m1) (h : tyAny T m1 x ts = some t) : evE T cl (.isi a ts) r m = .ok (.bl t) m1 := by
  rw [evE, ha, bind_ok, h]; rfl
theorem l_nil : evL T cl [] r m = .ok [] m := evL_nil
theorem l_cons (ha : evE T cl e r m = .ok v m1) (hl : evL T cl es r m1 = .ok vs m2) : evL T cl (e :: es) r m = .ok (v :: vs) m2 := by
  rw [evL_cons, ha, bind_ok, hl, bind_ok]
theorem l_one (ha : evE T cl e r m = .ok v m1) : evL T cl [e] r m = .ok [v] m1 := l_cons ha l_nil
theorem e_blt {f : BF} (hl : evL T cl es r m = .ok vs m1) (h : builtin f vs m1 = some (z, m2)) : evE T cl (.blt f es) r m = .ok z m2 := by
  rw [evE, hl, bind_ok, h]; rfl
theorem e_call {f : Nat} {ix : List Nat} (hl : evL T cl es r m = .ok vs m1) (h : cl f (ord ix vs) m1 = .ok v m2) : evE T cl (.call f ix es) r m = .ok v m2 := by
  rw [evE, hl, bind_ok, h]
theorem e_tup (hl : evL T cl es r m = .ok vs m1) (h : vs.length ≤ line) : evE T cl (.tup es) r m = .ok (.tup vs) m1 := by
  rw [evE, hl, bind_ok]; unfold mkTup; rw [if_pos h]; rfl
theorem e_lst (hl : evL T cl es r m = .ok vs m1) (h : vs.length ≤ line) : evE T cl (.lst es) r m = .ok (.ref m1.length) (m1 ++ [.lst vs]) := by
  rw [evE, hl, bind_ok]; unfold mkLst; rw [if_pos h]; rfl
theorem s_asg (he : evE T cl e r m = .ok v m1) : evS T W cl (.asg i e) r m = .nx (r.set i (.val v)) m1 := by rw [evS, he]; rfl
theorem s_ret (he : evE T cl e r m = .ok v m1) : evS T W cl (.ret e) r m = .rt v m1 := by rw [evS, he]; rfl
theorem s_expr (he : evE T cl e r m = .ok v m1) : evS T W cl (.expr e) r m = .nx r m1 := by rw [evS, he]; rfl
theorem s_if_t {p q : List CS} (he : evE T cl e r m = .ok v m1) (h : truth m1 v = some true) : evS T W cl (.ifs e p q) r m = evB T W cl p r m1 := by
  rw [evS, he]; dsimp only [R.st]; unfold onTruS; rw [h]; rfl
theorem s_if_f {p q : List CS} (he : evE T cl e r m = .ok v m1) (h : truth m1 v = some false) : evS T W cl (.ifs e p q) r m = evB T W cl q r m1 := by
  rw [evS, he]; dsimp only [R.st]; unfold onTruS; rw [h]; rfl
theorem s_seti (he : evE T cl e r m = .ok y m1) (ho : evE T cl a r m1 = .ok x m2) (hj : evE T cl b r m2 = .ok z m3) (h : setI x z y m3 = some m4) : evS T W cl (.seti a b e) r m = .nx r m4 := by
  rw [evS, he]; dsimp only [R.st]; rw [ho]; dsimp only; rw [hj]; dsimp only; rw [h]
theorem b_nil : evB T W cl [] r m = .nx r m := evB_nil
theorem b_nx {s : CS} {ss : List CS} (h : evS T W cl s r m = .nx r' m1) : evB T W cl (s :: ss) r m = evB T W cl ss r' m1 := by rw [evB_cons, h]
theorem b_rt {s : CS} {ss : List CS} (h : evS T W cl s r m = .rt v m1) : evB T W cl (s :: ss) r m = .rt v m1 := by rw [evB_cons, h]
/-- an if without an else that isn't taken -/
theorem b_skip {p : List CS} {ss : List CS} (he : evE T cl e r m = .ok v m1) (h : truth m1 v = some false) : evB T W cl (.ifs e p [] :: ss) r m = evB T W cl ss r m1 := b_nx ((s_if_f he h).trans b_nil)
/-- one that ends the def -/
theorem b_ends {p : List CS} {ss : List CS} (he : evE T cl e r m = .ok x m1) (h : truth m1 x = some true) (hp : evB T W cl p r m1 = .rt v m2) : evB T W cl (.ifs e p [] :: ss) r m = .rt v m2 := b_rt ((s_if_t he h).trans hp)
/-- a def at a level -/
theorem run_of {defs : Nat → Option FD} {n f : Nat} {fd : FD} {as : List MV} (h : defs f = some fd) (hl : as.length = fd.np) : run T W defs (n + 1) f as m = (evB T W (run T W defs n) fd.body (entry fd as) m).out m := by
  show (match defs f with
    | some fd => if (pad fd as).length = fd.np then (evB T W (run T W defs n) fd.body (entry fd (pad fd as)) m).out m else .fail
    | none => .fail) = _
  rw [h]
  dsimp only
  rw [pad_full hl, if_pos hl]
end
theorem okOld_of {n : Nat} : ∀ {m0 m : List MO}, m0.length ≤ m.length → (∀ (k : Nat) (o : MO), k < m0.length → m[k]? = some o → m0[k]? = some o ∨ o.low n = true) → okOld n m0 m = true
  | [], _, _, _ => by simp [okOld]
  | a :: as, [], h, _ => by simp at h
  | a :: as, b :: bs, h, hk => by
    have h0 := hk 0 b (by simp) rfl
    have ih := okOld_of (n := n) (m0 := as) (m := bs) (by simpa using h) fun k o hk' e => by
      have := hk (k + 1) o (by simpa using hk') (by simpa using e)
      simpa using this
    unfold okOld
    rw [ih, Bool.and_true]
    rcases h0 with e | e
    · have : a = b := by simpa using e
      simp [this]
    · simp [e]
theorem lows_ints {n : Nat} : ∀ cs : List Int, MV.lows n (cs.map MV.int) = true
  | [] => rfl
  | c :: cs => by
    show (MV.low n (.int c) && MV.lows n (cs.map MV.int)) = true
    rw [lows_ints cs]
    rfl
theorem atI0 {α : Type} {x : α} {xs : List α} : L2.atI (x :: xs) 0 = some x := L2.atI_nat (j := 0) rfl
theorem atI1 {α : Type} {x y : α} {xs : List α} : L2.atI (x :: y :: xs) 1 = some y := L2.atI_nat (j := 1) rfl
theorem atI2 {α : Type} {x y z : α} {xs : List α} : L2.atI (x :: y :: z :: xs) 2 = some z := L2.atI_nat (j := 2) rfl
theorem ix1 : L2.ixN 3 1 = some 1 := by decide
theorem ix2 : L2.ixN 3 2 = some 2 := by decide
theorem ixN_ok {n k : Nat} (h : k < n) : L2.ixN n (k : Int) = some k := by
  unfold L2.ixN
  rw [if_pos (by omega), if_pos (by omega)]
  simp
/-- the state that draws are taken from -/
structure St (m : Mem) (s c : Nat) (cs : List Int) (i j : Int) : Prop where
  at_s : m[s]? = some (.lst [.ref c, .int i, .int j])
  at_c : m[c]? = some (.lst (cs.map .int))
  ne : s ≠ c
  some_ : cs ≠ []
  nn : ∀ z ∈ cs, 0 ≤ z
  hi : 0 ≤ i
  hj : 0 ≤ j
  hj2 : j < 2147483647
structure Sd (m : Mem) (s c : Nat) : Prop where
  ex : ∃ cs i j, St m s c cs i j
/-- what a draw leaves -/
structure Left (m m' : Mem) (s c : Nat) : Prop where
  st : Sd m' s c
  len : m'.length = m.length
  old : ∀ k, k ≠ s → k ≠ c → m'[k]? = m[k]?
theorem out_low {v : MV} {m mm : Mem} (h : okOld m.length m mm = true) (l : v.low m.length = true) : (RS.rt v mm).out m = .ok v (mm.take m.length) := by
  show gcV m v mm = _
  unfold gcV
  rw [if_pos h, if_pos l]
/-- the end of a draw -/
theorem draw_end {m mm : Mem} {s c : Nat} {cs cs' : List Int} {i j i' j' r : Int} (h : St m s c cs i j) (hl : mm.length = m.length) (h' : St mm s c cs' i' j') (old : ∀ k, k ≠ s → k ≠ c → mm[k]? = m[k]?) : (RS.rt (.int r) mm).out m = .ok (.int r) mm ∧ Left m mm s c := by
  have hcl : c < m.length := (List.getElem?_eq_some_iff.mp h.at_c).1
  refine ⟨?_, ⟨⟨cs', i', j', h'⟩, hl, old⟩⟩
  rw [out_low (okOld_of (by omega) fun k o hk e => ?_) rfl, List.take_of_length_le (by omega)]
  by_cases h1 : k = s
  · subst h1
    rw [h'.at_s] at e
    cases e
    refine .inr ?_
    simp [MO.low, MV.lows, MV.low, hcl]
  · by_cases h2 : k = c
    · subst h2
      rw [h'.at_c] at e
      cases e
      exact .inr (lows_ints _)
    · rw [old k h1 h2] at e
      exact .inl e
theorem mul_of {p q : Int} {mm : Mem} (k : Nat) (hk : 60000 = k) (h1 : p.natAbs < 2 ^ k) (h2 : q.natAbs < 2 ^ k) : binop .Mult (.int p) (.int q) mm = some (.int (p * q), mm) := by
  unfold binop
  rw [hk]
  exact if_pos ⟨h1, h2⟩
theorem mul_ok {p q : Int} {mm : Mem} (h1 : p.natAbs < 2 ^ 31) (h2 : q.natAbs < 2 ^ 31) : binop .Mult (.int p) (.int q) mm = some (.int (p * q), mm) := by
  obtain ⟨k, hk⟩ : ∃ k : Nat, 60000 = k := ⟨_, rfl⟩
  have h31 : 31 ≤ k := by omega
  exact mul_of k hk (Nat.lt_of_lt_of_le h1 (Nat.pow_le_pow_right (by decide) h31)) (Nat.lt_of_lt_of_le h2 (Nat.pow_le_pow_right (by decide) h31))
theorem draw_ok {n W : Nat} {m : Mem} {s c : Nat} {many : Int} (h : Sd m s c) (h1 : 1 ≤ many) (h2 : many < 2 ^ 300) : ∃ r m', run dat.T W dat.defs (n + 1) 7 [.ref s, .int many] m = .ok (.int r) m' ∧ 0 ≤ r ∧ r < many ∧ Left m m' s c := by
  obtain ⟨cs, i, j, h⟩ := h.ex
  have hs := h.at_s
  have hc := h.at_c
  have hlen : 0 < (cs.length : Int) := by
    have := List.length_pos_iff.mpr h.some_
    omega
  obtain ⟨k, hk, hk2⟩ : ∃ k : Nat, i % (cs.length : Int) = k ∧ k < cs.length := by
    refine ⟨(i % (cs.length : Int)).toNat, ?_, ?_⟩
    · have := Int.emod_nonneg i (show (cs.length : Int) ≠ 0 by omega)
      omega
    · have := Int.emod_lt_of_pos i hlen
      have := Int.emod_nonneg i (show (cs.length : Int) ≠ 0 by omega)
      omega
  obtain ⟨z, hz⟩ : ∃ z, cs[k]? = some z := ⟨_, List.getElem?_eq_getElem hk2⟩
  have hz0 : 0 ≤ z := h.nn z (List.mem_of_getElem? hz)
  have hat : L2.atI (cs.map MV.int) (k : Int) = some (.int z) := L2.atI_nat (by rw [List.getElem?_map, hz]; rfl)
  have hix : L2.ixN cs.length (k : Int) = some k := ixN_ok hk2
  have hsl : s < m.length := (List.getElem?_eq_some_iff.mp hs).1
  have hcl : c < m.length := (List.getElem?_eq_some_iff.mp hc).1
  have hne := h.ne
  rw [run_of def7 rfl]
  have len_ : builtin .len [.ref c] m = some (.int cs.length, m) := by
    show (match m[c]? with | some (.lst xs) => some (MV.int xs.length, m) | some (.frz xs) => some (MV.int xs.length, m) | _ => none) = _
    rw [hc]
    simp
  have get_s : ∀ {mm : Mem} {xs : List MV} {q : Int} {v : MV}, mm[s]? = some (.lst xs) → L2.atI xs q = some v → subscr (.ref s) (.int q) mm = some (v, mm) := fun {mm xs q v} e1 e2 => by
    show (match mm[s]? with | some (.lst xs) => (match L2.atI xs q with | some y => some (y, mm) | none => none) | some (.frz xs) => (match L2.atI xs q with | some y => some (y, mm) | none => none) | _ => none) = _
    rw [e1]
    dsimp only
    rw [e2]
  have get_c : subscr (.ref c) (.int k) m = some (.int z, m) := by
    show (match m[c]? with | some (.lst xs) => (match L2.atI xs k with | some y => some (y, m) | none => none) | some (.frz xs) => (match L2.atI xs k with | some y => some (y, m) | none => none) | _ => none) = _
    rw [hc]
    dsimp only
    rw [hat]
  have mod_i : binop .Mod (.int i) (.int cs.length) m = some (.int k, m) := by
    show (if 0 < (cs.length : Int) then some (MV.int (i % (cs.length : Int)), m) else none) = _
    rw [if_pos hlen, hk]
  have hz3 : evB dat.T W (run dat.T W dat.defs n) body7 (entry ⟨2, 5, [], body7⟩ [.ref s, .int many]) m = evB dat.T W (run dat.T W dat.defs n) (body7.drop 3) [.val (.ref s), .val (.int many), .val (.ref c), .val (.int k), .val (.int z)] m :=
    (b_nx (s_asg (e_idx (e_var rfl) e_int (get_s hs atI0)))).trans
      ((b_nx (s_asg (e_bin (e_idx (e_var rfl) e_int (get_s hs atI1)) (e_blt (l_one (e_var rfl)) len_) mod_i))).trans
        (b_nx (s_asg (e_idx (e_var rfl) (e_var rfl) get_c))))
  have hlt : k < (cs.map MV.int).length := by rw [List.length_map]; exact hk2
  rw [show (FD.body ⟨2, 5, [], body7⟩) = body7 from rfl, hz3]
  by_cases hb : (1000000000000000000 : Int) ≤ z
  · -- a digit of a great cell
    have st1 : setI (.ref c) (.int k) (.int (z / many)) m = some (m.set c (.lst ((cs.map MV.int).set k (.int (z / many))))) := by
      show (match m[c]? with | some (.lst xs) => (L2.ixN xs.length (k : Int)).map fun q => m.set c (.lst (xs.set q (.int (z / many)))) | _ => none) = _
      rw [hc]
      dsimp only
      rw [ixN_ok hlt]
      rfl
    have e1 : evB dat.T W (run dat.T W dat.defs n) (body7.drop 3) [.val (.ref s), .val (.int many), .val (.ref c), .val (.int k), .val (.int z)] m = .rt (.int (z % many)) (m.set c (.lst ((cs.map MV.int).set k (.int (z / many))))) :=
      b_ends (e_cmp (e_var rfl) e_int rfl) (by show some (decide ((1000000000000000000 : Int) ≤ z)) = some true; rw [decide_eq_true hb]) ((b_nx (s_seti (e_bin (e_var rfl) (e_var rfl) (by
        show (if 0 < many ∧ many < 2 ^ 300 then some (MV.int (z / many), m) else none) = _
        rw [if_pos ⟨by omega, h2⟩])) (e_var rfl) (e_var rfl) st1)).trans (b_rt (s_ret (e_bin (e_var rfl) (e_var rfl) (by
        show (if 0 < many then some (MV.int (z % many), _) else none) = _
        rw [if_pos (by omega)])))))
    rw [e1]
    have h' : St (m.set c (.lst ((cs.map MV.int).set k (.int (z / many))))) s c (cs.set k (z / many)) i j := by
      refine ⟨by rw [List.getElem?_set_ne (Ne.symm hne)]; exact hs, ?_, hne, by simpa using h.some_, fun y hy => ?_, h.hi, h.hj, h.hj2⟩
      · rw [List.getElem?_set_self hcl, List.map_set]
      · rcases List.mem_or_eq_of_mem_set hy with q | q
        · exact h.nn y q
        · subst q
          exact Int.ediv_nonneg hz0 (by omega)
    obtain ⟨a1, a2⟩ := draw_end (r := z % many) h (by rw [List.length_set]) h' fun q q1 q2 => List.getElem?_set_ne (Ne.symm q2)
    exact ⟨_, _, a1, Int.emod_nonneg _ (by omega), Int.emod_lt_of_pos _ (by omega), a2⟩
  · -- a mixed number
    have set_s : ∀ {mm : Mem} {u v w : MV} {q : Nat} {y : MV}, q < 3 → mm[s]? = some (.lst [u, v, w]) → setI (.ref s) (.int (q : Int)) y mm = some (mm.set s (.lst ([u, v, w].set q y))) := fun {mm u v w q y} hq e => by
      show (match mm[s]? with | some (.lst xs) => (L2.ixN xs.length (q : Int)).map fun q => mm.set s (.lst (xs.set q y)) | _ => none) = _
      rw [e]
      dsimp only
      rw [ixN_ok (show q < [u, v, w].length from hq)]
      rfl
    have mul : ∀ {p q : Int} {mm : Mem}, p.natAbs < 2 ^ 31 → q.natAbs < 2 ^ 31 → binop .Mult (.int p) (.int q) mm = some (.int (p * q), mm) := fun {p q mm} h1 h2 => mul_ok h1 h2
    have mod : ∀ {p q : Int} {mm : Mem}, 0 < q → binop .Mod (.int p) (.int q) mm = some (.int (p % q), mm) := fun {p q mm} h1 => by
      show (if 0 < q then some (MV.int (p % q), mm) else none) = _
      rw [if_pos h1]
    have div : ∀ {p q : Int} {mm : Mem}, 0 < q → q < 2 ^ 300 → binop .FloorDiv (.int p) (.int q) mm = some (.int (p / q), mm) := fun {p q mm} h1 h2 => by
      show (if 0 < q ∧ q < 2 ^ 300 then some (MV.int (p / q), mm) else none) = _
      rw [if_pos ⟨h1, h2⟩]
    have hj := h.hj
    have hj2 := h.hj2
    let m1 := m.set s (.lst [.ref c, .int (i + 1), .int j])
    have s1 : m1[s]? = some (.lst [.ref c, .int (i + 1), .int j]) := List.getElem?_set_self hsl
    let j2 := (j * 48271 + z + 12345) % 2147483647
    have j0 : 0 ≤ j2 := Int.emod_nonneg _ (by decide)
    have j1 : j2 < 2147483647 := Int.emod_lt_of_pos _ (by decide)
    let m2 := m1.set s (.lst [.ref c, .int (i + 1), .int j2])
    have hsl1 : s < m1.length := by rw [show m1.length = m.length from List.length_set]; exact hsl
    have s2 : m2[s]? = some (.lst [.ref c, .int (i + 1), .int j2]) := List.getElem?_set_self hsl1
    have e1 : evB dat.T W (run dat.T W dat.defs n) (body7.drop 3) [.val (.ref s), .val (.int many), .val (.ref c), .val (.int k), .val (.int z)] m = .rt (.int (j2 * j2 % 2147483629 / 16 % many)) m2 :=
      (b_skip (e_cmp (e_var rfl) e_int rfl) (by show some (decide ((1000000000000000000 : Int) ≤ z)) = some false; rw [decide_eq_false hb])).trans
        ((b_nx (s_seti (e_bin (e_idx (e_var rfl) e_int (get_s hs atI1)) e_int rfl) (e_var rfl) e_int (set_s (q := 1) (by decide) hs))).trans
          ((b_nx (s_seti (e_bin (e_bin (e_bin (e_bin (e_idx (e_var rfl) e_int (get_s s1 atI2)) e_int (mul (by omega) (by decide))) (e_var rfl) rfl) e_int rfl) e_int (mod (by decide))) (e_var rfl) e_int (set_s (q := 2) (by decide) s1))).trans
            (b_rt (s_ret (e_bin (e_bin (e_bin (e_bin (e_idx (e_var rfl) e_int (get_s s2 atI2)) (e_idx (e_var rfl) e_int (get_s s2 atI2)) (mul (by omega) (by omega))) e_int (mod (by decide))) e_int (div (by decide) (by decide))) (e_var rfl) (mod (by omega)))))))
    rw [e1]
    have h' : St m2 s c cs (i + 1) j2 := by
      refine ⟨s2, ?_, hne, h.some_, h.nn, by have := h.hi; omega, j0, j1⟩
      show ((m.set s _).set s _)[c]? = _
      rw [List.getElem?_set_ne hne, List.getElem?_set_ne hne]
      exact hc
    obtain ⟨a1, a2⟩ := draw_end (r := j2 * j2 % 2147483629 / 16 % many) h (show m2.length = m.length by show ((m.set s _).set s _).length = _; rw [List.length_set, List.length_set]) h' fun q q1 q2 => by
      show ((m.set s _).set s _)[q]? = _
      rw [List.getElem?_set_ne (Ne.symm q1), List.getElem?_set_ne (Ne.symm q1)]
    exact ⟨_, _, a1, Int.emod_nonneg _ (by omega), Int.emod_lt_of_pos _ (by omega), a2⟩
end LW
end Part_V1

section Part_V2
set_option Elab.async false
set_option linter.all false
set_option maxRecDepth 300000
set_option maxHeartbeats 4000000
namespace LW
open U
open PySem (Operator CmpOp)
/-- a thing of depth d at most -/
def Th (q : Bool) (m : Mem) : Nat → MV → Prop
  | 0, v => match v with
    | .tup _ => False
    | .ref n => ∃ xs, m[n]? = some (.lst xs)
    | .obj c _ => q = true ∧ c < 3
    | _ => True
  | d + 1, v => match v with
    | .tup xs => xs.length ≤ 20000 ∧ ∀ x ∈ xs, Th q m d x
    | .ref n => ∃ xs, m[n]? = some (.lst xs)
    | .obj c _ => q = true ∧ c < 3
    | _ => True
theorem Th.up {q : Bool} {m : Mem} : ∀ {d : Nat} {v : MV}, Th q m d v → Th q m (d + 1) v
  | 0, v, h => by
    cases v with
    | tup xs => exact h.elim
    | _ => exact h
  | d + 1, v, h => by
    cases v with
    | tup xs => exact ⟨h.1, fun x hx => Th.up (h.2 x hx)⟩
    | _ => exact h
theorem Th.le {q : Bool} {m : Mem} {d e : Nat} {v : MV} (h : Th q m d v) (hde : d ≤ e) : Th q m e v := by
  obtain ⟨k, rfl⟩ := Nat.exists_eq_add_of_le hde
  clear hde
  induction k with
  | zero => exact h
  | succ k ih => exact Th.up ih
/-- lists stay lists -/
def Keeps (m m' : Mem) : Prop := ∀ (n : Nat) (xs : List MV), m[n]? = some (.lst xs) → ∃ ys, m'[n]? = some (.lst ys)
theorem Th.keeps {q : Bool} {m m' : Mem} (k : Keeps m m') : ∀ {d : Nat} {v : MV}, Th q m d v → Th q m' d v
  | 0, v, h => by
    cases v with
    | ref n => obtain ⟨xs, e⟩ := h; exact k n xs e
    | _ => exact h
  | d + 1, v, h => by
    cases v with
    | tup xs => exact ⟨h.1, fun x hx => Th.keeps k (h.2 x hx)⟩
    | ref n => obtain ⟨xs, e⟩ := h; exact k n xs e
    | _ => exact h
def kd (v : MV) (t : Ty) : Bool := match v with
  | .bl _ => decide (t = .bool ∨ t = .int)
  | .int _ => decide (t = .int)
  | .str _ => decide (t = .str)
  | .tup _ => decide (t = .tup)
  | .ref _ => decide (t = .lst)
  | _ => false
theorem ty1 {q : Bool} {m : Mem} {d : Nat} {v : MV} {t : Ty} (h : Th q m d v) (ht : t = .int ∨ t = .bool ∨ t = .str ∨ t = .tup ∨ t = .lst) : tyAny dat.T m v [t] = some (kd v t) := by
  have hi : tyIn dat.T t = true := by rcases ht with rfl | rfl | rfl | rfl | rfl <;> rfl
  have go : ∀ {a : Option Ty}, vty dat.T m v = some a → tyAny dat.T m v [t] = some (isTy dat.T a t || false) := fun {a} e => by
    unfold tyAny tyIs
    rw [e]
    dsimp only
    rw [if_pos hi]
    rfl
  cases v with
  | non => rw [go (a := none) rfl]; rfl
  | bl b => rw [go (a := some .bool) rfl]; rcases ht with rfl | rfl | rfl | rfl | rfl <;> rfl
  | int i => rw [go (a := some .int) rfl]; rcases ht with rfl | rfl | rfl | rfl | rfl <;> rfl
  | str x => rw [go (a := some .str) rfl]; rcases ht with rfl | rfl | rfl | rfl | rfl <;> rfl
  | tup xs => rw [go (a := some .tup) rfl]; rcases ht with rfl | rfl | rfl | rfl | rfl <;> rfl
  | obj c fs =>
    have hc : c < 3 := by cases d <;> exact h.2
    have e : vty dat.T m (.obj c fs) = some (some (.own c)) := by
      show (if c < 3 then some (some (Ty.own c)) else none) = _
      rw [if_pos hc]
    rw [go e]
    rcases ht with rfl | rfl | rfl | rfl | rfl <;> rfl
  | ref n =>
    obtain ⟨xs, hx⟩ : ∃ xs, m[n]? = some (.lst xs) := by cases d <;> exact h
    have e : vty dat.T m (.ref n) = some (some .lst) := by
      show (match m[n]? with
        | some (.lst _) => some (some Ty.lst)
        | some (.frz _) => some (some Ty.lst)
        | some (.dct _) => some (some Ty.dct)
        | some (.ins c _) => if c < dat.T.ncls then some (some (Ty.own c)) else none
        | _ => none) = _
      rw [hx]
    rw [go e]
    rcases ht with rfl | rfl | rfl | rfl | rfl <;> rfl
/-- nothing has changed -/
theorem out_same {v : MV} {m : Mem} (l : v.low m.length = true) : (RS.rt v m).out m = .ok v m := by
  rw [out_low (okOld_of (Nat.le_refl _) fun k o _ e => .inl e) l, List.take_length]
def isI : MV → Bool
  | .int _ => true
  | _ => false
section
variable {q : Bool} {n W d : Nat} {m : Mem} {v : MV}
theorem num_ok (h : Th q m d v) : run dat.T W dat.defs (n + 1) 0 [v] m = .ok (.bl (isI v)) m := by
  rw [run_of def0 rfl]
  have h1 := ty1 (t := .int) h (.inl rfl)
  have h2 := ty1 (t := .bool) h (.inr (.inl rfl))
  have e : evB dat.T W (run dat.T W dat.defs n) body0 (entry ⟨1, 1, [], body0⟩ [v]) m = .rt (.bl (isI v)) m := by
    refine b_rt (s_ret ?_)
    cases hk : kd v .int with
    | false =>
      rw [hk] at h1
      rw [e_and_f (e_isi (e_var rfl) h1) rfl]
      cases v with
      | int i => cases hk
      | _ => rfl
    | true =>
      rw [hk] at h1
      rw [e_and_t (e_isi (e_var rfl) h1) rfl, e_not (e_isi (e_var rfl) h2) rfl]
      cases v with
      | int i => rfl
      | bl b => rfl
      | _ => cases hk
  rw [show (FD.body ⟨1, 1, [], body0⟩) = body0 from rfl, e, out_same rfl]

/-! ### kinds -/
def sMaker : Txt := [109, 97, 107, 101, 114]
def sTakes : Txt := [116, 97, 107, 101, 115]
def isTk : MV → Bool
  | .str x => decide (x = sTakes)
  | _ => false
mutual
def isK : MV → Bool
  | .int _ => true
  | .str x => decide (x = sMaker)
  | .tup xs => isK3 xs
  | _ => false
def isK3 : List MV → Bool
  | [a, b, c] => isTk a && (isKt b && isK c)
  | _ => false
def isKt : MV → Bool
  | .tup ks => isKs ks
  | _ => false
def isKs : List MV → Bool
  | [] => true
  | k :: ks => isK k && isKs ks
end
theorem peq_str {x y : Txt} : peq m (.str x) (.str y) = some (decide (x = y)) := by
  unfold peq
  rw [if_pos (show plainEq (.str x) (.str y) = true from rfl)]
  by_cases h : x = y
  · subst h; simp
  · rw [decide_eq_false h, decide_eq_false (fun e => h (by injection e))]
theorem cmp_eq {x y : Txt} : cmpop .Eq (.str x) (.str y) m = some (.bl (decide (x = y)), m) := by
  show okb (peq m (.str x) (.str y)) m = _
  rw [peq_str]
  rfl
theorem cmp_ne {x y : Txt} : cmpop .NotEq (.str x) (.str y) m = some (.bl (!decide (x = y)), m) := by
  show okb ((peq m (.str x) (.str y)).map (!·)) m = _
  rw [peq_str]
  rfl
theorem peq_int {x y : Int} : peq m (.int x) (.int y) = some (decide (x = y)) := by
  unfold peq
  rw [if_pos (show plainEq (.int x) (.int y) = true from rfl)]
  by_cases h : x = y
  · subst h; simp
  · rw [decide_eq_false h, decide_eq_false (fun e => h (by injection e))]
theorem cmp_eqi {x y : Int} : cmpop .Eq (.int x) (.int y) m = some (.bl (decide (x = y)), m) := by
  show okb (peq m (.int x) (.int y)) m = _
  rw [peq_int]
  rfl
theorem cmp_nei {x y : Int} : cmpop .NotEq (.int x) (.int y) m = some (.bl (!decide (x = y)), m) := by
  show okb ((peq m (.int x) (.int y)).map (!·)) m = _
  rw [peq_int]
  rfl
theorem at_tup {xs : List MV} {k : Nat} {y : MV} (h : xs[k]? = some y) : subscr (.tup xs) (.int (k : Int)) m = some (y, m) := by
  show (match L2.atI xs (k : Int) with | some y => some (y, m) | none => none) = _
  rw [L2.atI_nat h]
theorem are_ok (hk : ∀ {n : Nat} {m : Mem} {v : MV}, 2 * d + 2 ≤ n → Th q m d v → run dat.T W dat.defs n 1 [v] m = .ok (.bl (isK v)) m) : ∀ {n : Nat} {m : Mem} {ks : List MV}, 2 * d + 3 ≤ n → (∀ k ∈ ks, Th q m d k) → run dat.T W dat.defs n 2 [.tup ks] m = .ok (.bl (isKs ks)) m := by
    intro n m ks hn hks
    obtain ⟨n, rfl⟩ : ∃ k, n = k + 1 := ⟨n - 1, by omega⟩
    rw [run_of def2 rfl]
    have go : ∀ (l : List MV) (r : Env) (w : Walked), w.src = none → r.length = 2 → (∀ k ∈ l, Th q m d k) → ∃ r', r'.length = 2 ∧
        forGo w (fun x r' m' => match (Tg.one 1).put x r' with | some r2 => evB dat.T W (run dat.T W dat.defs n) [.ifs (.not (.call 1 [] [(.var 1)])) [.ret (.bl false)] []] r2 m' | none => .fail) l r m = if isKs l = true then .nx r' m else .rt (.bl false) m := by
      intro l
      induction l with
      | nil =>
        intro r w hw hr _
        refine ⟨r, hr, ?_⟩
        unfold forGo Walked.still
        rw [hw]
        rfl
      | cons k l ih =>
        intro r w hw hr hl
        obtain ⟨r', hr', ih⟩ := ih (r.set 1 (.val k)) w hw (by rw [List.length_set]; exact hr) fun x hx => hl x (List.mem_cons_of_mem _ hx)
        refine ⟨r', hr', ?_⟩
        have e1 : (r.set 1 (.val k))[1]? = some (.val k) := List.getElem?_set_self (by omega)
        have hc := hk (n := n) (m := m) (v := k) (by omega) (hl k (List.mem_cons_self ..))
        have ecall := e_call (T := dat.T) (cl := run dat.T W dat.defs n) (f := 1) (ix := []) (l_one (e_var e1)) hc
        unfold forGo
        have st : w.still m = true := by unfold Walked.still; rw [hw]
        rw [if_pos st]
        dsimp only [Tg.put]
        cases h1 : isK k with
        | false =>
          rw [h1] at ecall
          rw [b_ends (e_not ecall rfl) rfl (b_rt (s_ret e_bl))]
          show _ = if (isK k && isKs l) = true then _ else _
          rw [h1]
          rfl
        | true =>
          rw [h1] at ecall
          rw [b_skip (e_not ecall rfl) rfl, b_nil]
          show forGo w _ l _ m = if (isK k && isKs l) = true then _ else _
          rw [h1, Bool.true_and]
          exact ih
    obtain ⟨r', hr', hgo⟩ := go ks (entry ⟨1, 2, [], body2⟩ [.tup ks]) ⟨ks, none⟩ rfl rfl hks
    have efor : evS dat.T W (run dat.T W dat.defs n) (.for_ (.one 1) (.of (.var 0)) [.ifs (.not (.call 1 [] [(.var 1)])) [.ret (.bl false)] []]) (entry ⟨1, 2, [], body2⟩ [.tup ks]) m = if isKs ks = true then .nx r' m else .rt (.bl false) m := by
      rw [evS, evI, e_var (v := .tup ks) rfl, bind_ok]
      exact hgo
    show (evB dat.T W (run dat.T W dat.defs n) body2 _ m).out m = _
    cases h1 : isKs ks with
    | true =>
      rw [h1] at efor
      have : evB dat.T W (run dat.T W dat.defs n) body2 (entry ⟨1, 2, [], body2⟩ [.tup ks]) m = .rt (.bl true) m := (b_nx efor).trans (b_rt (s_ret e_bl))
      rw [this, out_same rfl]
    | false =>
      rw [h1] at efor
      have : evB dat.T W (run dat.T W dat.defs n) body2 (entry ⟨1, 2, [], body2⟩ [.tup ks]) m = .rt (.bl false) m := b_rt efor
      rw [this, out_same rfl]
theorem len_tup {xs : List MV} : builtin .len [.tup xs] m = some (.int xs.length, m) := rfl
theorem kind_ok : ∀ {d n : Nat} {m : Mem} {v : MV}, 2 * d + 2 ≤ n → Th q m d v → run dat.T W dat.defs n 1 [v] m = .ok (.bl (isK v)) m := by
  intro d
  induction d with
  | zero =>
    intro n m v hn h
    obtain ⟨n, rfl⟩ : ∃ k, n = k + 2 := ⟨n - 2, by omega⟩
    have h2 := ty1 (t := .str) h (.inr (.inr (.inl rfl)))
    have h4 := ty1 (t := .tup) h (.inr (.inr (.inr (.inl rfl))))
    rw [run_of def1 rfl]
    have e0 := e_call (T := dat.T) (cl := run dat.T W dat.defs (n + 1)) (r := entry ⟨1, 1, [], body1⟩ [v]) (f := 0) (ix := []) (l_one (e_var (i := 0) rfl)) (num_ok (n := n) (W := W) h)
    have fin : evB dat.T W (run dat.T W dat.defs (n + 1)) body1 (entry ⟨1, 1, [], body1⟩ [v]) m = .rt (.bl (isK v)) m := by
      cases v with
      | int i => exact b_ends e0 rfl (b_rt (s_ret e_bl))
      | str x => exact (b_skip e0 rfl).trans (b_ends (e_isi (e_var rfl) h2) rfl (b_rt (s_ret (e_cmp (e_var rfl) e_str cmp_eq))))
      | tup xs => exact h.elim
      | non => exact (b_skip e0 rfl).trans ((b_skip (e_isi (e_var rfl) h2) rfl).trans (b_ends (e_or_t (e_not (e_isi (e_var rfl) h4) rfl) rfl) rfl (b_rt (s_ret e_bl))))
      | bl b => exact (b_skip e0 rfl).trans ((b_skip (e_isi (e_var rfl) h2) rfl).trans (b_ends (e_or_t (e_not (e_isi (e_var rfl) h4) rfl) rfl) rfl (b_rt (s_ret e_bl))))
      | obj c fs => exact (b_skip e0 rfl).trans ((b_skip (e_isi (e_var rfl) h2) rfl).trans (b_ends (e_or_t (e_not (e_isi (e_var rfl) h4) rfl) rfl) rfl (b_rt (s_ret e_bl))))
      | ref k => exact (b_skip e0 rfl).trans ((b_skip (e_isi (e_var rfl) h2) rfl).trans (b_ends (e_or_t (e_not (e_isi (e_var rfl) h4) rfl) rfl) rfl (b_rt (s_ret e_bl))))
    rw [show (FD.body ⟨1, 1, [], body1⟩) = body1 from rfl, fin, out_same rfl]
  | succ d ih =>
    intro n m v hn h
    obtain ⟨n, rfl⟩ : ∃ k, n = k + 2 := ⟨n - 2, by omega⟩
    have h2 := ty1 (t := .str) h (.inr (.inr (.inl rfl)))
    have h4 := ty1 (t := .tup) h (.inr (.inr (.inr (.inl rfl))))
    rw [run_of def1 rfl]
    have e0 := e_call (T := dat.T) (cl := run dat.T W dat.defs (n + 1)) (r := entry ⟨1, 1, [], body1⟩ [v]) (f := 0) (ix := []) (l_one (e_var (i := 0) rfl)) (num_ok (n := n) (W := W) h)
    have fin : evB dat.T W (run dat.T W dat.defs (n + 1)) body1 (entry ⟨1, 1, [], body1⟩ [v]) m = .rt (.bl (isK v)) m := by
      cases v with
      | int i => exact b_ends e0 rfl (b_rt (s_ret e_bl))
      | str x => exact (b_skip e0 rfl).trans (b_ends (e_isi (e_var rfl) h2) rfl (b_rt (s_ret (e_cmp (e_var rfl) e_str cmp_eq))))
      | non => exact (b_skip e0 rfl).trans ((b_skip (e_isi (e_var rfl) h2) rfl).trans (b_ends (e_or_t (e_not (e_isi (e_var rfl) h4) rfl) rfl) rfl (b_rt (s_ret e_bl))))
      | bl b => exact (b_skip e0 rfl).trans ((b_skip (e_isi (e_var rfl) h2) rfl).trans (b_ends (e_or_t (e_not (e_isi (e_var rfl) h4) rfl) rfl) rfl (b_rt (s_ret e_bl))))
      | obj c fs => exact (b_skip e0 rfl).trans ((b_skip (e_isi (e_var rfl) h2) rfl).trans (b_ends (e_or_t (e_not (e_isi (e_var rfl) h4) rfl) rfl) rfl (b_rt (s_ret e_bl))))
      | ref k => exact (b_skip e0 rfl).trans ((b_skip (e_isi (e_var rfl) h2) rfl).trans (b_ends (e_or_t (e_not (e_isi (e_var rfl) h4) rfl) rfl) rfl (b_rt (s_ret e_bl))))
      | tup xs =>
        have elen := (e_or_f (b := .cmp .NotEq (.blt .len [(.var 0)]) (.int 3)) (e_not (e_isi (T := dat.T) (cl := run dat.T W dat.defs (n + 1)) (r := entry ⟨1, 1, [], body1⟩ [.tup xs]) (e_var (i := 0) rfl) h4) rfl) rfl).trans (e_cmp (e_blt (l_one (e_var rfl)) len_tup) e_int cmp_nei)
        refine (b_skip e0 rfl).trans ((b_skip (e_isi (e_var rfl) h2) rfl).trans ?_)
        by_cases hl : xs.length = 3
        · match xs, hl, h with
          | [a, b, c], _, h =>
            have ha := h.2 a (by simp)
            have hb := h.2 b (by simp)
            have hc := h.2 c (by simp)
            have a2 := ty1 (t := .str) ha (.inr (.inr (.inl rfl)))
            have b4 := ty1 (t := .tup) hb (.inr (.inr (.inr (.inl rfl))))
            refine (b_skip elen rfl).trans ?_
            have x0 : evE dat.T (run dat.T W dat.defs (n + 1)) (.idx (.var 0) (.int 0)) (entry ⟨1, 1, [], body1⟩ [.tup [a, b, c]]) m = .ok a m := e_idx (e_var rfl) e_int (at_tup (k := 0) rfl)
            have x1 : evE dat.T (run dat.T W dat.defs (n + 1)) (.idx (.var 0) (.int 1)) (entry ⟨1, 1, [], body1⟩ [.tup [a, b, c]]) m = .ok b m := e_idx (e_var rfl) e_int (at_tup (k := 1) rfl)
            have x2 : evE dat.T (run dat.T W dat.defs (n + 1)) (.idx (.var 0) (.int 2)) (entry ⟨1, 1, [], body1⟩ [.tup [a, b, c]]) m = .ok c m := e_idx (e_var rfl) e_int (at_tup (k := 2) rfl)
            have no : isTk a = false → evB dat.T W (run dat.T W dat.defs (n + 1)) (body1.drop 3) (entry ⟨1, 1, [], body1⟩ [.tup [a, b, c]]) m = .rt (.bl false) m := fun ht => by
              cases a with
              | str x =>
                have hx : x ≠ sTakes := of_decide_eq_false ht
                refine b_ends ((e_or_f (e_not (e_isi x0 a2) rfl) rfl).trans (e_cmp x0 e_str cmp_ne)) ?_ (b_rt (s_ret e_bl))
                show some (!decide (x = sTakes)) = some true
                rw [decide_eq_false hx]
                rfl
              | non => exact b_ends (e_or_t (e_not (e_isi x0 a2) rfl) rfl) rfl (b_rt (s_ret e_bl))
              | bl b => exact b_ends (e_or_t (e_not (e_isi x0 a2) rfl) rfl) rfl (b_rt (s_ret e_bl))
              | int i => exact b_ends (e_or_t (e_not (e_isi x0 a2) rfl) rfl) rfl (b_rt (s_ret e_bl))
              | tup ys => exact b_ends (e_or_t (e_not (e_isi x0 a2) rfl) rfl) rfl (b_rt (s_ret e_bl))
              | obj c fs => exact b_ends (e_or_t (e_not (e_isi x0 a2) rfl) rfl) rfl (b_rt (s_ret e_bl))
              | ref k => exact b_ends (e_or_t (e_not (e_isi x0 a2) rfl) rfl) rfl (b_rt (s_ret e_bl))
            show evB dat.T W (run dat.T W dat.defs (n + 1)) (body1.drop 3) _ m = .rt (.bl (isTk a && (isKt b && isK c))) m
            cases ht : isTk a with
            | false =>
              rw [no ht]
              rfl
            | true =>
              cases a with
              | str x =>
                have hx : x = sTakes := of_decide_eq_true ht
                subst hx
                refine (b_skip ((e_or_f (e_not (e_isi x0 a2) rfl) rfl).trans (e_cmp x0 e_str cmp_ne)) rfl).trans (b_rt (s_ret ?_))
                cases b with
                | tup ks =>
                  rw [e_and_t (e_isi x1 b4) rfl]
                  have hks : ∀ k ∈ ks, Th q m d k := by
                    cases d with
                    | zero => exact hb.elim
                    | succ d => exact fun k hk => (hb.2 k hk).up
                  have e2 := e_call (T := dat.T) (cl := run dat.T W dat.defs (n + 1)) (f := 2) (ix := []) (l_one x1) (are_ok (W := W) ih (n := n + 1) (by omega) hks)
                  have e3 := e_call (T := dat.T) (cl := run dat.T W dat.defs (n + 1)) (f := 1) (ix := []) (l_one x2) (ih (n := n + 1) (by omega) hc)
                  cases hk : isKs ks with
                  | false =>
                    rw [hk] at e2
                    rw [e_and_f e2 rfl]
                    show _ = R.ok (MV.bl (isKs ks && isK c)) m
                    rw [hk]
                    rfl
                  | true =>
                    rw [hk] at e2
                    rw [e_and_t e2 rfl, e3]
                    show _ = R.ok (MV.bl (isKs ks && isK c)) m
                    rw [hk]
                    rfl
                | non => exact e_and_f (e_isi x1 b4) rfl
                | bl b => exact e_and_f (e_isi x1 b4) rfl
                | int i => exact e_and_f (e_isi x1 b4) rfl
                | str y => exact e_and_f (e_isi x1 b4) rfl
                | obj c fs => exact e_and_f (e_isi x1 b4) rfl
                | ref k => exact e_and_f (e_isi x1 b4) rfl
              | _ => cases ht
        · have e3 : isK (.tup xs) = false := by
            show isK3 xs = false
            match xs, hl with
            | [], _ => rfl
            | [_], _ => rfl
            | [_, _], _ => rfl
            | _ :: _ :: _ :: _ :: _, _ => rfl
            | [_, _, _], hl => exact absurd rfl hl
          rw [e3]
          refine b_ends elen ?_ (b_rt (s_ret e_bl))
          show some (!decide ((xs.length : Int) = 3)) = some true
          rw [decide_eq_false (by omega)]
          rfl
    rw [show (FD.body ⟨1, 1, [], body1⟩) = body1 from rfl, fin, out_same rfl]
/-! ### comprehensions -/
/-- every element by itself, nothing else is changed -/
theorem lc_all {test elt : MV → M MV} {g : MV → MV} : ∀ (l : List MV) (acc : List MV), (∀ x ∈ l, ∀ acc : List MV, test x (m ++ [.lst acc]) = .ok (.bl true) (m ++ [.lst acc]) ∧ elt x (m ++ [.lst acc]) = .ok (g x) (m ++ [.lst acc])) → acc.length + l.length ≤ 30000 → ∀ its : List MV,
    lcGo ⟨its, none⟩ m.length test elt l (m ++ [.lst acc]) = .ok (.ref m.length) (m ++ [.lst (acc ++ l.map g)])
  | [], acc, _, _, its => by
    rw [List.map_nil, List.append_nil]
    rfl
  | x :: l, acc, h, hl, its => by
    obtain ⟨h1, h2⟩ := h x (List.mem_cons_self ..) acc
    have ih := lc_all l (acc ++ [g x]) (fun y hy => h y (List.mem_cons_of_mem _ hy)) (by rw [List.length_append]; simp only [List.length_cons, List.length_nil] at hl ⊢; omega) its
    unfold lcGo
    rw [if_pos (show Walked.still ⟨its, none⟩ (m ++ [.lst acc]) = true from rfl), h1]
    dsimp only
    rw [onTru_bl, if_pos rfl, h2]
    dsimp only
    rw [getE_new]
    dsimp only
    have hlt : acc.length < line := by
      simp only [List.length_cons] at hl
      unfold line
      omega
    rw [if_pos hlt]
    have e : (m ++ [MO.lst acc]).set m.length (.lst (acc ++ [g x])) = m ++ [.lst (acc ++ [g x])] := by
      rw [List.set_append_right _ _ (Nat.le_refl _), Nat.sub_self]
      rfl
    rw [e, ih, List.map_cons, List.append_assoc]
    rfl
theorem keeps_more {x : List MO} : Keeps m (m ++ x) := fun k xs e => ⟨xs, by rw [List.getElem?_append_left (List.getElem?_eq_some_iff.mp e).1]; exact e⟩
theorem out_more {v : MV} {x : List MO} (l : v.low m.length = true) : (RS.rt v (m ++ x)).out m = .ok v m := by
  rw [out_low (okOld_of (by simp) fun k o hk e => .inl (by rw [List.getElem?_append_left hk] at e; exact e)) l, List.take_left]
theorem no_false {ks : List MV} : (ks.map fun k => MV.bl (isK k)).all flat = true := by
  rw [List.all_map]
  exact List.all_eq_true.mpr fun x _ => rfl
theorem any_false : ∀ ks : List MV, ((ks.map fun k => MV.bl (isK k)).any fun y => flatEq y (.bl false)) = !isKs ks
  | [] => rfl
  | k :: ks => by
    rw [List.map_cons, List.any_cons, any_false ks]
    show (flatEq (.bl (isK k)) (.bl false) || !isKs ks) = !(isK k && isKs ks)
    cases isK k <;> rfl
theorem isKs_append : ∀ {as bs : List MV}, isKs (as ++ bs) = (isKs as && isKs bs)
  | [], _ => rfl
  | a :: as, bs => by
    show (isK a && isKs (as ++ bs)) = ((isK a && isKs as) && isKs bs)
    rw [isKs_append, Bool.and_assoc]
theorem law_kind_ok : ∀ {d n : Nat} {m : Mem} {v : MV}, d + 1 ≤ n → Th false m d v → run dat.T W dat.defs n 11 [v] m = .ok (.bl (isK v)) m := by
  intro d
  induction d with
  | zero =>
    intro n m v hn h
    obtain ⟨n, rfl⟩ : ∃ k, n = k + 1 := ⟨n - 1, by omega⟩
    have h0 := ty1 (t := .bool) h (.inr (.inl rfl))
    have h1 := ty1 (t := .int) h (.inl rfl)
    have h2 := ty1 (t := .str) h (.inr (.inr (.inl rfl)))
    have h5 := ty1 (t := .lst) h (.inr (.inr (.inr (.inr rfl))))
    rw [run_of def11 rfl]
    have fin : evB dat.T W (run dat.T W dat.defs n) body11 (entry ⟨1, 2, [], body11⟩ [v]) m = .rt (.bl (isK v)) m := by
      cases v with
      | int i => exact (b_skip ((e_or_f (e_isi (e_var (i := 0) rfl) h0) rfl).trans ((e_or_f (e_isi (e_var rfl) h5) rfl).trans (e_cmp (e_var rfl) e_non rfl))) rfl).trans (b_ends (e_isi (e_var rfl) h1) rfl (b_rt (s_ret e_bl)))
      | str x => exact (b_skip ((e_or_f (e_isi (e_var (i := 0) rfl) h0) rfl).trans ((e_or_f (e_isi (e_var rfl) h5) rfl).trans (e_cmp (e_var rfl) e_non rfl))) rfl).trans ((b_skip (e_isi (e_var rfl) h1) rfl).trans (b_ends (e_isi (e_var rfl) h2) rfl (b_rt (s_ret (e_cmp (e_var rfl) e_str cmp_eq)))))
      | tup xs => exact h.elim
      | non => exact b_ends ((e_or_f (e_isi (e_var (i := 0) rfl) h0) rfl).trans ((e_or_f (e_isi (e_var rfl) h5) rfl).trans (e_cmp (e_var rfl) e_non rfl))) rfl (b_rt (s_ret e_bl))
      | bl b => exact b_ends (e_or_t (e_isi (e_var (i := 0) rfl) h0) rfl) rfl (b_rt (s_ret e_bl))
      | obj c fs => cases h.1
      | ref k => exact b_ends ((e_or_f (e_isi (e_var (i := 0) rfl) h0) rfl).trans (e_or_t (e_isi (e_var rfl) h5) rfl)) rfl (b_rt (s_ret e_bl))
    rw [show (FD.body ⟨1, 2, [], body11⟩) = body11 from rfl, fin, out_same rfl]
  | succ d ih =>
    intro n m v hn h
    obtain ⟨n, rfl⟩ : ∃ k, n = k + 1 := ⟨n - 1, by omega⟩
    have h0 := ty1 (t := .bool) h (.inr (.inl rfl))
    have h1 := ty1 (t := .int) h (.inl rfl)
    have h2 := ty1 (t := .str) h (.inr (.inr (.inl rfl)))
    have h5 := ty1 (t := .lst) h (.inr (.inr (.inr (.inr rfl))))
    rw [run_of def11 rfl]
    have fin : ∃ x : List MO, evB dat.T W (run dat.T W dat.defs n) body11 (entry ⟨1, 2, [], body11⟩ [v]) m = .rt (.bl (isK v)) (m ++ x) := by
      have same : evB dat.T W (run dat.T W dat.defs n) body11 (entry ⟨1, 2, [], body11⟩ [v]) m = .rt (.bl (isK v)) m → ∃ x : List MO, evB dat.T W (run dat.T W dat.defs n) body11 (entry ⟨1, 2, [], body11⟩ [v]) m = .rt (.bl (isK v)) (m ++ x) := fun e => ⟨[], by rw [List.append_nil]; exact e⟩
      cases v with
      | int i => exact same ((b_skip ((e_or_f (e_isi (e_var (i := 0) rfl) h0) rfl).trans ((e_or_f (e_isi (e_var rfl) h5) rfl).trans (e_cmp (e_var rfl) e_non rfl))) rfl).trans (b_ends (e_isi (e_var rfl) h1) rfl (b_rt (s_ret e_bl))))
      | str x => exact same ((b_skip ((e_or_f (e_isi (e_var (i := 0) rfl) h0) rfl).trans ((e_or_f (e_isi (e_var rfl) h5) rfl).trans (e_cmp (e_var rfl) e_non rfl))) rfl).trans ((b_skip (e_isi (e_var rfl) h1) rfl).trans (b_ends (e_isi (e_var rfl) h2) rfl (b_rt (s_ret (e_cmp (e_var rfl) e_str cmp_eq))))))
      | non => exact same (b_ends ((e_or_f (e_isi (e_var (i := 0) rfl) h0) rfl).trans ((e_or_f (e_isi (e_var rfl) h5) rfl).trans (e_cmp (e_var rfl) e_non rfl))) rfl (b_rt (s_ret e_bl)))
      | bl b => exact same (b_ends (e_or_t (e_isi (e_var (i := 0) rfl) h0) rfl) rfl (b_rt (s_ret e_bl)))
      | obj c fs => cases h.1
      | ref k => exact same (b_ends ((e_or_f (e_isi (e_var (i := 0) rfl) h0) rfl).trans (e_or_t (e_isi (e_var rfl) h5) rfl)) rfl (b_rt (s_ret e_bl)))
      | tup xs =>
        have hd : ∀ {R}, evB dat.T W (run dat.T W dat.defs n) (body11.drop 3) (entry ⟨1, 2, [], body11⟩ [.tup xs]) m = R → evB dat.T W (run dat.T W dat.defs n) body11 (entry ⟨1, 2, [], body11⟩ [.tup xs]) m = R := fun e =>
          ((b_skip ((e_or_f (e_isi (e_var (i := 0) rfl) h0) rfl).trans ((e_or_f (e_isi (e_var rfl) h5) rfl).trans (e_cmp (e_var rfl) e_non rfl))) rfl).trans ((b_skip (e_isi (e_var rfl) h1) rfl).trans (b_skip (e_isi (e_var rfl) h2) rfl))).trans e
        have elen : evE dat.T (run dat.T W dat.defs n) (.cmp .NotEq (.blt .len [(.var 0)]) (.int 3)) (entry ⟨1, 2, [], body11⟩ [.tup xs]) m = .ok (.bl (!decide ((xs.length : Int) = 3))) m := e_cmp (e_blt (l_one (e_var rfl)) len_tup) e_int cmp_nei
        by_cases hl : xs.length = 3
        · match xs, hl, h with
          | [a, b, c], _, h =>
            have ha := h.2 a (by simp)
            have hb := h.2 b (by simp)
            have hc := h.2 c (by simp)
            have a2 := ty1 (t := .str) ha (.inr (.inr (.inl rfl)))
            have b4 := ty1 (t := .tup) hb (.inr (.inr (.inr (.inl rfl))))
            have x0 : evE dat.T (run dat.T W dat.defs n) (.idx (.var 0) (.int 0)) (entry ⟨1, 2, [], body11⟩ [.tup [a, b, c]]) m = .ok a m := e_idx (e_var rfl) e_int (at_tup (k := 0) rfl)
            have x1 : evE dat.T (run dat.T W dat.defs n) (.idx (.var 0) (.int 1)) (entry ⟨1, 2, [], body11⟩ [.tup [a, b, c]]) m = .ok b m := e_idx (e_var rfl) e_int (at_tup (k := 1) rfl)
            have x2 : evE dat.T (run dat.T W dat.defs n) (.idx (.var 0) (.int 2)) (entry ⟨1, 2, [], body11⟩ [.tup [a, b, c]]) m = .ok c m := e_idx (e_var rfl) e_int (at_tup (k := 2) rfl)
            have eK : isK (.tup [a, b, c]) = (isTk a && (isKt b && isK c)) := rfl
            rw [eK]
            have no : ∀ {e : CE}, evE dat.T (run dat.T W dat.defs n) (.or (.cmp .NotEq (.blt .len [(.var 0)]) (.int 3)) e) (entry ⟨1, 2, [], body11⟩ [.tup [a, b, c]]) m = evE dat.T (run dat.T W dat.defs n) e (entry ⟨1, 2, [], body11⟩ [.tup [a, b, c]]) m := fun {e} => e_or_f elen rfl
            cases ht : isTk a with
            | false =>
              refine ⟨[], ?_⟩
              rw [List.append_nil]
              refine hd ?_
              cases a with
              | str x =>
                have hx : x ≠ sTakes := of_decide_eq_false ht
                refine b_ends (no.trans ((e_or_f (e_not (e_isi x0 a2) rfl) rfl).trans (e_or_t (e_cmp x0 e_str cmp_ne) ?_))) ?_ (b_rt (s_ret e_bl))
                · show some (!decide (x = sTakes)) = some true
                  rw [decide_eq_false hx]
                  rfl
                · show some (!decide (x = sTakes)) = some true
                  rw [decide_eq_false hx]
                  rfl
              | non => exact b_ends (no.trans (e_or_t (e_not (e_isi x0 a2) rfl) rfl)) rfl (b_rt (s_ret e_bl))
              | bl b => exact b_ends (no.trans (e_or_t (e_not (e_isi x0 a2) rfl) rfl)) rfl (b_rt (s_ret e_bl))
              | int i => exact b_ends (no.trans (e_or_t (e_not (e_isi x0 a2) rfl) rfl)) rfl (b_rt (s_ret e_bl))
              | tup ys => exact b_ends (no.trans (e_or_t (e_not (e_isi x0 a2) rfl) rfl)) rfl (b_rt (s_ret e_bl))
              | obj c fs => exact b_ends (no.trans (e_or_t (e_not (e_isi x0 a2) rfl) rfl)) rfl (b_rt (s_ret e_bl))
              | ref k => exact b_ends (no.trans (e_or_t (e_not (e_isi x0 a2) rfl) rfl)) rfl (b_rt (s_ret e_bl))
            | true =>
              cases a with
              | str x =>
                have hx : x = sTakes := of_decide_eq_true ht
                subst hx
                have no2 : evE dat.T (run dat.T W dat.defs n) (.or (.cmp .NotEq (.blt .len [(.var 0)]) (.int 3)) (.or (.not (.isi (.idx (.var 0) (.int 0)) [.str])) (.or (.cmp .NotEq (.idx (.var 0) (.int 0)) (.str [116, 97, 107, 101, 115])) (.not (.isi (.idx (.var 0) (.int 1)) [.tup]))))) (entry ⟨1, 2, [], body11⟩ [.tup [.str sTakes, b, c]]) m = .ok (.bl (!kd b .tup)) m :=
                  no.trans ((e_or_f (e_not (e_isi x0 a2) rfl) rfl).trans ((e_or_f (e_cmp x0 e_str cmp_ne) rfl).trans (e_not (e_isi x1 b4) rfl)))
                cases b with
                | tup ks =>
                  have hks : ∀ k ∈ ks ++ [c], Th false m d k := fun k hk => by
                    rcases List.mem_append.mp hk with z | z
                    · cases d with
                      | zero => exact hb.elim
                      | succ d => exact (hb.2 k z).up
                    · rw [List.mem_singleton] at z
                      rw [z]
                      exact hc
                  have hlen : ks.length ≤ 20000 := by
                    cases d with
                    | zero => exact hb.elim
                    | succ d => exact hb.1
                  have eadd : evE dat.T (run dat.T W dat.defs n) (.bin .Add (.idx (.var 0) (.int 1)) (.tup [(.idx (.var 0) (.int 2))])) (entry ⟨1, 2, [], body11⟩ [.tup [.str sTakes, .tup ks, c]]) m = .ok (.tup (ks ++ [c])) m :=
                    e_bin x1 (e_tup (l_one x2) (show 1 ≤ line from by decide)) (by
                      show (if ks.length + [c].length ≤ line then some (MV.tup (ks ++ [c]), m) else none) = _
                      rw [if_pos (by unfold line; simp only [List.length_cons, List.length_nil]; omega)])
                  have elc : evE dat.T (run dat.T W dat.defs n) (.lc (.call 11 [] [(.var 1)]) 1 (.of (.bin .Add (.idx (.var 0) (.int 1)) (.tup [(.idx (.var 0) (.int 2))]))) []) (entry ⟨1, 2, [], body11⟩ [.tup [.str sTakes, .tup ks, c]]) m = .ok (.ref m.length) (m ++ [.lst ((ks ++ [c]).map fun k => .bl (isK k))]) := by
                    rw [evE, evI, eadd]
                    have z := lc_all (m := m) (test := fun _ m2 => .ok (.bl true) m2) (elt := fun x m2 => evE dat.T (run dat.T W dat.defs n) (.call 11 [] [(.var 1)]) ((entry ⟨1, 2, [], body11⟩ [.tup [.str sTakes, .tup ks, c]]).set 1 (.val x)) m2) (g := fun k => .bl (isK k)) (ks ++ [c]) [] (fun x hx acc => ⟨rfl, e_call (l_one (e_var rfl)) (ih (by omega) ((hks x hx).keeps keeps_more))⟩) (by simp only [List.length_append, List.length_cons, List.length_nil]; omega) (ks ++ [c])
                    exact z
                  refine ⟨[.lst ((ks ++ [c]).map fun k => .bl (isK k))], hd ((b_skip no2 rfl).trans (b_rt (s_ret (e_cmp e_bl elc ?_))))⟩
                  show okb ((memb _ (.bl false) (.ref m.length)).map (!·)) _ = _
                  have e1 : memb (m ++ [MO.lst ((ks ++ [c]).map fun k => MV.bl (isK k))]) (.bl false) (.ref m.length) = some (!isKs (ks ++ [c])) := by
                    show (match (m ++ [MO.lst ((ks ++ [c]).map fun k => MV.bl (isK k))])[m.length]? with | some (.lst ys) => inSeq (.bl false) ys | some (.frz ys) => inSeq (.bl false) ys | _ => none) = _
                    rw [getE_new]
                    show inSeq _ _ = _
                    unfold inSeq
                    rw [no_false, if_pos (show (flat (.bl false) && true) = true from rfl), any_false]
                  rw [e1, isKs_append]
                  show some (MV.bl (!!(isKs ks && (isK c && true))), _) = some (MV.bl (true && (isKs ks && isK c)), _)
                  rw [Bool.not_not, Bool.and_true, Bool.true_and]
                | non => exact ⟨[], by rw [List.append_nil]; exact hd (b_ends no2 rfl (b_rt (s_ret e_bl)))⟩
                | bl b => exact ⟨[], by rw [List.append_nil]; exact hd (b_ends no2 rfl (b_rt (s_ret e_bl)))⟩
                | int i => exact ⟨[], by rw [List.append_nil]; exact hd (b_ends no2 rfl (b_rt (s_ret e_bl)))⟩
                | str y => exact ⟨[], by rw [List.append_nil]; exact hd (b_ends no2 rfl (b_rt (s_ret e_bl)))⟩
                | obj c fs => exact ⟨[], by rw [List.append_nil]; exact hd (b_ends no2 rfl (b_rt (s_ret e_bl)))⟩
                | ref k => exact ⟨[], by rw [List.append_nil]; exact hd (b_ends no2 rfl (b_rt (s_ret e_bl)))⟩
              | _ => cases ht
        · have e3 : isK (.tup xs) = false := by
            show isK3 xs = false
            match xs, hl with
            | [], _ => rfl
            | [_], _ => rfl
            | [_, _], _ => rfl
            | _ :: _ :: _ :: _ :: _, _ => rfl
            | [_, _, _], hl => exact absurd rfl hl
          rw [e3]
          refine ⟨[], ?_⟩
          rw [List.append_nil]
          have tr : (!decide ((xs.length : Int) = 3)) = true := by rw [decide_eq_false (by omega)]; rfl
          rw [tr] at elen
          exact hd (b_ends (e_or_t elen rfl) rfl (b_rt (s_ret e_bl)))
    obtain ⟨x, fin⟩ := fin
    rw [show (FD.body ⟨1, 2, [], body11⟩) = body11 from rfl, fin, out_more rfl]
end
end LW
end Part_V2

section Part_V3
set_option Elab.async false
set_option linter.all false
set_option maxRecDepth 100000
set_option maxHeartbeats 4000000
namespace LW
open U
open PySem (Operator CmpOp)
/-! ### loops -/
theorem for_inv {w : Walked} {body : MV → Env → Mem → RS} {I : Nat → Env → Mem → Prop} (hs : ∀ k r m, I k r m → w.still m = true) : ∀ (l : List MV) (k : Nat) (r : Env) (m : Mem), (∀ x ∈ l, ∀ k r m, I k r m → ∃ r' m', body x r m = .nx r' m' ∧ I (k + 1) r' m') → I k r m →
    ∃ r' m', forGo w body l r m = .nx r' m' ∧ I (k + l.length) r' m'
  | [], k, r, m, _, h => ⟨r, m, by unfold forGo; rw [if_pos (hs k r m h)], h⟩
  | x :: l, k, r, m, hb, h => by
    obtain ⟨r1, m1, e1, h1⟩ := hb x (List.mem_cons_self ..) k r m h
    obtain ⟨r2, m2, e2, h2⟩ := for_inv hs l (k + 1) r1 m1 (fun y hy => hb y (List.mem_cons_of_mem _ hy)) h1
    refine ⟨r2, m2, ?_, by rw [List.length_cons, Nat.add_comm l.length 1, ← Nat.add_assoc]; exact h2⟩
    unfold forGo
    rw [if_pos (hs k r m h), e1]
    exact e2
/-! ### what draws leave -/
section
variable {m m' m'' : Mem} {s c : Nat}
theorem Left.refl (h : Sd m s c) : Left m m s c := ⟨h, rfl, fun _ _ _ => rfl⟩
theorem Left.trans (a : Left m m' s c) (b : Left m' m'' s c) : Left m m'' s c := ⟨b.st, b.len.trans a.len, fun k h1 h2 => (b.old k h1 h2).trans (a.old k h1 h2)⟩
theorem Sd.ls (h : Sd m s c) : s < m.length ∧ c < m.length := by
  obtain ⟨cs, i, j, h⟩ := h.ex
  exact ⟨(List.getElem?_eq_some_iff.mp h.at_s).1, (List.getElem?_eq_some_iff.mp h.at_c).1⟩
theorem Left.keeps (a : Left m m' s c) : Keeps m m' := fun n xs e => by
  by_cases h1 : n = s
  · subst h1
    obtain ⟨cs, i, j, h⟩ := a.st.ex
    exact ⟨_, h.at_s⟩
  · by_cases h2 : n = c
    · subst h2
      obtain ⟨cs, i, j, h⟩ := a.st.ex
      exact ⟨_, h.at_c⟩
    · exact ⟨xs, by rw [a.old n h1 h2]; exact e⟩
theorem Left.okOld (a : Left m m' s c) (x : List MO) : okOld m.length m (m' ++ x) = true := okOld_of (by rw [List.length_append, a.len]; omega) fun k o hk e => by
  rw [List.getElem?_append_left (by rw [a.len]; exact hk)] at e
  obtain ⟨cs, i, j, h⟩ := a.st.ex
  have hc := a.st.ls.2
  rw [a.len] at hc
  by_cases h1 : k = s
  · subst h1
    rw [h.at_s] at e
    cases e
    refine .inr ?_
    simp [MO.low, MV.lows, MV.low, hc]
  · by_cases h2 : k = c
    · subst h2
      rw [h.at_c] at e
      cases e
      exact .inr (lows_ints _)
    · rw [a.old k h1 h2] at e
      exact .inl e
theorem Left.out (a : Left m m' s c) {v : MV} (l : v.low m.length = true) (x : List MO) : (RS.rt v (m' ++ x)).out m = .ok v m' := by
  rw [out_low (a.okOld x) l, ← a.len, List.take_left]
theorem Left.out0 (a : Left m m' s c) {v : MV} (l : v.low m.length = true) : (RS.rt v m').out m = .ok v m' := by
  have := a.out l []
  rwa [List.append_nil] at this
/-- what stands behind is kept by draws -/
theorem Left.split {x : List MO} (h : Sd m s c) (a : Left (m ++ x) m' s c) : ∃ m1, m' = m1 ++ x ∧ Left m m1 s c := by
  obtain ⟨hs, hc⟩ := h.ls
  have hl : m'.length = m.length + x.length := by rw [a.len, List.length_append]
  have e : m' = m'.take m.length ++ x := by
    apply List.ext_getElem?
    intro k
    by_cases hk : k < m.length
    · rw [List.getElem?_append_left (by rw [List.length_take]; omega), List.getElem?_take_of_lt hk]
    · rw [a.old k (by omega) (by omega), List.getElem?_append_right (by omega), List.getElem?_append_right (by rw [List.length_take]; omega), List.length_take]
      congr 1
      omega
  refine ⟨_, e, ?_, by rw [List.length_take]; omega, fun k h1 h2 => ?_⟩
  · obtain ⟨cs, i, j, g⟩ := a.st.ex
    exact ⟨cs, i, j, ⟨by rw [List.getElem?_take_of_lt hs]; exact g.at_s, by rw [List.getElem?_take_of_lt hc]; exact g.at_c, g.ne, g.some_, g.nn, g.hi, g.hj, g.hj2⟩⟩
  · by_cases hk : k < m.length
    · rw [List.getElem?_take_of_lt hk, a.old k h1 h2, List.getElem?_append_left hk]
    · rw [List.getElem?_eq_none (by rw [List.length_take]; omega), List.getElem?_eq_none (by omega)]
theorem Sd.more (h : Sd m s c) (x : List MO) : Sd (m ++ x) s c := by
  obtain ⟨hs, hc⟩ := h.ls
  obtain ⟨cs, i, j, g⟩ := h.ex
  exact ⟨cs, i, j, ⟨by rw [List.getElem?_append_left hs]; exact g.at_s, by rw [List.getElem?_append_left hc]; exact g.at_c, g.ne, g.some_, g.nn, g.hi, g.hj, g.hj2⟩⟩
end
mutual
theorem Th.low {m : Mem} : ∀ {d : Nat} {v : MV}, Th false m d v → v.low m.length = true
  | 0, v, h => by
    cases v with
    | tup xs => exact h.elim
    | ref n => obtain ⟨xs, e⟩ := h; exact decide_eq_true (List.getElem?_eq_some_iff.mp e).1
    | obj c fs => cases h.1
    | _ => rfl
  | d + 1, v, h => by
    cases v with
    | tup xs => exact Th.lows h.2
    | ref n => obtain ⟨xs, e⟩ := h; exact decide_eq_true (List.getElem?_eq_some_iff.mp e).1
    | obj c fs => cases h.1
    | _ => rfl
theorem Th.lows {m : Mem} : ∀ {d : Nat} {xs : List MV}, (∀ x ∈ xs, Th false m d x) → MV.lows m.length xs = true
  | d, [], _ => rfl
  | d, x :: xs, h => by
    show (MV.low m.length x && MV.lows m.length xs) = true
    rw [Th.low (h x (List.mem_cons_self ..)), Th.lows fun y hy => h y (List.mem_cons_of_mem _ hy)]
    rfl
end
section
variable {W : Nat} {m : Mem} {s c : Nat}
theorem cmp_neb {x y : Bool} : cmpop .NotEq (.bl x) (.bl y) m = some (.bl (!decide (x = y)), m) := by
  show okb ((peq m (.bl x) (.bl y)).map (!·)) m = _
  unfold peq
  rw [if_pos (show plainEq (.bl x) (.bl y) = true from rfl)]
  cases x <;> cases y <;> rfl
/-- _law_right -/
theorem right_ok {d n : Nat} {v : MV} (hn : 2 * d + 3 ≤ n) (h : Th false m d v) : run dat.T W dat.defs n 13 [v] m = .ok (.bl true) m := by
  obtain ⟨n, rfl⟩ : ∃ k, n = k + 1 := ⟨n - 1, by omega⟩
  rw [run_of def13 rfl]
  have e1 := e_call (T := dat.T) (cl := run dat.T W dat.defs n) (r := entry ⟨1, 4, [], body13⟩ [v]) (f := 11) (ix := []) (l_one (e_var (i := 0) rfl)) (law_kind_ok (W := W) (n := n) (by omega) h)
  obtain ⟨r', m', ef, hr, hm⟩ := for_inv (w := ⟨rng 0 2, none⟩) (body := fun x r' m' => match (Tg.one 2).put x r' with | some r2 => evB dat.T W (run dat.T W dat.defs n) [.asg 3 (.call 1 [] [(.var 0)]), .ifs (.or (.not (.isi (.var 3) [.bool])) (.cmp .NotEq (.var 3) (.var 1))) [.ret (.bl false)] []] r2 m' | none => .fail)
    (I := fun _ r mm => (r.length = 4 ∧ r[0]? = some (.val v) ∧ r[1]? = some (.val (.bl (isK v)))) ∧ mm = m) (fun _ _ _ _ => rfl) (rng 0 2) 0 ((entry ⟨1, 4, [], body13⟩ [v]).set 1 (.val (.bl (isK v)))) m (fun x _ _ r mm ⟨⟨h1, h2, h3⟩, hmm⟩ => by
      subst hmm
      have g0 : (r.set 2 (.val x))[0]? = some (.val v) := by rw [List.getElem?_set_ne (by decide)]; exact h2
      have a1 := s_asg (T := dat.T) (W := W) (i := 3) (e_call (T := dat.T) (cl := run dat.T W dat.defs n) (f := 1) (ix := []) (l_one (e_var g0)) (kind_ok (W := W) (n := n) (by omega) h))
      have g3 : ((r.set 2 (.val x)).set 3 (.val (.bl (isK v))))[3]? = some (.val (.bl (isK v))) := List.getElem?_set_self (by rw [List.length_set]; omega)
      have g1 : ((r.set 2 (.val x)).set 3 (.val (.bl (isK v))))[1]? = some (.val (.bl (isK v))) := by rw [List.getElem?_set_ne (by decide), List.getElem?_set_ne (by decide)]; exact h3
      refine ⟨_, _, (b_nx a1).trans ((b_skip ((e_or_f (e_not (e_isi (e_var g3) rfl) rfl) rfl).trans (e_cmp (e_var g3) (e_var g1) cmp_neb)) ?_).trans b_nil), ⟨by rw [List.length_set, List.length_set]; exact h1, by rw [List.getElem?_set_ne (by decide)]; exact g0, g1⟩, rfl⟩
      show some (!decide (isK v = isK v)) = some false
      rw [decide_eq_true rfl]
      rfl) ⟨⟨rfl, rfl, rfl⟩, rfl⟩
  subst hm
  have efor : evS dat.T W (run dat.T W dat.defs n) (.for_ (.one 2) (.rng1 (.int 2)) [.asg 3 (.call 1 [] [(.var 0)]), .ifs (.or (.not (.isi (.var 3) [.bool])) (.cmp .NotEq (.var 3) (.var 1))) [.ret (.bl false)] []]) ((entry ⟨1, 4, [], body13⟩ [v]).set 1 (.val (.bl (isK v)))) m' = .nx r' m' := by
    rw [evS, evI, e_int, bind_ok]
    exact ef
  have fin : evB dat.T W (run dat.T W dat.defs n) body13 (entry ⟨1, 4, [], body13⟩ [v]) m' = .rt (.bl true) m' := (b_nx (s_asg e1)).trans ((b_nx efor).trans (b_rt (s_ret e_bl)))
  rw [show (FD.body ⟨1, 4, [], body13⟩) = body13 from rfl, fin, out_same rfl]
theorem pow_ok {i j : Int} (h : 0 ≤ j ∧ j ≤ 1000 ∧ i.natAbs < 2 ^ 64) : binop .Pow (.int i) (.int j) m = some (.int (i ^ j.toNat), m) := by
  unfold binop
  exact if_pos h
/-- _law_number -/
theorem number_ok {n : Nat} (h : Sd m s c) : ∃ z m', run dat.T W dat.defs (n + 2) 8 [.ref s] m = .ok (.int z) m' ∧ Left m m' s c := by
  rw [run_of def8 rfl]
  obtain ⟨r, m1, e1, r0, r1, l1⟩ := draw_ok (n := n) (W := W) (many := 5) h (by decide) (by decide)
  have a1 : evS dat.T W (run dat.T W dat.defs (n + 1)) (.asg 1 (.call 7 [] [(.var 0), (.int 5)])) (entry ⟨1, 2, [], body8⟩ [.ref s]) m = .nx [.val (.ref s), .val (.int r)] m1 := s_asg (e_call (l_cons (e_var rfl) (l_one e_int)) e1)
  have fin : ∃ z m', evB dat.T W (run dat.T W dat.defs (n + 1)) body8 (entry ⟨1, 2, [], body8⟩ [.ref s]) m = .rt (.int z) m' ∧ Left m m' s c := by
    by_cases h0 : r = 0
    · exact ⟨0, m1, (b_nx a1).trans (b_ends (e_cmp (e_var rfl) e_int cmp_eqi) (by show some (decide (r = 0)) = _; rw [decide_eq_true h0]) (b_rt (s_ret e_int))), l1⟩
    · have s0 := b_skip (W := W) (p := [.ret (.int 0)]) (ss := body8.drop 2) (e_cmp (T := dat.T) (cl := run dat.T W dat.defs (n + 1)) (r := [.val (.ref s), .val (.int r)]) (m := m1) (e_var (i := 1) rfl) e_int (cmp_eqi (y := 0))) (by show some (decide (r = 0)) = _; rw [decide_eq_false h0])
      by_cases h1 : r = 1
      · obtain ⟨q, m2, e2, _, _, l2⟩ := draw_ok (n := n) (W := W) (many := 10 ^ (40 : Int).toNat) l1.st (by decide +kernel) (by decide +kernel)
        exact ⟨_, m2, (b_nx a1).trans (s0.trans (b_ends (e_cmp (e_var rfl) e_int cmp_eqi) (by show some (decide (r = 1)) = _; rw [decide_eq_true h1]) (b_rt (s_ret (e_bin (e_call (l_cons (e_var rfl) (l_one (e_bin e_int e_int (pow_ok ⟨by decide, by decide, by decide⟩)))) e2) (e_bin e_int e_int (pow_ok ⟨by decide, by decide, by decide⟩)) rfl))))), l1.trans l2⟩
      · obtain ⟨q, m2, e2, _, _, l2⟩ := draw_ok (n := n) (W := W) (many := 9) l1.st (by decide) (by decide)
        exact ⟨_, m2, (b_nx a1).trans (s0.trans ((b_skip (e_cmp (e_var rfl) e_int cmp_eqi) (by show some (decide (r = 1)) = _; rw [decide_eq_false h1])).trans (b_rt (s_ret (e_bin (e_call (l_cons (e_var rfl) (l_one e_int)) e2) e_int rfl))))), l1.trans l2⟩
  obtain ⟨z, m', e, l⟩ := fin
  exact ⟨z, m', by rw [show (FD.body ⟨1, 2, [], body8⟩) = body8 from rfl, e, l.out0 rfl], l⟩
/-! ### kinds drawn -/
/-- built of numbers and words, of depth d at most -/
def Ki : Nat → MV → Prop
  | 0, v => match v with
    | .int _ => True
    | .str _ => True
    | _ => False
  | d + 1, v => match v with
    | .int _ => True
    | .str _ => True
    | .tup xs => xs.length ≤ 4000 ∧ ∀ x ∈ xs, Ki d x
    | _ => False
theorem Ki.th {mm : Mem} : ∀ {d : Nat} {v : MV}, Ki d v → Th false mm d v
  | 0, v, h => by cases v <;> first | trivial | exact h.elim
  | d + 1, v, h => by
    cases v with
    | tup xs => exact ⟨by have := h.1; omega, fun x hx => Ki.th (h.2 x hx)⟩
    | int i => trivial
    | str x => trivial
    | _ => exact h.elim
theorem Ki.up : ∀ {d : Nat} {v : MV}, Ki d v → Ki (d + 1) v
  | 0, v, h => by cases v <;> first | trivial | exact h.elim
  | d + 1, v, h => by
    cases v with
    | tup xs => exact ⟨h.1, fun x hx => Ki.up (h.2 x hx)⟩
    | int i => trivial
    | str x => trivial
    | _ => exact h.elim
theorem Ki.le {d e : Nat} {v : MV} (h : Ki d v) (hde : d ≤ e) : Ki e v := by
  obtain ⟨k, rfl⟩ := Nat.exists_eq_add_of_le hde
  clear hde
  induction k with
  | zero => exact h
  | succ k ih => exact Ki.up ih
/-- a comprehension whose elements draw -/
theorem lc_draw {d : Nat} {elt : MV → M MV} {its : List MV} (he : ∀ x (mm : Mem), Sd mm s c → ∃ v mm', elt x mm = .ok v mm' ∧ Left mm mm' s c ∧ Ki d v ∧ isK v = true) : ∀ (l : List MV) (acc : List MV) (mm : Mem), Sd mm s c → (∀ x ∈ acc, Ki d x) → isKs acc = true → acc.length + l.length ≤ 3000 →
    ∃ vs mm', lcGo ⟨its, none⟩ mm.length (fun _ m2 => .ok (.bl true) m2) elt l (mm ++ [.lst acc]) = .ok (.ref mm.length) (mm' ++ [.lst vs]) ∧ Left mm mm' s c ∧ (∀ x ∈ vs, Ki d x) ∧ isKs vs = true ∧ vs.length = acc.length + l.length
  | [], acc, mm, h, ha, hk, _ => ⟨acc, mm, rfl, .refl h, ha, hk, rfl⟩
  | x :: l, acc, mm, h, ha, hk, hl => by
    obtain ⟨v, m1, e1, l1, k1, k2⟩ := he x (mm ++ [.lst acc]) (h.more _)
    obtain ⟨m2, rfl, l2⟩ := l1.split h
    have hlen : m2.length = mm.length := l2.len
    obtain ⟨vs, m3, e3, l3, k3, k4, k5⟩ := lc_draw he l (acc ++ [v]) m2 l2.st (fun y hy => by
      rcases List.mem_append.mp hy with z | z
      · exact ha y z
      · rw [List.mem_singleton] at z
        rw [z]
        exact k1) (by rw [isKs_append, hk]; show (true && (isK v && true)) = true; rw [k2]; rfl) (by simp only [List.length_append, List.length_cons, List.length_nil] at hl ⊢; omega)
    refine ⟨vs, m3, ?_, l2.trans l3, k3, k4, by rw [k5]; simp only [List.length_append, List.length_cons, List.length_nil]; omega⟩
    unfold lcGo
    rw [if_pos (show Walked.still ⟨its, none⟩ (mm ++ [.lst acc]) = true from rfl)]
    dsimp only
    rw [onTru_bl, if_pos rfl, e1]
    dsimp only
    have g : (m2 ++ [MO.lst acc])[mm.length]? = some (.lst acc) := by rw [← hlen]; exact getE_new
    rw [g]
    dsimp only
    rw [if_pos (by unfold line; simp only [List.length_cons] at hl; omega)]
    have e : (m2 ++ [MO.lst acc]).set mm.length (.lst (acc ++ [v])) = m2 ++ [.lst (acc ++ [v])] := by
      rw [← hlen, List.set_append_right _ _ (Nat.le_refl _), Nat.sub_self]
      rfl
    rw [e, ← hlen]
    exact e3
theorem rng_len (a b : Int) : (rng a b).length = (b - a).toNat := by
  unfold rng
  rw [List.length_map, List.length_range]
/-- _law_kind -/
theorem drawn_ok : ∀ (k : Nat) {n : Nat} {m : Mem}, k + 4 ≤ n → Sd m s c → ∃ v m', run dat.T W dat.defs n 9 [.ref s, .int k] m = .ok v m' ∧ Left m m' s c ∧ Ki (2 * k) v ∧ isK v = true := by
  intro k
  induction k with
  | zero =>
    intro n m hn h
    obtain ⟨n, rfl⟩ : ∃ j, n = j + 3 := ⟨n - 3, by omega⟩
    rw [run_of def9 rfl]
    obtain ⟨r, m1, e1, r0, r1, l1⟩ := draw_ok (n := n + 1) (W := W) (many := 5) h (by decide) (by decide)
    obtain ⟨z, m2, e2, l2⟩ := number_ok (n := n) (W := W) l1.st
    have a1 : evS dat.T W (run dat.T W dat.defs (n + 2)) (.asg 2 (.call 7 [] [(.var 0), (.int 5)])) (entry ⟨2, 5, [], body9⟩ [.ref s, .int 0]) m = .nx [.val (.ref s), .val (.int 0), .val (.int r), .no, .no] m1 := s_asg (e_call (l_cons (e_var rfl) (l_one e_int)) e1)
    by_cases h0 : r = 0
    · refine ⟨.str sMaker, m1, ?_, l1, trivial, rfl⟩
      have fin : evB dat.T W (run dat.T W dat.defs (n + 2)) body9 (entry ⟨2, 5, [], body9⟩ [.ref s, .int 0]) m = .rt (.str sMaker) m1 := (b_nx a1).trans (b_ends (e_cmp (e_var rfl) e_int cmp_eqi) (by show some (decide (r = 0)) = _; rw [decide_eq_true h0]) (b_rt (s_ret e_str)))
      exact (congrArg (RS.out m) fin).trans (l1.out0 rfl)
    · refine ⟨.int z, m2, ?_, l1.trans l2, trivial, rfl⟩
      have s0 := b_skip (W := W) (p := [.ret (.str [109, 97, 107, 101, 114])]) (ss := body9.drop 2) (e_cmp (T := dat.T) (cl := run dat.T W dat.defs (n + 2)) (r := [.val (.ref s), .val (.int 0), .val (.int r), .no, .no]) (m := m1) (e_var (i := 2) rfl) e_int (cmp_eqi (y := 0))) (by show some (decide (r = 0)) = _; rw [decide_eq_false h0])
      have hor : evE dat.T (run dat.T W dat.defs (n + 2)) (.or (.cmp .Lt (.var 2) (.int 3)) (.cmp .Eq (.var 1) (.int 0))) [.val (.ref s), .val (.int 0), .val (.int r), .no, .no] m1 = .ok (.bl true) m1 := by
        by_cases h3 : r < 3
        · exact e_or_t (e_cmp (e_var rfl) e_int (by show some (MV.bl (decide (r < 3)), m1) = _; rw [decide_eq_true h3])) rfl
        · exact (e_or_f (e_cmp (e_var rfl) e_int (by show some (MV.bl (decide (r < 3)), m1) = some (MV.bl false, m1); rw [decide_eq_false h3])) rfl).trans (e_cmp (e_var rfl) e_int cmp_eqi)
      have fin : evB dat.T W (run dat.T W dat.defs (n + 2)) body9 (entry ⟨2, 5, [], body9⟩ [.ref s, .int 0]) m = .rt (.int z) m2 := (b_nx a1).trans (s0.trans (b_ends hor rfl (b_rt (s_ret (e_call (l_one (e_var rfl)) e2)))))
      exact (congrArg (RS.out m) fin).trans ((l1.trans l2).out0 rfl)
  | succ k ih =>
    intro n m hn h
    obtain ⟨n, rfl⟩ : ∃ j, n = j + 3 := ⟨n - 3, by omega⟩
    rw [run_of def9 rfl]
    obtain ⟨r, m1, e1, r0, r1, l1⟩ := draw_ok (n := n + 1) (W := W) (many := 5) h (by decide) (by decide)
    have a1 : evS dat.T W (run dat.T W dat.defs (n + 2)) (.asg 2 (.call 7 [] [(.var 0), (.int 5)])) (entry ⟨2, 5, [], body9⟩ [.ref s, .int (k + 1 : Nat)]) m = .nx [.val (.ref s), .val (.int (k + 1 : Nat)), .val (.int r), .no, .no] m1 := s_asg (e_call (l_cons (e_var rfl) (l_one e_int)) e1)
    by_cases h0 : r = 0
    · refine ⟨.str sMaker, m1, ?_, l1, trivial, rfl⟩
      have fin : evB dat.T W (run dat.T W dat.defs (n + 2)) body9 (entry ⟨2, 5, [], body9⟩ [.ref s, .int (k + 1 : Nat)]) m = .rt (.str sMaker) m1 := (b_nx a1).trans (b_ends (e_cmp (e_var rfl) e_int cmp_eqi) (by show some (decide (r = 0)) = _; rw [decide_eq_true h0]) (b_rt (s_ret e_str)))
      exact (congrArg (RS.out m) fin).trans (l1.out0 rfl)
    have s0 := b_skip (W := W) (p := [.ret (.str [109, 97, 107, 101, 114])]) (ss := body9.drop 2) (e_cmp (T := dat.T) (cl := run dat.T W dat.defs (n + 2)) (r := [.val (.ref s), .val (.int (k + 1 : Nat)), .val (.int r), .no, .no]) (m := m1) (e_var (i := 2) rfl) e_int (cmp_eqi (y := 0))) (by show some (decide (r = 0)) = _; rw [decide_eq_false h0])
    by_cases h3 : r < 3
    · obtain ⟨z, m2, e2, l2⟩ := number_ok (n := n) (W := W) l1.st
      refine ⟨.int z, m2, ?_, l1.trans l2, trivial, rfl⟩
      have hor : evE dat.T (run dat.T W dat.defs (n + 2)) (.or (.cmp .Lt (.var 2) (.int 3)) (.cmp .Eq (.var 1) (.int 0))) [.val (.ref s), .val (.int (k + 1 : Nat)), .val (.int r), .no, .no] m1 = .ok (.bl true) m1 :=
        e_or_t (e_cmp (e_var rfl) e_int (by show some (MV.bl (decide (r < 3)), m1) = _; rw [decide_eq_true h3])) rfl
      have fin : evB dat.T W (run dat.T W dat.defs (n + 2)) body9 (entry ⟨2, 5, [], body9⟩ [.ref s, .int (k + 1 : Nat)]) m = .rt (.int z) m2 := (b_nx a1).trans (s0.trans (b_ends hor rfl (b_rt (s_ret (e_call (l_one (e_var rfl)) e2)))))
      exact (congrArg (RS.out m) fin).trans ((l1.trans l2).out0 rfl)
    have hor : evE dat.T (run dat.T W dat.defs (n + 2)) (.or (.cmp .Lt (.var 2) (.int 3)) (.cmp .Eq (.var 1) (.int 0))) [.val (.ref s), .val (.int (k + 1 : Nat)), .val (.int r), .no, .no] m1 = .ok (.bl false) m1 :=
      (e_or_f (e_cmp (e_var rfl) e_int (by show some (MV.bl (decide (r < 3)), m1) = some (MV.bl false, m1); rw [decide_eq_false h3])) rfl).trans (e_cmp (e_var rfl) e_int (by rw [cmp_eqi, decide_eq_false (by omega)]))
    obtain ⟨q, m2, e2, q0, q1, l2⟩ := draw_ok (n := n + 1) (W := W) (many := 4) l1.st (by decide) (by decide)
    have a3 : evS dat.T W (run dat.T W dat.defs (n + 2)) (.asg 3 (.call 7 [] [(.var 0), (.int 4)])) [.val (.ref s), .val (.int (k + 1 : Nat)), .val (.int r), .no, .no] m1 = .nx [.val (.ref s), .val (.int (k + 1 : Nat)), .val (.int r), .val (.int q), .no] m2 := s_asg (e_call (l_cons (e_var rfl) (l_one e_int)) e2)
    have one : ∀ {r : Env} {mm : Mem}, r[0]? = some (.val (.ref s)) → r[1]? = some (.val (.int (k + 1 : Nat))) → Sd mm s c → ∃ v mm', evE dat.T (run dat.T W dat.defs (n + 2)) (.call 9 [] [(.var 0), (.bin .Sub (.var 1) (.int 1))]) r mm = .ok v mm' ∧ Left mm mm' s c ∧ Ki (2 * k) v ∧ isK v = true := fun {r mm} g0 g1 hm => by
      obtain ⟨v, mm', ev, lv, kv, iv⟩ := ih (n := n + 2) (by omega) hm
      refine ⟨v, mm', e_call (l_cons (e_var g0) (l_one (e_bin (e_var g1) e_int rfl))) ?_, lv, kv, iv⟩
      have : ((k + 1 : Nat) : Int) - 1 = (k : Int) := by omega
      rw [this]
      exact ev
    obtain ⟨vs, m3, e3, l3, k3, i3, hl3⟩ := lc_draw (d := 2 * k) (its := rng 0 q) (elt := fun x m2 => evE dat.T (run dat.T W dat.defs (n + 2)) (.call 9 [] [(.var 0), (.bin .Sub (.var 1) (.int 1))]) (List.set [.val (.ref s), .val (.int (k + 1 : Nat)), .val (.int r), .val (.int q), .no] 4 (.val x)) m2) (fun x mm hm => one rfl rfl hm) (rng 0 q) [] m2 l2.st (fun x hx => by cases hx) rfl (by rw [rng_len, List.length_nil]; omega)
    have hq : -(2 ^ 62) ≤ q ∧ q < 2 ^ 62 := ⟨by omega, by omega⟩
    have elc : evE dat.T (run dat.T W dat.defs (n + 2)) (.lc (.call 9 [] [(.var 0), (.bin .Sub (.var 1) (.int 1))]) 4 (.rng1 (.var 3)) []) [.val (.ref s), .val (.int (k + 1 : Nat)), .val (.int r), .val (.int q), .no] m2 = .ok (.ref m2.length) (m3 ++ [.lst vs]) := by
      rw [evE, evI, e_var (i := 3) rfl, bind_ok]
      rw [show rng1 (.int q) = some ⟨rng 0 q, none⟩ from if_pos hq]
      exact e3
    have etup : builtin .tuple [.ref m2.length] (m3 ++ [.lst vs]) = some (.tup vs, m3 ++ [.lst vs]) := by
      show (match (m3 ++ [MO.lst vs])[m2.length]? with | some (.lst xs) => some (MV.tup xs, m3 ++ [MO.lst vs]) | some (.frz xs) => some (MV.tup xs, m3 ++ [MO.lst vs]) | _ => none) = _
      rw [← l3.len, getE_new]
    obtain ⟨v, m4, e4, l4, k4, i4⟩ := one (r := [.val (.ref s), .val (.int (k + 1 : Nat)), .val (.int r), .val (.int q), .no]) (mm := m3 ++ [.lst vs]) rfl rfl (l3.st.more _)
    obtain ⟨m5, rfl, l5⟩ := l4.split l3.st
    have lall := ((l1.trans l2).trans l3).trans l5
    have hki : Ki (2 * (k + 1)) (.tup [.str sTakes, .tup vs, v]) := by
      refine ⟨show 3 ≤ 4000 from by decide, fun x hx => ?_⟩
      simp only [List.mem_cons, List.not_mem_nil, or_false] at hx
      rcases hx with rfl | rfl | rfl
      · trivial
      · refine ⟨?_, k3⟩
        rw [hl3, rng_len, List.length_nil]
        omega
      · exact k4.up
    refine ⟨.tup [.str sTakes, .tup vs, v], m5, ?_, lall, hki, ?_⟩
    · have fin : evB dat.T W (run dat.T W dat.defs (n + 2)) body9 (entry ⟨2, 5, [], body9⟩ [.ref s, .int (k + 1 : Nat)]) m = .rt (.tup [.str sTakes, .tup vs, v]) (m5 ++ [.lst vs]) :=
        (b_nx a1).trans (s0.trans ((b_skip hor rfl).trans ((b_nx a3).trans (b_rt (s_ret (e_tup (l_cons e_str (l_cons (e_blt (l_one elc) etup) (l_one e4))) (show 3 ≤ line from by decide)))))))
      exact (congrArg (RS.out m) fin).trans (lall.out (Th.low hki.th) _)
    · show (isTk (.str sTakes) && (isKs vs && isK v)) = true
      rw [i3, i4]
      rfl
end
end LW
end Part_V3

section Part_V4
set_option Elab.async false
set_option linter.all false
set_option maxRecDepth 100000
set_option maxHeartbeats 4000000
namespace LW
open U
open PySem (Operator CmpOp)
section
variable {W : Nat} {m : Mem} {s c : Nat}
theorem th_tup {q : Bool} {mm : Mem} {d : Nat} {xs : List MV} (hl : xs.length ≤ 20000) (h : ∀ x ∈ xs, Th q mm d x) : Th q mm (d + 1) (.tup xs) := ⟨hl, h⟩
theorem th_int {q : Bool} {mm : Mem} {d : Nat} {i : Int} : Th q mm d (.int i) := by cases d <;> trivial
theorem th_str {q : Bool} {mm : Mem} {d : Nat} {x : Txt} : Th q mm d (.str x) := by cases d <;> trivial
theorem rep_one {α : Type} (x : α) : ∀ k : Nat, (List.replicate k [x]).flatten = List.replicate k x
  | 0 => rfl
  | k + 1 => by rw [List.replicate_succ, List.flatten_cons, rep_one x k, List.replicate_succ]; rfl
/-- _law_great -/
theorem great_ok {d n : Nat} {last : MV} (hd : Th false m d last) (h : Sd m s c) : ∃ v m', run dat.T W dat.defs (n + 3) 10 [.ref s, last] m = .ok v m' ∧ Left m m' s c ∧ Th false m' (d + 100) v := by
  rw [run_of def10 rfl]
  obtain ⟨r, m1, e1, r0, r1, l1⟩ := draw_ok (n := n + 1) (W := W) (many := 3) h (by decide) (by decide)
  have a1 : evS dat.T W (run dat.T W dat.defs (n + 2)) (.asg 2 (.call 7 [] [(.var 0), (.int 3)])) (entry ⟨2, 7, [], body10⟩ [.ref s, last]) m = .nx [.val (.ref s), .val last, .val (.int r), .no, .no, .no, .no] m1 := s_asg (e_call (l_cons (e_var rfl) (l_one e_int)) e1)
  have cmp2 : evE dat.T (run dat.T W dat.defs (n + 2)) (.cmp .Eq (.var 2) (.int 2)) [.val (.ref s), .val last, .val (.int r), .no, .no, .no, .no] m1 = .ok (.bl (decide (r = 2))) m1 := e_cmp (e_var rfl) e_int cmp_eqi
  have fin : ∃ v m', evB dat.T W (run dat.T W dat.defs (n + 2)) body10 (entry ⟨2, 7, [], body10⟩ [.ref s, last]) m = .rt v m' ∧ Left m m' s c ∧ Th false m' (d + 100) v := by
    by_cases h2 : r = 2
    · -- side by side
      obtain ⟨k, m2, e2, k0, k1, l2⟩ := draw_ok (n := n + 1) (W := W) (many := 900) l1.st (by decide) (by decide)
      obtain ⟨z1, m3, e3, l3⟩ := number_ok (n := n) (W := W) l2.st
      obtain ⟨z2, m4, e4, l4⟩ := number_ok (n := n) (W := W) l3.st
      have a3 : evS dat.T W (run dat.T W dat.defs (n + 2)) (.asg 3 (.call 7 [] [(.var 0), (.int 900)])) [.val (.ref s), .val last, .val (.int r), .no, .no, .no, .no] m1 = .nx [.val (.ref s), .val last, .val (.int r), .val (.int k), .no, .no, .no] m2 := s_asg (e_call (l_cons (e_var rfl) (l_one e_int)) e2)
      have lall := ((l1.trans l2).trans l3).trans l4
      let t : MV := .tup [.str sTakes, .tup [], .int z1]
      let row : List MV := (List.replicate k.toNat [t]).flatten ++ [last]
      have lrow : row.length ≤ 1000 := by
        show ((List.replicate k.toNat [t]).flatten ++ [last]).length ≤ 1000
        rw [rep_one, List.length_append, List.length_replicate]
        simp only [List.length_cons, List.length_nil]
        omega
      have et : evE dat.T (run dat.T W dat.defs (n + 2)) (.tup [(.str [116, 97, 107, 101, 115]), (.tup []), (.call 8 [] [(.var 0)])]) [.val (.ref s), .val last, .val (.int r), .val (.int k), .no, .no, .no] m2 = .ok t m3 :=
        e_tup (l_cons e_str (l_cons (e_tup l_nil (show 0 ≤ line from by decide)) (l_one (e_call (l_one (e_var rfl)) e3)))) (show 3 ≤ line from by decide)
      have emul : evE dat.T (run dat.T W dat.defs (n + 2)) (.bin .Mult (.tup [(.tup [(.str [116, 97, 107, 101, 115]), (.tup []), (.call 8 [] [(.var 0)])])]) (.var 3)) [.val (.ref s), .val last, .val (.int r), .val (.int k), .no, .no, .no] m2 = .ok (.tup (List.replicate k.toNat [t]).flatten) m3 :=
        e_bin (e_tup (l_one et) (show 1 ≤ line from by decide)) (e_var rfl) (if_pos ⟨rfl, by omega, by omega, show 1 ≤ 1000 from by decide⟩)
      have eadd : evE dat.T (run dat.T W dat.defs (n + 2)) (.bin .Add (.bin .Mult (.tup [(.tup [(.str [116, 97, 107, 101, 115]), (.tup []), (.call 8 [] [(.var 0)])])]) (.var 3)) (.tup [(.var 1)])) [.val (.ref s), .val last, .val (.int r), .val (.int k), .no, .no, .no] m2 = .ok (.tup row) m3 :=
        e_bin emul (e_tup (l_one (e_var rfl)) (show 1 ≤ line from by decide)) (by
          show (if (List.replicate k.toNat [t]).flatten.length + [last].length ≤ line then some (MV.tup row, m3) else none) = _
          rw [if_pos]
          rw [← List.length_append]
          have : row.length ≤ 1000 := lrow
          show row.length ≤ line
          unfold line
          omega)
      refine ⟨.tup [.str sTakes, .tup row, .int z2], m4, (b_nx a1).trans (b_ends cmp2 (by show some (decide (r = 2)) = _; rw [decide_eq_true h2]) ((b_nx a3).trans (b_rt (s_ret (e_tup (l_cons e_str (l_cons eadd (l_one (e_call (l_one (e_var rfl)) e4)))) (show 3 ≤ line from by decide)))))), lall, ?_⟩
      refine th_tup (d := d + 99) (show 3 ≤ 20000 from by decide) fun x hx => ?_
      simp only [List.mem_cons, List.not_mem_nil, or_false] at hx
      rcases hx with rfl | rfl | rfl
      · exact th_str
      · refine th_tup (d := d + 98) (by omega) fun x hx => ?_
        rcases List.mem_append.mp hx with z | z
        · rw [rep_one] at z
          rw [(List.mem_replicate.mp z).2]
          refine th_tup (d := d + 97) (show 3 ≤ 20000 from by decide) fun y hy => ?_
          simp only [List.mem_cons, List.not_mem_nil, or_false] at hy
          rcases hy with rfl | rfl | rfl
          · exact th_str
          · exact th_tup (d := d + 96) (show 0 ≤ 20000 from by decide) fun y hy => by cases hy
          · exact th_int
        · rw [List.mem_singleton] at z
          rw [z]
          exact (hd.keeps lall.keeps).le (by omega)
      · exact th_int
    · -- within one another
      have a4 : evS dat.T W (run dat.T W dat.defs (n + 2)) (.asg 4 (.var 1)) [.val (.ref s), .val last, .val (.int r), .no, .no, .no, .no] m1 = .nx [.val (.ref s), .val last, .val (.int r), .no, .val last, .no, .no] m1 := s_asg (e_var rfl)
      obtain ⟨k, m2, e2, k0, k1, l2⟩ := draw_ok (n := n + 1) (W := W) (many := 49) l1.st (by decide) (by decide)
      have body : ∀ x ∈ rng 0 k, ∀ j r mm, (r.length = 7 ∧ r[0]? = some (.val (.ref s)) ∧ Left m mm s c ∧ ∃ v, r[4]? = some (.val v) ∧ Th false mm (d + 2 * j) v) →
          ∃ r' m', (match (Tg.one 5).put x r with | some r2 => evB dat.T W (run dat.T W dat.defs (n + 2)) [.asg 6 (.call 8 [] [(.var 0)]), .ifs (.cmp .Eq (.call 7 [] [(.var 0), (.int 2)]) (.int 0)) [.asg 4 (.tup [(.str [116, 97, 107, 101, 115]), (.tup [(.var 6), (.var 4), (.var 6)]), (.str [109, 97, 107, 101, 114])])] [.asg 4 (.tup [(.str [116, 97, 107, 101, 115]), (.tup [(.str [109, 97, 107, 101, 114])]), (.var 4)])]] r2 mm | none => .fail) = .nx r' m' ∧
            (r'.length = 7 ∧ r'[0]? = some (.val (.ref s)) ∧ Left m m' s c ∧ ∃ v, r'[4]? = some (.val v) ∧ Th false m' (d + 2 * (j + 1)) v) := by
        rintro x _ j r mm ⟨h1, h2, h3, v, h4, h5⟩
        obtain ⟨z, m3, e3, l3⟩ := number_ok (n := n) (W := W) h3.st
        obtain ⟨q, m4, e4, _, _, l4⟩ := draw_ok (n := n + 1) (W := W) (many := 2) l3.st (by decide) (by decide)
        have g0 : (r.set 5 (.val x))[0]? = some (.val (.ref s)) := by rw [List.getElem?_set_ne (by decide)]; exact h2
        have b6 := s_asg (T := dat.T) (W := W) (i := 6) (e_call (T := dat.T) (cl := run dat.T W dat.defs (n + 2)) (f := 8) (ix := []) (l_one (e_var g0)) e3)
        have g0' : ((r.set 5 (.val x)).set 6 (.val (.int z)))[0]? = some (.val (.ref s)) := by rw [List.getElem?_set_ne (by decide)]; exact g0
        have g6 : ((r.set 5 (.val x)).set 6 (.val (.int z)))[6]? = some (.val (.int z)) := List.getElem?_set_self (by rw [List.length_set]; omega)
        have g4 : ((r.set 5 (.val x)).set 6 (.val (.int z)))[4]? = some (.val v) := by rw [List.getElem?_set_ne (by decide), List.getElem?_set_ne (by decide)]; exact h4
        have ec : evE dat.T (run dat.T W dat.defs (n + 2)) (.cmp .Eq (.call 7 [] [(.var 0), (.int 2)]) (.int 0)) ((r.set 5 (.val x)).set 6 (.val (.int z))) m3 = .ok (.bl (decide (q = 0))) m4 := e_cmp (e_call (l_cons (e_var g0') (l_one e_int)) e4) e_int cmp_eqi
        have lall := (h3.trans l3).trans l4
        have hv := h5.keeps (l3.trans l4).keeps
        have after : ∀ {w : MV} {e : CE}, evE dat.T (run dat.T W dat.defs (n + 2)) e ((r.set 5 (.val x)).set 6 (.val (.int z))) m4 = .ok w m4 → Th false m4 (d + 2 * (j + 1)) w → evB dat.T W (run dat.T W dat.defs (n + 2)) [.asg 4 e] ((r.set 5 (.val x)).set 6 (.val (.int z))) m4 = .nx (((r.set 5 (.val x)).set 6 (.val (.int z))).set 4 (.val w)) m4 ∧
            ((((r.set 5 (.val x)).set 6 (.val (.int z))).set 4 (.val w)).length = 7 ∧ (((r.set 5 (.val x)).set 6 (.val (.int z))).set 4 (.val w))[0]? = some (.val (.ref s)) ∧ Left m m4 s c ∧ ∃ v, (((r.set 5 (.val x)).set 6 (.val (.int z))).set 4 (.val w))[4]? = some (.val v) ∧ Th false m4 (d + 2 * (j + 1)) v) := fun {w e} he hw =>
          ⟨(b_nx (s_asg he)).trans b_nil, by rw [List.length_set, List.length_set, List.length_set]; exact h1, by rw [List.getElem?_set_ne (by decide)]; exact g0', lall, w, List.getElem?_set_self (by rw [List.length_set, List.length_set]; omega), hw⟩
        have dd : d + 2 * (j + 1) = (d + 2 * j + 1) + 1 := by omega
        by_cases hq : q = 0
        · obtain ⟨b1, b2⟩ := after (w := .tup [.str sTakes, .tup [.int z, v, .int z], .str sMaker]) (e_tup (l_cons e_str (l_cons (e_tup (l_cons (e_var g6) (l_cons (e_var g4) (l_one (e_var g6)))) (show 3 ≤ line from by decide)) (l_one e_str))) (show 3 ≤ line from by decide)) (by
            rw [dd]
            refine th_tup (show 3 ≤ 20000 from by decide) fun y hy => ?_
            simp only [List.mem_cons, List.not_mem_nil, or_false] at hy
            rcases hy with rfl | rfl | rfl
            · exact th_str
            · refine th_tup (show 3 ≤ 20000 from by decide) fun y hy => ?_
              simp only [List.mem_cons, List.not_mem_nil, or_false] at hy
              rcases hy with rfl | rfl | rfl
              · exact th_int
              · exact hv
              · exact th_int
            · exact th_str)
          exact ⟨_, _, (b_nx b6).trans ((b_nx ((s_if_t ec (by show some (decide (q = 0)) = _; rw [decide_eq_true hq])).trans b1)).trans b_nil), b2⟩
        · obtain ⟨b1, b2⟩ := after (w := .tup [.str sTakes, .tup [.str sMaker], v]) (e_tup (l_cons e_str (l_cons (e_tup (l_one e_str) (show 1 ≤ line from by decide)) (l_one (e_var g4)))) (show 3 ≤ line from by decide)) (by
            rw [dd]
            refine th_tup (show 3 ≤ 20000 from by decide) fun y hy => ?_
            simp only [List.mem_cons, List.not_mem_nil, or_false] at hy
            rcases hy with rfl | rfl | rfl
            · exact th_str
            · refine th_tup (show 1 ≤ 20000 from by decide) fun y hy => ?_
              simp only [List.mem_cons, List.not_mem_nil, or_false] at hy
              rw [hy]
              exact th_str
            · exact hv.up)
          exact ⟨_, _, (b_nx b6).trans ((b_nx ((s_if_f ec (by show some (decide (q = 0)) = _; rw [decide_eq_false hq])).trans b1)).trans b_nil), b2⟩
      obtain ⟨r', m3, ef, hr1, hr2, l3, v, hv1, hv2⟩ := for_inv (w := ⟨rng 0 k, none⟩) (I := fun j r mm => r.length = 7 ∧ r[0]? = some (.val (.ref s)) ∧ Left m mm s c ∧ ∃ v, r[4]? = some (.val v) ∧ Th false mm (d + 2 * j) v) (fun _ _ _ _ => rfl) (rng 0 k) 0 [.val (.ref s), .val last, .val (.int r), .no, .val last, .no, .no] m2 body ⟨rfl, rfl, l1.trans l2, last, rfl, hd.keeps (l1.trans l2).keeps⟩
      have hk : -(2 ^ 62) ≤ k ∧ k < 2 ^ 62 := ⟨by omega, by omega⟩
      have efor : evS dat.T W (run dat.T W dat.defs (n + 2)) (.for_ (.one 5) (.rng1 (.call 7 [] [(.var 0), (.int 49)])) [.asg 6 (.call 8 [] [(.var 0)]), .ifs (.cmp .Eq (.call 7 [] [(.var 0), (.int 2)]) (.int 0)) [.asg 4 (.tup [(.str [116, 97, 107, 101, 115]), (.tup [(.var 6), (.var 4), (.var 6)]), (.str [109, 97, 107, 101, 114])])] [.asg 4 (.tup [(.str [116, 97, 107, 101, 115]), (.tup [(.str [109, 97, 107, 101, 114])]), (.var 4)])]]) [.val (.ref s), .val last, .val (.int r), .no, .val last, .no, .no] m1 = .nx r' m3 := by
        rw [evS, evI, e_call (l_cons (e_var rfl) (l_one e_int)) e2, bind_ok, show rng1 (.int k) = some ⟨rng 0 k, none⟩ from if_pos hk]
        exact ef
      refine ⟨v, m3, (b_nx a1).trans ((b_skip cmp2 (by show some (decide (r = 2)) = _; rw [decide_eq_false h2])).trans ((b_nx a4).trans ((b_nx efor).trans (b_rt (s_ret (e_var hv1)))))), l3, hv2.le ?_⟩
      rw [rng_len]
      omega
  obtain ⟨v, m', e, l, t⟩ := fin
  refine ⟨v, m', (congrArg (RS.out m) e).trans (l.out0 ?_), l, t⟩
  have := t.low
  rwa [l.len] at this
end
end LW
end Part_V4

section Part_V5
set_option Elab.async false
set_option linter.all false
set_option maxRecDepth 100000
set_option maxHeartbeats 4000000
namespace LW
open U
open PySem (Operator CmpOp)
section
variable {T : Tab} {W : Nat} {cl : CallF} {r : Env} {m m1 m2 m3 : Mem} {a b e : CE} {x y z v : MV} {i : Nat}
theorem e_slc_hi {j : Int} (ho : evE T cl a r m = .ok x m1) (hh : evE T cl b r m1 = .ok (.int j) m2) (h : slice x none (some j) m2 = some (z, m3)) : evE T cl (.slc a [] [b]) r m = .ok z m3 := by
  rw [evE, ho, bind_ok, evL_nil, bind_ok]
  show ((evL T cl [b] r m1).bind fun hs m3 => onPart hs fun b => lift (slice x none b m3)) = _
  rw [l_one hh, bind_ok]
  show lift (slice x none (some j) m2) = _
  rw [h]
  rfl
theorem e_slc_lo {j : Int} (ho : evE T cl a r m = .ok x m1) (hh : evE T cl b r m1 = .ok (.int j) m2) (h : slice x (some j) none m2 = some (z, m3)) : evE T cl (.slc a [b] []) r m = .ok z m3 := by
  rw [evE, ho, bind_ok, l_one hh, bind_ok]
  show ((evL T cl [] r m2).bind fun hs m3 => onPart hs fun b => lift (slice x (some j) b m3)) = _
  rw [evL_nil, bind_ok]
  show lift (slice x (some j) none m2) = _
  rw [h]
  rfl
theorem e_slc {j k : Int} {m4 : Mem} (ho : evE T cl a r m = .ok x m1) (hl : evE T cl b r m1 = .ok (.int j) m2) (hh : evE T cl e r m2 = .ok (.int k) m3) (h : slice x (some j) (some k) m3 = some (z, m4)) : evE T cl (.slc a [b] [e]) r m = .ok z m4 := by
  rw [evE, ho, bind_ok, l_one hl, bind_ok]
  show ((evL T cl [e] r m2).bind fun hs m3 => onPart hs fun b => lift (slice x (some j) b m3)) = _
  rw [l_one hh, bind_ok]
  show lift (slice x (some j) (some k) m3) = _
  rw [h]
  rfl
theorem e_rev (ho : evE T cl a r m = .ok x m1) (h : revv x m1 = some (z, m2)) : evE T cl (.rev a) r m = .ok z m2 := by
  rw [evE, ho, bind_ok, h]
  rfl
theorem s_app {B : Mem} {l : List MV} (g : r[i]? = some (.val (.ref B.length))) (he : evE T cl e r (B ++ [.lst l]) = .ok v (B ++ [.lst l])) (hl : l.length < 100) : evS T W cl (.expr (.bm (.var i) .append [e])) r (B ++ [.lst l]) = .nx r (B ++ [.lst (l ++ [v])]) := by
  refine s_expr (v := .non) ?_
  rw [evE, e_var g, bind_ok]
  unfold onRecv
  rw [if_pos (by show (match (B ++ [MO.lst l])[B.length]? with | some (.lst _) => true | _ => false) = true; rw [getE_new])]
  rw [l_one he, bind_ok]
  have e1 : method .append (.ref B.length) [v] (B ++ [.lst l]) = some (.non, B ++ [.lst (l ++ [v])]) := by
    show (match (B ++ [MO.lst l])[B.length]? with | some (.lst xs) => if xs.length < line then some (MV.non, (B ++ [MO.lst l]).set B.length (.lst (xs ++ [v]))) else none | _ => none) = _
    rw [getE_new]
    dsimp only
    rw [if_pos (by unfold line; omega), List.set_append_right _ _ (Nat.le_refl _), Nat.sub_self]
    rfl
  rw [e1]
  rfl
end
theorem cut_sub {xs : List MV} {lo hi : Option Int} : (∀ x ∈ cut xs lo hi, x ∈ xs) ∧ (cut xs lo hi).length ≤ xs.length := by
  unfold cut
  exact ⟨fun x hx => List.mem_of_mem_drop (List.mem_of_mem_take hx), by rw [List.length_take, List.length_drop]; omega⟩
theorem cat_ok {xs ys : List MV} {m : Mem} (h1 : xs.length ≤ 100000) (h2 : ys.length ≤ 100000) : binop .Add (.tup xs) (.tup ys) m = some (.tup (xs ++ ys), m) := by
  show (if xs.length + ys.length ≤ line then some (MV.tup (xs ++ ys), m) else none) = _
  rw [if_pos (by unfold line; omega)]
/-- what stands behind the draws' memory -/
def Tail (m m' : Mem) (s c : Nat) : Prop := ∃ m1 x, m' = m1 ++ x ∧ Left m m1 s c
section
variable {W : Nat} {m : Mem} {s c : Nat}
mutual
theorem Th.cut {m1 : Mem} {x : List MO} : ∀ {e : Nat} {v : MV}, Th false (m1 ++ x) e v → v.low m1.length = true → Th false m1 e v
  | 0, v, h, l => by
    cases v with
    | tup xs => exact h.elim
    | ref n =>
      obtain ⟨xs, e⟩ := h
      have hn : n < m1.length := of_decide_eq_true l
      exact ⟨xs, by rw [List.getElem?_append_left hn] at e; exact e⟩
    | obj c fs => cases h.1
    | _ => trivial
  | e + 1, v, h, l => by
    cases v with
    | tup xs => exact ⟨h.1, Th.cuts h.2 l⟩
    | ref n =>
      obtain ⟨xs, e⟩ := h
      have hn : n < m1.length := of_decide_eq_true l
      exact ⟨xs, by rw [List.getElem?_append_left hn] at e; exact e⟩
    | obj c fs => cases h.1
    | _ => trivial
theorem Th.cuts {m1 : Mem} {x : List MO} : ∀ {e : Nat} {xs : List MV}, (∀ v ∈ xs, Th false (m1 ++ x) e v) → MV.lows m1.length xs = true → ∀ v ∈ xs, Th false m1 e v
  | e, [], _, _ => fun v hv => by cases hv
  | e, y :: ys, h, l => fun v hv => by
    have l' : (MV.low m1.length y && MV.lows m1.length ys) = true := l
    rw [Bool.and_eq_true] at l'
    rcases List.mem_cons.mp hv with q | q
    · rw [q]
      exact Th.cut (h y (List.mem_cons_self ..)) l'.1
    · exact Th.cuts (fun w hw => h w (List.mem_cons_of_mem _ hw)) l'.2 v q
end
theorem out_tail {v : MV} {mm : Mem} {e : Nat} (t : Tail m mm s c) (h : Th false mm e v) : ∃ v' m', (RS.rt v mm).out m = .ok v' m' ∧ Tail m m' s c ∧ Th false m' e v' := by
  obtain ⟨m1, x, rfl, l⟩ := t
  show ∃ v' m', gcV m v (m1 ++ x) = .ok v' m' ∧ _
  unfold gcV
  rw [if_pos (l.okOld x)]
  by_cases hl : v.low m.length = true
  · rw [if_pos hl]
    refine ⟨v, m1, ?_, ⟨m1, [], by rw [List.append_nil], l⟩, h.cut (by rw [l.len]; exact hl)⟩
    rw [← l.len, List.take_left]
  · rw [if_neg hl]
    cases v with
    | ref k =>
      obtain ⟨xs, ex⟩ : ∃ xs, (m1 ++ x)[k]? = some (.lst xs) := by cases e <;> exact h
      dsimp only
      rw [ex]
      dsimp only
      by_cases ho : (MO.lst xs).low m.length = true
      · rw [if_pos ho]
        refine ⟨.ref m.length, m1 ++ [.lst xs], ?_, ⟨m1, [.lst xs], rfl, l⟩, ?_⟩
        · rw [← l.len, List.take_left]
        · have : ∃ ys, (m1 ++ [MO.lst xs])[m.length]? = some (.lst ys) := ⟨xs, by rw [← l.len]; exact getE_new⟩
          cases e <;> exact this
      · rw [if_neg ho]
        exact ⟨_, _, rfl, ⟨m1, x, rfl, l⟩, h⟩
    | tup xs => exact ⟨_, _, rfl, ⟨m1, x, rfl, l⟩, h⟩
    | non => exact ⟨_, _, rfl, ⟨m1, x, rfl, l⟩, h⟩
    | bl b => exact ⟨_, _, rfl, ⟨m1, x, rfl, l⟩, h⟩
    | int i => exact ⟨_, _, rfl, ⟨m1, x, rfl, l⟩, h⟩
    | str y => exact ⟨_, _, rfl, ⟨m1, x, rfl, l⟩, h⟩
    | obj c fs => exact ⟨_, _, rfl, ⟨m1, x, rfl, l⟩, h⟩
/-- an item of a list, at a drawn place -/
theorem pick_ok {l : List MV} {q : Int} {n : Nat} {mm : Mem} (hm : mm[n]? = some (.lst l)) (h0 : 0 ≤ q) (h1 : q < l.length) : ∃ y ∈ l, subscr (.ref n) (.int q) mm = some (y, mm) := by
  have hk : q.toNat < l.length := by omega
  refine ⟨l[q.toNat], List.getElem_mem hk, ?_⟩
  show (match mm[n]? with | some (.lst xs) => (match L2.atI xs q with | some y => some (y, mm) | none => none) | some (.frz xs) => (match L2.atI xs q with | some y => some (y, mm) | none => none) | _ => none) = _
  rw [hm]
  dsimp only
  have : L2.atI l q = some l[q.toNat] := by
    have := L2.atI_nat (List.getElem?_eq_getElem hk)
    rwa [Int.toNat_of_nonneg h0] at this
  rw [this]
theorem th_mono {d : Nat} {v : MV} {mm : Mem} (h : Ki d v) : Th false mm (d + 2) v := (h.th).le (by omega)
theorem e_two {r : Env} {B : Mem} {i : Nat} {l1 l2 : List MV} {es : List CE} {cl : CallF} (g : r[i]? = some (.val (.ref B.length))) (hl : evL dat.T cl es r (B ++ [.lst l1]) = .ok l2 (B ++ [.lst l1])) (h1 : l1.length ≤ 1000) (h2 : l2.length ≤ 1000) :
    evE dat.T cl (.bin .Add (.var i) (.lst es)) r (B ++ [.lst l1]) = .ok (.ref (B ++ [MO.lst l1] ++ [MO.lst l2]).length) (B ++ [.lst l1] ++ [.lst l2] ++ [.lst (l1 ++ l2)]) := by
  refine e_bin (e_var g) (e_lst hl (by unfold line; omega)) ?_
  show (match (B ++ [MO.lst l1] ++ [MO.lst l2])[B.length]?, (B ++ [MO.lst l1] ++ [MO.lst l2])[(B ++ [MO.lst l1]).length]? with
    | some (.lst x), some (.lst y) => if x.length + y.length ≤ line then alloc (.lst (x ++ y)) (B ++ [MO.lst l1] ++ [MO.lst l2]) else none
    | _, _ => none) = _
  rw [getE_new, getE_old getE_new]
  dsimp only
  rw [if_pos (by unfold line; omega)]
  rfl
theorem th_non {q : Bool} {mm : Mem} {d : Nat} : Th q mm d .non := by cases d <;> trivial
theorem th_bl {q : Bool} {mm : Mem} {d : Nat} {b : Bool} : Th q mm d (.bl b) := by cases d <;> trivial
theorem leaf_int {n d : Nat} {i w : Int} {m1 : Mem} (l1 : Left m m1 s c) (w0 : 0 ≤ w) (w1 : w < 8) : ∃ v' mm, evB dat.T W (run dat.T W dat.defs (n + 1)) (body12.drop 1) [.val (.ref s), .val (.int i), .val (.int w), .no, .no, .no] m1 = .rt v' mm ∧ Tail m mm s c ∧ Th false mm (d + 2) v' := by
  have h4 : tyAny dat.T m1 (.int i) [.tup] = some false := rfl
  have h2 : tyAny dat.T m1 (.int i) [.str] = some false := rfl
  have a4 : evS dat.T W (run dat.T W dat.defs (n + 1)) (.asg 4 (.lst [(.bin .Add (.var 1) (.int 1)), (.bin .Sub (.var 1) (.int 1)), (.neg (.var 1)), (.int 0)])) [.val (.ref s), .val (.int i), .val (.int w), .no, .no, .no] m1 = .nx [.val (.ref s), .val (.int i), .val (.int w), .no, .val (.ref m1.length), .no] (m1 ++ [.lst [.int (i + 1), .int (i - 1), .int (-i), .int 0]]) :=
    s_asg (e_lst (l_cons (e_bin (e_var rfl) e_int rfl) (l_cons (e_bin (e_var rfl) e_int rfl) (l_cons (e_neg (e_var rfl) rfl) (l_one e_int)))) (show 4 ≤ line from by decide))
  have e2 := e_two (B := m1) (cl := run dat.T W dat.defs (n + 1)) (r := [.val (.ref s), .val (.int i), .val (.int w), .no, .val (.ref m1.length), .no]) (i := 4) (l1 := [.int (i + 1), .int (i - 1), .int (-i), .int 0]) (l2 := [.bl (decide (0 < i)), .non, .tup [.int i], .str sMaker]) (es := [(.cmp .Gt (.var 1) (.int 0)), .non, (.tup [(.var 1)]), (.str [109, 97, 107, 101, 114])]) rfl
    (l_cons (e_cmp (e_var rfl) e_int rfl) (l_cons e_non (l_cons (e_tup (l_one (e_var rfl)) (show 1 ≤ line from by decide)) (l_one e_str)))) (show 4 ≤ 1000 from by decide) (show 4 ≤ 1000 from by decide)
  obtain ⟨y, hy, ey⟩ := pick_ok (q := w) (n := (m1 ++ [MO.lst [.int (i + 1), .int (i - 1), .int (-i), .int 0]] ++ [MO.lst [.bl (decide (0 < i)), .non, .tup [.int i], .str sMaker]]).length) (mm := m1 ++ [.lst [.int (i + 1), .int (i - 1), .int (-i), .int 0]] ++ [.lst [.bl (decide (0 < i)), .non, .tup [.int i], .str sMaker]] ++ [.lst ([.int (i + 1), .int (i - 1), .int (-i), .int 0] ++ [.bl (decide (0 < i)), .non, .tup [.int i], .str sMaker])]) getE_new w0 (by show w < 8; exact w1)
  refine ⟨y, _, (b_skip (e_and_f (e_isi (e_var rfl) h4) rfl) rfl).trans ((b_skip (e_isi (e_var rfl) h4) rfl).trans ((b_skip (e_isi (e_var rfl) h2) rfl).trans ((b_nx a4).trans (b_rt (s_ret (e_idx e2 (e_var rfl) ey)))))), ⟨m1, _, by rw [List.append_assoc, List.append_assoc], l1⟩, ?_⟩
  simp only [List.cons_append, List.nil_append, List.mem_cons, List.not_mem_nil, or_false] at hy
  rcases hy with rfl | rfl | rfl | rfl | rfl | rfl | rfl | rfl
  · exact th_int
  · exact th_int
  · exact th_int
  · exact th_int
  · exact th_bl
  · exact th_non
  · exact th_tup (show 1 ≤ 20000 from by decide) fun z hz => by rw [List.mem_singleton] at hz; rw [hz]; exact th_int
  · exact th_str
def words12 : List MV := [.str [108, 111, 111, 107], .str [110, 117, 109, 98, 101, 114], .str [109, 97, 107, 101, 114], .str [116, 97, 107, 101, 115], .str [103, 105, 118, 101, 115], .str [115, 117, 109], .str [99, 104, 111, 105, 99, 101], .str [116, 117, 114, 110], .str [116, 97, 107, 101], .str [], .str [109, 97, 107], .str [108, 111, 111, 107, 107]]
theorem leaf_str {n d : Nat} {x : Txt} {w : Int} {m1 : Mem} (l1 : Left m m1 s c) : ∃ v' mm, evB dat.T W (run dat.T W dat.defs (n + 1)) (body12.drop 1) [.val (.ref s), .val (.str x), .val (.int w), .no, .no, .no] m1 = .rt v' mm ∧ Tail m mm s c ∧ Th false mm (d + 2) v' := by
  have h4 : tyAny dat.T m1 (.str x) [.tup] = some false := rfl
  have h2 : tyAny dat.T m1 (.str x) [.str] = some true := rfl
  have e2 := e_two (B := m1) (cl := run dat.T W dat.defs (n + 1)) (r := [.val (.ref s), .val (.str x), .val (.int w), .no, .no, .val (.ref m1.length)]) (i := 5) (l1 := words12) (l2 := [.int 0, .non, .tup [.str sMaker]]) (es := [(.int 0), .non, (.tup [(.str [109, 97, 107, 101, 114])])]) rfl
    (l_cons e_int (l_cons e_non (l_one (e_tup (l_one e_str) (show 1 ≤ line from by decide))))) (show 12 ≤ 1000 from by decide) (show 3 ≤ 1000 from by decide)
  have asc : m1 ++ [MO.lst words12] ++ [MO.lst [.int 0, .non, .tup [.str sMaker]]] ++ [MO.lst (words12 ++ [.int 0, .non, .tup [.str sMaker]])] = m1 ++ [MO.lst words12, MO.lst [.int 0, .non, .tup [.str sMaker]], MO.lst (words12 ++ [.int 0, .non, .tup [.str sMaker]])] := by
    rw [List.append_assoc, List.append_assoc]
    rfl
  obtain ⟨q, m2, e3, q0, q1, l2⟩ := draw_ok (n := n) (W := W) (many := 15) (m := m1 ++ [MO.lst words12] ++ [MO.lst [.int 0, .non, .tup [.str sMaker]]] ++ [MO.lst (words12 ++ [.int 0, .non, .tup [.str sMaker]])]) (by rw [asc]; exact l1.st.more _) (by decide) (by decide)
  rw [asc] at l2
  obtain ⟨m3, rfl, l3⟩ := l2.split l1.st
  have hn : (m1 ++ [MO.lst words12] ++ [MO.lst [.int 0, .non, .tup [.str sMaker]]]).length = m3.length + 2 := by rw [l3.len]; simp
  obtain ⟨y, hy, ey⟩ := pick_ok (q := q) (n := (m1 ++ [MO.lst words12] ++ [MO.lst [.int 0, .non, .tup [.str sMaker]]]).length) (mm := m3 ++ [MO.lst words12, MO.lst [.int 0, .non, .tup [.str sMaker]], MO.lst (words12 ++ [.int 0, .non, .tup [.str sMaker]])]) (l := words12 ++ [.int 0, .non, .tup [.str sMaker]]) (by rw [hn, List.getElem?_append_right (by omega)]; rw [show m3.length + 2 - m3.length = 2 from by omega]; rfl) q0 (by show q < 15; exact q1)
  have a5 : evS dat.T W (run dat.T W dat.defs (n + 1)) (.asg 5 (.lst [(.str [108, 111, 111, 107]), (.str [110, 117, 109, 98, 101, 114]), (.str [109, 97, 107, 101, 114]), (.str [116, 97, 107, 101, 115]), (.str [103, 105, 118, 101, 115]), (.str [115, 117, 109]), (.str [99, 104, 111, 105, 99, 101]), (.str [116, 117, 114, 110]), (.str [116, 97, 107, 101]), (.str []), (.str [109, 97, 107]), (.str [108, 111, 111, 107, 107])])) [.val (.ref s), .val (.str x), .val (.int w), .no, .no, .no] m1 = .nx [.val (.ref s), .val (.str x), .val (.int w), .no, .no, .val (.ref m1.length)] (m1 ++ [.lst words12]) :=
    s_asg (e_lst (l_cons e_str (l_cons e_str (l_cons e_str (l_cons e_str (l_cons e_str (l_cons e_str (l_cons e_str (l_cons e_str (l_cons e_str (l_cons e_str (l_cons e_str (l_one e_str)))))))))))) (show 12 ≤ line from by decide))
  refine ⟨y, _, (b_skip (e_and_f (e_isi (e_var rfl) h4) rfl) rfl).trans ((b_skip (e_isi (e_var rfl) h4) rfl).trans (b_ends (e_isi (e_var rfl) h2) rfl ((b_nx a5).trans (b_rt (s_ret (e_idx e2 (e_call (l_cons (e_var rfl) (l_one e_int)) e3) ey)))))), ⟨m3, _, rfl, l1.trans l3⟩, ?_⟩
  have all : ∀ z ∈ words12 ++ [.int 0, .non, .tup [.str sMaker]], ∀ mm, Th false mm (d + 2) z := fun z hz mm => by
    simp only [words12, List.cons_append, List.nil_append, List.mem_cons, List.not_mem_nil, or_false] at hz
    rcases hz with rfl | rfl | rfl | rfl | rfl | rfl | rfl | rfl | rfl | rfl | rfl | rfl | rfl | rfl | rfl
    all_goals first
      | exact th_str
      | exact th_int
      | exact th_non
      | exact th_tup (show 1 ≤ 20000 from by decide) fun z hz => by rw [List.mem_singleton] at hz; rw [hz]; exact th_str
  exact all y hy _
/-- _law_spoilt -/
theorem spoilt_ok : ∀ (d : Nat) {n : Nat} {m : Mem} {v : MV}, d + 3 ≤ n → Ki d v → Sd m s c → ∃ v' m', run dat.T W dat.defs n 12 [.ref s, v] m = .ok v' m' ∧ Tail m m' s c ∧ Th false m' (d + 2) v' := by
  intro d
  induction d with
  | zero =>
    intro n m v hn hv h
    obtain ⟨n, rfl⟩ : ∃ j, n = j + 2 := ⟨n - 2, by omega⟩
    rw [run_of def12 rfl]
    obtain ⟨w, m1, e1, w0, w1, l1⟩ := draw_ok (n := n) (W := W) (many := 8) h (by decide) (by decide)
    have a1 : evS dat.T W (run dat.T W dat.defs (n + 1)) (.asg 2 (.call 7 [] [(.var 0), (.int 8)])) (entry ⟨2, 6, [], body12⟩ [.ref s, v]) m = .nx [.val (.ref s), .val v, .val (.int w), .no, .no, .no] m1 := s_asg (e_call (l_cons (e_var rfl) (l_one e_int)) e1)
    have fin : ∃ v' mm, evB dat.T W (run dat.T W dat.defs (n + 1)) body12 (entry ⟨2, 6, [], body12⟩ [.ref s, v]) m = .rt v' mm ∧ Tail m mm s c ∧ Th false mm (0 + 2) v' := by
      cases v with
      | int i =>
        obtain ⟨v', mm, e, t⟩ := leaf_int (W := W) (n := n) (d := 0) (i := i) l1 w0 w1
        exact ⟨v', mm, (b_nx a1).trans e, t⟩
      | str x =>
        obtain ⟨v', mm, e, t⟩ := leaf_str (W := W) (n := n) (d := 0) (x := x) (w := w) l1
        exact ⟨v', mm, (b_nx a1).trans e, t⟩
      | _ => exact hv.elim
    obtain ⟨v', mm, e, t, th⟩ := fin
    obtain ⟨v2, m2, e2, t2, th2⟩ := out_tail t th
    exact ⟨v2, m2, (congrArg (RS.out m) e).trans e2, t2, th2⟩
  | succ d ih =>
    intro n m v hn hv h
    obtain ⟨n, rfl⟩ : ∃ j, n = j + 2 := ⟨n - 2, by omega⟩
    rw [run_of def12 rfl]
    obtain ⟨w, m1, e1, w0, w1, l1⟩ := draw_ok (n := n) (W := W) (many := 8) h (by decide) (by decide)
    have a1 : evS dat.T W (run dat.T W dat.defs (n + 1)) (.asg 2 (.call 7 [] [(.var 0), (.int 8)])) (entry ⟨2, 6, [], body12⟩ [.ref s, v]) m = .nx [.val (.ref s), .val v, .val (.int w), .no, .no, .no] m1 := s_asg (e_call (l_cons (e_var rfl) (l_one e_int)) e1)
    have fin : ∃ v' mm, evB dat.T W (run dat.T W dat.defs (n + 1)) body12 (entry ⟨2, 6, [], body12⟩ [.ref s, v]) m = .rt v' mm ∧ Tail m mm s c ∧ Th false mm (d + 3) v' := by
      cases v with
      | tup xs =>
        have h4 : tyAny dat.T m1 (.tup xs) [.tup] = some true := rfl
        have hlen : builtin .len [.tup xs] m1 = some (.int xs.length, m1) := rfl
        obtain ⟨hx1, hx2⟩ := hv
        have thx : ∀ {mm : Mem}, ∀ x ∈ xs, Th false mm (d + 2) x := fun x hx => th_mono (hx2 x hx)
        by_cases hg : 0 < (xs.length : Int) ∧ 1 < w
        · -- at a part
          have econd : evE dat.T (run dat.T W dat.defs (n + 1)) (.and (.isi (.var 1) [.tup]) (.and (.cmp .Gt (.blt .len [(.var 1)]) (.int 0)) (.cmp .Gt (.var 2) (.int 1)))) [.val (.ref s), .val (.tup xs), .val (.int w), .no, .no, .no] m1 = .ok (.bl true) m1 :=
            (e_and_t (e_isi (e_var rfl) h4) rfl).trans ((e_and_t (e_cmp (e_blt (l_one (e_var rfl)) hlen) e_int (by show some (MV.bl (decide (0 < (xs.length : Int))), m1) = some (MV.bl true, m1); rw [decide_eq_true hg.1])) rfl).trans (e_cmp (e_var rfl) e_int (by show some (MV.bl (decide (1 < w)), m1) = some (MV.bl true, m1); rw [decide_eq_true hg.2])))
          obtain ⟨k, m2, e2, k0, k1, l2⟩ := draw_ok (n := n) (W := W) (many := xs.length) l1.st (by omega) (by omega)
          have a3 : evS dat.T W (run dat.T W dat.defs (n + 1)) (.asg 3 (.call 7 [] [(.var 0), (.blt .len [(.var 1)])])) [.val (.ref s), .val (.tup xs), .val (.int w), .no, .no, .no] m1 = .nx [.val (.ref s), .val (.tup xs), .val (.int w), .val (.int k), .no, .no] m2 := s_asg (e_call (l_cons (e_var rfl) (l_one (e_blt (l_one (e_var rfl)) hlen))) e2)
          have hk : k.toNat < xs.length := by omega
          have eat : subscr (.tup xs) (.int k) m2 = some (xs[k.toNat], m2) := by
            have := at_tup (m := m2) (List.getElem?_eq_getElem hk)
            rwa [Int.toNat_of_nonneg k0] at this
          obtain ⟨y, m3, e3, ⟨m4, x4, rfl, l4⟩, t3⟩ := ih (n := n + 1) (m := m2) (by omega) (hx2 _ (List.getElem_mem hk)) l2.st
          have c1 := cut_sub (xs := xs) (lo := none) (hi := some k)
          have c2 := cut_sub (xs := xs) (lo := some (k + 1)) (hi := none)
          refine ⟨.tup ((U.cut xs none (some k) ++ [y]) ++ U.cut xs (some (k + 1)) none), m4 ++ x4, (b_nx a1).trans (b_ends econd rfl ((b_nx a3).trans (b_rt (s_ret (e_bin (e_bin (e_slc_hi (e_var rfl) (e_var rfl) rfl) (e_tup (l_one (e_call (l_cons (e_var rfl) (l_one (e_idx (e_var rfl) (e_var rfl) eat))) e3)) (show 1 ≤ line from by decide)) (cat_ok (by omega) (show 1 ≤ 100000 from by decide))) (e_slc_lo (e_var rfl) (e_bin (e_var rfl) e_int rfl) rfl) (cat_ok (by simp only [List.length_append, List.length_cons, List.length_nil]; omega) (by omega))))))), ⟨m4, x4, rfl, (l1.trans l2).trans l4⟩, ?_⟩
          refine th_tup (by simp only [List.length_append, List.length_cons, List.length_nil]; omega) fun z hz => ?_
          rcases List.mem_append.mp hz with hz | hz
          · rcases List.mem_append.mp hz with hz | hz
            · exact thx z (c1.1 z hz)
            · rw [List.mem_singleton] at hz
              rw [hz]
              exact t3
          · exact thx z (c2.1 z hz)
        · have econd : evE dat.T (run dat.T W dat.defs (n + 1)) (.and (.isi (.var 1) [.tup]) (.and (.cmp .Gt (.blt .len [(.var 1)]) (.int 0)) (.cmp .Gt (.var 2) (.int 1)))) [.val (.ref s), .val (.tup xs), .val (.int w), .no, .no, .no] m1 = .ok (.bl false) m1 := by
            refine (e_and_t (e_isi (e_var rfl) h4) rfl).trans ?_
            have eg : evE dat.T (run dat.T W dat.defs (n + 1)) (.cmp .Gt (.blt .len [(.var 1)]) (.int 0)) [.val (.ref s), .val (.tup xs), .val (.int w), .no, .no, .no] m1 = .ok (.bl (decide (0 < (xs.length : Int)))) m1 := e_cmp (e_blt (l_one (e_var rfl)) hlen) e_int rfl
            by_cases h0 : 0 < (xs.length : Int)
            · rw [decide_eq_true h0] at eg
              exact (e_and_t eg rfl).trans (e_cmp (e_var rfl) e_int (by show some (MV.bl (decide (1 < w)), m1) = some (MV.bl false, m1); rw [decide_eq_false fun z => hg ⟨h0, z⟩]))
            · rw [decide_eq_false h0] at eg
              exact e_and_f eg rfl
          obtain ⟨k, m2, e2, k0, k1, l2⟩ := draw_ok (n := n) (W := W) (many := xs.length + 1) l1.st (by omega) (by omega)
          have a3 : evS dat.T W (run dat.T W dat.defs (n + 1)) (.asg 3 (.call 7 [] [(.var 0), (.bin .Add (.blt .len [(.var 1)]) (.int 1))])) [.val (.ref s), .val (.tup xs), .val (.int w), .no, .no, .no] m1 = .nx [.val (.ref s), .val (.tup xs), .val (.int w), .val (.int k), .no, .no] m2 := s_asg (e_call (l_cons (e_var rfl) (l_one (e_bin (e_blt (l_one (e_var rfl)) hlen) e_int rfl))) e2)
          have ct : ∀ {lo hi : Option Int}, (∀ x ∈ U.cut xs lo hi, x ∈ xs) ∧ (U.cut xs lo hi).length ≤ xs.length := fun {lo hi} => cut_sub
          let pA : List MV := U.cut xs none (some k) ++ U.cut xs (some (k + 1)) none
          let pC : List MV := xs ++ [.int 3]
          let pD : List MV := U.cut xs none (some (k + 1)) ++ U.cut xs (some k) none
          let pE : List MV := (U.cut xs none (some k) ++ (U.cut xs (some k) (some (k + 2))).reverse) ++ U.cut xs (some (k + 2)) none
          let B : Mem := m2 ++ [.lst xs]
          let r4 : Env := [.val (.ref s), .val (.tup xs), .val (.int w), .val (.int k), .val (.ref B.length), .no]
          have a4 : evS dat.T W (run dat.T W dat.defs (n + 1)) (.asg 4 (.lst [(.bin .Add (.slc (.var 1) [] [(.var 3)]) (.slc (.var 1) [(.bin .Add (.var 3) (.int 1))] [])), (.blt .list [(.var 1)]), (.bin .Add (.var 1) (.tup [(.int 3)]))])) [.val (.ref s), .val (.tup xs), .val (.int w), .val (.int k), .no, .no] m2 = .nx r4 (B ++ [.lst [.tup pA, .ref m2.length, .tup pC]]) :=
            s_asg (e_lst (l_cons (e_bin (e_slc_hi (e_var rfl) (e_var rfl) rfl) (e_slc_lo (e_var rfl) (e_bin (e_var rfl) e_int rfl) rfl) (cat_ok (by have := (ct (lo := none) (hi := some k)).2; omega) (by have := (ct (lo := some (k + 1)) (hi := none)).2; omega))) (l_cons (e_blt (l_one (e_var rfl)) rfl) (l_one (e_bin (e_var rfl) (e_tup (l_one e_int) (show 1 ≤ line from by decide)) (cat_ok (by omega) (show 1 ≤ 100000 from by decide)))))) (show 3 ≤ line from by decide))
          have aD : evS dat.T W (run dat.T W dat.defs (n + 1)) (.expr (.bm (.var 4) .append [(.bin .Add (.slc (.var 1) [] [(.bin .Add (.var 3) (.int 1))]) (.slc (.var 1) [(.var 3)] []))])) r4 (B ++ [.lst [.tup pA, .ref m2.length, .tup pC]]) = .nx r4 (B ++ [.lst [.tup pA, .ref m2.length, .tup pC, .tup pD]]) :=
            s_app rfl (e_bin (e_slc_hi (e_var rfl) (e_bin (e_var rfl) e_int rfl) rfl) (e_slc_lo (e_var rfl) (e_var rfl) rfl) (cat_ok (by have := (ct (lo := none) (hi := some (k + 1))).2; omega) (by have := (ct (lo := some k) (hi := none)).2; omega))) (show 3 < 100 from by decide)
          have aE : evS dat.T W (run dat.T W dat.defs (n + 1)) (.expr (.bm (.var 4) .append [(.bin .Add (.bin .Add (.slc (.var 1) [] [(.var 3)]) (.rev (.slc (.var 1) [(.var 3)] [(.bin .Add (.var 3) (.int 2))]))) (.slc (.var 1) [(.bin .Add (.var 3) (.int 2))] []))])) r4 (B ++ [.lst [.tup pA, .ref m2.length, .tup pC, .tup pD]]) = .nx r4 (B ++ [.lst [.tup pA, .ref m2.length, .tup pC, .tup pD, .tup pE]]) :=
            s_app rfl (e_bin (e_bin (e_slc_hi (e_var rfl) (e_var rfl) rfl) (e_rev (e_slc (e_var rfl) (e_var rfl) (e_bin (e_var rfl) e_int rfl) rfl) rfl) (cat_ok (by have := (ct (lo := none) (hi := some k)).2; omega) (by have := (ct (lo := some k) (hi := some (k + 2))).2; rw [List.length_reverse]; omega))) (e_slc_lo (e_var rfl) (e_bin (e_var rfl) e_int rfl) rfl) (cat_ok (by have := (ct (lo := none) (hi := some k)).2; have := (ct (lo := some k) (hi := some (k + 2))).2; simp only [List.length_append, List.length_reverse]; omega) (by have := (ct (lo := some (k + 2)) (hi := none)).2; omega))) (show 4 < 100 from by decide)
          have asc : B ++ [MO.lst [.tup pA, .ref m2.length, .tup pC, .tup pD, .tup pE]] = m2 ++ [MO.lst xs, MO.lst [.tup pA, .ref m2.length, .tup pC, .tup pD, .tup pE]] := by
            show m2 ++ [MO.lst xs] ++ [MO.lst [.tup pA, .ref m2.length, .tup pC, .tup pD, .tup pE]] = _
            rw [List.append_assoc]
            rfl
          obtain ⟨q, m3, e3, q0, q1, l3⟩ := draw_ok (n := n) (W := W) (many := 5) (m := B ++ [MO.lst [.tup pA, .ref m2.length, .tup pC, .tup pD, .tup pE]]) (by rw [asc]; exact l2.st.more _) (by decide) (by decide)
          rw [asc] at l3
          obtain ⟨m4, rfl, l4⟩ := l3.split l2.st
          have hB : B.length = m4.length + 1 := by
            show (m2 ++ [MO.lst xs]).length = _
            rw [l4.len]
            simp
          obtain ⟨y, hy, ey⟩ := pick_ok (q := q) (n := B.length) (mm := m4 ++ [MO.lst xs, MO.lst [.tup pA, .ref m2.length, .tup pC, .tup pD, .tup pE]]) (l := [.tup pA, .ref m2.length, .tup pC, .tup pD, .tup pE]) (by rw [hB, List.getElem?_append_right (by omega)]; rw [show m4.length + 1 - m4.length = 1 from by omega]; rfl) q0 (by show q < 5; exact q1)
          refine ⟨y, _, (b_nx a1).trans ((b_skip econd rfl).trans (b_ends (e_isi (e_var rfl) h4) rfl ((b_nx a3).trans ((b_nx a4).trans ((b_nx aD).trans ((b_nx aE).trans (b_rt (s_ret (e_idx (e_var rfl) (e_call (l_cons (e_var rfl) (l_one e_int)) e3) ey))))))))), ⟨m4, _, rfl, (l1.trans l2).trans l4⟩, ?_⟩
          have sub : ∀ {ys : List MV} {mm : Mem}, ys.length ≤ 20000 → (∀ z ∈ ys, z ∈ xs) → Th false mm (d + 3) (.tup ys) := fun hl hz => th_tup (d := d + 2) hl fun z q => thx z (hz z q)
          simp only [List.mem_cons, List.not_mem_nil, or_false] at hy
          rcases hy with rfl | rfl | rfl | rfl | rfl
          · refine sub (by show (U.cut xs none (some k) ++ U.cut xs (some (k + 1)) none).length ≤ 20000; rw [List.length_append]; have := (ct (lo := none) (hi := some k)).2; have := (ct (lo := some (k + 1)) (hi := none)).2; omega) fun z hz => ?_
            rcases List.mem_append.mp hz with hz | hz
            · exact ct.1 z hz
            · exact ct.1 z hz
          · refine ⟨xs, ?_⟩
            rw [← l4.len, List.getElem?_append_right (Nat.le_refl _), Nat.sub_self]
            rfl
          · refine th_tup (d := d + 2) (by show (xs ++ [MV.int 3]).length ≤ _; rw [List.length_append]; simp only [List.length_cons, List.length_nil]; omega) fun z hz => ?_
            rcases List.mem_append.mp hz with hz | hz
            · exact thx z hz
            · rw [List.mem_singleton] at hz
              rw [hz]
              exact th_int
          · refine sub (by show (U.cut xs none (some (k + 1)) ++ U.cut xs (some k) none).length ≤ 20000; rw [List.length_append]; have := (ct (lo := none) (hi := some (k + 1))).2; have := (ct (lo := some k) (hi := none)).2; omega) fun z hz => ?_
            rcases List.mem_append.mp hz with hz | hz
            · exact ct.1 z hz
            · exact ct.1 z hz
          · refine sub (by show ((U.cut xs none (some k) ++ (U.cut xs (some k) (some (k + 2))).reverse) ++ U.cut xs (some (k + 2)) none).length ≤ 20000; rw [List.length_append, List.length_append, List.length_reverse]; have := (ct (lo := none) (hi := some k)).2; have := (ct (lo := some k) (hi := some (k + 2))).2; have := (ct (lo := some (k + 2)) (hi := none)).2; omega) fun z hz => ?_
            rcases List.mem_append.mp hz with hz | hz
            · rcases List.mem_append.mp hz with hz | hz
              · exact ct.1 z hz
              · exact ct.1 z (List.mem_reverse.mp hz)
            · exact ct.1 z hz
      | int i =>
        obtain ⟨v', mm, e, t⟩ := leaf_int (W := W) (n := n) (d := d + 1) (i := i) l1 w0 w1
        exact ⟨v', mm, (b_nx a1).trans e, t⟩
      | str x =>
        obtain ⟨v', mm, e, t⟩ := leaf_str (W := W) (n := n) (d := d + 1) (x := x) (w := w) l1
        exact ⟨v', mm, (b_nx a1).trans e, t⟩
      | _ => exact hv.elim
    obtain ⟨v', mm, e, t, th⟩ := fin
    obtain ⟨v2, m2, e2, t2, th2⟩ := out_tail t th
    exact ⟨v2, m2, (congrArg (RS.out m) e).trans e2, t2, th2⟩
end
end LW
end Part_V5

section Part_V6
set_option Elab.async false
set_option linter.all false
set_option maxRecDepth 100000
set_option maxHeartbeats 4000000
namespace LW
open U
open PySem (Operator CmpOp)
section
variable {W : Nat} {m : Mem} {s c : Nat}
/-- every element by itself; what is walked stands still -/
theorem lc_still {w : Walked} {elt : MV → M MV} {g : MV → MV} (hs : ∀ acc : List MV, w.still (m ++ [.lst acc]) = true) : ∀ (l : List MV) (acc : List MV), (∀ x ∈ l, ∀ acc : List MV, elt x (m ++ [.lst acc]) = .ok (g x) (m ++ [.lst acc])) → acc.length + l.length ≤ 30000 →
    lcGo w m.length (fun _ m2 => .ok (.bl true) m2) elt l (m ++ [.lst acc]) = .ok (.ref m.length) (m ++ [.lst (acc ++ l.map g)])
  | [], acc, _, _ => by
    rw [List.map_nil, List.append_nil]
    unfold lcGo
    rw [if_pos (hs acc)]
  | x :: l, acc, h, hl => by
    have h2 := h x (List.mem_cons_self ..) acc
    have ih := lc_still hs l (acc ++ [g x]) (fun y hy => h y (List.mem_cons_of_mem _ hy)) (by rw [List.length_append]; simp only [List.length_cons, List.length_nil] at hl ⊢; omega)
    unfold lcGo
    rw [if_pos (hs acc)]
    dsimp only
    rw [onTru_bl, if_pos rfl, h2]
    dsimp only
    rw [getE_new]
    dsimp only
    rw [if_pos (by simp only [List.length_cons] at hl; unfold line; omega)]
    have e : (m ++ [MO.lst acc]).set m.length (.lst (acc ++ [g x])) = m ++ [.lst (acc ++ [g x])] := by
      rw [List.set_append_right _ _ (Nat.le_refl _), Nat.sub_self]
      rfl
    rw [e, ih, List.map_cons, List.append_assoc]
    rfl
def absI (i : Int) : Int := if i < 0 then -i else i
theorem absI_nn (i : Int) : 0 ≤ absI i := by unfold absI; split <;> omega
/-- _law_state -/
theorem state_ok {n : Nat} {zs : List Int} (hz : zs.length ≤ 63) : ∃ s c mm, run dat.T W dat.defs (n + 1) 6 [.ref 0] [.frz (zs.map .int)] = .ok (.ref s) mm ∧ Sd mm s c := by
  rw [run_of def6 rfl]
  let ys : List Int := zs.drop (HT.sIx zs.length 0 none) |>.take (HT.sIx zs.length zs.length (some 63) - HT.sIx zs.length 0 none)
  have hy : ys.length ≤ 63 := by
    show (List.take _ (List.drop _ zs)).length ≤ 63
    rw [List.length_take, List.length_drop]
    omega
  have hcut : U.cut (zs.map MV.int) none (some 63) = ys.map MV.int := by
    unfold U.cut
    rw [List.length_map, ← List.map_drop, ← List.map_take]
  let m1 : Mem := [.frz (zs.map .int), .lst (ys.map .int)]
  let cs : List Int := ys.map absI
  have esl : evE dat.T (run dat.T W dat.defs n) (.slc (.var 0) [] [(.int 63)]) (entry ⟨1, 3, [], body6⟩ [.ref 0]) [.frz (zs.map .int)] = .ok (.ref 1) m1 :=
    e_slc_hi (e_var rfl) e_int (by
      show alloc (.lst (U.cut (zs.map MV.int) none (some 63))) [.frz (zs.map .int)] = _
      rw [hcut]
      rfl)
  have elc : evE dat.T (run dat.T W dat.defs n) (.lc (.blt .abs [(.var 2)]) 2 (.of (.slc (.var 0) [] [(.int 63)])) []) (entry ⟨1, 3, [], body6⟩ [.ref 0]) [.frz (zs.map .int)] = .ok (.ref 2) (m1 ++ [.lst (cs.map .int)]) := by
    rw [evE, evI, esl]
    have z := lc_still (m := m1) (w := ⟨ys.map .int, some 1⟩) (elt := fun x m2 => evE dat.T (run dat.T W dat.defs n) (.blt .abs [(.var 2)]) (List.set (entry ⟨1, 3, [], body6⟩ [.ref 0]) 2 (.val x)) m2) (g := fun x => match x with | .int i => .int (absI i) | x => x)
      (fun acc => (MV.eqbs_iff _ _).mpr rfl) (ys.map .int) [] (fun x hx acc => by
        obtain ⟨i, _, rfl⟩ := List.mem_map.mp hx
        exact e_blt (l_one (e_var rfl)) rfl) (by rw [List.length_map, List.length_nil]; omega)
    have e2 : (ys.map MV.int).map (fun x => match x with | .int i => MV.int (absI i) | x => x) = cs.map MV.int := by
      show _ = (ys.map absI).map MV.int
      rw [List.map_map, List.map_map]
      rfl
    rw [e2] at z
    exact z
  have len_ : builtin .len [.ref 2] (m1 ++ [.lst (cs.map .int)]) = some (.int cs.length, m1 ++ [.lst (cs.map .int)]) := by
    show some (MV.int ((cs.map MV.int).length : Nat), m1 ++ [MO.lst (cs.map MV.int)]) = _
    rw [List.length_map]
  have ecmp : evE dat.T (run dat.T W dat.defs n) (.cmp .Eq (.blt .len [(.var 1)]) (.int 0)) [.val (.ref 0), .val (.ref 2), .no] (m1 ++ [.lst (cs.map .int)]) = .ok (.bl (decide ((cs.length : Int) = 0))) (m1 ++ [.lst (cs.map .int)]) := e_cmp (e_blt (l_one (e_var rfl)) len_) e_int cmp_eqi
  have a1 : evS dat.T W (run dat.T W dat.defs n) (.asg 1 (.lc (.blt .abs [(.var 2)]) 2 (.of (.slc (.var 0) [] [(.int 63)])) [])) (entry ⟨1, 3, [], body6⟩ [.ref 0]) [.frz (zs.map .int)] = .nx [.val (.ref 0), .val (.ref 2), .no] (m1 ++ [.lst (cs.map .int)]) := s_asg elc
  have fin : ∃ s c mm, evB dat.T W (run dat.T W dat.defs n) body6 (entry ⟨1, 3, [], body6⟩ [.ref 0]) [.frz (zs.map .int)] = .rt (.ref s) mm ∧ Sd mm s c ∧ 1 ≤ c ∧ 1 ≤ s := by
    by_cases h0 : (cs.length : Int) = 0
    · refine ⟨4, 3, m1 ++ [.lst (cs.map .int)] ++ [.lst [.int 5]] ++ [.lst [.ref 3, .int 0, .int 1]], (b_nx a1).trans ((b_nx ((s_if_t ecmp (by show some (decide _) = _; rw [decide_eq_true h0])).trans ((b_nx (s_asg (e_lst (l_one e_int) (show 1 ≤ line from by decide)))).trans b_nil))).trans (b_rt (s_ret (e_lst (l_cons (e_var rfl) (l_cons e_int (l_one e_int))) (show 3 ≤ line from by decide))))), ⟨[5], 0, 1, ⟨rfl, rfl, by decide, by simp, by simp, by decide, by decide, by decide⟩⟩, by decide, by decide⟩
    · refine ⟨3, 2, m1 ++ [.lst (cs.map .int)] ++ [.lst [.ref 2, .int 0, .int 1]], (b_nx a1).trans ((b_skip ecmp (by show some (decide _) = _; rw [decide_eq_false h0])).trans (b_rt (s_ret (e_lst (l_cons (e_var rfl) (l_cons e_int (l_one e_int))) (show 3 ≤ line from by decide))))), ⟨cs, 0, 1, ⟨rfl, rfl, by decide, fun z => h0 (by rw [z]; rfl), fun z hz => ?_, by decide, by decide, by decide⟩⟩, by decide, by decide⟩
      obtain ⟨y, _, rfl⟩ := List.mem_map.mp hz
      exact absI_nn y
  obtain ⟨s, c, mm, e, hsd, hc, hs⟩ := fin
  refine ⟨s, c, mm, (congrArg (RS.out _) e).trans ?_, hsd⟩
  show gcV _ _ _ = _
  unfold gcV
  by_cases ho : okOld ([MO.frz (zs.map .int)] : Mem).length [.frz (zs.map .int)] mm = true
  · rw [if_pos ho]
    have h1 : ¬ (MV.low ([MO.frz (zs.map .int)] : Mem).length (.ref s) = true) := fun z => by
      have : s < 1 := of_decide_eq_true z
      omega
    rw [if_neg h1]
    dsimp only
    obtain ⟨cs', i, j, g⟩ := hsd.ex
    rw [g.at_s]
    dsimp only
    rw [if_neg]
    intro z
    have z' : (MV.low 1 (.ref c) && MV.lows 1 [.int i, .int j]) = true := z
    rw [Bool.and_eq_true] at z'
    have : c < 1 := of_decide_eq_true z'.1
    omega
  · rw [if_neg ho]

/-! ### names and numbers are made -/
theorem e_chain {T : Tab} {cl : CallF} {r : Env} {a b e : CE} {o p : CmpOp} {x y z : MV} {t u : Bool} (ha : evE T cl a r m = .ok x m) (hb : evE T cl b r m = .ok y m) (h1 : cmpop o x y m = some (.bl true, m)) (he : evE T cl e r m = .ok z m) (h2 : cmpop p y z m = some (.bl u, m)) : evE T cl (.chain o p a b e) r m = .ok (.bl u) m := by
  rw [evE, ha, bind_ok, hb, bind_ok, h1]
  show (R.ok (MV.bl true) m).bind _ = _
  rw [bind_ok, onTru_bl, if_pos rfl, he, bind_ok, h2]
  rfl
def letters : Txt := [97, 98, 99, 100, 101, 102, 103, 104, 105, 106, 107, 108, 109, 110, 111, 112, 113, 114, 115, 116, 117, 118, 119, 120, 121, 122]
theorem name_ok {n : Nat} {x : Txt} (h1 : 1 ≤ x.length) (h2 : x.length ≤ 8) (hx : ∀ k ∈ x, isIn [k] letters = true) : run dat.T W dat.defs (n + 2) 5 [.str x] m = .ok .non m := by
  rw [run_of def5 rfl]
  have hs : tyAny dat.T m (.str x) [.str] = some true := rfl
  have hlen : builtin .len [.str x] m = some (.int x.length, m) := by
    show (if x.length ≤ line then some (MV.int x.length, m) else none) = _
    rw [if_pos (by unfold line; omega)]
  have is : run dat.T W dat.defs (n + 1) 3 [.str x] m = .ok (.bl true) m := by
    rw [run_of def3 rfl]
    have ec : evE dat.T (run dat.T W dat.defs n) (.or (.not (.isi (.var 0) [.str])) (.not (.chain .LtE .LtE (.int 1) (.blt .len [(.var 0)]) (.con 1)))) (entry ⟨1, 2, [], body3⟩ [.str x]) m = .ok (.bl false) m := by
      refine (e_or_f (e_not (e_isi (e_var rfl) hs) rfl) rfl).trans (e_not (t := true) (e_chain (t := true) e_int (e_blt (l_one (e_var rfl)) hlen) ?_ (z := .int 8) (by rw [evE]; rfl) ?_) rfl)
      · show some (MV.bl (decide ((1 : Int) ≤ x.length)), m) = _
        rw [decide_eq_true (by omega)]
      · show some (MV.bl (decide ((x.length : Int) ≤ 8)), m) = _
        rw [decide_eq_true (by omega)]
    have elc : evE dat.T (run dat.T W dat.defs n) (.lc (.cmp .In (.var 1) (.con 0)) 1 (.of (.var 0)) []) (entry ⟨1, 2, [], body3⟩ [.str x]) m = .ok (.ref m.length) (m ++ [.lst ((x.map fun k => MV.str [k]).map fun _ => .bl true)]) := by
      rw [evE, evI, e_var (i := 0) rfl, bind_ok]
      exact lc_still (m := m) (w := ⟨x.map fun k => .str [k], none⟩) (elt := fun y m2 => evE dat.T (run dat.T W dat.defs n) (.cmp .In (.var 1) (.con 0)) (List.set (entry ⟨1, 2, [], body3⟩ [.str x]) 1 (.val y)) m2) (g := fun _ => .bl true) (fun _ => rfl) _ [] (fun y hy acc => by
        obtain ⟨k, hk, rfl⟩ := List.mem_map.mp hy
        refine e_cmp (e_var rfl) (y := .str letters) (by rw [evE]; rfl) ?_
        show okb (some (isIn [k] letters)) _ = _
        rw [hx k hk]
        rfl) (by rw [List.length_map, List.length_nil]; omega)
    have all_t : ∀ l : List MV, allBl (l.map fun _ => MV.bl true) = some (l.map fun _ => true) := fun l => by
      induction l with
      | nil => rfl
      | cons a l ih =>
        show (allBl (l.map fun _ => MV.bl true)).map (true :: ·) = _
        rw [ih]
        rfl
    have eall : builtin .all [.ref m.length] (m ++ [.lst ((x.map fun k => MV.str [k]).map fun _ => .bl true)]) = some (.bl true, m ++ [.lst ((x.map fun k => MV.str [k]).map fun _ => .bl true)]) := by
      unfold builtin
      dsimp only
      rw [getE_new]
      dsimp only
      rw [all_t]
      simp
    have fin : evB dat.T W (run dat.T W dat.defs n) body3 (entry ⟨1, 2, [], body3⟩ [.str x]) m = .rt (.bl true) (m ++ [.lst ((x.map fun k => MV.str [k]).map fun _ => .bl true)]) := (b_skip ec rfl).trans (b_rt (s_ret (e_blt (l_one elc) eall)))
    exact (congrArg (RS.out m) fin).trans (out_more rfl)
  have fin : evB dat.T W (run dat.T W dat.defs (n + 1)) body5 (entry ⟨1, 1, [], body5⟩ [.str x]) m = .nx (entry ⟨1, 1, [], body5⟩ [.str x]) m := (b_skip (e_not (e_call (l_one (e_var rfl)) is) rfl) rfl).trans b_nil
  exact (congrArg (RS.out m) fin).trans (out_same (v := .non) rfl)
theorem made_new {T : Tab} {cc : Nat} {v : MV} (hf : T.frozen cc = true) (h1 : T.fields cc = 1) (hl : v.low m.length = true) : made T cc m (m ++ [.ins cc [v]]) = .ok (.obj cc [v]) m := by
  unfold made
  rw [getE_new]
  dsimp only
  rw [if_pos rfl, if_pos hf, if_pos (by rw [h1]; rfl), if_pos ⟨okOld_of (by simp) fun k o hk e => .inl (by rw [List.getElem?_append_left hk] at e; exact e), by simp, by show (MV.low m.length v && true) = true; rw [hl]; rfl⟩, List.take_left]
theorem out_ins {cc : Nat} {v : MV} (hl : v.low m.length = true) : (RS.nx [] (m ++ [.ins cc [v]])).out (m ++ [.ins cc []]) = .ok .non (m ++ [.ins cc [v]]) := by
  show gcV _ _ _ = _
  have up : v.low (m ++ [MO.ins cc []]).length = true := by
    have mono : ∀ {a b : Nat}, a ≤ b → (∀ v : MV, v.low a = true → v.low b = true) ∧ True := fun hab => ⟨fun v => MV.rec (motive_1 := fun v => v.low _ = true → v.low _ = true) (motive_2 := fun xs => MV.lows _ xs = true → MV.lows _ xs = true) (fun _ => rfl) (fun _ _ => rfl) (fun _ _ => rfl) (fun _ _ => rfl) (fun xs ih h => ih h) (fun c xs ih h => ih h) (fun n h => decide_eq_true (Nat.lt_of_lt_of_le (of_decide_eq_true h) hab)) (fun _ => rfl) (fun x xs i1 i2 h => by
      have h' := Bool.and_eq_true_iff.mp h
      exact Bool.and_eq_true_iff.mpr ⟨i1 h'.1, i2 h'.2⟩) v, trivial⟩
    exact (mono (by simp)).1 v hl
  unfold gcV
  rw [if_pos (okOld_of (by simp) fun k o hk e => ?_), if_pos (show MV.low (m ++ [MO.ins cc []]).length .non = true from rfl)]
  · rw [List.take_of_length_le (by simp)]
  · by_cases hk2 : k < m.length
    · rw [List.getElem?_append_left hk2] at e ⊢
      exact .inl e
    · have hk3 : k = m.length := by simp at hk; omega
      subst hk3
      rw [getE_new] at e
      cases e
      refine .inr ?_
      show (MV.low _ v && true) = true
      rw [up]
      rfl
theorem new_name {n : Nat} {x : Txt} (h1 : 1 ≤ x.length) (h2 : x.length ≤ 8) (hx : ∀ k ∈ x, isIn [k] letters = true) : newObj dat.T (run dat.T W dat.defs (n + 3)) 1 [.str x] m = .ok (.obj 1 [.str x]) m := by
  have e1 : run dat.T W dat.defs (n + 3) 15 [.ref m.length, .str x] (m ++ [.ins 1 []]) = .ok .non (m ++ [.ins 1 [.str x]]) := by
    rw [run_of def15 rfl]
    have a1 : evS dat.T W (run dat.T W dat.defs (n + 2)) (.expr (.call 5 [] [(.var 1)])) (entry ⟨2, 2, [], body15⟩ [.ref m.length, .str x]) (m ++ [.ins 1 []]) = .nx (entry ⟨2, 2, [], body15⟩ [.ref m.length, .str x]) (m ++ [.ins 1 []]) := s_expr (e_call (l_one (e_var rfl)) (name_ok h1 h2 hx))
    have a2 : evS dat.T W (run dat.T W dat.defs (n + 2)) (.setf (.var 0) 0 (.var 1)) (entry ⟨2, 2, [], body15⟩ [.ref m.length, .str x]) (m ++ [.ins 1 []]) = .nx (entry ⟨2, 2, [], body15⟩ [.ref m.length, .str x]) (m ++ [.ins 1 [.str x]]) := by
      rw [evS, e_var (i := 1) (v := .str x) rfl]
      dsimp only [R.st]
      rw [e_var (i := 0) (v := .ref m.length) rfl]
      dsimp only
      have : setF dat.T (.ref m.length) 0 (.str x) (m ++ [.ins 1 []]) = some (m ++ [.ins 1 [.str x]]) := by
        unfold setF
        dsimp only
        rw [getE_new]
        dsimp only
        rw [show dat.T.fix 1 0 = some 0 from by kernel_rfl]
        dsimp only
        rw [if_pos ⟨rfl, show 0 < 1 from by decide⟩, List.set_append_right _ _ (Nat.le_refl _), Nat.sub_self]
        rfl
      rw [this]
    have fin : evB dat.T W (run dat.T W dat.defs (n + 2)) body15 (entry ⟨2, 2, [], body15⟩ [.ref m.length, .str x]) (m ++ [.ins 1 []]) = .nx (entry ⟨2, 2, [], body15⟩ [.ref m.length, .str x]) (m ++ [.ins 1 [.str x]]) := (b_nx a1).trans ((b_nx a2).trans b_nil)
    exact (congrArg (RS.out _) fin).trans (out_ins rfl)
  unfold newObj
  rw [show dat.T.init 1 = some 15 from by kernel_rfl]
  dsimp only
  rw [e1, bind_ok]
  exact made_new (by kernel_rfl) (by kernel_rfl) rfl
theorem new_number {n : Nat} {i : Int} : newObj dat.T (run dat.T W dat.defs (n + 2)) 2 [.int i] m = .ok (.obj 2 [.int i]) m := by
  have w4 : ∀ {mm : Mem}, run dat.T W dat.defs (n + 1) 4 [.int i] mm = .ok (.bl true) mm := fun {mm} => by
    rw [run_of def4 rfl]
    have fin : evB dat.T W (run dat.T W dat.defs n) body4 (entry ⟨1, 1, [], body4⟩ [.int i]) mm = .rt (.bl true) mm := b_rt (s_ret ((e_and_t (e_isi (t := true) (e_var rfl) rfl) rfl).trans (e_not (t := false) (e_isi (t := false) (e_var rfl) rfl) rfl)))
    exact (congrArg (RS.out mm) fin).trans (out_same rfl)
  have e1 : run dat.T W dat.defs (n + 2) 16 [.ref m.length, .int i] (m ++ [.ins 2 []]) = .ok .non (m ++ [.ins 2 [.int i]]) := by
    rw [run_of def16 rfl]
    have a2 : evS dat.T W (run dat.T W dat.defs (n + 1)) (.setf (.var 0) 1 (.var 1)) (entry ⟨2, 2, [], body16⟩ [.ref m.length, .int i]) (m ++ [.ins 2 []]) = .nx (entry ⟨2, 2, [], body16⟩ [.ref m.length, .int i]) (m ++ [.ins 2 [.int i]]) := by
      rw [evS, e_var (i := 1) (v := .int i) rfl]
      dsimp only [R.st]
      rw [e_var (i := 0) (v := .ref m.length) rfl]
      dsimp only
      have : setF dat.T (.ref m.length) 1 (.int i) (m ++ [.ins 2 []]) = some (m ++ [.ins 2 [.int i]]) := by
        unfold setF
        dsimp only
        rw [getE_new]
        dsimp only
        rw [show dat.T.fix 2 1 = some 0 from by kernel_rfl]
        dsimp only
        rw [if_pos ⟨rfl, show 0 < 1 from by decide⟩, List.set_append_right _ _ (Nat.le_refl _), Nat.sub_self]
        rfl
      rw [this]
    have fin : evB dat.T W (run dat.T W dat.defs (n + 1)) body16 (entry ⟨2, 2, [], body16⟩ [.ref m.length, .int i]) (m ++ [.ins 2 []]) = .nx (entry ⟨2, 2, [], body16⟩ [.ref m.length, .int i]) (m ++ [.ins 2 [.int i]]) := (b_skip (e_not (e_call (l_one (e_var rfl)) w4) rfl) rfl).trans ((b_nx a2).trans b_nil)
    exact (congrArg (RS.out _) fin).trans (out_ins rfl)
  unfold newObj
  rw [show dat.T.init 2 = some 16 from by kernel_rfl]
  dsimp only
  rw [e1, bind_ok]
  exact made_new (by kernel_rfl) (by kernel_rfl) rfl
end
end LW
end Part_V6

section Part_V7
set_option Elab.async false
set_option linter.all false
set_option maxRecDepth 100000
set_option maxHeartbeats 4000000
namespace LW
open U
open PySem (Operator CmpOp)
section
variable {W : Nat} {m : Mem} {s c : Nat}
theorem e_new {T : Tab} {cl : CallF} {r : Env} {es : List CE} {vs : List MV} {cc : Nat} {v : MV} {m1 m2 : Mem} (hl : evL T cl es r m = .ok vs m1) (h : newObj T cl cc vs m1 = .ok v m2) : evE T cl (.new cc [] es) r m = .ok v m2 := by
  rw [evE, hl, bind_ok]
  exact h
theorem not_same {x y : Bool} : cmpop .IsNot (.bl x) (.bl y) m = some (.bl (!decide (x = y)), m) := rfl
def o1 (x : Txt) : MV := .obj 1 [.str x]
def items4 : List MV := [o1 [97], .tup [.str sTakes, .tup [o1 sMaker], .int 3], .tup [.str sTakes, .tup [], .obj 2 [.int 3]], .tup [o1 sTakes, .tup [], .int 3]]
theorem items4_ok : ∀ x ∈ items4, Th true m 3 x ∧ isK x = false := by
  have ob : ∀ {d : Nat} {cc : Nat} {fs : List MV}, cc < 3 → Th true m d (.obj cc fs) := fun {d cc fs} h => by cases d <;> exact ⟨rfl, h⟩
  intro x hx
  simp only [items4, List.mem_cons, List.not_mem_nil, or_false] at hx
  rcases hx with rfl | rfl | rfl | rfl
  · exact ⟨ob (by decide), rfl⟩
  · refine ⟨th_tup (show 3 ≤ 20000 from by decide) fun y hy => ?_, rfl⟩
    simp only [List.mem_cons, List.not_mem_nil, or_false] at hy
    rcases hy with rfl | rfl | rfl
    · exact th_str
    · exact th_tup (show 1 ≤ 20000 from by decide) fun z hz => by rw [List.mem_singleton] at hz; rw [hz]; exact ob (by decide)
    · exact th_int
  · refine ⟨th_tup (show 3 ≤ 20000 from by decide) fun y hy => ?_, rfl⟩
    simp only [List.mem_cons, List.not_mem_nil, or_false] at hy
    rcases hy with rfl | rfl | rfl
    · exact th_str
    · exact th_tup (show 0 ≤ 20000 from by decide) fun z hz => by cases hz
    · exact ob (by decide)
  · refine ⟨th_tup (show 3 ≤ 20000 from by decide) fun y hy => ?_, rfl⟩
    simp only [List.mem_cons, List.not_mem_nil, or_false] at hy
    rcases hy with rfl | rfl | rfl
    · exact ob (by decide)
    · exact th_tup (show 0 ≤ 20000 from by decide) fun z hz => by cases hz
    · exact th_int
def src4 : CE := .lst [(.new 1 [] [(.str [97])]), (.tup [(.str [116, 97, 107, 101, 115]), (.tup [(.new 1 [] [(.str [109, 97, 107, 101, 114])])]), (.int 3)]), (.tup [(.str [116, 97, 107, 101, 115]), (.tup []), (.new 2 [] [(.int 3)])]), (.tup [(.new 1 [] [(.str [116, 97, 107, 101, 115])]), (.tup []), (.int 3)])]
theorem src4_ok {n : Nat} {r : Env} : evE dat.T (run dat.T W dat.defs (n + 3)) src4 r m = .ok (.ref m.length) (m ++ [.lst items4]) := by
  have na := new_name (W := W) (n := n) (m := m) (x := [97]) (by decide) (by decide) (by decide +kernel)
  have nm := new_name (W := W) (n := n) (m := m) (x := sMaker) (by decide) (by decide) (by decide +kernel)
  have nt := new_name (W := W) (n := n) (m := m) (x := sTakes) (by decide) (by decide) (by decide +kernel)
  have nn := new_number (W := W) (n := n + 1) (m := m) (i := 3)
  exact e_lst (l_cons (e_new (l_one e_str) na) (l_cons (e_tup (l_cons e_str (l_cons (e_tup (l_one (e_new (l_one e_str) nm)) (show 1 ≤ line from by decide)) (l_one e_int))) (show 3 ≤ line from by decide)) (l_cons (e_tup (l_cons e_str (l_cons (e_tup l_nil (show 0 ≤ line from by decide)) (l_one (e_new (l_one e_int) nn)))) (show 3 ≤ line from by decide)) (l_one (e_tup (l_cons (e_new (l_one e_str) nt) (l_cons (e_tup l_nil (show 0 ≤ line from by decide)) (l_one e_int))) (show 3 ≤ line from by decide)))))) (show 4 ≤ line from by decide)
def items8 (k : Nat) : List MV := [.int 3, .str sMaker, .bl true, .non, .ref k, .str [109, 97, 107, 101, 114, 115], .tup [.str sTakes, .ref (k + 1), .int 3], .tup [.str sTakes, .tup [], .bl false]]
def src8 : CE := .lst [(.int 3), (.str [109, 97, 107, 101, 114]), (.bl true), .non, (.lst []), (.str [109, 97, 107, 101, 114, 115]), (.tup [(.str [116, 97, 107, 101, 115]), (.lst []), (.int 3)]), (.tup [(.str [116, 97, 107, 101, 115]), (.tup []), (.bl false)])]
def mem8 (m : Mem) : Mem := m ++ [.lst []] ++ [.lst []] ++ [.lst (items8 m.length)]
theorem src8_ok {n : Nat} {r : Env} : evE dat.T (run dat.T W dat.defs n) src8 r m = .ok (.ref (m.length + 2)) (mem8 m) := by
  have h := e_lst (T := dat.T) (cl := run dat.T W dat.defs n) (r := r) (m := m) (l_cons (e_int (n := 3)) (l_cons (e_str (t := sMaker)) (l_cons (e_bl (t := true)) (l_cons e_non (l_cons (e_lst l_nil (show 0 ≤ line from by decide)) (l_cons (e_str (t := [109, 97, 107, 101, 114, 115])) (l_cons (e_tup (l_cons (e_str (t := sTakes)) (l_cons (e_lst l_nil (show 0 ≤ line from by decide)) (l_one (e_int (n := 3))))) (show 3 ≤ line from by decide)) (l_one (e_tup (l_cons (e_str (t := sTakes)) (l_cons (e_tup l_nil (show 0 ≤ line from by decide)) (l_one (e_bl (t := false))))) (show 3 ≤ line from by decide)))))))))) (show 8 ≤ line from by decide)
  have e1 : (m ++ [MO.lst []]).length = m.length + 1 := by simp
  have e2 : (m ++ [MO.lst []] ++ [MO.lst []]).length = m.length + 2 := by simp
  rw [e1, e2] at h
  exact h
theorem items8_ok {mm : Mem} (k1 : mm[m.length]? = some (.lst [])) (k2 : mm[m.length + 1]? = some (.lst [])) : ∀ x ∈ items8 m.length, Th false mm 2 x := by
  intro x hx
  simp only [items8, List.mem_cons, List.not_mem_nil, or_false] at hx
  rcases hx with rfl | rfl | rfl | rfl | rfl | rfl | rfl | rfl
  · exact th_int
  · exact th_str
  · exact th_bl
  · exact th_non
  · exact ⟨[], k1⟩
  · exact th_str
  · refine th_tup (show 3 ≤ 20000 from by decide) fun y hy => ?_
    simp only [List.mem_cons, List.not_mem_nil, or_false] at hy
    rcases hy with rfl | rfl | rfl
    · exact th_str
    · exact ⟨[], k2⟩
    · exact th_int
  · refine th_tup (show 3 ≤ 20000 from by decide) fun y hy => ?_
    simp only [List.mem_cons, List.not_mem_nil, or_false] at hy
    rcases hy with rfl | rfl | rfl
    · exact th_str
    · exact th_tup (show 0 ≤ 20000 from by decide) fun z hz => by cases hz
    · exact th_bl
def b4 : List CS := [.ifs (.cmp .IsNot (.call 1 [] [(.var 2)]) (.bl false)) [.ret (.bl false)] []]
def b8 : List CS := [.ifs (.not (.call 13 [] [(.call 10 [] [(.var 1), (.var 2)])])) [.ret (.bl false)] []]
def b10 : List CS := [.asg 4 (.call 9 [] [(.var 1), (.int 3)]), .ifs (.cmp .IsNot (.call 1 [0] [(.var 4)]) (.bl true)) [.ret (.bl false)] [], .ifs (.or (.not (.call 13 [] [(.var 4)])) (.or (.not (.call 13 [] [(.call 12 [] [(.var 1), (.var 4)])])) (.not (.call 13 [] [(.lst [(.var 4)])])))) [.ret (.bl false)] []]
theorem body14_eq : body14 = [.asg 1 (.call 6 [] [(.var 0)]), .for_ (.one 2) (.of src4) b4, .for_ (.one 2) (.of src8) b8, .for_ (.one 3) (.rng1 (.int 10)) b10, .ret (.bl true)] := rfl
theorem for_of {r r' : Env} {mm m1 m' : Mem} {e : CE} {v : MV} {i n : Nat} {w : Walked} {b : List CS} (he : evE dat.T (run dat.T W dat.defs n) e r mm = .ok v m1) (hw : walkOf v m1 = some w) (hf : forGo w (fun x r' m' => match (Tg.one i).put x r' with | some r2 => evB dat.T W (run dat.T W dat.defs n) b r2 m' | none => .fail) w.items r m1 = .nx r' m') : evS dat.T W (run dat.T W dat.defs n) (.for_ (.one i) (.of e) b) r mm = .nx r' m' := by
  rw [evS, evI, he, bind_ok, hw]
  exact hf
theorem law_main {zs : List Int} (hz : zs.length ≤ 63) : Asked (run dat.T W dat.defs 300 14) zs := by
  obtain ⟨s, c, M1, e1, hsd⟩ := state_ok (W := W) (n := 298) hz
  show ∃ m', run dat.T W dat.defs (299 + 1) 14 [.ref 0] [.frz (zs.map MV.int)] = .ok (.bl true) m'
  rw [run_of def14 rfl]
  have a1 : evS dat.T W (run dat.T W dat.defs 299) (.asg 1 (.call 6 [] [(.var 0)])) (entry ⟨1, 5, [], body14⟩ [.ref 0]) [.frz (zs.map .int)] = .nx [.val (.ref 0), .val (.ref s), .no, .no, .no] M1 := s_asg (e_call (l_one (e_var rfl)) e1)
  -- four with Terms in them
  let M2 : Mem := M1 ++ [.lst items4]
  obtain ⟨r2, m2, f2, ⟨hr1, hr2⟩, hm2⟩ := for_inv (w := ⟨items4, some M1.length⟩) (body := fun x r' m' => match (Tg.one 2).put x r' with | some r2 => evB dat.T W (run dat.T W dat.defs 299) b4 r2 m' | none => .fail) (I := fun _ r mm => (r.length = 5 ∧ r[1]? = some (.val (.ref s))) ∧ mm = M2)
    (fun _ r mm h => by rw [h.2]; show (match (M1 ++ [MO.lst items4])[M1.length]? with | some (.lst xs) => MV.eqbs xs items4 | some (.frz xs) => MV.eqbs xs items4 | _ => false) = true; rw [getE_new]; exact (MV.eqbs_iff _ _).mpr rfl) items4 0 [.val (.ref 0), .val (.ref s), .no, .no, .no] M2 (fun x hx _ r mm ⟨⟨h1, h2⟩, h3⟩ => by
      obtain ⟨t, k⟩ := items4_ok (m := mm) x hx
      have ek := kind_ok (W := W) (n := 299) (by decide) t
      rw [k] at ek
      have g2 : (r.set 2 (.val x))[2]? = some (.val x) := List.getElem?_set_self (by omega)
      exact ⟨r.set 2 (.val x), mm, (b_skip (e_cmp (e_call (l_one (e_var g2)) ek) e_bl not_same) rfl).trans b_nil, ⟨by rw [List.length_set]; exact h1, by rw [List.getElem?_set_ne (by decide)]; exact h2⟩, h3⟩) ⟨⟨rfl, rfl⟩, rfl⟩
  have ef2 : evS dat.T W (run dat.T W dat.defs 299) (.for_ (.one 2) (.of src4) b4) [.val (.ref 0), .val (.ref s), .no, .no, .no] M1 = .nx r2 M2 := by
    refine for_of (src4_ok (n := 296)) (w := ⟨items4, some M1.length⟩) ?_ (by rw [← hm2]; exact f2)
    show (match (M1 ++ [MO.lst items4])[M1.length]? with | some (.lst xs) => some (Walked.mk xs (some M1.length)) | some (.frz xs) => some (Walked.mk xs (some M1.length)) | _ => none) = _
    rw [getE_new]
  -- eight, great
  have sd2 : Sd M2 s c := hsd.more _
  have sd3 : Sd (mem8 M2) s c := ((sd2.more _).more _).more _
  obtain ⟨ls, lc⟩ := sd2.ls
  have g0 : (mem8 M2)[M2.length]? = some (.lst []) := getE_old (getE_old getE_new)
  have g1 : (mem8 M2)[M2.length + 1]? = some (.lst []) := by
    refine getE_old ?_
    rw [show M2.length + 1 = (M2 ++ [MO.lst []]).length from by simp]
    exact getE_new
  have g2 : (mem8 M2)[M2.length + 2]? = some (.lst (items8 M2.length)) := by
    unfold mem8
    rw [show M2.length + 2 = (M2 ++ [MO.lst []] ++ [MO.lst []]).length from by simp]
    exact getE_new
  obtain ⟨r3, m3, f3, hr3, hr4, l3⟩ := for_inv (w := ⟨items8 M2.length, some (M2.length + 2)⟩) (body := fun x r' m' => match (Tg.one 2).put x r' with | some r2 => evB dat.T W (run dat.T W dat.defs 299) b8 r2 m' | none => .fail) (I := fun _ r mm => r.length = 5 ∧ r[1]? = some (.val (.ref s)) ∧ Left (mem8 M2) mm s c)
    (fun _ r mm h => by
      show (match mm[M2.length + 2]? with | some (.lst xs) => MV.eqbs xs (items8 M2.length) | some (.frz xs) => MV.eqbs xs (items8 M2.length) | _ => false) = true
      rw [h.2.2.old _ (by omega) (by omega), g2]
      exact (MV.eqbs_iff _ _).mpr rfl) (items8 M2.length) 0 r2 (mem8 M2) (fun x hx _ r mm ⟨h1, h2, h3⟩ => by
      have t := items8_ok (m := M2) (mm := mm) (by rw [h3.old _ (by omega) (by omega)]; exact g0) (by rw [h3.old _ (by omega) (by omega)]; exact g1) x hx
      obtain ⟨v, m4, e4, l4, t4⟩ := great_ok (W := W) (n := 296) t h3.st
      have q1 : (r.set 2 (.val x))[1]? = some (.val (.ref s)) := by rw [List.getElem?_set_ne (by decide)]; exact h2
      have q2 : (r.set 2 (.val x))[2]? = some (.val x) := List.getElem?_set_self (by omega)
      exact ⟨r.set 2 (.val x), m4, (b_skip (e_not (e_call (l_one (e_call (l_cons (e_var q1) (l_one (e_var q2))) e4)) (right_ok (W := W) (n := 299) (by decide) t4)) rfl) rfl).trans b_nil, by rw [List.length_set]; exact h1, q1, h3.trans l4⟩) ⟨hr1, hr2, .refl sd3⟩
  have ef3 : evS dat.T W (run dat.T W dat.defs 299) (.for_ (.one 2) (.of src8) b8) r2 M2 = .nx r3 m3 := by
    refine for_of src8_ok (w := ⟨items8 M2.length, some (M2.length + 2)⟩) ?_ f3
    show (match (mem8 M2)[M2.length + 2]? with | some (.lst xs) => some (Walked.mk xs (some (M2.length + 2))) | some (.frz xs) => some (Walked.mk xs (some (M2.length + 2))) | _ => none) = _
    rw [g2]
  -- ten turns
  obtain ⟨r4, m4, f4, hr5, hr6, hsd4⟩ := for_inv (w := ⟨rng 0 10, none⟩) (body := fun x r' m' => match (Tg.one 3).put x r' with | some r2 => evB dat.T W (run dat.T W dat.defs 299) b10 r2 m' | none => .fail) (I := fun _ r mm => r.length = 5 ∧ r[1]? = some (.val (.ref s)) ∧ Sd mm s c)
    (fun _ _ _ _ => rfl) (rng 0 10) 0 r3 m3 (fun x _ _ r mm ⟨h1, h2, h3⟩ => by
      obtain ⟨v, m5, e5, l5, k5, i5⟩ := drawn_ok (W := W) 3 (n := 299) (by decide) h3
      obtain ⟨v6, m6, e6, ⟨m7, x7, rfl, l7⟩, t6⟩ := spoilt_ok (W := W) 6 (n := 299) (by decide) k5 l5.st
      have q1 : (r.set 3 (.val x))[1]? = some (.val (.ref s)) := by rw [List.getElem?_set_ne (by decide)]; exact h2
      have q1' : ((r.set 3 (.val x)).set 4 (.val v))[1]? = some (.val (.ref s)) := by rw [List.getElem?_set_ne (by decide)]; exact q1
      have q4 : ((r.set 3 (.val x)).set 4 (.val v))[4]? = some (.val v) := List.getElem?_set_self (by rw [List.length_set]; omega)
      have ek := kind_ok (W := W) (n := 299) (m := m5) (d := 6) (q := false) (by decide) k5.th
      rw [i5] at ek
      have tl : Th false (m7 ++ x7 ++ [.lst [v]]) 0 (.ref (m7 ++ x7).length) := ⟨[v], getE_new⟩
      have eor : evE dat.T (run dat.T W dat.defs 299) (.or (.not (.call 13 [] [(.var 4)])) (.or (.not (.call 13 [] [(.call 12 [] [(.var 1), (.var 4)])])) (.not (.call 13 [] [(.lst [(.var 4)])])))) ((r.set 3 (.val x)).set 4 (.val v)) m5 = .ok (.bl false) (m7 ++ x7 ++ [.lst [v]]) :=
        (e_or_f (e_not (e_call (l_one (e_var q4)) (right_ok (W := W) (n := 299) (d := 6) (by decide) k5.th)) rfl) rfl).trans
          ((e_or_f (e_not (e_call (l_one (e_call (l_cons (e_var q1') (l_one (e_var q4))) e6)) (right_ok (W := W) (n := 299) (by decide) t6)) rfl) rfl).trans
            (e_not (t := true) (e_call (l_one (e_lst (l_one (e_var q4)) (show 1 ≤ line from by decide))) (right_ok (W := W) (n := 299) (d := 0) (by decide) tl)) rfl))
      refine ⟨(r.set 3 (.val x)).set 4 (.val v), m7 ++ x7 ++ [.lst [v]], (b_nx (s_asg (e_call (l_cons (e_var q1) (l_one e_int)) e5))).trans ((b_skip (e_cmp (e_call (ix := [0]) (l_one (e_var q4)) ek) e_bl not_same) rfl).trans ((b_skip eor rfl).trans b_nil)), by rw [List.length_set, List.length_set]; exact h1, q1', (l7.st.more _).more _⟩) ⟨hr3, hr4, l3.st⟩
  have ef4 : evS dat.T W (run dat.T W dat.defs 299) (.for_ (.one 3) (.rng1 (.int 10)) b10) r3 m3 = .nx r4 m4 := by
    rw [evS, evI, e_int, bind_ok]
    exact f4
  have fin : evB dat.T W (run dat.T W dat.defs 299) body14 (entry ⟨1, 5, [], body14⟩ [.ref 0]) [.frz (zs.map .int)] = .rt (.bl true) m4 := by
    rw [body14_eq]
    exact (b_nx a1).trans ((b_nx ef2).trans ((b_nx ef3).trans ((b_nx ef4).trans (b_rt (s_ret e_bl)))))
  show ∃ m', (evB dat.T W (run dat.T W dat.defs 299) body14 (entry ⟨1, 5, [], body14⟩ [.ref 0]) [.frz (zs.map .int)]).out [.frz (zs.map .int)] = .ok (.bl true) m'
  rw [fin]
  show ∃ m', gcV _ _ _ = _
  unfold gcV
  split
  · rw [if_pos (show MV.low _ (.bl true) = true from rfl)]
    exact ⟨_, rfl⟩
  · exact ⟨_, rfl⟩
end
end LW
end Part_V7

section Part_K26E
set_option Elab.async false
set_option linter.all false
set_option maxRecDepth 100000
set_option maxHeartbeats 0
namespace LW
open PySem PySem.Spec PyProof.Rows L2 U
theorem hlaw (zs : List Int) (h : zs.length ≤ 63) : Asked (run dat.T 1000 dat.defs 300 14) zs := law_main h
theorem room : RoomG 300 callerA := ⟨rfl, rfl, by decide, by decide⟩
end LW
open PySem PySem.W PySem.Calls PyProof.Rows
theorem PySem.Challenge.cw_usetally_k26_kinds_holds : PySem.Challenge.rw_usetally_k26_kinds.Holds := by
  w_on; o_law
  refine HandSHeadRun.head_any (r := LW.rowO) (q := view LW.rowO.prog [26]) (H := LW.hk) (ob := LW.ob) (M := 20000) (loose := LW.loose) (d := HandSHeadRun.topDef LW.rowO.prog 26) (kwd := []) LW.ob_eq
    (by kernel_rfl) (fun s => by kernel_rfl) LW.head (by kernel_rfl) (by kernel_rfl) (by kernel_rfl) (by rfl) (by first | assumption | decide +kernel) (by decide +kernel) ⟨rfl, rfl, rfl, rfl, rfl, by decide +kernel⟩ ?hw ?hc
  case hw => w_witness2
  case hc =>
    exact U.end_walk (l := PySem.Challenge.rw_usetally_k26_kinds) (k := 63) (N := 300) (W := 1000) (f := 14) (df := LW.d14) (A := LW.dat) rfl (by decide) (by kernel_rfl) LW.room LW.okD LW.okF LW.okN LW.okC rfl (by kernel_rfl) (by kernel_rfl) LW.bind1 LW.bind2 LW.hlaw
end Part_K26E
